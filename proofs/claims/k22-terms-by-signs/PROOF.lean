import PyProof.Rows.All
import Wide.All
import OpenK.AllK
import Wide.FinOn
import HandS.ForMost
import HandS.Exc
import HandS.IsInst
import HandS.Wide
import HandS.TupAny
import HandS.Conv
import HandS.Deep
import HandS.Property
import HandS.MakeKwOnly
import HandS.SortInts
import HandS.RaiseMore
import HandS.Style
import HandS.Zip
import HandS.CallSlots
import HandS.Defaults
import HandS.HeadHook1
import HandS.HeadHook2
import HandS.HeadHook3
import HandS.HeadHook4
import HandS.HeadEnd
import HandS.ExcIs
import HandS.ExcField
import KE.GoesMore
import PyProof.EnumMake
import PyProof.EnumFor
import HandS.Iter
import HandS.Star
import KE.KExcSuper
import KE.KSuper
import HandS.ExcInit
import KE.KExcIs
import HandS.TryOnly
import HandS.TryMany
import HandS.ClsMeth
import HandS.OwnEq
import PyProof.CallFns
import HandS.FStr
import PyProof.Rows.StrWeight2
import PyProof.Rows.StrSplitJoin
import PyProof.Rows.StrFin3
import HandS.ExcOwn
import KE.GoesSet
import HandS.Strs
import KE.KTupSum
import PyProof.Rows.RuleN_abs
import KE.KOpsOwn
import KE.KStateDown
import HandS.Head0
import HandS.Head1
import HandS.Head2
import PySem.Challenge.RW_countrestarts_k22_terms_by_signs
import KE.KIntText
set_option Elab.async false
set_option linter.all false
set_option maxRecDepth 100000
set_option maxHeartbeats 40000000
set_option autoImplicit false
/-! Pk1: values as trees, the relation between trees and the abstract heap. -/
namespace Pk
open PySem PySem.Spec L2

inductive D where
  | non | bl (b : Bool) | int (i : Int) | str (s : Str)
  | tup (l : List D) | fl (l : List D) | nl (l : List D) | kl (l : List D)
  | obj (c : Nat) (fs : List D) | no (c : Nat) (fs : List D) | ref (n : Nat) | cls (c : Nat) | ty (t : String)
  | sl (lo hi : Option Int)
  deriving Inhabited

/-- objects that may still change: a list, an instance -/
def D.own : D → Bool
  | .nl _ => true
  | .no _ _ => true
  | _ => false
/-- .. that change no more -/
def D.fz : D → D
  | .nl l => .fl l
  | .no c fs => .obj c fs
  | d => d

abbrev Fr := List (Option D)
abbrev Hh := List D

/-- the classes of the text: where they stand, their fields in the order of __init__ -/
structure Tb where
  cad : Nat → Addr
  fld : Nat → List Str

structure Wd where
  F : Hp
  I : List Addr

def Wd.le (w w' : Wd) : Prop := (∀ a o, w.F a = some o → w'.F a = some o) ∧ ∃ r, w'.I = w.I ++ r
theorem Wd.le_refl (w : Wd) : w.le w := ⟨fun _ _ h => h, [], by simp⟩
theorem Wd.le_trans {a b c : Wd} (x : a.le b) (y : b.le c) : a.le c :=
  ⟨fun p o h => y.1 p o (x.1 p o h), by
    obtain ⟨r, e⟩ := x.2
    obtain ⟨q, f⟩ := y.2
    exact ⟨r ++ q, by rw [f, e, List.append_assoc]⟩⟩
theorem Wd.le_at {w w' : Wd} (x : w.le w') {n : Nat} {a : Addr} (h : w.I[n]? = some a) : w'.I[n]? = some a := by
  obtain ⟨r, e⟩ := x.2
  rw [e, List.getElem?_append_left (List.getElem?_eq_some_iff.mp h).1]
  exact h
theorem Wd.le_mem {w w' : Wd} (x : w.le w') {a : Addr} (h : a ∈ w.I) : a ∈ w'.I := by
  obtain ⟨r, e⟩ := x.2
  rw [e]
  exact List.mem_append_left _ h

theorem rd_le {F F' : Hp} (x : ∀ a o, F a = some o → F' a = some o) {a : Addr} {u : HO} (h : Rd F a u) : Rd F' a u := by
  rcases h with h | ⟨o, h⟩
  · exact .inl (x _ _ h)
  · exact .inr ⟨o, x _ _ h⟩
theorem sqL_le {K : PySem.W.Frag} {F F' : Hp} (x : ∀ a o, F a = some o → F' a = some o) {a : Addr} {vs : List V} (h : SqL K F a vs) : SqL K F' a vs := by
  rcases h with h | h
  · exact .inl (rd_le x h)
  · exact .inr h
theorem sqT_le {K : PySem.W.Frag} {F F' : Hp} (x : ∀ a o, F a = some o → F' a = some o) {a : Addr} {vs : List V} (h : SqT K F a vs) : SqT K F' a vs := by
  rcases h with h | h
  · exact .inl (rd_le x h)
  · exact .inr h

/-- a slice's object: both ends, no step -/
def SlO (a : Addr) (lo hi : Option Int) (h : Heap) : Prop := ∃ vl vu, h.IsSliceOf a vl vu .none ∧ IsPart vl lo ∧ IsPart vu hi
mutual
inductive RelD (K : PySem.W.Frag) (T : Tb) (w : Wd) : V → D → Prop where
  | non : RelD K T w .non .non
  | bl (b : Bool) : RelD K T w (.bl b) (.bl b)
  | int (i : Int) : RelD K T w (.int i) (.int i)
  | str (s : Str) : RelD K T w (.str s) (.str s)
  | tup {a : Addr} {vs : List V} {ds : List D} : SqT K w.F a vs → RelDs K T w vs ds → RelD K T w (.ref a) (.tup ds)
  | fl {a : Addr} {vs : List V} {ds : List D} : w.F a = some (.lst vs) → RelDs K T w vs ds → RelD K T w (.ref a) (.fl ds)
  | kl {a : Addr} {vs : List V} {ds : List D} : SqL K w.F a vs → RelDs K T w vs ds → RelD K T w (.ref a) (.kl ds)
  | obj {a dx : Addr} {c : Nat} {vs : List V} {ds : List D} : w.F a = some (.ins (T.cad c) dx ((T.fld c).zip vs)) → RelDs K T w vs ds → RelD K T w (.ref a) (.obj c ds)
  | ref {a : Addr} {n : Nat} : w.I[n]? = some a → RelD K T w (.ref a) (.ref n)
  | cls (c : Nat) : RelD K T w (.ref (T.cad c)) (.cls c)
  | ty (t : String) : RelD K T w (.ty t) (.ty t)
  | sl {a : Addr} {lo hi : Option Int} : w.F a = some (.ext (SlO a lo hi)) → RelD K T w (.ref a) (.sl lo hi)
inductive RelDs (K : PySem.W.Frag) (T : Tb) (w : Wd) : List V → List D → Prop where
  | nil : RelDs K T w [] []
  | cons {v : V} {d : D} {vs : List V} {ds : List D} : RelD K T w v d → RelDs K T w vs ds → RelDs K T w (v :: vs) (d :: ds)
end

section
variable {K : PySem.W.Frag} {T : Tb} {w w' : Wd}
mutual
theorem RelD.mono (x : w.le w') : ∀ {v : V} {d : D}, RelD K T w v d → RelD K T w' v d
  | _, _, .non => .non
  | _, _, .bl b => .bl b
  | _, _, .int i => .int i
  | _, _, .str s => .str s
  | _, _, .tup h t => .tup (sqT_le x.1 h) (RelDs.mono x t)
  | _, _, .fl h t => .fl (x.1 _ _ h) (RelDs.mono x t)
  | _, _, .kl h t => .kl (sqL_le x.1 h) (RelDs.mono x t)
  | _, _, .obj h t => .obj (x.1 _ _ h) (RelDs.mono x t)
  | _, _, .ref h => .ref (Wd.le_at x h)
  | _, _, .cls c => .cls c
  | _, _, .ty t => .ty t
  | _, _, .sl h => .sl (x.1 _ _ h)
theorem RelDs.mono (x : w.le w') : ∀ {vs : List V} {ds : List D}, RelDs K T w vs ds → RelDs K T w' vs ds
  | _, _, .nil => .nil
  | _, _, .cons h t => .cons (RelD.mono x h) (RelDs.mono x t)
end
theorem RelDs.length : ∀ {vs : List V} {ds : List D}, RelDs K T w vs ds → vs.length = ds.length
  | _, _, .nil => rfl
  | _, _, .cons _ t => congrArg Nat.succ (RelDs.length t)
theorem RelDs.get : ∀ {vs : List V} {ds : List D} {i : Nat} {d : D}, RelDs K T w vs ds → ds[i]? = some d → ∃ v, vs[i]? = some v ∧ RelD K T w v d
  | _, _, _, _, .nil, e => by simp at e
  | _, _, 0, _, .cons h _, e => by
    simp at e
    subst e
    exact ⟨_, rfl, h⟩
  | _, _, i + 1, d, .cons _ t, e => by
    obtain ⟨v, h1, h2⟩ := RelDs.get (i := i) (d := d) t (by simpa using e)
    exact ⟨v, by simpa using h1, h2⟩
theorem RelDs.append : ∀ {vs us : List V} {ds es : List D}, RelDs K T w vs ds → RelDs K T w us es → RelDs K T w (vs ++ us) (ds ++ es)
  | _, _, _, _, .nil, t => t
  | _, _, _, _, .cons h r, t => .cons h (RelDs.append r t)
theorem RelDs.drop : ∀ {vs : List V} {ds : List D} (n : Nat), RelDs K T w vs ds → RelDs K T w (vs.drop n) (ds.drop n)
  | _, _, 0, h => h
  | _, _, _ + 1, .nil => .nil
  | _, _, n + 1, .cons _ t => RelDs.drop n t
theorem RelDs.take : ∀ {vs : List V} {ds : List D} (n : Nat), RelDs K T w vs ds → RelDs K T w (vs.take n) (ds.take n)
  | _, _, 0, _ => .nil
  | _, _, _ + 1, .nil => .nil
  | _, _, n + 1, .cons h t => .cons h (RelDs.take n t)
theorem RelDs.set : ∀ {vs : List V} {ds : List D} {v : V} {d : D} (n : Nat), RelDs K T w vs ds → RelD K T w v d → RelDs K T w (vs.set n v) (ds.set n d)
  | _, _, _, _, _, .nil, _ => .nil
  | _, _, _, _, 0, .cons _ t, h => .cons h t
  | _, _, _, _, n + 1, .cons h t, k => .cons h (RelDs.set n t k)
theorem RelDs.ints : ∀ {vs : List V} {is : List Int}, RelDs K T w vs (is.map D.int) → vs = is.map V.int
  | _, [], .nil => rfl
  | _, i :: is, .cons h t => by
    cases h
    rw [RelDs.ints t]
    rfl
end

/-- what a running body may not touch: the entry, and lists that are being made -/
structure Bs where
  w0 : Wd
  H0 : Hp
  P : List (Addr × HO)
  /-- where an __init__'s own instance is: in slot 0, as long as that holds an object of the body's own -/
  me : Option Addr
/-- a callee's start -/
abbrev Bs.of (w : Wd) (H : Hp) : Bs := ⟨w, H, [], none⟩

/-- an object that this body made and nobody else knows -/
structure Own (B : Bs) (w : Wd) (p : Addr) : Prop where
  f : w.F p = none
  i : p ∉ w.I
  e : B.H0 p = none
  p : ∀ q ∈ B.P, q.1 ≠ p

/-- what an object holds -/
inductive OwnR (K : PySem.W.Frag) (T : Tb) (w : Wd) : HO → D → Prop where
  | lst {vs : List V} {ds : List D} : RelDs K T w vs ds → OwnR K T w (.lst vs) (.nl ds)
  | obj {dx : Addr} {c : Nat} {vs : List V} {ds : List D} : RelDs K T w vs ds → OwnR K T w (.ins (T.cad c) dx ((T.fld c).zip vs)) (.no c ds)
theorem OwnR.own {K : PySem.W.Frag} {T : Tb} {w : Wd} {o : HO} {d : D} (x : OwnR K T w o d) : d.own = true := by
  cases x <;> rfl
theorem OwnR.mono {K : PySem.W.Frag} {T : Tb} {w w' : Wd} {o : HO} {d : D} (l : w.le w') (x : OwnR K T w o d) : OwnR K T w' o d := by
  cases x with
  | lst r => exact .lst (r.mono l)
  | obj r => exact .obj (r.mono l)
theorem OwnR.fz {K : PySem.W.Frag} {T : Tb} {w w' : Wd} {o : HO} {d : D} {p : Addr} (l : w.le w') (e : w'.F p = some o) (x : OwnR K T w o d) : RelD K T w' (.ref p) d.fz := by
  cases x with
  | lst r => exact .fl e (r.mono l)
  | obj r => exact .obj e (r.mono l)
theorem relD_own {K : PySem.W.Frag} {T : Tb} {w : Wd} {v : V} {d : D} (r : RelD K T w v d) : d.own = false := by
  cases r <;> rfl
theorem relD_fz {K : PySem.W.Frag} {T : Tb} {w : Wd} {v : V} {d : D} (r : RelD K T w v d) : d.fz = d := by
  cases r <;> rfl
theorem own_not {K : PySem.W.Frag} {T : Tb} {w : Wd} {v : V} {d : D} (o : d.own = true) (r : RelD K T w v d) : False := by
  rw [relD_own r] at o
  cases o
theorem fz_own (d : D) : d.fz.own = false := by
  cases d <;> rfl

inductive SlotR (K : PySem.W.Frag) (T : Tb) (B : Bs) (w : Wd) (H : Hp) : Option V → Option D → Prop where
  | none {v : Option V} : SlotR K T B w H v none
  | val {v : V} {d : D} : RelD K T w v d → SlotR K T B w H (some v) (some d)
  | own {p : Addr} {o : HO} {d : D} : Own B w p → H p = some o → OwnR K T w o d → SlotR K T B w H (some (.ref p)) (some d)

def CelR (K : PySem.W.Frag) (T : Tb) (w : Wd) (H : Hp) (a : Addr) (d : D) : Prop := ∃ o, H a = some o ∧ OwnR K T w o d

/-- slot i holds an object of the frame's own at p -/
def OwnAt (σ : St) (fr : Fr) (i : Nat) (p : Addr) : Prop := σ[i]? = some (some (.ref p)) ∧ ∃ d, fr[i]? = some (some d) ∧ d.own = true

structure Rel (K : PySem.W.Frag) (T : Tb) (B : Bs) (w : Wd) (σ : St) (H : Hp) (fr : Fr) (h : Hh) : Prop where
  le : B.w0.le w
  nF : ∀ a, w.F a ≠ none → B.w0.F a ≠ none ∨ B.H0 a = none
  nI : ∀ a ∈ w.I, a ∈ B.w0.I ∨ B.H0 a = none
  keep : ∀ a o, B.H0 a = some o → a ∉ B.w0.I → H a = some o
  prot : ∀ q ∈ B.P, H q.1 = some q.2 ∧ w.F q.1 = none ∧ q.1 ∉ w.I
  sub : ∀ a o, w.F a = some o → H a = some o
  len : w.I.length = h.length
  nd : w.I.Nodup
  dis : ∀ a ∈ w.I, w.F a = none
  cel : ∀ (n : Nat) a c, w.I[n]? = some a → h[n]? = some c → CelR K T w H a c
  fl : fr.length = σ.length
  sl : ∀ (i : Nat) s d, σ[i]? = some s → fr[i]? = some d → SlotR K T B w H s d
  sep : ∀ i j p, i ≠ j → OwnAt σ fr i p → OwnAt σ fr j p → False
  me : ∀ x d, B.me = some x → fr[0]? = some (some d) → d.own = true → σ[0]? = some (some (.ref x))

section
variable {K : PySem.W.Frag} {T : Tb} {B : Bs} {w w' : Wd} {σ : St} {H H' : Hp} {fr : Fr} {h : Hh}

theorem Rel.nP (R : Rel K T B w σ H fr h) {p : Addr} (np : H p = none) : w.F p = none ∧ p ∉ w.I ∧ (∀ q ∈ B.P, q.1 ≠ p) := by
  refine ⟨?_, fun hm => ?_, fun q hq e => ?_⟩
  · cases e : w.F p with
    | none => rfl
    | some o =>
      have := R.sub p o e
      rw [np] at this
      cases this
  · obtain ⟨n, hn, e⟩ := List.getElem_of_mem hm
    have hl : n < h.length := by rw [← R.len]; exact hn
    obtain ⟨o, q, _⟩ := R.cel n p h[n] (by rw [List.getElem?_eq_getElem hn, e]) (List.getElem?_eq_getElem hl)
    rw [np] at q
    cases q
  · have z := (R.prot q hq).1
    rw [e, np] at z
    cases z
/-- an address of the heap's cells is tracked -/
theorem Rel.iSome (R : Rel K T B w σ H fr h) {a : Addr} (hm : a ∈ w.I) : H a ≠ none := fun np => (R.nP np).2.1 hm
theorem CelR.keep {a : Addr} {c : D} (x : w.le w') (e : H' a = H a) (z : CelR K T w H a c) : CelR K T w' H' a c := by
  obtain ⟨o, q, r⟩ := z
  exact ⟨o, by rw [e]; exact q, r.mono x⟩

/-- THE STEP: the heap grows by objects that nobody has met, the known part grows by some of them; nothing else changes -/
theorem Rel.grow (R : Rel K T B w σ H fr h) (x : w.le w') (eI : w'.I = w.I) (hk : ∀ a o, H a = some o → H' a = some o) (hF : ∀ a o, w'.F a = some o → H' a = some o)
    (hn : ∀ a, w'.F a ≠ none → w.F a ≠ none ∨ H a = none) (he : ∀ a, H a = none → B.H0 a = none ∨ True) : Rel K T B w' σ H' fr h where
  le := Wd.le_trans R.le x
  nF := fun a ha => by
    rcases hn a ha with q | q
    · exact R.nF a q
    · right
      cases e : B.H0 a with
      | none => rfl
      | some o =>
        by_cases hm : a ∈ B.w0.I
        · exact absurd q (R.iSome (Wd.le_mem R.le hm))
        · have := R.keep a o e hm
          rw [q] at this
          cases this
  nI := fun a ha => R.nI a (by rw [← eI]; exact ha)
  keep := fun a o e hm => hk a o (R.keep a o e hm)
  prot := fun q hq => by
    obtain ⟨h1, h2, h3⟩ := R.prot q hq
    refine ⟨hk _ _ h1, ?_, by rw [eI]; exact h3⟩
    cases e : w'.F q.1 with
    | none => rfl
    | some o =>
      rcases hn q.1 (by rw [e]; simp) with z | z
      · exact absurd h2 z
      · rw [h1] at z
        cases z
  sub := hF
  len := by rw [eI]; exact R.len
  nd := by rw [eI]; exact R.nd
  dis := fun a ha => by
    have hm : a ∈ w.I := by rw [← eI]; exact ha
    cases e : w'.F a with
    | none => rfl
    | some o =>
      rcases hn a (by rw [e]; simp) with z | z
      · exact absurd (R.dis a hm) z
      · exact absurd z (R.iSome hm)
  cel := fun n a c e1 e2 => by
    have e1' : w.I[n]? = some a := by rw [← eI]; exact e1
    have z := R.cel n a c e1' e2
    refine CelR.keep x ?_ z
    have hs := R.iSome (List.mem_of_getElem? e1')
    cases q : H a with
    | none => exact absurd q hs
    | some o => exact hk a o q
  fl := R.fl
  sl := fun i s d e1 e2 => by
    have z := R.sl i s d e1 e2
    cases z with
    | none => exact .none
    | val r => exact .val (r.mono x)
    | own o e r =>
      refine .own ⟨?_, by rw [eI]; exact o.i, o.e, o.p⟩ (hk _ _ e) (r.mono x)
      cases q : w'.F _ with
      | none => rfl
      | some u =>
        rcases hn _ (by rw [q]; simp) with z | z
        · exact absurd o.f z
        · rw [e] at z
          cases z
  sep := R.sep
  me := R.me

def Wd.add (w : Wd) (p : Addr) (o : HO) : Wd := ⟨upd w.F p o, w.I⟩
theorem Wd.le_add {p : Addr} {o : HO} (e : w.F p = none) : w.le (w.add p o) :=
  ⟨fun a u h => by
    show upd w.F p o a = some u
    rw [upd_ne (ne_of_none h e)]
    exact h, [], by simp [Wd.add]⟩
/-- a new known object -/
theorem Rel.laid (R : Rel K T B w σ H fr h) {p : Addr} {o : HO} (np : H p = none) : Rel K T B (w.add p o) σ (upd H p o) fr h := by
  refine R.grow (Wd.le_add (R.nP np).1) rfl (fun a u e => ?_) (fun a u e => ?_) (fun a e => ?_) (fun _ _ => .inr trivial)
  · rw [upd_ne (ne_of_none e np)]
    exact e
  · have e' : upd w.F p o a = some u := e
    by_cases ha : a = p
    · subst ha
      rw [upd_same] at e' ⊢
      exact e'
    · rw [upd_ne ha] at e' ⊢
      exact R.sub a u e'
  · have e' : upd w.F p o a ≠ none := e
    by_cases ha : a = p
    · subst ha
      exact .inr np
    · rw [upd_ne ha] at e'
      exact .inl e'
/-- a new object of the body's own -/
theorem Rel.temp (R : Rel K T B w σ H fr h) {p : Addr} {o : HO} (np : H p = none) : Rel K T B w σ (upd H p o) fr h :=
  R.grow (Wd.le_refl w) rfl (fun a u e => by rw [upd_ne (ne_of_none e np)]; exact e) (fun a u e => by rw [upd_ne (ne_of_none (R.sub a u e) np)]; exact R.sub a u e) (fun a e => .inl e) (fun _ _ => .inr trivial)
theorem Rel.own_new (R : Rel K T B w σ H fr h) {p : Addr} (np : H p = none) : Own B w p := by
  obtain ⟨h1, h2, h3⟩ := R.nP np
  refine ⟨h1, h2, ?_, h3⟩
  cases e : B.H0 p with
  | none => rfl
  | some o =>
    by_cases hm : p ∈ B.w0.I
    · exact absurd np (R.iSome (Wd.le_mem R.le hm))
    · have := R.keep p o e hm
      rw [np] at this
      cases this

/-- no slot holds it as a list of its own -/
def Loose (σ : St) (fr : Fr) (p : Addr) : Prop := ∀ i, ¬ OwnAt σ fr i p
theorem Rel.loose_new (R : Rel K T B w σ H fr h) {p : Addr} (np : H p = none) : Loose σ fr p := fun i ⟨e1, d, e2, od⟩ => by
  have z := R.sl i _ _ e1 e2
  cases z with
  | val r => exact own_not od r
  | own o e r =>
    rw [np] at e
    cases e

/-- an own object becomes known -/
theorem Rel.freeze (R : Rel K T B w σ H fr h) {p : Addr} {o : HO} (O : Own B w p) (l : Loose σ fr p) (e : H p = some o) : Rel K T B (w.add p o) σ H fr h where
  le := Wd.le_trans R.le (Wd.le_add O.f)
  nF := fun a ha => by
    have e' : upd w.F p o a ≠ none := ha
    by_cases hp : a = p
    · subst hp
      exact .inr O.e
    · rw [upd_ne hp] at e'
      exact R.nF a e'
  nI := R.nI
  keep := R.keep
  prot := fun q hq => by
    obtain ⟨h1, h2, h3⟩ := R.prot q hq
    refine ⟨h1, ?_, h3⟩
    show upd w.F p o q.1 = none
    rw [upd_ne (O.p q hq)]
    exact h2
  sub := fun a u ha => by
    have e' : upd w.F p o a = some u := ha
    by_cases hp : a = p
    · subst hp
      rw [upd_same] at e'
      rw [← e']
      exact e
    · rw [upd_ne hp] at e'
      exact R.sub a u e'
  len := R.len
  nd := R.nd
  dis := fun a ha => by
    show upd w.F p o a = none
    have hne : a ≠ p := fun z => O.i (by rw [← z]; exact ha)
    rw [upd_ne hne]
    exact R.dis a ha
  cel := fun n a c e1 e2 => CelR.keep (Wd.le_add O.f) rfl (R.cel n a c e1 e2)
  fl := R.fl
  sl := fun i s d e1 e2 => by
    have z := R.sl i s d e1 e2
    cases z with
    | none => exact .none
    | val r => exact .val (r.mono (Wd.le_add O.f))
    | @own q _ _ o' e' r =>
      refine .own ⟨?_, o'.i, o'.e, o'.p⟩ e' (r.mono (Wd.le_add O.f))
      show upd w.F p o q = none
      have hne : q ≠ p := fun z => l i ⟨by rw [← z]; exact e1, _, e2, r.own⟩
      rw [upd_ne hne]
      exact o'.f
  sep := R.sep
  me := R.me

theorem ownAt_set {σ : St} {fr : Fr} {i j : Nat} {s : Option V} {d : Option D} {p : Addr} (hi : i ≠ j) (o : OwnAt (σ.set j s) (fr.set j d) i p) : OwnAt σ fr i p := by
  obtain ⟨e1, dd, e2, od⟩ := o
  rw [List.getElem?_set_ne (Ne.symm hi)] at e1 e2
  exact ⟨e1, dd, e2, od⟩
/-- a slot is stored -/
theorem Rel.set_slot (R : Rel K T B w σ H fr h) {i : Nat} {s : Option V} {d : Option D} (r : SlotR K T B w H s d) (hp : ∀ p d', s = some (.ref p) → d = some d' → d'.own = true → Loose σ fr p) (hm : i = 0 → ∀ d', d = some d' → d'.own = false) : Rel K T B w (σ.set i s) H (fr.set i d) h :=
  { R with
    me := fun x d' bx e od => by
      by_cases hi : i = 0
      · subst hi
        have l2 : 0 < fr.length := by
          have := (List.getElem?_eq_some_iff.mp e).1
          rwa [List.length_set] at this
        rw [List.getElem?_set_self l2] at e
        rw [hm rfl d' (Option.some.inj e)] at od
        cases od
      · rw [List.getElem?_set_ne hi] at e ⊢
        exact R.me x d' bx e od
    fl := by rw [List.length_set, List.length_set]; exact R.fl
    sl := fun j s' d' e1 e2 => by
      by_cases hj : i = j
      · subst hj
        have l1 : i < σ.length := by
          have := (List.getElem?_eq_some_iff.mp e1).1
          rwa [List.length_set] at this
        rw [List.getElem?_set_self l1] at e1
        rw [List.getElem?_set_self (by rw [R.fl]; exact l1)] at e2
        cases e1
        cases e2
        exact r
      · rw [List.getElem?_set_ne hj] at e1 e2
        exact R.sl j s' d' e1 e2
    sep := fun a b p hab o1 o2 => by
      have key : ∀ a b, a ≠ b → a = i → OwnAt (σ.set i s) (fr.set i d) a p → OwnAt (σ.set i s) (fr.set i d) b p → False := fun a b hab ha o1 o2 => by
        subst ha
        have o2' := ownAt_set (Ne.symm hab) o2
        obtain ⟨e1, dd, e2, od⟩ := o1
        have l1 : a < σ.length := by
          have := (List.getElem?_eq_some_iff.mp e1).1
          rwa [List.length_set] at this
        rw [List.getElem?_set_self l1] at e1
        rw [List.getElem?_set_self (by rw [R.fl]; exact l1)] at e2
        cases e1
        cases e2
        exact hp p dd rfl rfl od b o2'
      by_cases ha : a = i
      · exact key a b hab ha o1 o2
      · by_cases hb : b = i
        · exact key b a (Ne.symm hab) hb o2 o1
        · exact R.sep a b p hab (ownAt_set ha o1) (ownAt_set hb o2) }
/-- a slot is forgotten (the frame's variable stays) -/
theorem Rel.drop_slot (R : Rel K T B w σ H fr h) (i : Nat) : Rel K T B w σ H (fr.set i none) h :=
  { R with
    me := fun x d' bx e od => by
      by_cases hi : i = 0
      · subst hi
        have l2 : 0 < fr.length := by
          have := (List.getElem?_eq_some_iff.mp e).1
          rwa [List.length_set] at this
        rw [List.getElem?_set_self l2] at e
        cases e
      · rw [List.getElem?_set_ne hi] at e
        exact R.me x d' bx e od
    fl := by rw [List.length_set]; exact R.fl
    sl := fun j s' d' e1 e2 => by
      by_cases hj : i = j
      · subst hj
        have l2 : i < fr.length := by
          have := (List.getElem?_eq_some_iff.mp e2).1
          rwa [List.length_set] at this
        rw [List.getElem?_set_self l2] at e2
        cases e2
        exact .none
      · rw [List.getElem?_set_ne hj] at e2
        exact R.sl j s' d' e1 e2
    sep := fun a b p hab o1 o2 => by
      have key : ∀ a, OwnAt σ (fr.set i none) a p → OwnAt σ fr a p := fun a o => by
        obtain ⟨e1, dd, e2, od⟩ := o
        by_cases ha : i = a
        · subst ha
          have l2 : i < fr.length := by
            have := (List.getElem?_eq_some_iff.mp e2).1
            rwa [List.length_set] at this
          rw [List.getElem?_set_self l2] at e2
          cases e2
        · rw [List.getElem?_set_ne ha] at e2
          exact ⟨e1, dd, e2, od⟩
      exact R.sep a b p hab (key a o1) (key b o2) }
/-- a slot's own object becomes known -/
theorem Rel.freeze_slot (R : Rel K T B w σ H fr h) {i : Nat} {d : D} (e : fr[i]? = some (some d)) (od : d.own = true) :
    ∃ p o, σ[i]? = some (some (.ref p)) ∧ H p = some o ∧ OwnR K T w o d ∧ w.F p = none ∧ Rel K T B (w.add p o) σ H (fr.set i (some d.fz)) h := by
  have l2 : i < fr.length := (List.getElem?_eq_some_iff.mp e).1
  have l1 : i < σ.length := by rw [← R.fl]; exact l2
  have e1 : σ[i]? = some σ[i] := List.getElem?_eq_getElem l1
  have z := R.sl i _ _ e1 e
  generalize hs : σ[i] = s at z e1
  cases z with
  | val r => exact (own_not od r).elim
  | @own p o _ O eH r =>
    refine ⟨p, o, e1, eH, r, O.f, ?_⟩
    have R1 := R.drop_slot i
    have lo : Loose σ (fr.set i none) p := fun j q => by
      obtain ⟨q1, dq, q2, oq⟩ := q
      by_cases hj : i = j
      · subst hj
        rw [List.getElem?_set_self l2] at q2
        cases q2
      · rw [List.getElem?_set_ne hj] at q2
        exact R.sep i j p hj ⟨e1, d, e, od⟩ ⟨q1, dq, q2, oq⟩
    have R2 := R1.freeze O lo eH
    have R3 := R2.set_slot (i := i) (s := some (.ref p)) (d := some d.fz) (.val (r.fz (Wd.le_add O.f) (by show upd w.F p _ p = _; rw [upd_same]))) (fun _ _ _ q oq => by
      cases q
      rw [fz_own] at oq
      cases oq) (fun _ d' q => by
      cases q
      exact fz_own d)
    rw [List.set_set] at R3
    have es : σ.set i (some (.ref p)) = σ := by
      have := List.set_getElem_self (as := σ) (h := l1)
      rw [hs] at this
      exact this
    rw [es] at R3
    exact R3

theorem nodup_at {α : Type} : ∀ {l : List α} {i j : Nat} {a : α}, l.Nodup → l[i]? = some a → l[j]? = some a → i = j
  | [], _, _, _, _, e, _ => by simp at e
  | b :: l, 0, 0, _, _, _, _ => rfl
  | b :: l, 0, j + 1, a, n, e1, e2 => by
    simp at e1 e2
    subst e1
    exact absurd (List.mem_of_getElem? e2) (List.nodup_cons.mp n).1
  | b :: l, i + 1, 0, a, n, e1, e2 => by
    simp at e1 e2
    subst e2
    exact absurd (List.mem_of_getElem? e1) (List.nodup_cons.mp n).1
  | b :: l, i + 1, j + 1, a, n, e1, e2 => by
    simp at e1 e2
    rw [nodup_at (List.nodup_cons.mp n).2 e1 e2]
/-- an own object changes -/
theorem Rel.change_slot (R : Rel K T B w σ H fr h) {i : Nat} {d d' : D} {p : Addr} {o o' : HO} (e1 : σ[i]? = some (some (.ref p))) (e : fr[i]? = some (some d)) (O : Own B w p) (eH : H p = some o) (od : d.own = true) (r' : OwnR K T w o' d') :
    Rel K T B w σ (upd H p o') (fr.set i (some d')) h := by
  have l2 : i < fr.length := (List.getElem?_eq_some_iff.mp e).1
  have l1 : i < σ.length := by rw [← R.fl]; exact l2
  refine { R with keep := fun a u ha hm => ?_, prot := fun q hq => ?_, sub := fun a u ha => ?_, cel := fun n a c q1 q2 => ?_, fl := by rw [List.length_set]; exact R.fl, sl := fun j s dj q1 q2 => ?_, sep := fun a b q hab o1 o2 => ?_, me := fun x dx bx q od' => ?_ }
  · rw [upd_ne (fun z => by rw [z, O.e] at ha; cases ha)]
    exact R.keep a u ha hm
  · obtain ⟨h1, h2, h3⟩ := R.prot q hq
    exact ⟨by rw [upd_ne (O.p q hq)]; exact h1, h2, h3⟩
  · rw [upd_ne (fun z => by rw [z, O.f] at ha; cases ha)]
    exact R.sub a u ha
  · refine CelR.keep (Wd.le_refl w) ?_ (R.cel n a c q1 q2)
    exact upd_ne (fun z => O.i (z ▸ List.mem_of_getElem? q1))
  · by_cases hj : i = j
    · subst hj
      rw [e1] at q1
      rw [List.getElem?_set_self l2] at q2
      cases q1
      cases q2
      exact .own O upd_same r'
    · rw [List.getElem?_set_ne hj] at q2
      have z := R.sl j s dj q1 q2
      cases z with
      | none => exact .none
      | val r => exact .val r
      | @own q u _ O' eH' rr =>
        refine .own O' ?_ rr
        have hne : q ≠ p := fun z => R.sep i j p hj ⟨e1, d, e, od⟩ ⟨by rw [← z]; exact q1, _, q2, rr.own⟩
        rw [upd_ne hne]
        exact eH'
  · have key : ∀ a, OwnAt σ (fr.set i (some d')) a q → OwnAt σ fr a q := fun a ⟨q1, dq, q2, oq⟩ => by
      by_cases ha : i = a
      · subst ha
        exact ⟨q1, d, e, od⟩
      · rw [List.getElem?_set_ne ha] at q2
        exact ⟨q1, dq, q2, oq⟩
    exact R.sep a b q hab (key a o1) (key b o2)
  · by_cases hi : i = 0
    · subst hi
      exact R.me x d bx e od
    · rw [List.getElem?_set_ne hi] at q
      exact R.me x dx bx q od'
/-- a heap object changes -/
theorem Rel.change_cell (R : Rel K T B w σ H fr h) {n : Nat} {a : Addr} {d d' : D} {o' : HO} (e1 : w.I[n]? = some a) (e : h[n]? = some d) (r' : OwnR K T w o' d') : Rel K T B w σ (upd H a o') fr (h.set n d') := by
  have hm : a ∈ w.I := List.mem_of_getElem? e1
  have lh : n < h.length := (List.getElem?_eq_some_iff.mp e).1
  refine { R with keep := fun b u hb hn => ?_, prot := fun q hq => ?_, sub := fun b u hb => ?_, len := by rw [List.length_set]; exact R.len, cel := fun k b c q1 q2 => ?_, sl := fun j s dj q1 q2 => ?_ }
  · rw [upd_ne (fun z => by
      subst z
      rcases R.nI _ hm with q | q
      · exact hn q
      · rw [q] at hb
        cases hb)]
    exact R.keep b u hb hn
  · obtain ⟨h1, h2, h3⟩ := R.prot q hq
    have hne : q.1 ≠ a := fun z => h3 (by rw [z]; exact hm)
    exact ⟨by rw [upd_ne hne]; exact h1, h2, h3⟩
  · rw [upd_ne (fun z => by rw [z, R.dis a hm] at hb; cases hb)]
    exact R.sub b u hb
  · by_cases hk : n = k
    · subst hk
      rw [e1] at q1
      rw [List.getElem?_set_self lh] at q2
      cases q1
      cases q2
      exact ⟨o', upd_same, r'⟩
    · rw [List.getElem?_set_ne hk] at q2
      refine CelR.keep (Wd.le_refl w) (upd_ne fun z => ?_) (R.cel k b c q1 q2)
      subst z
      exact hk (nodup_at R.nd e1 q1)
  · have z := R.sl j s dj q1 q2
    cases z with
    | none => exact .none
    | val r => exact .val r
    | @own q u _ O' eH' rr =>
      have hne : q ≠ a := fun z => O'.i (by rw [z]; exact hm)
      exact .own O' (by rw [upd_ne hne]; exact eH') rr
/-- an own object goes to the heap's cells -/
theorem Rel.to_cell (R : Rel K T B w σ H fr h) {p : Addr} {o : HO} {d : D} (O : Own B w p) (lo : Loose σ fr p) (e : H p = some o) (r : OwnR K T w o d) : Rel K T B ⟨w.F, w.I ++ [p]⟩ σ H fr (h ++ [d]) := by
  have le : w.le ⟨w.F, w.I ++ [p]⟩ := ⟨fun _ _ q => q, [p], rfl⟩
  refine ⟨Wd.le_trans R.le le, R.nF, fun a ha => ?_, R.keep, fun q hq => ?_, R.sub, ?_, ?_, fun a ha => ?_, fun n a c q1 q2 => ?_, R.fl, fun j s dj q1 q2 => ?_, R.sep, R.me⟩
  · rcases List.mem_append.mp ha with q | q
    · exact R.nI a q
    · rw [List.mem_singleton] at q
      subst q
      exact .inr O.e
  · obtain ⟨h1, h2, h3⟩ := R.prot q hq
    refine ⟨h1, h2, fun z => ?_⟩
    rcases List.mem_append.mp z with y | y
    · exact h3 y
    · rw [List.mem_singleton] at y
      exact O.p q hq y
  · show (w.I ++ [p]).length = (h ++ [d]).length
    rw [List.length_append, List.length_append, R.len]
    rfl
  · show (w.I ++ [p]).Nodup
    rw [List.nodup_append]
    exact ⟨R.nd, by simp, fun a ha b hb => by
      rw [List.mem_singleton] at hb
      subst hb
      exact fun z => O.i (z ▸ ha)⟩
  · rcases List.mem_append.mp ha with q | q
    · exact R.dis a q
    · rw [List.mem_singleton] at q
      subst q
      exact O.f
  · have q1' : (w.I ++ [p])[n]? = some a := q1
    by_cases hn : n < w.I.length
    · rw [List.getElem?_append_left hn] at q1'
      rw [List.getElem?_append_left (by rw [← R.len]; exact hn)] at q2
      exact CelR.keep le rfl (R.cel n a c q1' q2)
    · have hn' : w.I.length ≤ n := Nat.le_of_not_lt hn
      rw [List.getElem?_append_right hn'] at q1'
      rw [List.getElem?_append_right (by rw [← R.len]; exact hn'), ← R.len] at q2
      cases k : n - w.I.length with
      | zero =>
        rw [k] at q1' q2
        cases q1'
        cases q2
        exact ⟨o, e, r.mono le⟩
      | succ m =>
        rw [k] at q1'
        simp at q1'
  · have z := R.sl j s dj q1 q2
    cases z with
    | none => exact .none
    | val r => exact .val (r.mono le)
    | @own q u _ O' eH' rr =>
      refine .own ⟨O'.f, fun z => ?_, O'.e, O'.p⟩ eH' (rr.mono le)
      rcases List.mem_append.mp z with y | y
      · exact O'.i y
      · rw [List.mem_singleton] at y
        exact lo j ⟨by rw [← y]; exact q1, _, q2, rr.own⟩

/-! ### calls -/
/-- what a callee starts with -/
theorem noSlot {i : Nat} {p : Addr} : ¬ OwnAt [] [] i p := fun ⟨q, _⟩ => by simp at q
theorem Rel.enter (R : Rel K T B w σ H fr h) : Rel K T (Bs.of w H) w [] H [] h where
  le := Wd.le_refl w
  nF := fun _ q => .inl q
  nI := fun _ q => .inl q
  keep := fun _ _ q _ => q
  prot := fun _ q => by cases q
  sub := R.sub
  len := R.len
  nd := R.nd
  dis := R.dis
  cel := R.cel
  fl := rfl
  sl := fun _ _ _ q => by simp at q
  sep := fun _ _ _ _ q => (noSlot q).elim
  me := fun _ _ _ q _ => by simp at q
theorem Rel.unframe (R : Rel K T B w σ H fr h) : Rel K T B w [] H [] h where
  le := R.le
  nF := R.nF
  nI := R.nI
  keep := R.keep
  prot := R.prot
  sub := R.sub
  len := R.len
  nd := R.nd
  dis := R.dis
  cel := R.cel
  fl := rfl
  sl := fun _ _ _ q => by simp at q
  sep := fun _ _ _ _ q => (noSlot q).elim
  me := fun _ _ _ q _ => by simp at q
/-- behind a call -/
theorem Rel.back {h' : Hh} (R : Rel K T B w σ H fr h) (x : w.le w') (C : Rel K T (Bs.of w H) w' [] H' [] h') : Rel K T B w' σ H' fr h' where
  le := Wd.le_trans R.le x
  nF := fun a ha => by
    rcases C.nF a ha with q | q
    · exact R.nF a q
    · exact .inr (R.own_new q).e
  nI := fun a ha => by
    rcases C.nI a ha with q | q
    · exact R.nI a q
    · exact .inr (R.own_new q).e
  keep := fun a o e hm => C.keep a o (R.keep a o e hm) fun z => by
    rcases R.nI a z with q | q
    · exact hm q
    · rw [q] at e
      cases e
  prot := fun q hq => by
    obtain ⟨h1, h2, h3⟩ := R.prot q hq
    refine ⟨C.keep _ _ h1 h3, ?_, fun z => ?_⟩
    · cases e : w'.F q.1 with
      | none => rfl
      | some o =>
        rcases C.nF q.1 (by rw [e]; simp) with y | y
        · exact absurd h2 y
        · have y' : H q.1 = none := y
          rw [h1] at y'
          cases y'
    · rcases C.nI _ z with y | y
      · exact h3 y
      · have y' : H q.1 = none := y
        rw [h1] at y'
        cases y'
  sub := C.sub
  len := C.len
  nd := C.nd
  dis := C.dis
  cel := C.cel
  fl := R.fl
  sl := fun i s d e1 e2 => by
    have z := R.sl i s d e1 e2
    cases z with
    | none => exact .none
    | val r => exact .val (r.mono x)
    | @own p o _ O eH rr =>
      refine .own ⟨?_, fun z => ?_, O.e, O.p⟩ (C.keep _ _ eH O.i) (rr.mono x)
      · cases e : w'.F p with
        | none => rfl
        | some o =>
          rcases C.nF p (by rw [e]; simp) with y | y
          · exact absurd O.f y
          · have y' : H p = none := y
            rw [eH] at y'
            cases y'
      · rcases C.nI _ z with y | y
        · exact O.i y
        · have y' : H p = none := y
          rw [eH] at y'
          cases y'
  sep := R.sep
  me := R.me
end
end Pk

/-! Pk2: computations over trees; what an expression simulates. -/
namespace Pk
open PySem PySem.Spec L2

structure Exn where
  c : Nat
  fs : List D
inductive R (α : Type) where
  | ok (a : α) (fr : Fr) (h : Hh)
  | exc (x : Exn) (fr : Fr) (h : Hh)
  | err
abbrev M (α : Type) := Fr → Hh → R α
def M.ret {α : Type} (a : α) : M α := fun fr h => .ok a fr h
def M.bind {α β : Type} (m : M α) (f : α → M β) : M β := fun fr h => match m fr h with
  | .ok a fr h => f a fr h
  | .exc x fr h => .exc x fr h
  | .err => .err
def M.opt {α : Type} (o : Option α) : M α := fun fr h => match o with
  | some a => .ok a fr h
  | none => .err
@[simp] theorem M.bind_ret {α β : Type} (a : α) (f : α → M β) : (M.ret a).bind f = f a := rfl
@[simp] theorem M.ret_ap {α : Type} (a : α) (fr : Fr) (h : Hh) : M.ret a fr h = .ok a fr h := rfl
@[simp] theorem M.opt_some {α : Type} (a : α) (fr : Fr) (h : Hh) : M.opt (some a) fr h = .ok a fr h := rfl
@[simp] theorem M.opt_none {α : Type} (fr : Fr) (h : Hh) : M.opt (none : Option α) fr h = .err := rfl
theorem M.bind_ok {α β : Type} {m : M α} {f : α → M β} {fr fr1 : Fr} {h h1 : Hh} {a : α} (e : m fr h = .ok a fr1 h1) : m.bind f fr h = f a fr1 h1 := by
  unfold M.bind
  rw [e]
theorem M.bind_exc {α β : Type} {m : M α} {f : α → M β} {fr fr1 : Fr} {h h1 : Hh} {x : Exn} (e : m fr h = .exc x fr1 h1) : m.bind f fr h = .exc x fr1 h1 := by
  unfold M.bind
  rw [e]
theorem M.bind_err {α β : Type} {m : M α} {f : α → M β} {fr : Fr} {h : Hh} (e : m fr h = .err) : m.bind f fr h = .err := by
  unfold M.bind
  rw [e]

/-- an exception's fields stand in the known part -/
def ExcR (K : PySem.W.Frag) (T : Tb) (w : Wd) (x : Exn) (cls : Value) (dd : Option Addr) : Prop :=
  cls = .ref (T.cad x.c) ∧ ((x.fs = [] ∧ dd = none) ∨ ∃ d vs, dd = some d ∧ w.F d = some (.xd ((T.fld x.c).zip vs)) ∧ RelDs K T w vs x.fs)

section
variable {α β : Type}
/-- what a result asks of what follows -/
def Post (K : PySem.W.Frag) (T : Tb) (B : Bs) (W : WX) (VR : Wd → Hp → Fr → β → α → Prop) (w : Wd) (σ : L2.St) (r : R α) (Q : β → Hp → Prop) : Prop :=
  match r with
  | .ok d fr h => ∀ w' H' v, w.le w' → Rel K T B w' σ H' fr h → VR w' H' fr v d → Q v H'
  | .exc x fr h => ∀ w' H' cls dd, w.le w' → Rel K T B w' σ H' fr h → ExcR K T w' x cls dd → W cls dd σ H'
  | .err => False
end
abbrev VRel (β α : Type) := PySem.W.Frag → Tb → Bs → L2.St → Wd → Hp → Fr → β → α → Prop
/-- a value, known -/
def vV : VRel V D := fun K T _ _ w _ _ v d => RelD K T w v d
/-- a value, or a new object of the body's own -/
def vE : VRel V D := fun K T B σ w H fr v d => RelD K T w v d ∨ ∃ p o, v = .ref p ∧ Own B w p ∧ Loose σ fr p ∧ H p = some o ∧ OwnR K T w o d
/-- a value, or what an object holds right now -/
def vO : VRel V D := fun K T _ _ w H _ v d => RelD K T w v d ∨ ∃ p o, v = .ref p ∧ H p = some o ∧ OwnR K T w o d
def vB : VRel Bool Bool := fun _ _ _ _ _ _ _ b c => b = c
def vA : VRel (List V) (List D) := fun K T _ _ w _ _ vs ds => RelDs K T w vs ds

def Sim {α β : Type} (run : L2.St → Hp → (β → Hp → Prop) → Prop) (K : PySem.W.Frag) (T : Tb) (W : WX) (VR : VRel β α) (m : M α) : Prop :=
  ∀ (B : Bs) (w : Wd) (σ : L2.St) (H : Hp) (fr : Fr) (h : Hh) (Q : β → Hp → Prop), Rel K T B w σ H fr h → Post K T B W (VR K T B σ) w σ (m fr h) Q → run σ H Q

section
variable {α β γ δ : Type} {K : PySem.W.Frag} {T : Tb} {B : Bs} {W : WX} {w w' : Wd} {σ : L2.St} {H : Hp}
theorem Post.le {VR : Wd → Hp → Fr → β → α → Prop} {r : R α} {Q : β → Hp → Prop} (x : w.le w') (p : Post K T B W VR w σ r Q) : Post K T B W VR w' σ r Q := by
  cases r with
  | ok d fr h => exact fun w2 H2 v y => p w2 H2 v (Wd.le_trans x y)
  | exc e fr h => exact fun w2 H2 c d y => p w2 H2 c d (Wd.le_trans x y)
  | err => exact p
theorem Post.imp {VR : Wd → Hp → Fr → β → α → Prop} {r : R α} {Q Q' : β → Hp → Prop} (p : Post K T B W VR w σ r Q) (hq : ∀ v H, Q v H → Q' v H) : Post K T B W VR w σ r Q' := by
  cases r with
  | ok d fr h => exact fun w2 H2 v y r z => hq _ _ (p w2 H2 v y r z)
  | exc e fr h => exact p
  | err => exact p
/-- the first part of a chain -/
theorem Post.bind {VR : Wd → Hp → Fr → γ → δ → Prop} {VR' : Wd → Hp → Fr → β → α → Prop} {m : M δ} {f : δ → M α} {fr : Fr} {h : Hh} {Q : β → Hp → Prop} {Q' : γ → Hp → Prop} (p : Post K T B W VR' w σ (m.bind f fr h) Q)
    (k : ∀ d fr1 h1 w1 H1 v, m fr h = .ok d fr1 h1 → w.le w1 → Rel K T B w1 σ H1 fr1 h1 → VR w1 H1 fr1 v d → Post K T B W VR' w1 σ (f d fr1 h1) Q → Q' v H1) : Post K T B W VR w σ (m fr h) Q' := by
  cases e : m fr h with
  | ok d fr1 h1 =>
    rw [M.bind_ok e] at p
    exact fun w1 H1 v x r z => k d fr1 h1 w1 H1 v e x r z (p.le x)
  | exc y fr1 h1 =>
    rw [M.bind_exc e] at p
    exact p
  | err =>
    rw [M.bind_err e] at p
    exact p
theorem Sim.bind {run1 : L2.St → Hp → (γ → Hp → Prop) → Prop} {run2 : γ → L2.St → Hp → (β → Hp → Prop) → Prop} {VR1 : VRel γ δ} {VR : VRel β α} {m : M δ} {f : δ → M α} (s1 : Sim run1 K T W VR1 m)
    (s2 : ∀ B w σ H fr h d v Q, Rel K T B w σ H fr h → VR1 K T B σ w H fr v d → Post K T B W (VR K T B σ) w σ (f d fr h) Q → run2 v σ H Q) :
    Sim (fun σ H Q => run1 σ H fun v H1 => run2 v σ H1 Q) K T W VR (m.bind f) := fun B w σ H fr h Q r p =>
  s1 B w σ H fr h _ r (p.bind fun d fr1 h1 w1 H1 v e x r1 z p1 => s2 B w1 σ H1 fr1 h1 d v Q r1 z p1)
end

/-! ### the largest readings -/
structure WE (X : Cx) (e : Expr) (σ : L2.St) (H : Hp) (Q : VK) : Prop where
  go : ∀ pins s, Inv X pins σ H s → wpAny (model X.prog X.w) X.A (eval e X.env) (EP X pins σ Q) X.xe s
structure WT (X : Cx) (e : Expr) (σ : L2.St) (H : Hp) (Q : Bool → Hp → Prop) : Prop where
  go : ∀ pins s, Inv X pins σ H s → wpAny (model X.prog X.w) X.A (isTrue e X.env (eval e X.env)) (TP X pins σ Q) X.xe s
structure WW (X : Cx) (e : Expr) (σ : L2.St) (H : Hp) (Q : Bool → Hp → Prop) : Prop where
  go : ∀ whole pins s, Inv X pins σ H s → wpAny (model X.prog X.w) X.A (isTrue e X.env whole) (TP X pins σ Q) X.xe s
structure WA (X : Cx) (es : List Expr) (σ : L2.St) (H : Hp) (Q : List V → Hp → Prop) : Prop where
  go : ∀ pos pins s, Inv X pins σ H s → wpAny (model X.prog X.w) X.A (spliced (backTo pos (starEach es X.env))) (AP X pins σ Q) X.xe s
structure WS (X : Cx) (st : Stmt) (D : Ends) (σ : L2.St) (H : Hp) : Prop where
  go : ∀ pins s, Inv X pins σ H s → wpAny (model X.prog X.w) X.A (exec st X.env) (SP X pins D) X.xe s
structure WSs (X : Cx) (st : List Stmt) (D : Ends) (σ : L2.St) (H : Hp) : Prop where
  go : ∀ pins s, Inv X pins σ H s → wpAny (model X.prog X.w) X.A (execs st X.env) (SP X pins D) X.xe s
def rM (X : Cx) (f : Value → Value → Sem Value) : R2 := fun x y H Q => ∀ pins s σ v u, Inv X pins σ H s → RelV x v → RelV y u → wpAny (model X.prog X.w) X.A (f v u) (EP X pins σ Q) X.xe s
def uM (X : Cx) (f : Value → Sem Value) : V → Hp → VK → Prop := fun x H Q => ∀ pins s σ v, Inv X pins σ H s → RelV x v → wpAny (model X.prog X.w) X.A (f v) (EP X pins σ Q) X.xe s
def cM (X : Cx) (f : Value) : List V → Hp → VK → Prop := fun xs H Q => ∀ pins s σ us, Inv X pins σ H s → Vals xs us → wpAny (model X.prog X.w) X.A (call f us) (EP X pins σ Q) X.xe s
section
variable {X : Cx} {e : Expr} {es : List Expr} {st : Stmt} {sts : List Stmt}
theorem pe_max : PE X e (WE X e) := ⟨fun pins s σ H Q I h => h.go pins s I⟩
theorem pt_max : PT X e (WT X e) := ⟨fun pins s σ H Q I h => h.go pins s I⟩
theorem pw_max : PW X e (WW X e) := ⟨fun wh pins s σ H Q I h => h.go wh pins s I⟩
theorem pa_max : PA X es (WA X es) := ⟨fun pos pins s σ H Q I h => h.go pos pins s I⟩
theorem ps_max : PS X st (WS X st) := ⟨fun pins s σ H D I h => h.go pins s I⟩
theorem pss_max : PSs X sts (WSs X sts) := ⟨fun pins s σ H D I h => h.go pins s I⟩
theorem pe_we {t : TE} (p : PE X e t) {σ : L2.St} {H : Hp} {Q : VK} (h : t σ H Q) : WE X e σ H Q := ⟨fun pins s I => p.run pins s σ H Q I h⟩
theorem pt_wt {t : TT} (p : PT X e t) {σ : L2.St} {H : Hp} {Q : Bool → Hp → Prop} (h : t σ H Q) : WT X e σ H Q := ⟨fun pins s I => p.run pins s σ H Q I h⟩
theorem pw_ww {t : TT} (p : PW X e t) {σ : L2.St} {H : Hp} {Q : Bool → Hp → Prop} (h : t σ H Q) : WW X e σ H Q := ⟨fun wh pins s I => p.run wh pins s σ H Q I h⟩
theorem pa_wa {t : TA} (p : PA X es t) {σ : L2.St} {H : Hp} {Q : List V → Hp → Prop} (h : t σ H Q) : WA X es σ H Q := ⟨fun pos pins s I => p.run pos pins s σ H Q I h⟩
theorem ps_ws {t : TS} (p : PS X st t) {D : Ends} {σ : L2.St} {H : Hp} (h : t D σ H) : WS X st D σ H := ⟨fun pins s I => p.run pins s σ H D I h⟩
theorem pss_wss {t : TS} (p : PSs X sts t) {D : Ends} {σ : L2.St} {H : Hp} (h : t D σ H) : WSs X sts D σ H := ⟨fun pins s I => p.run pins s σ H D I h⟩
theorem op_max {f : Value → Value → Sem Value} : OpR X f (rM X f) := fun pins s σ H x y v u Q I rx ry h => h pins s σ v u I rx ry
theorem op_rm {f : Value → Value → Sem Value} {r : R2} (o : OpR X f r) {x y : V} {H : Hp} {Q : VK} (h : r x y H Q) : rM X f x y H Q := fun pins s σ v u I rx ry => o pins s σ H x y v u Q I rx ry h
theorem un_max {f : Value → Sem Value} : UnR X f (uM X f) := fun pins s σ H x v Q I rx h => h pins s σ v I rx
theorem un_um {f : Value → Sem Value} {r : V → Hp → VK → Prop} (o : UnR X f r) {x : V} {H : Hp} {Q : VK} (h : r x H Q) : uM X f x H Q := fun pins s σ v I rx => o pins s σ H x v Q I rx h
theorem call_max {f : Value} : CallR X f (cM X f) := fun pins s σ H xs us Q I r h => h pins s σ us I r
theorem call_cm {f : Value} {r : List V → Hp → VK → Prop} (o : CallR X f r) {xs : List V} {H : Hp} {Q : VK} (h : r xs H Q) : cM X f xs H Q := fun pins s σ us I rr => o pins s σ H xs us Q I rr h
end

abbrev SimE (X : Cx) (T : Tb) (W : WX) (e : Expr) (m : M D) : Prop := Sim (WE X e) X.K T W vE m
abbrev SimV (X : Cx) (T : Tb) (W : WX) (e : Expr) (m : M D) : Prop := Sim (WE X e) X.K T W vV m
abbrev SimT (X : Cx) (T : Tb) (W : WX) (e : Expr) (m : M Bool) : Prop := Sim (WT X e) X.K T W vB m
abbrev SimW (X : Cx) (T : Tb) (W : WX) (e : Expr) (m : M Bool) : Prop := Sim (WW X e) X.K T W vB m
abbrev SimA (X : Cx) (T : Tb) (W : WX) (es : List Expr) (m : M (List D)) : Prop := Sim (WA X es) X.K T W vA m

abbrev SimO (X : Cx) (T : Tb) (W : WX) (e : Expr) (m : M D) : Prop := Sim (WE X e) X.K T W vO m

/-! ### values -/
def mFz (m : M D) : M D := m.bind fun d => M.ret d.fz
def mC (d : D) : M D := M.ret d
def mVar (i : Nat) : M D := fun fr h => match fr[i]? with
  | some (some d) => if d.own then .ok d.fz (fr.set i (some d.fz)) h else .ok d fr h
  | _ => .err
/-- the slot's own object leaves with the def -/
def mMove (i : Nat) : M D := fun fr h => match fr[i]? with
  | some (some d) => .ok d (fr.set i none) h
  | _ => .err
/-- what the slot holds right now -/
def mBor (i : Nat) : M D := fun fr h => match fr[i]? with
  | some (some d) => .ok d fr h
  | _ => .err
section
variable {X : Cx} {T : Tb} {W : WX} {e a b c : Expr} {es : List Expr} {m ma mb mc : M D} {pos : Pos}

theorem sim_imp {α β : Type} {run : L2.St → Hp → (β → Hp → Prop) → Prop} {K : PySem.W.Frag} {VR VR' : VRel β α} {m : M α} (s : Sim run K T W VR m) (h : ∀ B σ w H fr v d, VR K T B σ w H fr v d → VR' K T B σ w H fr v d) : Sim run K T W VR' m :=
  fun B w σ H fr hh Q r p => s B w σ H fr hh Q r (by
    cases q : m fr hh with
    | ok d fr1 h1 =>
      rw [q] at p
      exact fun w1 H1 v x r1 z => p w1 H1 v x r1 (h _ _ _ _ _ _ _ z)
    | exc y fr1 h1 => rw [q] at p; exact p
    | err => rw [q] at p; exact p)
theorem se_of (s : SimV X T W e m) : SimE X T W e m := sim_imp s fun _ _ _ _ _ _ _ z => .inl z
theorem so_of (s : SimV X T W e m) : SimO X T W e m := sim_imp s fun _ _ _ _ _ _ _ z => .inl z
theorem so_ofE (s : SimE X T W e m) : SimO X T W e m := sim_imp s fun _ _ _ _ _ _ _ z => by
  rcases z with z | ⟨p, o, e1, _, _, e2, r⟩
  · exact .inl z
  · exact .inr ⟨p, o, e1, e2, r⟩
/-- a new object that is kept as it is -/
theorem sv_of (s : SimE X T W e m) : SimV X T W e (mFz m) := fun B w σ H fr h Q r p => s B w σ H fr h Q r (by
  refine Post.bind (VR := vE X.K T B σ) p fun d fr1 h1 w1 H1 v eq x r1 z p1 => ?_
  rcases z with z | ⟨p', o, rfl, O, lo, eH, rd⟩
  · rw [relD_fz z] at p1
    exact p1 w1 H1 v (Wd.le_refl _) r1 z
  · exact p1 (w1.add p' o) H1 (.ref p') (Wd.le_add O.f) (r1.freeze O lo eH) (rd.fz (Wd.le_add O.f) (by show upd w1.F p' _ p' = _; rw [upd_same])))
theorem sv_int {i : Int} {j : Nat} : SimV X T W (.Constant (.int i) j pos) (mC (.int i)) := fun B w σ H fr h Q r p => pe_we pe_int (p w H _ (Wd.le_refl _) r (.int i))
theorem sv_bl {i : Bool} {j : Nat} : SimV X T W (.Constant (.bool i) j pos) (mC (.bl i)) := fun B w σ H fr h Q r p => pe_we pe_bl (p w H _ (Wd.le_refl _) r (.bl i))
theorem sv_non {j : Nat} : SimV X T W (.Constant .none j pos) (mC .non) := fun B w σ H fr h Q r p => pe_we pe_non (p w H _ (Wd.le_refl _) r .non)
theorem sv_str {i : Str} {j : Nat} : SimV X T W (.Constant (.str i) j pos) (mC (.str i)) := fun B w σ H fr h Q r p => pe_we pe_str (p w H _ (Wd.le_refl _) r (.str i))
theorem slot_some {K : PySem.W.Frag} {T : Tb} {B : Bs} {w : Wd} {σ : L2.St} {H : Hp} {fr : Fr} {h : Hh} (R : Rel K T B w σ H fr h) {i : Nat} {d : D} (e : fr[i]? = some (some d)) :
    ∃ v, σ[i]? = some (some v) ∧ SlotR K T B w H (some v) (some d) := by
  have l2 : i < fr.length := (List.getElem?_eq_some_iff.mp e).1
  have l1 : i < σ.length := by rw [← R.fl]; exact l2
  have e1 : σ[i]? = some σ[i] := List.getElem?_eq_getElem l1
  have z := R.sl i _ _ e1 e
  generalize σ[i] = s at z e1
  cases z with
  | val r => exact ⟨_, e1, .val r⟩
  | own O eH r => exact ⟨_, e1, .own O eH r⟩
theorem sv_var (i : Nat) {x : Str} (hN : X.N[i]? = some x := by rfl) (hv : Vis X.env.scope x := by first | exact Or.inl rfl | exact Or.inr (Or.inl rfl) | exact Or.inr (Or.inr rfl)) (hd : (x == ("__debug__" : Str)) = false := by decide)
    (hcd : (x == ("__classdict__" : Str)) = false := by decide) : SimV X T W (.Name x pos) (mVar i) := fun B w σ H fr h Q r p => pe_we (pe_var hN hv hd hcd) (by
  unfold mVar at p
  split at p
  · rename_i d e1
    cases od : d.own with
    | true =>
      rw [od] at p
      obtain ⟨q, o, e2, eH, rd, nf, r1⟩ := r.freeze_slot e1 od
      exact ⟨_, e2, p (w.add q o) H (.ref q) (Wd.le_add nf) r1 (rd.fz (Wd.le_add nf) (by show upd w.F q _ q = _; rw [upd_same]))⟩
    | false =>
      rw [od] at p
      obtain ⟨v, e2, z⟩ := slot_some r e1
      cases z with
      | val rd => exact ⟨v, e2, p w H v (Wd.le_refl _) r rd⟩
      | own O eH rd =>
        rw [rd.own] at od
        cases od
  · exact p.elim)
theorem so_var (i : Nat) {x : Str} (hN : X.N[i]? = some x := by rfl) (hv : Vis X.env.scope x := by first | exact Or.inl rfl | exact Or.inr (Or.inl rfl) | exact Or.inr (Or.inr rfl)) (hd : (x == ("__debug__" : Str)) = false := by decide)
    (hcd : (x == ("__classdict__" : Str)) = false := by decide) : SimO X T W (.Name x pos) (mBor i) := fun B w σ H fr h Q r p => pe_we (pe_var hN hv hd hcd) (by
  unfold mBor at p
  split at p
  · rename_i d e1
    obtain ⟨v, e2, z⟩ := slot_some r e1
    refine ⟨v, e2, p w H v (Wd.le_refl _) r ?_⟩
    cases z with
    | val rd => exact .inl rd
    | own O eH rd => exact .inr ⟨_, _, rfl, eH, rd⟩
  · exact p.elim)
theorem se_move (i : Nat) {x : Str} (hN : X.N[i]? = some x := by rfl) (hv : Vis X.env.scope x := by first | exact Or.inl rfl | exact Or.inr (Or.inl rfl) | exact Or.inr (Or.inr rfl)) (hd : (x == ("__debug__" : Str)) = false := by decide)
    (hcd : (x == ("__classdict__" : Str)) = false := by decide) : SimE X T W (.Name x pos) (mMove i) := fun B w σ H fr h Q r p => pe_we (pe_var hN hv hd hcd) (by
  unfold mMove at p
  split at p
  · rename_i d e1
    obtain ⟨v, e2, z⟩ := slot_some r e1
    refine ⟨v, e2, p w H v (Wd.le_refl _) (r.drop_slot i) ?_⟩
    cases z with
    | val rd => exact .inl rd
    | @own q o _ O eH rd =>
      refine .inr ⟨q, o, rfl, O, fun j z => ?_, eH, rd⟩
      obtain ⟨q1, dq, q2, oq⟩ := z
      by_cases hj : i = j
      · subst hj
        rw [List.getElem?_set_self (List.getElem?_eq_some_iff.mp e1).1] at q2
        cases q2
      · rw [List.getElem?_set_ne hj] at q2
        exact r.sep i j q hj ⟨e2, d, e1, rd.own⟩ ⟨q1, dq, q2, oq⟩
  · exact p.elim)

/-! ### what an object holds -/
def big : Nat := 100000
theorem big_line {n : Nat} (h : n ≤ big) : n ≤ sizeLine := Nat.le_trans h (by decide)
def D.der (h : Hh) : D → D
  | .ref n => (h[n]?).getD .non
  | d => d
/-- the items of a list or a tuple -/
def D.its (h : Hh) (d : D) : Option (List D) := match d.der h with
  | .tup l => some l
  | .fl l => some l
  | .kl l => some l
  | .nl l => some l
  | _ => none
theorem its_rel {K : PySem.W.Frag} {T : Tb} {B : Bs} {w : Wd} {σ : L2.St} {H : Hp} {fr : Fr} {h : Hh} {v : V} {d : D} {ds : List D} (R : Rel K T B w σ H fr h) (z : vO K T B σ w H fr v d) (e : d.its h = some ds) :
    ∃ p vs, v = .ref p ∧ RelDs K T w vs ds ∧ (SqL K H p vs ∨ SqT K H p vs) := by
  rcases z with z | ⟨p, o, rfl, eH, z⟩
  · cases z with
    | tup s r =>
      have e' : some _ = some ds := e
      cases e'
      exact ⟨_, _, rfl, r, .inr (sqT_le R.sub s)⟩
    | fl s r =>
      have e' : some _ = some ds := e
      cases e'
      exact ⟨_, _, rfl, r, .inl (SqL.of (R.sub _ _ s))⟩
    | kl s r =>
      have e' : some _ = some ds := e
      cases e'
      exact ⟨_, _, rfl, r, .inl (sqL_le R.sub s)⟩
    | @ref a n s =>
      have ln : n < h.length := by
        rw [← R.len]
        exact (List.getElem?_eq_some_iff.mp s).1
      obtain ⟨o, q, rr⟩ := R.cel n a h[n] s (List.getElem?_eq_getElem ln)
      have e0 : (h[n]?).getD .non = h[n] := by rw [List.getElem?_eq_getElem ln]; rfl
      unfold D.its D.der at e
      dsimp only at e
      rw [e0] at e
      generalize h[n] = c at rr e
      cases rr with
      | lst r =>
        have e' : some _ = some ds := e
        cases e'
        exact ⟨_, _, rfl, r, .inl (SqL.of q)⟩
      | obj r => cases e
    | non => cases e
    | bl _ => cases e
    | int _ => cases e
    | str _ => cases e
    | obj _ _ => cases e
    | cls _ => cases e
    | ty _ => cases e
    | sl _ => cases e
  · cases z with
    | lst r =>
      have e' : some _ = some ds := e
      cases e'
      exact ⟨_, _, rfl, r, .inl (SqL.of eH)⟩
    | obj r => cases e

/-! ### two operands -/
def mOp {α : Type} (f : Hh → D → D → Option α) (ma mb : M D) : M α := ma.bind fun x => mb.bind fun y fr h => M.opt (f h x y) fr h
theorem s_op {α β : Type} {VR2 : VRel V D} {VR : VRel β α} {f : Hh → D → D → Option α} {r : V → V → Hp → (β → Hp → Prop) → Prop} (sa : SimV X T W a ma) (sb : Sim (WE X b) X.K T W VR2 mb)
    (hr : ∀ B w σ H fr h x y d e z Q, Rel X.K T B w σ H fr h → RelD X.K T w x d → VR2 X.K T B σ w H fr y e → f h d e = some z → (∀ w' H' v, w.le w' → Rel X.K T B w' σ H' fr h → VR X.K T B σ w' H' fr v z → Q v H') → r x y H Q) :
    Sim (fun σ H Q => WE X a σ H fun x H1 => WE X b σ H1 fun y H2 => r x y H2 Q) X.K T W VR (mOp f ma mb) := fun B w σ H fr h Q r1 p =>
  sa B w σ H fr h _ r1 (Post.bind (VR := vV X.K T B σ) p fun d fr1 h1 w1 H1 x e1 l1 r1 rx p1 => sb B w1 σ H1 fr1 h1 _ r1 (Post.bind (VR := VR2 X.K T B σ) p1 fun e fr2 h2 w2 H2 y e2 l2 r2 ry p2 => by
    cases q : f h2 d e with
    | none => rw [q] at p2; exact p2.elim
    | some z =>
      rw [q] at p2
      exact hr B w2 σ H2 fr2 h2 x y d e z Q r2 (rx.mono l2) ry q p2))
end
end Pk

/-! Pk3: operators, comparisons, tests, displays, subscripts. -/
namespace Pk
open PySem PySem.Spec L2

/-- where a derivation stands -/
structure Cq (X : Cx) (T : Tb) (W : WX) (k : Nat) : Prop where
  calm : X.calm = true
  nd : X.N.Nodup
  room : Room k X.A
  takes : Takes X W
  po : PassesOwn (model X.prog X.w) X.A X.env X.xe
theorem Cq.u {X : Cx} {T : Tb} {W : WX} {k : Nat} (C : Cq X T W k) : X.A.units + 65 < cLine := by
  have := C.room.un
  omega

section
variable {X : Cx} {T : Tb} {W : WX} {k : Nat} {e a b c : Expr} {es : List Expr} {m ma mb mc : M D} {pos : Pos}

/-! ### data -/
mutual
def D.toP : D → Option PyData
  | .non => some .none
  | .bl b => some (.bool b)
  | .int i => some (.int i)
  | .str s => some (.str s)
  | .tup l => (D.toPs l).map .tuple
  | .fl l => (D.toPs l).map .list
  | .kl l => (D.toPs l).map .list
  | .nl l => (D.toPs l).map .list
  | _ => none
def D.toPs : List D → Option (List PyData)
  | [] => some []
  | d :: ds => match D.toP d, D.toPs ds with
    | some p, some ps => some (p :: ps)
    | _, _ => none
end
section
variable {K : PySem.W.Frag} {w : Wd} {H : Hp}
mutual
theorem dp_of (hs : ∀ a o, w.F a = some o → H a = some o) : ∀ {v : V} {d : D} {p : PyData}, RelD K T w v d → d.toP = some p → Dp K H v p
  | _, _, _, .non, e => by cases e; exact .non
  | _, _, _, .bl b, e => by cases e; exact .bl b
  | _, _, _, .int i, e => by cases e; exact .int i
  | _, _, _, .str s, e => by cases e; exact .str s
  | _, _, _, .tup s r, e => by
    unfold D.toP at e
    obtain ⟨ps, e1, e2⟩ := Option.map_eq_some_iff.mp e
    subst e2
    exact .tup (sqT_le hs s) (dps_of hs r e1)
  | _, _, _, .fl s r, e => by
    unfold D.toP at e
    obtain ⟨ps, e1, e2⟩ := Option.map_eq_some_iff.mp e
    subst e2
    exact .lst (SqL.of (hs _ _ s)) (dps_of hs r e1)
  | _, _, _, .kl s r, e => by
    unfold D.toP at e
    obtain ⟨ps, e1, e2⟩ := Option.map_eq_some_iff.mp e
    subst e2
    exact .lst (sqL_le hs s) (dps_of hs r e1)
  | _, _, _, .obj _ _, e => by cases e
  | _, _, _, .ref _, e => by cases e
  | _, _, _, .cls _, e => by cases e
  | _, _, _, .ty _, e => by cases e
  | _, _, _, .sl _, e => by cases e
theorem dps_of (hs : ∀ a o, w.F a = some o → H a = some o) : ∀ {vs : List V} {ds : List D} {ps : List PyData}, RelDs K T w vs ds → D.toPs ds = some ps → DpAll K H vs ps
  | _, _, _, .nil, e => by cases e; exact .nil
  | _, _, _, @RelDs.cons _ _ _ _ d _ ds h t, e => by
    unfold D.toPs at e
    cases e1 : d.toP with
    | none => rw [e1] at e; cases e
    | some p =>
      cases e2 : D.toPs ds with
      | none => rw [e1, e2] at e; cases e
      | some ps =>
        rw [e1, e2] at e
        cases e
        exact .cons (dp_of hs h e1) (dps_of hs t e2)
end
theorem dpo_of {B : Bs} {σ : L2.St} {fr : Fr} {h : Hh} {v : V} {d : D} {p : PyData} (R : Rel K T B w σ H fr h) (z : vO K T B σ w H fr v d) (e : d.toP = some p) : Dp K H v p := by
  rcases z with z | ⟨q, o, rfl, eH, z⟩
  · exact dp_of R.sub z e
  · cases z with
    | lst r =>
      unfold D.toP at e
      obtain ⟨ps, e1, e2⟩ := Option.map_eq_some_iff.mp e
      subst e2
      exact .lst (SqL.of eH) (dps_of R.sub r e1)
    | obj r => cases e
end

/-! ### operators -/
def bAdd (h : Hh) : D → D → Option D
  | .int i, .int j => some (.int (i + j))
  | .str a, .str b => if a.length + b.length ≤ big then some (.str (a ++ b)) else none
  | .tup a, .tup b => if a.length + b.length ≤ big then some (.tup (a ++ b)) else none
  | .fl a, .fl b => if a.length + b.length ≤ big then some (.nl (a ++ b)) else none
  | _, _ => none
theorem rel_list {w : Wd} {K : PySem.W.Frag} {v : V} {ds : List D} (r : RelD K T w v (.fl ds)) : ∃ a vs, v = .ref a ∧ w.F a = some (.lst vs) ∧ RelDs K T w vs ds := by
  cases r with
  | fl s t => exact ⟨_, _, rfl, s, t⟩
theorem rel_tup {w : Wd} {K : PySem.W.Frag} {v : V} {ds : List D} (r : RelD K T w v (.tup ds)) : ∃ a vs, v = .ref a ∧ SqT K w.F a vs ∧ RelDs K T w vs ds := by
  cases r with
  | tup s t => exact ⟨_, _, rfl, s, t⟩
theorem rel_int {w : Wd} {K : PySem.W.Frag} {v : V} {i : Int} (r : RelD K T w v (.int i)) : v = .int i := by
  cases r
  rfl
theorem rel_bl {w : Wd} {K : PySem.W.Frag} {v : V} {i : Bool} (r : RelD K T w v (.bl i)) : v = .bl i := by
  cases r
  rfl
theorem rel_str {w : Wd} {K : PySem.W.Frag} {v : V} {i : Str} (r : RelD K T w v (.str i)) : v = .str i := by
  cases r
  rfl
/-- a new tuple -/
theorem new_tup {K : PySem.W.Frag} {B : Bs} {w : Wd} {σ : L2.St} {H : Hp} {fr : Fr} {h : Hh} {p : Addr} {vs : List V} {ds : List D} {Q : V → Hp → Prop} (R : Rel K T B w σ H fr h) (r : RelDs K T w vs ds) (np : H p = none)
    (q : ∀ w' H' v, w.le w' → Rel K T B w' σ H' fr h → RelD K T w' v (.tup ds) → Q v H') : Q (.ref p) (upd H p (.tup vs)) :=
  q (w.add p (.tup vs)) _ _ (Wd.le_add (R.nP np).1) (R.laid np) (.tup (SqT.of (by show upd w.F p _ p = _; rw [upd_same])) (r.mono (Wd.le_add (R.nP np).1)))
/-- a new list -/
theorem new_lst {K : PySem.W.Frag} {B : Bs} {w : Wd} {σ : L2.St} {H : Hp} {fr : Fr} {h : Hh} {p : Addr} {vs : List V} {ds : List D} {Q : V → Hp → Prop} (R : Rel K T B w σ H fr h) (r : RelDs K T w vs ds) (np : H p = none)
    (q : ∀ w' H' v, w.le w' → Rel K T B w' σ H' fr h → vE K T B σ w' H' fr v (.nl ds) → Q v H') : Q (.ref p) (upd H p (.lst vs)) :=
  q w _ _ (Wd.le_refl w) (R.temp np) (.inr ⟨p, _, rfl, R.own_new np, R.loose_new np, upd_same, .lst r⟩)
theorem se_add (sa : SimV X T W a ma) (sb : SimV X T W b mb) : SimE X T W (.BinOp a .Add b pos) (mOp bAdd ma mb) := fun B w σ H fr h Q r1 p =>
  pe_we (pe_op op_max pe_max pe_max) (s_op (VR := vE) sa sb (fun B w σ H fr h x y d e z Q R rx ry q k => by
    unfold bAdd at q
    split at q
    · cases q
      rw [rel_int rx, rel_int ry]
      exact op_rm op_add ⟨_, _, rfl, rfl, k w H _ (Wd.le_refl _) R (.inl (.int _))⟩
    · split at q
      · rename_i hl
        cases q
        rw [rel_str rx, rel_str ry]
        exact op_rm op_add_str ⟨_, _, rfl, rfl, big_line hl, k w H _ (Wd.le_refl _) R (.inl (.str _))⟩
      · cases q
    · split at q
      · rename_i ds es hl
        cases q
        obtain ⟨p1, vs, rfl, s1, r1⟩ := rel_tup rx
        obtain ⟨p2, us, rfl, s2, r2⟩ := rel_tup ry
        refine op_rm op_catA ⟨p1, p2, vs, us, rfl, rfl, sqT_le R.sub s1, sqT_le R.sub s2, by rw [r1.length, r2.length]; exact big_line hl, fun e0 => ?_, fun _ e0 => ?_, fun _ _ p np => ?_⟩
        · subst e0
          cases r1
          exact k w H _ (Wd.le_refl _) R (.inl ry)
        · subst e0
          cases r2
          rw [List.append_nil] at k
          exact k w H _ (Wd.le_refl _) R (.inl rx)
        · exact new_tup R (r1.append r2) np fun w' H' v l R' r' => k w' H' v l R' (.inl r')
      · cases q
    · split at q
      · rename_i ds es hl
        cases q
        obtain ⟨p1, vs, rfl, s1, r1⟩ := rel_list rx
        obtain ⟨p2, us, rfl, s2, r2⟩ := rel_list ry
        refine op_rm op_cat ⟨p1, p2, vs, us, rfl, rfl, R.sub _ _ s1, R.sub _ _ s2, by rw [r1.length, r2.length]; exact big_line hl, fun p np => ?_⟩
        exact new_lst R (r1.append r2) np k
      · cases q
    · cases q) B w σ H fr h Q r1 p)
/-- an operator on ints -/
def bInt (C : Int → Int → Bool) (g : Int → Int → Int) (_ : Hh) : D → D → Option D
  | .int i, .int j => if C i j then some (.int (g i j)) else none
  | _, _ => none
theorem sv_intop {op : Operator} {P : Int → Int → Prop} {C : Int → Int → Bool} {g : Int → Int → Int} (o : OpR X (binaryOp op) (rI P fun i j => .int (g i j))) (hC : ∀ i j, C i j = true → P i j) (sa : SimV X T W a ma) (sb : SimV X T W b mb) :
    SimV X T W (.BinOp a op b pos) (mOp (bInt C g) ma mb) := fun B w σ H fr h Q r1 p =>
  pe_we (pe_op op_max pe_max pe_max) (s_op (VR := vV) sa sb (fun B w σ H fr h x y d e z Q R rx ry q k => by
    unfold bInt at q
    split at q
    · split at q
      · rename_i hc
        cases q
        rw [rel_int rx, rel_int ry]
        exact op_rm o ⟨_, _, rfl, rfl, hC _ _ hc, k w H _ (Wd.le_refl _) R (.int _)⟩
      · cases q
    · cases q) B w σ H fr h Q r1 p)
def cYes (_ _ : Int) : Bool := true
def cMul (i j : Int) : Bool := decide (i.natAbs.log2 + j.natAbs.log2 < 1000000)
def cMod (_ j : Int) : Bool := decide (0 < j)
def cDiv (_ j : Int) : Bool := decide (0 < j) && decide (j.natAbs.log2 < 9000)
def cPow (i j : Int) : Bool := decide (0 ≤ j) && decide (j ≤ 1000000) && decide (i.natAbs < 2 ^ 64)
abbrev bSub := bInt cYes (fun i j => i - j)
abbrev bMul := bInt cMul (fun i j => i * j)
abbrev bMod := bInt cMod (fun i j => i % j)
abbrev bDiv := bInt cDiv (fun i j => i / j)
abbrev bPow := bInt cPow (fun i j => i ^ j.toNat)
theorem op_sub1 : OpR X (binaryOp .Sub) (rI (fun _ _ => True) fun i j => .int (i - j)) := fun pins s σ H x y v u Q I rx ry ⟨i, j, e1, e2, _, q⟩ => op_sub pins s σ H x y v u Q I rx ry ⟨i, j, e1, e2, q⟩
theorem sv_sub (sa : SimV X T W a ma) (sb : SimV X T W b mb) : SimV X T W (.BinOp a .Sub b pos) (mOp bSub ma mb) := sv_intop op_sub1 (fun _ _ _ => trivial) sa sb
theorem sv_mul (sa : SimV X T W a ma) (sb : SimV X T W b mb) : SimV X T W (.BinOp a .Mult b pos) (mOp bMul ma mb) := sv_intop op_mulW (fun i j h => by
  have h' : decide (i.natAbs.log2 + j.natAbs.log2 < 1000000) = true := h
  have h2 : i.natAbs.log2 + j.natAbs.log2 < 1000000 := of_decide_eq_true h'
  exact h2) sa sb
theorem sv_mod (sa : SimV X T W a ma) (sb : SimV X T W b mb) : SimV X T W (.BinOp a .Mod b pos) (mOp bMod ma mb) := sv_intop op_mod (fun _ j h => by
  have h' : decide (0 < j) = true := h
  exact of_decide_eq_true h') sa sb
theorem sv_div (sa : SimV X T W a ma) (sb : SimV X T W b mb) : SimV X T W (.BinOp a .FloorDiv b pos) (mOp bDiv ma mb) := sv_intop op_fdivW (fun _ _ h => by
  obtain ⟨h1, h2⟩ := Bool.and_eq_true_iff.mp h
  exact ⟨of_decide_eq_true h1, of_decide_eq_true h2⟩) sa sb
theorem sv_pow (sa : SimV X T W a ma) (sb : SimV X T W b mb) : SimV X T W (.BinOp a .Pow b pos) (mOp bPow ma mb) := sv_intop op_pow (fun _ _ h => by
  obtain ⟨h1, h3⟩ := Bool.and_eq_true_iff.mp h
  obtain ⟨h1, h2⟩ := Bool.and_eq_true_iff.mp h1
  exact ⟨of_decide_eq_true h1, of_decide_eq_true h2, of_decide_eq_true h3⟩) sa sb
def bNeg : D → Option D
  | .int i => some (.int (-i))
  | _ => none
def mUn {α : Type} (f : Hh → D → Option α) (ma : M D) : M α := ma.bind fun x fr h => M.opt (f h x) fr h
theorem s_un {α β : Type} {VR1 : VRel V D} {VR : VRel β α} {f : Hh → D → Option α} {r : V → Hp → (β → Hp → Prop) → Prop} (sa : Sim (WE X a) X.K T W VR1 ma)
    (hr : ∀ B w σ H fr h x d z Q, Rel X.K T B w σ H fr h → VR1 X.K T B σ w H fr x d → f h d = some z → (∀ w' H' v, w.le w' → Rel X.K T B w' σ H' fr h → VR X.K T B σ w' H' fr v z → Q v H') → r x H Q) :
    Sim (fun σ H Q => WE X a σ H fun x H1 => r x H1 Q) X.K T W VR (mUn f ma) := fun B w σ H fr h Q r1 p =>
  sa B w σ H fr h _ r1 (Post.bind (VR := VR1 X.K T B σ) p fun d fr1 h1 w1 H1 x e1 l1 r1 rx p1 => by
    cases q : f h1 d with
    | none => rw [q] at p1; exact p1.elim
    | some z =>
      rw [q] at p1
      exact hr B w1 σ H1 fr1 h1 x d z Q r1 rx q p1)
theorem sv_neg (sa : SimV X T W a ma) : SimV X T W (.UnaryOp .USub a pos) (mUn (fun _ => bNeg) ma) := fun B w σ H fr h Q r1 p =>
  pe_we (pe_un un_max pe_max) (s_un (VR := vV) sa (fun B w σ H fr h x d z Q R rx q k => by
    unfold bNeg at q
    split at q
    · cases q
      rw [rel_int rx]
      exact un_um un_neg ⟨_, rfl, k w H _ (Wd.le_refl _) R (.int _)⟩
    · cases q) B w σ H fr h Q r1 p)

/-! ### comparisons -/
/-- f tells the comparison -/
def CmpOk (X : Cx) (T : Tb) (VR2 : VRel V D) (op : CmpOp) (f : Hh → D → D → Option Bool) : Prop :=
  ∀ B w σ H fr h x y d e c Q, Rel X.K T B w σ H fr h → RelD X.K T w x d → VR2 X.K T B σ w H fr y e → f h d e = some c → Q (.bl c) H → rM X (compareOp op) x y H Q
def cInt (p : Int → Int → Bool) (_ : Hh) : D → D → Option Bool
  | .int i, .int j => some (p i j)
  | _, _ => none
theorem cmp_int {op : CmpOp} {p : Int → Int → Bool} (o : OpR X (compareOp op) (rI0 fun i j => .bl (p i j))) : CmpOk X T vV op (cInt p) := fun B w σ H fr h x y d e c Q R rx ry q k => by
  unfold cInt at q
  split at q
  · cases q
    rw [rel_int rx, rel_int ry]
    exact op_rm o ⟨_, _, rfl, rfl, k⟩
  · cases q
abbrev cLt := cInt fun i j => decide (i < j)
abbrev cLe := cInt fun i j => decide (i ≤ j)
abbrev cGt := cInt fun i j => decide (j < i)
abbrev cGe := cInt fun i j => decide (j ≤ i)
theorem cmp_lt : CmpOk X T vV .Lt cLt := cmp_int op_lt
theorem cmp_le : CmpOk X T vV .LtE cLe := cmp_int op_le
theorem cmp_gt : CmpOk X T vV .Gt cGt := cmp_int op_gt
theorem cmp_ge : CmpOk X T vV .GtE cGe := cmp_int op_ge
def cEq (_ : Hh) (d e : D) : Option Bool := match d.toP, e.toP with
  | some p, some q => if SeqAt.shaped p && SeqAt.shaped q then some (PyData.eqv p q) else none
  | _, _ => none
def cNe (h : Hh) (d e : D) : Option Bool := (cEq h d e).map (!·)
theorem cEq_some {h : Hh} {d e : D} {c : Bool} (q : cEq h d e = some c) : ∃ p p', d.toP = some p ∧ e.toP = some p' ∧ SeqAt.shaped p = true ∧ SeqAt.shaped p' = true ∧ c = PyData.eqv p p' := by
  unfold cEq at q
  split at q
  · rename_i p p' e1 e2
    split at q
    · rename_i hs
      obtain ⟨h1, h2⟩ := Bool.and_eq_true_iff.mp hs
      cases q
      exact ⟨p, p', e1, e2, h1, h2, rfl⟩
    · cases q
  · cases q
theorem cmp_eq (C : Cq X T W k) : CmpOk X T vO .Eq cEq := fun B w σ H fr h x y d e c Q R rx ry q kk => by
  obtain ⟨p, p', e1, e2, s1, s2, rfl⟩ := cEq_some q
  exact op_rm (op_eqD (by have := C.u; omega)) ⟨p, p', dp_of R.sub rx e1, dpo_of R ry e2, s1, s2, kk⟩
theorem cmp_ne (C : Cq X T W k) : CmpOk X T vO .NotEq cNe := fun B w σ H fr h x y d e c Q R rx ry q kk => by
  obtain ⟨c', q', rfl⟩ := Option.map_eq_some_iff.mp q
  obtain ⟨p, p', e1, e2, s1, s2, rfl⟩ := cEq_some q'
  exact op_rm (op_neD (by have := C.u; omega)) ⟨p, p', dp_of R.sub rx e1, dpo_of R ry e2, s1, s2, kk⟩
/-- flat items -/
def D.flat : D → Bool
  | .non => true
  | .bl _ => true
  | .int _ => true
  | .str _ => true
  | _ => false
def D.eqf : D → D → Bool
  | .non, .non => true
  | .bl a, .bl b => a == b
  | .bl a, .int b => (if a then 1 else 0) == b
  | .int a, .bl b => a == (if b then 1 else 0)
  | .int a, .int b => a == b
  | .str a, .str b => a == b
  | _, _ => false
theorem flat_rel {K : PySem.W.Frag} {w : Wd} {v : V} {d : D} (r : RelD K T w v d) (f : d.flat = true) : flatV v = true := by
  cases r <;> first | rfl | cases f
theorem flats_rel {K : PySem.W.Frag} {w : Wd} : ∀ {vs : List V} {ds : List D}, RelDs K T w vs ds → ds.all D.flat = true → vs.all flatV = true
  | _, _, .nil, _ => rfl
  | _, _, .cons h t, f => by
    rw [List.all_cons, Bool.and_eq_true] at f ⊢
    exact ⟨flat_rel h f.1, flats_rel t f.2⟩
theorem eqf_rel {K : PySem.W.Frag} {w : Wd} {v u : V} {d e : D} (r : RelD K T w v d) (s : RelD K T w u e) : eqV v u = D.eqf d e := by
  cases r <;> cases s <;> rfl
theorem any_rel {K : PySem.W.Frag} {w : Wd} {u : V} {e : D} (s : RelD K T w u e) : ∀ {vs : List V} {ds : List D}, RelDs K T w vs ds → inV u vs = ds.any fun z => D.eqf z e
  | _, _, .nil => rfl
  | _, _, @RelDs.cons _ _ _ v d vs ds h t => by
    have q := any_rel s t
    unfold inV at q ⊢
    rw [List.any_cons, List.any_cons, eqf_rel h s, q]
def cIn (h : Hh) (x y : D) : Option Bool := match x, y with
  | .str c, .str z => if c.length = 1 then some (decide (c.cps.toList.headD 0 ∈ z.cps.toList)) else some (!(Builtin.Str.occurrences z c 0 z.length 1).isEmpty)
  | x, y => match y.its h with
    | some l => if x.flat && l.all D.flat then some (l.any fun z => D.eqf z x) else none
    | none => none
def cNin (h : Hh) (x y : D) : Option Bool := (cIn h x y).map (!·)
theorem str1 {c : Str} (h : c.length = 1) : c = ⟨#[c.cps.toList.headD 0]⟩ := by
  obtain ⟨⟨l⟩⟩ := c
  have h' : l.length = 1 := h
  match l, h' with
  | [x], _ => rfl
theorem cmp_in : CmpOk X T vO .In cIn := fun B w σ H fr h x y d e c Q R rx ry q kk => by
  unfold cIn at q
  split at q
  · rename_i cc z
    have ey : y = .str z := by
      rcases ry with ry | ⟨_, _, _, _, r⟩
      · exact rel_str ry
      · cases r
    rw [rel_str rx, ey]
    split at q
    · rename_i h1
      cases q
      exact op_rm op_in_sign ⟨_, z, by rw [← str1 h1], rfl, kk⟩
    · cases q
      exact op_rm op_in_str ⟨cc, z, rfl, rfl, kk⟩
  · split at q
    · rename_i l el
      split at q
      · rename_i hf
        obtain ⟨f1, f2⟩ := Bool.and_eq_true_iff.mp hf
        cases q
        obtain ⟨p, vs, rfl, rl, sq⟩ := its_rel R ry el
        refine op_rm op_in_seq ⟨p, vs, rfl, sq, flat_rel rx f1, flats_rel rl f2, ?_⟩
        rw [if_neg Bool.false_ne_true, any_rel rx rl]
        exact kk
      · cases q
    · cases q
theorem cmp_nin : CmpOk X T vO .NotIn cNin := fun B w σ H fr h x y d e c Q R rx ry q kk => by
  obtain ⟨c', q', rfl⟩ := Option.map_eq_some_iff.mp q
  clear q
  have q := q'
  clear q'
  unfold cIn at q
  split at q
  · rename_i cc z
    have ey : y = .str z := by
      rcases ry with ry | ⟨_, _, _, _, r⟩
      · exact rel_str ry
      · cases r
    rw [rel_str rx, ey]
    split at q
    · rename_i h1
      cases q
      exact op_rm op_notIn_sign ⟨_, z, by rw [← str1 h1], rfl, kk⟩
    · cases q
      exact op_rm op_notin_str ⟨cc, z, rfl, rfl, kk⟩
  · split at q
    · rename_i l el
      split at q
      · rename_i hf
        obtain ⟨f1, f2⟩ := Bool.and_eq_true_iff.mp hf
        cases q
        obtain ⟨p, vs, rfl, rl, sq⟩ := its_rel R ry el
        refine op_rm op_notIn_seq ⟨p, vs, rfl, sq, flat_rel rx f1, flats_rel rl f2, ?_⟩
        rw [if_pos rfl, any_rel rx rl]
        exact kk
      · cases q
    · cases q
def D.isNon : D → Bool
  | .non => true
  | _ => false
theorem isNon_rel {K : PySem.W.Frag} {w : Wd} {v : V} {d : D} (r : RelD K T w v d) : decide (v = .non) = d.isNon := by
  cases r <;> rfl
def cIs (_ : Hh) (d e : D) : Option Bool := if e.isNon then some d.isNon else none
def cIsn (_ : Hh) (d e : D) : Option Bool := if e.isNon then some (!d.isNon) else none
theorem non_of {K : PySem.W.Frag} {w : Wd} {v : V} {d : D} (r : RelD K T w v d) (h : d.isNon = true) : v = .non := by
  cases r <;> first | rfl | cases h
theorem cmp_is : CmpOk X T vV .Is cIs := fun B w σ H fr h x y d e c Q R rx ry q kk => by
  unfold cIs at q
  split at q
  · rename_i he
    cases q
    refine op_rm op_isN ⟨non_of ry he, ?_⟩
    rw [isNon_rel rx]
    exact kk
  · cases q
/-- a comparison as a test -/
theorem st_cmp {op : CmpOp} {VR2 : VRel V D} {f : Hh → D → D → Option Bool} (o : CmpOk X T VR2 op f) (sa : SimV X T W a ma) (sb : Sim (WE X b) X.K T W VR2 mb) (hm : behindInMarks op b = false := by with_unfolding_all rfl) :
    SimT X T W (.Compare a [op] [b] pos) (mOp f ma mb) := fun B w σ H fr h Q r1 p =>
  pt_wt (pt_cmpR op_max pe_max pe_max hm) (s_op (VR := vB) (r := fun x y H Q => rM X (compareOp op) x y H fun z H' => ∃ k, z = .bl k ∧ Q k H') sa sb (fun B w σ H fr h x y d e z Q R rx ry q k =>
    o B w σ H fr h x y d e z _ R rx ry q ⟨z, rfl, k w H z (Wd.le_refl _) R rfl⟩) B w σ H fr h Q r1 p)
def mBl (m : M Bool) : M D := m.bind fun b => M.ret (.bl b)
theorem sv_cmp {op : CmpOp} {VR2 : VRel V D} {f : Hh → D → D → Option Bool} (o : CmpOk X T VR2 op f) (sa : SimV X T W a ma) (sb : Sim (WE X b) X.K T W VR2 mb) (hm : behindInMarks op b = false := by with_unfolding_all rfl) :
    SimV X T W (.Compare a [op] [b] pos) (mOp (fun h x y => (f h x y).map .bl) ma mb) := fun B w σ H fr h Q r1 p =>
  pe_we (pe_cmpR op_max pe_max pe_max hm) (s_op (VR := vV) sa sb (fun B w σ H fr h x y d e z Q R rx ry q k => by
    obtain ⟨c, q', rfl⟩ := Option.map_eq_some_iff.mp q
    exact o B w σ H fr h x y d e c _ R rx ry q' (k w H _ (Wd.le_refl _) R (.bl c))) B w σ H fr h Q r1 p)
/-- a op b op' c -/
def mChain (f g : Hh → D → D → Option Bool) (ma mb mc : M D) : M Bool := ma.bind fun x => mb.bind fun y fr h => match f h x y with
  | some true => (mc.bind fun z fr h => M.opt (g h y z) fr h) fr h
  | some false => .ok false fr h
  | none => .err
theorem st_chain {op op' : CmpOp} {f g : Hh → D → D → Option Bool} (o : CmpOk X T vV op f) (o' : CmpOk X T vV op' g) (sa : SimV X T W a ma) (sb : SimV X T W b mb) (sc : SimV X T W c mc) (hm : lastMarks [op, op'] [b, c] = false := by with_unfolding_all rfl) :
    SimT X T W (.Compare a [op, op'] [b, c] pos) (mChain f g ma mb mc) := fun B w σ H fr h Q r1 p =>
  pt_wt (pt_chain op_max op_max pe_max pe_max pe_max hm) (sa B w σ H fr h _ r1 (Post.bind (VR := vV X.K T B σ) p fun d fr1 h1 w1 H1 x e1 l1 r1 rx p1 => sb B w1 σ H1 fr1 h1 _ r1 (Post.bind (VR := vV X.K T B σ) p1 fun e fr2 h2 w2 H2 y e2 l2 r2 ry p2 => by
    cases q : f h2 d e with
    | none => rw [q] at p2; exact p2.elim
    | some k =>
      rw [q] at p2
      cases k with
      | false => exact o B w2 σ H2 fr2 h2 x y d e false _ r2 (rx.mono l2) ry q ⟨false, rfl, ⟨false, rfl, p2 w2 H2 false (Wd.le_refl _) r2 rfl⟩⟩
      | true => exact o B w2 σ H2 fr2 h2 x y d e true _ r2 (rx.mono l2) ry q ⟨true, rfl, by
          show WE X c σ H2 _
          exact sc B w2 σ H2 fr2 h2 _ r2 (Post.bind (VR := vV X.K T B σ) p2 fun z fr3 h3 w3 H3 zv e3 l3 r3 rz p3 => by
            cases q' : g h3 e z with
            | none => rw [q'] at p3; exact p3.elim
            | some k' =>
              rw [q'] at p3
              exact o' B w3 σ H3 fr3 h3 y zv e z k' _ r3 (ry.mono l3) rz q' ⟨k', rfl, p3 w3 H3 k' (Wd.le_refl _) r3 rfl⟩)⟩)))
/-! ### tests -/
def D.tb : D → Option Bool
  | .bl b => some b
  | _ => none
theorem tb_rel {K : PySem.W.Frag} {B : Bs} {σ : L2.St} {w : Wd} {H : Hp} {fr : Fr} {v : V} {d : D} {b : Bool} (r : vO K T B σ w H fr v d) (e : d.tb = some b) : v = .bl b := by
  rcases r with r | ⟨_, _, _, _, r⟩
  · cases r <;> first | (cases e; rfl) | cases e
  · cases r <;> cases e
/-- a value's truth -/
def D.tru (h : Hh) (d : D) : Option Bool := match d with
  | .non => some false
  | .bl b => some b
  | .int i => some (i != 0)
  | .str z => if z.length ≤ big then some ((z.length : Int) != 0) else none
  | d => (d.its h).map fun l => !l.isEmpty
theorem empty_rel {K : PySem.W.Frag} {w : Wd} {vs : List V} {ds : List D} (r : RelDs K T w vs ds) : vs.isEmpty = ds.isEmpty := by
  cases r <;> rfl
theorem st_tru (s : SimO X T W e m) (he : ∀ whole, isTrue e X.env whole = (do let v ← whole; standAt e.pos; holding [v] (truthy v)) := by intro _; rfl) : SimT X T W e (mUn D.tru m) := fun B w σ H fr h Q r1 p =>
  pt_wt (pt_truth pe_max he) (s_un (VR := vB) (r := fun x H Q => ∃ k, TruV X.K x H k ∧ Q k H) s (fun B w σ H fr h x d z Q R rx q k => by
    refine ⟨z, ?_, k w H z (Wd.le_refl _) R rfl⟩
    have viaIts : ∀ {l : List D}, d.its h = some l → (!l.isEmpty) = z → TruV X.K x H z := fun {l} el ez => by
      obtain ⟨p, vs, rfl, rl, sq⟩ := its_rel R rx el
      rcases sq with sq | sq
      · exact .inl ⟨vs, sq, by rw [← ez, empty_rel rl]⟩
      · exact .inr (.inl ⟨vs, sq, by rw [← ez, empty_rel rl]⟩)
    unfold D.tru at q
    split at q
    · rcases rx with rx | ⟨_, _, _, _, rx⟩
      · cases rx
        cases q
        rfl
      · cases rx
    · rcases rx with rx | ⟨_, _, _, _, rx⟩
      · cases rx
        cases q
        rfl
      · cases rx
    · rcases rx with rx | ⟨_, _, _, _, rx⟩
      · cases rx
        cases q
        rfl
      · cases rx
    · split at q
      · rename_i hl
        rcases rx with rx | ⟨_, _, _, _, rx⟩
        · cases rx
          cases q
          exact ⟨big_line hl, rfl⟩
        · cases rx
      · cases q
    · obtain ⟨l, e1, e2⟩ := Option.map_eq_some_iff.mp q
      exact viaIts e1 e2) B w σ H fr h Q r1 p)
def mNot (m : M Bool) : M Bool := m.bind fun b => M.ret !b
def mAnd (m n : M Bool) : M Bool := m.bind fun b => if b then n else M.ret false
def mOr (m n : M Bool) : M Bool := m.bind fun b => if b then M.ret true else n
variable {n ta tb tc : M Bool} {rest : List Expr}
theorem st_not (s : SimT X T W a n) : SimT X T W (.UnaryOp .Not a pos) (mNot n) := fun B w σ H fr h Q r1 p =>
  pt_wt (pt_not pt_max) (s B w σ H fr h _ r1 (Post.bind (VR := vB X.K T B σ) p fun d fr1 h1 w1 H1 x e1 l1 r1 rx p1 => by
    have rx' : x = d := rx
    subst rx'
    exact p1 w1 H1 _ (Wd.le_refl _) r1 rfl))
theorem st_ww (s : SimW X T W e n) : SimT X T W e n := fun B w σ H fr h Q r1 p => pt_wt pw_max.pt (s B w σ H fr h Q r1 p)
theorem sw_and1 (s : SimT X T W a ta) : SimW X T W (.BoolOp .And [a] pos) ta := fun B w σ H fr h Q r1 p => pw_ww (pw_and1 pt_max) (s B w σ H fr h Q r1 p)
theorem sw_or1 (s : SimT X T W a ta) : SimW X T W (.BoolOp .Or [a] pos) ta := fun B w σ H fr h Q r1 p => pw_ww (pw_or1 pt_max) (s B w σ H fr h Q r1 p)
theorem sw_and (s : SimT X T W a ta) (t : SimW X T W (.BoolOp .And (b :: rest) pos) tb) : SimW X T W (.BoolOp .And (a :: b :: rest) pos) (mAnd ta tb) := fun B w σ H fr h Q r1 p =>
  pw_ww (pw_and pt_max pw_max) (s B w σ H fr h _ r1 (Post.bind (VR := vB X.K T B σ) p fun d fr1 h1 w1 H1 x e1 l1 r1 rx p1 => by
    have rx' : x = d := rx
    subst rx'
    cases x with
    | true => exact t B w1 σ H1 fr1 h1 Q r1 p1
    | false => exact p1 w1 H1 false (Wd.le_refl _) r1 rfl))
theorem sw_or (s : SimT X T W a ta) (t : SimW X T W (.BoolOp .Or (b :: rest) pos) tb) : SimW X T W (.BoolOp .Or (a :: b :: rest) pos) (mOr ta tb) := fun B w σ H fr h Q r1 p =>
  pw_ww (pw_or pt_max pw_max) (s B w σ H fr h _ r1 (Post.bind (VR := vB X.K T B σ) p fun d fr1 h1 w1 H1 x e1 l1 r1 rx p1 => by
    have rx' : x = d := rx
    subst rx'
    cases x with
    | false => exact t B w1 σ H1 fr1 h1 Q r1 p1
    | true => exact p1 w1 H1 true (Wd.le_refl _) r1 rfl))
/-- as values -/
def mNotV (m : M D) : M D := m.bind fun d => M.opt (d.tb.map fun b => .bl (!b))
def mAndV (m n : M D) : M D := m.bind fun d => match d.tb with
  | some true => n
  | some false => M.ret (.bl false)
  | none => M.opt none
def mOrV (m n : M D) : M D := m.bind fun d => match d.tb with
  | some true => M.ret (.bl true)
  | some false => n
  | none => M.opt none
theorem sv_one {op : BoolOp} (s : SimV X T W a ma) : SimV X T W (.BoolOp op [a] pos) ma := fun B w σ H fr h Q r1 p => pe_we (pe_one pe_max) (s B w σ H fr h Q r1 p)
theorem sv_not (s : SimV X T W a ma) : SimV X T W (.UnaryOp .Not a pos) (mNotV ma) := fun B w σ H fr h Q r1 p =>
  pe_we (pe_not pe_max) (s B w σ H fr h _ r1 (Post.bind (VR := vV X.K T B σ) p fun d fr1 h1 w1 H1 x e1 l1 r1 rx p1 => by
    cases q : d.tb with
    | none => rw [q] at p1; exact p1.elim
    | some c =>
      rw [q] at p1
      exact ⟨c, tb_rel (fr := fr1) (B := B) (σ := σ) (H := H1) (.inl rx) q, p1 w1 H1 _ (Wd.le_refl _) r1 (.bl _)⟩))
theorem sv_and (s : SimV X T W a ma) (t : SimV X T W (.BoolOp .And (b :: rest) pos) mb) : SimV X T W (.BoolOp .And (a :: b :: rest) pos) (mAndV ma mb) := fun B w σ H fr h Q r1 p =>
  pe_we (pe_and pe_max pe_max) (s B w σ H fr h _ r1 (Post.bind (VR := vV X.K T B σ) p fun d fr1 h1 w1 H1 x e1 l1 r1 rx p1 => by
    cases q : d.tb with
    | none => rw [q] at p1; exact p1.elim
    | some c =>
      rw [q] at p1
      refine ⟨c, tb_rel (fr := fr1) (B := B) (σ := σ) (H := H1) (.inl rx) q, ?_⟩
      cases c with
      | true => exact t B w1 σ H1 fr1 h1 Q r1 p1
      | false => exact p1 w1 H1 _ (Wd.le_refl _) r1 (.bl _)))
def mIf {α : Type} (t : M Bool) (m n : M α) : M α := t.bind fun b => if b then m else n
theorem s_if {VR : VRel V D} (st : SimT X T W c tc) (sa : Sim (WE X a) X.K T W VR ma) (sb : Sim (WE X b) X.K T W VR mb) : Sim (WE X (.IfExp c a b pos)) X.K T W VR (mIf tc ma mb) := fun B w σ H fr h Q r1 p =>
  pe_we (pe_ifExp pt_max pe_max pe_max) (st B w σ H fr h _ r1 (Post.bind (VR := vB X.K T B σ) p fun d fr1 h1 w1 H1 x e1 l1 r1 rx p1 => by
    have rx' : x = d := rx
    subst rx'
    cases x with
    | true => exact sa B w1 σ H1 fr1 h1 Q r1 p1
    | false => exact sb B w1 σ H1 fr1 h1 Q r1 p1))

/-! ### arguments, displays -/
def starE : Expr → Bool
  | .Starred .. => true
  | _ => false
theorem star_no {e : Expr} {es : List Expr} {env : Env} (h : starE e = false) : starEach (e :: es) env = (false, eval e env) :: starEach es env := by
  cases e <;> first | (cases h; done) | rfl
def mArgs : List (M D) → M (List D)
  | [] => M.ret []
  | m :: ms => m.bind fun d => (mArgs ms).bind fun ds => M.ret (d :: ds)
variable {ms : List (M D)}
theorem sa_nil : SimA X T W [] (mArgs []) := fun B w σ H fr h Q r1 p => pa_wa pa_nil (p w H _ (Wd.le_refl _) r1 .nil)
theorem sa_cons (s : SimV X T W e m) (t : SimA X T W es (mArgs ms)) (hs : starEach (e :: es) X.env = (false, eval e X.env) :: starEach es X.env := by exact star_no rfl) : SimA X T W (e :: es) (mArgs (m :: ms)) := fun B w σ H fr h Q r1 p =>
  pa_wa (pa_cons pe_max pa_max hs) (s B w σ H fr h _ r1 (Post.bind (VR := vV X.K T B σ) p fun d fr1 h1 w1 H1 x e1 l1 r1 rx p1 =>
    t B w1 σ H1 fr1 h1 _ r1 (Post.bind (VR := vA X.K T B σ) p1 fun ds fr2 h2 w2 H2 vs e2 l2 r2 rs p2 => p2 w2 H2 _ (Wd.le_refl _) r2 (.cons (rx.mono l2) rs))))
def mTup (ms : List (M D)) : M D := (mArgs ms).bind fun ds => M.opt (if ds.length ≤ big then some (.tup ds) else none)
def mLst (ms : List (M D)) : M D := (mArgs ms).bind fun ds => M.opt (if ds.length ≤ big then some (.nl ds) else none)
theorem sv_tup {x1 : Nat} (s : SimA X T W es (mArgs ms)) : SimV X T W (.Tuple es x1 pos) (mTup ms) := fun B w σ H fr h Q r1 p =>
  pe_we (pe_tup pa_max) (s B w σ H fr h _ r1 (Post.bind (VR := vA X.K T B σ) p fun ds fr1 h1 w1 H1 vs e1 l1 r1 rs p1 => by
    by_cases hl : ds.length ≤ big
    · rw [if_pos hl] at p1
      exact ⟨by rw [RelDs.length rs]; exact big_line hl, fun q nq => new_tup r1 rs nq p1⟩
    · rw [if_neg hl] at p1
      exact p1.elim))
theorem se_lst (s : SimA X T W es (mArgs ms)) : SimE X T W (.List es pos) (mLst ms) := fun B w σ H fr h Q r1 p =>
  pe_we (pe_lst pa_max) (s B w σ H fr h _ r1 (Post.bind (VR := vA X.K T B σ) p fun ds fr1 h1 w1 H1 vs e1 l1 r1 rs p1 => by
    by_cases hl : ds.length ≤ big
    · rw [if_pos hl] at p1
      exact ⟨by rw [RelDs.length rs]; exact big_line hl, fun q nq => new_lst r1 rs nq p1⟩
    · rw [if_neg hl] at p1
      exact p1.elim))
end
end Pk

/-! Pk4: subscripts, slices, built-in functions, attributes. -/
namespace Pk
open PySem PySem.Spec L2
section
variable {X : Cx} {T : Tb} {W : WX} {k : Nat} {e a b c o : Expr} {es : List Expr} {m ma mb mc : M D} {pos p2 pf : Pos}

/-! ### a[i] -/
def bIdx (h : Hh) (d i : D) : Option D := match d, i with
  | .str z, .int i => if z.length ≤ big then (atI z.cps.toList i).map fun c => .str ⟨#[c]⟩ else none
  | d, .int i => match d.its h with
    | some l => atI l i
    | none => none
  | _, _ => none
def ixM (X : Cx) : R2 := fun x y H Q => ∀ value slice pins s σ v u, Inv X pins σ H s → RelV x v → RelV y u → subscripted slice false v u = operate [v, u] (getItem v u) → wpAny (model X.prog X.w) X.A (PyProof.Rows.subscriptTail value slice v u) (EP X pins σ Q) X.xe s
theorem ix_max : IxR X (ixM X) := fun value slice pins s σ H x y v u Q I rx ry h hs => h value slice pins s σ v u I rx ry hs
theorem ix_ixm {r : R2} (o : IxR X r) {x y : V} {H : Hp} {Q : VK} (h : r x y H Q) : ixM X x y H Q := fun value slice pins s σ v u I rx ry hs => o value slice pins s σ H x y v u Q I rx ry h hs
theorem atI_rel {K : PySem.W.Frag} {w : Wd} {vs : List V} {ds : List D} {i : Int} {d : D} (r : RelDs K T w vs ds) (e : atI ds i = some d) : ∃ v, atI vs i = some v ∧ RelD K T w v d := by
  unfold atI at e ⊢
  rw [r.length]
  cases q : ixN ds.length i with
  | none => rw [q] at e; cases e
  | some j =>
    rw [q] at e
    exact r.get (show ds[j]? = some d from e)
theorem vo_str {K : PySem.W.Frag} {B : Bs} {σ : L2.St} {w : Wd} {H : Hp} {fr : Fr} {v : V} {z : Str} (r : vO K T B σ w H fr v (.str z)) : v = .str z := by
  rcases r with r | ⟨_, _, _, _, r⟩
  · exact rel_str r
  · cases r
theorem ix_rel {B : Bs} {w : Wd} {σ : L2.St} {H : Hp} {fr : Fr} {h : Hh} {x y : V} {d i z : D} {Q : VK} (R : Rel X.K T B w σ H fr h) (rx : vO X.K T B σ w H fr x d) (ry : RelD X.K T w y i) (q : bIdx h d i = some z)
    (k : ∀ v, RelD X.K T w v z → Q v H) : ixM X x y H Q := by
  unfold bIdx at q
  split at q
  · rename_i z' i'
    split at q
    · rename_i hl
      obtain ⟨c, ec, rfl⟩ := Option.map_eq_some_iff.mp q
      rw [vo_str rx, rel_int ry]
      exact ix_ixm ix_str ⟨z', i', c, rfl, rfl, big_line hl, ec, k _ (.str _)⟩
    · cases q
  · rename_i i' _
    split at q
    · rename_i l el
      obtain ⟨p, vs, rfl, rl, sq⟩ := its_rel R rx el
      obtain ⟨v, ev, rv⟩ := atI_rel rl q
      rw [rel_int ry]
      rcases sq with sq | sq
      · exact ix_ixm ix_list ⟨p, vs, i', v, rfl, rfl, sq, ev, k v rv⟩
      · exact ix_ixm ix_tup ⟨p, vs, i', v, rfl, rfl, sq, ev, k v rv⟩
    · cases q
  · cases q
theorem sv_idx (sa : SimV X T W a ma) (sb : SimV X T W b mb) (hs : PlainIx b := by intro _ _; rfl) : SimV X T W (.Subscript a b pos) (mOp bIdx ma mb) := fun B w σ H fr h Q r1 p =>
  pe_we (pe_ix ix_max pe_max pe_max hs) (s_op (VR := vV) sa sb (fun B w σ H fr h x y d e z Q R rx ry q k => ix_rel R (.inl rx) ry q fun v rv => k w H v (Wd.le_refl _) R rv) B w σ H fr h Q r1 p)
/-- x[i], x a name: its slot is read behind i -/
def mHas (i : Nat) : M Unit := fun fr h => match fr[i]? with
  | some (some _) => .ok () fr h
  | _ => .err
def mLate {α : Type} (i : Nat) (m : M α) (f : Hh → D → α → Option D) : M D := (mHas i).bind fun _ => m.bind fun y => (mBor i).bind fun d fr h => M.opt (f h d y) fr h
theorem has_post {K : PySem.W.Frag} {B : Bs} {w : Wd} {σ : L2.St} {H : Hp} {fr : Fr} {h : Hh} {i : Nat} {α β : Type} {VR : Wd → Hp → Fr → β → α → Prop} {m : M α} {Q : β → Hp → Prop} (R : Rel K T B w σ H fr h) (p : Post K T B W VR w σ ((mHas i).bind (fun _ => m) fr h) Q) :
    (∃ v, σ[i]? = some (some v)) ∧ Post K T B W VR w σ (m fr h) Q := by
  cases e1 : fr[i]? with
  | none =>
    have q : mHas i fr h = .err := by unfold mHas; rw [e1]
    rw [M.bind_err q] at p
    exact p.elim
  | some o =>
    cases o with
    | none =>
      have q : mHas i fr h = .err := by unfold mHas; rw [e1]
      rw [M.bind_err q] at p
      exact p.elim
    | some d =>
      have q : mHas i fr h = .ok () fr h := by unfold mHas; rw [e1]
      rw [M.bind_ok q] at p
      obtain ⟨v, e2, z⟩ := slot_some R e1
      exact ⟨⟨v, e2⟩, p⟩
theorem bor_post {K : PySem.W.Frag} {B : Bs} {w : Wd} {σ : L2.St} {H : Hp} {fr : Fr} {h : Hh} {i : Nat} {v : V} {α β : Type} {VR : Wd → Hp → Fr → β → α → Prop} {f : D → M α} {Q : β → Hp → Prop} (R : Rel K T B w σ H fr h) (ev : σ[i]? = some (some v))
    (p : Post K T B W VR w σ ((mBor i).bind f fr h) Q) : ∃ d, vO K T B σ w H fr v d ∧ Post K T B W VR w σ (f d fr h) Q := by
  cases e1 : fr[i]? with
  | none =>
    have q : mBor i fr h = .err := by unfold mBor; rw [e1]
    rw [M.bind_err q] at p
    exact p.elim
  | some o =>
    cases o with
    | none =>
      have q : mBor i fr h = .err := by unfold mBor; rw [e1]
      rw [M.bind_err q] at p
      exact p.elim
    | some d =>
      have q : mBor i fr h = .ok d fr h := by unfold mBor; rw [e1]
      rw [M.bind_ok q] at p
      obtain ⟨v', e2, z⟩ := slot_some R e1
      rw [ev] at e2
      cases e2
      refine ⟨d, ?_, p⟩
      cases z with
      | val rd => exact .inl rd
      | own O eH rd => exact .inr ⟨_, _, rfl, eH, rd⟩
theorem sv_idxV (i : Nat) {x : Str} {px : Pos} (sb : SimV X T W b mb) (hs : PlainIx b := by intro _ _; rfl) (hN : X.N[i]? = some x := by rfl) (hv : Vis X.env.scope x := by first | exact Or.inl rfl | exact Or.inr (Or.inl rfl) | exact Or.inr (Or.inr rfl)) (hd : (x == ("__debug__" : Str)) = false := by decide)
    (hcd : (x == ("__classdict__" : Str)) = false := by decide) : SimV X T W (.Subscript (.Name x px) b pos) (mLate i mb bIdx) := fun B w σ H fr h Q r1 p => by
  obtain ⟨⟨v, ev⟩, p⟩ := has_post r1 p
  refine pe_we (pe_ix ix_max (pe_var hN hv hd hcd) pe_max hs) ⟨v, ev, sb B w σ H fr h _ r1 (Post.bind (VR := vV X.K T B σ) p fun y fr1 h1 w1 H1 u e1 l1 r2 ru p1 => ?_)⟩
  obtain ⟨d, rd, p2⟩ := bor_post r2 ev p1
  cases q : bIdx h1 d y with
  | none => rw [q] at p2; exact p2.elim
  | some z =>
    rw [q] at p2
    exact ix_rel r2 rd ru q fun v' rv => p2 w1 H1 v' (Wd.le_refl _) r2 rv

/-! ### a[i:j] -/
def slM (X : Cx) : V → Option Int → Option Int → Hp → VK → Prop := fun x lo hi H Q => ∀ pins s σ v vl vu sl, Inv X pins σ H s → RelV x v → s.heap.IsSliceOf sl vl vu .none → IsPart vl lo → IsPart vu hi →
    ∃ T id, typeLookup (.type T) "__getitem__" = pure (some (.builtin id)) ∧ s.TypeIs v T ∧ wpAny (model X.prog X.w) X.A (getItem v (.ref sl)) (EP X pins σ Q) X.xe s
theorem sl_max : SlR X (slM X) := fun pins s σ H x v vl vu lo hi sl Q I rx hs pl pu h => h pins s σ v vl vu sl I rx hs pl pu
theorem sl_slm {r : V → Option Int → Option Int → Hp → VK → Prop} (o : SlR X r) {x : V} {lo hi : Option Int} {H : Hp} {Q : VK} (h : r x lo hi H Q) : slM X x lo hi H Q := fun pins s σ v vl vu sl I rx hs pl pu => o pins s σ H x v vl vu lo hi sl Q I rx hs pl pu h
def WO (X : Cx) (e : Option Expr) : TO := fun σ H Q => ∀ pins s, Inv X pins σ H s → wpAny (model X.prog X.w) X.A (evalPart e X.env) (fun u s' => ∃ o H', Inv X pins σ H' s' ∧ IsPart u o ∧ Q o H') X.xe s
theorem po_max {e : Option Expr} : PO X e (WO X e) := ⟨fun pins s σ H Q I h => h pins s I⟩
theorem po_wo {e : Option Expr} {t : TO} (p : PO X e t) {σ : L2.St} {H : Hp} {Q : Option Int → Hp → Prop} (h : t σ H Q) : WO X e σ H Q := fun pins s I => p.run pins s σ H Q I h
def vI : VRel (Option Int) (Option Int) := fun _ _ _ _ _ _ _ b c => b = c
abbrev SimP (X : Cx) (T : Tb) (W : WX) (e : Option Expr) (m : M (Option Int)) : Prop := Sim (WO X e) X.K T W vI m
def mPn : M (Option Int) := M.ret none
def mPs (m : M D) : M (Option Int) := m.bind fun d => M.opt (match d with | .int i => some (some i) | _ => none)
theorem sp_none : SimP X T W none mPn := fun B w σ H fr h Q r p => po_wo po_none (p w H _ (Wd.le_refl _) r rfl)
theorem sp_some (s : SimV X T W e m) : SimP X T W (some e) (mPs m) := fun B w σ H fr h Q r p =>
  po_wo (po_some pe_max) (s B w σ H fr h _ r (Post.bind (VR := vV X.K T B σ) p fun d fr1 h1 w1 H1 x e1 l1 r1 rx p1 => by
    cases rx with
    | int i => exact ⟨i, rfl, p1 w1 H1 _ (Wd.le_refl _) r1 rfl⟩
    | _ => exact (show False from p1).elim))
def cutD {α : Type} (xs : List α) (lo hi : Option Int) : List α := (xs.drop (HT.sIx xs.length 0 lo)).take (HT.sIx xs.length xs.length hi - HT.sIx xs.length 0 lo)
theorem cut_rel {K : PySem.W.Frag} {w : Wd} {vs : List V} {ds : List D} {lo hi : Option Int} (r : RelDs K T w vs ds) : RelDs K T w (cutV vs lo hi) (cutD ds lo hi) := by
  unfold cutV cutD
  rw [r.length]
  exact (r.drop _).take _
def bCut (h : Hh) (d : D) (p : Option Int × Option Int) : Option D := match d with
  | .str z => if z.length ≤ big then some (.str (cutS z p.1 p.2)) else none
  | .tup l => some (.tup (cutD l p.1 p.2))
  | d => match d.der h with
    | .fl l => some (.nl (cutD l p.1 p.2))
    | .nl l => some (.nl (cutD l p.1 p.2))
    | .kl l => some (.nl (cutD l p.1 p.2))
    | _ => none
theorem cut_whole {α : Type} {xs : List α} {lo hi : Option Int} (h1 : HT.sIx xs.length 0 lo = 0) (h2 : HT.sIx xs.length xs.length hi = xs.length) : cutD xs lo hi = xs := by
  unfold cutD
  rw [h1, h2, List.drop_zero, Nat.sub_zero, List.take_length]
theorem lst_rel {K : PySem.W.Frag} {B : Bs} {w : Wd} {σ : L2.St} {H : Hp} {fr : Fr} {h : Hh} {v : V} {d : D} {l : List D} (R : Rel K T B w σ H fr h) (z : vO K T B σ w H fr v d) (e : d.der h = .fl l ∨ d.der h = .nl l ∨ d.der h = .kl l) :
    ∃ p vs, v = .ref p ∧ RelDs K T w vs l ∧ SqL K H p vs := by
  rcases z with z | ⟨p, o, rfl, eH, z⟩
  · cases z with
    | fl s r =>
      rcases e with e | e | e <;> cases e
      exact ⟨_, _, rfl, r, SqL.of (R.sub _ _ s)⟩
    | kl s r =>
      rcases e with e | e | e <;> cases e
      exact ⟨_, _, rfl, r, sqL_le R.sub s⟩
    | @ref a n s =>
      have ln : n < h.length := by
        rw [← R.len]
        exact (List.getElem?_eq_some_iff.mp s).1
      obtain ⟨o, q, rr⟩ := R.cel n a h[n] s (List.getElem?_eq_getElem ln)
      have e0 : D.der h (.ref n) = h[n] := by
        unfold D.der
        dsimp only
        rw [List.getElem?_eq_getElem ln]
        rfl
      rw [e0] at e
      generalize h[n] = c at rr e
      cases rr with
      | lst r =>
        rcases e with e | e | e <;> cases e
        exact ⟨_, _, rfl, r, SqL.of q⟩
      | obj r => rcases e with e | e | e <;> cases e
    | _ => rcases e with e | e | e <;> cases e
  · cases z with
    | lst r =>
      rcases e with e | e | e <;> cases e
      exact ⟨_, _, rfl, r, SqL.of eH⟩
    | obj r => rcases e with e | e | e <;> cases e
theorem cut_ok {B : Bs} {w : Wd} {σ : L2.St} {H : Hp} {fr : Fr} {h : Hh} {x : V} {d z : D} {lo hi : Option Int} {Q : VK} (R : Rel X.K T B w σ H fr h) (rx : vO X.K T B σ w H fr x d) (q : bCut h d (lo, hi) = some z)
    (k : ∀ w' H' v, w.le w' → Rel X.K T B w' σ H' fr h → vE X.K T B σ w' H' fr v z → Q v H') : slM X x lo hi H Q := by
  have fin : ∀ {l : List D}, (d.der h = .fl l ∨ d.der h = .nl l ∨ d.der h = .kl l) → z = .nl (cutD l lo hi) → slM X x lo hi H Q := fun {l} el ez => by
    obtain ⟨p, vs, rfl, rl, sq⟩ := lst_rel R rx el
    subst ez
    exact sl_slm sl_list ⟨p, vs, rfl, sq, fun q nq => new_lst R (cut_rel rl) nq k⟩
  unfold bCut at q
  split at q
  · split at q
    · rename_i hl
      cases q
      rw [vo_str rx]
      exact sl_slm sl_str ⟨_, rfl, big_line hl, k w H _ (Wd.le_refl _) R (.inl (.str _))⟩
    · cases q
  · cases q
    rcases rx with rx | ⟨_, _, _, _, r⟩
    · obtain ⟨p, vs, rfl, s, rl⟩ := rel_tup rx
      refine sl_slm sl_tupA ⟨p, vs, rfl, sqT_le R.sub s, fun hw => ?_, fun _ q nq => new_tup R (cut_rel rl) nq fun w' H' v l R' r' => k w' H' v l R' (.inl r')⟩
      rw [rl.length] at hw
      refine k w H _ (Wd.le_refl _) R (.inl ?_)
      rw [cut_whole hw.1 hw.2]
      exact rx
    · cases r
  · split at q
    · rename_i l el
      exact fin (.inl el) (by cases q; rfl)
    · rename_i l el
      exact fin (.inr (.inl el)) (by cases q; rfl)
    · rename_i l el
      exact fin (.inr (.inr el)) (by cases q; rfl)
    · cases q
def mPair (ml mh : M (Option Int)) : M (Option Int × Option Int) := ml.bind fun l => mh.bind fun u => M.ret (l, u)
variable {lo hi : Option Expr} {ml mh : M (Option Int)}
def mCut (ma : M D) (ml mh : M (Option Int)) : M D := ma.bind fun d => ml.bind fun l => mh.bind fun u fr h => M.opt (bCut h d (l, u)) fr h
theorem se_cut (sa : SimV X T W a ma) (sl : SimP X T W lo ml) (sh : SimP X T W hi mh) : SimE X T W (.Subscript a (.Slice lo hi none p2) pos) (mCut ma ml mh) := fun B w σ H fr h Q r1 p => by
  refine pe_we (pe_slice sl_max pe_max po_max po_max) (sa B w σ H fr h _ r1 (Post.bind (VR := vV X.K T B σ) p fun d fr0 h0 w0 H0 x e0 l0 r0 rx p => sl B w0 σ H0 fr0 h0 _ r0 (Post.bind (VR := vI X.K T B σ) p fun l fr1 h1 w1 H1 l' e1 l1 r2 rl p1 => sh B w1 σ H1 fr1 h1 _ r2 (Post.bind (VR := vI X.K T B σ) p1 fun u fr2 h2 w2 H2 u' e2 l2 r3 ru p2 => ?_))))
  have rl' : l' = l := rl
  have ru' : u' = u := ru
  subst rl' ru'
  cases q : bCut h2 d (l', u') with
  | none => rw [q] at p2; exact p2.elim
  | some z =>
    rw [q] at p2
    exact cut_ok r3 (.inl (rx.mono (Wd.le_trans l1 l2))) q p2

/-! ### built-in functions of one value -/
variable {x : Str}
theorem s_b1 {VR1 VR : VRel V D} {id : String} {f : Hh → D → Option D} (sa : Sim (WE X a) X.K T W VR1 ma) (hr : ∀ B w σ H fr h x d z Q, Rel X.K T B w σ H fr h → VR1 X.K T B σ w H fr x d → f h d = some z → (∀ w' H' v, w.le w' → Rel X.K T B w' σ H' fr h → VR X.K T B σ w' H' fr v z → Q v H') → cM X (.builtin id) [x] H Q)
    (hm : X.mg x = none) (hg : Gl X x := by rfl) (hv : bootBuiltins x = some (.builtin id) := by decide +kernel) (hn : x ≠ "__name__" := by decide) (hdb : (x == ("__debug__" : Str)) = false := by decide)
    (he : starEach (a :: []) X.env = (false, eval a X.env) :: starEach [] X.env := by exact star_no rfl) (hpl : (backTo pos (starEach [] X.env)).any (·.1) = false := by rfl) : Sim (WE X (.Call (.Name x pf) [a] [] pos)) X.K T W VR (mUn f ma) := fun B w σ H fr h Q r1 p =>
  pe_we (pe_callB call_max hg hm hv (pa_cons pe_max pa_nil he) hn hdb he hpl) (s_un (r := fun x H Q => cM X (.builtin id) [x] H Q) sa hr B w σ H fr h Q r1 p)
theorem s_t1 {VR1 VR : VRel V D} {id : String} {f : Hh → D → Option D} (sa : Sim (WE X a) X.K T W VR1 ma) (hr : ∀ B w σ H fr h x d z Q, Rel X.K T B w σ H fr h → VR1 X.K T B σ w H fr x d → f h d = some z → (∀ w' H' v, w.le w' → Rel X.K T B w' σ H' fr h → VR X.K T B σ w' H' fr v z → Q v H') → cM X (.type id) [x] H Q)
    (hm : X.mg x = none) (hg : Gl X x := by rfl) (hv : bootBuiltins x = some (.type id) := by decide +kernel) (hn : x ≠ "__name__" := by decide) (hdb : (x == ("__debug__" : Str)) = false := by decide)
    (he : starEach (a :: []) X.env = (false, eval a X.env) :: starEach [] X.env := by exact star_no rfl) (hpl : (backTo pos (starEach [] X.env)).any (·.1) = false := by rfl) : Sim (WE X (.Call (.Name x pf) [a] [] pos)) X.K T W VR (mUn f ma) := fun B w σ H fr h Q r1 p =>
  pe_we (pe_callTy call_max hg hm hv (pa_cons pe_max pa_nil he) hn hdb he hpl) (s_un (r := fun x H Q => cM X (.type id) [x] H Q) sa hr B w σ H fr h Q r1 p)
def bLen (h : Hh) (d : D) : Option D := match d with
  | .str z => if z.length ≤ big then some (.int z.length) else none
  | d => (d.its h).map fun l => .int l.length
theorem sv_len (sa : SimO X T W a ma) (hm : X.mg "len" = none) (hg : Gl X "len" := by rfl) (he : starEach (a :: []) X.env = (false, eval a X.env) :: starEach [] X.env := by exact star_no rfl) : SimV X T W (.Call (.Name "len" pf) [a] [] pos) (mUn bLen ma) :=
  s_b1 (id := "len") sa (fun B w σ H fr h x d z Q R rx q k => by
    unfold bLen at q
    split at q
    · split at q
      · rename_i hl
        cases q
        rw [vo_str rx]
        exact call_cm call_len_str ⟨_, rfl, big_line hl, k w H _ (Wd.le_refl _) R (.int _)⟩
      · cases q
    · obtain ⟨l, el, rfl⟩ := Option.map_eq_some_iff.mp q
      obtain ⟨p, vs, rfl, rl, sq⟩ := its_rel R rx el
      refine call_cm call_len_seq ⟨p, vs, rfl, sq, ?_⟩
      rw [rl.length]
      exact k w H _ (Wd.le_refl _) R (.int _)) hm hg (by decide +kernel) (by decide) (by decide) he
def bInt1 (_ : Hh) (d : D) : Option D := match d with
  | .int i => some (.int i)
  | .bl b => some (.int (if b then 1 else 0))
  | .str z => if z.length ≤ 640 then (PySem.intText? z).map .int else none
  | _ => none
theorem sv_intf (sa : SimV X T W a ma) (hm : X.mg "int" = none) (hg : Gl X "int" := by rfl) (he : starEach (a :: []) X.env = (false, eval a X.env) :: starEach [] X.env := by exact star_no rfl) : SimV X T W (.Call (.Name "int" pf) [a] [] pos) (mUn bInt1 ma) :=
  s_t1 (id := "int") sa (fun B w σ H fr h x d z Q R rx q k => by
    unfold bInt1 at q
    split at q
    · cases q
      rw [rel_int rx]
      exact call_cm call_int1 (.inl ⟨_, rfl, k w H _ (Wd.le_refl _) R (.int _)⟩)
    · cases q
      rw [rel_bl rx]
      exact call_cm call_int1 (.inr ⟨_, rfl, k w H _ (Wd.le_refl _) R (.int _)⟩)
    · split at q
      · rename_i hl
        obtain ⟨n, en, rfl⟩ := Option.map_eq_some_iff.mp q
        rw [rel_str rx]
        exact call_cm call_int_str ⟨_, n, rfl, en, hl, k w H _ (Wd.le_refl _) R (.int _)⟩
      · cases q
    · cases q) hm hg (by decide +kernel) (by decide) (by decide) he
def bAbs (_ : Hh) (d : D) : Option D := match d with
  | .int i => some (.int (if i < 0 then -i else i))
  | _ => none
theorem sv_abs (sa : SimV X T W a ma) (hm : X.mg "abs" = none) (hg : Gl X "abs" := by rfl) (he : starEach (a :: []) X.env = (false, eval a X.env) :: starEach [] X.env := by exact star_no rfl) : SimV X T W (.Call (.Name "abs" pf) [a] [] pos) (mUn bAbs ma) :=
  s_b1 (id := "abs") sa (fun B w σ H fr h x d z Q R rx q k => by
    unfold bAbs at q
    split at q
    · cases q
      rw [rel_int rx]
      exact call_cm call_abs ⟨_, rfl, k w H _ (Wd.le_refl _) R (.int _)⟩
    · cases q) hm hg (by decide +kernel) (by decide) (by decide) he
def bList (h : Hh) (d : D) : Option D := (d.its h).map .nl
def bTuple (h : Hh) (d : D) : Option D := (d.its h).map .tup
/-- ints of a list -/
def D.ints : List D → Option (List Int)
  | [] => some []
  | .int i :: r => (D.ints r).map (i :: ·)
  | _ :: _ => none
/-- the ints of a list (no tuple) -/
def D.lints (h : Hh) (d : D) : Option (List Int) := match d.der h with
  | .fl l => D.ints l
  | .nl l => D.ints l
  | .kl l => D.ints l
  | _ => none
def bSum (h : Hh) (d : D) : Option D := (d.lints h).map fun l => .int l.sum
def maxL : Int → List Int → Int
  | a, [] => a
  | a, b :: r => maxL (if b > a then b else a) r
def minL : Int → List Int → Int
  | a, [] => a
  | a, b :: r => minL (if b < a then b else a) r
def bMax1 (h : Hh) (d : D) : Option D := match d.lints h with
  | some (a :: r) => some (.int (maxL a r))
  | _ => none
def bMin1 (h : Hh) (d : D) : Option D := match d.lints h with
  | some (a :: r) => some (.int (minL a r))
  | _ => none
/-- built-in functions of two values -/
theorem s_b2 {VR2 VR : VRel V D} {id : String} {f : Hh → D → D → Option D} (sa : SimV X T W a ma) (sb : Sim (WE X b) X.K T W VR2 mb)
    (hr : ∀ B w σ H fr h x y d e z Q, Rel X.K T B w σ H fr h → RelD X.K T w x d → VR2 X.K T B σ w H fr y e → f h d e = some z → (∀ w' H' v, w.le w' → Rel X.K T B w' σ H' fr h → VR X.K T B σ w' H' fr v z → Q v H') → cM X (.builtin id) [x, y] H Q)
    (hm : X.mg x = none) (hg : Gl X x := by rfl) (hv : bootBuiltins x = some (.builtin id) := by decide +kernel) (hn : x ≠ "__name__" := by decide) (hdb : (x == ("__debug__" : Str)) = false := by decide)
    (he : starEach (a :: b :: []) X.env = (false, eval a X.env) :: starEach (b :: []) X.env := by exact star_no rfl) (he2 : starEach (b :: []) X.env = (false, eval b X.env) :: starEach [] X.env := by exact star_no rfl)
    (hpl : (backTo pos (starEach (b :: []) X.env)).any (·.1) = false := by rfl) : Sim (WE X (.Call (.Name x pf) [a, b] [] pos)) X.K T W VR (mOp f ma mb) := fun B w σ H fr h Q r1 p =>
  pe_we (pe_callB call_max hg hm hv (pa_cons pe_max (pa_cons pe_max pa_nil he2) he) hn hdb he hpl) (s_op (r := fun x y H Q => cM X (.builtin id) [x, y] H Q) sa sb hr B w σ H fr h Q r1 p)
abbrev bMax2 := bInt cYes fun i j => if j > i then j else i
abbrev bMin2 := bInt cYes fun i j => if j < i then j else i
theorem sv_max2 (C : Cq X T W k) (sa : SimV X T W a ma) (sb : SimV X T W b mb) (hm : X.mg "max" = none) (hg : Gl X "max" := by rfl) (he : starEach (a :: b :: []) X.env = (false, eval a X.env) :: starEach (b :: []) X.env := by exact star_no rfl) (he2 : starEach (b :: []) X.env = (false, eval b X.env) :: starEach [] X.env := by exact star_no rfl)
    (hpl : (backTo pos (starEach (b :: []) X.env)).any (·.1) = false := by rfl) : SimV X T W (.Call (.Name "max" pf) [a, b] [] pos) (mOp bMax2 ma mb) :=
  s_b2 (id := "max") sa sb (fun B w σ H fr h x y d e z Q R rx ry q kk => by
    unfold bMax2 bInt at q
    split at q
    · cases q
      rw [rel_int rx, rel_int ry]
      exact call_cm (call_max2 C.calm) ⟨_, _, rfl, kk w H _ (Wd.le_refl _) R (.int _)⟩
    · cases q) hm hg (by decide +kernel) (by decide) (by decide) he he2 hpl
theorem sv_min2 (C : Cq X T W k) (sa : SimV X T W a ma) (sb : SimV X T W b mb) (hm : X.mg "min" = none) (hg : Gl X "min" := by rfl) (he : starEach (a :: b :: []) X.env = (false, eval a X.env) :: starEach (b :: []) X.env := by exact star_no rfl) (he2 : starEach (b :: []) X.env = (false, eval b X.env) :: starEach [] X.env := by exact star_no rfl)
    (hpl : (backTo pos (starEach (b :: []) X.env)).any (·.1) = false := by rfl) : SimV X T W (.Call (.Name "min" pf) [a, b] [] pos) (mOp bMin2 ma mb) :=
  s_b2 (id := "min") sa sb (fun B w σ H fr h x y d e z Q R rx ry q kk => by
    unfold bMin2 bInt at q
    split at q
    · cases q
      rw [rel_int rx, rel_int ry]
      exact call_cm (call_min2 C.calm) ⟨_, _, rfl, kk w H _ (Wd.le_refl _) R (.int _)⟩
    · cases q) hm hg (by decide +kernel) (by decide) (by decide) he he2 hpl
end
end Pk

/-! Pk5: statements, loops, comprehensions. -/
namespace Pk
open PySem PySem.Spec L2

/-! ### a new object is kept while more is evaluated -/
def Bs.pr (B : Bs) (p : Addr) (o : HO) : Bs := ⟨B.w0, B.H0, (p, o) :: B.P, B.me⟩
section
variable {K : PySem.W.Frag} {T : Tb} {B : Bs} {w w' : Wd} {σ : L2.St} {H H' : Hp} {fr : Fr} {h : Hh} {p : Addr} {o : HO}
theorem Own.pr (O : Own B w p) {q : Addr} {u : HO} (hq : q ≠ p) : Own (B.pr q u) w p := ⟨O.f, O.i, O.e, fun z hz => by
  rcases List.mem_cons.mp hz with e | hz
  · rw [e]
    exact hq
  · exact O.p z hz⟩
theorem Own.unpr {q : Addr} {u : HO} (O : Own (B.pr q u) w p) : Own B w p := ⟨O.f, O.i, O.e, fun z hz => O.p z (List.mem_cons_of_mem _ hz)⟩
theorem Rel.protect (R : Rel K T B w σ H fr h) (O : Own B w p) (lo : Loose σ fr p) (e : H p = some o) : Rel K T (B.pr p o) w σ H fr h :=
  { R with
    prot := fun q hq => by
      rcases List.mem_cons.mp hq with z | hq
      · rw [z]
        exact ⟨e, O.f, O.i⟩
      · exact R.prot q hq
    sl := fun i s d e1 e2 => by
      have z := R.sl i s d e1 e2
      cases z with
      | none => exact .none
      | val r => exact .val r
      | @own q u _ O' eH' rr =>
        have hne : p ≠ q := fun z => lo i ⟨by rw [z]; exact e1, _, e2, rr.own⟩
        exact .own (O'.pr hne) eH' rr }
theorem Rel.unprotect (R : Rel K T (B.pr p o) w σ H fr h) (e0 : B.H0 p = none) (hP : ∀ q ∈ B.P, q.1 ≠ p) : Rel K T B w σ H fr h ∧ Own B w p ∧ Loose σ fr p ∧ H p = some o := by
  obtain ⟨h1, h2, h3⟩ := R.prot (p, o) (List.mem_cons_self)
  refine ⟨{ R with prot := fun q hq => R.prot q (List.mem_cons_of_mem _ hq), sl := fun i s d e1 e2 => ?_ }, ⟨h2, h3, e0, hP⟩, fun i ⟨q1, d, q2, od⟩ => ?_, h1⟩
  · have z := R.sl i s d e1 e2
    cases z with
    | none => exact .none
    | val r => exact .val r
    | own O' eH' rr => exact .own O'.unpr eH' rr
  · have z := R.sl i _ _ q1 q2
    cases z with
    | val r => exact own_not od r
    | own O' eH' rr => exact O'.p (p, o) (List.mem_cons_self) rfl
/-- the protected object changes -/
theorem Rel.repr {o' : HO} (R : Rel K T (B.pr p o) w σ H fr h) (e0 : B.H0 p = none) (hP : ∀ q ∈ B.P, q.1 ≠ p) : Rel K T (B.pr p o') w σ (upd H p o') fr h := by
  obtain ⟨R1, O, lo, e⟩ := R.unprotect e0 hP
  refine Rel.protect { R1 with keep := fun a u ha hm => ?_, prot := fun q hq => ?_, sub := fun a u ha => ?_, cel := fun n a c q1 q2 => ?_, sl := fun j s dj q1 q2 => ?_ } O lo upd_same
  · rw [upd_ne (fun z => by rw [z, e0] at ha; cases ha)]
    exact R1.keep a u ha hm
  · obtain ⟨h1, h2, h3⟩ := R1.prot q hq
    exact ⟨by rw [upd_ne (hP q hq)]; exact h1, h2, h3⟩
  · rw [upd_ne (fun z => by rw [z, O.f] at ha; cases ha)]
    exact R1.sub a u ha
  · have hne : a ≠ p := fun z => O.i (by rw [← z]; exact List.mem_of_getElem? q1)
    exact CelR.keep (Wd.le_refl w) (upd_ne hne) (R1.cel n a c q1 q2)
  · have z := R1.sl j s dj q1 q2
    cases z with
    | none => exact .none
    | val r => exact .val r
    | @own q u _ O' eH' rr =>
      have hne : q ≠ p := fun z => lo j ⟨by rw [← z]; exact q1, _, q2, rr.own⟩
      exact .own O' (by rw [upd_ne hne]; exact eH') rr
end

/-! ### the largest readings of targets and of what a for walks -/
def WG (X : Cx) (tg : Expr) : TG := fun v σ H Q => ∀ pins s u, Inv X pins σ H s → RelV v u → wpAny (model X.prog X.w) X.A (assign tg X.env u) (fun _ s' => ∃ σ' H', Inv X pins σ' H' s' ∧ Q σ' H') X.xe s
structure WI (X : Cx) (tg iter : Expr) (σ : L2.St) (H : Hp) (R : It → Hp → Prop) : Prop where
  go : ∀ pins s, Inv X pins σ H s → wpAny (model X.prog X.w) X.A (eval iter X.env) (fun v s1 => wpAny (model X.prog X.w) X.A (pyIter v) (PIE X pins σ tg R) X.xe s1) X.xe s
def WTs (X : Cx) (ifs : List Expr) : TT := fun σ H Q => ∀ pins s, Inv X pins σ H s →
    wpAny (model X.prog X.w) X.A (forIn ifs true fun c r => if r = true then do let ok ← isTrue c X.env (eval c X.env); pure (ForInStep.yield ok) else pure (ForInStep.yield r)) (TP X pins σ Q) X.xe s
section
variable {X : Cx} {tg iter : Expr} {ifs : List Expr}
theorem pg_max : PG X tg (WG X tg) := ⟨fun pins s σ H v u Q I r h => h pins s u I r⟩
theorem pi_max : PI X tg iter (WI X tg iter) := ⟨fun pins s σ H R I h => h.go pins s I⟩
theorem pg_wg {t : TG} (p : PG X tg t) {v : V} {σ : L2.St} {H : Hp} {Q : L2.St → Hp → Prop} (h : t v σ H Q) : WG X tg v σ H Q := fun pins s u I r => p.run pins s σ H v u Q I r h
theorem pi_wi {t : TI} (p : PI X tg iter t) {σ : L2.St} {H : Hp} {R : It → Hp → Prop} (h : t σ H R) : WI X tg iter σ H R := ⟨fun pins s I => p.run pins s σ H R I h⟩
end

/-! ### arguments that may be new objects -/
inductive EsR (K : PySem.W.Frag) (T : Tb) (B : Bs) (σ : L2.St) (w : Wd) (H : Hp) (fr : Fr) : List V → List D → List Addr → Prop where
  | nil : EsR K T B σ w H fr [] [] []
  | val {v : V} {d : D} {vs : List V} {ds : List D} {ps : List Addr} : RelD K T w v d → EsR K T B σ w H fr vs ds ps → EsR K T B σ w H fr (v :: vs) (d :: ds) ps
  | own {p : Addr} {o : HO} {d : D} {vs : List V} {ds : List D} {ps : List Addr} : Own B w p → Loose σ fr p → H p = some o → OwnR K T w o d → p ∉ ps → EsR K T B σ w H fr vs ds ps → EsR K T B σ w H fr (.ref p :: vs) (d :: ds) (p :: ps)
def vEs : VRel (List V) (List D) := fun K T B σ w H fr vs ds => ∃ ps, EsR K T B σ w H fr vs ds ps
abbrev SimEs (X : Cx) (T : Tb) (W : WX) (es : List Expr) (m : M (List D)) : Prop := Sim (WA X es) X.K T W vEs m
theorem EsR.unpr {K : PySem.W.Frag} {T : Tb} {B : Bs} {σ : L2.St} {w : Wd} {H : Hp} {fr : Fr} {p : Addr} {o : HO} {vs : List V} {ds : List D} {ps : List Addr} (x : EsR K T (B.pr p o) σ w H fr vs ds ps) : EsR K T B σ w H fr vs ds ps ∧ p ∉ ps := by
  induction x with
  | nil => exact ⟨.nil, by simp⟩
  | val r _ ih => exact ⟨.val r ih.1, ih.2⟩
  | @own q u d vs ds ps O lo e r nq _ ih =>
    refine ⟨.own O.unpr lo e r nq ih.1, fun z => ?_⟩
    rcases List.mem_cons.mp z with z | z
    · exact O.p (p, o) (List.mem_cons_self) z
    · exact ih.2 z
theorem EsR.length {K : PySem.W.Frag} {T : Tb} {B : Bs} {σ : L2.St} {w : Wd} {H : Hp} {fr : Fr} {vs : List V} {ds : List D} {ps : List Addr} (x : EsR K T B σ w H fr vs ds ps) : vs.length = ds.length := by
  induction x with
  | nil => rfl
  | val _ _ ih => exact congrArg Nat.succ ih
  | own _ _ _ _ _ _ ih => exact congrArg Nat.succ ih
/-- what follows under a protection -/
theorem Post.pr {α β : Type} {K : PySem.W.Frag} {T : Tb} {B : Bs} {W : WX} {VR VR' : Wd → Hp → Fr → β → α → Prop} {w : Wd} {σ : L2.St} {p : Addr} {o : HO} {r : R α} {Q Q' : β → Hp → Prop} (e0 : B.H0 p = none) (hP : ∀ q ∈ B.P, q.1 ≠ p) (x : Post K T B W VR w σ r Q)
    (k : ∀ d fr h w' H' v, r = .ok d fr h → w.le w' → Rel K T (B.pr p o) w' σ H' fr h → VR' w' H' fr v d → (∀ w2 H2 v2, w.le w2 → Rel K T B w2 σ H2 fr h → VR w2 H2 fr v2 d → Q v2 H2) → Q' v H') : Post K T (B.pr p o) W VR' w σ r Q' := by
  cases r with
  | ok d fr h => exact fun w' H' v l R z => k d fr h w' H' v rfl l R z x
  | exc e fr h => exact fun w' H' c dd l R z => x w' H' c dd l (R.unprotect e0 hP).1 z
  | err => exact x
section
variable {X : Cx} {T : Tb} {W : WX} {e : Expr} {es : List Expr} {m : M D} {ms : List (M D)}
theorem ses_nil : SimEs X T W [] (mArgs []) := fun B w σ H fr h Q r1 p => pa_wa pa_nil (p w H _ (Wd.le_refl _) r1 ⟨[], .nil⟩)
theorem ses_cons (s : SimE X T W e m) (t : SimEs X T W es (mArgs ms)) (hs : starEach (e :: es) X.env = (false, eval e X.env) :: starEach es X.env := by exact star_no rfl) : SimEs X T W (e :: es) (mArgs (m :: ms)) := fun B w σ H fr h Q r1 p =>
  pa_wa (pa_cons pe_max pa_max hs) (s B w σ H fr h _ r1 (Post.bind (VR := vE X.K T B σ) p fun d fr1 h1 w1 H1 x e1 l1 r1 rx p1 => by
    rcases rx with rx | ⟨q, o, rfl, O, lo, eH, rd⟩
    · exact t B w1 σ H1 fr1 h1 _ r1 (Post.bind (VR := vEs X.K T B σ) p1 fun ds fr2 h2 w2 H2 vs e2 l2 r2 ⟨ps, rs⟩ p2 => p2 w2 H2 _ (Wd.le_refl _) r2 ⟨ps, .val (rx.mono l2) rs⟩)
    · refine t (B.pr q o) w1 σ H1 fr1 h1 _ (r1.protect O lo eH) ?_
      have p1' : Post X.K T B W (vEs X.K T B σ) w1 σ ((mArgs ms).bind (fun ds => M.ret (d :: ds)) fr1 h1) Q := p1
      cases e2 : mArgs ms fr1 h1 with
      | ok ds fr2 h2 =>
        rw [M.bind_ok e2] at p1'
        intro w2 H2 vs l2 r2 ⟨ps, rs⟩
        obtain ⟨r3, O3, lo3, eH3⟩ := r2.unprotect O.e O.p
        obtain ⟨rs', np⟩ := rs.unpr
        exact p1' w2 H2 (.ref q :: vs) l2 r3 ⟨q :: ps, .own O3 lo3 eH3 (rd.mono l2) np rs'⟩
      | exc y fr2 h2 =>
        rw [M.bind_exc e2] at p1'
        exact fun w' H' c dd l R z => p1' w' H' c dd l (R.unprotect O.e O.p).1 z
      | err =>
        rw [M.bind_err e2] at p1'
        exact p1'))
end

/-! ### targets of values -/
def SameOut (is : List Nat) (σ' σ : L2.St) : Prop := σ'.length = σ.length ∧ ∀ j : Nat, j ∉ is → σ'[j]? = σ[j]?
/-- is: the slots that a target sets -/
def SimG (X : Cx) (T : Tb) (is : List Nat) (tg : Expr) (mg : D → M Unit) : Prop := ∀ B w σ H fr h x d (Q : L2.St → Hp → Prop), Rel X.K T B w σ H fr h → RelD X.K T w x d →
  (match mg d fr h with
    | .ok _ fr' h' => ∀ w' σ' H', w.le w' → Rel X.K T B w' σ' H' fr' h' → SameOut is σ' σ → Q σ' H'
    | _ => False) → WG X tg x σ H Q
def SimGs (X : Cx) (T : Tb) (is : List Nat) (tgs : List Expr) (mg : List D → M Unit) : Prop := ∃ t, PGs X tgs t ∧ ∀ B w σ H fr h xs ds (Q : L2.St → Hp → Prop), Rel X.K T B w σ H fr h → RelDs X.K T w xs ds →
  (match mg ds fr h with
    | .ok _ fr' h' => ∀ w' σ' H', w.le w' → Rel X.K T B w' σ' H' fr' h' → SameOut is σ' σ → Q σ' H'
    | _ => False) → t xs σ H Q
def tgNm (i : Nat) (d : D) : M Unit := fun fr h => .ok () (fr.set i (some d)) h
def tgNil : List D → M Unit
  | [] => M.ret ()
  | _ => M.opt none
def tgCons (g : D → M Unit) (gs : List D → M Unit) : List D → M Unit
  | [] => M.opt none
  | d :: ds => (g d).bind fun _ => gs ds
/-- a tuple's items, or a list's -/
def tgTup (n : Nat) (gs : List D → M Unit) (d : D) : M Unit := match d with
  | .tup l => if l.length = n then gs l else M.opt none
  | _ => M.opt none
section
variable {X : Cx} {T : Tb} {W : WX} {k : Nat} {pos : Pos} {tg : Expr} {tgs : List Expr} {g : D → M Unit} {gs : List D → M Unit} {is js : List Nat}
theorem sg_name (C : Cq X T W k) (i : Nat) {x : Str} (hi : X.N[i]? = some x := by rfl) (hx : Loc X.env.scope x := by first | exact Or.inl rfl | exact Or.inr rfl) (hf : X.fn x = true ∨ X.env.scope.names.lookup x = some .local := by first | exact .inl rfl | exact .inr rfl) :
    SimG X T [i] (.Name x pos) (tgNm i) := fun B w σ H fr h v d Q R rd p => pg_wg (pg_name C.nd hi hx hf) (p w _ H (Wd.le_refl _) (R.set_slot (.val rd) (fun _ _ _ e od => by
  cases e
  exact (own_not od rd).elim) fun _ _ e => by
  cases e
  exact relD_own rd) ⟨List.length_set, fun j hj => by
    rw [List.getElem?_set_ne]
    intro e
    exact hj (by simp [e])⟩)
theorem sgs_nil : SimGs X T [] [] tgNil := ⟨_, pgs_nil, fun B w σ H fr h vs ds Q R rd p => by
  cases rd with
  | nil => exact ⟨rfl, p w σ H (Wd.le_refl _) R ⟨rfl, fun _ _ => rfl⟩⟩
  | cons _ _ => exact p.elim⟩
theorem sgs_cons (s : SimG X T is tg g) (t : SimGs X T js tgs gs) (hs : (assignEach (tg :: tgs) X.env).map (·.2) = assign tg X.env :: (assignEach tgs X.env).map (·.2) := by rfl) : SimGs X T (is ++ js) (tg :: tgs) (tgCons g gs) := by
  obtain ⟨u, pu, t⟩ := t
  refine ⟨_, pgs_cons pg_max pu hs, fun B w σ H fr h vs ds Q R rd p => ?_⟩
  cases rd with
  | nil => exact p.elim
  | @cons v d vr dr r rr =>
    refine ⟨v, vr, rfl, s B w σ H fr h v d _ R r ?_⟩
    have p' : (match (g d).bind (fun _ => gs dr) fr h with
      | .ok _ fr' h' => ∀ w' σ' H', w.le w' → Rel X.K T B w' σ' H' fr' h' → SameOut (is ++ js) σ' σ → Q σ' H'
      | _ => False) := p
    cases e : g d fr h with
    | ok _ fr1 h1 =>
      rw [M.bind_ok e] at p'
      intro w1 σ1 H1 l1 R1 k1
      refine t B w1 σ1 H1 fr1 h1 vr dr Q R1 (rr.mono l1) ?_
      cases e2 : gs dr fr1 h1 with
      | ok _ fr2 h2 =>
        rw [e2] at p'
        exact fun w2 σ2 H2 l2 R2 k2 => p' w2 σ2 H2 (Wd.le_trans l1 l2) R2 ⟨k2.1.trans k1.1, fun j hj => by
          rw [List.mem_append, not_or] at hj
          rw [k2.2 j hj.2, k1.2 j hj.1]⟩
      | exc _ _ _ => rw [e2] at p'; exact p'
      | err => rw [e2] at p'; exact p'
    | exc y fr1 h1 =>
      rw [M.bind_exc e] at p'
      exact p'.elim
    | err =>
      rw [M.bind_err e] at p'
      exact p'.elim
theorem sg_tup (C : Cq X T W k) {kk : Nat} {n : Nat} (t : SimGs X T is tgs gs) (hn : (assignEach tgs X.env).length = n := by rfl) (hst : (assignEach tgs X.env).findIdx? (·.1) = none := by rfl) : SimG X T is (.Tuple tgs kk pos) (tgTup n gs) := by
  obtain ⟨u, pu, t⟩ := t
  refine fun B w σ H fr h x d Q R rd p => pg_wg (pg_tup C.calm pu hn hst) ?_
  cases d with
  | tup l =>
    have p' : (match (if l.length = n then gs l else M.opt none) fr h with
      | .ok _ fr' h' => ∀ w' σ' H', w.le w' → Rel X.K T B w' σ' H' fr' h' → SameOut is σ' σ → Q σ' H'
      | _ => False) := p
    by_cases hl : l.length = n
    · rw [if_pos hl] at p'
      obtain ⟨a, vs, rfl, sq, rl⟩ := rel_tup rd
      exact ⟨a, vs, rfl, sqT_le R.sub sq, rl.length.trans hl, t B w σ H fr h vs l Q R rl p'⟩
    · rw [if_neg hl] at p'
      exact p'.elim
  | _ => exact (show False from p).elim
/-- names that take values or new objects -/
def mPuts : List Nat → List D → Fr → Option Fr
  | [], [], fr => some fr
  | i :: is, d :: ds, fr => mPuts is ds (fr.set i (some d))
  | _, _, _ => none
theorem Rel.putV {K : PySem.W.Frag} {B : Bs} {w : Wd} {σ : L2.St} {H : Hp} {fr : Fr} {h : Hh} {v : V} {d : D} (R : Rel K T B w σ H fr h) (i : Nat) (r : RelD K T w v d) : Rel K T B w (σ.set i (some v)) H (fr.set i (some d)) h :=
  R.set_slot (.val r) (fun _ _ _ e od => by
    cases e
    exact (own_not od r).elim) fun _ _ e => by
    cases e
    exact relD_own r
theorem Rel.put {K : PySem.W.Frag} {B : Bs} {w : Wd} {σ : L2.St} {H : Hp} {fr : Fr} {h : Hh} {v : V} {d : D} (R : Rel K T B w σ H fr h) (i : Nat) (hi : i ≠ 0) (x : vE K T B σ w H fr v d) : Rel K T B w (σ.set i (some v)) H (fr.set i (some d)) h := by
  rcases x with r | ⟨p, o, rfl, O, lo, e, r⟩
  · exact R.putV i r
  · exact R.set_slot (.own O e r) (fun q d' e1 e2 od => by
      cases e1
      cases e2
      exact lo) fun z => (hi z).elim
theorem loose_set {σ : L2.St} {fr : Fr} {i : Nat} {v : V} {d : D} {p : Addr} (lo : Loose σ fr p) (hv : d.own = true → v ≠ .ref p) : Loose (σ.set i (some v)) (fr.set i (some d)) p := fun j z => by
  obtain ⟨e1, dd, e2, od⟩ := z
  by_cases hj : i = j
  · subst hj
    have l1 : i < σ.length := by
      have := (List.getElem?_eq_some_iff.mp e1).1
      rwa [List.length_set] at this
    have l2 : i < fr.length := by
      have := (List.getElem?_eq_some_iff.mp e2).1
      rwa [List.length_set] at this
    rw [List.getElem?_set_self l1] at e1
    rw [List.getElem?_set_self l2] at e2
    cases e1
    cases e2
    exact hv od rfl
  · rw [List.getElem?_set_ne hj] at e1 e2
    exact lo j ⟨e1, dd, e2, od⟩
theorem EsR.set {K : PySem.W.Frag} {B : Bs} {w : Wd} {σ : L2.St} {H : Hp} {fr : Fr} {vs : List V} {ds : List D} {ps : List Addr} {i : Nat} {v : V} {d : D} (x : EsR K T B σ w H fr vs ds ps) (hv : ∀ p ∈ ps, d.own = true → v ≠ .ref p) :
    EsR K T B (σ.set i (some v)) w H (fr.set i (some d)) vs ds ps := by
  induction x with
  | nil => exact .nil
  | val r _ ih => exact .val r (ih hv)
  | own O lo e r nq _ ih => exact .own O (loose_set lo (hv _ (List.mem_cons_self))) e r nq (ih fun q hq => hv q (List.mem_cons_of_mem _ hq))
def SimGE (X : Cx) (T : Tb) (is : List Nat) (tgs : List Expr) : Prop := ∃ t, PGs X tgs t ∧ ∀ B w σ H fr fr' h xs ds ps (Q : L2.St → Hp → Prop), Rel X.K T B w σ H fr h → EsR X.K T B σ w H fr xs ds ps → mPuts is ds fr = some fr' →
  (∀ σ', Rel X.K T B w σ' H fr' h → Q σ' H) → t xs σ H Q
end

/-! ### what a for walks -/
/-- the iterator hands out the items -/
def vJ : VRel It (List D) := fun K T _ _ w _ _ J ds => ∀ i w1 H1, w.le w1 → (∀ a o, w1.F a = some o → H1 a = some o) →
  (ds.length ≤ i → J.stop i H1) ∧ ∀ d, ds[i]? = some d → J.go i H1 ∧ ∀ x H2, J.yld i H1 x H2 → ∀ B σ fr h, Rel K T B w1 σ H1 fr h → ∃ w2, w1.le w2 ∧ Rel K T B w2 σ H2 fr h ∧ RelD K T w2 x d
abbrev SimI (X : Cx) (T : Tb) (W : WX) (tg iter : Expr) (m : M (List D)) : Prop := Sim (WI X tg iter) X.K T W vJ m
section
variable {X : Cx} {T : Tb} {W : WX} {k : Nat} {pos p pf tpos : Pos} {tg e a b : Expr} {m ma mb : M D}
def mIt (m : M D) : M (List D) := m.bind fun d => M.opt (d.its [])
def iSeq (K : PySem.W.Frag) (tl : TE) : TI := fun σ H R => tl σ H fun x H1 => ∃ a, x = .ref a ∧ (((∃ xs, SqT K H1 a xs) ∧ R (Itt K a) H1) ∨ ((∃ xs, SqL K H1 a xs) ∧ R (Itl K a) H1))
open PyProof.Rows in
/-- range -/
def rngD (lo : Int) (n : Nat) : List D := (List.range n).map fun (i : Nat) => D.int (lo + (i : Int))
def cSm (i : Int) : Bool := decide (-(2 ^ 62) ≤ i) && decide (i < 2 ^ 62)
theorem cSm_of {i : Int} (h : cSm i = true) : -(2 ^ 62) ≤ i ∧ i < 2 ^ 62 := by
  obtain ⟨h1, h2⟩ := Bool.and_eq_true_iff.mp h
  exact ⟨of_decide_eq_true h1, of_decide_eq_true h2⟩
def mRng1 (m : M D) : M (List D) := m.bind fun d => M.opt (match d with
  | .int j => if cSm j then some (rngD 0 j.toNat) else none
  | _ => none)
def mRng2 (ma mb : M D) : M (List D) := ma.bind fun x => mb.bind fun y => M.opt (match x, y with
  | .int i, .int j => if cSm i && cSm j then some (rngD i (j - i).toNat) else none
  | _, _ => none)
theorem vJ_rng {K : PySem.W.Frag} {B : Bs} {σ : L2.St} {w : Wd} {H : Hp} {fr : Fr} (lo : Int) (n : Nat) : vJ K T B σ w H fr (Itr lo n) (rngD lo n) := fun i w2 H2 l2 hs => ⟨fun hi => by
  have hi' : (rngD lo n).length ≤ i := hi
  unfold rngD at hi'
  rw [List.length_map, List.length_range] at hi'
  exact hi', fun d' hd => by
  unfold rngD at hd
  rw [List.getElem?_map] at hd
  obtain ⟨j, hj, rfl⟩ := Option.map_eq_some_iff.mp hd
  obtain ⟨hl, ej⟩ := List.getElem?_eq_some_iff.mp hj
  rw [List.length_range] at hl
  rw [List.getElem_range] at ej
  subst ej
  refine ⟨hl, fun y H3 hy B' σ' fr' h' R' => ?_⟩
  obtain ⟨rfl, rfl⟩ := hy
  exact ⟨w2, Wd.le_refl _, R', .int _⟩⟩
theorem si_rng1 (s : SimV X T W a ma) (hm : X.mg "range" = none) (hg : Gl X "range" := by rfl) (hs : starEach [a] X.env = [(false, eval a X.env)] := by rfl) : SimI X T W tg (.Call (.Name "range" p) [a] [] pos) (mRng1 ma) := fun B w σ H fr h Q r p =>
  pi_wi (pi_range1 hg hm (pa_cons pe_max pa_nil (hs.trans (by rfl))) hs) (s B w σ H fr h _ r (Post.bind (VR := vV X.K T B σ) p fun d fr1 h1 w1 H1 x e1 l1 r1 rx p1 => by
    cases rx with
    | int j =>
      dsimp only at p1
      cases hj : cSm j with
      | false => rw [hj] at p1; exact (show False from p1).elim
      | true =>
        rw [hj] at p1
        obtain ⟨h1', h2'⟩ := cSm_of hj
        exact ⟨j, rfl, h1', h2', p1 w1 H1 (Itr 0 j.toNat) (Wd.le_refl _) r1 (vJ_rng 0 _)⟩
    | _ => exact (show False from p1).elim))
end
end Pk

/-! Pk6: statements. -/
namespace Pk
open PySem PySem.Spec L2

inductive Fl where
  | nx | brk | ct | rt (d : D)

/-- what a statement's result asks of what follows -/
def PostS (K : PySem.W.Frag) (T : Tb) (B : Bs) (W : WX) (w : Wd) (r : R Fl) (D : Ends) : Prop :=
  match r with
  | .ok .nx fr h => ∀ w' σ' H', w.le w' → Rel K T B w' σ' H' fr h → D.nx σ' H'
  | .ok .brk fr h => ∀ w' σ' H', w.le w' → Rel K T B w' σ' H' fr h → D.bk σ' H'
  | .ok .ct fr h => ∀ w' σ' H', w.le w' → Rel K T B w' σ' H' fr h → D.ct σ' H'
  | .ok (.rt d) fr h => ∀ w' σ' H' v, w.le w' → Rel K T B w' σ' H' fr h → vE K T B σ' w' H' fr v d → D.rt v H'
  | .exc x fr h => ∀ w' σ' H' cls dd, w.le w' → Rel K T B w' σ' H' fr h → ExcR K T w' x cls dd → W cls dd σ' H'
  | .err => False
def SimS (X : Cx) (T : Tb) (W : WX) (st : Stmt) (m : M Fl) : Prop := ∀ (B : Bs) (w : Wd) (σ : L2.St) (H : Hp) (fr : Fr) (h : Hh) (D : Ends), Rel X.K T B w σ H fr h → PostS X.K T B W w (m fr h) D → WS X st D σ H
def SimSs (X : Cx) (T : Tb) (W : WX) (sts : List Stmt) (m : M Fl) : Prop := ∀ (B : Bs) (w : Wd) (σ : L2.St) (H : Hp) (fr : Fr) (h : Hh) (D : Ends), Rel X.K T B w σ H fr h → PostS X.K T B W w (m fr h) D → WSs X sts D σ H
section
variable {K : PySem.W.Frag} {T : Tb} {B : Bs} {W : WX} {w w' : Wd} {σ : L2.St} {H : Hp}
theorem PostS.le {r : R Fl} {D : Ends} (x : w.le w') (p : PostS K T B W w r D) : PostS K T B W w' r D := by
  cases r with
  | ok f fr h =>
    cases f with
    | rt d => exact fun w2 σ2 H2 v y => p w2 σ2 H2 v (Wd.le_trans x y)
    | _ => exact fun w2 σ2 H2 y => p w2 σ2 H2 (Wd.le_trans x y)
  | exc e fr h => exact fun w2 σ2 H2 c d y => p w2 σ2 H2 c d (Wd.le_trans x y)
  | err => exact p
/-- a value, then a statement's rest -/
theorem PostS.bind {α β : Type} {VR : Wd → Hp → Fr → β → α → Prop} {m : M α} {f : α → M Fl} {fr : Fr} {h : Hh} {D : Ends} {Q : β → Hp → Prop} (p : PostS K T B W w (m.bind f fr h) D)
    (k : ∀ d fr1 h1 w1 H1 v, m fr h = .ok d fr1 h1 → w.le w1 → Rel K T B w1 σ H1 fr1 h1 → VR w1 H1 fr1 v d → PostS K T B W w1 (f d fr1 h1) D → Q v H1) : Post K T B W VR w σ (m fr h) Q := by
  cases e : m fr h with
  | ok d fr1 h1 =>
    rw [M.bind_ok e] at p
    exact fun w1 H1 v x r z => k d fr1 h1 w1 H1 v e x r z (p.le x)
  | exc y fr1 h1 =>
    rw [M.bind_exc e] at p
    exact fun w1 H1 c dd x r z => p w1 σ H1 c dd x r z
  | err =>
    rw [M.bind_err e] at p
    exact p
end

/-- a block -/
def mSeq (m n : M Fl) : M Fl := m.bind fun f => match f with
  | .nx => n
  | f => M.ret f
/-- an if's branches -/
def mIfS (t : M Bool) (m n : M Fl) : M Fl := t.bind fun b => if b then m else n
def mDrop {α : Type} (m : M α) : M Fl := m.bind fun _ => M.ret .nx
def mRet (m : M D) : M Fl := m.bind fun d => M.ret (.rt d)
def mPut (i : Nat) (m : M D) : M Fl := m.bind fun d fr h => .ok .nx (fr.set i (some d)) h
def mAsg (m : M D) (g : D → M Unit) : M Fl := m.bind fun d fr h => match g d fr h with
  | .ok _ fr h => .ok .nx fr h
  | _ => .err
def mPutE (is : List Nat) (m : M (List D)) : M Fl := m.bind fun ds fr h => match mPuts is ds fr with
  | some fr' => if ds.length ≤ big then .ok .nx fr' h else .err
  | none => .err
section
variable {X : Cx} {T : Tb} {W : WX} {k : Nat} {pos pos' p2 : Pos} {e a b c : Expr} {st : Stmt} {sts as bs : List Stmt} {m : M D} {s n : M Fl} {t : M Bool} {es : List Expr}
theorem ss_nil : SimSs X T W [] (M.ret .nx) := fun B w σ H fr h D R p => pss_wss pss_nil (p w σ H (Wd.le_refl _) R)
theorem ss_cons (s1 : SimS X T W st s) (s2 : SimSs X T W sts n) : SimSs X T W (st :: sts) (mSeq s n) := fun B w σ H fr h D R p =>
  pss_wss (pss_cons ps_max pss_max) (s1 B w σ H fr h _ R (by
    unfold mSeq at p
    cases e : s fr h with
    | ok f fr1 h1 =>
      rw [M.bind_ok e] at p
      cases f with
      | nx => exact fun w1 σ1 H1 l R1 => s2 B w1 σ1 H1 fr1 h1 D R1 (p.le l)
      | _ => exact p
    | exc y fr1 h1 => rw [M.bind_exc e] at p; exact p
    | err => rw [M.bind_err e] at p; exact p))
theorem ss_one (s1 : SimS X T W st s) : SimSs X T W [st] s := fun B w σ H fr h D R p => pss_wss (pss_one ps_max) (s1 B w σ H fr h _ R p)
theorem s_ret (s : SimE X T W e m) : SimS X T W (.Return (some e) pos) (mRet m) := fun B w σ H fr h D R p =>
  ps_ws (ps_ret pe_max) (s B w σ H fr h _ R (PostS.bind (VR := vE X.K T B σ) p fun d fr1 h1 w1 H1 v e1 l1 r1 rx p1 => p1 w1 σ H1 v (Wd.le_refl _) r1 rx))
theorem s_ifS (st : SimT X T W c t) (sa : SimSs X T W as s) (sb : SimSs X T W bs n) : SimS X T W (.If c as bs pos) (mIfS t s n) := fun B w σ H fr h D R p =>
  ps_ws (ps_if pt_max pss_max pss_max) (st B w σ H fr h _ R (PostS.bind (VR := vB X.K T B σ) p fun d fr1 h1 w1 H1 x e1 l1 r1 rx p1 => by
    have rx' : x = d := rx
    subst rx'
    cases x with
    | true => exact sa B w1 σ H1 fr1 h1 D r1 p1
    | false => exact sb B w1 σ H1 fr1 h1 D r1 p1))
/-- code that is not come to -/
theorem s_never : SimS X T W st (fun _ _ => .err) := fun B w σ H fr h D R p => p.elim
theorem s_put (C : Cq X T W k) (i : Nat) {x : Str} (s : SimE X T W e m) (hs : swapsWith e (some (.Name x pos')) pos.line X.env = pure false := by rfl) (hi : X.N[i]? = some x := by rfl) (hx : Loc X.env.scope x := by first | exact Or.inl rfl | exact Or.inr rfl)
    (hf : X.fn x = true ∨ X.env.scope.names.lookup x = some .local := by first | exact .inl rfl | exact .inr rfl) (h0 : i ≠ 0 := by decide) : SimS X T W (.Assign [.Name x pos'] e pos) (mPut i m) := fun B w σ H fr h D R p =>
  ps_ws (ps_set C.nd hi hx pe_max hs hf) (s B w σ H fr h _ R (PostS.bind (VR := vE X.K T B σ) p fun d fr1 h1 w1 H1 v e1 l1 r1 rx p1 => p1 w1 _ H1 (Wd.le_refl _) (r1.put i h0 rx)))
theorem s_putV (C : Cq X T W k) (i : Nat) {x : Str} (s : SimV X T W e m) (hs : swapsWith e (some (.Name x pos')) pos.line X.env = pure false := by rfl) (hi : X.N[i]? = some x := by rfl) (hx : Loc X.env.scope x := by first | exact Or.inl rfl | exact Or.inr rfl)
    (hf : X.fn x = true ∨ X.env.scope.names.lookup x = some .local := by first | exact .inl rfl | exact .inr rfl) : SimS X T W (.Assign [.Name x pos'] e pos) (mPut i m) := fun B w σ H fr h D R p =>
  ps_ws (ps_set C.nd hi hx pe_max hs hf) (s B w σ H fr h _ R (PostS.bind (VR := vV X.K T B σ) p fun d fr1 h1 w1 H1 v e1 l1 r1 rx p1 => p1 w1 _ H1 (Wd.le_refl _) (r1.putV i rx)))
theorem s_asg {tg : Expr} {is : List Nat} {g : D → M Unit} (s : SimV X T W e m) (sg : SimG X T is tg g) (hs : swapsWithSole [tg] e pos.line X.env = pure false := by rfl) (hw : swappedStores [tg] e X.env = pure none := by rfl)
    (h1 : (assignEach [tg] X.env).map (·.2) = [assign tg X.env] := by rfl) : SimS X T W (.Assign [tg] e pos) (mAsg m g) := fun B w σ H fr h D R p =>
  ps_ws (ps_asg pe_max pg_max hs hw h1) (s B w σ H fr h _ R (PostS.bind (VR := vV X.K T B σ) p fun d fr1 h1 w1 H1 v e1 l1 r1 rx p1 => sg B w1 σ H1 fr1 h1 v d _ r1 rx (by
    cases e2 : g d fr1 h1 with
    | ok u fr2 h2 =>
      rw [e2] at p1
      exact fun w2 σ2 H2 l2 r2 _ => p1 w2 σ2 H2 l2 r2
    | exc y fr2 h2 =>
      rw [e2] at p1
      exact p1.elim
    | err =>
      rw [e2] at p1
      exact p1.elim)))
theorem EsR.temp {K : PySem.W.Frag} {B : Bs} {σ : L2.St} {w : Wd} {H : Hp} {fr : Fr} {vs : List V} {ds : List D} {ps : List Addr} {p : Addr} {o : HO} (x : EsR K T B σ w H fr vs ds ps) (np : H p = none) : EsR K T B σ w (upd H p o) fr vs ds ps := by
  induction x with
  | nil => exact .nil
  | val r _ ih => exact .val r ih
  | own O lo e r nq _ ih => exact .own O lo (by rw [upd_ne (ne_of_none e np)]; exact e) r nq ih
/-- two, three names: stored from the right -/
theorem s_par2 (C : Cq X T W k) (i j : Nat) {x y : Str} {px py pt : Pos} {kt k2 : Nat} {pt2 : Pos} {ms : M (List D)} (se : SimEs X T W [a, b] ms) (hi : X.N[i]? = some x := by rfl) (hj : X.N[j]? = some y := by rfl) (hij : i ≠ j := by decide) (i0 : i ≠ 0 := by decide) (j0 : j ≠ 0 := by decide)
    (hx : X.env.scope.names.lookup x = some .local := by rfl) (hy : X.env.scope.names.lookup y = some .local := by rfl)
    (hw : swappedStores [.Tuple [.Name x px, .Name y py] kt pt] (.Tuple [a, b] k2 pt2) X.env = pure (some [x, y]) := by rfl)
    (hs : swapsWithSole [.Tuple [.Name x px, .Name y py] kt pt] (.Tuple [a, b] k2 pt2) pos.line X.env = pure false := by rfl) :
    SimS X T W (.Assign [.Tuple [.Name x px, .Name y py] kt pt] (.Tuple [a, b] k2 pt2) pos) (mPutE [i, j] ms) := fun B w σ H fr h D R p =>
  ps_ws (ps_par C.calm C.nd hi hj hij hx hy pa_max hw hs) (se B w σ H fr h _ R (PostS.bind (VR := vEs X.K T B σ) p fun ds fr1 h1 w1 H1 vs e1 l1 r1 ⟨ps, rs⟩ p1 => by
    have two : ∃ d e, ds = [d, e] := by
      cases ds with
      | nil => exact (show False from p1).elim
      | cons d ds =>
        cases ds with
        | nil => exact (show False from p1).elim
        | cons e ds =>
          cases ds with
          | nil => exact ⟨d, e, rfl⟩
          | cons _ _ => exact (show False from p1).elim
    obtain ⟨d, e, rfl⟩ := two
    have p2 : PostS X.K T B W w1 (.ok .nx ((fr1.set i (some d)).set j (some e)) h1) D := p1
    cases rs with
    | val r1' rr =>
      cases rr with
      | val r2' rr =>
        cases rr
        exact ⟨_, _, rfl, p2 w1 _ H1 (Wd.le_refl _) ((r1.put i i0 (.inl r1')).put j j0 (.inl r2'))⟩
      | own O lo eH r2' nq rr =>
        cases rr
        exact ⟨_, _, rfl, p2 w1 _ H1 (Wd.le_refl _) ((r1.put i i0 (.inl r1')).put j j0 (.inr ⟨_, _, rfl, O, loose_set lo fun od => (own_not od r1').elim, eH, r2'⟩))⟩
    | own O lo eH r1' nq rr =>
      cases rr with
      | val r2' rr =>
        cases rr
        exact ⟨_, _, rfl, p2 w1 _ H1 (Wd.le_refl _) ((r1.put i i0 (.inr ⟨_, _, rfl, O, lo, eH, r1'⟩)).put j j0 (.inl r2'))⟩
      | own O2 lo2 eH2 r2' nq2 rr =>
        cases rr
        exact ⟨_, _, rfl, p2 w1 _ H1 (Wd.le_refl _) ((r1.put i i0 (.inr ⟨_, _, rfl, O, lo, eH, r1'⟩)).put j j0 (.inr ⟨_, _, rfl, O2, loose_set lo2 fun od z => by
          cases z
          exact nq (by simp), eH2, r2'⟩))⟩))
end
end Pk

/-! Pk7: loops, comprehensions. -/
namespace Pk
open PySem PySem.Spec L2

def mFor (g : D → M Unit) (b : M Fl) : List D → M Fl
  | [] => M.ret .nx
  | d :: ds => fun fr h => match g d fr h with
    | .ok _ fr h => match b fr h with
      | .ok .nx fr h => mFor g b ds fr h
      | .ok .ct fr h => mFor g b ds fr h
      | .ok .brk fr h => .ok .nx fr h
      | .ok (.rt d) fr h => .ok (.rt d) fr h
      | .exc x fr h => .exc x fr h
      | .err => .err
    | _ => .err
def mForI (l : M (List D)) (g : D → M Unit) (b : M Fl) : M Fl := l.bind fun ds => mFor g b ds
def mWhile (t : M Bool) (b : M Fl) : Nat → M Fl
  | 0 => fun _ _ => .err
  | n + 1 => fun fr h => match t fr h with
    | .ok true fr h => match b fr h with
      | .ok .nx fr h => mWhile t b n fr h
      | .ok .ct fr h => mWhile t b n fr h
      | .ok .brk fr h => .ok .nx fr h
      | .ok (.rt d) fr h => .ok (.rt d) fr h
      | .exc x fr h => .exc x fr h
      | .err => .err
    | .ok false fr h => .ok .nx fr h
    | .exc x fr h => .exc x fr h
    | .err => .err
section
variable {X : Cx} {T : Tb} {W : WX} {k : Nat} {pos pos' : Pos} {tg iter c : Expr} {body : List Stmt} {li : M (List D)} {g : D → M Unit} {b : M Fl} {is : List Nat} {t : M Bool}
theorem s_for (C : Cq X T W k) (si : SimI X T W tg iter li) (sg : SimG X T is tg g) (sb : SimSs X T W body b) (hs : ∀ x, foldedSetIterable iter X.env x = pure x := by intro _; rfl) : SimS X T W (.For tg iter body [] pos) (mForI li g b) := fun B w σ H fr h D R p =>
  ps_ws (ps_for C.po C.calm pi_max pg_max pss_max hs) (si B w σ H fr h _ R (PostS.bind (VR := vJ X.K T B σ) p fun ds fr1 h1 w1 H1 J e1 l1 r1 vj p1 => by
    refine ⟨fun i m σ H => m = ds.length - i ∧ i ≤ ds.length ∧ ∃ w' fr' h', w1.le w' ∧ Rel X.K T B w' σ H fr' h' ∧ PostS X.K T B W w' (mFor g b (ds.drop i) fr' h') D, ⟨ds.length, by simp, Nat.zero_le _, w1, fr1, h1, Wd.le_refl _, r1, p1⟩, ?_⟩
    rintro i m σ2 H2 ⟨rfl, hi, w2, fr2, h2, l2, r2, p2⟩
    obtain ⟨js, jg⟩ := vj i w2 H2 l2 r2.sub
    by_cases hlt : i < ds.length
    · obtain ⟨go, y⟩ := jg ds[i] (List.getElem?_eq_getElem hlt)
      refine .inr ⟨go, fun σ' H' => ∃ w' fr' h', w1.le w' ∧ Rel X.K T B w' σ' H' fr' h' ∧ PostS X.K T B W w' (mFor g b (ds.drop (i + 1)) fr' h') D, fun σ' H' q => ⟨ds.length - (i + 1), by omega, rfl, hlt, q⟩, fun x H3 yx => ?_⟩
      obtain ⟨w3, l3, r3, rx⟩ := y x H3 yx B σ2 fr2 h2 r2
      have ed : ds.drop i = ds[i] :: ds.drop (i + 1) := List.drop_eq_getElem_cons hlt
      rw [ed] at p2
      refine sg B w3 σ2 H3 fr2 h2 x ds[i] _ r3 rx ?_
      unfold mFor at p2
      cases e2 : g ds[i] fr2 h2 with
      | ok u fr3 h3 =>
        rw [e2] at p2
        intro w4 σ4 H4 l4 r4 _
        refine sb B w4 σ4 H4 fr3 h3 _ r4 ?_
        have l34 : w1.le w4 := Wd.le_trans l2 (Wd.le_trans l3 l4)
        dsimp only at p2
        cases e3 : b fr3 h3 with
        | ok f fr4 h4 =>
          rw [e3] at p2
          cases f with
          | nx => exact fun w5 σ5 H5 l5 r5 => ⟨w5, fr4, h4, Wd.le_trans l34 l5, r5, p2.le (Wd.le_trans (Wd.le_trans l3 l4) l5)⟩
          | ct => exact fun w5 σ5 H5 l5 r5 => ⟨w5, fr4, h4, Wd.le_trans l34 l5, r5, p2.le (Wd.le_trans (Wd.le_trans l3 l4) l5)⟩
          | brk => exact fun w5 σ5 H5 l5 r5 => p2 w5 σ5 H5 (Wd.le_trans (Wd.le_trans l3 l4) l5) r5
          | rt d => exact fun w5 σ5 H5 v l5 r5 rv => p2 w5 σ5 H5 v (Wd.le_trans (Wd.le_trans l3 l4) l5) r5 rv
        | exc y fr4 h4 =>
          rw [e3] at p2
          exact fun w5 σ5 H5 cc dd l5 r5 z => p2 w5 σ5 H5 cc dd (Wd.le_trans (Wd.le_trans l3 l4) l5) r5 z
        | err => rw [e3] at p2; exact p2
      | exc y fr3 h3 => rw [e2] at p2; exact p2
      | err => rw [e2] at p2; exact p2
    · have e : i = ds.length := by omega
      subst e
      rw [List.drop_length] at p2
      exact .inl ⟨js (Nat.le_refl _), p2 w2 σ2 H2 (Wd.le_refl _) r2⟩))
end

/-! ### comprehensions -/
def WF : WX := fun _ _ _ _ => False
def wipeF (fr : Fr) : List Nat → Fr
  | [] => fr
  | v :: vs => (wipeF fr vs).set v none
section
variable {K : PySem.W.Frag} {T : Tb} {B : Bs} {w w' : Wd} {σ σ' : L2.St} {H H' : Hp} {fr fr' : Fr} {h : Hh}
end
/-- a turn: the item, where the tests hold -/
def mTurn (vs : List Nat) (g : D → M Unit) (t : M Bool) (e : M D) (d : D) : M (Option D) := fun fr h => match g d fr h with
  | .ok _ fr h => match t fr h with
    | .ok true fr h => match e fr h with
      | .ok y fr h => .ok (some y) (wipeF fr vs) h
      | _ => .err
    | .ok false fr h => .ok none (wipeF fr vs) h
    | _ => .err
  | _ => .err
def optL {α : Type} : Option α → List α → List α
  | some y, r => y :: r
  | none, r => r
def mLcs (vs : List Nat) (g : D → M Unit) (t : M Bool) (e : M D) : List D → M (List D)
  | [] => M.ret []
  | d :: ds => (mTurn vs g t e d).bind fun o => (mLcs vs g t e ds).bind fun r => M.ret (optL o r)
def mWipe (vs : List Nat) : M Unit := fun fr h => .ok () (wipeF fr vs) h
def mLc (vs : List Nat) (l : M (List D)) (g : D → M Unit) (t : M Bool) (e : M D) : M D := l.bind fun ds => (mWipe vs).bind fun _ => if ds.length ≤ big then (mLcs vs g t e ds).bind fun r => M.ret (.nl r) else M.opt none
section
variable {X : Cx} {T : Tb} {W : WX} {k : Nat} {pos pos' : Pos} {tg iter elt c : Expr} {ifs : List Expr} {li : M (List D)} {g : D → M Unit} {b : M Fl} {is : List Nat} {t : M Bool} {me : M D} {scope : Scope} {own : List (Str × Nat)}
/-- the uniform readings of the block's parts -/
def GB (X : Cx) (scope : Scope) (tg : Expr) : TG := fun v σ H Q => ∀ (s : Shared) (H0 : Hp) (C : Addr) (cl : List (Str × Addr)) (fp : List Addr), WG (X.blk s H0 scope (compEnvC scope cl C X.env) fp) tg v σ H Q
def TB (X : Cx) (scope : Scope) (ifs : List Expr) : TT := fun σ H Q => ∀ (s : Shared) (H0 : Hp) (C : Addr) (cl : List (Str × Addr)) (fp : List Addr), WTs (X.blk s H0 scope (compEnvC scope cl C X.env) fp) ifs σ H Q
def EB (X : Cx) (scope : Scope) (e : Expr) : TE := fun σ H Q => ∀ (s : Shared) (H0 : Hp) (C : Addr) (cl : List (Str × Addr)) (fp : List Addr), WE (X.blk s H0 scope (compEnvC scope cl C X.env) fp) e σ H Q
theorem Cq.blk (C : Cq X T W k) {s : Shared} {H0 : Hp} {A0 : Addr} {cl : List (Str × Addr)} {fp : List Addr} : Cq (X.blk s H0 scope (compEnvC scope cl A0 X.env) fp) T WF k :=
  ⟨C.calm, C.nd, C.room, fun u s' ⟨_, _, _, _, _, _, _, _, _, _, _, _, _, _, _, _, w⟩ => w.elim, fun _ _ z => z.elim⟩
end

/-! ### lists that change -/
def mutSlot (i : Nat) (f : List D → Option (List D)) : M Unit := fun fr h => match fr[i]? with
  | some (some (.nl l)) => match f l with
    | some l' => .ok () (fr.set i (some (.nl l'))) h
    | none => .err
  | some (some (.ref n)) => match h[n]? with
    | some (.nl l) => match f l with
      | some l' => .ok () fr (h.set n (.nl l'))
      | none => .err
    | _ => .err
  | _ => .err
/-- a cell's list -/
def mutRef (d : D) (f : List D → Option (List D)) : M Unit := fun fr h => match d with
  | .ref n => match h[n]? with
    | some (.nl l) => match f l with
      | some l' => .ok () fr (h.set n (.nl l'))
      | none => .err
    | _ => .err
  | _ => .err
def keepF (l : List D) : Option (List D) := some l
def appF (d : D) (l : List D) : Option (List D) := if l.length < big then some (l ++ [d]) else none
def setF (j : D) (d : D) (l : List D) : Option (List D) := match j with
  | .int j => (ixN l.length j).map fun n => l.set n d
  | _ => none
def clrF (_ : List D) : Option (List D) := some []
/-- what a change of an object asks -/
def MutOk (K : PySem.W.Frag) (T : Tb) (B : Bs) (w : Wd) (σ : L2.St) (H : Hp) (v : V) (f : List D → Option (List D)) (fr' : Fr) (h' : Hh) : Prop :=
  ∃ p vs l l', v = .ref p ∧ H p = some (.lst vs) ∧ RelDs K T w vs l ∧ f l = some l' ∧ ∀ vs', RelDs K T w vs' l' → Rel K T B w σ (upd H p (.lst vs')) fr' h'
section
variable {K : PySem.W.Frag} {T : Tb} {B : Bs} {w : Wd} {σ : L2.St} {H : Hp} {fr : Fr} {h : Hh}
theorem mut_cell (R : Rel K T B w σ H fr h) {n : Nat} {v : V} (rv : RelD K T w v (.ref n)) {f : List D → Option (List D)} {l l' : List D} (e : h[n]? = some (.nl l)) (ef : f l = some l') : MutOk K T B w σ H v f fr (h.set n (.nl l')) := by
  cases rv with
  | @ref a n s =>
    obtain ⟨o, q, rr⟩ := R.cel n a _ s e
    cases rr with
    | lst r => exact ⟨a, _, l, l', rfl, q, r, ef, fun vs' rs => R.change_cell s e (.lst rs)⟩
end
/-- x.append(e), x.clear() -/
def mAppS (i : Nat) (m : M D) : M D := (mutSlot i keepF).bind fun _ => m.bind fun d => (mutSlot i (appF d)).bind fun _ => M.ret .non
def mClrS (i : Nat) : M D := (mutSlot i clrF).bind fun _ => M.ret .non
def mAppR (mo m : M D) : M D := mo.bind fun o => (mutRef o keepF).bind fun _ => m.bind fun d => (mutRef o (appF d)).bind fun _ => M.ret .non
def mClrR (mo : M D) : M D := mo.bind fun o => (mutRef o clrF).bind fun _ => M.ret .non
section
variable {X : Cx} {T : Tb} {W : WX} {k : Nat} {apos cpos px : Pos} {e o : Expr} {m mo : M D}
/-- x[i] = e; o[i] = e, o a cell -/
def mSetS (i : Nat) (m mi : M D) : M Fl := m.bind fun d => (mHas i).bind fun _ => mi.bind fun j => (mutSlot i (setF j d)).bind fun _ => M.ret .nx
def mSetR (mo m mi : M D) : M Fl := m.bind fun d => mo.bind fun o => mi.bind fun j => (mutRef o (setF j d)).bind fun _ => M.ret .nx
end
end Pk

/-! Pk8: stores, fields, isinstance, names of the module. -/
namespace Pk
open PySem PySem.Spec L2

section
variable {K : PySem.W.Frag} {T : Tb} {B : Bs} {w : Wd} {σ : L2.St} {H : Hp} {fr : Fr} {h : Hh}
theorem mut_slot0 {i : Nat} {v : V} {f : List D → Option (List D)} (R : Rel K T B w σ H fr h) (ev : σ[i]? = some (some v)) : mutSlot i f fr h = .err ∨ ∃ fr' h', mutSlot i f fr h = .ok () fr' h' ∧ MutOk K T B w σ H v f fr' h' := by
  cases q : mutSlot i f fr h with
  | ok u fr' h' =>
    right
    refine ⟨fr', h', rfl, ?_⟩
    unfold mutSlot at q
    split at q
    · rename_i l e1
      split at q
      · rename_i l' ef
        cases q
        obtain ⟨v', e2, z⟩ := slot_some R e1
        rw [ev] at e2
        cases e2
        cases z with
        | val r => cases r
        | own O eH r =>
          cases r with
          | lst r => exact ⟨_, _, l, l', rfl, eH, r, ef, fun vs' rs => R.change_slot ev e1 O eH rfl (.lst rs)⟩
      · cases q
    · rename_i n e1
      split at q
      · split at q
        · cases q
          obtain ⟨v', e2, z⟩ := slot_some R e1
          rw [ev] at e2
          cases e2
          cases z with
          | val r => exact mut_cell R r (by assumption) (by assumption)
          | own O eH r => cases r
        · cases q
      · cases q
    · cases q
  | exc y fr' h' =>
    exfalso
    unfold mutSlot at q
    split at q
    · split at q <;> cases q
    · split at q
      · split at q <;> cases q
      · cases q
    · cases q
  | err => exact .inl rfl
end
section
variable {X : Cx} {T : Tb} {W : WX} {k : Nat} {pos px tpos : Pos} {e o j : Expr} {m mo mj : M D}
theorem set_ok {K : PySem.W.Frag} {B : Bs} {w : Wd} {σ : L2.St} {H : Hp} {v y u : V} {d jd : D} {fr' : Fr} {h' : Hh} {Q : Hp → Prop} (z : MutOk K T B w σ H v (setF jd d) fr' h') (ry : RelD K T w y d) (rj : RelD K T w u jd) (q : ∀ H', Rel K T B w σ H' fr' h' → Q H') : rSetL v u y H Q := by
  obtain ⟨p, vs, l, l', rfl, e, r, ef, k⟩ := z
  unfold setF at ef
  split at ef
  · rename_i i
    obtain ⟨n, en, rfl⟩ := Option.map_eq_some_iff.mp ef
    rw [rel_int rj]
    exact ⟨p, vs, i, n, rfl, rfl, e, by rw [r.length]; exact en, q _ (k _ (r.set n ry))⟩
  · cases ef
/-- x[j] = e -/
theorem s_setS (i : Nat) {x : Str} (s : SimV X T W e m) (sj : SimV X T W j mj) (hN : X.N[i]? = some x := by rfl) (hv : Vis X.env.scope x := by first | exact Or.inl rfl | exact Or.inr (Or.inl rfl) | exact Or.inr (Or.inr rfl)) (hd : (x == ("__debug__" : Str)) = false := by decide)
    (hcd : (x == ("__classdict__" : Str)) = false := by decide)
    (ha : ∀ v, assign (.Subscript (.Name x px) j tpos) X.env v = (do
      let ov ← holding [v] (eval (.Name x px) X.env)
      let iv ← holding [v, ov] (eval j X.env)
      standAt tpos
      holding [v, ov, iv] (setItem ov iv v)
      release [v, ov, iv] []) := by intro _; rfl)
    (hs : swapsWithSole [.Subscript (.Name x px) j tpos] e pos.line X.env = pure false := by rfl) (hw : swappedStores [.Subscript (.Name x px) j tpos] e X.env = pure none := by rfl)
    (h1 : (assignEach [.Subscript (.Name x px) j tpos] X.env).map (·.2) = [assign (.Subscript (.Name x px) j tpos) X.env] := by rfl) : SimS X T W (.Assign [.Subscript (.Name x px) j tpos] e pos) (mSetS i m mj) := fun B w σ H fr h D R p =>
  ps_ws (ps_asg pe_max (pg_sub (pe_var hN hv hd hcd) pe_max set_list ha) hs hw h1) (s B w σ H fr h _ R (PostS.bind (VR := vV X.K T B σ) p fun d fr1 h1 w1 H1 v e1 l1 r1 rx p1 => by
    have p1' : PostS X.K T B W w1 ((mHas i).bind (fun _ => mj.bind fun j => (mutSlot i (setF j d)).bind fun _ => M.ret .nx) fr1 h1) D := p1
    cases es : fr1[i]? with
    | none =>
      have q : mHas i fr1 h1 = .err := by unfold mHas; rw [es]
      rw [M.bind_err q] at p1'
      exact p1'.elim
    | some os =>
      cases os with
      | none =>
        have q : mHas i fr1 h1 = .err := by unfold mHas; rw [es]
        rw [M.bind_err q] at p1'
        exact p1'.elim
      | some ds =>
        have q : mHas i fr1 h1 = .ok () fr1 h1 := by unfold mHas; rw [es]
        rw [M.bind_ok q] at p1'
        obtain ⟨ov, ev, _⟩ := slot_some r1 es
        refine ⟨ov, ev, sj B w1 σ H1 fr1 h1 _ r1 (PostS.bind (VR := vV X.K T B σ) p1' fun jd fr2 h2 w2 H2 jv e2 l2 r2 rj p2 => ?_)⟩
        have p2' : PostS X.K T B W w2 ((mutSlot i (setF jd d)).bind (fun _ => M.ret .nx) fr2 h2) D := p2
        rcases mut_slot0 (f := setF jd d) r2 ev with q | ⟨fr3, h3, q, z⟩
        · rw [M.bind_err q] at p2'
          exact p2'.elim
        · rw [M.bind_ok q] at p2'
          exact set_ok z (rx.mono l2) rj fun H' R' => p2' w2 σ H' (Wd.le_refl _) R'))
/-- a new object becomes a cell -/
def mCell (m : M D) : M D := m.bind fun d fr h => if d.own then .ok (.ref h.length) fr (h ++ [d]) else .err
theorem sv_cell (s : SimE X T W e m) : SimV X T W e (mCell m) := fun B w σ H fr h Q R p => s B w σ H fr h Q R (Post.bind (VR := vE X.K T B σ) p fun d fr1 h1 w1 H1 v e1 l1 r1 rx p1 => by
  rcases rx with rx | ⟨q, o, rfl, O, lo, eH, rd⟩
  · have p1' : Post X.K T B W (vV X.K T B σ) w1 σ (if d.own then .ok (.ref h1.length) fr1 (h1 ++ [d]) else .err) Q := p1
    rw [relD_own rx] at p1'
    exact (show False from p1').elim
  · have p1' : Post X.K T B W (vV X.K T B σ) w1 σ (if d.own then .ok (.ref h1.length) fr1 (h1 ++ [d]) else .err) Q := p1
    rw [rd.own] at p1'
    have R2 := r1.to_cell O lo eH rd
    exact p1' ⟨w1.F, w1.I ++ [q]⟩ H1 (.ref q) ⟨fun _ _ z => z, [q], rfl⟩ R2 (.ref (by
      rw [← r1.len]
      show (w1.I ++ [q])[w1.I.length]? = some q
      rw [List.getElem?_append_right (Nat.le_refl _), Nat.sub_self]
      rfl)))

/-! ### fields -/
theorem zip_lookup {α : Type} {f : Str} : ∀ {fs : List Str} {vs : List α} {i : Nat}, fs.Nodup → fs[i]? = some f → (fs.zip vs).lookup f = vs[i]?
  | [], _, _, _, e => by simp at e
  | g :: fs, [], i, _, _ => by simp
  | g :: fs, v :: vs, 0, _, e => by
    simp at e
    subst e
    simp [List.lookup]
  | g :: fs, v :: vs, i + 1, n, e => by
    have hf : f ∈ fs := List.mem_of_getElem? (by simpa using e)
    have hne : (f == g) = false := by
      rw [beq_eq_false_iff_ne]
      rintro rfl
      exact (List.nodup_cons.mp n).1 hf
    show List.lookup f ((g, v) :: fs.zip vs) = (v :: vs)[i + 1]?
    rw [List.lookup_cons, hne]
    show (fs.zip vs).lookup f = _
    rw [zip_lookup (List.nodup_cons.mp n).2 (by simpa using e)]
    simp
theorem zip_putF {f : Str} {y : V} : ∀ {fs : List Str} {vs : List V} {i : Nat}, fs.Nodup → fs[i]? = some f → i ≤ vs.length → putF f y (fs.zip vs) = fs.zip (if i < vs.length then vs.set i y else vs ++ [y])
  | [], _, _, _, e, _ => by simp at e
  | g :: fs, [], i, _, e, hl => by
    have h0 : i = 0 := by simpa using hl
    subst h0
    simp at e
    subst e
    simp [putF]
  | g :: fs, v :: vs, 0, _, e, _ => by
    simp at e
    subst e
    show putF g y ((g, v) :: fs.zip vs) = _
    unfold putF
    rw [if_pos rfl, if_pos (show 0 < (v :: vs).length from Nat.succ_pos _)]
    rfl
  | g :: fs, v :: vs, i + 1, n, e, hl => by
    have hf : f ∈ fs := List.mem_of_getElem? (by simpa using e)
    have hne : ¬ g = f := by
      rintro rfl
      exact (List.nodup_cons.mp n).1 hf
    show putF f y ((g, v) :: fs.zip vs) = _
    unfold putF
    rw [if_neg hne, zip_putF (List.nodup_cons.mp n).2 (i := i) (by simpa using e) (by simpa using hl)]
    by_cases h : i < vs.length
    · rw [if_pos h, if_pos (by simpa using h)]
      rfl
    · rw [if_neg h, if_neg (by simpa using h)]
      rfl
/-- the field f: ix tells its place by the class -/
structure FldF (X : Cx) (T : Tb) (f : Str) (ix : Nat → Option Nat) : Prop where
  cls : ∀ c i, ix c = some i → Cls X.K (T.cad c)
  na : ∀ c i, ix c = some i → NoAttr X.K (T.cad c) f
  nd : ∀ c i, ix c = some i → (T.fld c).Nodup ∧ (T.fld c).length < 1000
  at_ : ∀ c i, ix c = some i → (T.fld c)[i]? = some f
def D.ins (h : Hh) (d : D) : Option (Nat × List D) := match d.der h with
  | .obj c fs => some (c, fs)
  | .no c fs => some (c, fs)
  | _ => none
def bFld (ix : Nat → Option Nat) (h : Hh) (d : D) : Option D := match d.ins h with
  | some (c, fs) => match ix c with
    | some i => fs[i]?
    | none => none
  | none => none
theorem ins_rel {K : PySem.W.Frag} {B : Bs} {w : Wd} {σ : L2.St} {H : Hp} {fr : Fr} {h : Hh} {v : V} {d : D} {c : Nat} {fs : List D} (R : Rel K T B w σ H fr h) (z : vO K T B σ w H fr v d) (e : d.ins h = some (c, fs)) :
    ∃ a dx vs, v = .ref a ∧ H a = some (.ins (T.cad c) dx ((T.fld c).zip vs)) ∧ RelDs K T w vs fs := by
  rcases z with z | ⟨p, o, rfl, eH, z⟩
  · cases z with
    | obj s r =>
      cases e
      exact ⟨_, _, _, rfl, R.sub _ _ s, r⟩
    | @ref a n s =>
      have ln : n < h.length := by
        rw [← R.len]
        exact (List.getElem?_eq_some_iff.mp s).1
      obtain ⟨o, q, rr⟩ := R.cel n a h[n] s (List.getElem?_eq_getElem ln)
      have e0 : D.der h (.ref n) = h[n] := by
        unfold D.der
        dsimp only
        rw [List.getElem?_eq_getElem ln]
        rfl
      unfold D.ins at e
      rw [e0] at e
      generalize h[n] = cc at rr e
      cases rr with
      | lst r => cases e
      | obj r =>
        cases e
        exact ⟨_, _, _, rfl, q, r⟩
    | _ => cases e
  · cases z with
    | lst r => cases e
    | obj r =>
      cases e
      exact ⟨_, _, _, rfl, eH, r⟩
theorem sv_fld {f : Str} {ix : Nat → Option Nat} (F : FldF X T f ix) (s : SimO X T W o mo) (hb : attributeBase o f X.env (eval o X.env) = eval o X.env := by rfl) : SimV X T W (.Attribute o f pos) (mUn (bFld ix) mo) := fun B w σ H fr h Q R p =>
  pe_we (pe_fld pe_max hb) (s B w σ H fr h _ R (Post.bind (VR := vO X.K T B σ) p fun d fr1 h1 w1 H1 v e1 l1 r1 rx p1 => by
    have p1' : Post X.K T B W (vV X.K T B σ) w1 σ (M.opt (bFld ix h1 d) fr1 h1) Q := p1
    cases q : bFld ix h1 d with
    | none => rw [q] at p1'; exact p1'.elim
    | some z =>
      rw [q] at p1'
      unfold bFld at q
      split at q
      · rename_i c fs ei
        split at q
        · rename_i i ec
          obtain ⟨a, dx, vs, rfl, eH, rs⟩ := ins_rel r1 rx ei
          obtain ⟨v, ev, rv⟩ := rs.get q
          exact ⟨a, _, dx, _, v, rfl, eH, F.cls c i ec, F.na c i ec, by rw [zip_lookup (F.nd c i ec).1 (F.at_ c i ec)]; exact ev, p1' w1 H1 v (Wd.le_refl _) r1 rv⟩
        · cases q
      · cases q))
/-- self.f = e, self a slot's own instance or a cell -/
def putFs (i : Nat) (d : D) (fs : List D) : Option (List D) := if i ≤ fs.length then some (if i < fs.length then fs.set i d else fs ++ [d]) else none
def mutFld (j : Nat) (ix : Nat → Option Nat) (d : D) : M Unit := fun fr h => match fr[j]? with
  | some (some (.no c fs)) => match ix c with
    | some i => match putFs i d fs with
      | some fs' => .ok () (fr.set j (some (.no c fs'))) h
      | none => .err
    | none => .err
  | some (some (.ref n)) => match h[n]? with
    | some (.no c fs) => match ix c with
      | some i => match putFs i d fs with
        | some fs' => .ok () fr (h.set n (.no c fs'))
        | none => .err
      | none => .err
    | _ => .err
  | _ => .err
def mPutFld (j : Nat) (ix : Nat → Option Nat) (m : M D) : M Fl := m.bind fun d => (mutFld j ix d).bind fun _ => M.ret .nx
theorem putFs_rel {K : PySem.W.Frag} {w : Wd} {f : Str} {c i : Nat} {fs fs' : List D} {vs : List V} {y : V} {d : D} (nd : (T.fld c).Nodup) (at_ : (T.fld c)[i]? = some f) (rs : RelDs K T w vs fs) (ry : RelD K T w y d) (e : putFs i d fs = some fs') :
    ∃ vs', putF f y ((T.fld c).zip vs) = (T.fld c).zip vs' ∧ RelDs K T w vs' fs' := by
  unfold putFs at e
  by_cases hi : i ≤ fs.length
  · rw [if_pos hi] at e
    cases e
    refine ⟨_, zip_putF nd at_ (by rw [rs.length]; exact hi), ?_⟩
    rw [rs.length]
    by_cases hl : i < fs.length
    · rw [if_pos hl, if_pos hl]
      exact rs.set i ry
    · rw [if_neg hl, if_neg hl]
      exact rs.append (.cons ry .nil)
  · rw [if_neg hi] at e
    cases e
theorem s_putFld (j : Nat) {x f : Str} {ix : Nat → Option Nat} (F : FldF X T f ix) (s : SimV X T W e m) (hs : swapsWith e (some (.Attribute (.Name x px) f tpos)) pos.line X.env = pure false := by rfl)
    (hN : X.N[j]? = some x := by rfl) (hv : Vis X.env.scope x := by first | exact Or.inl rfl | exact Or.inr (Or.inl rfl) | exact Or.inr (Or.inr rfl)) (hd : (x == ("__debug__" : Str)) = false := by decide)
    (hcd : (x == ("__classdict__" : Str)) = false := by decide) : SimS X T W (.Assign [.Attribute (.Name x px) f tpos] e pos) (mPutFld j ix m) := fun B w σ H fr h D R p =>
  ps_ws (ps_fld (pe_var hN hv hd hcd) pe_max hs) (s B w σ H fr h _ R (PostS.bind (VR := vV X.K T B σ) p fun d fr1 h1 w1 H1 y e1 l1 r1 ry p1 => by
    have p1' : PostS X.K T B W w1 ((mutFld j ix d).bind (fun _ => M.ret .nx) fr1 h1) D := p1
    have fin : ∀ {c i : Nat} {a dx : Addr} {vs : List V} {fs fs' : List Pk.D}, ix c = some i → H1 a = some (.ins (T.cad c) dx ((T.fld c).zip vs)) → RelDs X.K T w1 vs fs → putFs i d fs = some fs' → (∀ vs', RelDs X.K T w1 vs' fs' → D.nx σ (upd H1 a (.ins (T.cad c) dx ((T.fld c).zip vs')))) → σ[j]? = some (some (.ref a)) →
        ∃ v, σ[j]? = some (some v) ∧ ∃ a C dx fs, v = .ref a ∧ H1 a = some (.ins C dx fs) ∧ Cls X.K C ∧ NoAttr X.K C f ∧ fs.length < 1000 ∧ D.nx σ (upd H1 a (.ins C dx (putF f y fs))) := fun {c i a dx vs fs fs'} ec eH rs ep kk es => by
      obtain ⟨vs', e1, rs'⟩ := putFs_rel (F.nd c i ec).1 (F.at_ c i ec) rs ry ep
      refine ⟨_, es, a, _, dx, _, rfl, eH, F.cls c i ec, F.na c i ec, ?_, ?_⟩
      · rw [List.length_zip]
        have := (F.nd c i ec).2
        omega
      · rw [e1]
        exact kk vs' rs'
    cases q : mutFld j ix d fr1 h1 with
    | err => rw [M.bind_err q] at p1'; exact p1'.elim
    | exc z fr2 h2 =>
      exfalso
      unfold mutFld at q
      repeat' (first | (split at q) | (cases q))
    | ok u fr2 h2 =>
      rw [M.bind_ok q] at p1'
      have p2 : ∀ w' σ' H', w1.le w' → Rel X.K T B w' σ' H' fr2 h2 → D.nx σ' H' := p1'
      unfold mutFld at q
      split at q
      · rename_i c fs es
        split at q
        · rename_i i ec
          split at q
          · rename_i fs' ep
            cases q
            obtain ⟨v, e2, z⟩ := slot_some r1 es
            cases z with
            | val r => cases r
            | own O eH r =>
              cases r with
              | obj r => exact fin ec eH r ep (fun vs' rs' => p2 w1 σ _ (Wd.le_refl _) (r1.change_slot e2 es O eH rfl (.obj rs'))) e2
          · cases q
        · cases q
      · rename_i n es
        split at q
        · rename_i c fs en
          split at q
          · rename_i i ec
            split at q
            · rename_i fs' ep
              cases q
              obtain ⟨v, e2, z⟩ := slot_some r1 es
              cases z with
              | val r =>
                cases r with
                | ref sI =>
                  obtain ⟨o, qo, rr⟩ := r1.cel n _ _ sI en
                  cases rr with
                  | obj r => exact fin ec qo r ep (fun vs' rs' => p2 w1 σ _ (Wd.le_refl _) (r1.change_cell sI en (.obj rs'))) e2
              | own O eH r => cases r
            · cases q
          · cases q
        · cases q
      · cases q))
end
end Pk

/-! Pk9: defs and their calls. -/
namespace Pk
open PySem PySem.Spec L2

/-! ### what a def computes -/
abbrev Fn := List D → Hh → R D
def startF (n : Nat) (ds : List D) : Fr := ds.map some ++ List.replicate (n - ds.length) none
def runF (n : Nat) (m : M Fl) : Fn := fun ds h => match m (startF n ds) h with
  | .ok (.rt d) _ h => .ok d [] h
  | .ok .nx _ h => .ok .non [] h
  | .ok _ _ _ => .err
  | .exc x _ h => .exc x [] h
  | .err => .err
/-- an __init__: the instance's fields are its answer -/
def runI (c n : Nat) (m : M Fl) : Fn := fun ds h => match m (startF n (.no c [] :: ds)) h with
  | .ok .nx fr h => match (fr : Fr)[0]? with
    | some (some (D.no c' fs)) => if c' = c then .ok (.no c fs) [] h else .err
    | _ => .err
  | .ok _ _ _ => .err
  | .exc x _ h => .exc x [] h
  | .err => .err
def spF (K : PySem.W.Frag) (T : Tb) (n : Nat) (F : Fn) : Sp := fun vs H Q E => ∃ w h ds, Rel K T (Bs.of w H) w [] H [] h ∧ RelDs K T w vs ds ∧ ds.length = n ∧ Post K T (Bs.of w H) (fun c d _ H' => E c d H') (vE K T (Bs.of w H) []) w [] (F ds h) Q
/-- the new instance's fields -/
def vN (K : PySem.W.Frag) (T : Tb) (w : Wd) (G : Hp) (x : Addr) (w' : Wd) (H' : Hp) (_ : Fr) (v : V) (d : D) : Prop := v = .non ∧ Own (Bs.of w G) w' x ∧ ∃ o, H' x = some o ∧ OwnR K T w' o d
def spI (K : PySem.W.Frag) (T : Tb) (c n : Nat) (F : Fn) : Sp := fun vs H Q E => ∃ w h ds G x dx us, vs = .ref x :: us ∧ G x = none ∧ H = upd G x (.ins (T.cad c) dx []) ∧ Rel K T (Bs.of w G) w [] G [] h ∧ RelDs K T w us ds ∧ ds.length + 1 = n ∧
  Post K T (Bs.of w G) (fun c d _ H' => E c d H') (vN K T w G x) w [] (F ds h) Q
section
variable {K : PySem.W.Frag} {T : Tb} {B : Bs} {w w' : Wd} {σ : L2.St} {H H' : Hp} {fr : Fr} {h : Hh}
theorem startF_length {n : Nat} {ds : List D} (hl : ds.length ≤ n) : (startF n ds).length = n := by
  unfold startF
  rw [List.length_append, List.length_map, List.length_replicate]
  omega
theorem startF_in {n i : Nat} {ds : List D} {d : D} (e : (startF n ds)[i]? = some (some d)) : ds[i]? = some d := by
  unfold startF at e
  by_cases hi : i < ds.length
  · rw [List.getElem?_append_left (by simpa using hi), List.getElem?_map] at e
    cases q : ds[i]? with
    | none => rw [q] at e; cases e
    | some a => rw [q] at e; cases e; rfl
  · rw [List.getElem?_append_right (by simpa using hi), List.getElem?_replicate] at e
    split at e <;> cases e
theorem start_at {N : List Str} {vs : List V} {i : Nat} {v : V} (e : vs[i]? = some v) : (L2.start N vs)[i]? = some (some v) := by
  unfold L2.start
  have hi : i < vs.length := (List.getElem?_eq_some_iff.mp e).1
  rw [List.getElem?_append_left (by simpa using hi), List.getElem?_map, e]
  rfl
theorem start_len {N : List Str} {vs : List V} (hl : vs.length ≤ N.length) : (L2.start N vs).length = N.length := by
  unfold L2.start
  rw [List.length_append, List.length_map, List.length_replicate]
  omega
theorem Rel.start (R : Rel K T B w [] H [] h) {N : List Str} {vs : List V} {ds : List D} (rs : RelDs K T w vs ds) (hl : ds.length ≤ N.length) : Rel K T B w (L2.start N vs) H (startF N.length ds) h :=
  { R with
    me := fun x d bx e od => by
      obtain ⟨v, ev, rv⟩ := rs.get (startF_in e)
      exact (own_not od rv).elim
    fl := by rw [startF_length hl, start_len (by rw [rs.length]; exact hl)]
    sl := fun i s d e1 e2 => by
      cases d with
      | none => exact .none
      | some d =>
        obtain ⟨v, ev, rv⟩ := rs.get (startF_in e2)
        rw [start_at ev] at e1
        cases e1
        exact .val rv
    sep := fun i j p hij ⟨_, d, e, od⟩ _ => by
      obtain ⟨v, ev, rv⟩ := rs.get (startF_in e)
      exact own_not od rv }
/-- with a new instance ahead -/
theorem Rel.startI (R : Rel K T B w [] H [] h) {N : List Str} {x dx : Addr} {c : Nat} {vs : List V} {ds : List D} (hB : B.me = some x) (nx : H x = none) (rs : RelDs K T w vs ds) (hl : ds.length + 1 ≤ N.length) :
    Rel K T B w (L2.start N (.ref x :: vs)) (upd H x (.ins (T.cad c) dx [])) (startF N.length (.no c [] :: ds)) h := by
  have R1 : Rel K T B w [] (upd H x (.ins (T.cad c) dx [])) [] h := R.temp nx
  have O : Own B w x := R.own_new nx
  have sl : ∀ (i : Nat) s d, (L2.start N (.ref x :: vs))[i]? = some s → (startF N.length (.no c [] :: ds))[i]? = some d → SlotR K T B w (upd H x (.ins (T.cad c) dx [])) s d := fun i s d e1 e2 => by
    cases d with
    | none => exact .none
    | some d =>
      have q := startF_in e2
      cases i with
      | zero =>
        cases q
        cases e1
        exact .own O upd_same (by
          have z : OwnR K T w (.ins (T.cad c) dx ((T.fld c).zip [])) (.no c []) := .obj .nil
          rw [List.zip_nil_right] at z
          exact z)
      | succ i =>
        obtain ⟨v, ev, rv⟩ := rs.get (show ds[i]? = some d from q)
        have e3 : (L2.start N (.ref x :: vs))[i + 1]? = some (some v) := start_at (show (V.ref x :: vs)[i + 1]? = some v from ev)
        rw [e3] at e1
        cases e1
        exact .val rv
  have hown : ∀ (i : Nat) d, (startF N.length (.no c [] :: ds))[i]? = some (some d) → d.own = true → i = 0 := fun i d e od => by
    cases i with
    | zero => rfl
    | succ i =>
      have q := startF_in e
      obtain ⟨v, ev, rv⟩ := rs.get (show ds[i]? = some d from q)
      exact (own_not od rv).elim
  refine { R1 with fl := ?_, sl := sl, sep := fun i j p hij ⟨_, d, e, od⟩ ⟨_, d', e', od'⟩ => hij ((hown i d e od).trans (hown j d' e' od').symm), me := fun y d bx e od => ?_ }
  · rw [startF_length (by simpa using hl), start_len (by rw [List.length_cons, rs.length]; exact hl)]
  · have bx' : some x = some y := hB.symm.trans bx
    cases bx'
    rfl
theorem Rel.unme {m : Option Addr} {w0 : Wd} {G : Hp} (R : Rel K T ⟨w0, G, [], m⟩ w [] H [] h) : Rel K T (Bs.of w0 G) w [] H [] h := { R with me := (fun _ _ _ q _ => by simp at q), sl := fun _ _ _ q => by simp at q }
theorem Rel.ofme {x : Addr} {w0 : Wd} {G : Hp} (R : Rel K T (Bs.of w0 G) w [] H [] h) : Rel K T ⟨w0, G, [], some x⟩ w [] H [] h := { R with me := (fun _ _ _ q _ => by simp at q), sl := fun _ _ _ q => by simp at q }
end

/-! ### a def keeps its promise -/
section
variable {P : Program} {w : World} {K : PySem.W.Frag} {mg : Str → Option Value} {base : Heap} {T : Tb} {k : Nat} {x qual : Str} {params : Arguments} {body : List Stmt} {scope : Scope} {dvs : List V} {kws : List (Str × V)} {f : Addr} {fd : FuncData} {N ps : List Str}
/-- the context of a def's body -/
abbrev Cxd (P : Program) (w : World) (K : PySem.W.Frag) (mg : Str → Option Value) (base : Heap) (N : List Str) (qual : Str) (scope : Scope) (f : Addr) (cdv : Value) (A : Around) (outer : List Env) (s : Shared) (H : Hp) (E : XK) : Cx := cxOf (L2.CX P w) P w K mg base N qual scope f cdv A outer s H E
def WX.up (E : XK) : WX := fun c d _ H' => E c d H'
/-- the body does what m says, in each of the def's contexts -/
def Does (P : Program) (w : World) (K : PySem.W.Frag) (mg : Str → Option Value) (base : Heap) (T : Tb) (k : Nat) (N : List Str) (qual : Str) (scope : Scope) (body : List Stmt) (m : M Fl) : Prop :=
  ∀ (f : Addr) (cdv : Value) (A : Around) (outer : List Env) (s : Shared) (H : Hp) (E : XK), Cq (Cxd P w K mg base N qual scope f cdv A outer s H E) T (WX.up E) k → SimSs (Cxd P w K mg base N qual scope f cdv A outer s H E) T (WX.up E) body m
theorem cq_of (S : FnScope N ps scope) {cdv : Value} {A : Around} {outer : List Env} {s : Shared} {H : Hp} {E : XK} (hr : Room k (A.deeper (PyProof.Rows.envOfC qual scope s.heap.objs.size f cdv))) : Cq (Cxd P w K mg base N qual scope f cdv A outer s H E) T (WX.up E) k :=
  ⟨rfl, S.nd, hr, takes_of rfl rfl rfl rfl, passes_of rfl⟩
theorem fn_sim (F : FunD K x qual params body scope dvs kws f fd) (S : FnScope N ps scope) {m : M Fl} (dm : Does P w K mg base T k N qual scope body m) : FnOk P w K mg base (L2.CX P w) (k + 1) f fd ps (spF K T ps.length (runF N.length m)) := by
  refine F.ok S (fun vs H Q E ⟨w, h, ds, _, rs, hl, _⟩ => rs.length.trans hl) fun cdv A outer s H vs Q E hr ⟨w, h, ds, R, rs, hl, post⟩ => ⟨WSs _ body, pss_max, ?_⟩
  have hpl : ps.length ≤ N.length := by
    have := congrArg List.length S.pre
    rw [List.length_take] at this
    omega
  refine dm f cdv A outer s H E (cq_of S hr) (Bs.of w H) w _ H (startF N.length ds) h _ (R.start rs (by rw [hl]; exact hpl)) ?_
  unfold runF at post
  cases e : m (startF N.length ds) h with
  | ok fl fr h' =>
    rw [e] at post
    cases fl with
    | nx => exact fun w' σ' H' l R' => post w' H' .non l R'.unframe (.inl .non)
    | rt d => exact fun w' σ' H' v l R' rv => post w' H' v l R'.unframe (by
        rcases rv with rv | ⟨p, o, rfl, O, lo, eH, rd⟩
        · exact .inl rv
        · exact .inr ⟨p, o, rfl, O, fun i => noSlot, eH, rd⟩)
    | brk => exact post.elim
    | ct => exact post.elim
  | exc y fr h' =>
    rw [e] at post
    exact fun w' σ' H' c dd l R' z => post w' H' c dd l R'.unframe z
  | err => rw [e] at post; exact post
theorem fn_simI (c : Nat) (F : FunD K x qual params body scope dvs kws f fd) (S : FnScope N ps scope) {m : M Fl} (dm : Does P w K mg base T k N qual scope body m) : FnOk P w K mg base (L2.CX P w) (k + 1) f fd ps (spI K T c ps.length (runI c N.length m)) := by
  refine F.ok S (fun vs H Q E ⟨w, h, ds, G, x, dx, us, ev, _, _, _, rs, hl, _⟩ => by rw [ev, List.length_cons, rs.length]; exact hl) fun cdv A outer s H vs Q E hr ⟨w, h, ds, G, x, dx, us, ev, nx, eH, R, rs, hl, post⟩ => ⟨WSs _ body, pss_max, ?_⟩
  have hpl : ps.length ≤ N.length := by
    have := congrArg List.length S.pre
    rw [List.length_take] at this
    omega
  subst ev eH
  refine dm f cdv A outer s _ E (cq_of S hr) ⟨w, G, [], some x⟩ w _ _ (startF N.length (.no c [] :: ds)) h _ (R.ofme.startI rfl nx rs (by rw [hl]; exact hpl)) ?_
  unfold runI at post
  cases e : m (startF N.length (.no c [] :: ds)) h with
  | ok fl fr h' =>
    rw [e] at post
    cases fl with
    | nx =>
      intro w' σ' H' l R'
      dsimp only at post
      cases e0 : (fr : Fr)[0]? with
      | none => rw [e0] at post; exact post.elim
      | some od =>
        rw [e0] at post
        cases od with
        | none => exact post.elim
        | some d =>
          cases d with
          | no c' fs =>
            dsimp only at post
            by_cases hc : c' = c
            · rw [if_pos hc] at post
              subst hc
              have s0 := R'.me x _ rfl e0 rfl
              obtain ⟨v, ev, z⟩ := slot_some R' e0
              rw [s0] at ev
              cases ev
              cases z with
              | val r => cases r
              | own O eH r => exact post w' H' .non l R'.unframe.unme ⟨rfl, ⟨O.f, O.i, O.e, fun q hq => by cases hq⟩, _, eH, r⟩
            · rw [if_neg hc] at post
              exact post.elim
          | _ => exact post.elim
    | rt d => exact post.elim
    | brk => exact post.elim
    | ct => exact post.elim
  | exc y fr h' =>
    rw [e] at post
    exact fun w' σ' H' c dd l R' z => post w' H' c dd l R'.unframe.unme z
  | err => rw [e] at post; exact post
end
end Pk

/-! Pk10: calls. -/
namespace Pk
open PySem PySem.Spec L2

/-! ### the values of keywords -/
structure WKw (X : Cx) (kws : List Keyword) (σ : L2.St) (H : Hp) (Q : List V → Hp → Prop) : Prop where
  go : ∀ pos pins s, Inv X pins σ H s → wpAny (model X.prog X.w) X.A (evalAll ((backToKw pos (keywordEach kws X.env)).map (·.2))) (AP X pins σ Q) X.xe s
theorem pk_max {X : Cx} {kws : List Keyword} : PK X kws (WKw X kws) := ⟨fun pos pins s σ H Q I h => h.go pos pins s I⟩
theorem pk_wk {X : Cx} {kws : List Keyword} {t : TA} (p : PK X kws t) {σ : L2.St} {H : Hp} {Q : List V → Hp → Prop} (h : t σ H Q) : WKw X kws σ H Q := ⟨fun pos pins s I => p.run pos pins s σ H Q I h⟩
abbrev SimK (X : Cx) (T : Tb) (W : WX) (kws : List Keyword) (m : M (List D)) : Prop := Sim (WKw X kws) X.K T W vA m
section
variable {X : Cx} {T : Tb} {W : WX} {e : Expr} {kws : List Keyword} {m : M D} {ms : List (M D)} {nm : Option Str} {kpos : Pos}
theorem sk_nil : SimK X T W [] (mArgs []) := fun B w σ H fr h Q r1 p => pk_wk pk_nil (p w H _ (Wd.le_refl _) r1 .nil)
theorem sk_cons (s : SimV X T W e m) (t : SimK X T W kws (mArgs ms)) : SimK X T W (⟨nm, e, kpos⟩ :: kws) (mArgs (m :: ms)) := fun B w σ H fr h Q r1 p =>
  pk_wk (pk_cons pe_max pk_max) (s B w σ H fr h _ r1 (Post.bind (VR := vV X.K T B σ) p fun d fr1 h1 w1 H1 x e1 l1 r1 rx p1 =>
    t B w1 σ H1 fr1 h1 _ r1 (Post.bind (VR := vA X.K T B σ) p1 fun ds fr2 h2 w2 H2 vs e2 l2 r2 rs p2 => p2 w2 H2 _ (Wd.le_refl _) r2 (.cons (rx.mono l2) rs))))
end

/-! ### the callee's answer in the caller -/
def liftR (fr : Fr) : R D → R D
  | .ok d _ h => .ok d fr h
  | .exc x _ h => .exc x fr h
  | .err => .err
theorem call_sp {K : PySem.W.Frag} {T : Tb} {B : Bs} {W : WX} {w : Wd} {σ : L2.St} {H : Hp} {fr : Fr} {h : Hh} {n : Nat} {F : Fn} {vs : List V} {ds : List D} {Q : VK} (R : Rel K T B w σ H fr h) (rs : RelDs K T w vs ds) (hl : ds.length = n)
    (p : Post K T B W (vE K T B σ) w σ (liftR fr (F ds h)) Q) : spF K T n F vs H Q (fun c d H' => W c d σ H') := by
  refine ⟨w, h, ds, R.enter, rs, hl, ?_⟩
  cases e : F ds h with
  | ok d fr' h' =>
    rw [e] at p
    intro w' H' v l R' rv
    have ef : fr' = [] := by
      have := R'.fl
      exact List.length_eq_zero_iff.mp this
    subst ef
    have R2 := R.back l R'
    refine p w' H' v l R2 ?_
    rcases rv with rv | ⟨q, o, rfl, O, lo, eH, rd⟩
    · exact .inl rv
    · have nq : H q = none := O.e
      refine .inr ⟨q, o, rfl, ⟨O.f, O.i, (R.own_new nq).e, (R.own_new nq).p⟩, fun i z => R.loose_new nq i z, eH, rd⟩
  | exc y fr' h' =>
    rw [e] at p
    intro w' H' c dd l R' z
    have ef : fr' = [] := by
      have := R'.fl
      exact List.length_eq_zero_iff.mp this
    subst ef
    exact p w' H' c dd l (R.back l R') z
  | err => rw [e] at p; exact p
theorem call_spI {K : PySem.W.Frag} {T : Tb} {B : Bs} {W : WX} {w : Wd} {σ : L2.St} {H : Hp} {fr : Fr} {h : Hh} {n c : Nat} {F : Fn} {vs : List V} {ds : List D} {Q : VK} {x dx : Addr} (R : Rel K T B w σ H fr h) (rs : RelDs K T w vs ds) (hl : ds.length + 1 = n)
    (nx : H x = none) (nd : H dx = none) (ne : dx ≠ x)
    (p : Post K T B W (vE K T B σ) w σ (liftR fr (F ds h)) Q) : spI K T c n F (.ref x :: vs) (upd (upd H dx (.own x)) x (.ins (T.cad c) dx [])) (fun v H2 => v = .non ∧ Q (.ref x) H2) (fun c d H' => W c d σ H') := by
  have R1 : Rel K T B w σ (upd H dx (.own x)) fr h := R.temp nd
  have nx1 : (upd H dx (.own x)) x = none := by rw [upd_ne (Ne.symm ne)]; exact nx
  refine ⟨w, h, ds, upd H dx (.own x), x, dx, vs, rfl, nx1, rfl, R1.enter, rs, hl, ?_⟩
  cases e : F ds h with
  | ok d fr' h' =>
    rw [e] at p
    intro w' H' v l R' ⟨ev, O, o, eH, rd⟩
    have ef : fr' = [] := by
      have := R'.fl
      exact List.length_eq_zero_iff.mp this
    subst ef
    exact ⟨ev, p w' H' (.ref x) l (R1.back l R') (.inr ⟨x, o, rfl, ⟨O.f, O.i, (R1.own_new nx1).e, (R1.own_new nx1).p⟩, fun i z => R1.loose_new nx1 i z, eH, rd⟩)⟩
  | exc y fr' h' =>
    rw [e] at p
    intro w' H' c dd l R' z
    have ef : fr' = [] := by
      have := R'.fl
      exact List.length_eq_zero_iff.mp this
    subst ef
    exact p w' H' c dd l (R1.back l R') z
  | err => rw [e] at p; exact p

/-! ### how a call binds -/
structure Bn (K : PySem.W.Frag) (T : Tb) (fd : FuncData) (ps : List Str) (n : Nat) (ks : List Str) (gD : List D → List D → List D) : Prop where
  ex : ∃ (g : List Value → List Value → List Value) (gV : List V → List V → List V), KBn K fd ps n ks g gV ∧
    ∀ (w : Wd) (vs zs : List V) (ds es : List D), RelDs K T w vs ds → RelDs K T w zs es → ds.length = n → es.length = ks.length → RelDs K T w (gV vs zs) (gD ds es) ∧ (gD ds es).length = ps.length
def gPos (dfl : List D) (ds _ : List D) : List D := ds ++ dfl
structure FnP (P : Program) (w : World) (K : PySem.W.Frag) (mg : Str → Option Value) (base : Heap) (T : Tb) (k : Nat) (f : Addr) (fd : FuncData) (ps : List Str) (F : Fn) : Prop where
  ok : FnOk P w K mg base (L2.CX P w) k f fd ps (spF K T ps.length F)
  kp : PySem.W.keepIn K (.ref f) = true
structure FnI (P : Program) (w : World) (K : PySem.W.Frag) (mg : Str → Option Value) (base : Heap) (T : Tb) (k c : Nat) (f : Addr) (fd : FuncData) (ps : List Str) (F : Fn) : Prop where
  ok : FnOk P w K mg base (L2.CX P w) k f fd ps (spI K T c ps.length F)
  made : Mk K (T.cad c) f
def mCall (n m : Nat) (F : Fn) (gD : List D → List D → List D) (ma mk : M (List D)) : M D := ma.bind fun ds => mk.bind fun es fr h => if ds.length = n ∧ es.length = m then liftR fr (F (gD ds es) h) else .err
theorem bn_all {K : PySem.W.Frag} {T : Tb} {fd : FuncData} {ps : List Str} (h : Binds K fd ps []) : Bn K T fd ps ps.length [] (gPos []) :=
  ⟨fun us _ => us, fun vs _ => vs, ⟨fun s us ws X l1 _ => by
    have b := h s us X (by rw [List.append_nil]; exact l1)
    rw [List.append_nil] at b
    exact b, fun r _ => r⟩, fun w vs zs ds es rs _ hl _ => ⟨by
      show RelDs K T w vs (ds ++ [])
      rw [List.append_nil]
      exact rs, by
      show (ds ++ []).length = _
      rw [List.append_nil]
      exact hl⟩⟩
section
variable {X : Cx} {T : Tb} {W : WX} {k kk n : Nat} {f C : Addr} {fd : FuncData} {ps ks : List Str} {F : Fn} {x m : Str} {p pos apos : Pos} {e o : Expr} {es : List Expr} {kws : List Keyword} {mo : M D} {ma mk : M (List D)} {gD : List D → List D → List D}
theorem run_gen {pins : List (Addr × Obj)} {σ : L2.St} {H : Hp} {s : Shared} {Q : VK} {us ws : List Value} {vs zs : List V} {g : List Value → List Value → List Value} {gV : List V → List V → List V} {sp : Sp} (F : FnOk X.prog X.w X.K X.mg X.base (L2.CX X.prog X.w) kk f fd ps sp) (hr : Room kk X.A) (hb : KBn X.K fd ps n ks g gV) (tk : Takes X W)
    (I : Inv X pins σ H s) (r : Vals vs us) (rz : Vals zs ws) (l1 : vs.length = n) (l2 : zs.length = ks.length) (h : sp (gV vs zs) H Q (fun c d H' => W c d σ H')) : wpAny (model X.prog X.w) X.A (call (.ref f) us (ks.zip ws)) (EP X pins σ Q) X.xe s := by
  have r2 := hb.rel r rz
  refine wpAny_call (codeAny_mono (F.run X.A X.stack s H ⟨us, ks.zip ws⟩ (g us ws) (gV vs zs) Q _ hr I.env0 (hb.to s us ws I.kIn (r.length.symm.trans l1) (rz.length.symm.trans l2)) r2 h) fun r s' hq => ?_)
  cases r with
  | error e => exact passAt tk σ pins H s e s' I hq
  | ok fl =>
    cases fl with
    | ret u => exact I.after hq
    | next => exact False.elim hq
    | brk => exact False.elim hq
    | cont => exact False.elim hq
theorem run_mk {pins : List (Addr × Obj)} {σ : L2.St} {H : Hp} {s : Shared} {Q : VK} {us ws : List Value} {vs zs : List V} {g : List Value → List Value → List Value} {gV : List V → List V → List V} {sp : Sp} (M : Mk X.K C f) (F : FnOk X.prog X.w X.K X.mg X.base (L2.CX X.prog X.w) kk f fd ps sp) (hr : Room (kk + 1) X.A) (hb : KBn X.K fd ps (n + 1) ks g gV) (tk : Takes X W)
    (I : Inv X pins σ H s) (r : Vals vs us) (rz : Vals zs ws) (l1 : vs.length = n) (l2 : zs.length = ks.length)
    (h : ∀ x dx, H x = none → H dx = none → dx ≠ x → sp (gV (.ref x :: vs) zs) (upd (upd H dx (.own x)) x (.ins C dx [])) (fun v H2 => v = .non ∧ Q (.ref x) H2) (fun c d H' => W c d σ H')) :
    wpAny (model X.prog X.w) X.A (call (.ref C) us (ks.zip ws)) (EP X pins σ Q) X.xe s := by
  have hq := h (s.heap.objs.size + 1) s.heap.objs.size (I.hok.fresh (Nat.le_succ _)) (I.hok.fresh (Nat.le_refl _)) (Nat.ne_of_lt (Nat.lt_succ_self _))
  have I2 := Inv.made (C := C) I
  have r1 : Vals (V.ref (s.heap.objs.size + 1) :: vs) (Value.ref (s.heap.objs.size + 1) :: us) := .cons rfl r
  have r2 := hb.rel r1 rz
  have n1 : (Value.ref (s.heap.objs.size + 1) :: us).length = n + 1 := by
    rw [List.length_cons, ← r.length, l1]
  refine wpAny_call (make_map (f := f) I.kIn M.makes M.init (beq_iff_eq.mp M.fn) (codeAny_mono (F.run _ X.stack _ _ ⟨Value.ref (s.heap.objs.size + 1) :: us, ks.zip ws⟩ (g (Value.ref (s.heap.objs.size + 1) :: us) ws) _ _ _ (hr.make C us (ks.zip ws))
    (I2.env0.make C us (ks.zip ws)) (hb.to _ (Value.ref (s.heap.objs.size + 1) :: us) ws I2.kIn n1 (rz.length.symm.trans l2)) r2 hq) fun r s' hq' => ?_))
  cases r with
  | error e => exact passAt tk σ pins _ _ e s' I2 hq'
  | ok fl =>
    cases fl with
    | ret u =>
      obtain ⟨v, H', I3, rv, ev, q3⟩ := I2.after hq'
      subst ev
      exact ⟨rv, ⟨V.ref (s.heap.objs.size + 1), H', I3, rfl, q3⟩⟩
    | next => exact False.elim hq'
    | brk => exact False.elim hq'
    | cont => exact False.elim hq'

/-! ### f(..) -/
/-- what is asked behind the arguments -/
theorem call_end {B : Bs} {w : Wd} {σ : L2.St} {H : Hp} {fr : Fr} {h : Hh} {m : Nat} {vs zs : List V} {ds es : List D} {Q : VK} {gV : List V → List V → List V} (hg : ∀ (w : Wd) (vs zs : List V) (ds es : List D), RelDs X.K T w vs ds → RelDs X.K T w zs es → ds.length = n → es.length = m → RelDs X.K T w (gV vs zs) (gD ds es) ∧ (gD ds es).length = ps.length)
    (R : Rel X.K T B w σ H fr h) (rs : RelDs X.K T w vs ds) (rz : RelDs X.K T w zs es) (p : Post X.K T B W (vE X.K T B σ) w σ (if ds.length = n ∧ es.length = m then liftR fr (F (gD ds es) h) else .err) Q) :
    vs.length = n ∧ zs.length = m ∧ spF X.K T ps.length F (gV vs zs) H Q (fun c d H' => W c d σ H') := by
  by_cases hl : ds.length = n ∧ es.length = m
  · rw [if_pos hl] at p
    obtain ⟨r2, l2⟩ := hg w vs zs ds es rs rz hl.1 hl.2
    exact ⟨rs.length.trans hl.1, rz.length.trans hl.2, call_sp R r2 l2 p⟩
  · rw [if_neg hl] at p
    exact p.elim
theorem se_call (C : Cq X T W k) (F0 : FnP X.prog X.w X.K X.mg X.base T kk f fd ps F) (hk : kk ≤ k) (bn : Bn X.K T fd ps n [] gD) (hm : X.mg x = some (.ref f)) (sa : SimA X T W (e :: es) ma) (hg : Gl X x := by rfl) (hdb : (x == ("__debug__" : Str)) = false := by decide)
    (he : starEach (e :: es) X.env = (false, eval e X.env) :: starEach es X.env := by exact star_no rfl) (hpl : (backTo pos (starEach es X.env)).any (·.1) = false := by rfl) : SimE X T W (.Call (.Name x p) (e :: es) [] pos) (mCall n 0 F gD ma (mArgs [])) := fun B w σ H fr h Q R pp => WE.mk <| fun pins s I => by
  obtain ⟨g, gV, hb, hgD⟩ := bn.ex
  refine wpAny_Call_Name_kw (ld_glob I hg hm ?_ hdb)
  refine PySem.W.callWith_K (h₀ := X.base) I.ok.mod.kin F0.kp (thn ((sa B w σ H fr h _ R (Post.bind (VR := vA X.K T B σ) pp fun ds fr1 h1 w1 H1 vs e1 l1 r1 rs p1 => call_end hgD r1 rs .nil p1)).go pos pins s I) fun us s1 ⟨vs, H1, I1, r, q⟩ => ⟨I1.kIn, ?_⟩) he hpl
  exact run_gen (ws := []) F0.ok (C.room.mono hk) hb C.takes I1 r .nil q.1 rfl q.2.2
end
end Pk

/-! Pk11: instances made, methods, properties, isinstance, names of the module. -/
namespace Pk
open PySem PySem.Spec L2

structure BnI (K : PySem.W.Frag) (T : Tb) (fd : FuncData) (ps : List Str) (n : Nat) (ks : List Str) (gD : List D → List D → List D) : Prop where
  ex : ∃ (g : List Value → List Value → List Value) (gV gW : List V → List V → List V), KBn K fd ps (n + 1) ks g gV ∧ (∀ x vs zs, vs.length = n → zs.length = ks.length → gV (x :: vs) zs = x :: gW vs zs) ∧
    ∀ (w : Wd) (vs zs : List V) (ds es : List D), RelDs K T w vs ds → RelDs K T w zs es → ds.length = n → es.length = ks.length → RelDs K T w (gW vs zs) (gD ds es) ∧ (gD ds es).length + 1 = ps.length
theorem bnI_all {K : PySem.W.Frag} {T : Tb} {fd : FuncData} {ps : List Str} (n : Nat) (h : Binds K fd ps []) (hn : n + 1 = ps.length) : BnI K T fd ps n [] (gPos []) :=
  ⟨fun us _ => us, fun vs _ => vs, fun vs _ => vs, ⟨fun s us ws X l1 _ => by
    have b := h s us X (by rw [List.append_nil, l1]; exact hn)
    rw [List.append_nil] at b
    exact b, fun r _ => r⟩, fun _ _ _ _ _ => rfl, fun w vs zs ds es rs _ hl _ => ⟨by
      show RelDs K T w vs (ds ++ [])
      rw [List.append_nil]
      exact rs, by
      show (ds ++ []).length + 1 = _
      rw [List.append_nil, hl]
      exact hn⟩⟩
section
variable {X : Cx} {T : Tb} {W : WX} {k kk n c : Nat} {f : Addr} {fd : FuncData} {ps ks : List Str} {F : Fn} {x m : Str} {p pos apos : Pos} {e o : Expr} {es : List Expr} {kws : List Keyword} {mo : M D} {ma mk : M (List D)} {gD : List D → List D → List D}
theorem make_end {B : Bs} {w : Wd} {σ : L2.St} {H : Hp} {fr : Fr} {h : Hh} {m : Nat} {vs zs : List V} {ds es : List D} {Q : VK} {gV gW : List V → List V → List V} (hv : ∀ x vs zs, vs.length = n → zs.length = m → gV (x :: vs) zs = x :: gW vs zs)
    (hg : ∀ (w : Wd) (vs zs : List V) (ds es : List D), RelDs X.K T w vs ds → RelDs X.K T w zs es → ds.length = n → es.length = m → RelDs X.K T w (gW vs zs) (gD ds es) ∧ (gD ds es).length + 1 = ps.length)
    (R : Rel X.K T B w σ H fr h) (rs : RelDs X.K T w vs ds) (rz : RelDs X.K T w zs es) (p : Post X.K T B W (vE X.K T B σ) w σ (if ds.length = n ∧ es.length = m then liftR fr (F (gD ds es) h) else .err) Q) :
    vs.length = n ∧ zs.length = m ∧ ∀ x dx, H x = none → H dx = none → dx ≠ x → spI X.K T c ps.length F (gV (.ref x :: vs) zs) (upd (upd H dx (.own x)) x (.ins (T.cad c) dx [])) (fun v H2 => v = .non ∧ Q (.ref x) H2) (fun c d H' => W c d σ H') := by
  by_cases hl : ds.length = n ∧ es.length = m
  · rw [if_pos hl] at p
    obtain ⟨r2, l2⟩ := hg w vs zs ds es rs rz hl.1 hl.2
    refine ⟨rs.length.trans hl.1, rz.length.trans hl.2, fun x dx nx nd ne => ?_⟩
    rw [hv _ _ _ (rs.length.trans hl.1) (rz.length.trans hl.2)]
    exact call_spI R r2 l2 nx nd ne p
  · rw [if_neg hl] at p
    exact p.elim
theorem se_make (C : Cq X T W k) (F0 : FnI X.prog X.w X.K X.mg X.base T kk c f fd ps F) (hk : kk + 1 ≤ k) (bn : BnI X.K T fd ps n [] gD) (hm : X.mg x = some (.ref (T.cad c))) (sa : SimA X T W (e :: es) ma) (hg : Gl X x := by rfl) (hdb : (x == ("__debug__" : Str)) = false := by decide)
    (he : starEach (e :: es) X.env = (false, eval e X.env) :: starEach es X.env := by exact star_no rfl) (hpl : (backTo pos (starEach es X.env)).any (·.1) = false := by rfl) : SimE X T W (.Call (.Name x p) (e :: es) [] pos) (mCall n 0 F gD ma (mArgs [])) := fun B w σ H fr h Q R pp => WE.mk <| fun pins s I => by
  obtain ⟨g, gV, gW, hb, hv, hgD⟩ := bn.ex
  refine wpAny_Call_Name_kw (ld_glob I hg hm ?_ hdb)
  refine PySem.W.callWith_K (h₀ := X.base) I.ok.mod.kin F0.made.kp (thn ((sa B w σ H fr h _ R (Post.bind (VR := vA X.K T B σ) pp fun ds fr1 h1 w1 H1 vs e1 l1 r1 rs p1 => make_end (c := c) hv hgD r1 rs .nil p1)).go pos pins s I) fun us s1 ⟨vs, H1, I1, r, q⟩ => ⟨I1.kIn, ?_⟩) he hpl
  exact run_mk (ws := []) F0.made F0.ok (C.room.mono hk) hb C.takes I1 r .nil q.1 rfl q.2.2
theorem se_makeK (C : Cq X T W k) (F0 : FnI X.prog X.w X.K X.mg X.base T kk c f fd ps F) (hk : kk + 1 ≤ k) (bn : BnI X.K T fd ps n ks gD) (hm : X.mg x = some (.ref (T.cad c))) (sa : SimA X T W (e :: es) ma) (sk : SimK X T W kws mk) (hg : Gl X x := by rfl) (hdb : (x == ("__debug__" : Str)) = false := by decide)
    (hall : (backToKw pos (keywordEach kws X.env)).all (·.1.isSome) = true := by rfl) (hks : (backToKw pos (keywordEach kws X.env)).filterMap (·.1) = ks := by rfl)
    (he : starEach (e :: es) X.env = (false, eval e X.env) :: starEach es X.env := by exact star_no rfl) (hpl : ((backTo pos (starEach (e :: es) X.env)).any (·.1) || (backToKw pos (keywordEach kws X.env)).any (·.1.isNone)) = false := by rfl) :
    SimE X T W (.Call (.Name x p) (e :: es) kws pos) (mCall n ks.length F gD ma mk) := fun B w σ H fr h Q R pp => WE.mk <| fun pins s I => by
  obtain ⟨g, gV, gW, hb, hv, hgD⟩ := bn.ex
  refine wpAny_Call_Name_kw (ld_glob I hg hm ?_ hdb)
  refine PySem.W.callWith_KW (h₀ := X.base) I.ok.mod.kin F0.made.kp hall (thn ((sa B w σ H fr h _ R (Post.bind (VR := vA X.K T B σ) pp fun ds fr1 h1 w1 H1 vs e1 l1 r1 rs p1 =>
    sk B w1 σ H1 fr1 h1 _ r1 (Post.bind (VR := vA X.K T B σ) p1 fun es fr2 h2 w2 H2 zs e2 l2 r2 rz p2 => make_end (c := c) hv hgD r2 (rs.mono l2) rz p2))).go pos pins s I) fun us s1 ⟨vs, H1, I1, r, q⟩ => ?_) hpl he
  refine thn (q.go pos pins s1 I1) fun ws s2 ⟨zs, H2, I2, rz, q2⟩ => ⟨I2.kIn, ?_⟩
  rw [hks]
  exact run_mk F0.made F0.ok (C.room.mono hk) hb C.takes I2 r rz q2.1 q2.2.1 q2.2.2
/-! ### o.m(..), o.f a property -/
theorem zip_lookup_none {α : Type} {f : Str} : ∀ {fs : List Str} {vs : List α}, f ∉ fs → (fs.zip vs).lookup f = none
  | [], _, _ => rfl
  | g :: fs, [], _ => by simp
  | g :: fs, v :: vs, h => by
    rw [List.mem_cons, not_or] at h
    show List.lookup f ((g, v) :: fs.zip vs) = none
    rw [List.lookup_cons, beq_eq_false_iff_ne.mpr h.1]
    exact zip_lookup_none h.2
structure MethF (X : Cx) (T : Tb) (k : Nat) (m : Str) (mt : Nat → Option Fn) (n : Nat) (ks : List Str) (gD : List D → List D → List D) : Prop where
  ex : ∀ c F, mt c = some F → ∃ (kk : Nat) (f : Addr) (fd : FuncData) (ps : List Str), Cls X.K (T.cad c) ∧ Meth X.K (T.cad c) m f ∧ FnP X.prog X.w X.K X.mg X.base T kk f fd ps F ∧ Bn X.K T fd ps (n + 1) ks gD ∧ m ∉ T.fld c ∧ kk ≤ k
def fnOf (mt : Nat → Option Fn) (h : Hh) (o : D) : Option Fn := match o.ins h with
  | some (c, _) => mt c
  | none => none
def mMeth (n m : Nat) (mt : Nat → Option Fn) (gD : List D → List D → List D) (mo : M D) (ma mk : M (List D)) : M D := mo.bind fun o fr h => match fnOf mt h o with
  | some F => (mCall (n + 1) m F gD (ma.bind fun ds => M.ret (o :: ds)) mk) fr h
  | none => .err
theorem meth_open {B : Bs} {w : Wd} {σ : L2.St} {H : Hp} {fr : Fr} {h : Hh} {mt : Nat → Option Fn} {v : V} {d : D} {G : Fn} (M : MethF X T k m mt n ks gD) (R : Rel X.K T B w σ H fr h) (rv : RelD X.K T w v d) (e : fnOf mt h d = some G) :
    ∃ (kk : Nat) (f : Addr) (fd : FuncData) (ps : List Str) (a C dx : Addr) (fs : List (Str × V)), v = .ref a ∧ H a = some (.ins C dx fs) ∧ fs.lookup m = none ∧ Cls X.K C ∧ Meth X.K C m f ∧ FnP X.prog X.w X.K X.mg X.base T kk f fd ps G ∧ Bn X.K T fd ps (n + 1) ks gD ∧ kk ≤ k := by
  unfold fnOf at e
  split at e
  · rename_i c fs ei
    obtain ⟨kk, f, fd, ps, c1, c2, c3, c4, c5, c6⟩ := M.ex c G e
    obtain ⟨a, dx, vs, rfl, eH, rs⟩ := ins_rel R (.inl rv) ei
    exact ⟨kk, f, fd, ps, a, T.cad c, dx, _, rfl, eH, zip_lookup_none c5, c1, c2, c3, c4, c6⟩
  · cases e
theorem se_meth {pl : Sem Bool} {mt : Nat → Option Fn} (C : Cq X T W k) (Mf : MethF X T k m mt n [] gD) (so : SimV X T W o mo) (sa : SimA X T W (e :: es) ma)
    (hst : starEach (e :: es) X.env = (false, eval e X.env) :: starEach es X.env := by exact star_no rfl) (hpl : (backTo pos (starEach es X.env)).any (·.1) = false := by rfl)
    (ht : eval (.Call (.Attribute o m apos) (e :: es) [] pos) X.env = (do
      let ov ← eval o X.env
      standAt apos.atName
      let (f, first) ← holding [ov] (getMethod ov m pl)
      callWith pos f first (backTo pos (starEach (e :: es) X.env)) (backToKw pos (keywordEach [] X.env))) := by rfl) :
    SimE X T W (.Call (.Attribute o m apos) (e :: es) [] pos) (mMeth n 0 mt gD mo ma (mArgs [])) := fun B w σ H fr h Q R pp => WE.mk <| fun pins s I => by
  refine PySem.W.methodCall_KW (pl := pl) (thn ((so B w σ H fr h (fun v H1 => ∃ (kk : Nat) (f : Addr) (fd : FuncData) (ps : List Str) (a C dx : Addr) (fs : List (Str × V)) (G : Fn), v = .ref a ∧ H1 a = some (.ins C dx fs) ∧ fs.lookup m = none ∧ Cls X.K C ∧ Meth X.K C m f ∧ FnP X.prog X.w X.K X.mg X.base T kk f fd ps G ∧ Bn X.K T fd ps (n + 1) [] gD ∧ kk ≤ k ∧
      ∀ g gV, KBn X.K fd ps (n + 1) [] g gV → (∀ (w : Wd) (vs zs : List V) (ds es : List D), RelDs X.K T w vs ds → RelDs X.K T w zs es → ds.length = n + 1 → es.length = ([] : List Str).length → RelDs X.K T w (gV vs zs) (gD ds es) ∧ (gD ds es).length = ps.length) →
        WA X (e :: es) σ H1 fun vs H2 => (.ref a :: vs).length = n + 1 ∧ spF X.K T ps.length G (gV (.ref a :: vs) []) H2 Q (fun c d H' => W c d σ H')) R (Post.bind (VR := vV X.K T B σ) pp fun d fr1 h1 w1 H1 v e1 l1 r1 rv p1 => ?_)).go pins s I) fun u s1 ⟨x, H1, I1, rx, kk, f, fd, ps, a, Cl, dx, fs, G, ex, ea, l, c1, c2, c3, c4, c5, q⟩ => ?_) ht
  · have p1' : Post X.K T B W (vE X.K T B σ) w1 σ (match fnOf mt h1 d with | some F => (mCall (n + 1) 0 F gD (ma.bind fun ds => M.ret (d :: ds)) (mArgs [])) fr1 h1 | none => .err) Q := p1
    cases ef : fnOf mt h1 d with
    | none => rw [ef] at p1'; exact p1'.elim
    | some G =>
      rw [ef] at p1'
      obtain ⟨kk, f, fd, ps, a, Cl, dx, fs, rfl, eH, l, c1, c2, c3, c4, c5⟩ := meth_open Mf r1 rv ef
      refine ⟨kk, f, fd, ps, a, Cl, dx, fs, G, rfl, eH, l, c1, c2, c3, c4, c5, fun g gV hb hgD => ?_⟩
      have p2 : Post X.K T B W (vE X.K T B σ) w1 σ ((ma.bind fun ds fr h => if (d :: ds).length = n + 1 ∧ ([] : List D).length = 0 then liftR fr (G (gD (d :: ds) []) h) else .err) fr1 h1) Q := by
        have ee : (mCall (n + 1) 0 G gD (ma.bind fun ds => M.ret (d :: ds)) (mArgs [])) fr1 h1 = (ma.bind fun ds fr h => if (d :: ds).length = n + 1 ∧ ([] : List D).length = 0 then liftR fr (G (gD (d :: ds) []) h) else .err) fr1 h1 := by
          unfold mCall M.bind
          cases ma fr1 h1 <;> rfl
        rw [← ee]
        exact p1'
      refine sa B w1 σ H1 fr1 h1 _ r1 (Post.bind (VR := vA X.K T B σ) p2 fun ds fr2 h2 w2 H2 vs e2 l2 r2 rs p3 => ?_)
      have q := call_end (n := n + 1) (m := 0) (zs := []) (es := []) hgD r2 (.cons (rv.mono l2) rs) .nil p3
      exact ⟨q.1, q.2.2⟩
  · subst ex
    obtain rfl : u = Value.ref a := rx
    obtain ⟨g, gV, hb, hgD⟩ := c4.ex
    refine getmeth_ok I1 ea c1 c2 l ?_
    refine PySem.W.callWith_K (first := [.ref a]) (h₀ := X.base) I.ok.mod.kin c2.kp (thn ((q g gV hb hgD).go pos pins s1 I1) fun us s2 ⟨vs, H2, I2, r, q2⟩ => ⟨I2.kIn, ?_⟩) hst hpl
    exact run_gen (us := .ref a :: us) (ws := []) (vs := .ref a :: vs) c3.ok (C.room.mono c5) hb C.takes I2 (.cons rfl r) .nil q2.1 rfl q2.2
theorem se_meth0 {pl : Sem Bool} {mt : Nat → Option Fn} (C : Cq X T W k) (Mf : MethF X T k m mt 0 [] gD) (so : SimV X T W o mo)
    (ht : eval (.Call (.Attribute o m apos) [] [] pos) X.env = (do
      let ov ← eval o X.env
      standAt apos.atName
      let (f, first) ← holding [ov] (getMethod ov m pl)
      callWith pos f first (backTo pos (starEach [] X.env)) (backToKw pos (keywordEach [] X.env))) := by rfl) :
    SimE X T W (.Call (.Attribute o m apos) [] [] pos) (mMeth 0 0 mt gD mo (mArgs []) (mArgs [])) := fun B w σ H fr h Q R pp => WE.mk <| fun pins s I => by
  refine PySem.W.methodCall_KW (pl := pl) (thn ((so B w σ H fr h (fun v H1 => ∃ (kk : Nat) (f : Addr) (fd : FuncData) (ps : List Str) (a C dx : Addr) (fs : List (Str × V)) (G : Fn), v = .ref a ∧ H1 a = some (.ins C dx fs) ∧ fs.lookup m = none ∧ Cls X.K C ∧ Meth X.K C m f ∧ FnP X.prog X.w X.K X.mg X.base T kk f fd ps G ∧ Bn X.K T fd ps (0 + 1) [] gD ∧ kk ≤ k ∧
      ∀ g gV, KBn X.K fd ps (0 + 1) [] g gV → (∀ (w : Wd) (vs zs : List V) (ds es : List D), RelDs X.K T w vs ds → RelDs X.K T w zs es → ds.length = 0 + 1 → es.length = ([] : List Str).length → RelDs X.K T w (gV vs zs) (gD ds es) ∧ (gD ds es).length = ps.length) →
        spF X.K T ps.length G (gV [.ref a] []) H1 Q (fun c d H' => W c d σ H')) R (Post.bind (VR := vV X.K T B σ) pp fun d fr1 h1 w1 H1 v e1 l1 r1 rv p1 => ?_)).go pins s I) fun u s1 ⟨x, H1, I1, rx, kk, f, fd, ps, a, Cl, dx, fs, G, ex, ea, l, c1, c2, c3, c4, c5, q⟩ => ?_) ht
  · have p1' : Post X.K T B W (vE X.K T B σ) w1 σ (match fnOf mt h1 d with | some F => (mCall (0 + 1) 0 F gD ((mArgs []).bind fun ds => M.ret (d :: ds)) (mArgs [])) fr1 h1 | none => .err) Q := p1
    cases ef : fnOf mt h1 d with
    | none => rw [ef] at p1'; exact p1'.elim
    | some G =>
      rw [ef] at p1'
      obtain ⟨kk, f, fd, ps, a, Cl, dx, fs, rfl, eH, l, c1, c2, c3, c4, c5⟩ := meth_open Mf r1 rv ef
      refine ⟨kk, f, fd, ps, a, Cl, dx, fs, G, rfl, eH, l, c1, c2, c3, c4, c5, fun g gV hb hgD => ?_⟩
      exact (call_end (n := 0 + 1) (m := 0) (zs := []) (es := []) (ds := [d]) hgD r1 (.cons rv .nil) .nil p1').2.2
  · subst ex
    obtain rfl : u = Value.ref a := rx
    obtain ⟨g, gV, hb, hgD⟩ := c4.ex
    refine getmeth_ok I1 ea c1 c2 l ?_
    exact PySem.W.callWith_K0 (first := [.ref a]) I1.kIn c2.kp (run_gen (us := [.ref a]) (ws := []) (vs := [.ref a]) c3.ok (C.room.mono c5) hb C.takes I1 (.cons rfl .nil) .nil rfl rfl (q g gV hb hgD))
/-- o.f, a property (it lets out nothing) -/
structure PropF (X : Cx) (T : Tb) (k : Nat) (m : Str) (mt : Nat → Option Fn) : Prop where
  ex : ∀ c F, mt c = some F → ∃ (kk : Nat) (pa f : Addr) (fd : FuncData) (ps : List Str), Cls X.K (T.cad c) ∧ PropOf X.K (T.cad c) m pa f ∧ FnP X.prog X.w X.K X.mg X.base T kk f fd ps F ∧ Binds X.K fd ps [] ∧ ps.length = 1 ∧ kk + 1 ≤ k
def mProp (mt : Nat → Option Fn) (mo : M D) : M D := mo.bind fun o fr h => match fnOf mt h o with
  | some F => match F [o] h with
    | .ok d _ h => .ok d fr h
    | _ => .err
  | none => .err
theorem passes_none {X : Cx} : Passes (L2.CX X.prog X.w) X.nox (fun _ _ _ => False) := fun pins σ H s e s' I c => by
  obtain ⟨a, B, H', cls, d, rfl, fl, hok, ub, na, os, ag, hE⟩ := c
  exact hE.elim
theorem se_prop {mt : Nat → Option Fn} (C : Cq X T W k) (M : PropF X T k m mt) (so : SimV X T W o mo) (hab : attributeBase o m X.env (eval o X.env) = eval o X.env := by rfl) : SimE X T W (.Attribute o m pos) (mProp mt mo) := fun B w σ H fr h Q R pp => WE.mk <| fun pins s I => by
  refine attr_of hab (thn ((so B w σ H fr h (fun v H1 => ∃ (kk : Nat) (pa f : Addr) (fd : FuncData) (ps : List Str) (a C dx : Addr) (fs : List (Str × V)) (G : Fn), v = .ref a ∧ H1 a = some (.ins C dx fs) ∧ Cls X.K C ∧ PropOf X.K C m pa f ∧ FnP X.prog X.w X.K X.mg X.base T kk f fd ps G ∧ Binds X.K fd ps [] ∧ kk + 1 ≤ k ∧ spF X.K T ps.length G [.ref a] H1 Q (fun _ _ _ => False))
    R (Post.bind (VR := vV X.K T B σ) pp fun d fr1 h1 w1 H1 v e1 l1 r1 rv p1 => ?_)).go pins s I) fun u s1 ⟨x, H1, I1, rx, kk, pa, f, fd, ps, a, Cl, dx, fs, G, ex, ea, c1, c2, c3, c4, c5, q⟩ => ?_)
  · have p1' : Post X.K T B W (vE X.K T B σ) w1 σ (match fnOf mt h1 d with | some F => (match F [d] h1 with | .ok d _ h => .ok d fr1 h | _ => .err) | none => .err) Q := p1
    cases ef : fnOf mt h1 d with
    | none => rw [ef] at p1'; exact p1'.elim
    | some G =>
      rw [ef] at p1'
      have ei : ∃ c fs, d.ins h1 = some (c, fs) ∧ mt c = some G := by
        unfold fnOf at ef
        split at ef
        · rename_i c fs ei
          exact ⟨c, fs, ei, ef⟩
        · cases ef
      obtain ⟨c, fs, ei, em⟩ := ei
      obtain ⟨kk, pa, f, fd, ps, c1, c2, c3, c4, c5, c6⟩ := M.ex c G em
      obtain ⟨a, dx, vs, rfl, eH, rs⟩ := ins_rel r1 (.inl rv) ei
      refine ⟨kk, pa, f, fd, ps, a, T.cad c, dx, _, G, rfl, eH, c1, c2, c3, c4, c6, ?_⟩
      have z := call_sp (W := WF) (n := ps.length) (F := G) (Q := Q) r1 (.cons rv .nil) (show [d].length = ps.length from c5.symm) (by
        dsimp only at p1'
        cases e : G [d] h1 with
        | ok d' fr' h' => rw [e] at p1'; exact p1'
        | exc _ _ _ => rw [e] at p1'; exact p1'.elim
        | err => rw [e] at p1'; exact p1'.elim)
      exact z
  · subst ex
    obtain rfl : u = Value.ref a := rx
    exact getprop_ok (dvs := []) I1 ea c1 c2 c3.ok (C.room.mono c5) c4 .nil passes_none q
end
end Pk

/-! Pk12: isinstance, names of the module. -/
namespace Pk
open PySem PySem.Spec L2

section
variable {X : Cx} {T : Tb} {W : WX} {k c : Nat} {x : Str} {pos : Pos}
theorem sv_cls (hm : X.mg x = some (.ref (T.cad c))) (hg : Gl X x := by rfl) (hd : (x == ("__debug__" : Str)) = false := by decide) : SimV X T W (.Name x pos) (mC (.cls c)) := fun B w σ H fr h Q r p =>
  pe_we (pe_glob (v := .ref (T.cad c)) hg hm rfl hd) (p w H _ (Wd.le_refl _) r (.cls c))
theorem sv_ty {t : String} (hm : X.mg x = none) (hg : Gl X x := by rfl) (hv : bootBuiltins x = some (.type t) := by decide +kernel) (hn : x ≠ "__name__" := by decide) (hd : (x == ("__debug__" : Str)) = false := by decide) : SimV X T W (.Name x pos) (mC (.ty t)) := fun B w σ H fr h Q r p =>
  pe_we (pe_bltn (v := .ty t) hg hm hv rfl hn hd) (p w H _ (Wd.le_refl _) r (.ty t))
/-- a constant of the module -/
structure KonF (X : Cx) (T : Tb) (x : Str) (d : D) : Prop where
  ex : ∃ (u : Value) (v : V), X.mg x = some u ∧ RelV v u ∧ RelD X.K T ⟨fun _ => none, []⟩ v d
theorem Wd.le_bot (w : Wd) : Wd.le ⟨fun _ => none, []⟩ w := by
  refine ⟨fun a o q => ?_, w.I, rfl⟩
  have q' : (none : Option HO) = some o := q
  cases q'
theorem sv_kon {d : D} (F : KonF X T x d) (hg : Gl X x := by rfl) (hd : (x == ("__debug__" : Str)) = false := by decide) : SimV X T W (.Name x pos) (mC d) := fun B w σ H fr h Q r p => by
  obtain ⟨u, v, hm, ru, rd⟩ := F.ex
  exact pe_we (pe_glob hg hm ru hd) (p w H _ (Wd.le_refl _) r (rd.mono (Wd.le_bot w)))
end

/-! ### isinstance -/
inductive Tg where
  | b (t : String) | o (c : Nat)
  deriving DecidableEq
def Tg.v (T : Tb) : Tg → Value
  | .b t => .type t
  | .o c => .ref (T.cad c)
def D.tag (h : Hh) (d : D) : Option Tg := match d.der h with
  | .non => some (.b "NoneType")
  | .bl _ => some (.b "bool")
  | .int _ => some (.b "int")
  | .str _ => some (.b "str")
  | .tup _ => some (.b "tuple")
  | .fl _ => some (.b "list")
  | .nl _ => some (.b "list")
  | .kl _ => some (.b "list")
  | .obj c _ => some (.o c)
  | .no c _ => some (.o c)
  | _ => none
def D.ctag : D → Option Tg
  | .ty t => some (.b t)
  | .cls c => some (.o c)
  | _ => none
/-- an object's class as isinstance wants it -/
structure InsF (K : PySem.W.Frag) (C : Addr) : Prop where
  cls : Cls K C
  ha : PySem.W.findIn K (.ref C) "__class__" = some (some (.builtin "object.__class__"))
  hn : PySem.W.specialIn K (.builtin "object.__class__") "__get__" = some (some (.builtin "getset_descriptor.__get__"))
  htk : PySem.W.takesIn K (.builtin "object.__class__") = some true
  hm : PySem.W.mroIn K C (.type "object") = some true
structure IsiF (K : PySem.W.Frag) (T : Tb) (tab : Tg → Tg → Option Bool) : Prop where
  kit : ∀ t u b, tab t u = some b → PySem.W.kitOne K (t.v T) (u.v T) = some b
  ins : ∀ c u b, tab (.o c) u = some b → InsF K (T.cad c)
/-- built-in types -/
def bTys : List String := ["NoneType", "bool", "int", "str", "tuple", "list"]
def bTab (a b : String) : Option Bool := if bTys.contains a && bTys.contains b then some (a == b || (a == "bool" && b == "int")) else none
theorem bTab_ok : ∀ a b r, bTab a b = some r → kitB a b = some r := by
  have key : ∀ a ∈ bTys, ∀ b ∈ bTys, kitB a b = bTab a b := by decide +kernel
  intro a b r h
  unfold bTab at h
  split at h
  · rename_i hh
    obtain ⟨h1, h2⟩ := Bool.and_eq_true_iff.mp hh
    rw [key a (List.contains_iff_mem.mp h1) b (List.contains_iff_mem.mp h2)]
    unfold bTab
    rw [if_pos hh]
    exact h
  · cases h
def ctags : List D → Option (List Tg)
  | [] => some []
  | d :: ds => match d.ctag, ctags ds with
    | some u, some us => some (u :: us)
    | _, _ => none
def isiAny (tab : Tg → Tg → Option Bool) (t : Tg) : List Tg → Option Bool
  | [] => some false
  | u :: us => match tab t u with
    | some true => some true
    | some false => isiAny tab t us
    | none => none
def bIsi (tab : Tg → Tg → Option Bool) (h : Hh) (d c : D) : Option D := match d.tag h with
  | some t => match c with
    | .tup l => match ctags l with
      | some (u :: us) => (isiAny tab t (u :: us)).map .bl
      | _ => none
    | c => match c.ctag with
      | some u => (tab t u).map .bl
      | none => none
  | none => none
section
variable {X : Cx} {T : Tb} {W : WX} {k : Nat} {pos pf : Pos} {a b : Expr} {ma mb : M D} {tab : Tg → Tg → Option Bool}
theorem ctag_rel {K : PySem.W.Frag} {w : Wd} {v : V} {d : D} {u : Tg} (r : RelD K T w v d) (e : d.ctag = some u) : ClsV v (u.v T) := by
  cases r <;> cases e
  · exact .own _
  · exact .ty _
theorem tag_rel {K : PySem.W.Frag} {B : Bs} {w : Wd} {σ : L2.St} {H : Hp} {fr : Fr} {h : Hh} {v : V} {d : D} {t u : Tg} {bb : Bool} (F : IsiF K T tab) (R : Rel K T B w σ H fr h) (rv : vO K T B σ w H fr v d) (e : d.tag h = some t) (e2 : tab t u = some bb) : TyX K H v (t.v T) := by
  have sqT : ∀ {a : Addr} {vs : List V}, SqT K H a vs → TyX K H (.ref a) (.type "tuple") := fun {a vs} q => by
    rcases q with (q | ⟨o, q⟩) | ⟨o, its, n, q1, q2, _⟩
    · exact .base (.tup q)
    · exact .fTuple q
    · exact .kTuple q1 q2
  have sqL : ∀ {a : Addr} {vs : List V}, SqL K H a vs → TyX K H (.ref a) (.type "list") := fun {a vs} q => by
    rcases q with (q | ⟨o, q⟩) | ⟨o, its, n, q1, q2, _⟩
    · exact .base (.lst q)
    · exact .base (.frz q)
    · exact .kList q1 q2
  have ins : ∀ {c : Nat} {a dx : Addr} {fs : List (Str × V)}, tab (.o c) u = some bb → H a = some (.ins (T.cad c) dx fs) → TyX K H (.ref a) (.ref (T.cad c)) := fun {c a dx fs} q eH => by
    have i := F.ins c u bb q
    exact .base (.ins eH i.cls i.ha i.hn i.htk i.hm)
  rcases rv with rv | ⟨p, o, rfl, eH, rv⟩
  · cases rv with
    | non => cases e; exact .base .non
    | bl b => cases e; exact .base (.bl b)
    | int i => cases e; exact .base (.int i)
    | str s => cases e; exact .base (.str s)
    | tup s r => cases e; exact sqT (sqT_le R.sub s)
    | fl s r => cases e; exact .base (.lst (R.sub _ _ s))
    | kl s r => cases e; exact sqL (sqL_le R.sub s)
    | obj s r => cases e; exact ins e2 (R.sub _ _ s)
    | @ref a n s =>
      have ln : n < h.length := by
        rw [← R.len]
        exact (List.getElem?_eq_some_iff.mp s).1
      obtain ⟨o, q, rr⟩ := R.cel n a h[n] s (List.getElem?_eq_getElem ln)
      have e0 : D.der h (.ref n) = h[n] := by
        unfold D.der
        dsimp only
        rw [List.getElem?_eq_getElem ln]
        rfl
      unfold D.tag at e
      rw [e0] at e
      generalize h[n] = cc at rr e
      cases rr with
      | lst r => cases e; exact .base (.lst q)
      | obj r => cases e; exact ins e2 q
    | cls _ => cases e
    | ty _ => cases e
    | sl _ => cases e
  · cases rv with
    | lst r => cases e; exact .base (.lst eH)
    | obj r => cases e; exact ins e2 eH
theorem ctags_rel {K : PySem.W.Frag} {w : Wd} : ∀ {vs : List V} {ds : List D} {us : List Tg}, RelDs K T w vs ds → ctags ds = some us → Paired ClsV vs (us.map (Tg.v T))
  | _, _, _, .nil, e => by cases e; exact .nil
  | _, _, _, @RelDs.cons _ _ _ v d vs ds r rr, e => by
    unfold ctags at e
    cases e1 : d.ctag with
    | none => rw [e1] at e; cases e
    | some u =>
      cases e2 : ctags ds with
      | none => rw [e1, e2] at e; cases e
      | some us =>
        rw [e1, e2] at e
        cases e
        exact .cons (ctag_rel r e1) (ctags_rel rr e2)
theorem isiAny_rel {K : PySem.W.Frag} {t : Tg} {bb : Bool} (F : IsiF K T tab) : ∀ {us : List Tg}, isiAny tab t us = some bb → PySem.W.kitAny K (t.v T) (us.map (Tg.v T)) = some bb
  | [], e => by cases e; exact kitAny_nil
  | u :: us, e => by
    unfold isiAny at e
    cases et : tab t u with
    | none => rw [et] at e; cases e
    | some b1 =>
      rw [et] at e
      cases b1 with
      | false => exact kitAny_cons (F.kit t u false et) (fun _ => isiAny_rel F e) (fun z => by cases z)
      | true =>
        cases e
        exact kitAny_cons (F.kit t u true et) (fun z => by cases z) (fun _ => rfl)
theorem isiAny_some {t : Tg} {bb : Bool} {us : List Tg} (e : isiAny tab t us = some bb) : us = [] ∨ ∃ u b, tab t u = some b := by
  cases us with
  | nil => exact .inl rfl
  | cons u us =>
    right
    unfold isiAny at e
    cases et : tab t u with
    | none => rw [et] at e; cases e
    | some b => exact ⟨u, b, et⟩
theorem call_isiQ : CallR X (.builtin "isinstance") (fun xs H Q => ∃ (x : V) (tp : Addr) (cs : List V) (t : Value) (us : List Value) (b : Bool), xs = [x, .ref tp] ∧ SqT X.K H tp cs ∧ Paired ClsV cs us ∧ TyX X.K H x t ∧ PySem.W.kitAny X.K t us = some b ∧ Q (.bl b) H) := by
  intro pins s σ H xs us Q I r h
  obtain ⟨x, tp, cs, t, ws, b, rfl, hT, k, ty, e, q⟩ := h
  obtain ⟨u1, u2, rfl, r1, r2⟩ := vals2 r
  cases (show u2 = Value.ref tp from r2)
  obtain ⟨P, Z, p, hx⟩ := kit_of I r1 ty
  obtain ⟨its, rv, pl, _⟩ := I.tuple hT
  obtain ⟨o, h1, h2, n, h3⟩ := pl
  have e3 := ClsV.all k rv
  subst e3
  obtain ⟨oc, od, dt, sl⟩ := o
  simp only at h2 h3
  subst h2 h3
  exact PySem.W.kia_tup Z I.kIn p h1 e hx fun tk => ⟨.bl b, H, I.tok tk, rfl, q⟩
theorem sv_isi (F : IsiF X.K T tab) (sa : SimV X T W a ma) (sb : SimV X T W b mb) (hm : X.mg "isinstance" = none) (hg : Gl X "isinstance" := by rfl) (he : starEach (a :: b :: []) X.env = (false, eval a X.env) :: starEach (b :: []) X.env := by exact star_no rfl) (he2 : starEach (b :: []) X.env = (false, eval b X.env) :: starEach [] X.env := by exact star_no rfl)
    (hpl : (backTo pos (starEach (b :: []) X.env)).any (·.1) = false := by rfl) : SimV X T W (.Call (.Name "isinstance" pf) [a, b] [] pos) (mOp (bIsi tab) ma mb) :=
  s_b2 (id := "isinstance") sa sb (fun B w σ H fr h x y d e z Q R rx ry q kk => by
    have ry : RelD X.K T w y e := ry
    unfold bIsi at q
    cases et : d.tag h with
    | none => rw [et] at q; cases q
    | some t =>
      rw [et] at q
      have one : ∀ u, e.ctag = some u → (tab t u).map D.bl = some z → cM X (.builtin "isinstance") [x, y] H Q := fun u ec eq => by
        obtain ⟨bb, eb, rfl⟩ := Option.map_eq_some_iff.mp eq
        exact call_cm call_isi ⟨x, y, t.v T, u.v T, bb, rfl, ctag_rel ry ec, tag_rel F R (.inl rx) et eb, F.kit t u bb eb, kk w H _ (Wd.le_refl _) R (.bl bb)⟩
      cases e with
      | tup l =>
        dsimp only at q
        cases ec : ctags l with
        | none => rw [ec] at q; cases q
        | some us =>
          rw [ec] at q
          cases us with
          | nil => cases q
          | cons u us =>
            obtain ⟨bb, eb, rfl⟩ := Option.map_eq_some_iff.mp q
            obtain ⟨p, vs, rfl, sq, rs⟩ := rel_tup ry
            have ty : TyX X.K H x (t.v T) := by
              rcases isiAny_some eb with z | ⟨u', b', z⟩
              · cases z
              · exact tag_rel F R (.inl rx) et z
            exact call_cm call_isiQ ⟨x, p, vs, t.v T, (u :: us).map (Tg.v T), bb, rfl, sqT_le R.sub sq, ctags_rel rs ec, ty, isiAny_rel F eb, kk w H _ (Wd.le_refl _) R (.bl bb)⟩
      | cls c => exact one _ rfl q
      | ty t => exact one _ rfl q
      | _ => cases q) hm hg (by decide +kernel) (by decide) (by decide) he he2 hpl
end
end Pk

/-! Pk13: the head's facts; a law's end. -/
namespace Pk
open PySem PySem.Spec L2

/-- one def: where its function object is, what is written there -/
structure PD where
  adr : PySem.W.Frag → Addr
  name : Str
  qual : Str
  params : Arguments
  body : List Stmt
  scope : Scope
  dfl : List He.Dv
  kwd : List (Str × He.Dv)
  /-- an __init__ that says super() -/
  clo : Bool
def fnWa (K : PySem.W.Frag) (a : Addr) : He.FnW := match K.lookup a with
  | some ⟨_, _, .func fd, _⟩ => some (fd.name, fd.qualname, fd.params, fd.body, fd.scope, fd.globals, fd.closure.map (fun q => (q.1, 0)), fd.builtins)
  | _ => none
def PD.val (d : PD) : He.FnW := some (d.name, d.qual, d.params, .stmts d.body, d.scope, mainGlobals, if d.clo then [("__class__", 0)] else [], builtinsNs)
def PD.dvs (K : PySem.W.Frag) (d : PD) : List V := d.dfl.map (He.Dv.v K)
def PD.kws (K : PySem.W.Frag) (d : PD) : List (Str × V) := d.kwd.map fun q => (q.1, q.2.v K)
def PD.ok (K : PySem.W.Frag) (d : PD) : Bool := PySem.W.keepIn K (.ref (d.adr K)) && (match K.lookup (d.adr K) with
  | some ⟨_, _, .func fd, _⟩ => PySem.W.codeIn K fd.code d.qual && (He.dflB K fd.defaults (d.dvs K) && He.kwdB K fd.kwdefaults (d.kws K))
  | _ => false)
theorem PD.funD {K : PySem.W.Frag} {d : PD} (hc : d.clo = false) (e : fnWa K (d.adr K) = d.val) (c : d.ok K = true) : ∃ fd, FunD K d.name d.qual d.params d.body d.scope (d.dvs K) (d.kws K) (d.adr K) fd := by
  obtain ⟨kp, c2⟩ := He.ba c
  unfold fnWa at e
  cases q : K.lookup (d.adr K) with
  | none =>
    rw [q] at c2
    cases c2
  | some o =>
    obtain ⟨oc, od, dt, osl⟩ := o
    rw [q] at c2 e
    cases dt with
    | func fd =>
      obtain ⟨n1, n2, n3, n4, n5, n6, n7, n8, n9, n10, n11, n12, n13, n14, n15⟩ := fd
      unfold PD.val at e
      rw [hc] at e
      have e2 : (some (n1, n2, n3, n4, n5, n6, n7.map (fun q => (q.1, 0)), n15) : He.FnW) = some (d.name, d.qual, d.params, .stmts d.body, d.scope, mainGlobals, [], builtinsNs) := e
      simp only [Option.some.injEq, Prod.mk.injEq, List.map_eq_nil_iff] at e2
      obtain ⟨h1, h2, h3, h4, h5, h6, h7, h8⟩ := e2
      subst h1 h2 h3 h4 h5 h6 h7 h8
      have c3 : (PySem.W.codeIn K n13 d.qual && (He.dflB K n8 (d.dvs K) && He.kwdB K n9 (d.kws K))) = true := c2
      obtain ⟨k1, k2⟩ := He.ba c3
      obtain ⟨k3, k4⟩ := He.ba k2
      exact ⟨_, ⟨oc, od, n8, n9, n10, n11, n12, n13, n14, osl, rfl, q, k1, He.dflB_ok k3, He.kwdB_ok k4⟩, kp⟩
    | _ => cases c2
/-- a property's getter; the address of a keyword's default -/
def pgA (K : PySem.W.Frag) (C : Addr) (f : Str) : Addr := match PySem.W.findIn K (.ref C) f with
  | some (some (.ref p)) => (match PySem.W.recIn K p "property" with
    | some (.ref g :: _) => g
    | _ => 0)
  | _ => 0
def kwA (a : PySem.W.Frag → Addr) (x : Str) (K : PySem.W.Frag) : Addr := match K.lookup (a K) with
  | some ⟨_, _, .func fd, _⟩ => (match fd.kwdefaults with
    | .ref d => (match PySem.W.nsIn K d x with
      | some (some (.ref b)) => b
      | _ => 0)
    | _ => 0)
  | _ => 0
def dfA (a : PySem.W.Frag → Addr) (i : Nat) (K : PySem.W.Frag) : Addr := match K.lookup (a K) with
  | some ⟨_, _, .func fd, _⟩ => (match fd.defaults with
    | .ref T => (match K.lookup T with
      | some ⟨_, _, .seq its _, _⟩ => (match its.toList[i]? with
        | some (.ref b) => b
        | _ => 0)
      | _ => 0)
    | _ => 0)
  | _ => 0
/-- the object at a is a tuple of these -/
def tupA (K : PySem.W.Frag) (a : Addr) (vs : List He.Dv) : Bool := match K.lookup a with
  | some ⟨.type c, _, .seq its _, _⟩ => decide (c = "tuple") && (decide (its.size ≤ sizeLine) && He.relAll (vs.map (He.Dv.v K)) its.toList)
  | _ => false
theorem tupA_ok {K : PySem.W.Frag} {a : Addr} {vs : List He.Dv} (h : tupA K a vs = true) (H : Hp) : SqT K H a (vs.map (He.Dv.v K)) := by
  unfold tupA at h
  cases q : K.lookup a with
  | none =>
    rw [q] at h
    cases h
  | some o =>
    obtain ⟨oc, od, dt, osl⟩ := o
    rw [q] at h
    cases oc with
    | type c =>
      cases dt with
      | seq its n =>
        obtain ⟨h1, h2⟩ := He.ba (show (decide (c = "tuple") && (decide (its.size ≤ sizeLine) && He.relAll (vs.map (He.Dv.v K)) its.toList)) = true from h)
        obtain ⟨h3, h4⟩ := He.ba h2
        exact .inr ⟨_, its, n, q, congrArg Value.type (of_decide_eq_true h1), rfl, of_decide_eq_true h3, He.relAll_ok h4⟩
      | _ => cases h
    | _ => cases dt <;> cases h
/-! ### facts -/
inductive Fx where
  | he (f : He.Fa)
  | prop (x f : Str)
  | ins (x : Str)
  | kit (t u : Tg) (b : Bool)
  | tup (a : PySem.W.Frag → Addr) (vs : List He.Dv)
  | slf (x : Str)
  /-- an own error class whose __init__ says super(): its fields, the file -/
  | own (x file : Str) (fs : List Str)
  /-- an error class as isinstance wants it -/
  | exi (x : Str)
  /-- a class that is no kind of number -/
  | nsb (x : Str)
  /-- anything else that is to be seen -/
  | raw (p : PySem.W.Frag → Bool)
/-- the classes by number -/
def Tbo (cn : Nat → Str) (fld : Nat → List Str) (K : PySem.W.Frag) : Tb := ⟨fun c => He.ga K (cn c), fld⟩
def clsX (K : PySem.W.Frag) (C : Addr) : Bool := match K.lookup C with
  | some ⟨.type "type", _, .cls cd, sl⟩ => (match cd.mro, sl.toList with
    | .ref C' :: bm, [_, _, _, _, some (.builtin n), _] => C' == C && (n == "ValueError.__new__" && (!cd.hasDel && (cd.hasDict && (PySem.HandSPX.refsVE bm && He.eqO (PySem.W.alongIn K "__init__" bm) (some (some (.builtin "ValueError.__init__")))))))
    | _, _ => false)
  | _ => false
def iniX (K : PySem.W.Frag) (C f : Addr) (file : Str) : Bool := match K.lookup f with
  | some ⟨_, _, .func fd, _⟩ => (match fd.closure, fd.defaults, fd.code with
    | [(_, cc)], .none, .ref cda => (match K.lookup cc with
        | some ⟨_, _, .cell (some (.ref a)), _⟩ => decide (a = C)
        | _ => false) && (PySem.W.codeIn K (.ref cda) fd.qualname && (match K.lookup cda with
        | some ⟨_, _, Data.fields vs, _⟩ => (match (vs[2]? : Option Value) with
          | some (.str fi _) => decide (fi = file)
          | _ => false)
        | _ => false))
    | _, _, _ => false)
  | _ => false
def ownX (K : PySem.W.Frag) (C f : Addr) (file : Str) (fs : List Str) : Bool :=
  clsX K C && (He.eqO (PySem.W.findIn K (.ref C) "__setattr__") (some (some (.builtin "object.__setattr__"))) && (He.eqO (PySem.W.findIn K (.ref C) "__init__") (some (some (.ref f))) && (decide (PySem.W.typeIn K (.ref f) = some (.type "function")) &&
    (decide (PySem.W.subIn K (.ref C) (.type "ValueError") = some true) && (decide (PySem.W.mroIn K C (.ref C) = some true) && (He.eqO (PySem.W.nsIn K cStatics "thirdparty.any") (some none) && (iniX K C f file && (fs.all (fun y => He.eqO (PySem.W.findIn K (.ref C) y) (some none)) &&
    (PySem.W.keepIn K (.ref C) && (decide (PySem.W.subIn K (.ref C) (.type "BaseException") = some true) && (decide (PySem.W.typeIn K (.ref C) = some (.type "type")) && (He.eqO (PySem.W.findIn K (.ref C) "__getattribute__") (some (some (.builtin "BaseException.__getattribute__"))) &&
    (He.eqO (PySem.W.findIn K (.ref C) "__getattr__") (some none) && PySem.W.hasDictIn K C)))))))))))))
def exiX (K : PySem.W.Frag) (C : Addr) : Bool :=
  He.eqO (PySem.W.findIn K (.ref C) "__getattribute__") (some (some (.builtin "BaseException.__getattribute__"))) && (He.eqO (PySem.W.findIn K (.ref C) "__getattr__") (some none) && (decide (PySem.W.subIn K (.ref C) (.type "BaseException") = some true) && (PySem.W.hasDictIn K C &&
    (He.eqO (PySem.W.findIn K (.ref C) "__class__") (some (some (.builtin "object.__class__"))) && (He.eqO (PySem.W.specialIn K (.builtin "object.__class__") "__get__") (some (some (.builtin "getset_descriptor.__get__"))) && (decide (PySem.W.takesIn K (.builtin "object.__class__") = some true) && decide (PySem.W.mroIn K C (.type "object") = some true)))))))
def Fx.ok (cn : Nat → Str) (K : PySem.W.Frag) : Fx → Bool
  | .he f => f.ok K
  | .prop x f => He.eqO (PySem.W.findIn K (.ref (He.ga K x)) f) (some (some (.ref (He.ma K (He.ga K x) f)))) && (He.eqO (PySem.W.specialIn K (.ref (He.ma K (He.ga K x) f)) "__get__") (some (some (.builtin "property.__get__"))) &&
      (decide (PySem.W.takesIn K (.ref (He.ma K (He.ga K x) f)) = some true) && (match PySem.W.recIn K (He.ma K (He.ga K x) f) "property" with
        | some (.ref g :: _) => decide (g = pgA K (He.ga K x) f)
        | _ => false)))
  | .ins x => (He.Fa.cls x).ok K && (He.eqO (PySem.W.findIn K (.ref (He.ga K x)) "__class__") (some (some (.builtin "object.__class__"))) && (He.eqO (PySem.W.specialIn K (.builtin "object.__class__") "__get__") (some (some (.builtin "getset_descriptor.__get__"))) &&
      (decide (PySem.W.takesIn K (.builtin "object.__class__") = some true) && decide (PySem.W.mroIn K (He.ga K x) (.type "object") = some true))))
  | .kit t u b => decide (PySem.W.kitOne K (t.v (Tbo cn (fun _ => []) K)) (u.v (Tbo cn (fun _ => []) K)) = some b)
  | .tup a vs => tupA K (a K) vs
  | .slf x => PySem.W.selfFirst K (He.ga K x)
  | .nsb x => decide (PySem.W.subIn K (.ref (He.ga K x)) (.type "int") = some false) && decide (PySem.W.subIn K (.ref (He.ga K x)) (.type "bool") = some false)
  | .exi x => exiX K (He.ga K x)
  | .raw p => p K
  | .own x file fs => ownX K (He.ga K x) (He.ma K (He.ga K x) "__init__") file fs
section
variable {K : PySem.W.Frag} {cn : Nat → Str} {fld : Nat → List Str}
theorem nsb_ok {x : Str} (c : (Fx.nsb x).ok cn K = true) : PySem.W.subIn K (.ref (He.ga K x)) (.type "int") = some false ∧ PySem.W.subIn K (.ref (He.ga K x)) (.type "bool") = some false := by
  obtain ⟨c1, c2⟩ := He.ba c
  exact ⟨of_decide_eq_true c1, of_decide_eq_true c2⟩
theorem raw_ok {p : PySem.W.Frag → Bool} (c : (Fx.raw p).ok cn K = true) : p K = true := c
theorem prop_ok {x f : Str} (c : (Fx.prop x f).ok cn K = true) : PropOf K (He.ga K x) f (He.ma K (He.ga K x) f) (pgA K (He.ga K x) f) := by
  obtain ⟨c1, c⟩ := He.ba c
  obtain ⟨c2, c⟩ := He.ba c
  obtain ⟨c3, c4⟩ := He.ba c
  refine ⟨He.eqO_ok c1, He.eqO_ok c2, of_decide_eq_true c3, ?_⟩
  split at c4
  · rename_i g rest e
    rw [e, of_decide_eq_true c4]
    exact ⟨rest, rfl⟩
  · cases c4
theorem ins_ok {x : Str} (c : (Fx.ins x).ok cn K = true) : InsF K (He.ga K x) := by
  obtain ⟨c1, c⟩ := He.ba c
  obtain ⟨c2, c⟩ := He.ba c
  obtain ⟨c3, c⟩ := He.ba c
  obtain ⟨c4, c5⟩ := He.ba c
  exact ⟨He.cls_ok c1, He.eqO_ok c2, He.eqO_ok c3, of_decide_eq_true c4, of_decide_eq_true c5⟩
theorem kit_ok {t u : Tg} {b : Bool} (c : (Fx.kit t u b).ok cn K = true) : PySem.W.kitOne K (t.v (Tbo cn fld K)) (u.v (Tbo cn fld K)) = some b := by
  have h := of_decide_eq_true c
  cases t <;> cases u <;> exact h
end
/-! ### the Hook -/
abbrev AlP : Type := Bool × List He.FnW
def obsP (cn : Nat → Str) (fa : List Fx) (fn : List PD) (K : PySem.W.Frag) : AlP := ((fa.all fun f => f.ok cn K) && fn.all fun d => d.ok K, fn.map fun d => fnWa K (d.adr K))
def valP (fn : List PD) : AlP := (true, fn.map PD.val)
def SaysP (cn : Nat → Str) (fa : List Fx) (fn : List PD) (K : PySem.W.Frag) : Prop := obsP cn fa fn K = valP fn
/-- what an object names -/
def refsP (o : Obj) : List Addr := (match o.dict with
  | some d => [d]
  | none => []) ++ match o.data with
  | .seq its _ => its.toList.flatMap He.refV
  | .dict es _ => es.toList.flatMap fun e => He.refV e.val
  | .func fd => He.refV fd.code ++ (He.refV fd.defaults ++ (He.refV fd.kwdefaults ++ fd.closure.map (·.2)))
  | .cls cd => cd.ns :: (cd.mro.drop 1).flatMap He.refV
  | .fields vs => vs.toList.flatMap He.refV
  | .cell (some v) => He.refV v
  | _ => []
/-- level by level; what stands twice does no harm -/
def asF (g : Addr → Option Obj) : Nat → List Addr → List Addr
  | 0, l => l
  | n + 1, l => l ++ asF g n (l.flatMap fun a => match g a with
    | some o => refsP o
    | none => [])
def asP (g : Addr → Option Obj) (n : Nat) : List Addr := asF g n [mainGlobals] ++ [cStatics]
def obsPG (n : Nat) (cn : Nat → Str) (fa : List Fx) (fn : List PD) (g : Addr → Option Obj) : AlP := obsP cn fa fn (He.frG g (asP g n))
def hookP (n : Nat) (cn : Nat → Str) (fa : List Fx) (fn : List PD) : PySem.W.Hook where
  α := AlP
  obs := fun s => obsPG n cn fa fn s.heap.get?
  val := fun _ => valP fn
  says := fun _ h => ∃ K : PySem.W.Frag, K.In h ∧ SaysP cn fa fn K
  of := fun _ _ e => ⟨_, He.frG_in, e⟩
  keeps := fun _ _ _ ⟨K, hK, c⟩ k => ⟨K, PySem.W.Frag.In.keeps hK k, c⟩
theorem obsPG_eq {n : Nat} {cn : Nat → Str} {fa : List Fx} {fn : List PD} {g : Addr → Option Obj} {s : Shared} (h : ∀ a, g a = s.heap.get? a) : obsPG n cn fa fn g = (hookP n cn fa fn).obs s := by
  have e : g = s.heap.get? := funext h
  rw [e] <;> rfl
section
variable {cn : Nat → Str} {fa : List Fx} {fn : List PD} {K : PySem.W.Frag}
theorem SaysP.fact (c : SaysP cn fa fn K) (i : Nat) {f : Fx} (h : fa[i]? = some f := by rfl) : f.ok cn K = true := by
  have c1 := (He.ba (show ((fa.all fun f => f.ok cn K) && fn.all fun d => d.ok K) = true from congrArg (fun z : AlP => z.1) c)).1
  exact List.all_eq_true.mp c1 f (List.mem_of_getElem? h)
theorem SaysP.def_ (c : SaysP cn fa fn K) (i : Nat) {d : PD} (h : fn[i]? = some d := by rfl) (hc : d.clo = false := by rfl) : ∃ fd, FunD K d.name d.qual d.params d.body d.scope (d.dvs K) (d.kws K) (d.adr K) fd := by
  have c2 := (He.ba (show ((fa.all fun f => f.ok cn K) && fn.all fun d => d.ok K) = true from congrArg (fun z : AlP => z.1) c)).2
  have e : fn.map (fun d => fnWa K (d.adr K)) = fn.map PD.val := congrArg (fun z : AlP => z.2) c
  have e2 : (fn.map fun d => fnWa K (d.adr K))[i]? = (fn.map PD.val)[i]? := by rw [e]
  rw [List.getElem?_map, List.getElem?_map, h] at e2
  exact PD.funD hc (Option.some.inj e2) (List.all_eq_true.mp c2 d (List.mem_of_getElem? h))
theorem SaysP.wrote (c : SaysP cn fa fn K) (i : Nat) {d : PD} (h : fn[i]? = some d := by rfl) : fnWa K (d.adr K) = d.val := by
  have e : fn.map (fun d => fnWa K (d.adr K)) = fn.map PD.val := congrArg (fun z : AlP => z.2) c
  have e2 : (fn.map fun d => fnWa K (d.adr K))[i]? = (fn.map PD.val)[i]? := by rw [e]
  rw [List.getElem?_map, List.getElem?_map, h] at e2
  exact Option.some.inj e2
end
/-- the script's reading -/
theorem relDs_ints {K : PySem.W.Frag} {T : Tb} {w : Wd} : ∀ ns : List Int, RelDs K T w (ns.map V.int) (ns.map D.int)
  | [] => .nil
  | i :: r => .cons (.int i) (relDs_ints r)
theorem law_sp {K : PySem.W.Frag} {T : Tb} {F : Fn} {H : Hp} {a : Addr} {ns : List Int} (hq : SqL K H a (ns.map V.int)) {fr : Fr} {h : Hh} (e : F [.kl (ns.map D.int)] [] = .ok (.bl true) fr h) : spF K T 1 F [.ref a] H (fun v _ => v = .bl true) (fun _ _ _ => False) := by
  refine ⟨⟨H, []⟩, [], [.kl (ns.map D.int)], ⟨Wd.le_refl _, fun _ q => .inl q, fun _ q => (by cases q), fun _ _ q _ => q, fun _ q => (by cases q), fun _ _ q => q, rfl, List.nodup_nil, fun _ q => (by cases q), fun _ _ _ q => (by simp at q), rfl, fun _ _ _ q => (by simp at q), fun _ _ _ _ q => (noSlot q).elim, fun _ _ _ q _ => (by simp at q)⟩, .cons (.kl hq (relDs_ints ns)) .nil, rfl, ?_⟩
  rw [e]
  intro w' H' v l R rv
  rcases rv with rv | ⟨p, o, _, _, _, _, r⟩
  · cases rv
    rfl
  · cases r

/-! ### keywords in any order -/
def pick {α : Type} (is : List Nat) (l : List α) : List α := is.filterMap fun i => l[i]?
theorem pick_vals : ∀ (is : List Nat) {vs : List V} {us : List Value}, Vals vs us → Vals (pick is vs) (pick is us)
  | [], _, _, _ => .nil
  | i :: is, vs, us, r => by
    unfold pick
    rw [List.filterMap_cons, List.filterMap_cons]
    cases e : vs[i]? with
    | none =>
      have e2 : us[i]? = none := by
        rw [List.getElem?_eq_none_iff] at e ⊢
        rw [← r.length]
        exact e
      rw [e2]
      exact pick_vals is r
    | some v =>
      obtain ⟨u, hu, ru⟩ := r.get e
      rw [hu]
      exact .cons ru (pick_vals is r)
theorem pick_rel {K : PySem.W.Frag} {T : Tb} {w : Wd} : ∀ (is : List Nat) {vs : List V} {ds : List D}, RelDs K T w vs ds → RelDs K T w (pick is vs) (pick is ds)
  | [], _, _, _ => .nil
  | i :: is, vs, ds, r => by
    unfold pick
    rw [List.filterMap_cons, List.filterMap_cons]
    cases e : ds[i]? with
    | none =>
      have e2 : vs[i]? = none := by
        rw [List.getElem?_eq_none_iff] at e ⊢
        rw [r.length]
        exact e
      rw [e2]
      exact pick_rel is r
    | some d =>
      obtain ⟨v, hv, rv⟩ := r.get e
      rw [hv]
      exact .cons rv (pick_rel is r)
def gKw {α : Type} (is : List Nat) (us mv ws : List α) : List α := us ++ pick is (ws ++ mv)
end Pk

/-! Pk14: enumerate. -/
namespace PySem
namespace EnT
/-- the two new cells -/
abbrev itO (l : Addr) : Obj := { cls := .type "tuple_iterator", data := .fields #[.ref l, .int 0 0] }
abbrev enO (it : Addr) : Obj := { cls := .type "enumerate", data := .fields #[.none, .bool false, .ref it, rawInt 0, .none, .none] }
theorem new_tup (l : Addr) (items : Array Value) (n : Nat) (dct : Option Addr) (sl : Array (Option Value)) :
    Meets (Builtin.«enumerate.__new__» ⟨[.type "enumerate", .ref l], []⟩) (fun _ R s => s.heap.get? l = some { cls := .type "tuple", dict := dct, data := .seq items n, slots := sl } ∧
      R (.ok (.ret (.ref (s.heap.push (itO l)).objs.size))) { s with heap := (s.heap.push (itO l)).push (enO s.heap.objs.size) }) := by
  refine .of_wp fun prog w A R s h => ?_
  obtain ⟨hp, g, d, tk, os⟩ := s
  obtain ⟨hl, h⟩ := h
  have hsub := sub_enumerate
  have hT : Heap.IsTuple (Shared.heap ⟨hp, g, d, tk, os⟩) l items := ⟨_, hl, rfl, n, rfl⟩
  wp_walk using AutoSeq1.wpAny_loadPart' hl
  refine wpAny_stack_any fun st => wpAny_pure ?_
  split
  · rename_i c _ _ _ _ _
    cases (c == Value.type "enumerate") <;> (wp_walk using AutoSeq1.wpAny_loadPart' hl, wpAny_pyIter_tuple hT; exact ⟨_, rfl, h⟩)
  · wp_walk using AutoSeq1.wpAny_loadPart' hl, wpAny_pyIter_tuple hT
    exact ⟨_, rfl, h⟩
section
variable {prog : Program} {w : World} {A : Around} {E : Value → Shared → Prop} {s : Shared}
end
end EnT
end PySem
namespace L2
open PySem PySem.Spec PyProof.Rows
/-- the tuple at a, each item in a new pair -/
def ItE (K : PySem.W.Frag) (a : Addr) : It :=
  ⟨fun i H => ∃ (xs : List V) (x : V), SqT K H a xs ∧ xs[i]? = some x, fun i H v H' => ∃ T x, v = .ref T ∧ H T = none ∧ H' = upd H T (.tup [.int (i : Nat), x]) ∧ ∀ xs, SqT K H a xs → xs[i]? = some x, fun i H => ∃ xs : List V, SqT K H a xs ∧ xs.length ≤ i⟩
/-- enumerate over a list or a tuple -/
def iEnu (K : PySem.W.Frag) (ta : TA) : TI := fun σ H R => ta σ H fun vs H1 => ∃ a xs, vs = [.ref a] ∧ ((SqL K H1 a xs ∧ R (Ite K a) H1) ∨ (SqT K H1 a xs ∧ R (ItE K a) H1))
end L2
namespace Pk
open PySem PySem.Spec L2
def enumD : Nat → List D → List D
  | _, [] => []
  | i, d :: ds => .tup [.int (i : Int), d] :: enumD (i + 1) ds
/-- a list's, a tuple's items -/
def D.lst : D → Option (List D)
  | .fl l => some l
  | .kl l => some l
  | .tup l => some l
  | _ => none
def mEnum (m : M D) : M (List D) := m.bind fun d => M.opt (d.lst.map (enumD 0))
section
variable {X : Cx} {T : Tb} {W : WX} {k kk : Nat} {pos p tpos : Pos} {elts : List Expr} {a : Expr} {ma : M D}
end
end Pk

/-! Pk15: small helps for printed texts. -/
namespace Pk
open PySem PySem.Spec L2
inductive AllL {β : Type} (Q : Nat → β → Prop) : List (Nat × β) → Prop where
  | nil : AllL Q []
  | cons {a : Nat} {b : β} {l : List (Nat × β)} : Q a b → AllL Q l → AllL Q ((a, b) :: l)
theorem lk_all {β : Type} {Q : Nat → β → Prop} : ∀ {l : List (Nat × β)}, AllL Q l → ∀ c i, List.lookup c l = some i → Q c i
  | _, .nil, _, _, e => by cases e
  | _, @AllL.cons _ _ a b l q r, c, i, e => by
    rw [List.lookup_cons] at e
    cases h : c == a with
    | true =>
      rw [h] at e
      cases e
      rw [beq_iff_eq.mp h]
      exact q
    | false =>
      rw [h] at e
      exact lk_all r c i e
theorem kw_mem {α : Type} {ms kws : List α} (idx : List Nat) (h : ms = pick idx kws) : ∀ q ∈ ms, q ∈ kws := fun q hq => by
  rw [h] at hq
  obtain ⟨i, _, e⟩ := List.mem_filterMap.mp hq
  exact List.mem_of_getElem? e
/-- isinstance by rows -/
def isiT (rows : List ((Tg × Tg) × Bool)) (t u : Tg) : Option Bool := match t, u with
  | .b a, .b b => bTab a b
  | t, u => List.lookup (t, u) rows
inductive RowsOk (K : PySem.W.Frag) (T : Tb) : List ((Tg × Tg) × Bool) → Prop where
  | nil : RowsOk K T []
  | b {a : String} {c : Nat} {r : Bool} {l : List ((Tg × Tg) × Bool)} : PySem.W.kitOne K (Tg.v T (.b a)) (Tg.v T (.o c)) = some r → RowsOk K T l → RowsOk K T (((.b a, .o c), r) :: l)
  | o {c : Nat} {u : Tg} {r : Bool} {l : List ((Tg × Tg) × Bool)} : PySem.W.kitOne K (Tg.v T (.o c)) (u.v T) = some r → InsF K (T.cad c) → RowsOk K T l → RowsOk K T (((.o c, u), r) :: l)
theorem rows_of {K : PySem.W.Frag} {T : Tb} : ∀ {l : List ((Tg × Tg) × Bool)}, RowsOk K T l → ∀ t u b, List.lookup (t, u) l = some b → PySem.W.kitOne K (t.v T) (u.v T) = some b ∧ ∀ c, t = .o c → InsF K (T.cad c)
  | _, .nil, _, _, _, e => by cases e
  | _, @RowsOk.b _ _ a c r l q rr, t, u, b, e => by
    rw [List.lookup_cons] at e
    cases h : (t, u) == (Tg.b a, Tg.o c) with
    | true =>
      rw [h] at e
      cases e
      cases beq_iff_eq.mp h
      exact ⟨q, fun c' z => by cases z⟩
    | false =>
      rw [h] at e
      exact rows_of rr t u b e
  | _, @RowsOk.o _ _ c u' r l q i rr, t, u, b, e => by
    rw [List.lookup_cons] at e
    cases h : (t, u) == (Tg.o c, u') with
    | true =>
      rw [h] at e
      cases e
      cases beq_iff_eq.mp h
      exact ⟨q, fun c' z => by cases z; exact i⟩
    | false =>
      rw [h] at e
      exact rows_of rr t u b e
theorem isi_of {K : PySem.W.Frag} {T : Tb} {l : List ((Tg × Tg) × Bool)} (h : RowsOk K T l) : IsiF K T (isiT l) := by
  refine ⟨fun t u b e => ?_, fun c u b e => ?_⟩
  · cases t with
    | b a =>
      cases u with
      | b a' => exact kit_ty (bTab_ok _ _ _ e)
      | o c => exact (rows_of h _ _ _ e).1
    | o c => exact (rows_of h _ _ _ e).1
  · exact (rows_of h _ _ _ e).2 c rfl
def gKwD (is : List Nat) (md : List D) (ds es : List D) : List D := ds ++ pick is (es ++ md)
theorem pick_len {α : Type} {l : List α} : ∀ {is : List Nat}, (is.all fun i => decide (i < l.length)) = true → (pick is l).length = is.length
  | [], _ => rfl
  | i :: is, h => by
    rw [List.all_cons, Bool.and_eq_true] at h
    have hi : i < l.length := of_decide_eq_true h.1
    unfold pick
    rw [List.filterMap_cons, List.getElem?_eq_getElem hi]
    exact congrArg Nat.succ (pick_len h.2)
theorem gkw_rel0 {K : PySem.W.Frag} {T : Tb} {mv : List V} {md : List D} (is : List Nat) (hm : ∀ w, RelDs K T w mv md) {n m : Nat} (h1 : (is.all fun i => decide (i < m + md.length)) = true) (w : Wd) (vs zs : List V) (ds es : List D) (r : RelDs K T w vs ds) (z : RelDs K T w zs es) (l1 : ds.length = n) (l2 : es.length = m) :
    RelDs K T w (gKw is vs mv zs) (gKwD is md ds es) ∧ (gKwD is md ds es).length = n + is.length :=
  ⟨r.append (pick_rel is (z.append (hm w))), by
    unfold gKwD
    rw [List.length_append, l1, pick_len (by rw [List.length_append, l2]; exact h1)]⟩
theorem gkw_rel {K : PySem.W.Frag} {T : Tb} {mv : List V} {md : List D} {ps ks : List Str} (is : List Nat) (hm : ∀ w, RelDs K T w mv md) {n : Nat} (h1 : (is.all fun i => decide (i < ks.length + md.length)) = true) (h2 : n + is.length + 1 = ps.length) : ∀ (w : Wd) (vs zs : List V) (ds es : List D), RelDs K T w vs ds → RelDs K T w zs es → ds.length = n → es.length = ks.length →
    RelDs K T w (gKw is vs mv zs) (gKwD is md ds es) ∧ (gKwD is md ds es).length + 1 = ps.length := fun w vs zs ds es r z l1 l2 => by
  obtain ⟨a, b⟩ := gkw_rel0 is hm h1 w vs zs ds es r z l1 l2
  exact ⟨a, by rw [b]; exact h2⟩
theorem fn_cx0 {P : Program} {w : World} {K : PySem.W.Frag} {mg : Str → Option Value} {base : Heap} {k : Nat} {f : Addr} {fd : FuncData} {ps : List Str} {sp : Sp} (F : FnOk P w K mg base (L2.CX P w) k f fd ps sp) :
    FnOk P w K mg base CX0 k f fd ps (fun vs H Q _ => sp vs H Q fun _ _ _ => False) := by
  refine ⟨fun vs H Q _ q => F.len vs H Q _ q, fun A outer s H args us vs Q E hr e0 hb r hsp => codeAny_mono (F.run A outer s H args us vs Q _ hr e0 hb r hsp) fun r s' hq => ?_⟩
  cases r with
  | error e =>
    obtain ⟨a, B, H', cls, d, rfl, fl, hok, ub, na, os, ag, hE⟩ := (show L2.CX P w outer H s (fun _ _ _ => False) e s' from hq)
    exact hE.elim
  | ok fl => cases fl <;> exact hq
end Pk

/-! Pk16: classes whose __init__ takes *rest and keyword-only parameters. -/
namespace Pk
open PySem PySem.Spec L2
section
variable {P : Program} {w : World} {K : PySem.W.Frag} {mg : Str → Option Value} {base : Heap} {T : Tb} {k : Nat} {x qual : Str} {params : Arguments} {body : List Stmt} {scope : Scope} {dvs : List V} {kws : List (Str × V)} {f : Addr} {fd : FuncData} {N ps : List Str}
end

/-- an __init__(self, *rest, k1, ..): what its call promises -/
structure FnS (P : Program) (w : World) (K : PySem.W.Frag) (mg : Str → Option Value) (base : Heap) (T : Tb) (k c : Nat) (f : Addr) (n : Nat) (ks : List Str) (F : Fn) : Prop where
  run : ∀ (A : Around) (outer : List Env) (s : Shared) (H : Hp) (u0 : Value) (ur ws : List Value) (v0 : V) (vr zs : List V) (Q : VK) (E : XK), Room k A → Env0 P w K mg base A outer s H → RelV v0 u0 → Vals vr ur → Vals zs ws → zs.length = ks.length → vr.length ≤ sizeLine →
    (∀ p, H p = none → spI K T c n F (v0 :: (zs ++ [.ref p])) (upd H p (.tup vr)) Q E) → codeAny (model P w) A (.call (.ref f) ⟨u0 :: ur, ks.zip ws⟩) (CR (L2.CX P w) outer P w H s Q E) s
  made : Mk K (T.cad c) f
section
variable {P : Program} {w : World} {K : PySem.W.Frag} {mg : Str → Option Value} {base : Heap} {T : Tb} {k : Nat} {x qual : Str} {params : Arguments} {body : List Stmt} {scope : Scope} {f : Addr} {fd : FuncData} {N : List Str} {p0 pv : Str} {ks : List Str}
end

/-! ### the calls -/
def starG (ds es : List D) : List D := es ++ [.tup ds]
def mStar (m : Nat) (F : Fn) (ma : M D) (mk : M (List D)) : M D := ma.bind fun d => mk.bind fun es fr h => match d.its [] with
  | some ds => if ds.length ≤ big ∧ es.length = m then liftR fr (F (starG ds es) h) else .err
  | none => .err
section
variable {X : Cx} {T : Tb} {W : WX} {k kk n c : Nat} {f : Addr} {ks : List Str} {F : Fn} {x : Str} {p pos apos : Pos} {e : Expr} {es : List Expr} {kws : List Keyword} {ma : M (List D)} {mo : M D} {mk : M (List D)}
end

/-! ### C(*e, k = v) -/
section
open PySem.W
variable {M' : Model} {A : Around} {E : Value → Shared → Prop} {s : Shared}
end
section
variable {X : Cx} {T : Tb} {W : WX} {k kk n c : Nat} {f : Addr} {ks : List Str} {F : Fn} {x : Str} {p sp_ pos apos : Pos} {e : Expr} {kws : List Keyword} {mo : M D} {mk : M (List D)}
end
end Pk

/-! Pk17: an operator between two instances of one own class, by its own method. -/
namespace Pk
open PySem PySem.Spec L2
structure DunF (X : Cx) (T : Tb) (k : Nat) (op : Operator) (mt : Nat → Option Fn) : Prop where
  ex : ∀ c F, mt c = some F → ∃ (kk : Nat) (f : Addr) (fd : FuncData) (ps : List Str), Cls X.K (T.cad c) ∧ Meth X.K (T.cad c) (PySem.dunder op.info.2) f ∧ PySem.W.selfFirst X.K (T.cad c) = true ∧ FnP X.prog X.w X.K X.mg X.base T kk f fd ps F ∧ Bn X.K T fd ps 2 [] (gPos []) ∧ kk ≤ k
/-- the class that both have -/
def sameC (h : Hh) (x y : D) : Option Nat := match x.ins h, y.ins h with
  | some (c, _), some (c', _) => if c = c' then some c else none
  | _, _ => none
def dunFn (mt : Nat → Option Fn) (h : Hh) (x y : D) : Option Fn := match sameC h x y with
  | some c => mt c
  | none => none
def mDun (mt : Nat → Option Fn) (ma mb : M D) : M D := ma.bind fun x => mb.bind fun y fr h => match dunFn mt h x y with
  | some F => liftR fr (F [x, y] h)
  | none => .err
section
variable {X : Cx} {T : Tb} {W : WX} {k : Nat} {a b : Expr} {ma mb : M D} {pos : Pos} {op : Operator}
theorem cmpback_of {pins : List (Addr × Obj)} {σ : L2.St} {Q : VK} {v : Value} {s : Shared} (h : EP X pins σ Q v s) : PySem.W.CmpBack (EP X pins σ Q) v s := by
  obtain ⟨y, H', I', r, q⟩ := id h
  cases y <;> first | (obtain rfl := (r : v = _); exact h) | (obtain ⟨t, rfl⟩ := r; exact h)
theorem sameC_of {h : Hh} {x y : D} {c : Nat} (e : sameC h x y = some c) : (∃ fs, x.ins h = some (c, fs)) ∧ ∃ gs, y.ins h = some (c, gs) := by
  unfold sameC at e
  split at e
  · rename_i c1 fs c2 gs e1 e2
    by_cases hc : c1 = c2
    · rw [if_pos hc] at e
      cases e
      subst hc
      exact ⟨⟨fs, e1⟩, gs, e2⟩
    · rw [if_neg hc] at e
      cases e
  · cases e
theorem se_dun {mt : Nat → Option Fn} (C : Cq X T W k) (Mf : DunF X T k op mt) (sa : SimV X T W a ma) (sb : SimV X T W b mb) : SimE X T W (.BinOp a op b pos) (mDun mt ma mb) := fun B w σ H fr h Q R pp => WE.mk <| fun pins s I => by
  refine wpAny_BinOp (binT (R := fun x y H2 => ∃ (kk : Nat) (f : Addr) (fd : FuncData) (ps : List Str) (p1 p2 C dx dy : Addr) (fs gs : List (Str × V)) (G : Fn), x = .ref p1 ∧ y = .ref p2 ∧ H2 p1 = some (.ins C dx fs) ∧ H2 p2 = some (.ins C dy gs) ∧ Meth X.K C (PySem.dunder op.info.2) f ∧ PySem.W.selfFirst X.K C = true ∧
      FnP X.prog X.w X.K X.mg X.base T kk f fd ps G ∧ Bn X.K T fd ps 2 [] (gPos []) ∧ kk ≤ k ∧
      ∀ g gV, KBn X.K fd ps 2 [] g gV → (∀ (w : Wd) (vs zs : List V) (ds es : List D), RelDs X.K T w vs ds → RelDs X.K T w zs es → ds.length = 2 → es.length = ([] : List Str).length → RelDs X.K T w (gV vs zs) (gPos [] ds es) ∧ (gPos [] ds es).length = ps.length) →
        spF X.K T ps.length G (gV [.ref p1, .ref p2] []) H2 Q (fun c d H' => W c d σ H')) pe_max pe_max I (sa B w σ H fr h _ R (Post.bind (VR := vV X.K T B σ) pp fun d fr1 h1 w1 H1 v e1 l1 r1 rd p1 =>
      sb B w1 σ H1 fr1 h1 _ r1 (Post.bind (VR := vV X.K T B σ) p1 fun e fr2 h2 w2 H2 u e2 l2 r2 re p2 => ?_))) fun v u s2 x y H2 I2 rx ry ⟨kk, f, fd, ps, p1, p2, Cl, dx, dy, fs, gs, G, ex, ey, ea, eb, c2, c3, c4, c5, c6, q⟩ => ?_)
  · have p3 : Post X.K T B W (vE X.K T B σ) w2 σ (match dunFn mt h2 d e with | some F => liftR fr2 (F [d, e] h2) | none => .err) Q := p2
    cases ef : dunFn mt h2 d e with
    | none => rw [ef] at p3; exact p3.elim
    | some G =>
      rw [ef] at p3
      dsimp only at p3
      have : ∃ c, sameC h2 d e = some c ∧ mt c = some G := by
        unfold dunFn at ef
        split at ef
        · rename_i c ec
          exact ⟨c, ec, ef⟩
        · cases ef
      obtain ⟨c, ec, em⟩ := this
      obtain ⟨⟨fs, i1⟩, gs, i2⟩ := sameC_of ec
      obtain ⟨kk, f, fd, ps, c1, c2, c3, c4, c5, c6⟩ := Mf.ex c G em
      obtain ⟨p1', dx, vs, rfl, eH, rs⟩ := ins_rel r2 (.inl (rd.mono l2)) i1
      obtain ⟨p2', dy, us, rfl, eH2, rs2⟩ := ins_rel r2 (.inl re) i2
      refine ⟨kk, f, fd, ps, p1', p2', T.cad c, dx, dy, _, _, G, rfl, rfl, eH, eH2, c2, c3, c4, c5, c6, fun g gV hb hgD => ?_⟩
      have p4 : Post X.K T B W (vE X.K T B σ) w2 σ (if ([d, e] : List D).length = 2 ∧ ([] : List D).length = 0 then liftR fr2 (G (gPos [] [d, e] []) h2) else .err) Q := by
        rw [if_pos ⟨rfl, rfl⟩]
        exact p3
      exact (call_end (n := 2) (m := 0) (zs := []) (es := []) (ds := [d, e]) hgD r2 (.cons (rd.mono l2) (.cons re .nil)) .nil p4).2.2
  · subst ex ey
    obtain rfl : v = Value.ref p1 := rx
    obtain rfl : u = Value.ref p2 := ry
    obtain ⟨mA, J, _⟩ := ins_get I2.hok ea
    obtain ⟨mB, J', _⟩ := ins_get I2.hok eb
    obtain ⟨od, J, _⟩ := J.look
    obtain ⟨od', J', _⟩ := J'.look
    obtain ⟨m, hF⟩ := I2.fr
    refine PySem.W.binop_K hF I2.ok.mod.kin J J'.type c3 c2.at_ c2.fn (wpAny_mono (Q := EP X pins σ Q) ?_ (fun _ _ z => cmpback_of z) fun _ _ z => z)
    obtain ⟨g, gV, hb, hgD⟩ := c5.ex
    exact run_gen (us := [.ref p1, .ref p2]) (ws := []) (vs := [.ref p1, .ref p2]) c4.ok (C.room.mono c6) hb C.takes I2 (.cons rfl (.cons rfl .nil)) .nil rfl rfl (q g gV hb hgD)
end
end Pk

/-! Pk18: own error classes whose __init__ says super().__init__(text) and then keeps its arguments. -/
namespace PySem
namespace ExS
open PySem.W PySem.Calls PyProof.Rows PySem.HandSPX
/-- self.f = f -/
abbrev asg (f : Str) (q1 q2 q3 q4 : Pos) : Stmt := .Assign [.Attribute (.Name "self" q1) f q2] (.Name f q3) q4
/-- super().__init__(e) -/
abbrev sup (e : Expr) (p0 p1 p2 p3 p4 : Pos) : Stmt := .Expr (.Call (.Attribute (.Call (.Name "super" p0) [] [] p1) "__init__" p2) [e] [] p3) p4
/-- what the written part says of such a class, at C, and of its __init__, at fI -/
structure ExTxt (prog : Program) (K : Frag) (C fI : Addr) (params : Arguments) (body : List Stmt) (scope : Scope) (qual : Str) : Prop where
  cls : ∃ nm q N bs bm sn sub ab col dd k0 k1 k2 k3 k5, K.lookup C = some (excClassObj nm q C N bs bm true sn sub ab col dd k0 k1 k2 k3 k5 "ValueError.__new__") ∧ refsVE bm = true ∧ alongIn K "__init__" bm = some (some (.builtin "ValueError.__init__"))
  sa : findIn K (.ref C) "__setattr__" = some (some (.builtin "object.__setattr__"))
  iC : findIn K (.ref C) "__init__" = some (some (.ref fI))
  tC : typeIn K (.ref fI) = some (.type "function")
  subB : subIn K (.ref C) (.type "ValueError") = some true
  subC : mroIn K C (.ref C) = some true
  opq : nsIn K cStatics "thirdparty.any" = some none
  top : (prog.main.scope.names.lookup ("super" : Str)).isSome = false
  fn : ∃ (oc : Value) (od : Option Addr) (kV doc pm : Value) (an : Option Addr) (cda : Addr) (ct : Value) (osl : Array (Option Value)) (cc : Addr),
    K.lookup fI = some ⟨oc, od, .func (ksFn "__init__" qual params body scope .none kV doc pm an (.ref cda) ct cc), osl⟩ ∧ codeIn K (.ref cda) qual = true ∧
    (∃ (ccl : Value) (cdd : Option Addr) (vs : Array Value) (ccs : Array (Option Value)) (file : Str) (tf : Tok), K.lookup cda = some ⟨ccl, cdd, .fields vs, ccs⟩ ∧ vs[2]? = some (.str file tf) ∧ ((prog.main.file : Str) == file) = true) ∧
    ∃ (cl : Value) (cld : Option Addr) (csl : Array (Option Value)), K.lookup cc = some ⟨cl, cld, .cell (some (.ref C)), csl⟩
section
variable {prog : Program} {w : World} {M : Model} {A : Around} {E : Value → Shared → Prop} {s : Shared}
theorem spliced1 {t : Sem Value} {Q : List Value → Shared → Prop} (h : wpAny M A t (fun v s => Q [v] s) E s) : wpAny M A (spliced [(false, t)]) Q E s := by
  unfold spliced
  refine wpAny_bind (wpAny_mono h (fun v s' h' => ?_) fun _ _ x => x)
  refine wpAny_bind (wpAny_pure ?_)
  refine wpAny_bind (wpAny_holding ?_)
  exact Calls.spliced_nil (wpAny_pure h')
/-- the method-wrapper called: the args are laid anew -/
theorem call_mw {h : Heap} {g : Array GenState} {d : Drawn} {t : Nat} {os : OsState} {nm q : Str} {C N : Addr} {bs bm : List Value} {hdct : Bool} {sn : List Str} {sub : List Value} {ab : Bool} {col : Option Bool} {dd : Option Addr} {k0 k1 k2 k3 k5 : Option Value} {u x t0 : Addr} {rest : List Value} {Q : Value → Shared → Prop}
    (hC : h.get? C = some (excClassObj nm q C N bs bm hdct sn sub ab col dd k0 k1 k2 k3 k5 "ValueError.__new__")) (he : h.get? x = some (excO C t0)) (hu : h.get? u = some (kxs_mw "ValueError.__init__" x)) (hz : rest.length ≤ sizeLine)
    (hq : ∀ h' t1, (∀ b o, b ≠ x → h.get? b = some o → h'.get? b = some o) → h'.get? x = some (excO C t1) → Q .none ⟨h', g, d, t, os⟩) :
    wpAny (model prog w) A (call (.ref u) rest) Q E ⟨h, g, d, t, os⟩ := by
  refine wpAny_call (codeAny_of_tree ?_)
  show wpAny _ A.in1 (callAny (.ref u) ⟨rest, []⟩) _ _ _
  simp only [callAny]
  refine wpAny_bind (wpAny_load hu ?_)
  simp only [kxs_mw, show (Value.type "method-wrapper" == Value.type "method" || Value.type "method-wrapper" == Value.type "builtin_function_or_method" || Value.type "method-wrapper" == Value.type "method-wrapper") = true by decide, if_true]
  refine KFB.if_so (by decide) ?_
  refine wpAny_bind (check_bound_init F.excBase_ValueError.toExcCallFacts hC he rfl ?_)
  refine wpAny_bind (wpAny_pure (wpAny_pure ?_))
  refine ⟨plainId_quiet F.excBase_ValueError.init.plain _, codeAny_builtin F.excBase_ValueError.initEntry ?_⟩
  exact exc_init_tree (cls := .ref C) (t0 := t0) (dv := none) (c2 := .none) (c3 := .none) (b4 := .bool false) he hz fun h' k e' _ => hq h' _ k e'
end
theorem in_none {K : Frag} {h : Heap} {b : Addr} (X : K.In h) (hb : h.objs.size ≤ b) : K.lookup b = none := by
  cases e : K.lookup b with
  | none => rfl
  | some o => exact absurd (Heap.lt_size (X _ _ e)) (Nat.not_lt.mpr hb)
theorem kept_but {K : Frag} {h h' : Heap} {x : Addr} (X : K.In h) (hx : K.lookup x = none) (k : ∀ b o, b ≠ x → h.get? b = some o → h'.get? b = some o) : K.In h' := fun a o e =>
  k a o (fun z => by rw [z, hx] at e; cases e) (X a o e)
section
variable {prog : Program} {w : World} {A : Around} {R : Result → Shared → Prop} {s : Shared} {K : Frag} {C fI : Addr} {params : Arguments} {scope : Scope} {qual : Str} {ex : Expr} {p0 p1 p2 p3 p4 : Pos} {rest : List Stmt} {mg mb : Str → Option Value}
/-- into __init__, up to what stands behind super().__init__(..) -/
theorem enter (T : ExTxt prog K C fI params (sup ex p0 p1 p2 p3 p4 :: rest) scope qual) {x t0 : Addr} {us : List Value} {binds : List (Str × Value)} (X : K.In s.heap) (hlim : s.heap.NoLimit) (hx : s.heap.get? x = some (excO C t0)) (hnx : K.lookup x = none) (hroom : A.depth < recursionLimit)
    (hG : s.heap.Ns mainGlobals mg) (hg : mg "super" = none) (hB : s.heap.Ns builtinsNs mb) (hb : mb "super" = some (.type "super"))
    (hbind : ∀ (kV doc pm : Value) (an : Option Addr) (cdv ct : Value) (cc : Addr), bindArgs (ksFn "__init__" qual params (sup ex p0 p1 p2 p3 p4 :: rest) scope .none kV doc pm an cdv ct cc) ⟨.ref x :: us, []⟩ = pure binds)
    (hself : binds.reverse.lookup ("self" : Str) = some (.ref x)) (hloc : ∀ y ∈ binds, scope.names.lookup y.1 = some .local)
    (hcell : ∀ y ∈ scope.names, y.2 ≠ .cell) (hp : ∃ ar : Arg, (params.posonlyargs ++ params.args).head? = some ar ∧ ar.arg = "self") (hks : scope.names.lookup ("super" : Str) = some .globalImplicit) (hkc : scope.names.lookup ("__class__" : Str) = some .free) (hka : scope.names.lookup ("self" : Str) = some .local)
    (hco : scope.isCoroutine = false) (hgen : scope.isGenerator = false) (hk : scope.kind = .function)
    (hE : ∀ (cda cc : Addr) (L : Addr) (A' : Around) (h : Heap) (g : Array GenState) (d : Drawn) (t : Nat) (os : OsState) (E' : Value → Shared → Prop) (Q : Value → Shared → Prop), (∀ b o, s.heap.get? b = some o → h.get? b = some o) → h.Ns L (fun y => binds.reverse.lookup y) → (∀ v t', Q v ⟨h, g, d, t', os⟩) → wpAny (model prog w) A' (eval ex (ksEnv qual scope L fI (.ref cda) cc)) Q E' ⟨h, g, d, t, os⟩)
    (hin : ∀ (cda cc L : Addr), interactive (ksEnv qual scope L fI (.ref cda) cc) = false)
    (hev : ∀ (cda cc L : Addr), ∃ pl : Sem Bool, eval (.Call (.Attribute (.Call (.Name "super" p0) [] [] p1) "__init__" p2) [ex] [] p3) (ksEnv qual scope L fI (.ref cda) cc) = (do
      let ov ← attributeBase (.Call (.Name "super" p0) [] [] p1) "__init__" (ksEnv qual scope L fI (.ref cda) cc) (eval (.Call (.Name "super" p0) [] [] p1) (ksEnv qual scope L fI (.ref cda) cc))
      standAt p2.atName
      let (f, first) ← holding [ov] (getMethod ov "__init__" pl)
      callWith p3 f first (backTo p3 (starEach [ex] (ksEnv qual scope L fI (.ref cda) cc))) []))
    (hsw : ∀ (cda cc L : Addr), swapsWith (.Call (.Attribute (.Call (.Name "super" p0) [] [] p1) "__init__" p2) [ex] [] p3) none p4.line (ksEnv qual scope L fI (.ref cda) cc) = pure false)
    (hst : ∀ env : Env, starEach [ex] env = [(false, eval ex env)])
    (hq : ∀ (cda cc : Addr) h' tk t1, (∀ b o, b ≠ x → s.heap.get? b = some o → h'.get? b = some o) → h'.get? x = some (excO C t1) → h'.Ns s.heap.objs.size (fun y => binds.reverse.lookup y) →
      wpAny (model prog w) (A.deeper (ksEnv qual scope s.heap.objs.size fI (.ref cda) cc)) (execs rest (ksEnv qual scope s.heap.objs.size fI (.ref cda) cc)) (fun f s' => R (.ok (.ret (match f with | .ret v => v | _ => .none))) s')
        (fun _ _ => False) { s with heap := h', toks := tk }) : codeAny (model prog w) A (.call (.ref fI) ⟨.ref x :: us, []⟩) R s := by
  obtain ⟨oc, od, kV, doc, pm, an, cda, ct, osl, cc, ho, hcd, ⟨ccl, cdd, vs, ccs, file, tf, hcode, hvs, hfile⟩, cl, cld, csl, hcel⟩ := T.fn
  obtain ⟨nm, q, N, bs, bm, sn, sub, ab, col, dd, k0, k1, k2, k3, k5, hC, hbm, hal⟩ := T.cls
  obtain ⟨ar, hp, har⟩ := hp
  have hcl : clsIn K C = some { name := nm, bases := bs, mro := .ref C :: bm, ns := N, qualname := q, hasDict := true, slotNames := sn, subclasses := sub, abstract := ab, collection := col, hasDel := false } := by unfold clsIn; rw [hC] <;> rfl
  refine ks_codeAny_call_defAt (fd := ksFn "__init__" qual params (sup ex p0 p1 p2 p3 p4 :: rest) scope .none kV doc pm an (.ref cda) ct cc) (body := sup ex p0 p1 p2 p3 p4 :: rest) (binds := binds) hroom (X _ _ ho) rfl hlim (codeRec_of X hcd) rfl (BindsTo.of_eq (hbind kV doc pm an (.ref cda) ct cc)) hcell hloc (fun h₁ hns hk₁ => ?_) hco hgen hk
  obtain ⟨hp0, g, d, t, os⟩ := s
  show wpAt (model prog w) (A.deeper (ksEnv qual scope hp0.objs.size fI (.ref cda) cc)) (.func (sup ex p0 p1 p2 p3 p4 :: rest) (ksEnv qual scope hp0.objs.size fI (.ref cda) cc)) (execs (sup ex p0 p1 p2 p3 p4 :: rest) (ksEnv qual scope hp0.objs.size fI (.ref cda) cc)) _ _ _
  have X₁ : K.In h₁ := X.keeps hk₁
  have hx₁ := hk₁ _ _ hx
  have hC₁ := X₁ _ _ hC
  have hxC : x ≠ C := fun z => by
    rw [z, hC₁] at hx₁
    cases hx₁
  obtain ⟨pl, hev⟩ := hev cda cc hp0.objs.size
  refine ks_wpAt_execs_cons (ks_wpAt_Expr_any (ks_wpAt_MethodCall (pl := pl) ?_ hev) (hin _ _ _) (hsw _ _ _))
  refine ks_wpAt_super_base (fd := ksFn "__init__" qual params (sup ex p0 p1 p2 p3 p4 :: rest) scope .none kV doc pm an (.ref cda) ct cc) hks hkc (by decide) rfl (X₁ _ _ ho) rfl hp rfl (X₁ _ _ hcode) rfl hvs hfile T.top ?_
  refine ks_loadName_global hk hks (Calls.loadGlobal_builtin (hG.keeps hk₁) hg (hB.keeps hk₁) hb ⟨rfl, ?_⟩)
  refine wpAny_loadName_free hk hkc rfl ⟨_, X₁ _ _ hcel, rfl⟩ ?_
  rw [har]
  refine wpAny_loadName_local hk hka hns hself ?_
  refine ks_wpAny_isType_cls hC₁ rfl ⟨rfl, ?_⟩
  refine ks_wpAny_call_super hC₁ rfl hx₁ rfl (fun c e => by cases e) (looks_mroIn X₁ T.subC) (fun h₂ hso k₂ => ?_)
  have X₂ : K.In h₂ := X₁.keeps k₂
  have hx₂ := k₂ _ _ hx₁
  have I₂ : InstAt h₂ x (excO C t0) C none := ⟨hx₂, rfl, rfl, trivial⟩
  refine kxs_getMethod kxs_ValueError hso (looks_opaque X₂ T.opq) (l₀ := .ref C :: bm) ((looks_clsIn X₂ hcl).andThen .now) (by simp [List.dropWhile_cons]) X₂ hal (I₂.type.andThen (looks_subIn X₂ T.subB)) hxC rfl ?_
  have k₃ : ∀ b o, h₂.get? b = some o → (h₂.push (kxs_mw "ValueError.__init__" x)).get? b = some o := fun b o e => Heap.get?_push_of_some _ e
  have hu : (h₂.push (kxs_mw "ValueError.__init__" x)).get? h₂.objs.size = some (kxs_mw "ValueError.__init__" x) := Heap.get?_push_at rfl rfl
  refine kxs_callWith (i := "ValueError.__init__") (x := x) (by rw [hst]; rfl) ?_
  rw [hst]
  refine evalArgs_plain ?_
  show wpAny _ _ (spliced [(false, eval ex (ksEnv qual scope hp0.objs.size fI (.ref cda) cc))]) _ _ _
  refine spliced1 (hE cda cc hp0.objs.size _ _ _ _ _ _ _ _ (fun b o e => k₃ _ _ (k₂ _ _ (hk₁ _ _ e))) ((hns.keeps k₂).keeps k₃) fun v t' => ⟨hu, ?_⟩)
  refine call_mw (k₃ _ _ (k₂ _ _ hC₁)) (k₃ _ _ hx₂) hu (by show 1 ≤ sizeLine; decide) fun h₄ t1 k₄ hx₄ => ?_
  have hxL : hp0.objs.size ≠ x := Nat.ne_of_gt (Heap.lt_size hx)
  refine wpAt_of_wpAny (wpAny_mono (hq cda cc h₄ _ t1 (fun b o hb e => k₄ b o hb (k₃ _ _ (k₂ _ _ (hk₁ _ _ e)))) hx₄ ?_) (fun _ _ z => z) fun _ _ z => z.elim)
  obtain ⟨o, es, ep, eo, r⟩ := (hns.keeps k₂).keeps k₃
  exact ⟨o, es, ep, k₄ _ _ hxL eo, r⟩
end
/-! ### the fields -/
abbrev Asg : Type := Str × Pos × Pos × Pos × Pos
abbrev asgs (gs : List Asg) : List Stmt := gs.map fun g => asg g.1 g.2.1 g.2.2.1 g.2.2.2.1 g.2.2.2.2
theorem look_put {α : Type} (f g : Str) (y : α) (fs : List (Str × α)) : ((f, y) :: fs).lookup g = if g = f then some y else fs.lookup g := by
  by_cases h : g = f
  · subst h
    simp [List.lookup]
  · have e : (g == f) = false := by simpa using h
    rw [if_neg h]
    simp [List.lookup, e]
theorem look_mem {α : Type} {y : Str} : ∀ {l : List (Str × α)} {v : α}, l.lookup y = some v → y ∈ l.map (·.1)
  | [], v, h => by cases h
  | (f, z) :: l, v, h => by
    rw [look_put] at h
    by_cases e : y = f
    · rw [e]; exact List.mem_cons_self ..
    · rw [if_neg e] at h
      exact List.mem_cons_of_mem _ (look_mem h)
theorem look_app {α : Type} {y : Str} : ∀ (l r : List (Str × α)), (l ++ r).lookup y = match l.lookup y with | some v => some v | none => r.lookup y
  | [], r => rfl
  | (f, z) :: l, r => by
    rw [List.cons_append, look_put, look_put]
    by_cases e : y = f
    · rw [if_pos e, if_pos e]
    · rw [if_neg e, if_neg e]; exact look_app l r
theorem look_none {α : Type} {y : Str} {l : List (Str × α)} (h : y ∉ l.map (·.1)) : l.lookup y = none := by
  cases e : l.lookup y with
  | none => rfl
  | some v => exact absurd (look_mem e) h
theorem look_rev {α : Type} {y : Str} : ∀ {l : List (Str × α)}, (l.map (·.1)).Nodup → l.reverse.lookup y = l.lookup y
  | [], _ => rfl
  | (f, z) :: l, h => by
    rw [List.map_cons, List.nodup_cons] at h
    have e1 : ((f, z) :: l).lookup y = if y = f then some z else l.lookup y := look_put f y z l
    have e2 : [(f, z)].lookup y = if y = f then some z else none := look_put f y z []
    rw [List.reverse_cons, look_app, look_rev h.2, e1, e2]
    by_cases e : y = f
    · subst e
      rw [look_none h.1, if_pos rfl]
    · rw [if_neg e, if_neg e]
      cases l.lookup y <;> rfl
/-- what is laid down so far, the last first -/
structure StX (h0 h : Heap) (x C : Addr) (done : List (Str × Value)) : Prop where
  keep : ∀ b o, b ≠ x → h0.get? b = some o → h.get? b = some o
  big : h0.objs.size ≤ h.objs.size
  at_ : ∃ (t1 : Addr) (dv : Option Addr), h.get? x = some { cls := .ref C, dict := dv, data := .fields #[.ref t1, .none, .none, .none, .bool false, .none] } ∧
    ((done = [] ∧ dv = none) ∨ ∃ (dx : Addr) (m : Str → Option Value), dv = some dx ∧ h0.objs.size ≤ dx ∧ dx ≠ x ∧ h.Ns1 dx m ∧ ∀ y, m y = done.lookup y)
section
variable {prog : Program} {w : World} {A : Around} {E : Value → Shared → Prop} {K : Frag} {C fI L x : Addr} {scope : Scope} {qual : Str} {cda cc : Addr} {m : Str → Option Value} {h0 : Heap} {g : Array GenState} {d : Drawn} {os : OsState} {Q : Flow → Shared → Prop} {cd : ClassData}
theorem stores (X0 : K.In h0) (hnx : K.lookup x = none) (hLx : L ≠ x) (hL0 : L < h0.objs.size) (hcl : clsIn K C = some cd) (hm : refsVE cd.mro = true) (hh : cd.hasDict = true) (sa : findIn K (.ref C) "__setattr__" = some (some (.builtin "object.__setattr__"))) (hk : scope.kind = .function) (hself : m "self" = some (.ref x)) (ls : scope.names.lookup ("self" : Str) = some .local)
    (hsw : ∀ g : Asg, swapsWith (.Name g.1 g.2.2.2.1) (some (.Attribute (.Name "self" g.2.1) g.1 g.2.2.1)) g.2.2.2.2.line (ksEnv qual scope L fI (.ref cda) cc) = pure false) (hns0 : h0.Ns L m) :
    ∀ (gs : List Asg) (vs : List Value) (done : List (Str × Value)) (h : Heap) (t : Nat), (∀ g ∈ gs, (g.1 == ("__debug__" : Str)) = false ∧ scope.names.lookup g.1 = some .local ∧ findIn K (.ref C) g.1 = some none) → gs.length = vs.length → (∀ (i : Nat) (f : Str) (v : Value), (gs.map (·.1))[i]? = some f → vs[i]? = some v → m f = some v) → done.length + gs.length ≤ 500 → StX h0 h x C done →
      (∀ h' t', StX h0 h' x C (((gs.map (·.1)).zip vs).reverse ++ done) → Q .next ⟨h', g, d, t', os⟩) → wpAny (model prog w) A (execs (asgs gs) (ksEnv qual scope L fI (.ref cda) cc)) Q E ⟨h, g, d, t, os⟩
  | [], vs, done, h, t, _, hl, _, _, S, hq => by
    cases vs with
    | nil => exact wpAny_execs_nil (hq h t S)
    | cons v vs => cases hl
  | a :: gs, vs, done, h, t, hg, hl, hv, hlen, S, hq => by
    cases vs with
    | nil => cases hl
    | cons v vs =>
      obtain ⟨n1, n2, n3⟩ := hg a List.mem_cons_self
      have hva : m a.1 = some v := hv 0 a.1 v rfl rfl
      obtain ⟨t1, dv, hx, hd⟩ := S.at_
      have X : K.In h := kept_but X0 hnx S.keep
      have hns : h.Ns L m := by
        obtain ⟨o, es, ep, eo, r⟩ := hns0
        exact ⟨o, es, ep, S.keep _ _ hLx eo, r⟩
      have go : ∀ h' t', StX h0 h' x C ((a.1, v) :: done) → wpAny (model prog w) A (execs (asgs gs) (ksEnv qual scope L fI (.ref cda) cc)) Q E ⟨h', g, d, t', os⟩ := fun h' t' S' => by
        refine stores X0 hnx hLx hL0 hcl hm hh sa hk hself ls hsw hns0 gs vs ((a.1, v) :: done) h' t' (fun b hb => hg b (List.mem_cons_of_mem _ hb)) (Nat.succ.inj hl) (fun i f u e1 e2 => hv (i + 1) f u e1 e2) (by simp only [List.length_cons] at hlen ⊢; omega) S' fun h2 t2 S2 => hq h2 t2 ?_
        have e : ((List.map (·.1) (a :: gs)).zip (v :: vs)).reverse ++ done = ((gs.map (·.1)).zip vs).reverse ++ (a.1, v) :: done := by
          simp
        rw [e]
        exact S2
      refine wpAny_execs_cons (plainObj_wpAny_Assign_Attribute ?_ (hsw a))
      refine wpAny_Name (wpAny_loadName_local hk (show (ksEnv qual scope L fI (.ref cda) cc).kindOf a.1 = some .local from n2) hns hva ?_) n1
      refine wpAny_Name (wpAny_loadName_local hk (show (ksEnv qual scope L fI (.ref cda) cc).kindOf "self" = some .local from ls) hns hself ?_) (by decide)
      rcases hd with ⟨rfl, rfl⟩ | ⟨dx, m0, rfl, dn, dne, hn1, hmm⟩
      · refine set_plain X (ox := { cls := .ref C, dict := none, data := .fields #[.ref t1, .none, .none, .none, .bool false, .none] }) (od := none) ⟨hx, rfl, rfl, trivial⟩ sa ?_
        refine exc_osa X hx hcl hm hh n3 (fun h₃ tk₃ dx k₃ dn dne hx₃ hn₃ => ?_)
        have zz : dx < h₃.objs.size := by
          obtain ⟨o, es, ep, eo, _⟩ := hn₃
          exact Heap.lt_size eo
        refine go h₃ _ ⟨fun b o hb e => k₃ b o hb (S.keep b o hb e), Nat.le_of_lt (Nat.lt_of_le_of_lt (Nat.le_trans S.big dn) zz), t1, some dx, hx₃, .inr ⟨dx, _, rfl, Nat.le_trans S.big dn, dne, hn₃, fun y => ?_⟩⟩
        · rw [look_put]
          rfl
      · obtain ⟨oD, es, ep, hoD, r⟩ := id hn1
        have hw : Within m0 (done.map (·.1)) := fun y hy => by
          rw [hmm y] at hy
          cases e : done.lookup y with
          | none => exact absurd e hy
          | some u => exact look_mem e
        refine set_plain X (ox := { cls := .ref C, dict := some dx, data := .fields #[.ref t1, .none, .none, .none, .bool false, .none] }) (od := some oD) ⟨hx, rfl, rfl, hoD⟩ sa ?_
        refine OEX.osa_old X hx hn1 hw (by rw [List.length_map]; omega) hcl hm hh n3 (fun h₃ tk₃ k₃ hn₃ => ?_)
        have zz : dx < h₃.objs.size := by
          obtain ⟨o, es, ep, eo, _⟩ := hn₃
          exact Heap.lt_size eo
        refine go h₃ _ ⟨fun b o hb e => k₃ b o (fun z => ?_) (S.keep b o hb e), Nat.le_of_lt (Nat.lt_of_le_of_lt dn zz), t1, some dx, k₃ _ _ (Ne.symm dne) hx, .inr ⟨dx, _, rfl, dn, dne, hn₃, fun y => ?_⟩⟩
        · rw [z] at e
          exact absurd (Heap.lt_size e) (Nat.not_lt.mpr dn)
        · rw [look_put, hmm y]
end
/-- what the text of such an __init__ shows by itself; Ok: of which arguments the text is made -/
structure ExSt (K : Frag) (params : Arguments) (scope : Scope) (qual : Str) (ex : Expr) (p0 p1 p2 p3 p4 : Pos) (gs : List Asg) (Ok : L2.Hp → List L2.V → Prop) : Prop where
  bind : ∀ (kV doc pm : Value) (an : Option Addr) (cdv ct : Value) (cc x : Addr) (us : List Value), us.length = gs.length → bindArgs (ksFn "__init__" qual params (sup ex p0 p1 p2 p3 p4 :: asgs gs) scope .none kV doc pm an cdv ct cc) ⟨.ref x :: us, []⟩ = pure ((("self" : Str) :: gs.map (·.1)).zip (.ref x :: us))
  nd : (("self" : Str) :: gs.map (·.1)).Nodup
  len : gs.length ≤ 100
  loc : ∀ y ∈ ("self" : Str) :: gs.map (·.1), scope.names.lookup y = some .local
  dbg : ∀ g ∈ gs, (g.1 == ("__debug__" : Str)) = false
  cell : ∀ y ∈ scope.names, y.2 ≠ .cell
  hp : ∃ ar : Arg, (params.posonlyargs ++ params.args).head? = some ar ∧ ar.arg = "self"
  ks : scope.names.lookup ("super" : Str) = some .globalImplicit
  kc : scope.names.lookup ("__class__" : Str) = some .free
  co : scope.isCoroutine = false
  gen : scope.isGenerator = false
  k : scope.kind = .function
  hE : ∀ (H0 : L2.Hp) (vs : List L2.V) (us : List Value), Ok H0 vs → L2.Vals vs us → vs.length = gs.length → ∀ (cda cc L x fI : Addr) (prog : Program) (w : World) (A' : Around) (h0 h : Heap) (g : Array GenState) (d : Drawn) (t : Nat) (os : OsState) (E' : Value → Shared → Prop) (Q : Value → Shared → Prop), K.In h → L2.HOk prog w H0 h0 → (∀ b o, h0.get? b = some o → h.get? b = some o) →
    h.Ns L (fun y => ((("self" : Str) :: gs.map (·.1)).zip (Value.ref x :: us)).reverse.lookup y) → (∀ v t', Q v ⟨h, g, d, t', os⟩) → wpAny (model prog w) A' (eval ex (ksEnv qual scope L fI (.ref cda) cc)) Q E' ⟨h, g, d, t, os⟩
  hin : ∀ (fI cda cc L : Addr), interactive (ksEnv qual scope L fI (.ref cda) cc) = false
  hev : ∀ (fI cda cc L : Addr), ∃ pl : Sem Bool, eval (.Call (.Attribute (.Call (.Name "super" p0) [] [] p1) "__init__" p2) [ex] [] p3) (ksEnv qual scope L fI (.ref cda) cc) = (do
      let ov ← attributeBase (.Call (.Name "super" p0) [] [] p1) "__init__" (ksEnv qual scope L fI (.ref cda) cc) (eval (.Call (.Name "super" p0) [] [] p1) (ksEnv qual scope L fI (.ref cda) cc))
      standAt p2.atName
      let (f, first) ← holding [ov] (getMethod ov "__init__" pl)
      callWith p3 f first (backTo p3 (starEach [ex] (ksEnv qual scope L fI (.ref cda) cc))) [])
  hsw : ∀ (fI cda cc L : Addr), swapsWith (.Call (.Attribute (.Call (.Name "super" p0) [] [] p1) "__init__" p2) [ex] [] p3) none p4.line (ksEnv qual scope L fI (.ref cda) cc) = pure false
  hst : ∀ env : Env, starEach [ex] env = [(false, eval ex env)]
  hsw2 : ∀ (fI cda cc L : Addr) (g : Asg), swapsWith (.Name g.1 g.2.2.2.1) (some (.Attribute (.Name "self" g.2.1) g.1 g.2.2.1)) g.2.2.2.2.line (ksEnv qual scope L fI (.ref cda) cc) = pure false
theorem zip_get {α : Type} : ∀ {ps : List Str} {us : List α} {i : Nat} {f : Str} {v : α}, ps.Nodup → ps[i]? = some f → us[i]? = some v → (ps.zip us).lookup f = some v
  | [], _, i, f, v, _, e, _ => by simp at e
  | _ :: _, [], i, f, v, _, _, e => by simp at e
  | p :: ps, u :: us, 0, f, v, _, e1, e2 => by
    simp at e1 e2
    subst e1 e2
    simp [List.lookup]
  | p :: ps, u :: us, i + 1, f, v, nd, e1, e2 => by
    rw [List.nodup_cons] at nd
    have e1' : ps[i]? = some f := by simpa using e1
    have e2' : us[i]? = some v := by simpa using e2
    rw [List.zip_cons_cons, look_put, if_neg (fun z => nd.1 (by rw [← z]; exact List.mem_of_getElem? e1'))]
    exact zip_get nd.2 e1' e2'
theorem zip_keys {α : Type} {ps : List Str} {us : List α} (hl : ps.length = us.length) : (ps.zip us).map (·.1) = ps := by
  rw [List.map_fst_zip]
  omega
section
variable {prog : Program} {w : World} {A : Around} {R : Result → Shared → Prop} {s : Shared} {K : Frag} {C fI : Addr} {params : Arguments} {scope : Scope} {qual : Str} {ex : Expr} {p0 p1 p2 p3 p4 : Pos} {gs : List Asg} {Ok : L2.Hp → List L2.V → Prop} {H0 : L2.Hp} {h00 : Heap} {mg mb : Str → Option Value}
theorem init_all (T : ExTxt prog K C fI params (sup ex p0 p1 p2 p3 p4 :: asgs gs) scope qual) (S : ExSt K params scope qual ex p0 p1 p2 p3 p4 gs Ok) (hno : ∀ g ∈ gs, findIn K (.ref C) g.1 = some none) {x t0 : Addr} {vs : List L2.V} {us : List Value} (X : K.In s.heap) (hlim : s.heap.NoLimit) (hx : s.heap.get? x = some (excO C t0)) (hnx : K.lookup x = none) (hroom : A.depth < recursionLimit)
    (hG : s.heap.Ns mainGlobals mg) (hg : mg "super" = none) (hB : s.heap.Ns builtinsNs mb) (hb : mb "super" = some (.type "super")) (hH : L2.HOk prog w H0 h00) (kp0 : ∀ b o, h00.get? b = some o → s.heap.get? b = some o) (ok : Ok H0 vs) (rv : L2.Vals vs us) (hl : vs.length = gs.length)
    (hq : ∀ h' tk, StX s.heap h' x C ((gs.map (·.1)).zip us).reverse → R (.ok (.ret .none)) { s with heap := h', toks := tk }) : codeAny (model prog w) A (.call (.ref fI) ⟨.ref x :: us, []⟩) R s := by
  have hlu : us.length = gs.length := by rw [← rv.length]; exact hl
  have keys : (((("self" : Str) :: gs.map (·.1)).zip (Value.ref x :: us)).map (·.1)) = ("self" : Str) :: gs.map (·.1) := zip_keys (by simp [hlu])
  have hrev : ∀ y, ((("self" : Str) :: gs.map (·.1)).zip (Value.ref x :: us)).reverse.lookup y = ((("self" : Str) :: gs.map (·.1)).zip (Value.ref x :: us)).lookup y := fun y => look_rev (by rw [keys]; exact S.nd)
  have hself : ((("self" : Str) :: gs.map (·.1)).zip (Value.ref x :: us)).reverse.lookup ("self" : Str) = some (.ref x) := by
    rw [hrev]
    exact zip_get S.nd (i := 0) rfl rfl
  refine enter T (mg := mg) (mb := mb) (binds := (("self" : Str) :: gs.map (·.1)).zip (.ref x :: us)) X hlim hx hnx hroom hG hg hB hb (fun kV doc pm an cdv ct cc => S.bind kV doc pm an cdv ct cc x us hlu) hself (fun y hy => S.loc y.1 (List.of_mem_zip hy).1) S.cell S.hp S.ks S.kc (S.loc _ List.mem_cons_self) S.co S.gen S.k
    (fun cda cc L A' h g d t os E' Q hk hn hq' => S.hE H0 vs us ok rv hl cda cc L x fI prog w A' h00 h g d t os E' Q (X.keeps hk) hH (fun b o e => hk b o (kp0 b o e)) hn hq') (S.hin fI) (S.hev fI) (S.hsw fI) S.hst fun cda cc h' tk t1 k hx' hns => ?_
  obtain ⟨nm, q, N, bs, bm, sn, sub, ab, col, dd, k0, k1, k2, k3, k5, hC, hbm, hal⟩ := T.cls
  have hcl : clsIn K C = some { name := nm, bases := bs, mro := .ref C :: bm, ns := N, qualname := q, hasDict := true, slotNames := sn, subclasses := sub, abstract := ab, collection := col, hasDel := false } := by unfold clsIn; rw [hC] <;> rfl
  have X' : K.In h' := kept_but X hnx k
  have hsz : s.heap.objs.size < h'.objs.size := by
    obtain ⟨o, es, ep, eo, _⟩ := hns
    exact Heap.lt_size eo
  obtain ⟨hp0, g, d, t, os⟩ := s
  refine stores (C := C) (x := x) (L := hp0.objs.size) (h0 := h') (m := fun y => ((("self" : Str) :: gs.map (·.1)).zip (Value.ref x :: us)).reverse.lookup y) X' hnx (Nat.ne_of_gt (Heap.lt_size hx)) hsz hcl (show refsVE (.ref C :: bm) = true from hbm) rfl T.sa S.k hself (S.loc _ List.mem_cons_self) (S.hsw2 fI cda cc _) hns gs us [] h' tk
    (fun b hb' => ⟨S.dbg b hb', S.loc b.1 (List.mem_cons_of_mem _ (List.mem_map_of_mem hb')), hno b hb'⟩) hlu.symm (fun i f v e1 e2 => by
      show List.lookup f _ = _
      rw [hrev]
      exact zip_get S.nd (i := i + 1) (by simpa using e1) (by simpa using e2)) (by have := S.len; simp only [List.length_nil]; omega) ⟨fun b o hb' e => e, Nat.le_refl _, t1, none, hx', .inl ⟨rfl, rfl⟩⟩ fun h2 t2 S2 => ?_
  rw [List.append_nil] at S2
  refine hq h2 t2 ⟨fun b o hb' e => S2.keep b o hb' (k b o hb' e), Nat.le_trans (Nat.le_of_lt hsz) S2.big, ?_⟩
  obtain ⟨t3, dv, e1, e2⟩ := S2.at_
  refine ⟨t3, dv, e1, ?_⟩
  rcases e2 with e2 | ⟨dx, m, q1, q2, q3, q4, q5⟩
  · exact .inl e2
  · exact .inr ⟨dx, m, q1, Nat.le_trans (Nat.le_of_lt hsz) q2, q3, q4, q5⟩
end
end ExS
end PySem

/-! Pk19: own errors made and raised. -/
namespace PySem
namespace ExS
open PySem.W PySem.Calls PyProof.Rows PySem.HandSPX
/-- a made error at e -/
structure MadeX (h h' : Heap) (e C : Addr) (fs : List (Str × Value)) : Prop where
  keep : ∀ b o, h.get? b = some o → h'.get? b = some o
  new : h.objs.size ≤ e
  at_ : ∃ (t1 : Addr) (dv : Option Addr), h'.get? e = some { cls := .ref C, dict := dv, data := .fields #[.ref t1, .none, .none, .none, .bool false, .none] } ∧
    ((fs = [] ∧ dv = none) ∨ ∃ (dx : Addr) (m : Str → Option Value), dv = some dx ∧ h.objs.size ≤ dx ∧ dx ≠ e ∧ h'.Ns1 dx m ∧ ∀ y, m y = fs.lookup y)
section
variable {prog : Program} {w : World} {A : Around} {R : Result → Shared → Prop} {s : Shared} {K : Frag} {C fI : Addr} {params : Arguments} {scope : Scope} {qual : Str} {ex : Expr} {p0 p1 p2 p3 p4 : Pos} {gs : List Asg} {Ok : L2.Hp → List L2.V → Prop} {H0 : L2.Hp} {mg mb : Str → Option Value}
theorem small {l : List Value} {n : Nat} (e : l.length = n) (h : n ≤ 100) : l.length ≤ sizeLine := by
  have : (100 : Nat) ≤ sizeLine := by decide
  omega
theorem made (T : ExTxt prog K C fI params (sup ex p0 p1 p2 p3 p4 :: asgs gs) scope qual) (S : ExSt K params scope qual ex p0 p1 p2 p3 p4 gs Ok) (hno : ∀ g ∈ gs, findIn K (.ref C) g.1 = some none) {vs : List L2.V} {us : List Value} (X : K.In s.heap) (hlim : s.heap.NoLimit) (hroom : A.depth + 1 < recursionLimit)
    (hG : s.heap.Ns mainGlobals mg) (hg : mg "super" = none) (hB : s.heap.Ns builtinsNs mb) (hb : mb "super" = some (.type "super")) (hH : L2.HOk prog w H0 s.heap) (ok : Ok H0 vs) (rv : L2.Vals vs us) (hl : vs.length = gs.length)
    (hq : ∀ h' tk e, MadeX s.heap h' e C ((gs.map (·.1)).zip us).reverse → R (.ok (.ret (.ref e))) { s with heap := h', toks := tk }) : codeAny (model prog w) A (.call (.ref C) ⟨us, []⟩) R s := by
  have hlu : us.length = gs.length := by rw [← rv.length]; exact hl
  obtain ⟨nm, q, N, bs, bm, sn, sub, ab, col, dd, k0, k1, k2, k3, k5, hC, hbm, hal⟩ := T.cls
  obtain ⟨hp, g, dr, tk, os⟩ := s
  have k : ∀ b o, hp.get? b = some o → ((hp.push (kdv_tup us)).push (excO C hp.objs.size)).get? b = some o := fun b o e => Heap.get?_push_of_some _ (Heap.get?_push_of_some _ e)
  have hget : ((hp.push (kdv_tup us)).push (excO C hp.objs.size)).get? (hp.objs.size + 1) = some (excO C hp.objs.size) := by heap_get
  have hnx : K.lookup (hp.objs.size + 1) = none := in_none X (Nat.le_succ _)
  refine call_own F.excBase_ValueError (fun X => refsVE_contains X bm hbm) (X _ _ hC) (looks_findIn X T.iC) (fun self => bind_fn X self T.tC) (small hlu S.len) ?_
  refine init_all (s := ⟨(hp.push (kdv_tup us)).push (excO C hp.objs.size), g, dr, tk, os⟩) T S hno (X.keeps k) (hlim.keeps k) hget hnx ?_ (hG.keeps k) hg (hB.keeps k) hb hH k ok rv hl fun h' tk' S' => ?_
  · show A.depth + 1 < recursionLimit
    exact hroom
  · have old : ∀ b o, hp.get? b = some o → h'.get? b = some o := fun b o e => S'.keep b o (Nat.ne_of_lt (Nat.lt_succ_of_lt (Heap.lt_size e))) (k b o e)
    refine ⟨rfl, hq h' tk' (hp.objs.size + 1) ⟨old, Nat.le_succ _, ?_⟩⟩
    obtain ⟨t1, dv, e1, e2⟩ := S'.at_
    refine ⟨t1, dv, e1, ?_⟩
    rcases e2 with ⟨e2, e3⟩ | ⟨dx, m, q1, q2, q3, q4, q5⟩
    · exact .inl ⟨e2, e3⟩
    · refine .inr ⟨dx, m, q1, ?_, q3, q4, q5⟩
      have z : hp.objs.size + 1 + 1 ≤ dx := by
        first
          | (simpa only [Heap.size_push] using q2)
          | exact q2
          | (have q := q2; rw [Heap.size_push, Heap.size_push] at q; exact q)
      exact Nat.le_trans (Nat.le_trans (Nat.le_succ _) (Nat.le_succ _)) z
end
end ExS
end PySem
namespace Pk
open PySem PySem.Spec PyProof.Rows L2
open PySem.ExS (ExTxt ExSt sup asgs Asg)
/-- what is known of an own error class c; Ok: the arguments it is made with -/
structure ExC (P : Program) (K : PySem.W.Frag) (T : Tb) (c : Nat) (Ok : Hp → List V → Prop) : Prop where
  tx : ∃ (fI : Addr) (params : Arguments) (scope : Scope) (qual : Str) (ex : Expr) (p0 p1 p2 p3 p4 : Pos) (gs : List Asg),
    ExTxt P K (T.cad c) fI params (sup ex p0 p1 p2 p3 p4 :: asgs gs) scope qual ∧ ExSt K params scope qual ex p0 p1 p2 p3 p4 gs Ok ∧ (∀ g ∈ gs, PySem.W.findIn K (.ref (T.cad c)) g.1 = some none) ∧ T.fld c = gs.map (·.1) ∧ (T.fld c).Nodup
  kC : PySem.W.keepIn K (.ref (T.cad c)) = true
  exC : PySem.W.subIn K (.ref (T.cad c)) (.type "BaseException") = some true
  tyC : PySem.W.typeIn K (.ref (T.cad c)) = some (.type "type")
section
variable {X : Cx} {T : Tb} {W : WX} {k c : Nat} {x : Str} {a : Expr} {es : List Expr} {ma : M (List D)} {p pos pos2 : Pos} {Ok : Hp → List V → Prop}
theorem zipLookO {f : Str} : ∀ {ns : List Str} {vs : List V} {us : List Value}, Vals vs us → RelO ((ns.zip vs).lookup f) ((ns.zip us).lookup f)
  | [], _, _, _ => trivial
  | _ :: _, _, _, .nil => trivial
  | n :: ns, v :: vs, u :: us, .cons rv r => by
    rw [List.zip_cons_cons, List.zip_cons_cons, PySem.ExS.look_put, PySem.ExS.look_put]
    by_cases e : f = n
    · rw [if_pos e, if_pos e]
      exact rv
    · rw [if_neg e, if_neg e]
      exact zipLookO r
def tMkX (T : Tb) (c : Nat) (Ok : Hp → List V → Prop) (ta : TA) : L2.St → Hp → XK → Prop := fun σ H Q => ta σ H fun vs H1 => Ok H1 vs ∧ vs.length = (T.fld c).length ∧
  (T.fld c = [] → Q (.ref (T.cad c)) none H1) ∧ (∀ d, H1 d = none → Q (.ref (T.cad c)) (some d) (upd H1 d (.xd ((T.fld c).zip vs))))
theorem mk_end {pins : List (Addr × Obj)} {σ : L2.St} {H1 : Hp} {Q : XK} {s1 : Shared} {vs : List V} {us : List Value} (E : ExC X.prog X.K T c Ok) (hr : Room k X.A) (I1 : Inv X pins σ H1 s1) (hsg : X.mg "super" = none) (rv : Vals vs us) (ok : Ok H1 vs) (hl : vs.length = (T.fld c).length)
    (q1 : T.fld c = [] → Q (.ref (T.cad c)) none H1) (q2 : ∀ d, H1 d = none → Q (.ref (T.cad c)) (some d) (upd H1 d (.xd ((T.fld c).zip vs)))) :
    wpAny (model X.prog X.w) X.A (call (.ref (T.cad c)) us) (MkP X pins σ Q) X.xe s1 := by
  obtain ⟨fI, params, scope, qual, ex, p0, p1, p2, p3, p4, gs, TX, S, hno, hf, nd⟩ := E.tx
  have hl' : vs.length = gs.length := by rw [hl, hf, List.length_map]
  have hlu : us.length = gs.length := by rw [← rv.length]; exact hl'
  have hlim := I1.nolimit
  have X1 := I1.kIn
  obtain ⟨mb, hB, hmb⟩ := I1.mod.blt
  have hB' : s1.heap.Ns builtinsNs mb := hB.keeps I1.bk
  have hG' : s1.heap.Ns mainGlobals X.mg := I1.mod.glob.keeps I1.bk
  have hsu : mb "super" = some (.type "super") := (hmb "super" (by decide)).trans (by first | rfl | decide | with_unfolding_all rfl)
  have hok := I1.hok
  obtain ⟨hp, g, dr, tk, os⟩ := s1
  refine wpAny_call (PySem.ExS.made TX S hno X1 hlim (by have := hr.dp; omega) hG' hsg hB' hsu hok ok rv hl' fun h' tk' e M => ?_)
  show MkP X pins σ Q (.ref e) ⟨h', g, dr, tk', os⟩
  obtain ⟨t1, dv, he, hd⟩ := M.at_
  obtain ⟨G', g1, g2⟩ := restrict h' fun b => decide (b ≠ e)
  have gk : ∀ b, b ≠ e → G'.get? b = h'.get? b := fun b hb => g1 b (decide_eq_true hb)
  have ge : G'.get? e = none := g2 e (by simp)
  have old : ∀ b o, hp.get? b = some o → G'.get? b = some o := fun b o q => (gk b (Nat.ne_of_lt (Nat.lt_of_lt_of_le (Heap.lt_size q) M.new))).trans (M.keep b o q)
  have back : ∀ b o, G'.get? b = some o → h'.get? b = some o := fun b o q => by
    by_cases hb : b = e
    · rw [hb, ge] at q; cases q
    · exact (gk b hb).symm.trans q
  have kz : (gs.map (·.1)).zip us = [] ↔ gs = [] := by
    cases gs with
    | nil => simp
    | cons a l => cases us with
      | nil => cases hlu
      | cons u l => simp
  rcases hd with ⟨hz, rfl⟩ | ⟨dx, m, rfl, dn, dne, hns, hm⟩
  · have hg0 : gs = [] := kz.mp (by simpa using hz)
    have hf0 : T.fld c = [] := by rw [hf, hg0]; rfl
    exact ⟨e, _, _, ⟨G', g, dr, tk', os⟩, H1, _, none, rfl, I1.kept (t' := tk') old, back, ge, he, ⟨rfl, rfl⟩, rfl, rfl, I1.hok.fresh M.new, rfl, I1.bare, raises_own E.exC E.tyC, q1 hf0⟩
  · have ob : ObjOk X.prog X.w (upd H1 dx (.xd ((T.fld c).zip vs))) G' dx (.xd ((T.fld c).zip vs)) :=
      ⟨m, hns.at (fun o q => (gk dx dne).trans q), fun f => by
        rw [hm f, ← hf, PySem.ExS.look_rev (by rw [PySem.ExS.zip_keys (by rw [hf, List.length_map, hlu])]; exact nd)]
        exact zipLookO rv⟩
    have J : Inv X pins σ (upd H1 dx (.xd ((T.fld c).zip vs))) ⟨G', g, dr, tk', os⟩ := I1.laid (t' := tk') old dn ob
    exact ⟨e, _, _, ⟨G', g, dr, tk', os⟩, _, _, some dx, rfl, J, back, ge, he, ⟨rfl, rfl⟩, rfl, rfl, by rw [upd_ne (Ne.symm dne)]; exact I1.hok.fresh M.new, rfl, I1.bare, raises_own E.exC E.tyC, q2 dx (I1.hok.fresh dn)⟩
end
end Pk

/-! Pk20: own errors: the facts read; the texts; raise as a statement of a mirror. -/
namespace PySem
namespace ExS
open PySem.W PySem.Calls PyProof.Rows PySem.HandSPX
theorem clsX_ok {K : Frag} {C : Addr} (h : Pk.clsX K C = true) : ∃ nm q N bs bm sn sub ab col dd k0 k1 k2 k3 k5, K.lookup C = some (excClassObj nm q C N bs bm true sn sub ab col dd k0 k1 k2 k3 k5 "ValueError.__new__") ∧ refsVE bm = true ∧ alongIn K "__init__" bm = some (some (.builtin "ValueError.__init__")) := by
  unfold Pk.clsX at h
  split at h
  · rename_i dd cd sl ho
    split at h
    · rename_i C' bm k0 k1 k2 k3 n k5 hm hs
      obtain ⟨c1, h⟩ := He.ba h
      obtain ⟨c2, h⟩ := He.ba h
      obtain ⟨c3, h⟩ := He.ba h
      obtain ⟨c4, h⟩ := He.ba h
      obtain ⟨c5, c6⟩ := He.ba h
      obtain ⟨nm, bs, mro, ns, qn, hd, sn, sub, ab, col, del⟩ := cd
      have e1 : C' = C := beq_iff_eq.mp c1
      have e2 : n = "ValueError.__new__" := beq_iff_eq.mp c2
      have e3 : del = false := by simpa using c3
      have e4 : hd = true := c4
      have em : mro = .ref C' :: bm := hm
      subst e1 e2 e3 e4 em
      have hsl : sl = #[k0, k1, k2, k3, some (.builtin "ValueError.__new__"), k5] := by
        obtain ⟨l⟩ := sl
        have z : l = [k0, k1, k2, k3, some (.builtin "ValueError.__new__"), k5] := hs
        rw [z]
      subst hsl
      exact ⟨nm, qn, ns, bs, bm, sn, sub, ab, col, dd, k0, k1, k2, k3, k5, ho, c5, He.eqO_ok c6⟩
    · cases h
  · cases h
theorem iniX_ok {K : Frag} {C f : Addr} {file name qual : Str} {params : Arguments} {body : List Stmt} {scope : Scope} (h : Pk.iniX K C f file = true) (e : Pk.fnWa K f = some (name, qual, params, FuncBody.stmts body, scope, mainGlobals, [(("__class__" : Str), (0 : Addr))], builtinsNs)) :
    ∃ (oc : Value) (od : Option Addr) (kV doc pm : Value) (an : Option Addr) (cda : Addr) (ct : Value) (osl : Array (Option Value)) (cc : Addr),
    K.lookup f = some ⟨oc, od, .func (ksFn name qual params body scope .none kV doc pm an (.ref cda) ct cc), osl⟩ ∧ codeIn K (.ref cda) qual = true ∧
    (∃ (ccl : Value) (cdd : Option Addr) (vs : Array Value) (ccs : Array (Option Value)) (fi : Str) (tf : Tok), K.lookup cda = some ⟨ccl, cdd, .fields vs, ccs⟩ ∧ vs[2]? = some (.str fi tf) ∧ fi = file) ∧
    ∃ (cl : Value) (cld : Option Addr) (csl : Array (Option Value)), K.lookup cc = some ⟨cl, cld, .cell (some (.ref C)), csl⟩ := by
  unfold Pk.iniX at h
  unfold Pk.fnWa at e
  cases q : K.lookup f with
  | none => rw [q] at h; cases h
  | some o =>
    obtain ⟨oc, od, dt, osl⟩ := o
    rw [q] at h e
    cases dt with
    | func fd =>
      obtain ⟨n1, n2, n3, n4, n5, n6, n7, n8, n9, n10, n11, n12, n13, n14, n15⟩ := fd
      have e2 : (some (n1, n2, n3, n4, n5, n6, n7.map (fun q => (q.1, 0)), n15) : He.FnW) = some (name, qual, params, FuncBody.stmts body, scope, mainGlobals, [(("__class__" : Str), (0 : Addr))], builtinsNs) := e
      simp only [Option.some.injEq, Prod.mk.injEq] at e2
      obtain ⟨h1, h2, h3, h4, h5, h6, h7, h8⟩ := e2
      subst h1 h2 h3 h4 h5 h6 h8
      dsimp only at h
      split at h
      · rename_i nm cc cda
        obtain ⟨c1, h⟩ := He.ba h
        obtain ⟨c2, c3⟩ := He.ba h
        have en : nm = "__class__" := by
          simp only [List.map_cons, List.map_nil, List.cons.injEq, Prod.mk.injEq, and_true] at h7
          exact h7
        subst en
        refine ⟨oc, od, n9, n10, n11, n12, cda, n14, osl, cc, rfl, c2, ?_, ?_⟩
        · split at c3
          · rename_i ccl cdd vs ccs e3
            split at c3
            · rename_i fi tf e4
              exact ⟨ccl, cdd, vs, ccs, fi, tf, e3, e4, of_decide_eq_true c3⟩
            · cases c3
          · cases c3
        · split at c1
          · rename_i cl cld a csl e3
            have ea : a = C := of_decide_eq_true c1
            subst ea
            exact ⟨cl, cld, csl, e3⟩
          · cases c1
      · cases h
    | _ => cases h
end ExS
end PySem
namespace Pk
open PySem PySem.Spec PyProof.Rows L2
open PySem.ExS (ExTxt ExSt sup asgs Asg)
theorem exC_mk {P : Program} {K : PySem.W.Frag} {T : Tb} {c : Nat} {x file : Str} {fs : List Str} {d : PD} {ex : Expr} {p0 p1 p2 p3 p4 : Pos} {gs : List Asg} {Ok : Hp → List V → Prop} {cn : Nat → Str} (own : (Fx.own x file fs).ok cn K = true) (hx : T.cad c = He.ga K x) (ha : d.adr K = He.ma K (He.ga K x) "__init__")
    (wr : fnWa K (d.adr K) = d.val) (hc : d.clo = true) (hn : d.name = "__init__") (hb : d.body = sup ex p0 p1 p2 p3 p4 :: asgs gs) (S : ExSt K d.params d.scope d.qual ex p0 p1 p2 p3 p4 gs Ok) (hfs : fs = gs.map (·.1)) (hT : T.fld c = fs) (nd : fs.Nodup) (hfile : ((P.main.file : Str) == file) = true)
    (htop : (P.main.scope.names.lookup ("super" : Str)).isSome = false) : ExC P K T c Ok := by
  obtain ⟨o1, q⟩ := He.ba (show ownX K (He.ga K x) (He.ma K (He.ga K x) "__init__") file fs = true from own)
  obtain ⟨o2, q⟩ := He.ba q
  obtain ⟨o3, q⟩ := He.ba q
  obtain ⟨o4, q⟩ := He.ba q
  obtain ⟨o5, q⟩ := He.ba q
  obtain ⟨o6, q⟩ := He.ba q
  obtain ⟨o7, q⟩ := He.ba q
  obtain ⟨o8, q⟩ := He.ba q
  obtain ⟨o9, q⟩ := He.ba q
  obtain ⟨o10, q⟩ := He.ba q
  obtain ⟨o11, q⟩ := He.ba q
  obtain ⟨o12, q⟩ := He.ba q
  have wr2 : fnWa K (He.ma K (He.ga K x) "__init__") = some (("__init__" : Str), d.qual, d.params, FuncBody.stmts (sup ex p0 p1 p2 p3 p4 :: asgs gs), d.scope, mainGlobals, [(("__class__" : Str), (0 : Addr))], builtinsNs) := by
    rw [← ha, wr]
    unfold PD.val
    rw [hc, hn, hb]
    rfl
  obtain ⟨oc, od, kV, doc, pm, an, cda, ct, osl, cc, e1, e2, ⟨ccl, cdd, vs, ccs, fi, tf, e3, e4, e5⟩, e6⟩ := PySem.ExS.iniX_ok o8 wr2
  subst e5
  rw [← hx] at o1 o2 o3 o4 o5 o6 o9 o10 o11 o12 e1 e6
  refine ⟨⟨_, d.params, d.scope, d.qual, ex, p0, p1, p2, p3, p4, gs, ⟨PySem.ExS.clsX_ok o1, He.eqO_ok o2, He.eqO_ok o3, of_decide_eq_true o4, of_decide_eq_true o5, of_decide_eq_true o6, He.eqO_ok o7, htop, ⟨oc, od, kV, doc, pm, an, cda, ct, osl, cc, e1, e2, ⟨ccl, cdd, vs, ccs, fi, tf, e3, e4, hfile⟩, e6⟩⟩, S, ?_, by rw [hT, hfs], by rw [hT]; exact nd⟩, o10, of_decide_eq_true o11, of_decide_eq_true o12⟩
  intro g hg
  have z := List.all_eq_true.mp o9 g.1 (by rw [hfs]; exact List.mem_map_of_mem hg)
  exact He.eqO_ok z
/-! ### the texts -/
section
variable {params : Arguments} {scope : Scope} {qual : Str}
theorem hE_con {z : Str} {j : Nat} {pos : Pos} {env : Env} {prog : Program} {w : World} {A' : Around} {h : Heap} {g : Array GenState} {d : Drawn} {t : Nat} {os : OsState} {E' : Value → Shared → Prop} {Q : Value → Shared → Prop} (hq : ∀ v t', Q v ⟨h, g, d, t', os⟩) :
    wpAny (model prog w) A' (eval (.Constant (.str z) j pos) env) Q E' ⟨h, g, d, t, os⟩ := wpAny_Constant_str (hq _ _)
end
section
variable {X : Cx} {T : Tb} {W : WX} {k c n : Nat} {x : Str} {a : Expr} {es : List Expr} {ma : M (List D)} {p pos pos2 : Pos} {Ok : Hp → List V → Prop} {chk : List D → Bool}
/-- raise X(..) -/
def mRaise (c n : Nat) (chk : List D → Bool) (ma : M (List D)) : M Fl := ma.bind fun ds fr h => if ds.length = n ∧ chk ds = true then .exc ⟨c, ds⟩ fr h else .err
theorem raise_end {B : Bs} {w1 : Wd} {σ : L2.St} {H1 : Hp} {fr1 : Fr} {h1 : Hh} {D : Ends} {vs : List V} {ds : List Pk.D} (hn : (T.fld c).length = n) (hok : chk ds = true → Ok H1 vs) (r1 : Rel X.K T B w1 σ H1 fr1 h1) (rs : RelDs X.K T w1 vs ds)
    (p1 : PostS X.K T B W w1 (if ds.length = n ∧ chk ds = true then .exc ⟨c, ds⟩ fr1 h1 else .err) D) : Ok H1 vs ∧ vs.length = (T.fld c).length ∧ (T.fld c = [] → W (.ref (T.cad c)) none σ H1) ∧ (∀ d, H1 d = none → W (.ref (T.cad c)) (some d) σ (upd H1 d (.xd ((T.fld c).zip vs)))) := by
  by_cases hl : ds.length = n ∧ chk ds = true
  · rw [if_pos hl] at p1
    have e0 : vs.length = (T.fld c).length := rs.length.trans (hl.1.trans hn.symm)
    refine ⟨hok hl.2, e0, fun hf => p1 w1 σ H1 _ _ (Wd.le_refl _) r1 ⟨rfl, .inl ⟨?_, rfl⟩⟩, fun d nd => p1 (w1.add d (.xd ((T.fld c).zip vs))) σ _ _ _ (Wd.le_add (r1.nP nd).1) (r1.laid nd) ⟨rfl, .inr ⟨d, vs, rfl, by show upd w1.F d _ d = _; rw [upd_same], rs.mono (Wd.le_add (r1.nP nd).1)⟩⟩⟩
    rw [hf] at hn
    have z : ds.length = 0 := hl.1.trans hn.symm
    exact List.length_eq_zero_iff.mp z
  · rw [if_neg hl] at p1
    exact p1.elim
theorem pmkX0 (E : ExC X.prog X.K T c Ok) (hr : Room k X.A) (hsg : X.mg "super" = none) (hm : X.mg x = some (.ref (T.cad c))) (hg : Gl X x := by rfl) (hdb : (x == ("__debug__" : Str)) = false := by decide) :
    PMk X (.Call (.Name x p) [] [] pos) (tMkX T c Ok tNil) := by
  intro pins s σ H Q I h
  refine wpAny_Call_Name_kw (ld_glob I hg hm ?_ hdb)
  obtain ⟨ok, hl, q1, q2⟩ := h
  exact PySem.W.callWith_K0 I.kIn E.kC (mk_end E hr I hsg .nil ok hl q1 q2)
theorem s_raise0 (C : Cq X T W k) (E : ExC X.prog X.K T c Ok) (hn : (T.fld c).length = 0) (ok : ∀ H, Ok H []) (hsg : X.mg "super" = none) (hm : X.mg x = some (.ref (T.cad c))) (hg : Gl X x := by rfl) (hdb : (x == ("__debug__" : Str)) = false := by decide) :
    SimS X T W (.Raise (some (.Call (.Name x p) [] [] pos)) none pos2) (fun fr h => .exc ⟨c, []⟩ fr h) := fun B w σ H fr h D R pp =>
  ps_ws (ps_raise C.calm C.takes (pmkX0 E C.room hsg hm hg hdb)) (raise_end (Ok := Ok) (chk := fun _ => true) (vs := []) (ds := []) (n := 0) hn (fun _ => ok _) R .nil pp)
end
end Pk

/-! Pk21: except suites, try. -/
namespace Pk
open PySem PySem.Spec L2
/-! ### readings under what is known of the caught error -/
def SimQ {α β : Type} (P : Wd → L2.St → Prop) (run : L2.St → Hp → (β → Hp → Prop) → Prop) (K : PySem.W.Frag) (T : Tb) (W : WX) (VR : VRel β α) (m : M α) : Prop :=
  ∀ (B : Bs) (w : Wd) (σ : L2.St) (H : Hp) (fr : Fr) (h : Hh) (Q : β → Hp → Prop), P w σ → Rel K T B w σ H fr h → Post K T B W (VR K T B σ) w σ (m fr h) Q → run σ H Q
def MonP (P : Wd → L2.St → Prop) : Prop := ∀ w w' σ, w.le w' → P w σ → P w' σ
abbrev SqE (P : Wd → L2.St → Prop) (X : Cx) (T : Tb) (W : WX) (e : Expr) (m : M D) : Prop := SimQ P (WE X e) X.K T W vE m
abbrev SqV (P : Wd → L2.St → Prop) (X : Cx) (T : Tb) (W : WX) (e : Expr) (m : M D) : Prop := SimQ P (WE X e) X.K T W vV m
abbrev SqT_ (P : Wd → L2.St → Prop) (X : Cx) (T : Tb) (W : WX) (e : Expr) (m : M Bool) : Prop := SimQ P (WT X e) X.K T W vB m
abbrev SqW (P : Wd → L2.St → Prop) (X : Cx) (T : Tb) (W : WX) (e : Expr) (m : M Bool) : Prop := SimQ P (WW X e) X.K T W vB m
abbrev SqA (P : Wd → L2.St → Prop) (X : Cx) (T : Tb) (W : WX) (es : List Expr) (m : M (List D)) : Prop := SimQ P (WA X es) X.K T W vA m
section
variable {P : Wd → L2.St → Prop} {X : Cx} {T : Tb} {W : WX} {a b c e : Expr} {es rest : List Expr} {m ma mb : M D} {n ta tb tc : M Bool} {ms : List (M D)} {pos : Pos}
end
/-! ### statements -/
def PostQ (P : Wd → L2.St → Prop) (K : PySem.W.Frag) (T : Tb) (B : Bs) (W : WX) (w : Wd) (r : R Fl) (D : Ends) : Prop :=
  match r with
  | .ok .nx fr h => ∀ w' σ' H', w.le w' → P w' σ' → Rel K T B w' σ' H' fr h → D.nx σ' H'
  | r => PostS K T B W w r D
def SqS (P : Wd → L2.St → Prop) (X : Cx) (T : Tb) (W : WX) (st : Stmt) (m : M Fl) : Prop := ∀ (B : Bs) (w : Wd) (σ : L2.St) (H : Hp) (fr : Fr) (h : Hh) (D : Ends), P w σ → Rel X.K T B w σ H fr h → PostQ P X.K T B W w (m fr h) D → WS X st D σ H
def SqSs (P : Wd → L2.St → Prop) (X : Cx) (T : Tb) (W : WX) (sts : List Stmt) (m : M Fl) : Prop := ∀ (B : Bs) (w : Wd) (σ : L2.St) (H : Hp) (fr : Fr) (h : Hh) (D : Ends), P w σ → Rel X.K T B w σ H fr h → PostQ P X.K T B W w (m fr h) D → WSs X sts D σ H
section
variable {P : Wd → L2.St → Prop} {K : PySem.W.Frag} {T : Tb} {B : Bs} {W : WX} {w w' : Wd} {σ : L2.St} {H : Hp}
theorem PostQ.of {r : R Fl} {D : Ends} (p : PostS K T B W w r D) : PostQ P K T B W w r D := by
  cases r with
  | ok f fr h =>
    cases f with
    | nx => exact fun w' σ' H' l _ r => p w' σ' H' l r
    | _ => exact p
  | exc e fr h => exact p
  | err => exact p
theorem PostQ.le {r : R Fl} {D : Ends} (x : w.le w') (p : PostQ P K T B W w r D) : PostQ P K T B W w' r D := by
  cases r with
  | ok f fr h =>
    cases f with
    | nx => exact fun w2 σ2 H2 y => p w2 σ2 H2 (Wd.le_trans x y)
    | brk => exact PostS.le x (show PostS K T B W w (.ok .brk fr h) D from p)
    | ct => exact PostS.le x (show PostS K T B W w (.ok .ct fr h) D from p)
    | rt d => exact PostS.le x (show PostS K T B W w (.ok (.rt d) fr h) D from p)
  | exc e fr h => exact PostS.le (D := D) (r := .exc e fr h) x p
  | err => exact p
theorem PostQ.bind {α β : Type} {VR : Wd → Hp → Fr → β → α → Prop} {m : M α} {f : α → M Fl} {fr : Fr} {h : Hh} {D : Ends} {Q : β → Hp → Prop} (p : PostQ P K T B W w (m.bind f fr h) D)
    (k : ∀ d fr1 h1 w1 H1 v, m fr h = .ok d fr1 h1 → w.le w1 → Rel K T B w1 σ H1 fr1 h1 → VR w1 H1 fr1 v d → PostQ P K T B W w1 (f d fr1 h1) D → Q v H1) : Post K T B W VR w σ (m fr h) Q := by
  cases e : m fr h with
  | ok d fr1 h1 =>
    rw [M.bind_ok e] at p
    exact fun w1 H1 v x r z => k d fr1 h1 w1 H1 v e x r z (p.le x)
  | exc y fr1 h1 =>
    rw [M.bind_exc e] at p
    exact fun w1 H1 c dd x r z => p w1 σ H1 c dd x r z
  | err =>
    rw [M.bind_err e] at p
    exact p.elim
end
section
variable {P : Wd → L2.St → Prop} {X : Cx} {T : Tb} {W : WX} {k : Nat} {pos pos' p2 : Pos} {e a b c : Expr} {st : Stmt} {sts as bs : List Stmt} {m : M D} {s n : M Fl} {t : M Bool}
end
/-! ### the caught error: slot i holds it, at a -/
def PX (K : PySem.W.Frag) (T : Tb) (i : Nat) (a : Addr) (x : Exn) (cls : Value) (dd : Option Addr) : Wd → L2.St → Prop := fun w σ => σ[i]? = some (some (.ref a)) ∧ ExcR K T w x cls dd
theorem ExcR.mono {K : PySem.W.Frag} {T : Tb} {w w' : Wd} {x : Exn} {cls : Value} {dd : Option Addr} (l : w.le w') (h : ExcR K T w x cls dd) : ExcR K T w' x cls dd :=
  ⟨h.1, h.2.imp id fun ⟨d, vs, e1, e2, e3⟩ => ⟨d, vs, e1, l.1 _ _ e2, e3.mono l⟩⟩
section
variable {K : PySem.W.Frag} {T : Tb} {i j : Nat} {a : Addr} {x : Exn} {cls : Value} {dd : Option Addr}
theorem px_set (h : j ≠ i := by decide) : ∀ w σ v, PX K T i a x cls dd w σ → PX K T i a x cls dd w (σ.set j v) := fun w σ v h' => ⟨by rw [List.getElem?_set_ne h]; exact h'.1, h'.2⟩
end
/-- a suite's standing: slot i of X's def holds the caught error -/
structure Su (X : Cx) (T : Tb) (i : Nat) (a : Addr) (oe : Obj) (cls : Value) (dd : Option Addr) (pn : List (Addr × Obj)) (y : Exn) : Prop where
  hz : Zc cls dd oe
  hf : ∃ vs, oe.data = .fields vs
theorem Su.st {X : Cx} {T : Tb} {i j : Nat} {a : Addr} {oe : Obj} {cls : Value} {dd : Option Addr} {pn : List (Addr × Obj)} {y : Exn} (_ : Su X T i a oe cls dd pn y) (h : j ≠ i := by decide) : ∀ w σ v, PX X.K T i a y cls dd w σ → PX X.K T i a y cls dd w (σ.set j v) := px_set h
/-- isinstance of error classes -/
structure ErrF (K : PySem.W.Frag) (T : Tb) (tab : Tg → Tg → Option Bool) : Prop where
  kit : ∀ t u b, tab t u = some b → PySem.W.kitOne K (t.v T) (u.v T) = some b
  exc : ∀ c u b, tab (.o c) u = some b → L2.ExcC K (T.cad c)
def bIsX (tab : Tg → Tg → Option Bool) (c : Nat) (d : D) : Option Bool := match d with
  | .tup l => match ctags l with
    | some (u :: us) => isiAny tab (.o c) (u :: us)
    | _ => none
  | d => match d.ctag with
    | some u => tab (.o c) u
    | none => none
def mIsX (tab : Tg → Tg → Option Bool) (c : Nat) (mb : M D) : M D := mb.bind fun d => M.opt ((bIsX tab c d).map .bl)
/-- the dict of a caught error, as the heap has it -/
def DkX (H : Hp) (dd : Option Addr) : Prop := dd = none ∨ ∃ d0 fs, dd = some d0 ∧ H d0 = some (.xd fs)
def rIsX (K : PySem.W.Frag) (C a : Addr) (dd : Option Addr) : List V → Hp → VK → Prop := fun xs H Q => ∃ (y : V) (b : Bool), xs = [.ref a, y] ∧ L2.ExcC K C ∧ DkX H dd ∧
  ((∃ cv, ClsV y cv ∧ PySem.W.kitOne K (.ref C) cv = some b) ∨ ∃ tp cs us, y = .ref tp ∧ L2.SqT K H tp cs ∧ Paired ClsV cs us ∧ PySem.W.kitAny K (.ref C) us = some b) ∧ Q (.bl b) H
section
variable {X : Cx} {T : Tb} {W : WX} {k i : Nat} {a : Addr} {oe : Obj} {cls : Value} {dd : Option Addr} {x : Exn} {pn : List (Addr × Obj)} {tab : Tg → Tg → Option Bool} {b : Expr} {mb : M D} {n : Str} {np pf pos : Pos}
/-- e.f -/
def mXf (j : Nat) (x : Exn) : M D := fun fr h => match x.fs[j]? with
  | some d => .ok d fr h
  | none => .err
structure XfF (K : PySem.W.Frag) (T : Tb) (f : Str) (ix : Nat → Option Nat) : Prop where
  at_ : ∀ c j, ix c = some j → (T.fld c)[j]? = some f ∧ (T.fld c).Nodup ∧ XfC K (T.cad c) ∧ PySem.W.findIn K (.ref (T.cad c)) f = some none
def mXF (ix : Nat → Option Nat) (x : Exn) : M D := match ix x.c with
  | some j => mXf j x
  | none => fun _ _ => .err
end
/-! ### try: .. except X as e: -/
def endA (i : Nat) (r : R Fl) : R Fl := match r with
  | .ok .nx fr h => .ok .nx (fr.set i none) h
  | .ok .brk fr h => .ok .brk (fr.set i none) h
  | .ok .ct fr h => .ok .ct (fr.set i none) h
  | r => r
def mTryA (i : Nat) (cond : Nat → Option Bool) (mb : M Fl) (ms : Exn → M Fl) : M Fl := fun fr h => match mb fr h with
  | .exc x fr1 h1 => match cond x.c with
    | some true => if i < fr1.length then endA i (ms x (fr1.set i none) h1) else .err
    | some false => .exc x fr1 h1
    | none => .err
  | r => r
def mTryO (cond : Nat → Option Bool) (mb : M Fl) (ms : Exn → M Fl) : M Fl := fun fr h => match mb fr h with
  | .exc x fr1 h1 => match cond x.c with
    | some true => ms x fr1 h1
    | some false => .exc x fr1 h1
    | none => .err
  | r => r
section
variable {X : Cx} {T : Tb} {W : WX} {k : Nat} {x n : Str} {c : Value} {cond : Nat → Option Bool} {body suite : List Stmt} {b₀ : Stmt} {np pos pos' : Pos} {mb : M Fl} {ms : Exn → M Fl}
end
end Pk

/-! Pk22: an own operator, the other operand of a built-in type. -/
namespace PySem
namespace OwO
open PySem.W PySem.Calls PyProof.Rows
section
variable {prog : Program} {w : World} {A : Around} {E : Value → Shared → Prop} {s : Shared} {K : Frag} {x C L f : Addr} {h₀ : Heap} {m : Str → Option Value} {ox : Obj} {od : Option Obj} {t : String} {b : Value} {op : Operator} {Q : Value → Shared → Prop}
theorem first_of {K : Frag} {C : Addr} (hc : selfFirst K C = true) : ∃ cd rest, clsIn K C = some cd ∧ cd.mro = .ref C :: rest := by
  obtain ⟨cd, hcd, hm⟩ := any_some hc
  cases q : cd.mro with
  | nil => rw [q] at hm; cases hm
  | cons a r => rw [q, List.head?_cons] at hm; cases (beq_iff_eq.mp hm); exact ⟨cd, r, hcd, q⟩
def CmpB (Q : Option Value → Shared → Prop) (v : Value) (s : Shared) : Prop := v ≠ .notImplemented ∧ Q (some v) s
theorem bin_of {a b : Value} (h : wpAny (model prog w) A (binaryOp1 op.info.2 a b) (fun o s' => ∃ v, o = some v ∧ Q v s') E s) : wpAny (model prog w) A (binaryOp op a b) Q E s := by
  unfold binaryOp
  refine wpAny_holding ?_
  exact wpAny_bind (wpAny_mono h (fun o s' ⟨v, e, q⟩ => by subst e; exact wpAny_pure q) fun _ _ e => e)
/-- a method's answer -/
theorem try_own {nm : Str} {P : Option Value → Shared → Prop} (X : K.In s.heap) (I : InstAt s.heap x ox C od) (hs : findIn K (.ref C) nm = some (some (.ref f))) (hf : isFn K (.ref f) = true)
    (h : wpAny (model prog w) A (call (.ref f) [.ref x, b]) (CmpB P) E s) : wpAny (model prog w) A (tryMethod (.ref x) nm b) P E s := by
  unfold tryMethod
  refine wpAny_bind (special_fn X I hs (beq_iff_eq.mp hf) (wpAny_mono h (fun v s' hv => ?_) fun _ _ e => e))
  obtain ⟨n, q⟩ := hv
  cases v <;> first | exact absurd rfl n | exact wpAny_pure q
/-- own op other: the other's type has no such slot -/
theorem left0 {nm : String} {P : Option Value → Shared → Prop} (X : K.In s.heap) (I : InstAt s.heap x ox C od) (hb : Looks (model prog w) s.heap (typeOf b) (.type t)) (hr : fillsNumberSlot (.type t) nm = pure false) (hc : selfFirst K C = true)
    (hs : findIn K (.ref C) (PySem.dunder nm) = some (some (.ref f))) (hf : isFn K (.ref f) = true)
    (h : wpAny (model prog w) A (call (.ref f) [.ref x, b]) (CmpB P) E s) (hP : ∀ s', ¬ P none s') : wpAny (model prog w) A (binaryOp1 nm (.ref x) b) P E s := by
  obtain ⟨cd, rest, hcd, hm⟩ := first_of hc
  unfold binaryOp1
  refine wpAny_bind (I.type.here (wpAny_bind (hb.here (wpAny_bind ((fills_K X hcd hm hs).here ?_)))))
  simp only [show ((Value.ref C : Value) == Value.type t) = false from rfl, Bool.false_eq_true, if_false, hr]
  refine wpAny_bind (wpAny_pure ?_)
  simp only [Bool.and_false, Bool.false_eq_true, if_false, Bool.false_and]
  refine wpAny_bind (wpAny_pure ?_)
  simp only [Bool.false_eq_true, if_false, if_true]
  refine wpAny_bind (try_own X I hs hf (wpAny_mono h (fun v s' hv => ⟨hv.1, ?_⟩) fun _ _ e => e))
  exact wpAny_pure hv.2
/-- own op other: the other's type has such a slot -/
theorem left1 {nm : String} {P : Option Value → Shared → Prop} {tk rv : Option Value} (X : K.In s.heap) (I : InstAt s.heap x ox C od) (hb : Looks (model prog w) s.heap (typeOf b) (.type t)) (hr : fillsNumberSlot (.type t) nm = pure true) (hsub : isSubtype (.type t) (.ref C) = pure false)
    (hnp : numberSlotInPython (.type t) nm = pure false) (hlk : typeLookup (.type t) (dunderR nm) = pure tk) (hc : selfFirst K C = true)
    (hs : findIn K (.ref C) (PySem.dunder nm) = some (some (.ref f))) (hrv : findIn K (.ref C) (PySem.dunderR nm) = some rv) (hrf : rv = none ∨ ∃ g, rv = some (.ref g)) (hf : isFn K (.ref f) = true)
    (h : wpAny (model prog w) A (call (.ref f) [.ref x, b]) (CmpB P) E s) : wpAny (model prog w) A (binaryOp1 nm (.ref x) b) P E s := by
  obtain ⟨cd, rest, hcd, hm⟩ := first_of hc
  have np : Looks (model prog w) s.heap (numberSlotInPython (.ref C) nm) true := by
    intro A' Q' E' s' k q
    unfold numberSlotInPython
    refine wpAny_bind (looks_findIn X hs A' _ E' s' k (wpAny_bind (wpAny_pure ?_)))
    refine wpAny_bind (looks_findIn X hrv A' _ E' s' k ?_)
    rcases hrf with rfl | ⟨g, rfl⟩
    · refine wpAny_bind (wpAny_pure ?_)
      exact wpAny_pure q
    · refine wpAny_bind (wpAny_pure ?_)
      exact wpAny_pure q
  unfold binaryOp1
  refine wpAny_bind (I.type.here (wpAny_bind (hb.here (wpAny_bind ((fills_K X hcd hm hs).here ?_)))))
  simp only [show ((Value.ref C : Value) == Value.type t) = false from rfl, Bool.false_eq_true, if_false, hr]
  refine wpAny_bind (wpAny_pure ?_)
  simp only [Bool.and_self, if_true, hsub]
  refine wpAny_bind (wpAny_pure ?_)
  simp only [Bool.false_eq_true, if_false, Bool.not_false, Bool.and_self, if_true]
  refine wpAny_bind (np.here ?_)
  simp only [if_true, hnp]
  refine wpAny_bind (wpAny_pure ?_)
  simp only [Bool.not_false, if_true, hlk]
  refine wpAny_bind (wpAny_pure ?_)
  refine wpAny_bind (try_own X I hs hf (wpAny_mono h (fun v s' hv => ⟨hv.1, ?_⟩) fun _ _ e => e))
  exact wpAny_pure hv.2
/-- other op own: the other's type has no such slot -/
theorem right0 {nm : String} {P : Option Value → Shared → Prop} {a : Value} {g : Addr} (X : K.In s.heap) (I : InstAt s.heap x ox C od) (ha : Looks (model prog w) s.heap (typeOf a) (.type t)) (hr : fillsNumberSlot (.type t) nm = pure false) (hc : selfFirst K C = true)
    (hs : findIn K (.ref C) (PySem.dunder nm) = some (some (.ref f))) (hs2 : findIn K (.ref C) (PySem.dunderR nm) = some (some (.ref g))) (hg : isFn K (.ref g) = true)
    (h : wpAny (model prog w) A (call (.ref g) [.ref x, a]) (CmpB P) E s) : wpAny (model prog w) A (binaryOp1 nm a (.ref x)) P E s := by
  obtain ⟨cd, rest, hcd, hm⟩ := first_of hc
  unfold binaryOp1
  refine wpAny_bind (ha.here (wpAny_bind (I.type.here ?_)))
  rw [hr]
  refine wpAny_bind (wpAny_pure ?_)
  simp only [show (Value.type t == (Value.ref C : Value)) = false from rfl, Bool.false_eq_true, if_false]
  refine wpAny_bind ((fills_K X hcd hm hs).here ?_)
  simp only [Bool.false_and, Bool.false_eq_true, if_false]
  refine wpAny_bind (wpAny_pure ?_)
  simp only [Bool.false_eq_true, if_false, Bool.not_false, Bool.and_self, if_true]
  refine wpAny_bind (try_own X I hs2 hg (wpAny_mono h (fun v s' hv => ⟨hv.1, ?_⟩) fun _ _ e => e))
  exact wpAny_bind (wpAny_rule (wpAny_pure hv.2))
/-- other op own: the other's own slot declines -/
theorem right1 {nm : String} {P : Option Value → Shared → Prop} {a : Value} {g : Addr} (X : K.In s.heap) (I : InstAt s.heap x ox C od) (ha : Looks (model prog w) s.heap (typeOf a) (.type t)) (hr : fillsNumberSlot (.type t) nm = pure true) (hsub : subIn K (.ref C) (.type t) = some false)
    (hnp : numberSlotInPython (.type t) nm = pure false) (htry : ∀ P' : Option Value → Shared → Prop, P' none s → wpAny (model prog w) A (tryMethod a (PySem.dunder nm) (.ref x)) P' E s) (hc : selfFirst K C = true)
    (hs : findIn K (.ref C) (PySem.dunder nm) = some (some (.ref f))) (hs2 : findIn K (.ref C) (PySem.dunderR nm) = some (some (.ref g))) (hg : isFn K (.ref g) = true)
    (h : wpAny (model prog w) A (call (.ref g) [.ref x, a]) (CmpB P) E s) : wpAny (model prog w) A (binaryOp1 nm a (.ref x)) P E s := by
  obtain ⟨cd, rest, hcd, hm⟩ := first_of hc
  unfold binaryOp1
  refine wpAny_bind (ha.here (wpAny_bind (I.type.here ?_)))
  rw [hr]
  refine wpAny_bind (wpAny_pure ?_)
  simp only [show (Value.type t == (Value.ref C : Value)) = false from rfl, Bool.false_eq_true, if_false]
  refine wpAny_bind ((fills_K X hcd hm hs).here ?_)
  simp only [Bool.and_self, if_true]
  refine wpAny_bind ((looks_subIn X hsub).here ?_)
  simp only [Bool.false_eq_true, if_false, Bool.not_false, Bool.and_self, if_true, hnp]
  refine wpAny_bind (wpAny_pure ?_)
  simp only [Bool.false_eq_true, if_false]
  refine wpAny_bind (htry _ ?_)
  refine wpAny_bind (try_own X I hs2 hg (wpAny_mono h (fun v s' hv => ⟨hv.1, ?_⟩) fun _ _ e => e))
  exact wpAny_bind (wpAny_rule (wpAny_pure hv.2))
end
/-! ### int's * declines an instance -/
theorem mul_int_ins (a : Int) (t : Tok) (x C dx : Addr) : Meets (Builtin.«int.__mul__» ⟨[.int a t, .ref x], []⟩) (fun _ R s => s.heap.get? x = some (instObj C dx) ∧ R (.ok (.ret Value.notImplemented)) s) :=
  .of_wp fun prog w A R s h => by obtain ⟨hp, g, d, tk, os⟩ := s; obtain ⟨hl, h⟩ := h; wp_walk; exact ⟨_, rfl, h⟩
theorem mul_bool_ins (a : Bool) (x C dx : Addr) : Meets (Builtin.«int.__mul__» ⟨[.bool a, .ref x], []⟩) (fun _ R s => s.heap.get? x = some (instObj C dx) ∧ R (.ok (.ret Value.notImplemented)) s) :=
  .of_wp fun prog w A R s h => by obtain ⟨hp, g, d, tk, os⟩ := s; obtain ⟨hl, h⟩ := h; wp_walk; exact ⟨_, rfl, h⟩
section
variable {prog : Program} {w : World} {A : Around} {E : Value → Shared → Prop} {s : Shared} {x C dx : Addr}
theorem try_int {a : Int} {t : Tok} (hx : s.heap.get? x = some (instObj C dx)) : ∀ P' : Option Value → Shared → Prop, P' none s → wpAny (model prog w) A (tryMethod (.int a t) (PySem.dunder "mul") (.ref x)) P' E s := fun P' h => by
  unfold tryMethod callSpecial? specialOf
  refine wpAny_bind (wpAny_bind (wpAny_bind (wpAny_pure (a := Value.type "int") ?_)))
  rw [show typeLookup (.type "int") (PySem.dunder "mul") = pure (some (.builtin "int.__mul__")) from F.slot_int_mul.lookup]
  refine wpAny_pure (wpAny_holding (wpAny_bind ?_))
  rw [F.slot_int_mul.bind]
  refine wpAny_pure (wpAny_bind ?_)
  exact call_meets F.slot_int_mul (typeIs_int s a t) F.entry_int_mul (F.args_int_mul_2 _ _) (mul_int_ins a t x C dx) ⟨hx, wpAny_pure (wpAny_pure h)⟩
theorem try_bool {a : Bool} (hx : s.heap.get? x = some (instObj C dx)) : ∀ P' : Option Value → Shared → Prop, P' none s → wpAny (model prog w) A (tryMethod (.bool a) (PySem.dunder "mul") (.ref x)) P' E s := fun P' h => by
  unfold tryMethod callSpecial? specialOf
  refine wpAny_bind (wpAny_bind (wpAny_bind (wpAny_pure (a := Value.type "bool") ?_)))
  rw [show typeLookup (.type "bool") (PySem.dunder "mul") = pure (some (.builtin "int.__mul__")) from F.slot_bool_mul.lookup]
  refine wpAny_pure (wpAny_holding (wpAny_bind ?_))
  rw [F.slot_bool_mul.bind]
  refine wpAny_pure (wpAny_bind ?_)
  exact call_meets F.slot_bool_mul (typeIs_bool' s a) F.entry_int_mul (F.args_int_mul_2 _ _) (mul_bool_ins a x C dx) ⟨hx, wpAny_pure (wpAny_pure h)⟩
end
end OwO
end PySem
namespace Pk
open PySem PySem.Spec L2
/-- the class's own * and reflected * -/
structure MulF (X : Cx) (T : Tb) (k : Nat) (mt : Nat → Option Fn) : Prop where
  ex : ∀ c F, mt c = some F → ∃ (kk : Nat) (f : Addr) (fd : FuncData) (ps : List Str), Cls X.K (T.cad c) ∧ Meth X.K (T.cad c) (PySem.dunder "mul") f ∧ PySem.W.selfFirst X.K (T.cad c) = true ∧ FnP X.prog X.w X.K X.mg X.base T kk f fd ps F ∧ Bn X.K T fd ps 2 [] (gPos []) ∧ kk ≤ k ∧
    ∃ g, PySem.W.findIn X.K (.ref (T.cad c)) (PySem.dunderR "mul") = some (some (.ref g))
structure RmulF (X : Cx) (T : Tb) (k : Nat) (mt : Nat → Option Fn) : Prop where
  ex : ∀ c F, mt c = some F → ∃ (kk : Nat) (f : Addr) (fd : FuncData) (ps : List Str), Cls X.K (T.cad c) ∧ Meth X.K (T.cad c) (PySem.dunderR "mul") f ∧ PySem.W.selfFirst X.K (T.cad c) = true ∧ FnP X.prog X.w X.K X.mg X.base T kk f fd ps F ∧ Bn X.K T fd ps 2 [] (gPos []) ∧ kk ≤ k ∧
    (∃ g, PySem.W.findIn X.K (.ref (T.cad c)) (PySem.dunder "mul") = some (some (.ref g))) ∧ PySem.W.subIn X.K (.ref (T.cad c)) (.type "int") = some false ∧ PySem.W.subIn X.K (.ref (T.cad c)) (.type "bool") = some false
def D.bty (h : Hh) (d : D) : Option String := match d.tag h with
  | some (.b t) => some t
  | _ => none
/-- own * other -/
def mMulL (mt : Nat → Option Fn) (ma mb : M D) : M D := ma.bind fun x => mb.bind fun y fr h => match fnOf mt h x, y.bty h with
  | some F, some _ => liftR fr (F [x, y] h)
  | _, _ => .err
/-- None, a number * own -/
def D.smp : D → Bool
  | .non => true
  | .bl _ => true
  | .int _ => true
  | _ => false
def mMulR (mt : Nat → Option Fn) (ma mb : M D) : M D := ma.bind fun x => mb.bind fun y fr h => match fnOf mt h y, x.smp with
  | some F, true => liftR fr (F [y, x] h)
  | _, _ => .err
section
variable {X : Cx} {T : Tb} {W : WX} {k : Nat} {a b : Expr} {ma mb : M D} {pos : Pos}
theorem cmpB_of {pins : List (Addr × Obj)} {σ : L2.St} {Q : VK} {v : Value} {s : Shared} (h : EP X pins σ Q v s) : PySem.OwO.CmpB (fun o s' => ∃ v, o = some v ∧ EP X pins σ Q v s') v s := by
  refine ⟨fun e => ?_, v, rfl, h⟩
  subst e
  have z := cmpback_of h
  exact z
theorem bty_rel {K : PySem.W.Frag} {B : Bs} {w : Wd} {σ : L2.St} {H : Hp} {fr : Fr} {h : Hh} {v : V} {d : D} {t : String} (R : Rel K T B w σ H fr h) (rv : RelD K T w v d) (e : d.bty h = some t) : TyX K H v (.type t) ∧ t ∈ bTys := by
  unfold D.bty at e
  split at e
  · rename_i t' et
    cases e
    have mem : t ∈ bTys := by
      unfold D.tag at et
      split at et <;> first | (cases et; decide) | cases et
    have e2 : isiT [] (.b t) (.b t) = some true := by
      have : ∀ t ∈ bTys, isiT [] (.b t) (.b t) = some true := by decide +kernel
      exact this t mem
    exact ⟨tag_rel (u := .b t) (bb := true) (isi_of (K := K) (T := T) (l := []) .nil) R (.inl rv) et e2, mem⟩
  · cases e
/-- the other operand, for an own *  -/
theorem mul_left {pins : List (Addr × Obj)} {σ : L2.St} {H : Hp} {s : Shared} {prog : Program} {w : World} {A : Around} {E : Value → Shared → Prop} {x C f g : Addr} {ox : Obj} {od : Option Obj} {t : String} {y : V} {u : Value} {Q : Value → Shared → Prop} (I : Inv X pins σ H s) (ep : prog = X.prog) (ew : w = X.w) (J : PySem.W.InstAt s.heap x ox C od)
    (ty : TyX X.K H y (.type t)) (ht : t ∈ bTys) (ry : RelV y u) (hc : PySem.W.selfFirst X.K C = true) (M : Meth X.K C (PySem.dunder "mul") f) (hg : PySem.W.findIn X.K (.ref C) (PySem.dunderR "mul") = some (some (.ref g)))
    (h : wpAny (model prog w) A (call (.ref f) [.ref x, u]) (PySem.OwO.CmpB fun o s' => ∃ v, o = some v ∧ Q v s') E s) : wpAny (model prog w) A (binaryOp .Mult (.ref x) u) Q E s := by
  obtain ⟨P, Z, p, _⟩ := kit_of I ry ty
  have hb := Z.ty (model prog w) s.heap I.kIn p
  refine PySem.OwO.bin_of ?_
  show wpAny _ _ (binaryOp1 "mul" _ _) _ _ _
  have no : ∀ s', ¬ (fun o s' => ∃ v, o = some v ∧ Q v s') (none : Option Value) s' := fun s' ⟨v, e, _⟩ => by cases e
  rcases List.mem_cons.mp ht with rfl | ht
  · exact PySem.OwO.left0 I.kIn J hb (by first | rfl | kernel_rfl) hc M.at_ M.fn h no
  rcases List.mem_cons.mp ht with rfl | ht
  · exact PySem.OwO.left1 (tk := some (.builtin "int.__rmul__")) I.kIn J hb (by first | rfl | kernel_rfl) (by first | rfl | kernel_rfl) (by first | rfl | kernel_rfl) (by first | rfl | kernel_rfl) hc M.at_ hg (.inr ⟨g, rfl⟩) M.fn h
  rcases List.mem_cons.mp ht with rfl | ht
  · exact PySem.OwO.left1 (tk := some (.builtin "int.__rmul__")) I.kIn J hb (by first | rfl | kernel_rfl) (by first | rfl | kernel_rfl) (by first | rfl | kernel_rfl) (by first | rfl | kernel_rfl) hc M.at_ hg (.inr ⟨g, rfl⟩) M.fn h
  rcases List.mem_cons.mp ht with rfl | ht
  · exact PySem.OwO.left0 I.kIn J hb (by first | rfl | kernel_rfl) hc M.at_ M.fn h no
  rcases List.mem_cons.mp ht with rfl | ht
  · exact PySem.OwO.left0 I.kIn J hb (by first | rfl | kernel_rfl) hc M.at_ M.fn h no
  rcases List.mem_cons.mp ht with rfl | ht
  · exact PySem.OwO.left0 I.kIn J hb (by first | rfl | kernel_rfl) hc M.at_ M.fn h no
  cases ht
theorem se_mulL {mt : Nat → Option Fn} (C : Cq X T W k) (Mf : MulF X T k mt) (sa : SimV X T W a ma) (sb : SimV X T W b mb) : SimE X T W (.BinOp a .Mult b pos) (mMulL mt ma mb) := fun B w σ H fr h Q R pp => WE.mk <| fun pins s I => by
  refine wpAny_BinOp (binT (R := fun x y H2 => ∃ (kk : Nat) (f : Addr) (fd : FuncData) (ps : List Str) (p1 C dx g : Addr) (fs : List (Str × V)) (G : Fn) (t : String), x = .ref p1 ∧ H2 p1 = some (.ins C dx fs) ∧ TyX X.K H2 y (.type t) ∧ t ∈ bTys ∧ Meth X.K C (PySem.dunder "mul") f ∧ PySem.W.selfFirst X.K C = true ∧
      FnP X.prog X.w X.K X.mg X.base T kk f fd ps G ∧ Bn X.K T fd ps 2 [] (gPos []) ∧ kk ≤ k ∧ PySem.W.findIn X.K (.ref C) (PySem.dunderR "mul") = some (some (.ref g)) ∧
      ∀ g gV, KBn X.K fd ps 2 [] g gV → (∀ (w : Wd) (vs zs : List V) (ds es : List D), RelDs X.K T w vs ds → RelDs X.K T w zs es → ds.length = 2 → es.length = ([] : List Str).length → RelDs X.K T w (gV vs zs) (gPos [] ds es) ∧ (gPos [] ds es).length = ps.length) →
        spF X.K T ps.length G (gV [.ref p1, y] []) H2 Q (fun c d H' => W c d σ H')) pe_max pe_max I (sa B w σ H fr h _ R (Post.bind (VR := vV X.K T B σ) pp fun d fr1 h1 w1 H1 v e1 l1 r1 rd p1 =>
      sb B w1 σ H1 fr1 h1 _ r1 (Post.bind (VR := vV X.K T B σ) p1 fun e fr2 h2 w2 H2 u e2 l2 r2 re p2 => ?_))) fun v u s2 x y H2 I2 rx ry ⟨kk, f, fd, ps, p1, Cl, dx, g, fs, G, t, ex, ea, ty, ht, c2, c3, c4, c5, c6, c7, q⟩ => ?_)
  · have p3 : Post X.K T B W (vE X.K T B σ) w2 σ (match fnOf mt h2 d, e.bty h2 with | some F, some _ => liftR fr2 (F [d, e] h2) | _, _ => .err) Q := p2
    cases ef : fnOf mt h2 d with
    | none => rw [ef] at p3; exact p3.elim
    | some G =>
      cases et : e.bty h2 with
      | none => rw [ef, et] at p3; exact p3.elim
      | some t =>
        rw [ef, et] at p3
        dsimp only at p3
        unfold fnOf at ef
        split at ef
        · rename_i c fs ei
          obtain ⟨kk, f, fd, ps, c1, c2, c3, c4, c5, c6, g, c7⟩ := Mf.ex c G ef
          obtain ⟨p1', dx, vs, rfl, eH, rs⟩ := ins_rel r2 (.inl (rd.mono l2)) ei
          obtain ⟨ty, ht⟩ := bty_rel r2 re et
          refine ⟨kk, f, fd, ps, p1', T.cad c, dx, g, _, G, t, rfl, eH, ty, ht, c2, c3, c4, c5, c6, c7, fun g gV hb hgD => ?_⟩
          have p4 : Post X.K T B W (vE X.K T B σ) w2 σ (if ([d, e] : List D).length = 2 ∧ ([] : List D).length = 0 then liftR fr2 (G (gPos [] [d, e] []) h2) else .err) Q := by
            rw [if_pos ⟨rfl, rfl⟩]
            exact p3
          exact (call_end (n := 2) (m := 0) (zs := []) (es := []) (ds := [d, e]) hgD r2 (.cons (rd.mono l2) (.cons re .nil)) .nil p4).2.2
        · cases ef
  · subst ex
    obtain rfl : v = Value.ref p1 := rx
    obtain ⟨mA, J, _⟩ := ins_get I2.hok ea
    obtain ⟨od, J, _⟩ := J.look
    refine mul_left I2 rfl rfl J ty ht ry c3 c2 c7 (wpAny_mono (Q := EP X pins σ Q) ?_ (fun _ _ z => cmpB_of z) fun _ _ z => z)
    obtain ⟨g, gV, hb, hgD⟩ := c5.ex
    exact run_gen (us := [.ref p1, u]) (ws := []) (vs := [.ref p1, y]) c4.ok (C.room.mono c6) hb C.takes I2 (.cons rfl (.cons ry .nil)) .nil rfl rfl (q g gV hb hgD)
theorem se_mulR {mt : Nat → Option Fn} (C : Cq X T W k) (Mf : RmulF X T k mt) (sa : SimV X T W a ma) (sb : SimV X T W b mb) : SimE X T W (.BinOp a .Mult b pos) (mMulR mt ma mb) := fun B w σ H fr h Q R pp => WE.mk <| fun pins s I => by
  refine wpAny_BinOp (binT (R := fun x y H2 => ∃ (kk : Nat) (f : Addr) (fd : FuncData) (ps : List Str) (p1 C dx g : Addr) (fs : List (Str × V)) (G : Fn), y = .ref p1 ∧ H2 p1 = some (.ins C dx fs) ∧ (x = .non ∨ (∃ bb, x = .bl bb) ∨ ∃ i, x = .int i) ∧ Meth X.K C (PySem.dunderR "mul") f ∧ PySem.W.selfFirst X.K C = true ∧
      FnP X.prog X.w X.K X.mg X.base T kk f fd ps G ∧ Bn X.K T fd ps 2 [] (gPos []) ∧ kk ≤ k ∧ PySem.W.findIn X.K (.ref C) (PySem.dunder "mul") = some (some (.ref g)) ∧ PySem.W.subIn X.K (.ref C) (.type "int") = some false ∧ PySem.W.subIn X.K (.ref C) (.type "bool") = some false ∧
      ∀ g gV, KBn X.K fd ps 2 [] g gV → (∀ (w : Wd) (vs zs : List V) (ds es : List D), RelDs X.K T w vs ds → RelDs X.K T w zs es → ds.length = 2 → es.length = ([] : List Str).length → RelDs X.K T w (gV vs zs) (gPos [] ds es) ∧ (gPos [] ds es).length = ps.length) →
        spF X.K T ps.length G (gV [.ref p1, x] []) H2 Q (fun c d H' => W c d σ H')) pe_max pe_max I (sa B w σ H fr h _ R (Post.bind (VR := vV X.K T B σ) pp fun d fr1 h1 w1 H1 v e1 l1 r1 rd p1 =>
      sb B w1 σ H1 fr1 h1 _ r1 (Post.bind (VR := vV X.K T B σ) p1 fun e fr2 h2 w2 H2 u e2 l2 r2 re p2 => ?_))) fun v u s2 x y H2 I2 rx ry ⟨kk, f, fd, ps, p1, Cl, dx, g, fs, G, ex, ea, sx, c2, c3, c4, c5, c6, c7, c8, c9, q⟩ => ?_)
  · have p3 : Post X.K T B W (vE X.K T B σ) w2 σ (match fnOf mt h2 e, d.smp with | some F, true => liftR fr2 (F [e, d] h2) | _, _ => .err) Q := p2
    cases ef : fnOf mt h2 e with
    | none => rw [ef] at p3; exact p3.elim
    | some G =>
      cases et : d.smp with
      | false => rw [ef, et] at p3; exact p3.elim
      | true =>
        rw [ef, et] at p3
        dsimp only at p3
        unfold fnOf at ef
        split at ef
        · rename_i c fs ei
          obtain ⟨kk, f, fd, ps, c1, c2, c3, c4, c5, c6, ⟨g, c7⟩, c8, c9⟩ := Mf.ex c G ef
          obtain ⟨p1', dx, vs, rfl, eH, rs⟩ := ins_rel r2 (.inl re) ei
          have sx : v = .non ∨ (∃ bb, v = .bl bb) ∨ ∃ i, v = .int i := by
            have rd' : RelD X.K T w1 v d := rd
            cases rd' <;> first | exact .inl rfl | exact .inr (.inl ⟨_, rfl⟩) | exact .inr (.inr ⟨_, rfl⟩) | cases et
          refine ⟨kk, f, fd, ps, p1', T.cad c, dx, g, _, G, rfl, eH, sx, c2, c3, c4, c5, c6, c7, c8, c9, fun g gV hb hgD => ?_⟩
          have p4 : Post X.K T B W (vE X.K T B σ) w2 σ (if ([e, d] : List D).length = 2 ∧ ([] : List D).length = 0 then liftR fr2 (G (gPos [] [e, d] []) h2) else .err) Q := by
            rw [if_pos ⟨rfl, rfl⟩]
            exact p3
          exact (call_end (n := 2) (m := 0) (zs := []) (es := []) (ds := [e, d]) hgD r2 (.cons re (.cons (rd.mono l2) .nil)) .nil p4).2.2
        · cases ef
  · subst ex
    obtain rfl : u = Value.ref p1 := ry
    have ⟨dt, hdx⟩ : ∃ dt : Addr, s2.heap.get? p1 = some (PySem.W.instObj Cl dt) := by
      have z : ObjOk X.prog X.w H2 s2.heap p1 (.ins Cl dx fs) := I2.hok p1 _ ea
      exact ⟨dx, z.2.2.2.1⟩
    obtain ⟨mA, J, _⟩ := ins_get I2.hok ea
    obtain ⟨od, J, _⟩ := J.look
    refine PySem.OwO.bin_of ?_
    show wpAny _ _ (binaryOp1 "mul" _ _) _ _ _
    have run : wpAny (model X.prog X.w) X.A (call (.ref f) [.ref p1, v]) (PySem.OwO.CmpB fun o s' => ∃ v, o = some v ∧ EP X pins σ Q v s') X.xe s2 := by
      refine wpAny_mono (Q := EP X pins σ Q) ?_ (fun _ _ z => cmpB_of z) fun _ _ z => z
      obtain ⟨g, gV, hb, hgD⟩ := c5.ex
      exact run_gen (us := [.ref p1, v]) (ws := []) (vs := [.ref p1, x]) c4.ok (C.room.mono c6) hb C.takes I2 (.cons rfl (.cons rx .nil)) .nil rfl rfl (q g gV hb hgD)
    rcases sx with rfl | ⟨bb, rfl⟩ | ⟨i, rfl⟩
    · obtain rfl : v = Value.none := rx
      exact PySem.OwO.right0 (t := "NoneType") I2.kIn J (fun A Q E s k q => wpAny_pure q) (by first | rfl | kernel_rfl) c3 c7 c2.at_ c2.fn run
    · obtain rfl : v = Value.bool bb := rx
      exact PySem.OwO.right1 (t := "bool") I2.kIn J (fun A Q E s k q => wpAny_pure q) (by first | rfl | kernel_rfl) c9 (by first | rfl | kernel_rfl) (PySem.OwO.try_bool hdx) c3 c7 c2.at_ c2.fn run
    · obtain ⟨tt, rfl⟩ := rx
      exact PySem.OwO.right1 (t := "int") I2.kIn J (fun A Q E s k q => wpAny_pure q) (by first | rfl | kernel_rfl) c8 (by first | rfl | kernel_rfl) (PySem.OwO.try_int hdx) c3 c7 c2.at_ c2.fn run
end
end Pk

/-! Pk23: tables of error classes. -/
namespace Pk
open PySem PySem.Spec L2
def errT (l : List ((Tg × Tg) × Bool)) : Tg → Tg → Option Bool := fun t u => List.lookup (t, u) l
inductive ERows (K : PySem.W.Frag) (T : Tb) : List ((Tg × Tg) × Bool) → Prop where
  | nil : ERows K T []
  | cons {c : Nat} {u : Tg} {b : Bool} {l : List ((Tg × Tg) × Bool)} (q : PySem.W.kitOne K (.ref (T.cad c)) (u.v T) = some b) (i : L2.ExcC K (T.cad c)) (r : ERows K T l) : ERows K T (((.o c, u), b) :: l)
end Pk

/-! Pk24: own special methods: len(o), o[i], x in o. -/
namespace Pk
open PySem PySem.Spec L2
/-- o's own method m; nothing is let out -/
def mOwn (mt : Nat → Option Fn) (o : D) (as : List D) : M D := fun fr h => match fnOf mt h o with
  | some F => match F (o :: as) h with
    | .ok d _ h => .ok d fr h
    | _ => .err
  | none => .err
/-- .. an exception is let out -/
def mOwnX (mt : Nat → Option Fn) (o : D) (as : List D) : M D := fun fr h => match fnOf mt h o with
  | some F => liftR fr (F (o :: as) h)
  | none => .err
theorem fnIn_of {K : PySem.W.Frag} {f : Addr} (h1 : PySem.W.isFn K (.ref f) = true) (h2 : PySem.W.keepIn K (.ref f) = true) : PySem.W.fnIn K f = true := by
  have h1' : PySem.W.typeIn K (.ref f) = some (.type "function") := beq_iff_eq.mp h1
  unfold PySem.W.fnIn
  unfold PySem.W.keepIn at h2
  dsimp only at h2
  have sp : PySem.W.specialIn K (.ref f) "__call__" = PySem.W.findIn K (.type "function") "__call__" := by
    unfold PySem.W.specialIn
    rw [h1']
    rfl
  have no : (PySem.W.findIn K (.type "function") "__call__" == some (some (.builtin "type.__call__"))) = false := by kernel_rfl
  cases e : K.lookup f with
  | none => rw [e] at h2; cases h2
  | some o =>
    obtain ⟨c, d, dt, sl⟩ := o
    rw [e] at h2
    cases dt with
    | func fd => rfl
    | cls cd =>
      dsimp only at h2
      rw [sp, no] at h2
      cases h2
    | _ => cases h2
section
variable {X : Cx} {T : Tb} {W : WX} {k kk j n : Nat} {f C : Addr} {fd : FuncData} {ps ks : List Str} {F : Fn} {m : Str} {pos pf : Pos} {a b : Expr} {ma mb : M D}
/-- a def's run under A -/
theorem run_in {A : Around} {pins : List (Addr × Obj)} {σ : L2.St} {H : Hp} {s : Shared} {Q : VK} {us : List Value} {vs : List V} {g : List Value → List Value → List Value} {gV : List V → List V → List V} {sp : Sp} {E : XK} (F : FnOk X.prog X.w X.K X.mg X.base (L2.CX X.prog X.w) kk f fd ps sp) (hr : Room kk A) (e0 : Env0 X.prog X.w X.K X.mg X.base A X.stack s H) (hb : KBn X.K fd ps n [] g gV)
    (hx : ∀ e s', L2.CX X.prog X.w X.stack H s E e s' → X.xe e s') (I : Inv X pins σ H s) (r : Vals vs us) (l1 : vs.length = n) (h : sp (gV vs []) H Q E) : wpAny (model X.prog X.w) A (call (.ref f) us) (EP X pins σ Q) X.xe s := by
  have r2 := hb.rel r (.nil : Vals [] [])
  refine wpAny_call (codeAny_mono (F.run A X.stack s H ⟨us, []⟩ (g us []) (gV vs []) Q _ hr e0 (hb.to s us [] I.kIn (r.length.symm.trans l1) rfl) r2 h) fun r s' hq => ?_)
  cases r with
  | error e => exact hx e s' hq
  | ok fl =>
    cases fl with
    | ret u => exact I.after hq
    | next => exact False.elim hq
    | brk => exact False.elim hq
    | cont => exact False.elim hq
theorem cx_none {H : Hp} {s : Shared} (e : Value) (s' : Shared) : L2.CX X.prog X.w X.stack H s (fun _ _ _ => False) e s' → X.xe e s' := fun c => by
  obtain ⟨a, B, H', cls, d, rfl, fl, hok, ub, na, os, ag, hE⟩ := c
  exact hE.elim
/-- what a run of o's own method asks -/
structure OwnRun (X : Cx) (T : Tb) (k n : Nat) (m : Str) (v : V) (H : Hp) (vs : List V) (Q : VK) (E : XK) : Prop where
  ex : ∃ (kk : Nat) (f : Addr) (fd : FuncData) (ps : List Str) (a C dx : Addr) (fs : List (Str × V)) (G : Fn), v = .ref a ∧ H a = some (.ins C dx fs) ∧ Cls X.K C ∧ Meth X.K C m f ∧ FnP X.prog X.w X.K X.mg X.base T kk f fd ps G ∧ kk ≤ k ∧
    ∃ g gV, KBn X.K fd ps (n + 1) [] g gV ∧ spF X.K T ps.length G (gV (.ref a :: vs) []) H Q E
theorem own_spX {mt : Nat → Option Fn} {B : Bs} {w : Wd} {σ : L2.St} {H : Hp} {fr : Fr} {h : Hh} {v : V} {d : D} {vs : List V} {as : List D} {Q : VK} (Mf : MethF X T j m mt n [] (gPos [])) (R : Rel X.K T B w σ H fr h) (rv : RelD X.K T w v d) (rs : RelDs X.K T w vs as) (hl : as.length = n)
    (p : Post X.K T B W (vE X.K T B σ) w σ (mOwnX mt d as fr h) Q) : OwnRun X T j n m v H vs Q (fun c d H' => W c d σ H') := by
  unfold mOwnX at p
  cases ef : fnOf mt h d with
  | none => rw [ef] at p; exact p.elim
  | some G =>
    rw [ef] at p
    obtain ⟨kk, f, fd, ps, a, Cl, dx, fs, rfl, eH, l, c1, c2, c3, c4, c5⟩ := meth_open Mf R rv ef
    obtain ⟨g, gV, hb, hgD⟩ := c4.ex
    refine ⟨kk, f, fd, ps, a, Cl, dx, fs, G, rfl, eH, c1, c2, c3, c5, g, gV, hb, ?_⟩
    have p4 : Post X.K T B W (vE X.K T B σ) w σ (if (d :: as).length = n + 1 ∧ ([] : List D).length = 0 then liftR fr (G (gPos [] (d :: as) []) h) else .err) Q := by
      rw [if_pos ⟨by rw [List.length_cons, hl], rfl⟩]
      show Post X.K T B W (vE X.K T B σ) w σ (liftR fr (G (d :: as ++ []) h)) Q
      rw [List.append_nil]
      exact p
    exact (call_end (n := n + 1) (m := 0) (zs := []) (es := []) (ds := d :: as) hgD R (.cons rv rs) .nil p4).2.2
theorem own_sp {mt : Nat → Option Fn} {B : Bs} {w : Wd} {σ : L2.St} {H : Hp} {fr : Fr} {h : Hh} {v : V} {d : D} {vs : List V} {as : List D} {Q : VK} (Mf : MethF X T j m mt n [] (gPos [])) (R : Rel X.K T B w σ H fr h) (rv : RelD X.K T w v d) (rs : RelDs X.K T w vs as) (hl : as.length = n)
    (p : Post X.K T B W (vE X.K T B σ) w σ (mOwn mt d as fr h) Q) : OwnRun X T j n m v H vs Q (fun _ _ _ => False) := by
  refine own_spX (W := WF) Mf R rv rs hl ?_
  unfold mOwn at p
  unfold mOwnX
  cases ef : fnOf mt h d with
  | none => rw [ef] at p; exact p.elim
  | some G =>
    rw [ef] at p
    dsimp only at p ⊢
    cases e : G (d :: as) h with
    | ok d' fr' h' => rw [e] at p; exact p
    | exc _ _ _ => rw [e] at p; exact p.elim
    | err => rw [e] at p; exact p.elim

/-! ### len(o) -/
def natM (d : D) : M D := fun fr h => match d with
  | .int i => if 0 ≤ i ∧ i < 2 ^ 60 then .ok (.int i) fr h else .err
  | _ => .err
def mLenI (mt : Nat → Option Fn) (ma : M D) : M D := ma.bind fun o => (mOwn mt o []).bind natM
theorem ve_bl {K : PySem.W.Frag} {B : Bs} {σ : L2.St} {w : Wd} {H : Hp} {fr : Fr} {v : V} {i : Bool} (r : vE K T B σ w H fr v (.bl i)) : v = .bl i := by
  rcases r with r | ⟨_, _, _, _, _, _, r⟩
  · exact rel_bl r
  · cases r
/-! ### o[i] -/
def mGetI (mt : Nat → Option Fn) (ma mb : M D) : M D := ma.bind fun o => mb.bind fun i => mOwnX mt o [i]
/-! ### comparisons that run own methods -/
/-- f's run tells the comparison -/
def CmpM (X : Cx) (T : Tb) (W : WX) (VR2 : VRel V D) (op : CmpOp) (g : D → D → M Bool) : Prop :=
  ∀ B w σ H fr h x y d e Q, Rel X.K T B w σ H fr h → RelD X.K T w x d → VR2 X.K T B σ w H fr y e → Post X.K T B W (vB X.K T B σ) w σ (g d e fr h) Q → rM X (compareOp op) x y H (fun z H' => ∃ c, z = .bl c ∧ Q c H')
def mOpM {α : Type} (g : D → D → M α) (ma mb : M D) : M α := ma.bind fun x => mb.bind fun y => g x y
theorem st_cmpM {op : CmpOp} {VR2 : VRel V D} {g : D → D → M Bool} (o : CmpM X T W VR2 op g) (sa : SimV X T W a ma) (sb : Sim (WE X b) X.K T W VR2 mb) (hm : behindInMarks op b = false := by with_unfolding_all rfl) :
    SimT X T W (.Compare a [op] [b] pos) (mOpM g ma mb) := fun B w σ H fr h Q r1 p =>
  pt_wt (pt_cmpR op_max pe_max pe_max hm) (sa B w σ H fr h (fun x H1 => WE X b σ H1 fun y H2 => rM X (compareOp op) x y H2 fun z H' => ∃ k, z = .bl k ∧ Q k H') r1 (Post.bind (VR := vV X.K T B σ) p fun d fr1 h1 w1 H1 x e1 l1 r1 rx p1 =>
    sb B w1 σ H1 fr1 h1 _ r1 (Post.bind (VR := VR2 X.K T B σ) p1 fun e fr2 h2 w2 H2 y e2 l2 r2 ry p2 => o B w2 σ H2 fr2 h2 x y d e Q r2 (rx.mono l2) ry p2)))
theorem sv_cmpM {op : CmpOp} {VR2 : VRel V D} {g : D → D → M Bool} (o : CmpM X T W VR2 op g) (sa : SimV X T W a ma) (sb : Sim (WE X b) X.K T W VR2 mb) (hm : behindInMarks op b = false := by with_unfolding_all rfl) :
    SimV X T W (.Compare a [op] [b] pos) (mBl (mOpM g ma mb)) := fun B w σ H fr h Q r1 p => by
  have p0 : Post X.K T B W (vB X.K T B σ) w σ (mOpM g ma mb fr h) (fun b H => Q (.bl b) H) := Post.bind p fun d fr1 h1 w1 H1 v e x r1 z p1 => by
    have z' : v = d := z
    subst z'
    exact p1 w1 H1 _ (Wd.le_refl _) r1 (.bl _)
  refine pe_we (pe_cmpR op_max pe_max pe_max hm) (sa B w σ H fr h (fun x H1 => WE X b σ H1 fun y H2 => rM X (compareOp op) x y H2 Q) r1 (Post.bind (VR := vV X.K T B σ) p0 fun d fr1 h1 w1 H1 x e1 l1 r1 rx p1 =>
    sb B w1 σ H1 fr1 h1 _ r1 (Post.bind (VR := VR2 X.K T B σ) p1 fun e fr2 h2 w2 H2 y e2 l2 r2 ry p2 => ?_)))
  intro pins s σ' v u I rx' ry'
  refine thn (o B w2 σ H2 fr2 h2 x y d e _ r2 (rx.mono l2) ry p2 pins s σ' v u I rx' ry') fun v s' z => ?_
  obtain ⟨z', H', I', rz, c, ec, q⟩ := z
  subst ec
  exact ⟨_, H', I', rz, q⟩
/-- a truth value -/
def tbM (d : D) : M Bool := M.opt d.tb
theorem post_tb {B : Bs} {w : Wd} {σ : L2.St} {m : M D} {fr : Fr} {h : Hh} {Q : Bool → Hp → Prop} {c : Bool → Bool} (p : Post X.K T B W (vB X.K T B σ) w σ ((m.bind fun d => (tbM d).bind fun b => M.ret (c b)) fr h) Q) : Post X.K T B W (vE X.K T B σ) w σ (m fr h) (fun v H' => ∃ b, v = .bl b ∧ Q (c b) H') :=
  Post.bind p fun d fr2 h2 w2 H2 v e2 l2 r2 rv2 p3 => by
    unfold tbM M.bind at p3
    cases d with
    | bl b => exact ⟨b, ve_bl rv2, p3 w2 H2 _ (Wd.le_refl _) r2 rfl⟩
    | _ => exact p3.elim
/-! ### x in o -/
def gIn (mt : Nat → Option Fn) (c : Bool → Bool) (x o : D) : M Bool := (mOwn mt o [x]).bind fun d => (tbM d).bind fun b => M.ret (c b)
end
end Pk

/-! Pk25: == and != by an own __eq__, the instance on the left. -/
namespace PySem
namespace OwE
open PySem.W PySem.Calls PyProof.Rows
section
variable {prog : Program} {w : World} {M : Model} {A : Around} {E : Value → Shared → Prop} {s : Shared} {K : Frag} {x C f : Addr} {ox : Obj} {od : Option Obj} {b tb : Value}
end
end OwE
end PySem
namespace Pk
open PySem PySem.Spec L2
def eqX (K : PySem.W.Frag) (C : Addr) : Bool := He.eqO (PySem.W.findIn K (.ref C) "__ne__") (some (some (.builtin "object.__ne__"))) && (decide (PySem.W.mroIn K C (.type "object") = some true) && (bTys.all (fun t => PySem.W.notFirst K C (.type t)) && bTys.all fun t => decide (PySem.W.subIn K (.ref C) (.type t) = some false)))
structure EqX (K : PySem.W.Frag) (C : Addr) : Prop where
  ne : PySem.W.findIn K (.ref C) "__ne__" = some (some (.builtin "object.__ne__"))
  ob : PySem.W.mroIn K C (.type "object") = some true
  nf : ∀ t ∈ bTys, PySem.W.notFirst K C (.type t) = true
  nb : ∀ t ∈ bTys, PySem.W.subIn K (.ref C) (.type t) = some false
theorem eqX_ok {K : PySem.W.Frag} {C : Addr} (h : eqX K C = true) : EqX K C := by
  obtain ⟨c1, h⟩ := He.ba h
  obtain ⟨c2, h⟩ := He.ba h
  obtain ⟨c3, c4⟩ := He.ba h
  exact ⟨He.eqO_ok c1, of_decide_eq_true c2, fun t ht => List.all_eq_true.mp c3 t ht, fun t ht => of_decide_eq_true (List.all_eq_true.mp c4 t ht)⟩
structure EqF (K : PySem.W.Frag) (T : Tb) (mt : Nat → Option Fn) : Prop where
  ex : ∀ c F, mt c = some F → EqX K (T.cad c)
/-- own == other: the other is of a built-in type, or of the same class -/
def gEq (mt : Nat → Option Fn) (c : Bool → Bool) (x y : D) : M Bool := fun fr h => if (y.bty h).isSome || (sameC h x y).isSome then ((mOwn mt x [y]).bind fun d => (tbM d).bind fun b => M.ret (c b)) fr h else .err
section
variable {X : Cx} {T : Tb} {W : WX} {k j : Nat}
theorem fnOf_ins {mt : Nat → Option Fn} {h : Hh} {d : D} {G : Fn} (e : fnOf mt h d = some G) : ∃ c fs, d.ins h = some (c, fs) ∧ mt c = some G := by
  unfold fnOf at e
  split at e
  · rename_i c fs ei
    exact ⟨c, fs, ei, e⟩
  · cases e
/-- what both comparisons want of the other operand -/
theorem eq_other {mt : Nat → Option Fn} {B : Bs} {w : Wd} {σ σ' : L2.St} {H : Hp} {fr : Fr} {h : Hh} {x y : V} {d e : D} {u : Value} {pins : List (Addr × Obj)} {s : Shared} {a' Cl dx : Addr} {fs : List (Str × V)} (Ef : EqF X.K T mt) (R : Rel X.K T B w σ H fr h) (rx : RelD X.K T w x d) (ry : RelD X.K T w y e)
    (hc : ((e.bty h).isSome || (sameC h d e).isSome) = true) (hG : fnOf mt h d ≠ none) (I : Inv X pins σ' H s) (ru : RelV y u) (ex : x = .ref a') (eH : H a' = some (.ins Cl dx fs)) : EqX X.K Cl ∧ ∃ tb, PySem.W.Looks (model X.prog X.w) s.heap (typeOf u) tb ∧ PySem.W.notFirst X.K Cl tb = true := by
  obtain ⟨c, gs, ei, em⟩ : ∃ c gs, d.ins h = some (c, gs) ∧ ∃ G, mt c = some G := by
    cases q : fnOf mt h d with
    | none => exact absurd q hG
    | some G =>
      obtain ⟨c, gs, e1, e2⟩ := fnOf_ins q
      exact ⟨c, gs, e1, G, e2⟩
  obtain ⟨G, em⟩ := em
  obtain ⟨p1, dx1, vs1, e1, eH1, _⟩ := ins_rel R (.inl rx) ei
  have ep : p1 = a' := V.ref.inj (e1.symm.trans ex)
  subst ep
  have eo := Option.some.inj (eH1.symm.trans eH)
  injection eo with eC _ _
  subst eC
  have Eq := Ef.ex c G em
  refine ⟨Eq, ?_⟩
  rcases Bool.or_eq_true_iff.mp hc with z | z
  · obtain ⟨t, et⟩ := Option.isSome_iff_exists.mp z
    obtain ⟨ty, ht⟩ := bty_rel R ry et
    obtain ⟨P, Z, p, _⟩ := kit_of I ru ty
    exact ⟨.type t, Z.ty (model X.prog X.w) s.heap I.kIn p, Eq.nf t ht⟩
  · obtain ⟨c', ec⟩ := Option.isSome_iff_exists.mp z
    obtain ⟨⟨fs1, i1⟩, gs2, i2⟩ := sameC_of ec
    have : c' = c := by
      rw [ei] at i1
      cases i1
      rfl
    subst this
    obtain ⟨p2, dy, vs2, rfl, eH2, _⟩ := ins_rel R (.inl ry) i2
    obtain rfl : u = Value.ref p2 := ru
    obtain ⟨mB, J', _⟩ := ins_get I.hok eH2
    obtain ⟨od', J', _⟩ := J'.look
    exact ⟨_, J'.type, by unfold PySem.W.notFirst; simp⟩
theorem geq_open {mt : Nat → Option Fn} {c : Bool → Bool} {B : Bs} {w : Wd} {σ : L2.St} {fr : Fr} {h : Hh} {d e : D} {Q : Bool → Hp → Prop} (p : Post X.K T B W (vB X.K T B σ) w σ (gEq mt c d e fr h) Q) :
    ((e.bty h).isSome || (sameC h d e).isSome) = true ∧ fnOf mt h d ≠ none ∧ Post X.K T B W (vE X.K T B σ) w σ (mOwn mt d [e] fr h) (fun v H' => ∃ b, v = .bl b ∧ Q (c b) H') := by
  unfold gEq at p
  cases hc : ((e.bty h).isSome || (sameC h d e).isSome) with
  | false => rw [hc] at p; exact p.elim
  | true =>
    rw [hc, if_pos rfl] at p
    have p' := post_tb p
    refine ⟨rfl, fun z => ?_, p'⟩
    have q : mOwn mt d [e] fr h = .err := by unfold mOwn; rw [z]
    rw [q] at p'
    exact p'
theorem cmp_eqI {mt : Nat → Option Fn} (C : Cq X T W k) (hk : j + 1 ≤ k) (Mf : MethF X T j "__eq__" mt 1 [] (gPos [])) (Ef : EqF X.K T mt) : CmpM X T W vV .Eq (gEq mt fun b => b) := fun B w σ H fr h x y d e Q R rx ry p => by
  obtain ⟨hc, hG, p'⟩ := geq_open p
  obtain ⟨kk, f, fd, ps, a', Cl, dx, fs, G, ex, eH, c1, c2, c3, c5, g, gV, hb, q⟩ := (own_sp Mf R rx (.cons ry .nil) rfl p').ex
  intro pins s σ' v u I rv ru
  obtain ⟨Eq, tb, lk, nf⟩ := eq_other Ef R rx ry hc hG I ru ex eH
  subst ex
  obtain rfl : v = Value.ref a' := rv
  obtain ⟨mA, J, _⟩ := ins_get I.hok eH
  obtain ⟨od, J, _⟩ := J.look
  obtain ⟨m, hF⟩ := I.fr
  show wpAny _ _ (richCompare .Eq _ _) _ _ _
  have hu : X.A.units < cLine := by
    have := C.u
    omega
  refine PySem.W.cmp_K (op := .Eq) hu hF I.ok.mod.kin J lk nf c2.at_ c2.fn (wpAny_mono (run_in (n := 1 + 1) (us := [.ref a', u]) (vs := [.ref a', y]) c3.ok (C.room.mono (Nat.le_trans c5 (Nat.le_of_succ_le hk))) I.env0 hb cx_none I (.cons rfl (.cons ru .nil)) rfl q) (fun r s' z => ?_) fun _ _ z => z)
  obtain ⟨z', H', I', rz, b, eb, qz⟩ := z
  subst eb
  exact cmpback_of ⟨.bl b, H', I', rz, b, rfl, qz⟩
end
end Pk

/-! Pk26: constants of a class, read from the class. -/
namespace Pk
open PySem PySem.Spec L2
def creadX (K : PySem.W.Frag) (C : Addr) : Bool := PySem.W.readsIn K C (.type "type") && He.eqO (PySem.W.specialIn K (.ref C) "__getattribute__") (some (some (.builtin "type.__getattribute__")))
theorem creadX_ok {K : PySem.W.Frag} {C : Addr} (h : creadX K C = true) : ClX.CRead K C (.type "type") := by
  obtain ⟨c1, c2⟩ := He.ba h
  exact ⟨c1, He.eqO_ok c2⟩
/-- where the class's constant is -/
def ccA (K : PySem.W.Frag) (C : Addr) (f : Str) : Addr := match PySem.W.findCls K (.ref C) (.type "type") f with
  | some (.val (.ref a)) => a
  | _ => 0
def cconX (K : PySem.W.Frag) (C : Addr) (f : Str) (vs : List He.Dv) : Bool := creadX K C && ((match PySem.W.findCls K (.ref C) (.type "type") f with
  | some (.val (.ref a)) => decide (a = ccA K C f)
  | _ => false) && tupA K (ccA K C f) vs)
structure CconF (X : Cx) (T : Tb) (c : Nat) (f : Str) (d : D) : Prop where
  ex : ∃ (u : Value) (v : V), ClX.CRead X.K (T.cad c) (.type "type") ∧ ClX.CVal X.K (T.cad c) (.type "type") f v u ∧ RelD X.K T ⟨fun _ => none, []⟩ v d
section
variable {X : Cx} {T : Tb} {W : WX} {k c : Nat} {x f : Str} {p pos : Pos} {d : D}
theorem sv_ccon (F : CconF X T c f d) (hm : X.mg x = some (.ref (T.cad c))) (hg : Gl X x := by rfl) (hd : (x == ("__debug__" : Str)) = false := by decide) (hb : attributeBase (.Name x p) f X.env (eval (.Name x p) X.env) = eval (.Name x p) X.env := by rfl) : SimV X T W (.Attribute (.Name x p) f pos) (mC d) := fun B w σ H fr h Q r q => by
  obtain ⟨u, v, c1, c2, rd⟩ := F.ex
  exact pe_we (ClX.pe_cval (pe_glob (v := .ref (T.cad c)) hg hm rfl hd) hb) ⟨_, _, v, u, rfl, c1, c2, q w H _ (Wd.le_refl _) r (rd.mono (Wd.le_bot w))⟩
end
end Pk

/-! Pk27: bool(o) by an own __len__, x.pop(i), classmethods. -/
namespace PySem
namespace OwB
open PySem.W PySem.Calls PyProof.Rows
section
variable {prog : Program} {w : World} {A : Around} {E : Value → Shared → Prop} {s : Shared} {K : Frag} {x C f : Addr} {ox : Obj} {od : Option Obj}
def NatBack (Q : Bool → Shared → Prop) (v : Value) (s' : Shared) : Prop := match v with
  | .int n _ => (0 ≤ n ∧ n < 2 ^ 63) ∧ Q (n != 0) { s' with toks := s'.toks + 1 }
  | _ => False
end
end OwB
end PySem
namespace Pk
open PySem PySem.Spec L2
section
variable {X : Cx} {T : Tb} {W : WX} {k kk j n c : Nat} {pos pf px apos cpos p : Pos} {a b e : Expr} {es : List Expr} {ma mb m : M D} {m1 : M (List D)} {x f : Str}
/-! ### bool(o) -/
structure NoB (K : PySem.W.Frag) (T : Tb) (mt : Nat → Option Fn) : Prop where
  ex : ∀ c F, mt c = some F → PySem.W.findIn K (.ref (T.cad c)) "__bool__" = some none
def nobX (K : PySem.W.Frag) (C : Addr) : Bool := He.eqO (PySem.W.findIn K (.ref C) "__bool__") (some none)
def mBoolI (mt : Nat → Option Fn) (ma : M D) : M D := ma.bind fun o => (mOwn mt o []).bind fun d => (natM d).bind fun d => M.opt (match d with
  | .int i => some (.bl (i != 0))
  | _ => none)
/-! ### x.pop(i) -/
theorem RelDs.eraseIdx {K : PySem.W.Frag} {w : Wd} : ∀ {vs : List V} {ds : List D} (n : Nat), RelDs K T w vs ds → RelDs K T w (vs.eraseIdx n) (ds.eraseIdx n)
  | _, _, _, .nil => .nil
  | _, _, 0, .cons _ t => t
  | _, _, n + 1, .cons h t => .cons h (RelDs.eraseIdx n t)
def popSlot (i : Nat) (d : D) : M D := fun fr h => match fr[i]?, d with
  | some (some (.nl l)), .int j => if -(2 ^ 63) ≤ j ∧ j < 2 ^ 63 then (match seqIndex? j l.length with
    | some q => (match l[q]? with
      | some y => .ok y (fr.set i (some (.nl (l.eraseIdx q)))) h
      | none => .err)
    | none => .err) else .err
  | _, _ => .err
def mPopS (i : Nat) (m : M D) : M D := (mutSlot i keepF).bind fun _ => m.bind fun d => popSlot i d
/-! ### C.m(..), a classmethod -/
structure CmF (X : Cx) (T : Tb) (k c : Nat) (m : Str) (n : Nat) (F : Fn) : Prop where
  ex : ∃ (kk : Nat) (p f : Addr) (fd : FuncData) (ps : List Str), ClX.CRead X.K (T.cad c) (.type "type") ∧ ClX.CMet X.K (T.cad c) (.type "type") m p f ∧ FnP X.prog X.w X.K X.mg X.base T kk f fd ps F ∧ Bn X.K T fd ps (n + 1) [] (gPos []) ∧ kk ≤ k
/-- where a classmethod's def is -/
def cmA (K : PySem.W.Frag) (C : Addr) (m : Str) : Addr := match PySem.W.findCls K (.ref C) (.type "type") m with
  | some (.get _ (.ref p) _ _) => (match PySem.W.recIn K p "classmethod" with
    | some (.ref g :: _) => g
    | _ => 0)
  | _ => 0
def cmX (K : PySem.W.Frag) (C : Addr) (m : Str) : Bool := creadX K C && (match PySem.W.findCls K (.ref C) (.type "type") m with
  | some (.get (.builtin i) (.ref p) .none (.ref C')) => decide (i = "classmethod.__get__") && (decide (C' = C) && ((match PySem.W.recIn K p "classmethod" with
    | some (.ref g :: _) => decide (g = cmA K C m)
    | _ => false) && PySem.W.fnIn K (cmA K C m)))
  | _ => false)
def mCm (n c : Nat) (F : Fn) (ma : M (List D)) : M D := ma.bind fun ds fr h => if ds.length = n then liftR fr (F (.cls c :: ds) h) else .err
end
end Pk

/-! Pk28: == and != of data with a list of the body's own on the left. -/
namespace Pk
open PySem PySem.Spec L2
section
variable {X : Cx} {T : Tb} {W : WX} {k : Nat} {b : Expr} {mb : M D} {pos px : Pos}
/-- f tells the comparison, whatever holds the left operand -/
def CmpOO (X : Cx) (T : Tb) (op : CmpOp) (f : Hh → D → D → Option Bool) : Prop :=
  ∀ B w σ H fr h x y d e c Q, Rel X.K T B w σ H fr h → vO X.K T B σ w H fr x d → vO X.K T B σ w H fr y e → f h d e = some c → Q (.bl c) H → rM X (compareOp op) x y H Q
/-- x op b, x a name: its slot is read behind b -/
def mLateB (i : Nat) (f : Hh → D → D → Option Bool) (mb : M D) : M Bool := (mHas i).bind fun _ => mb.bind fun y => (mBor i).bind fun d fr h => M.opt (f h d y) fr h
end
end Pk

/-! Pk29: == and != with an own __eq__ on the right, a built-in value on the left. -/
namespace PySem
namespace OwR
open PySem.W PySem.Calls PyProof.Rows
open PySem.AutoSeq1 (wpAny_loadPart')
section
variable {K : Frag} {x C : Addr} {ox : Obj} {od : Option Obj}
theorem inst_no {M : Model} {A : Around} {E : Value → Shared → Prop} {s : Shared} {t : String} {Q : Bool → Shared → Prop} (X : K.In s.heap) (I : InstAt s.heap x ox C od) (e : subIn K (.ref C) (.type t) = some false) (h : Q false s) : wpAny M A (isInstance (.ref x) (.type t)) Q E s :=
  wpAny_bind (I.type.here ((looks_subIn X e).here h))
theorem list_eq (l : Addr) (e : subIn K (.ref C) (.type "list") = some false) : Meets (Builtin.«list.__eq__» ⟨[.ref l, .ref x], []⟩) (fun _ R s => (K.In s.heap ∧ InstAt s.heap x ox C od) ∧ R (.ok (.ret .notImplemented)) s) :=
  .of_wp fun prog w A R s h => by
    obtain ⟨⟨X, I⟩, h⟩ := h
    repeat (first | (with_reducible refine inst_no X I e ?_) | (refine wpAny_bind (m := isInstance (.ref x) (.type "list")) (inst_no X I e ?_)) | wp_step)
    exact ⟨_, rfl, h⟩
theorem list_ne (l : Addr) (e : subIn K (.ref C) (.type "list") = some false) : Meets (Builtin.«list.__ne__» ⟨[.ref l, .ref x], []⟩) (fun _ R s => (K.In s.heap ∧ InstAt s.heap x ox C od) ∧ R (.ok (.ret .notImplemented)) s) :=
  .of_wp fun prog w A R s h => by
    obtain ⟨⟨X, I⟩, h⟩ := h
    repeat (first | (with_reducible refine inst_no X I e ?_) | (refine wpAny_bind (m := isInstance (.ref x) (.type "list")) (inst_no X I e ?_)) | wp_step)
    exact ⟨_, rfl, h⟩
theorem tup_eq (l : Addr) (e : subIn K (.ref C) (.type "tuple") = some false) : Meets (Builtin.«tuple.__eq__» ⟨[.ref l, .ref x], []⟩) (fun _ R s => (K.In s.heap ∧ InstAt s.heap x ox C od) ∧ R (.ok (.ret .notImplemented)) s) :=
  .of_wp fun prog w A R s h => by
    obtain ⟨⟨X, I⟩, h⟩ := h
    repeat (first | (with_reducible refine inst_no X I e ?_) | (refine wpAny_bind (m := isInstance (.ref x) (.type "tuple")) (inst_no X I e ?_)) | wp_step)
    exact ⟨_, rfl, h⟩
theorem tup_ne (l : Addr) (e : subIn K (.ref C) (.type "tuple") = some false) : Meets (Builtin.«tuple.__ne__» ⟨[.ref l, .ref x], []⟩) (fun _ R s => (K.In s.heap ∧ InstAt s.heap x ox C od) ∧ R (.ok (.ret .notImplemented)) s) :=
  .of_wp fun prog w A R s h => by
    obtain ⟨⟨X, I⟩, h⟩ := h
    repeat (first | (with_reducible refine inst_no X I e ?_) | (refine wpAny_bind (m := isInstance (.ref x) (.type "tuple")) (inst_no X I e ?_)) | wp_step)
    exact ⟨_, rfl, h⟩
theorem int_eq_int (a : Int) (u : Tok) (dx : Addr) : Meets (Builtin.«int.__eq__» ⟨[.int a u, .ref x], []⟩) (fun _ R s => s.heap.get? x = some (instObj C dx) ∧ R (.ok (.ret Value.notImplemented)) s) :=
  .of_wp fun prog w A R s h => by obtain ⟨hp, g, d, tk, os⟩ := s; obtain ⟨hl, h⟩ := h; wp_walk using wpAny_loadPart' hl, wpAny_load hl; exact ⟨_, rfl, h⟩
theorem int_ne_int (a : Int) (u : Tok) (dx : Addr) : Meets (Builtin.«int.__ne__» ⟨[.int a u, .ref x], []⟩) (fun _ R s => s.heap.get? x = some (instObj C dx) ∧ R (.ok (.ret Value.notImplemented)) s) :=
  .of_wp fun prog w A R s h => by obtain ⟨hp, g, d, tk, os⟩ := s; obtain ⟨hl, h⟩ := h; wp_walk using wpAny_loadPart' hl, wpAny_load hl; exact ⟨_, rfl, h⟩
theorem int_eq_bool (a : Bool) (dx : Addr) : Meets (Builtin.«int.__eq__» ⟨[.bool a, .ref x], []⟩) (fun _ R s => s.heap.get? x = some (instObj C dx) ∧ R (.ok (.ret Value.notImplemented)) s) :=
  .of_wp fun prog w A R s h => by obtain ⟨hp, g, d, tk, os⟩ := s; obtain ⟨hl, h⟩ := h; wp_walk using wpAny_loadPart' hl, wpAny_load hl; exact ⟨_, rfl, h⟩
theorem int_ne_bool (a : Bool) (dx : Addr) : Meets (Builtin.«int.__ne__» ⟨[.bool a, .ref x], []⟩) (fun _ R s => s.heap.get? x = some (instObj C dx) ∧ R (.ok (.ret Value.notImplemented)) s) :=
  .of_wp fun prog w A R s h => by obtain ⟨hp, g, d, tk, os⟩ := s; obtain ⟨hl, h⟩ := h; wp_walk using wpAny_loadPart' hl, wpAny_load hl; exact ⟨_, rfl, h⟩
theorem str_eq (a : Str) (u : Tok) (dx : Addr) : Meets (Builtin.«str.__eq__» ⟨[.str a u, .ref x], []⟩) (fun _ R s => s.heap.get? x = some (instObj C dx) ∧ R (.ok (.ret Value.notImplemented)) s) :=
  .of_wp fun prog w A R s h => by obtain ⟨hp, g, d, tk, os⟩ := s; obtain ⟨hl, h⟩ := h; wp_walk using wpAny_loadPart' hl, wpAny_load hl; exact ⟨_, rfl, h⟩
theorem str_ne (a : Str) (u : Tok) (dx : Addr) : Meets (Builtin.«str.__ne__» ⟨[.str a u, .ref x], []⟩) (fun _ R s => s.heap.get? x = some (instObj C dx) ∧ R (.ok (.ret Value.notImplemented)) s) :=
  .of_wp fun prog w A R s h => by obtain ⟨hp, g, d, tk, os⟩ := s; obtain ⟨hl, h⟩ := h; wp_walk using wpAny_loadPart' hl, wpAny_load hl; exact ⟨_, rfl, h⟩
end
section
variable {prog : Program} {w : World} {A : Around} {E : Value → Shared → Prop} {s : Shared} {K : Frag} {x C f : Addr} {ox : Obj} {od : Option Obj} {a : Value} {t : String}
/-- what the left operand does: it declines -/
def Declines (prog : Program) (w : World) (A : Around) (E : Value → Shared → Prop) (s : Shared) (a : Value) (nm : Str) (x : Addr) : Prop := ∀ P' : Option Value → Shared → Prop, P' none s → wpAny (model prog w) A (tryCompare a nm (.ref x)) P' E s
theorem right (op : CmpOp) {Q : Value → Shared → Prop} (hu : A.units < cLine) (X : K.In s.heap) (I : InstAt s.heap x ox C od) (h1 : oneThing? op a (.ref x) = none) (ha : Looks (model prog w) s.heap (typeOf a) (.type t)) (hn : subIn K (.ref C) (.type t) = some false)
    (hd : Declines prog w A E s a (cmpInfo op).2.1 x) (h : wpAny (model prog w) A (tryCompare (.ref x) (cmpInfo op).2.2 a) (fun r s' => ∃ v, r = some v ∧ Q v s') E s) : wpAny (model prog w) A (richCompare op a (.ref x)) Q E s := by
  unfold richCompare
  simp only [h1]
  refine wpAny_holding (wpAny_bind (wpAny_cRoomFor hu ?_))
  refine wpAny_bind (ha.here (wpAny_bind (I.type.here ?_)))
  rw [if_pos (show ((Value.type t != Value.ref C) = true) from rfl)]
  refine wpAny_bind ((looks_subIn X hn).here ?_)
  simp only [Bool.false_eq_true, if_false]
  refine wpAny_bind (hd _ ?_)
  simp only [Bool.not_false, if_true]
  refine wpAny_bind (wpAny_mono h (fun r s' z => ?_) fun _ _ e => e)
  obtain ⟨v, rfl, q⟩ := z
  exact wpAny_pure q
end
end OwR
end PySem
namespace Pk
open PySem PySem.Spec L2
/-- own == other, or a built-in value == own -/
def gEqX (mt : Nat → Option Fn) (c : Bool → Bool) (x y : D) : M Bool := fun fr h => match fnOf mt h x with
  | some _ => gEq mt c x y fr h
  | none => if (x.bty h).isSome then ((mOwn mt y [x]).bind fun d => (tbM d).bind fun b => M.ret (c b)) fr h else .err
section
variable {X : Cx} {T : Tb} {W : WX} {k j : Nat}
/-- a built-in value declines -/
theorem declines {B : Bs} {w : Wd} {σ σ' : L2.St} {H : Hp} {fr : Fr} {h : Hh} {v : V} {d : D} {u : Value} {pins : List (Addr × Obj)} {s : Shared} {a' Cl dx : Addr} {fs : List (Str × V)} {A : Around} {E : Value → Shared → Prop} {t : String} {ox : Obj} {od : Option Obj} (R : Rel X.K T B w σ H fr h) (rv : RelD X.K T w v d) (et : d.bty h = some t) (I : Inv X pins σ' H s) (ru : RelV v u)
    (J : PySem.W.InstAt s.heap a' ox Cl od) (hx : ∃ dt : Addr, s.heap.get? a' = some (PySem.W.instObj Cl dt)) (Eq : EqX X.K Cl) :
    oneThing? .Eq u (.ref a') = none ∧ oneThing? .NotEq u (.ref a') = none ∧ PySem.OwR.Declines X.prog X.w A E s u "__eq__" a' ∧ PySem.OwR.Declines X.prog X.w A E s u "__ne__" a' := by
  obtain ⟨dt, hx⟩ := hx
  have sqL : ∀ {p : Addr} {vs : List V}, SqL X.K H p vs → PySem.OwR.Declines X.prog X.w A E s (.ref p) "__eq__" a' ∧ PySem.OwR.Declines X.prog X.w A E s (.ref p) "__ne__" a' := fun {p vs} q => by
    obtain ⟨its, rv, pl, hz⟩ := I.list q
    have hT : s.TypeIs (.ref p) "list" := pl.isList.typeIs
    exact ⟨fun P' h' => wpAny_tryCompare_declines hT PySem.F.slot_list_eq (call_meets PySem.F.slot_list_eq hT PySem.F.entry_list_eq (PySem.F.args_list_eq_2 _ _) (PySem.OwR.list_eq p (Eq.nb "list" (by decide))) ⟨⟨I.kIn, J⟩, rfl, h'⟩),
      fun P' h' => wpAny_tryCompare_declines hT PySem.F.slot_list_ne (call_meets PySem.F.slot_list_ne hT PySem.F.entry_list_ne (PySem.F.args_list_ne_2 _ _) (PySem.OwR.list_ne p (Eq.nb "list" (by decide))) ⟨⟨I.kIn, J⟩, rfl, h'⟩)⟩
  have sqT : ∀ {p : Addr} {vs : List V}, SqT X.K H p vs → PySem.OwR.Declines X.prog X.w A E s (.ref p) "__eq__" a' ∧ PySem.OwR.Declines X.prog X.w A E s (.ref p) "__ne__" a' := fun {p vs} q => by
    obtain ⟨its, rv, pl, hz⟩ := I.tuple q
    have hT : s.TypeIs (.ref p) "tuple" := by
      obtain ⟨o, e1, e2, _⟩ := pl
      exact ⟨o, e1, e2⟩
    exact ⟨fun P' h' => wpAny_tryCompare_declines hT PySem.F.slot_tuple_eq (call_meets PySem.F.slot_tuple_eq hT PySem.F.entry_tuple_eq (PySem.F.args_tuple_eq_2 _ _) (PySem.OwR.tup_eq p (Eq.nb "tuple" (by decide))) ⟨⟨I.kIn, J⟩, rfl, h'⟩),
      fun P' h' => wpAny_tryCompare_declines hT PySem.F.slot_tuple_ne (call_meets PySem.F.slot_tuple_ne hT PySem.F.entry_tuple_ne (PySem.F.args_tuple_ne_2 _ _) (PySem.OwR.tup_ne p (Eq.nb "tuple" (by decide))) ⟨⟨I.kIn, J⟩, rfl, h'⟩)⟩
  unfold D.bty at et
  cases rv with
  | non =>
    obtain rfl : u = Value.none := ru
    exact ⟨rfl, rfl, fun P' h' => wpAny_tryCompare_declines (show s.TypeIs .none "NoneType" from rfl) PySem.F.slot_NoneType_eq (call_gives PySem.F.slot_NoneType_eq rfl PySem.F.entry_NoneType_eq (PySem.F.args_NoneType_eq_2 _ _) (SeqAt.NoneType___eq___none_ref_0 a') ⟨rfl, h'⟩),
      fun P' h' => wpAny_tryCompare_declines (show s.TypeIs .none "NoneType" from rfl) PySem.F.slot_NoneType_ne (call_gives PySem.F.slot_NoneType_ne rfl PySem.F.entry_NoneType_ne (PySem.F.args_NoneType_ne_2 _ _) (SeqAt.NoneType___ne___none_ref_0 a') ⟨rfl, h'⟩)⟩
  | bl b =>
    obtain rfl : u = Value.bool b := ru
    exact ⟨rfl, rfl, fun P' h' => wpAny_tryCompare_declines (show s.TypeIs (.bool b) "bool" from rfl) PySem.F.slot_bool_eq (call_meets PySem.F.slot_bool_eq (show s.TypeIs (.bool b) "bool" from rfl) PySem.F.entry_int_eq (PySem.F.args_int_eq_2 _ _) (PySem.OwR.int_eq_bool (C := Cl) b dt) ⟨hx, rfl, h'⟩),
      fun P' h' => wpAny_tryCompare_declines (show s.TypeIs (.bool b) "bool" from rfl) PySem.F.slot_bool_ne (call_meets PySem.F.slot_bool_ne (show s.TypeIs (.bool b) "bool" from rfl) PySem.F.entry_int_ne (PySem.F.args_int_ne_2 _ _) (PySem.OwR.int_ne_bool (C := Cl) b dt) ⟨hx, rfl, h'⟩)⟩
  | int i =>
    obtain ⟨tt, rfl⟩ := ru
    exact ⟨rfl, rfl, fun P' h' => wpAny_tryCompare_declines (typeIs_int s i tt) PySem.F.slot_int_eq (call_meets PySem.F.slot_int_eq (typeIs_int s i tt) PySem.F.entry_int_eq (PySem.F.args_int_eq_2 _ _) (PySem.OwR.int_eq_int (C := Cl) i tt dt) ⟨hx, rfl, h'⟩),
      fun P' h' => wpAny_tryCompare_declines (typeIs_int s i tt) PySem.F.slot_int_ne (call_meets PySem.F.slot_int_ne (typeIs_int s i tt) PySem.F.entry_int_ne (PySem.F.args_int_ne_2 _ _) (PySem.OwR.int_ne_int (C := Cl) i tt dt) ⟨hx, rfl, h'⟩)⟩
  | str z =>
    obtain ⟨tt, rfl⟩ := ru
    exact ⟨rfl, rfl, fun P' h' => wpAny_tryCompare_declines (typeIs_str s z tt) PySem.F.slot_str_eq (call_meets PySem.F.slot_str_eq (typeIs_str s z tt) PySem.F.entry_str_eq (PySem.F.args_str_eq_2 _ _) (PySem.OwR.str_eq (C := Cl) z tt dt) ⟨hx, rfl, h'⟩),
      fun P' h' => wpAny_tryCompare_declines (typeIs_str s z tt) PySem.F.slot_str_ne (call_meets PySem.F.slot_str_ne (typeIs_str s z tt) PySem.F.entry_str_ne (PySem.F.args_str_ne_2 _ _) (PySem.OwR.str_ne (C := Cl) z tt dt) ⟨hx, rfl, h'⟩)⟩
  | tup q r =>
    obtain rfl : u = Value.ref _ := ru
    exact ⟨oneThing_ref .., oneThing_ref .., sqT (sqT_le R.sub q)⟩
  | fl q r =>
    obtain rfl : u = Value.ref _ := ru
    exact ⟨oneThing_ref .., oneThing_ref .., sqL (SqL.of (R.sub _ _ q))⟩
  | kl q r =>
    obtain rfl : u = Value.ref _ := ru
    exact ⟨oneThing_ref .., oneThing_ref .., sqL (sqL_le R.sub q)⟩
  | obj q r => cases et
  | cls c => cases et
  | ty t => cases et
  | sl q => cases et
  | @ref a n q =>
    obtain rfl : u = Value.ref _ := ru
    refine ⟨oneThing_ref .., oneThing_ref .., ?_⟩
    have ln : n < h.length := by
      rw [← R.len]
      exact (List.getElem?_eq_some_iff.mp q).1
    obtain ⟨o, e, rr⟩ := R.cel n a h[n] q (List.getElem?_eq_getElem ln)
    have e0 : (h[n]?).getD .non = h[n] := by rw [List.getElem?_eq_getElem ln]; rfl
    unfold D.tag D.der at et
    dsimp only at et
    rw [e0] at et
    generalize h[n] = c at rr et
    cases rr with
    | lst r => exact sqL (SqL.of e)
    | obj r => cases et
end
end Pk

/-! Pk30: x is True, x is False. -/
namespace Pk
open PySem PySem.Spec L2
def cIsB (_ : Hh) : D → D → Option Bool
  | .bl a, .bl b => some (decide (a = b))
  | _, _ => none
def cIsnB (_ : Hh) : D → D → Option Bool
  | .bl a, .bl b => some (!decide (a = b))
  | _, _ => none
section
variable {X : Cx} {T : Tb}
end
end Pk

/-! Pk31: == of two tuples whose items are instances with an own __eq__. -/
namespace PySem
namespace OwT
open PySem.W PySem.Calls PyProof.Rows PySem.SeqAt
open PySem.AutoSeq1 (wpAny_loadPart')
section
variable {prog : Program} {w : World} {A : Around} {R : Result → Shared → Prop}
end
end OwT
end PySem
namespace Pk
open PySem PySem.Spec L2
mutual
/-- whether two may be one and the same object, as far as their values tell -/
def D.sim : D → D → Bool
  | .int i, .int j => i == j
  | .bl a, .bl b => a == b
  | .str a, .str b => a == b
  | .tup l, .tup m => D.sims l m
  | _, _ => true
def D.sims : List D → List D → Bool
  | d :: ds, e :: es => D.sim d e && D.sims ds es
  | [], [] => true
  | _, _ => false
end
section
variable {X : Cx} {T : Tb} {W : WX} {k j : Nat} {w : Wd} {pins : List (Addr × Obj)} {σ : L2.St} {H : Hp} {s : Shared}
mutual
theorem sim_rel (I : Inv X pins σ H s) (sub : ∀ a o, w.F a = some o → H a = some o) : ∀ {v : V} {d : D}, RelD X.K T w v d → ∀ {e : D}, RelD X.K T w v e → D.sim d e = true
  | _, _, .tup h1 t1, _, r2 => by
    cases r2 with
    | tup h2 t2 =>
      have := I.tuple_inj (sqT_le sub h1) (sqT_le sub h2)
      subst this
      exact sims_rel I sub t1 t2
    | _ => rfl
  | _, _, .int i, _, r2 => by cases r2; simp [D.sim]
  | _, _, .bl b, _, r2 => by cases r2; simp [D.sim]
  | _, _, .str z, _, r2 => by cases r2; simp [D.sim]
  | _, _, .non, _, _ => rfl
  | _, _, .fl _ _, _, _ => rfl
  | _, _, .kl _ _, _, _ => rfl
  | _, _, .obj _ _, _, _ => rfl
  | _, _, .ref _, _, _ => rfl
  | _, _, .cls _, _, _ => rfl
  | _, _, .ty _, _, _ => rfl
  | _, _, .sl _, _, _ => rfl
theorem sims_rel (I : Inv X pins σ H s) (sub : ∀ a o, w.F a = some o → H a = some o) : ∀ {vs : List V} {ds : List D}, RelDs X.K T w vs ds → ∀ {es : List D}, RelDs X.K T w vs es → D.sims ds es = true
  | _, _, .nil, _, r2 => by cases r2; rfl
  | _, _, .cons h t, _, r2 => by
    cases r2 with
    | cons h2 t2 =>
      show (_ && _) = true
      rw [sim_rel I sub h h2, sims_rel I sub t t2]
      rfl
end
/-- one pair of items -/
noncomputable def pPair (mt : Nat → Option Fn) (nf : Nat → Nat) (h : Hh) : D → D → Option Bool
  | .obj c l, .obj c' m => if c = c' ∧ l.length = nf c ∧ m.length = nf c then match mt c with
      | some F => match F [.obj c l, .obj c m] h with
        | .ok (.bl b) _ h' => open Classical in if h' = h ∧ (b = true ∨ D.sims l m = false) then some b else none
        | _ => none
      | none => none
    else none
  | _, _ => none
noncomputable def pEqs (mt : Nat → Option Fn) (nf : Nat → Nat) (h : Hh) : List D → List D → Option Bool
  | d :: ds, e :: es => (pPair mt nf h d e).bind fun b => if b then pEqs mt nf h ds es else some false
  | [], [] => some true
  | _, _ => some false
noncomputable def cEqT (mt : Nat → Option Fn) (nf : Nat → Nat) (h : Hh) : D → D → Option Bool
  | .tup l, .tup m => pEqs mt nf h l m
  | _, _ => none
noncomputable def gEqT (mt : Nat → Option Fn) (nf : Nat → Nat) (x y : D) : M Bool := fun fr h => M.opt (cEqT mt nf h x y) fr h
structure NfF (T : Tb) (mt : Nat → Option Fn) (nf : Nat → Nat) : Prop where
  ex : ∀ c F, mt c = some F → (T.fld c).length = nf c
end
end Pk

/-! Pk32: several except clauses, each with a name or without. -/
namespace L2
open PySem PySem.Spec PyProof.Rows
/-- where a clause's suite ends: its name's slot is emptied -/
def endsAt (oi : Option Nat) (D : Ends) : Ends := match oi with
  | none => D
  | some i => { nx := fun σ' H' => D.nx (σ'.set i none) H', rt := D.rt, bk := fun σ' H' => D.bk (σ'.set i none) H', ct := fun σ' H' => D.ct (σ'.set i none) H' }
def slotAtN (oi : Option Nat) (σ : St) (a : Addr) : St := match oi with
  | none => σ
  | some i => σ.set i (some (.ref a))
abbrev Clause := Value × Option Nat × (Addr → Value → Option Addr → TS)
def wAny (K : PySem.W.Frag) (Wout : WX) (D : Ends) : List Clause → WX
  | [] => Wout
  | (c, oi, ts) :: r => fun cls d σ H => ∃ b, PySem.W.exmOne K cls c = some b ∧ (b = true → ∀ a, H a = none → ts a cls d (endsAt oi D) (slotAtN oi σ a) H) ∧ (b = false → wAny K Wout D r cls d σ H)
inductive NameAt (X : Cx) : Option Str → Option Nat → Prop
  | no : NameAt X none none
  | at_ {n : Str} {i : Nat} (hi : X.N[i]? = some n) (hln : X.env.kindOf n = some .local) : NameAt X (some n) (some i)
inductive ClausesOk (X : Cx) : List ExceptHandler → List Clause → Prop
  | nil : ClausesOk X [] []
  | cons {x : Str} {c : Value} {ts : Addr → Value → Option Addr → TS} {b₀ : Stmt} {suite : List Stmt} {np pos' : Pos} {nm : Option Str} {oi : Option Nat} {hds : List ExceptHandler} {l : List Clause} (hc : Names X x c) (hn : NameAt X nm oi)
      (hsu : ∀ (a : Addr) (oe : Obj) (cls : Value) (d : Option Addr) (pn : List (Addr × Obj)), Zc cls d oe → (∃ vs, oe.data = .fields vs) → PSs (X.suite a ((a, oe) :: pn)) (b₀ :: suite) (ts a cls d)) (r : ClausesOk X hds l) :
      ClausesOk X (.ExceptHandler (some (.Name x np)) nm (b₀ :: suite) pos' :: hds) ((c, oi, ts) :: l)
section
variable {X : Cx} {body : List Stmt} {h₀ : ExceptHandler} {hds : List ExceptHandler} {l : List Clause} {pos : Pos} {tb : WX → TS} {Wout : WX}
end
end L2
namespace Pk
open PySem PySem.Spec L2
abbrev Hd := Option Nat × (Nat → Option Bool) × (Exn → M Fl)
/-- the first clause that takes the exception -/
def pickN : List Hd → Exn → M Fl
  | [], x => fun fr h => .exc x fr h
  | (oi, cond, ms) :: r, x => fun fr h => match cond x.c with
    | some true => match oi with
      | some i => if i < fr.length then endA i (ms x (fr.set i none) h) else .err
      | none => ms x fr h
    | some false => pickN r x fr h
    | none => .err
def mTryN (cs : List Hd) (mb : M Fl) : M Fl := fun fr h => match mb fr h with
  | .exc x fr1 h1 => pickN cs x fr1 h1
  | r => r
section
variable {X : Cx} {T : Tb} {W : WX} {k : Nat} {body : List Stmt} {h₀ : ExceptHandler} {hds : List ExceptHandler} {pos : Pos} {mb : M Fl} {cs : List Hd}
inductive SimHds (X : Cx) (T : Tb) (W : WX) : List ExceptHandler → List Hd → Prop
  | nil : SimHds X T W [] []
  | named {x n : Str} {c : Value} {cond : Nat → Option Bool} {b₀ : Stmt} {suite : List Stmt} {np pos' : Pos} {i : Nat} {ms : Exn → M Fl} {hds : List ExceptHandler} {l : List Hd} (hi : X.N[i]? = some n) (hln : X.env.kindOf n = some .local) (hc : Names X x c)
      (hcond : ∀ cc b, cond cc = some b → PySem.W.exmOne X.K (.ref (T.cad cc)) c = some b)
      (hsu : ∀ (a : Addr) (oe : Obj) (cls : Value) (d : Option Addr) (pn : List (Addr × Obj)) (y : Exn), Su X T i a oe cls d pn y → SqSs (PX X.K T i a y cls d) (X.suite a ((a, oe) :: pn)) T W (b₀ :: suite) (ms y))
      (r : SimHds X T W hds l) : SimHds X T W (.ExceptHandler (some (.Name x np)) (some n) (b₀ :: suite) pos' :: hds) ((some i, cond, ms) :: l)
  | only {x : Str} {c : Value} {cond : Nat → Option Bool} {b₀ : Stmt} {suite : List Stmt} {np pos' : Pos} {ms : Exn → M Fl} {hds : List ExceptHandler} {l : List Hd} (hc : Names X x c)
      (hcond : ∀ cc b, cond cc = some b → PySem.W.exmOne X.K (.ref (T.cad cc)) c = some b)
      (hsu : ∀ (a : Addr) (oe : Obj) (pn : List (Addr × Obj)) (y : Exn), SqSs (fun _ _ => True) (X.suite a ((a, oe) :: pn)) T W (b₀ :: suite) (ms y))
      (r : SimHds X T W hds l) : SimHds X T W (.ExceptHandler (some (.Name x np)) none (b₀ :: suite) pos' :: hds) ((none, cond, ms) :: l)
end
end Pk

/-! Pk33: isinstance(e.f, type), list(e.f), tuple(e.f) in a suite. -/
namespace Pk
open PySem PySem.Spec L2
section
variable {P : Wd → L2.St → Prop} {X : Cx} {T : Tb} {W : WX} {a b : Expr} {ma mb : M D} {pos pf : Pos} {x : Str} {tab : Tg → Tg → Option Bool}
end
end Pk

/-! Pk34: repr of a truth value, bool of an integer or a truth value. -/
namespace Pk
open PySem PySem.Spec L2
def bRepr (_ : Hh) : D → Option D
  | .bl b => some (.str (if b then "True" else "False"))
  | _ => none
def bBool1 (_ : Hh) : D → Option D
  | .bl b => some (.bl b)
  | .int i => some (.bl (i != 0))
  | _ => none
section
variable {X : Cx} {T : Tb} {W : WX} {a : Expr} {ma : M D} {pos pf : Pos}
end
end Pk

/-! Pk35: texts of own errors: "..." + " ".join(f), f-strings. -/
namespace Pk
open PySem PySem.Spec PyProof.Rows L2
/-- the text that an __init__ hands on -/
def exArg : List Stmt → Expr
  | .Expr (.Call _ [e] _ _) _ :: _ => e
  | _ => .Name "" ⟨0, 0, 0, 0⟩
/-- the strings of a tree's items -/
def strsD : List D → Option (List Str)
  | [] => some []
  | .str s :: r => (strsD r).map (s :: ·)
  | _ => none
/-- a tuple of short words -/
def okWords (K : PySem.W.Frag) (H : Hp) (vs : List V) : Prop := ∃ (a : Addr) (ss : List Str), vs = [.ref a] ∧ SqT K H a (ss.map V.str) ∧ (ss.map (·.length)).sum + ss.length ≤ 1000
def chkWords (ds : List D) : Bool := match ds with
  | [.tup l] => match strsD l with
    | some ss => decide ((ss.map (·.length)).sum + ss.length ≤ 1000)
    | none => false
  | _ => false
/-! ### f-strings -/
inductive JP (scope : Scope) (m : Str → Option Value) : List Expr → List Str → Prop
  | nil : JP scope m [] []
  | con {z : Str} {j : Nat} {pos : Pos} {es : List Expr} {ys : List Str} (hz : z.length ≤ 2000) (r : JP scope m es ys) : JP scope m (.Constant (.str z) j pos :: es) (z :: ys)
  | int {f : Str} {i : Int} {t : Tok} {pos pos2 : Pos} {es : List Expr} {ys : List Str} (hl : scope.names.lookup f = some .local) (hd : (f == ("__debug__" : Str)) = false) (hm : m f = some (.int i t)) (hi : i.natAbs.log2 < 1920) (r : JP scope m es ys) : JP scope m (.FormattedValue (.Name f pos) (-1) none pos2 :: es) (toString i :: ys)
  | str {f y : Str} {t : Tok} {pos pos2 : Pos} {es : List Expr} {ys : List Str} (hl : scope.names.lookup f = some .local) (hd : (f == ("__debug__" : Str)) = false) (hm : m f = some (.str y t)) (hy : y.length ≤ 2000) (r : JP scope m es ys) : JP scope m (.FormattedValue (.Name f pos) (-1) none pos2 :: es) (y :: ys)
section
variable {scope : Scope} {qual : Str} {m : Str → Option Value} {L fI cda cc : Addr} {prog : Program} {w : World} {A' : Around} {h : Heap} {g : Array GenState} {d : Drawn} {os : OsState} {E' : Value → Shared → Prop}
end
end Pk

/-! Pk36: except of a class or of four classes, with a name or without. -/
namespace L2
open PySem PySem.Spec PyProof.Rows
/-- what a clause's test tells of the caught error's class -/
def TestOk (X : Cx) (te : Expr) (tst : Value → Option Bool) : Prop :=
  ∀ (a : Addr) (oe : Obj) (pn pins : List (Addr × Obj)) (σ : St) (H : Hp) (s : Shared) (cls : Value) (b : Bool) (Q : Bool → Shared → Prop) (E : Value → Shared → Prop), Inv (X.suite a ((a, oe) :: pn)) pins σ H s → PySem.W.Looks (model X.prog X.w) s.heap (typeOf (.ref a)) cls → tst cls = some b →
    (∀ h', (∀ q o, s.heap.get? q = some o → h'.get? q = some o) → Q b { s with heap := h' }) →
    wpAny (model X.prog X.w) (X.A.mark (some (.ref a))) (eval te X.env) (fun c s1 => wpAny (model X.prog X.w) (X.A.mark (some (.ref a))) (excMatches (.ref a) c) Q E s1) E s
abbrev ClauseT := (Value → Option Bool) × Option Nat × (Addr → Value → Option Addr → TS)
def wAnyT (Wout : WX) (D : Ends) : List ClauseT → WX
  | [] => Wout
  | (c, oi, ts) :: r => fun cls d σ H => ∃ b, c cls = some b ∧ (b = true → ∀ a, H a = none → ts a cls d (endsAt oi D) (slotAtN oi σ a) H) ∧ (b = false → wAnyT Wout D r cls d σ H)
inductive ClausesT (X : Cx) : List ExceptHandler → List ClauseT → Prop
  | nil : ClausesT X [] []
  | cons {te : Expr} {c : Value → Option Bool} {ts : Addr → Value → Option Addr → TS} {b₀ : Stmt} {suite : List Stmt} {pos' : Pos} {nm : Option Str} {oi : Option Nat} {hds : List ExceptHandler} {l : List ClauseT} (hc : TestOk X te c) (hn : NameAt X nm oi)
      (hsu : ∀ (a : Addr) (oe : Obj) (cls : Value) (d : Option Addr) (pn : List (Addr × Obj)), Zc cls d oe → (∃ vs, oe.data = .fields vs) → PSs (X.suite a ((a, oe) :: pn)) (b₀ :: suite) (ts a cls d)) (r : ClausesT X hds l) :
      ClausesT X (.ExceptHandler (some te) nm (b₀ :: suite) pos' :: hds) ((c, oi, ts) :: l)
section
variable {X : Cx} {body : List Stmt} {h₀ : ExceptHandler} {hds : List ExceptHandler} {l : List ClauseT} {pos : Pos} {tb : WX → TS} {Wout : WX}
end
end L2
namespace Pk
open PySem PySem.Spec L2
section
variable {X : Cx} {T : Tb} {W : WX} {k : Nat} {body : List Stmt} {h₀ : ExceptHandler} {hds : List ExceptHandler} {pos : Pos} {mb : M Fl} {cs : List Hd}
inductive SimHdT (X : Cx) (T : Tb) (W : WX) : List ExceptHandler → List Hd → Prop
  | nil : SimHdT X T W [] []
  | named {te : Expr} {n : Str} {tst : Value → Option Bool} {cond : Nat → Option Bool} {b₀ : Stmt} {suite : List Stmt} {pos' : Pos} {i : Nat} {ms : Exn → M Fl} {hds : List ExceptHandler} {l : List Hd} (hi : X.N[i]? = some n) (hln : X.env.kindOf n = some .local) (hc : TestOk X te tst)
      (hcond : ∀ cc b, cond cc = some b → tst (.ref (T.cad cc)) = some b)
      (hsu : ∀ (a : Addr) (oe : Obj) (cls : Value) (d : Option Addr) (pn : List (Addr × Obj)) (y : Exn), Su X T i a oe cls d pn y → SqSs (PX X.K T i a y cls d) (X.suite a ((a, oe) :: pn)) T W (b₀ :: suite) (ms y))
      (r : SimHdT X T W hds l) : SimHdT X T W (.ExceptHandler (some te) (some n) (b₀ :: suite) pos' :: hds) ((some i, cond, ms) :: l)
  | only {te : Expr} {tst : Value → Option Bool} {cond : Nat → Option Bool} {b₀ : Stmt} {suite : List Stmt} {pos' : Pos} {ms : Exn → M Fl} {hds : List ExceptHandler} {l : List Hd} (hc : TestOk X te tst)
      (hcond : ∀ cc b, cond cc = some b → tst (.ref (T.cad cc)) = some b)
      (hsu : ∀ (a : Addr) (oe : Obj) (pn : List (Addr × Obj)) (y : Exn), SqSs (fun _ _ => True) (X.suite a ((a, oe) :: pn)) T W (b₀ :: suite) (ms y))
      (r : SimHdT X T W hds l) : SimHdT X T W (.ExceptHandler (some te) none (b₀ :: suite) pos' :: hds) ((none, cond, ms) :: l)
/-- an error class without an __init__ of its own -/
def basX (K : PySem.W.Frag) (C : Addr) : Bool := PySem.W.excIn K C [.type "ValueError", .type "Exception", .type "BaseException", .type "object"] "ValueError.__new__" && (PySem.W.keepIn K (.ref C) && (decide (PySem.W.subIn K (.ref C) (.type "BaseException") = some true) && decide (PySem.W.typeIn K (.ref C) = some (.type "type"))))
structure ExB (K : PySem.W.Frag) (C : Addr) : Prop where
  q : PySem.W.excIn K C [.type "ValueError", .type "Exception", .type "BaseException", .type "object"] "ValueError.__new__" = true
  kC : PySem.W.keepIn K (.ref C) = true
  exC : PySem.W.subIn K (.ref C) (.type "BaseException") = some true
  tyC : PySem.W.typeIn K (.ref C) = some (.type "type")
/-- raise C(e): C made by the base class -/
def mRaiseB (c : Nat) (ma : M D) : M Fl := ma.bind fun _ fr h => .exc ⟨c, []⟩ fr h
end
/-! ### + in a suite -/
section
variable {P : Wd → L2.St → Prop} {X : Cx} {T : Tb} {W : WX} {a b e : Expr} {m ma mb : M D} {pos : Pos}
end
end Pk

/-! Pk37: zip of two lists, of two tuples. -/
namespace Pk
open PySem PySem.Spec L2
def zipD : List D → List D → List D
  | a :: as, b :: bs => .tup [a, b] :: zipD as bs
  | _, _ => []
/-- both lists, or both tuples -/
def zipK : D → D → Option (List D)
  | .tup l, .tup m => some (zipD l m)
  | .fl l, .fl m => some (zipD l m)
  | .fl l, .kl m => some (zipD l m)
  | .kl l, .fl m => some (zipD l m)
  | .kl l, .kl m => some (zipD l m)
  | _, _ => none
def mZip (ma mb : M D) : M (List D) := ma.bind fun x => mb.bind fun y => M.opt (zipK x y)
section
variable {X : Cx} {T : Tb} {W : WX} {k kk : Nat} {pos p tpos : Pos} {elts : List Expr} {a b : Expr} {ma mb : M D}
end
/-! ### comparisons in suites -/
section
variable {P : Wd → L2.St → Prop} {X : Cx} {T : Tb} {W : WX} {k : Nat} {a b e : Expr} {m ma mb : M D} {pos : Pos}
end
/-! ### a, b = a tuple or a list; [..] * n -/
def tgSq (n : Nat) (gs : List D → M Unit) (d : D) : M Unit := match d with
  | .tup l => if l.length = n then gs l else M.opt none
  | .fl l => if l.length = n then gs l else M.opt none
  | _ => M.opt none
def bRep (_ : Hh) : D → D → Option D
  | .fl l, .int k => if 0 ≤ k ∧ k < 1000 ∧ l.length ≤ 100 then some (.nl (List.replicate k.toNat l).flatten) else none
  | _, _ => none
section
variable {X : Cx} {T : Tb} {W : WX} {k kk n : Nat} {is : List Nat} {tgs : List Expr} {gs : List D → M Unit} {pos : Pos} {a b : Expr} {ma mb : M D}
end
/-! ### a, b, c = x, y, z -/
def putS : List Nat → List V → L2.St → L2.St
  | i :: is, v :: vs, σ => putS is vs (σ.set i (some v))
  | _, _, σ => σ
section
variable {X : Cx} {T : Tb} {W : WX} {k : Nat} {a b c : Expr} {pos : Pos}
end
end Pk

/-! Pk38: max of a list or of a tuple of integers. -/
namespace Pk
open PySem PySem.Spec PyProof.Rows L2
section
variable {prog : Program} {w : World} {A : Around} {E : Value → Shared → Prop} {s : Shared} {l : Addr} {its : List Value} {ns : List Int} {Q : Value → Shared → Prop}
end
def rMaxT (K : PySem.W.Frag) : List V → Hp → VK → Prop := fun vs H Q => ∃ (a : Addr) (ns : List Int), vs = [V.ref a] ∧ SqT K H a (ns.map V.int) ∧ 0 < ns.length ∧ ∀ m, m ∈ ns → (∀ y, y ∈ ns → y ≤ m) → Q (.int m) H
section
variable {X : Cx} {T : Tb} {W : WX} {k : Nat} {e a b c : Expr} {es : List Expr} {m ma mb mc : M D} {pos pf : Pos}
def bMaxS (h : Hh) (d : D) : Option D := match d with
  | .tup l => match D.ints l with
    | some (a :: r) => some (.int (maxL a r))
    | _ => none
  | _ => bMax1 h d
end
end Pk

/-! Pk39: {x for x in <tuple of integers> if x > c}. -/
namespace Pk
open PySem PySem.Spec PyProof.Rows L2
section
variable {P : Program} {w : World} {A : Around} {E : Value → Shared → Prop} {s : Shared} {env : Env} {x : Str} {pe pt px p0 pc pos : Pos} {iter : Expr} {scope : Scope} {cl : List (Str × Addr)} {c : Int} {k0 : Nat} {Q : Value → Shared → Prop}
/-- the members so far -/
def setS (ns : List Int) (c : Int) (i : Nat) (k : Int) : Bool := decide (k ∈ (ns.take i).filter fun k => decide (k > c))
end
/-! ### ascending lists without duplicates -/
def insU (a : Int) : List Int → List Int
  | [] => [a]
  | b :: l => if a < b then a :: b :: l else if a = b then b :: l else b :: insU a l
def sortU : List Int → List Int
  | [] => []
  | a :: l => insU a (sortU l)
/-! ### the reflected rules -/
section
variable {X : L2.Cx} {T : Tb} {W : WX} {k : Nat} {a iter : Expr} {ma : M D} {pf pos pe pt px p0 pc pos2 : Pos} {x : Str} {scope : Scope} {cl : List (Str × Addr)} {c : Int} {k0 : Nat}
/-- a set of the members of some ints above c -/
def vSt (w0 : World) (c : Int) : VRel V D := fun _ _ _ _ _ H _ v d => ∃ p is n, v = .ref p ∧ d = .fl (is.map .int) ∧ H p = some (SetO w0 p (setS is c is.length) n) ∧ n ≤ is.length ∧ is.length ≤ 50
def bTI : D → Option D
  | .tup l => match D.ints l with
    | some is => if is.length ≤ 50 then some (.fl (is.map .int)) else none
    | none => none
  | _ => none
def bSortU (c : Int) (_ : Hh) (d : D) : Option D := match d with
  | .fl l => match D.ints l with
    | some is => some (.nl ((sortU (is.filter fun k => decide (k > c))).map .int))
    | none => none
  | _ => none
/-! ### sorted of a list of ints -/
def insL (a : Int) : List Int → List Int
  | [] => [a]
  | b :: l => if a ≤ b then a :: b :: l else b :: insL a l
def sortL : List Int → List Int
  | [] => []
  | a :: l => insL a (sortL l)
def bSorted (h : Hh) (d : D) : Option D := match d.lints h with
  | some is => if is.length < 64 then some (.nl ((sortL is).map .int)) else none
  | none => none
end
end Pk

/-! Pk40: loops over a cell that stays as it is while they run; zip of a cell and a frozen list. -/
namespace Pk
open PySem PySem.Spec L2
/-- cell n holds l: the items ds are handed out as long as it does -/
def vJC : VRel It (Nat × List D × List D) := fun K T B _ w _ _ J x => ∀ i w1 σ1 H1 fr1 h1, w.le w1 → Rel K T B w1 σ1 H1 fr1 h1 → h1[x.1]? = some (.nl x.2.1) →
  (x.2.2.length ≤ i → J.stop i H1) ∧ ∀ d, x.2.2[i]? = some d → J.go i H1 ∧ ∀ y H2, J.yld i H1 y H2 → ∃ w2, w1.le w2 ∧ Rel K T B w2 σ1 H2 fr1 h1 ∧ RelD K T w2 y d
open Classical in
noncomputable def mForC (n : Nat) (l : List D) (g : D → M Unit) (b : M Fl) : List D → M Fl
  | [] => fun fr h => if h[n]? = some (.nl l) then .ok .nx fr h else .err
  | d :: ds => fun fr h => if h[n]? = some (.nl l) then (match g d fr h with
    | .ok _ fr h => match b fr h with
      | .ok .nx fr h => mForC n l g b ds fr h
      | .ok .ct fr h => mForC n l g b ds fr h
      | .ok .brk fr h => .ok .nx fr h
      | .ok (.rt d) fr h => .ok (.rt d) fr h
      | .exc x fr h => .exc x fr h
      | .err => .err
    | _ => .err) else .err
noncomputable def mForIC (li : M (Nat × List D × List D)) (g : D → M Unit) (b : M Fl) : M Fl := li.bind fun x => mForC x.1 x.2.1 g b x.2.2
/-- what a cell holds -/
def cellL (h : Hh) (d : D) : Option (Nat × List D) := match d with
  | .ref n => match h[n]? with
    | some (.nl l) => some (n, l)
    | _ => none
  | _ => none
def mItC (m : M D) : M (Nat × List D × List D) := m.bind fun d fr h => M.opt ((cellL h d).map fun x => (x.1, x.2, x.2)) fr h
def zipC (h : Hh) (d e : D) : Option (Nat × List D × List D) := match cellL h d, e with
  | some (n, l), .fl m => some (n, l, zipD l m)
  | _, _ => none
def mZipC (ma mb : M D) : M (Nat × List D × List D) := ma.bind fun d => mb.bind fun e fr h => M.opt (zipC h d e) fr h
section
variable {X : Cx} {T : Tb} {W : WX} {k kk : Nat} {pos p tpos : Pos} {tg iter a c : Expr} {elts : List Expr} {body : List Stmt} {g : D → M Unit} {b : M Fl} {is : List Nat} {li : M (Nat × List D × List D)} {ma mb : M D}
end
end Pk

/-! Pk41: slices as values: o[a:b] by an own __getitem__, isinstance of a slice, a list's item or part by such a value, list(range(..)), x += e. -/
namespace PySem
namespace SlK
open Sem (wp)
open PySem.W PySem.Calls PyProof.Rows
theorem owner_sl : Manifest.owners.lookup (String.ofList ['e', 'c', 'i', 'l', 's'].reverse) = some Manifest.sig_slice := by kernel_rfl
theorem ga_sl : Slot "slice" "__getattribute__" "slice.__getattribute__" :=
  Slot.of (owner := "slice") (n := "__getattribute__") (by rw [typeLookup_type, builtinLookup_eq_fast] <;> kernel_rfl) (by decide +kernel) (by decide +kernel) (by decide +kernel) (by first | exact Or.inl (by decide +kernel) | exact Or.inr (by decide +kernel)) (by rw [isSubtype_type] <;> kernel_rfl)
theorem args_ga_sl (a b : Value) : argsOk "slice.__getattribute__" ⟨[a, b], []⟩ := by
  unfold argsOk
  rw [signature?_of (id := "slice.__getattribute__") (n := ['_', '_', 'e', 't', 'u', 'b', 'i', 'r', 't', 't', 'a', 't', 'e', 'g', '_', '_']) (o := ['e', 'c', 'i', 'l', 's']) (by kernel_rfl) owner_sl]
  kernel_rfl
theorem entry_ga_sl : entryFor table "slice.__getattribute__" = some Builtin.«object.__getattribute__» :=
  entryFor_alias (id' := "object.__getattribute__") (by kernel_rfl) (by first | rfl | decide +kernel) (by decide +kernel) (by kernel_rfl)
theorem lk_sl_class : typeLookup (.type "slice") "__class__" = pure (some (.builtin "object.__class__")) := by
  rw [typeLookup_type]
  rw [builtinLookup_eq_fast]
  kernel_rfl
theorem sub_sl_class : isSubtype (.type "slice") (.type (".".intercalate ("object.__class__".cutAt '.').dropLast)) = pure true := by
  rw [F.owner_object_class]
  rw [isSubtype_type]
  kernel_rfl
section
variable {prog : Program} {w : World} {A : Around} {E : Value → Shared → Prop} {h : Heap} {g : Array GenState} {d : Drawn} {t : Nat} {os : OsState} {a : Addr} {o : Obj}
theorem cls_get_sl {R : Result → Shared → Prop} (hx : h.get? a = some o) (hc : o.cls = .type "slice") (hq : R (.ok (.ret (.type "slice"))) ⟨h, g, d, t, os⟩) :
    codeAny (model prog w) A (.call (.builtin "getset_descriptor.__get__") ⟨[.builtin "object.__class__", .ref a, .type "slice"], []⟩) R ⟨h, g, d, t, os⟩ := by
  have hT : (⟨h, g, d, t, os⟩ : Shared).TypeIs (.ref a) "slice" := ⟨_, hx, hc⟩
  have h5 : (⟨h, g, d, t, os⟩ : Shared).TypeIs (.builtin "object.__class__") "getset_descriptor" := F.typeOf_object_class
  have f8 := sub_sl_class
  refine codeAny_call_builtin F.slot_gs_get.plain F.entry_gs_get (F.slot_gs_get.check _ _ _ _ _ _ _ _ h5 (F.args_gs_get _ _ _) ?_)
  repeat (any_goals (first | (assumption; done) | wp_step))
  refine ⟨Code.quiet_builtin _ (by decide +kernel), codeAny_builtin F.entry_object_class ?_⟩
  repeat (any_goals (first | (assumption; done) | wp_step))
theorem cls_entry_sl {tk : Tok} {Q : Fin → Shared → Prop} (hx : h.get? a = some o) (hc : o.cls = .type "slice") (hq : Q (.done (.ret (.type "slice"))) ⟨h, g, d, t, os⟩) :
    wpAny (model prog w) A (Builtin.«object.__getattribute__» ⟨[.ref a, .str "__class__" tk], []⟩) Q E ⟨h, g, d, t, os⟩ := by
  have hT : (⟨h, g, d, t, os⟩ : Shared).TypeIs (.ref a) "slice" := ⟨_, hx, hc⟩
  have h5 : (⟨h, g, d, t, os⟩ : Shared).TypeIs (.builtin "object.__class__") "getset_descriptor" := F.typeOf_object_class
  have f4 := lk_sl_class
  have f5 := F.typeOf_object_class
  have f6 := F.slot_gs_get.lookup
  have f7 := F.slot_gs_set.lookup
  repeat (any_goals (first | (assumption; done) | wp_step))
  refine cls_get_sl hx hc ?_
  repeat (any_goals (first | (assumption; done) | wp_step))
theorem cls_call_sl {tk : Tok} {R : Result → Shared → Prop} (hx : h.get? a = some o) (hc : o.cls = .type "slice") (hq : R (.ok (.ret (.type "slice"))) ⟨h, g, d, t, os⟩) :
    codeAny (model prog w) A (.call (.builtin "slice.__getattribute__") ⟨[.ref a, .str "__class__" tk], []⟩) R ⟨h, g, d, t, os⟩ :=
  codeAny_call_builtin ga_sl.plain entry_ga_sl (ga_sl.check _ _ _ _ _ _ _ _ (show (⟨h, g, d, t, os⟩ : Shared).TypeIs (.ref a) "slice" from ⟨_, hx, hc⟩) (args_ga_sl _ _) (cls_entry_sl hx hc hq))
theorem cls_by_sl {tk : Tok} {Q : Value → Shared → Prop} (hx : h.get? a = some o) (hc : o.cls = .type "slice") (hq : Q (.type "slice") ⟨h, g, d, t, os⟩) : wpAny (model prog w) A (getAttrBy (.ref a) (.str "__class__" tk) false) Q E ⟨h, g, d, t, os⟩ := by
  have hT : (⟨h, g, d, t, os⟩ : Shared).TypeIs (.ref a) "slice" := ⟨_, hx, hc⟩
  have f2 := ga_sl.lookup
  have f3 := ga_sl.bind (.ref a)
  repeat (any_goals (first | (assumption; done) | wp_step))
  refine cls_call_sl hx hc ?_
  repeat (any_goals (first | (assumption; done) | wp_step))
theorem cls_attr_sl {Q : Option Value → Shared → Prop} (hx : h.get? a = some o) (hc : o.cls = .type "slice") (hq : Q (some (.type "slice")) ⟨h, g, d, t + 1, os⟩) : wpAny (model prog w) A (getAttr? (.ref a) "__class__") Q E ⟨h, g, d, t, os⟩ := by
  unfold getAttr?
  unfold getAttrBy?
  repeat (any_goals (first | (assumption; done) | with_reducible apply cls_by_sl hx hc | wp_step))
end
theorem kitx_sl {K : Frag} {a : Addr} : KitX K (.ref a) (.type "slice") (KitAt a "slice") := kitx_of kitAt_ty (fun {_ _ _ _ _ s} p k => by
  obtain ⟨h, g, d, t, os⟩ := s
  obtain ⟨o, h1, h2⟩ := p
  exact cls_attr_sl h1 h2 k)
section
variable {prog : Program} {w : World} {A : Around} {E : Value → Shared → Prop} {s : Shared} {K : Frag} {x C L f : Addr} {h₀ : Heap} {m : Str → Option Value} {ox : Obj} {od : Option Obj}
/-- o[a:b] by an own __getitem__ -/
theorem sub_KS {value : Expr} {lo hi : Option Expr} {p2 : Pos} {i : Value} {Q : Value → Shared → Prop} (F : Fr h₀ L s.heap m) (X₀ : K.In h₀) (I : InstAt s.heap x ox C od) (hq : noSeq K C = true) (hs : findIn K (.ref C) "__getitem__" = some (some (.ref f))) (hf : fnIn K f = true) (hfn : isFn K (.ref f) = true)
    (h : wpAny (model prog w) A (call (.ref f) [.ref x, i]) Q E s) : wpAny (model prog w) A (subscriptTail value (.Slice lo hi none p2) (.ref x) i) Q E s := by
  have X := X₀.keeps F.keep
  have hf' := hf
  unfold fnIn at hf'
  split at hf'
  · rename_i e
    unfold subscriptTail getitemInPython
    refine wpAny_bind (wpAny_bind (wpAny_bind (I.type.here ((looks_findIn X hs).here ?_))))
    dsimp only
    refine wpAny_bind (wpAny_load (X _ _ e) (wpAny_pure ?_))
    show wpAny (model prog w) A (operate [i, .ref x] (getItem (.ref x) i) >>= fun r => letTemporaryGo value (.ref x) r >>= fun _ => pure r) Q E s
    refine wpAny_bind (wpAny_operateT (getItem_K F X₀ I hq hs hfn (wpAny_mono h (fun v s' z => ?_) fun _ _ z => z)))
    exact wpAny_bind (wpAny_letTemporaryGo (wpAny_pure z))
  · cases hf'
end
end SlK
end PySem
namespace Pk
open PySem PySem.Spec L2
def nsqX (K : PySem.W.Frag) (C : Addr) : Bool := PySem.W.noSeq K C
structure NsqF (K : PySem.W.Frag) (T : Tb) (mt : Nat → Option Fn) : Prop where
  ex : ∀ c F, mt c = some F → PySem.W.noSeq K (T.cad c) = true
theorem slO_ok {P : Program} {w : World} {H : Hp} {h : Heap} {a : Addr} {lo hi : Option Int} (x : SlO a lo hi h) : ObjOk P w H h a (.ext (SlO a lo hi)) := by
  refine ⟨x, ?_, ?_⟩
  · obtain ⟨_, _, ⟨o, e, _⟩, _⟩ := x
    exact ⟨o, e⟩
  · rintro h1 h2 ⟨vl, vu, ⟨o, e, c1, c2⟩, p1, p2⟩ k
    exact ⟨vl, vu, ⟨o, k o e, c1, c2⟩, p1, p2⟩
theorem inv_sl {X : Cx} {pins : List (Addr × Obj)} {σ : L2.St} {H : Hp} {s : Shared} {a : Addr} {lo hi : Option Int} (I : Inv X pins σ H s) (e : H a = some (.ext (SlO a lo hi))) : SlO a lo hi s.heap := (show ObjOk X.prog X.w H s.heap a (.ext (SlO a lo hi)) from I.hok a _ e).1
theorem rel_sl {K : PySem.W.Frag} {T : Tb} {w : Wd} {v : V} {lo hi : Option Int} (r : RelD K T w v (.sl lo hi)) : ∃ a, v = .ref a ∧ w.F a = some (.ext (SlO a lo hi)) := by
  cases r with
  | sl h => exact ⟨_, rfl, h⟩
section
variable {X : Cx} {T : Tb} {W : WX} {k kk j n c : Nat} {pos pf px p2 : Pos} {a b e : Expr} {es : List Expr} {lo hi : Option Expr} {ma mb m : M D} {ml mh : M (Option Int)} {x : Str}

/-! ### o[a:b] -/
def mGetSl (mt : Nat → Option Fn) (ma : M D) (ml mh : M (Option Int)) : M D := ma.bind fun o => ml.bind fun l => mh.bind fun u => mOwnX mt o [.sl l u]
theorem se_getSl {mt : Nat → Option Fn} (C : Cq X T W k) (hk : j ≤ k) (Mf : MethF X T j "__getitem__" mt 1 [] (gPos [])) (Nf : NsqF X.K T mt) (sa : SimV X T W a ma) (sl : SimP X T W lo ml) (sh : SimP X T W hi mh) : SimE X T W (.Subscript a (.Slice lo hi none p2) pos) (mGetSl mt ma ml mh) := fun B w σ H fr h Q R pp => WE.mk <| fun pins s I => by
  refine PyProof.Rows.Subscript_ ?_
  refine thn ((sa B w σ H fr h (fun x H1 => WO X lo σ H1 fun l H2 => WO X hi σ H2 fun u H3 => ∀ p, H3 p = none → OwnRun X T j 1 "__getitem__" x (upd H3 p (.ext (SlO p l u))) [.ref p] Q (fun c d H' => W c d σ H') ∧ ∃ a C dx fs, x = .ref a ∧ (upd H3 p (.ext (SlO p l u))) a = some (.ins C dx fs) ∧ PySem.W.noSeq X.K C = true) R
    (Post.bind (VR := vV X.K T B σ) pp fun d fr0 h0 w0 H0 v e0 l0 r0 rd p => sl B w0 σ H0 fr0 h0 _ r0 (Post.bind (VR := vI X.K T B σ) p fun l fr1 h1 w1 H1 l' e1 l1 r1 rl p1 => sh B w1 σ H1 fr1 h1 _ r1 (Post.bind (VR := vI X.K T B σ) p1 fun u fr2 h2 w2 H2 u' e2 l2 r2 ru p2 => ?_)))).go pins s I) fun v s1 ⟨x, H1, I1, r1, q1⟩ => ?_
  · have rl' : l' = l := rl
    have ru' : u' = u := ru
    subst rl' ru'
    intro p np
    have R3 := r2.laid (o := .ext (SlO p l' u')) np
    have l3 : w2.le (w2.add p (.ext (SlO p l' u'))) := Wd.le_add (r2.nP np).1
    have rd3 := rd.mono (Wd.le_trans (Wd.le_trans l1 l2) l3)
    have rs3 : RelD X.K T (w2.add p (.ext (SlO p l' u'))) (.ref p) (.sl l' u') := .sl (by show upd w2.F p _ p = _; rw [upd_same])
    have p3 : Post X.K T B W (vE X.K T B σ) w2 σ (mOwnX mt d [.sl l' u'] fr2 h2) Q := p2
    refine ⟨own_spX Mf R3 rd3 (.cons rs3 .nil) rfl (p3.le l3), ?_⟩
    unfold mOwnX at p3
    cases ef : fnOf mt h2 d with
    | none => rw [ef] at p3; exact p3.elim
    | some G =>
      obtain ⟨c, fs, ei, ec⟩ := fnOf_ins ef
      obtain ⟨a, dx, vs, ev, eH, _⟩ := ins_rel R3 (.inl rd3) ei
      exact ⟨a, _, dx, _, ev, eH, Nf.ex c G ec⟩
  refine wpAny_Slice (thn (q1 pins s1 I1) fun vl s2 ⟨l, H2, I2, pl, q2⟩ => thn (q2 pins s2 I2) fun vu s3 ⟨u, H3, I3, pu, q3⟩ => ?_)
  rw [evalPart_none]
  refine wpAny_pure ?_
  obtain ⟨q4, a, C4, dx4, fs4, ex, eH4, nq⟩ := q3 s3.heap.objs.size (I3.hok.fresh (Nat.le_refl _))
  have I4 : Inv X pins σ (upd H3 s3.heap.objs.size (.ext (SlO s3.heap.objs.size l u))) { s3 with heap := s3.heap.push { cls := .type "slice", data := .fields #[vl, vu, .none] } } :=
    I3.laid (t' := s3.toks) (fun b ob q => Heap.get?_push_of_some _ q) (Nat.le_refl _) (slO_ok ⟨vl, vu, Heap.IsSliceOf.new .., pl, pu⟩)
  obtain ⟨kk, f, fd, ps, a', Cl, dx, fs, G, ev, eH, c1, c2, c3, c5, g, gV, hb, q⟩ := q4.ex
  have ea : a = a' := V.ref.inj (ex.symm.trans ev)
  subst ea
  have eo := Option.some.inj (eH4.symm.trans eH)
  injection eo with eC _ _
  subst eC
  subst ev
  obtain rfl : v = Value.ref a := r1
  obtain ⟨mA, J, _⟩ := ins_get I4.hok eH
  obtain ⟨od, J, _⟩ := J.look
  obtain ⟨m, hF⟩ := I4.fr
  have cx : ∀ e s', L2.CX X.prog X.w X.stack _ _ (fun c d H' => W c d σ H') e s' → X.xe e s' := fun e s' z => passAt C.takes σ pins _ _ e s' I4 z
  refine PySem.SlK.sub_KS hF I4.ok.mod.kin J nq c2.at_ (fnIn_of c2.fn c2.kp) c2.fn ?_
  exact run_in (n := 1 + 1) (us := [.ref a, .ref s3.heap.objs.size]) (vs := [.ref a, .ref s3.heap.objs.size]) c3.ok (C.room.mono (Nat.le_trans c5 hk)) I4.env0 hb cx I4 (.cons rfl (.cons rfl .nil)) rfl q

/-! ### isinstance of a slice -/
theorem call_isiSl : CallR X (.builtin "isinstance") (fun xs H Q => ∃ (a : Addr) (lo hi : Option Int) (c : V) (u : Value) (b : Bool), xs = [.ref a, c] ∧ H a = some (.ext (SlO a lo hi)) ∧ ClsV c u ∧ PySem.W.kitOne X.K (.type "slice") u = some b ∧ Q (.bl b) H) := by
  intro pins s σ H xs us Q I r h
  obtain ⟨a, lo, hi, c, u, b, rfl, eH, k, e, q⟩ := h
  obtain ⟨u1, u2, rfl, r1, r2⟩ := vals2 r
  cases (show u1 = Value.ref a from r1)
  have e2 := k.eq r2
  subst e2
  obtain ⟨vl, vu, ⟨o, h1, h2, _⟩, _⟩ := inv_sl I eH
  exact PySem.W.kia_one PySem.SlK.kitx_sl I.kIn ⟨o, h1, h2⟩ e (fun z => nomatch z) fun tk => ⟨.bl b, H, I.tok tk, rfl, q⟩
def slNo (t : String) : Bool := ["int", "bool", "str", "tuple", "list"].contains t
theorem slNo_ok {K : PySem.W.Frag} {t : String} (h : slNo t = true) : PySem.W.kitOne K (.type "slice") (.type t) = some false := by
  have key : ∀ a ∈ ["int", "bool", "str", "tuple", "list"], kitB "slice" a = some false := by decide +kernel
  exact kit_ty (key t (List.contains_iff_mem.mp h))
def bIsiS (tab : Tg → Tg → Option Bool) (h : Hh) (d c : D) : Option D := match d with
  | .sl _ _ => match c with
    | .ty t => if slNo t then some (.bl false) else none
    | _ => none
  | d => bIsi tab h d c
theorem isi_ok {tab : Tg → Tg → Option Bool} (F : IsiF X.K T tab) {B : Bs} {w : Wd} {σ : L2.St} {H : Hp} {fr : Fr} {h : Hh} {x y : V} {d e z : D} {Q : VK} (R : Rel X.K T B w σ H fr h) (rx : RelD X.K T w x d) (ry : RelD X.K T w y e) (q : bIsi tab h d e = some z)
    (kk : ∀ w' H' v, w.le w' → Rel X.K T B w' σ H' fr h → vV X.K T B σ w' H' fr v z → Q v H') : cM X (.builtin "isinstance") [x, y] H Q := by
  unfold bIsi at q
  cases et : d.tag h with
  | none => rw [et] at q; cases q
  | some t =>
    rw [et] at q
    have one : ∀ u, e.ctag = some u → (tab t u).map D.bl = some z → cM X (.builtin "isinstance") [x, y] H Q := fun u ec eq => by
      obtain ⟨bb, eb, rfl⟩ := Option.map_eq_some_iff.mp eq
      exact call_cm call_isi ⟨x, y, t.v T, u.v T, bb, rfl, ctag_rel ry ec, tag_rel F R (.inl rx) et eb, F.kit t u bb eb, kk w H _ (Wd.le_refl _) R (.bl bb)⟩
    cases e with
    | tup l =>
      dsimp only at q
      cases ec : ctags l with
      | none => rw [ec] at q; cases q
      | some us =>
        rw [ec] at q
        cases us with
        | nil => cases q
        | cons u us =>
          obtain ⟨bb, eb, rfl⟩ := Option.map_eq_some_iff.mp q
          obtain ⟨p, vs, rfl, sq, rs⟩ := rel_tup ry
          have ty : TyX X.K H x (t.v T) := by
            rcases isiAny_some eb with z | ⟨u', b', z⟩
            · cases z
            · exact tag_rel F R (.inl rx) et z
          exact call_cm call_isiQ ⟨x, p, vs, t.v T, (u :: us).map (Tg.v T), bb, rfl, sqT_le R.sub sq, ctags_rel rs ec, ty, isiAny_rel F eb, kk w H _ (Wd.le_refl _) R (.bl bb)⟩
    | cls c => exact one _ rfl q
    | ty t => exact one _ rfl q
    | _ => cases q
theorem sv_isiS {tab : Tg → Tg → Option Bool} (F : IsiF X.K T tab) (sa : SimV X T W a ma) (sb : SimV X T W b mb) (hm : X.mg "isinstance" = none) (hg : Gl X "isinstance" := by rfl) (he : starEach (a :: b :: []) X.env = (false, eval a X.env) :: starEach (b :: []) X.env := by exact star_no rfl) (he2 : starEach (b :: []) X.env = (false, eval b X.env) :: starEach [] X.env := by exact star_no rfl)
    (hpl : (backTo pos (starEach (b :: []) X.env)).any (·.1) = false := by rfl) : SimV X T W (.Call (.Name "isinstance" pf) [a, b] [] pos) (mOp (bIsiS tab) ma mb) :=
  s_b2 (id := "isinstance") sa sb (fun B w σ H fr h x y d e z Q R rx ry q kk => by
    have ry : RelD X.K T w y e := ry
    cases d with
    | sl lo hi =>
      obtain ⟨a', rfl, eF⟩ := rel_sl rx
      cases e with
      | ty t =>
        have q' : (if slNo t then some (D.bl false) else none) = some z := q
        by_cases ht : slNo t = true
        · rw [if_pos ht] at q'
          cases q'
          exact call_cm call_isiSl ⟨a', lo, hi, y, .type t, false, rfl, R.sub _ _ eF, ctag_rel (u := .b t) (T := T) ry rfl, slNo_ok ht, kk w H _ (Wd.le_refl _) R (.bl false)⟩
        · rw [if_neg ht] at q'
          cases q'
      | _ => exact (show False from by cases q).elim
    | _ => exact isi_ok F R rx ry q kk) hm hg (by decide +kernel) (by decide) (by decide) he he2 hpl

/-! ### xs[i], i an integer or a slice -/
def bIdxS (h : Hh) (d i : D) : Option D := match i with
  | .sl lo hi => match d.der h with
    | .fl l => some (.nl (cutD l lo hi))
    | .nl l => some (.nl (cutD l lo hi))
    | .kl l => some (.nl (cutD l lo hi))
    | _ => none
  | i => bIdx h d i
theorem ix_sl : IxR X (fun x y H Q => ∃ p a lo hi xs, x = .ref p ∧ y = .ref a ∧ H a = some (.ext (SlO a lo hi)) ∧ SqL X.K H p xs ∧ ∀ q, H q = none → Q (.ref q) (upd H q (.lst (cutV xs lo hi)))) := by
  intro value slice pins s σ H x y v u Q I rx ry h hs
  obtain ⟨p, a, lo, hi, xs, rfl, rfl, eH, sq, q⟩ := h
  cases (show u = Value.ref a from ry)
  obtain ⟨vl, vu, sl, p1, p2⟩ := inv_sl I eH
  obtain ⟨T, id, hT, ht, hg⟩ := sl_list pins s σ H (.ref p) v vl vu lo hi a Q I rx sl p1 p2 ⟨p, xs, rfl, sq, q⟩
  exact PyProof.Rows.tail_any (ops := [v, .ref a]) ht hT hg (by
    first
      | exact hs
      | with_unfolding_all exact hs)
theorem ixS_rel {B : Bs} {w : Wd} {σ : L2.St} {H : Hp} {fr : Fr} {h : Hh} {x y : V} {d i z : D} {Q : VK} (R : Rel X.K T B w σ H fr h) (rx : vO X.K T B σ w H fr x d) (ry : RelD X.K T w y i) (q : bIdxS h d i = some z)
    (k : ∀ w' H' v, w.le w' → Rel X.K T B w' σ H' fr h → vE X.K T B σ w' H' fr v z → Q v H') : ixM X x y H Q := by
  cases i with
  | sl lo hi =>
    obtain ⟨a, rfl, eF⟩ := rel_sl ry
    have fin : ∀ {l : List D}, (d.der h = .fl l ∨ d.der h = .nl l ∨ d.der h = .kl l) → z = .nl (cutD l lo hi) → ixM X x (.ref a) H Q := fun {l} el ez => by
      obtain ⟨p, vs, rfl, rl, sq⟩ := lst_rel R rx el
      subst ez
      exact ix_ixm ix_sl ⟨p, a, lo, hi, vs, rfl, rfl, R.sub _ _ eF, sq, fun q nq => new_lst R (cut_rel rl) nq k⟩
    have q' : (match d.der h with
      | .fl l => some (.nl (cutD l lo hi))
      | .nl l => some (.nl (cutD l lo hi))
      | .kl l => some (.nl (cutD l lo hi))
      | _ => none) = some z := q
    split at q'
    · rename_i l el
      exact fin (.inl el) (by cases q'; rfl)
    · rename_i l el
      exact fin (.inr (.inl el)) (by cases q'; rfl)
    · rename_i l el
      exact fin (.inr (.inr el)) (by cases q'; rfl)
    · cases q'
  | _ => exact ix_rel R rx ry q fun v rv => k w H v (Wd.le_refl _) R (.inl rv)
theorem se_idxS (i : Nat) {px : Pos} (sb : SimV X T W b mb) (hs : PlainIx b := by intro _ _; rfl) (hN : X.N[i]? = some x := by rfl) (hv : Vis X.env.scope x := by first | exact Or.inl rfl | exact Or.inr (Or.inl rfl) | exact Or.inr (Or.inr rfl)) (hd : (x == ("__debug__" : Str)) = false := by decide)
    (hcd : (x == ("__classdict__" : Str)) = false := by decide) : SimE X T W (.Subscript (.Name x px) b pos) (mLate i mb bIdxS) := fun B w σ H fr h Q r1 p => by
  obtain ⟨⟨v, ev⟩, p⟩ := has_post r1 p
  refine pe_we (pe_ix ix_max (pe_var hN hv hd hcd) pe_max hs) ⟨v, ev, sb B w σ H fr h _ r1 (Post.bind (VR := vV X.K T B σ) p fun y fr1 h1 w1 H1 u e1 l1 r2 ru p1 => ?_)⟩
  obtain ⟨d, rd, p2⟩ := bor_post r2 ev p1
  cases q : bIdxS h1 d y with
  | none => rw [q] at p2; exact p2.elim
  | some z =>
    rw [q] at p2
    exact ixS_rel r2 rd ru q p2
end
end Pk

/-! Pk42: list(range(..)), x += e, f-strings, match over texts. -/
namespace Pk
open PySem PySem.Spec L2
section
variable {X : Cx} {T : Tb} {W : WX} {k kk j n c : Nat} {pos pf px p2 p pr : Pos} {a b e : Expr} {es : List Expr} {ma mb m : M D} {ms : List (M D)} {x : Str}

/-! ### list(range(..)) -/
def rgOk (a b : Int) : Bool := decide (-(2 ^ 62) ≤ a) && decide (a < 2 ^ 62) && decide (-(2 ^ 62) ≤ b) && decide (b < 2 ^ 62) && decide ((b - a).toNat ≤ 2 ^ 24)
theorem rgOk_ok {a b : Int} (h : rgOk a b = true) : RgOk a b := by
  unfold rgOk at h
  simp only [Bool.and_eq_true, decide_eq_true_eq] at h
  exact ⟨h.1.1.1.1, h.1.1.1.2, h.1.1.2, h.1.2, h.2⟩
def rgD (a b : Int) : List D := (List.range (b - a).toNat).map fun i => D.int (a + (i : Nat))
theorem rg_rel {K : PySem.W.Frag} {w : Wd} {a : Int} : ∀ l : List Nat, RelDs K T w (l.map fun i => V.int (a + (i : Nat))) (l.map fun i => D.int (a + (i : Nat)))
  | [] => .nil
  | _ :: l => .cons (.int _) (rg_rel l)
def bRg (x y : D) : Option D := match x, y with
  | .int a, .int b => if rgOk a b then some (.nl (rgD a b)) else none
  | _, _ => none
def mLstR1 (ma : M D) : M D := ma.bind fun n => M.opt (bRg (.int 0) n)
def mLstR2 (ma mb : M D) : M D := ma.bind fun a => mb.bind fun b => M.opt (bRg a b)
theorem bRg_some {x y z : D} (h : bRg x y = some z) : ∃ a b, x = .int a ∧ y = .int b ∧ RgOk a b ∧ z = .nl (rgD a b) := by
  unfold bRg at h
  split at h
  · split at h
    · rename_i hk
      cases h
      exact ⟨_, _, rfl, rfl, rgOk_ok hk, rfl⟩
    · cases h
  · cases h
theorem se_lstR2 (C : Cq X T W k) (sa : SimV X T W a ma) (sb : SimV X T W b mb) (hm : X.mg "list" = none) (hmr : X.mg "range" = none) (hg : Gl X "list" := by rfl) (hgr : Gl X "range" := by rfl) (na : starEach [a, b] X.env = (false, eval a X.env) :: starEach [b] X.env := by exact star_no rfl)
    (nb' : starEach [b] X.env = (false, eval b X.env) :: starEach [] X.env := by exact star_no rfl) (hp : (backTo p2 (starEach [b] X.env)).any (·.1) = false := by rfl)
    (nb : starEach [(.Call (.Name "range" pr) [a, b] [] p2 : Expr)] X.env = (false, eval (.Call (.Name "range" pr) [a, b] [] p2) X.env) :: starEach [] X.env := by exact star_no rfl) : SimE X T W (.Call (.Name "list" pf) [.Call (.Name "range" pr) [a, b] [] p2] [] pos) (mLstR2 ma mb) := fun B w σ H fr h Q R p =>
  pe_we (pe_listRg C.calm hg hm (prg_2 hgr hmr pe_max pe_max na nb' hp) nb) (sa B w σ H fr h _ R (Post.bind (VR := vV X.K T B σ) p fun d fr1 h1 w1 H1 v e1 l1 r1 rd p1 => sb B w1 σ H1 fr1 h1 _ r1 (Post.bind (VR := vV X.K T B σ) p1 fun d' fr2 h2 w2 H2 u e2 l2 r2 rd' p2 => by
    cases q : bRg d d' with
    | none => rw [q] at p2; exact p2.elim
    | some z =>
      rw [q] at p2
      obtain ⟨a', b', e1, e2, ok, rfl⟩ := bRg_some q
      subst e1 e2
      exact ⟨a', b', rel_int rd, rel_int rd', ok, fun q nq => new_lst r2 (rg_rel _) nq p2⟩)))

/-! ### x += e, whole numbers -/
def mAug (i : Nat) (f : Int → Int → Int) (m : M D) : M Fl := fun fr h => match fr[i]? with
  | some (some (.int a)) => (m.bind fun d fr h => match d with
    | .int b => .ok .nx (fr.set i (some (.int (f a b)))) h
    | _ => .err) fr h
  | _ => .err
/-! ### f-strings -/
def bFmt (d : D) : Option D := match d with
  | .str y => if y.length ≤ big then some (.str y) else none
  | .int i => if i.natAbs.log2 < 1920 then some (.str (toString i)) else none
  | _ => none
def mFmt (m : M D) : M D := m.bind fun d => M.opt (bFmt d)
theorem sv_fmt (s : SimV X T W e m) : SimV X T W (.FormattedValue e (-1) none pos) (mFmt m) := fun B w σ H fr h Q R p =>
  pe_we (pe_fmt pe_max) (s B w σ H fr h _ R (Post.bind (VR := vV X.K T B σ) p fun d fr1 h1 w1 H1 v e1 l1 r1 rd p1 => by
    have p1 : Post X.K T B W (vV X.K T B σ) w1 σ (M.opt (bFmt d) fr1 h1) Q := p1
    unfold bFmt at p1
    split at p1
    · split at p1
      · rename_i hl
        exact .inl ⟨_, rel_str rd, big_line hl, p1 w1 H1 _ (Wd.le_refl _) r1 (.str _)⟩
      · exact p1.elim
    · split at p1
      · rename_i hl
        exact .inr ⟨_, rel_int rd, hl, p1 w1 H1 _ (Wd.le_refl _) r1 (.str _)⟩
      · exact p1.elim
    · exact p1.elim))
def vS : VRel Str Str := fun _ _ _ _ _ _ _ b c => b = c
def mJs : List (M D) → Str → M Str
  | [], acc => M.ret acc
  | m :: ms, acc => m.bind fun d => match d with
    | .str y => if (acc ++ y).length ≤ big then mJs ms (acc ++ y) else M.opt none
    | _ => M.opt none
def SimJ (X : Cx) (T : Tb) (W : WX) (es : List Expr) (ms : List (M D)) : Prop := ∀ acc, Sim (fun σ H Q => tJs (es.map fun e => (WE X e : TE)) acc σ H Q) X.K T W vS (mJs ms acc)
theorem pj_all : ∀ es : List Expr, PJ X es (es.map fun e => (WE X e : TE))
  | [] => .nil
  | _ :: es => .cons pe_max (pj_all es)
theorem sj_nil : SimJ X T W [] [] := fun acc B w σ H fr h Q R p => p w H acc (Wd.le_refl _) R rfl
theorem sj_cons (s : SimV X T W e m) (t : SimJ X T W es ms) : SimJ X T W (e :: es) (m :: ms) := fun acc B w σ H fr h Q R p =>
  s B w σ H fr h (fun x H1 => ∃ y : Str, x = .str y ∧ (acc ++ y).length ≤ sizeLine ∧ tJs (es.map fun e => (WE X e : TE)) (acc ++ y) σ H1 Q) R (Post.bind (VR := vV X.K T B σ) p fun d fr1 h1 w1 H1 v e1 l1 r1 rd p1 => by
    cases d with
    | str y =>
      have p2 : Post X.K T B W (vS X.K T B σ) w1 σ ((if (acc ++ y).length ≤ big then mJs ms (acc ++ y) else M.opt none) fr1 h1) Q := p1
      by_cases hl : (acc ++ y).length ≤ big
      · rw [if_pos hl] at p2
        exact ⟨y, rel_str rd, big_line hl, t (acc ++ y) B w1 σ H1 fr1 h1 Q r1 p2⟩
      · rw [if_neg hl] at p2
        exact p2.elim
    | _ => exact (show False from p1).elim)
def mJoin (ms : List (M D)) : M D := (mJs ms Str.empty).bind fun s => M.ret (.str s)
theorem sv_joined {v1 v2 : Expr} {rest : List Expr} (s : SimJ X T W (v1 :: v2 :: rest) ms) : SimV X T W (.JoinedStr (v1 :: v2 :: rest) pos) (mJoin ms) := fun B w σ H fr h Q R p =>
  pe_we (pe_joined (pj_all _)) (s Str.empty B w σ H fr h _ R (Post.bind (VR := vS X.K T B σ) p fun d fr1 h1 w1 H1 v e1 l1 r1 rd p1 => by
    have rd' : v = d := rd
    subst rd'
    exact p1 w1 H1 _ (Wd.le_refl _) r1 (.str _)))
end

/-! ### match over texts -/
structure WM (X : Cx) (cs : List MatchCase) (z : Str) (D : Ends) (σ : L2.St) (H : Hp) : Prop where
  go : ∀ pins s t first, Inv X pins σ H s → wpAny (model X.prog X.w) X.A (matchCases cs X.env (.str z t) first) (SP X pins D) X.xe s
/-- a pattern without names: whether it takes this text -/
structure PatS (X : Cx) (p : Pattern) (ss : List Str) : Prop where
  go : ∀ (z : Str) pins (σ : L2.St) (H : Hp) s t (R : Option (List (Str × Value)) → Shared → Prop), Inv X pins σ H s → (∀ s', Inv X pins σ H s' → R (if ss.contains z then some [] else none) s') → wpAny (model X.prog X.w) X.A (matchPattern p X.env (.str z t)) R X.xe s
structure PatsS (X : Cx) (ps : List Pattern) (ss : List Str) : Prop where
  go : ∀ (z : Str) pins (σ : L2.St) (H : Hp) s t (R : Option (List (Str × Value)) → Shared → Prop), Inv X pins σ H s → (∀ s', Inv X pins σ H s' → R (if ss.contains z then some [] else none) s') → wpAny (model X.prog X.w) X.A (matchFirst ps X.env (.str z t)) R X.xe s
section
variable {X : Cx} {T : Tb} {W : WX} {pos p2 : Pos} {e : Expr} {m : M D} {cs : List MatchCase} {ms : List (List Str × M Fl)} {body : List Stmt} {mb : M Fl} {pt : Pattern} {pts : List Pattern} {ss ts : List Str} {y : Str} {jj : Nat}
theorem pat_val : PatS X (.MatchValue (.Constant (.str y) jj p2) pos) [y] := ⟨fun z pins σ H s t R I q => by
  refine wpAny_matchPattern_Value ?_
  refine thn ((pe_we (X := X) (e := .Constant (.str y) jj p2) pe_str (σ := σ) (H := H) (Q := fun v H1 => v = .str y ∧ H1 = H) (And.intro rfl rfl)).go pins s I) fun v s1 ⟨x, H1, I1, r1, ex, eH⟩ => ?_
  subst ex eH
  have o := op_eq (X := X) pins s1 σ H1 (.str z) (.str y) (.str z t) v (fun w H2 => w = .bl (decide (V.str z = V.str y)) ∧ H2 = H1) I1 ⟨_, rfl⟩ r1 ⟨rfl, rfl, rfl⟩
  refine thn o fun c s2 ⟨cv, H2, I2, rc, ec, eH⟩ => ?_
  subst ec eH
  obtain rfl : c = Value.bool _ := rc
  refine wpAny_truthy_bool ?_
  have key := q s2 I2
  have e1 : ([y] : List Str).contains z = decide (V.str z = V.str y) := by
    rw [List.contains_cons]
    by_cases h : z = y
    · subst h
      simp
    · have h2 : ¬ (V.str z = V.str y) := fun w => h (V.str.inj w)
      simp [h, h2]
  rw [e1] at key
  cases hb : decide (V.str z = V.str y) with
  | true => rw [hb] at key; exact key
  | false => rw [hb] at key; exact key⟩
theorem pats_nil : PatsS X [] [] := ⟨fun z pins σ H s t R I q => wpAny_matchFirst_nil (q s I)⟩
theorem pats_cons (h : PatS X pt ss) (t : PatsS X pts ts) : PatsS X (pt :: pts) (ss ++ ts) := ⟨fun z pins σ H s tk R I q => by
  refine wpAny_matchFirst_cons (h.go z pins σ H s tk _ I fun s1 I1 => ?_)
  have ec : (ss ++ ts).contains z = (ss.contains z || ts.contains z) := by
    rw [Bool.eq_iff_iff]
    simp
  cases hz : ss.contains z with
  | true =>
    have := q s1 I1
    rw [ec, hz] at this
    exact this
  | false =>
    refine t.go z pins σ H s1 tk _ I1 fun s2 I2 => ?_
    have := q s2 I2
    rw [ec, hz] at this
    exact this⟩
theorem pat_or (h : PatsS X pts ss) (hn : namesOfAll (pts.take 1) = [] := by rfl) : PatS X (.MatchOr pts pos) ss := ⟨fun z pins σ H s t R I q => by
  refine wpAny_matchPattern_Or (h.go z pins σ H s t _ I fun s1 I1 => ?_)
  have := q s1 I1
  cases hz : ss.contains z with
  | true =>
    rw [hz] at this
    show R (some ((namesOfAll (pts.take 1)).filterMap _)) s1
    rw [hn]
    exact this
  | false =>
    rw [hz] at this
    exact this⟩
def SimM (X : Cx) (T : Tb) (W : WX) (cs : List MatchCase) (m : Str → M Fl) : Prop := ∀ z, ∀ (B : Bs) (w : Wd) (σ : L2.St) (H : Hp) (fr : Fr) (h : Hh) (D : Ends), Rel X.K T B w σ H fr h → PostS X.K T B W w (m z fr h) D → WM X cs z D σ H
def mCases : List (List Str × M Fl) → Str → M Fl
  | [], _ => M.ret .nx
  | (ss, b) :: r, z => if ss.contains z then b else mCases r z
theorem sm_nil : SimM X T W [] (mCases []) := fun z B w σ H fr h D R p => ⟨fun pins s t first I => wpAny_matchCases_nil ⟨σ, H, I, p w σ H (Wd.le_refl _) R⟩⟩
theorem sm_cons (hp : PatS X pt ss) (hb : SimSs X T W body mb) (t : SimM X T W cs (mCases ms)) : SimM X T W (⟨pt, none, body⟩ :: cs) (mCases ((ss, mb) :: ms)) := fun z B w σ H fr h D R p => ⟨fun pins s tk first I => by
  refine wpAny_matchCases_cons (hp.go z pins σ H s tk _ I fun s1 I1 => ?_)
  have p' : PostS X.K T B W w ((if ss.contains z then mb else mCases ms z) fr h) D := p
  cases hz : ss.contains z with
  | true =>
    rw [hz] at p'
    exact wpAny_assignInOrder_none ((hb B w σ H fr h D R p').go pins s1 I1)
  | false =>
    rw [hz] at p'
    exact (t z B w σ H fr h D R p').go pins s1 tk false I1⟩
def mMatch (m : M D) (f : Str → M Fl) : M Fl := m.bind fun d => match d with
  | .str z => f z
  | _ => fun _ _ => .err
theorem s_match {f : Str → M Fl} (s : SimV X T W e m) (t : SimM X T W cs f) : SimS X T W (.Match e cs pos) (mMatch m f) := fun B w σ H fr h D R p => ⟨fun pins s1 I => by
  refine wpAny_Match (thn ((s B w σ H fr h (fun x H1 => ∃ z, x = .str z ∧ WM X cs z D σ H1) R (PostS.bind (VR := vV X.K T B σ) p fun d fr1 h1 w1 H1 v e1 l1 r1 rd p1 => ?_)).go pins s1 I) fun v s2 ⟨x, H1, I1, rx, z, ex, q⟩ => ?_)
  · cases d with
    | str z => exact ⟨z, rel_str rd, t z B w1 σ H1 fr1 h1 D r1 p1⟩
    | _ => exact (show False from p1).elim
  · subst ex
    obtain ⟨tk, rfl⟩ := rx
    exact q.go pins s2 tk true I1⟩
end
end Pk

/-! Pk43: str(..). -/
namespace Pk
open PySem PySem.Spec L2
section
variable {X : Cx} {T : Tb} {W : WX} {k : Nat} {pos pf : Pos} {a : Expr} {ma : M D}
def bStr1 (_ : Hh) (d : D) : Option D := match d with
  | .int i => if i.natAbs.log2 < 1920 then some (.str (toString i)) else none
  | .str z => some (.str z)
  | _ => none
theorem sv_str1 (sa : SimV X T W a ma) (hm : X.mg "str" = none) (hg : Gl X "str" := by rfl) (he : starEach (a :: []) X.env = (false, eval a X.env) :: starEach [] X.env := by exact star_no rfl) : SimV X T W (.Call (.Name "str" pf) [a] [] pos) (mUn bStr1 ma) :=
  s_t1 (id := "str") sa (fun B w σ H fr h x d z Q R rx q k => by
    unfold bStr1 at q
    split at q
    · split at q
      · rename_i hl
        cases q
        rw [rel_int rx]
        exact call_cm call_str_int ⟨_, rfl, hl, k w H _ (Wd.le_refl _) R (.str _)⟩
      · cases q
    · cases q
      rw [rel_str rx]
      exact call_cm SkE.call_str_str ⟨_, rfl, k w H _ (Wd.le_refl _) R (.str _)⟩
    · cases q) hm hg (by decide +kernel) (by decide) (by decide) he
end
end Pk

/-! Pk44: o(e) by an own __call__ (the mirror is mGetI). -/
namespace Pk
open PySem PySem.Spec L2
section
variable {X : Cx} {T : Tb} {W : WX} {k j : Nat} {pos : Pos} {a b : Expr} {ma mb : M D}
end
end Pk

/-! Pk45: sum of a list or of a tuple of integers. -/
namespace Pk
open PySem PySem.Spec PyProof.Rows L2
section
variable {prog : Program} {w : World} {A : Around} {E : Value → Shared → Prop} {s : Shared} {l : Addr} {its : List Value} {ns : List Int} {Q : Value → Shared → Prop}
end
def rSumT (K : PySem.W.Frag) : List V → Hp → VK → Prop := fun vs H Q => ∃ (a : Addr) (ns : List Int), vs = [V.ref a] ∧ SqT K H a (ns.map V.int) ∧ Q (.int ns.sum) H
section
variable {X : Cx} {T : Tb} {W : WX} {k : Nat} {e a b c : Expr} {es : List Expr} {m ma mb mc : M D} {pos pf : Pos}
def bSumS (h : Hh) (d : D) : Option D := match d with
  | .tup l => (D.ints l).map fun l => .int l.sum
  | _ => bSum h d
end
end Pk

/-! Pk46: -o and abs(o) by own methods. -/
namespace PySem
namespace OwA
open PySem.W PySem.Calls PyProof.Rows
section
variable {prog : Program} {w : World} {A : Around} {E : Value → Shared → Prop} {s : Shared} {K : Frag} {x C L f : Addr} {h₀ : Heap} {m : Str → Option Value} {ox : Obj} {od : Option Obj}
theorem abs_K {Q : Value → Shared → Prop} (F : Fr h₀ L s.heap m) (X₀ : K.In h₀) (I : InstAt s.heap x ox C od) (hs : findIn K (.ref C) "__abs__" = some (some (.ref f))) (hf : isFn K (.ref f) = true)
    (h : wpAny (model prog w) A.in1 (call (.ref f) [.ref x]) Q E s) : wpAny (model prog w) A (call (.builtin "abs") [.ref x]) Q E s := by
  refine Calls.call_function_entry kind_abs plain_abs entry_abs (args_abs _) ?_
  unfold Builtin.«abs»
  refine wpAny_bind (m := oneArg "abs" _) (wpAny_pure ?_)
  refine wpAny_bind (m := callSpecial? (.ref x) (Str.ofString "__abs__")) (special_fn (X₀.keeps F.keep) I hs (beq_iff_eq.mp hf) (wpAny_mono h (fun r s' hr => ?_) fun _ _ y => y))
  exact wpAny_pure ⟨_, rfl, hr⟩
end
end OwA
end PySem
namespace Pk
open PySem PySem.Spec L2
section
variable {X : Cx} {T : Tb} {W : WX} {k j : Nat} {pos pf : Pos} {a b : Expr} {ma mb : M D}
def mOne (mt : Nat → Option Fn) (ma : M D) : M D := ma.bind fun o => mOwn mt o []
theorem se_negO {mt : Nat → Option Fn} (C : Cq X T W k) (hk : j ≤ k) (Mf : MethF X T j "__neg__" mt 0 [] (gPos [])) (sa : SimV X T W a ma) : SimE X T W (.UnaryOp .USub a pos) (mOne mt ma) := fun B w σ H fr h Q R pp =>
  pe_we (pe_un un_max pe_max) (sa B w σ H fr h (fun x H1 => uM X (unaryOp .USub) x H1 Q) R (Post.bind (VR := vV X.K T B σ) pp fun d fr1 h1 w1 H1 v e1 l1 r1 rd p1 => by
    obtain ⟨kk, f, fd, ps, a, Cl, dx, fs, G, rfl, eH, c1, c2, c3, c5, g, gV, hb, q⟩ := (own_sp Mf r1 rd .nil rfl p1).ex
    intro pins s σ' u I ru
    obtain rfl : u = Value.ref a := ru
    obtain ⟨mA, J, _⟩ := ins_get I.hok eH
    obtain ⟨od, J, _⟩ := J.look
    obtain ⟨m, hF⟩ := I.fr
    exact PySem.W.ksp_neg hF I.ok.mod.kin J c2.at_ c2.fn (run_in (n := 0 + 1) (us := [.ref a]) (vs := [.ref a]) c3.ok ((C.room.mono hk).mono c5) I.env0 hb cx_none I (.cons rfl .nil) rfl q)))
theorem se_absO {mt : Nat → Option Fn} (C : Cq X T W k) (hk : j + 1 ≤ k) (Mf : MethF X T j "__abs__" mt 0 [] (gPos [])) (sa : SimV X T W a ma) (hm : X.mg "abs" = none) (hg : Gl X "abs" := by rfl) (he : starEach (a :: []) X.env = (false, eval a X.env) :: starEach [] X.env := by exact star_no rfl)
    (hpl : (backTo pos (starEach [] X.env)).any (·.1) = false := by rfl) : SimE X T W (.Call (.Name "abs" pf) [a] [] pos) (mOne mt ma) := fun B w σ H fr h Q r1 p =>
  pe_we (pe_callB (id := "abs") call_max hg hm (by decide +kernel) (pa_cons pe_max pa_nil he) (by decide) (by decide) he hpl) (sa B w σ H fr h (fun x H1 => cM X (.builtin "abs") [x] H1 Q) r1 (Post.bind (VR := vV X.K T B σ) p fun d fr1 h1 w1 H1 v e1 l1 r1 rv p1 => by
    obtain ⟨kk, f, fd, ps, a, Cl, dx, fs, G, rfl, eH, c1, c2, c3, c5, g, gV, hb, q⟩ := (own_sp Mf r1 rv .nil rfl p1).ex
    intro pins s σ' us I rus
    obtain ⟨u, rfl, ru⟩ := rus.one
    obtain rfl : u = Value.ref a := ru
    obtain ⟨mA, J, _⟩ := ins_get I.hok eH
    obtain ⟨od, J, _⟩ := J.look
    obtain ⟨m, hF⟩ := I.fr
    exact PySem.OwA.abs_K hF I.ok.mod.kin J c2.at_ c2.fn (run_in (n := 0 + 1) (us := [.ref a]) (vs := [.ref a]) c3.ok ((C.room.mono hk).in1.mono c5) I.env0.in1 hb cx_none I (.cons rfl .nil) rfl q)))
/-! ### an integer constant of a class -/
def cconI (K : PySem.W.Frag) (C : Addr) (f : Str) (i : Int) : Bool := creadX K C && (match PySem.W.findCls K (.ref C) (.type "type") f with
  | some (.val (.int j _)) => decide (j = i)
  | _ => false)
theorem cconI_of {c : Nat} {f : Str} {i : Int} (h : cconI X.K (T.cad c) f i = true) : CconF X T c f (.int i) := by
  obtain ⟨c1, c2⟩ := He.ba h
  split at c2
  · rename_i j t e
    have ej : j = i := of_decide_eq_true c2
    subst ej
    exact ⟨.int j t, .int j, creadX_ok c1, ⟨e, ⟨t, rfl⟩⟩, .int j⟩
  · cases c2
end
end Pk

/-! Wp1: what a mirror answers, said by what follows it. Rules to be used by simp only, from the outside in. -/
namespace Pk
open PySem PySem.Spec L2
def Wq {α : Type} (r : R α) (Q : α → Fr → Hh → Prop) (E : Exn → Fr → Hh → Prop) : Prop := match r with
  | .ok a fr h => Q a fr h
  | .exc x fr h => E x fr h
  | .err => False
def rgA (d : D) : Option (List D) := match d with
  | .int j => if cSm j then some (rngD 0 j.toNat) else none
  | _ => none
def rgB (x y : D) : Option (List D) := match x, y with
  | .int i, .int j => if cSm i && cSm j then some (rngD i (j - i).toNat) else none
  | _, _ => none
def NoE (_ : Exn) (_ : Fr) (_ : Hh) : Prop := False
def Oq {α : Type} (o : Option α) (K : α → Prop) : Prop := match o with
  | some a => K a
  | none => False
def Sq (s : Option (Option D)) (K : D → Prop) : Prop := match s with
  | some (some d) => K d
  | _ => False
def Cdq (b : Bool) (A B : Prop) : Prop := if b then A else B
def Bq (fr : Fr) (K : Fr → Prop) : Prop := K fr
def Fq (f : Fl) (A B : Prop) : Prop := match f with
  | .nx => A
  | _ => B
def Rq (f : Fl) (K : D → Prop) : Prop := match f with
  | .rt d => K d
  | .nx => K .non
  | _ => False
section
variable {α β : Type} {Q : α → Fr → Hh → Prop} {E : Exn → Fr → Hh → Prop} {fr : Fr} {h : Hh}
theorem qwp_ok {a : α} : Wq (.ok a fr h) Q E = Q a fr h := by unfold Wq; rfl
theorem qwp_exc {x : Exn} : Wq (.exc x fr h : R α) Q E = E x fr h := by unfold Wq; rfl
theorem qwp_err : Wq (.err : R α) Q E = False := by unfold Wq; rfl
theorem qop_some {a : α} {K : α → Prop} : Oq (some a) K = K a := by unfold Oq; rfl
theorem qop_none {K : α → Prop} : Oq none K = False := by unfold Oq; rfl
theorem qop_map {o : Option α} {f : α → β} {K : β → Prop} : Oq (o.map f) K = Oq o fun a => K (f a) := by cases o <;> (unfold Oq; rfl)
theorem qop_ite {c : Prop} [Decidable c] {a : α} {K : α → Prop} : Oq (if c then some a else none) K = (c ∧ K a) := by
  by_cases hc : c
  · rw [if_pos hc, qop_some]; simp [hc]
  · rw [if_neg hc, qop_none]; simp [hc]
theorem qop_itb {c : Bool} {a : α} {K : α → Prop} : Oq (if c then some a else none) K = (c = true ∧ K a) := qop_ite
theorem qsl_some {d : D} {K : D → Prop} : Sq (some (some d)) K = K d := by unfold Sq; rfl
theorem qcd_t {A B : Prop} : Cdq true A B = A := by unfold Cdq; exact if_pos rfl
theorem qcd_f {A B : Prop} : Cdq false A B = B := by unfold Cdq; exact if_neg (fun z => by cases z)
theorem qbx_cons {a : Option D} {l : Fr} {K : Fr → Prop} : Bq (a :: l) K = K (a :: l) := by unfold Bq; rfl
theorem qflk_nx {A B : Prop} : Fq .nx A B = A := by unfold Fq; rfl
theorem qflk_rt {A B : Prop} {d : D} : Fq (.rt d) A B = B := by unfold Fq; rfl
theorem qflk_brk {A B : Prop} : Fq .brk A B = B := by unfold Fq; rfl
theorem qflk_ct {A B : Prop} : Fq .ct A B = B := by unfold Fq; rfl
theorem qrtk_rt {K : D → Prop} {d : D} : Rq (.rt d) K = K d := by unfold Rq; rfl
theorem Wq.mono {r : R α} {Q Q' : α → Fr → Hh → Prop} {E : Exn → Fr → Hh → Prop} (w : Wq r Q E) (hq : ∀ a fr h, Q a fr h → Q' a fr h) : Wq r Q' E := by
  cases r with
  | ok a fr h => exact hq _ _ _ w
  | exc x fr h => exact w
  | err => exact w
theorem Wq.ex {r : R α} {Q : α → Fr → Hh → Prop} (w : Wq r Q NoE) : ∃ a fr h, r = .ok a fr h ∧ Q a fr h := by
  cases r with
  | ok a fr h => exact ⟨a, fr, h, rfl, w⟩
  | exc x fr h => exact w.elim
  | err => exact w.elim
theorem Wq.eq {a : α} {r : R α} {fr : Fr} {h : Hh} (w : Wq r (fun b fr1 h1 => b = a ∧ fr1 = fr ∧ h1 = h) NoE) : r = .ok a fr h := by
  obtain ⟨b, fr1, h1, e, e1, e2, e3⟩ := w.ex
  rw [e, e1, e2, e3]
theorem Wq.of_eq {r : R α} {a : α} {fr : Fr} {h : Hh} (e : r = .ok a fr h) (q : Q a fr h) : Wq r Q E := by
  rw [e]; exact q

theorem qwp_ret {a : α} : Wq (M.ret a fr h) Q E = Q a fr h := by unfold M.ret; exact qwp_ok
theorem qwp_bind {m : M β} {f : β → M α} : Wq (M.bind m f fr h) Q E = Wq (m fr h) (fun a fr h => Wq (f a fr h) Q E) E := by
  unfold M.bind
  cases m fr h <;> (unfold Wq; rfl)
theorem qwp_opt {o : Option α} : Wq (M.opt o fr h) Q E = Oq o fun a => Q a fr h := by
  cases o <;> (unfold Wq Oq M.opt; rfl)
end
section
variable {α : Type} {Q : D → Fr → Hh → Prop} {P : Bool → Fr → Hh → Prop} {S : α → Fr → Hh → Prop} {U : Unit → Fr → Hh → Prop} {G : List D → Fr → Hh → Prop} {L : Fl → Fr → Hh → Prop} {I : Option Int → Fr → Hh → Prop} {E : Exn → Fr → Hh → Prop} {fr : Fr} {h : Hh} {m ma mb mc : M D} {i : Nat}
theorem qwp_C {d : D} : Wq (mC d fr h) Q E = Q d fr h := qwp_ret
theorem qwp_Fz : Wq (mFz m fr h) Q E = Wq (m fr h) (fun d fr h => Q d.fz fr h) E := by
  unfold mFz; rw [qwp_bind]; simp only [qwp_ret]
theorem qwp_Var : Wq (mVar i fr h) Q E = Sq fr[i]? fun d => Cdq d.own (Bq (fr.set i (some d.fz)) fun fr => Q d.fz fr h) (Q d fr h) := by
  unfold mVar
  cases fr[i]? with
  | none => rfl
  | some o => cases o with
    | none => rfl
    | some d =>
      rw [qsl_some]
      dsimp only
      cases d.own <;> rfl
theorem qwp_Bor : Wq (mBor i fr h) Q E = Sq fr[i]? fun d => Q d fr h := by
  unfold mBor
  cases fr[i]? with
  | none => rfl
  | some o => cases o <;> rfl
theorem qwp_Has : Wq (mHas i fr h) U E = Sq fr[i]? fun _ => U () fr h := by
  unfold mHas
  cases fr[i]? with
  | none => rfl
  | some o => cases o <;> rfl
theorem qwp_Op {f : Hh → D → D → Option α} : Wq (mOp f ma mb fr h) S E = Wq (ma fr h) (fun x fr h => Wq (mb fr h) (fun y fr h => Oq (f h x y) fun z => S z fr h) E) E := by
  unfold mOp; simp only [qwp_bind, qwp_opt]
theorem qwp_Un {f : Hh → D → Option α} : Wq (mUn f ma fr h) S E = Wq (ma fr h) (fun x fr h => Oq (f h x) fun z => S z fr h) E := by
  unfold mUn; simp only [qwp_bind, qwp_opt]
theorem qwp_Bl {t : M Bool} : Wq (mBl t fr h) Q E = Wq (t fr h) (fun b fr h => Q (.bl b) fr h) E := by
  unfold mBl; simp only [qwp_bind, qwp_ret]
theorem qwp_Not {t : M Bool} : Wq (mNot t fr h) P E = Wq (t fr h) (fun b fr h => P (!b) fr h) E := by
  unfold mNot; simp only [qwp_bind, qwp_ret]
theorem qwp_iteM {β : Type} {b : Bool} {m n : M β} {Q : β → Fr → Hh → Prop} : Wq ((if b then m else n) fr h) Q E = Cdq b (Wq (m fr h) Q E) (Wq (n fr h) Q E) := by
  cases b
  · rw [qcd_f]; rfl
  · rw [qcd_t]; rfl
theorem qwp_And {t u : M Bool} : Wq (mAnd t u fr h) P E = Wq (t fr h) (fun b fr h => Cdq b (Wq (u fr h) P E) (P false fr h)) E := by
  unfold mAnd; simp only [qwp_bind, qwp_iteM, qwp_ret]
theorem qwp_Or {t u : M Bool} : Wq (mOr t u fr h) P E = Wq (t fr h) (fun b fr h => Cdq b (P true fr h) (Wq (u fr h) P E)) E := by
  unfold mOr; simp only [qwp_bind, qwp_iteM, qwp_ret]
theorem qwp_NotV : Wq (mNotV m fr h) Q E = Wq (m fr h) (fun d fr h => Oq d.tb fun b => Q (.bl (!b)) fr h) E := by
  unfold mNotV; simp only [qwp_bind, qwp_opt, qop_map]
theorem qwp_AndV {n : M D} : Wq (mAndV m n fr h) Q E = Wq (m fr h) (fun d fr h => Oq d.tb fun b => Cdq b (Wq (n fr h) Q E) (Q (.bl false) fr h)) E := by
  unfold mAndV; rw [qwp_bind]
  congr 1
  funext d fr h
  cases d.tb with
  | none => dsimp only; rw [qwp_opt, qop_none, qop_none]
  | some b =>
    rw [qop_some]
    cases b
    · rw [qcd_f]; exact qwp_ret
    · rw [qcd_t]
theorem qwp_If {t : M Bool} {m n : M α} : Wq (mIf t m n fr h) S E = Wq (t fr h) (fun b fr h => Cdq b (Wq (m fr h) S E) (Wq (n fr h) S E)) E := by
  unfold mIf; simp only [qwp_bind, qwp_iteM]
theorem qwp_Args0 : Wq (mArgs [] fr h) G E = G [] fr h := qwp_ret
theorem qwp_Args1 {ms : List (M D)} : Wq (mArgs (m :: ms) fr h) G E = Wq (m fr h) (fun d fr h => Wq (mArgs ms fr h) (fun ds fr h => G (d :: ds) fr h) E) E := by
  rw [mArgs]; simp only [qwp_bind, qwp_ret]
theorem qwp_Tup {ms : List (M D)} : Wq (mTup ms fr h) Q E = Wq (mArgs ms fr h) (fun ds fr h => ds.length ≤ big ∧ Q (.tup ds) fr h) E := by
  unfold mTup; simp only [qwp_bind, qwp_opt, qop_ite]
theorem qwp_Lst {ms : List (M D)} : Wq (mLst ms fr h) Q E = Wq (mArgs ms fr h) (fun ds fr h => ds.length ≤ big ∧ Q (.nl ds) fr h) E := by
  unfold mLst; simp only [qwp_bind, qwp_opt, qop_ite]
theorem qwp_Late {β : Type} {m : M β} {f : Hh → D → β → Option D} : Wq (mLate i m f fr h) Q E = Sq fr[i]? fun _ => Wq (m fr h) (fun y fr h => Sq fr[i]? fun d => Oq (f h d y) fun z => Q z fr h) E := by
  unfold mLate; simp only [qwp_bind, qwp_Has, qwp_Bor, qwp_opt]
theorem qwp_Pn : Wq (mPn fr h) I E = I none fr h := qwp_ret
theorem qwp_Ps : Wq (mPs m fr h) I E = Wq (m fr h) (fun d fr h => Oq (match d with | .int i => some i | _ => none) fun i => I (some i) fr h) E := by
  unfold mPs; rw [qwp_bind]
  congr 1
  funext d fr h
  cases d <;> (rw [qwp_opt]; first | rw [qop_none, qop_none] | rw [qop_some, qop_some])
theorem qwp_Cut {ml mh : M (Option Int)} : Wq (mCut m ml mh fr h) Q E = Wq (m fr h) (fun d fr h => Wq (ml fr h) (fun l fr h => Wq (mh fr h) (fun u fr h => Oq (bCut h d (l, u)) fun z => Q z fr h) E) E) E := by
  unfold mCut; simp only [qwp_bind, qwp_opt]
theorem qwp_Rng1 : Wq (mRng1 m fr h) G E = Wq (m fr h) (fun d fr h => Oq (rgA d) fun l => G l fr h) E := by
  unfold mRng1; simp only [qwp_bind, qwp_opt]; rfl
theorem qwp_Seq {s n : M Fl} : Wq (mSeq s n fr h) L E = Wq (s fr h) (fun f fr h => Fq f (Wq (n fr h) L E) (L f fr h)) E := by
  unfold mSeq; rw [qwp_bind]
  congr 1
  funext f fr h
  cases f with
  | nx => rw [qflk_nx]
  | brk => rw [qflk_brk]; exact qwp_ret
  | ct => rw [qflk_ct]; exact qwp_ret
  | rt d => rw [qflk_rt]; exact qwp_ret
theorem qwp_IfS {t : M Bool} {s n : M Fl} : Wq (mIfS t s n fr h) L E = Wq (t fr h) (fun b fr h => Cdq b (Wq (s fr h) L E) (Wq (n fr h) L E)) E := by
  unfold mIfS; simp only [qwp_bind, qwp_iteM]
theorem qwp_Ret : Wq (mRet m fr h) L E = Wq (m fr h) (fun d fr h => L (.rt d) fr h) E := by
  unfold mRet; simp only [qwp_bind, qwp_ret]
theorem qwp_Put : Wq (mPut i m fr h) L E = Wq (m fr h) (fun d fr h => Bq (fr.set i (some d)) fun fr => L .nx fr h) E := by
  unfold mPut Bq; rw [qwp_bind]
  congr 1
theorem qwp_Asg {g : D → M Unit} : Wq (mAsg m g fr h) L E = Wq (m fr h) (fun d fr h => Wq (g d fr h) (fun _ fr h => L .nx fr h) NoE) E := by
  unfold mAsg; rw [qwp_bind]
  congr 1
  funext d fr h
  cases g d fr h <;> (unfold Wq; rfl)
theorem qwp_PutE {is : List Nat} {ms : M (List D)} : Wq (mPutE is ms fr h) L E = Wq (ms fr h) (fun ds fr h => Oq (mPuts is ds fr) fun fr' => ds.length ≤ big ∧ Bq fr' fun fr' => L .nx fr' h) E := by
  unfold mPutE Bq; rw [qwp_bind]
  congr 1
  funext ds fr h
  cases mPuts is ds fr with
  | none => exact qwp_err.trans qop_none.symm
  | some f =>
    rw [qop_some]
    dsimp only
    split
    · rename_i hb; rw [qwp_ok]; simp only [hb, true_and]
    · rename_i hb; rw [qwp_err]; simp only [hb, false_and]
theorem qwp_ForI {l : M (List D)} {g : D → M Unit} {b : M Fl} : Wq (mForI l g b fr h) L E = Wq (l fr h) (fun ds fr h => Wq (mFor g b ds fr h) L E) E := by
  unfold mForI; rw [qwp_bind]
theorem qwp_tgNm {d : D} : Wq (tgNm i d fr h) U E = Bq (fr.set i (some d)) fun fr => U () fr h := by
  unfold tgNm Bq; exact qwp_ok
theorem qwp_tgNil : Wq (tgNil [] fr h) U E = U () fr h := qwp_ret
theorem qwp_tgCons {g : D → M Unit} {gs : List D → M Unit} {d : D} {ds : List D} : Wq (tgCons g gs (d :: ds) fr h) U E = Wq (g d fr h) (fun _ fr h => Wq (gs ds fr h) U E) E := by
  unfold tgCons; exact qwp_bind
theorem qwp_tgTup {n : Nat} {gs : List D → M Unit} {l : List D} : Wq (tgTup n gs (.tup l) fr h) U E = (l.length = n ∧ Wq (gs l fr h) U E) := by
  unfold tgTup
  dsimp only
  split
  · rename_i hb; simp only [hb, true_and]
  · rename_i hb; rw [qwp_opt, qop_none]; simp only [hb, false_and]
theorem qwp_Cell : Wq (mCell m fr h) Q E = Wq (m fr h) (fun d fr h => d.own = true ∧ Q (.ref h.length) fr (h ++ [d])) E := by
  unfold mCell; rw [qwp_bind]
  congr 1
  funext d fr h
  split
  · rename_i hb; rw [qwp_ok]; simp only [hb, true_and]
  · rename_i hb; rw [qwp_err, eq_iff_iff]
    exact ⟨False.elim, fun z => hb z.1⟩
theorem qwp_PutFld {ix : Nat → Option Nat} : Wq (mPutFld i ix m fr h) L E = Wq (m fr h) (fun d fr h => Wq (mutFld i ix d fr h) (fun _ fr h => L .nx fr h) E) E := by
  unfold mPutFld; simp only [qwp_bind, qwp_ret]
theorem qwp_mutF {ix : Nat → Option Nat} {x : D} : Wq (mutFld i ix x fr h) U E = Sq fr[i]? fun d => match d with
  | .no c fs => Oq (ix c) fun k => Oq (putFs k x fs) fun fs' => Bq (fr.set i (some (.no c fs'))) fun fr => U () fr h
  | .ref n => Oq h[n]? fun c => match c with
    | .no c fs => Oq (ix c) fun k => Oq (putFs k x fs) fun fs' => U () fr (h.set n (.no c fs'))
    | _ => False
  | _ => False := by
  unfold mutFld Bq
  cases e : fr[i]? with
  | none => unfold Wq Sq; rfl
  | some o =>
    cases o with
    | none => unfold Wq Sq; rfl
    | some d =>
      rw [qsl_some]
      cases d with
      | no c fs =>
        dsimp only
        cases ix c with
        | none => unfold Wq Oq; rfl
        | some k => rw [qop_some]; dsimp only; cases putFs k x fs <;> (unfold Wq Oq; rfl)
      | ref n =>
        dsimp only
        cases h[n]? with
        | none => unfold Wq Oq; rfl
        | some c =>
          rw [qop_some]
          cases c with
          | no c fs =>
            dsimp only
            cases ix c with
            | none => unfold Wq Oq; rfl
            | some k => rw [qop_some]; dsimp only; cases putFs k x fs <;> (unfold Wq Oq; rfl)
          | _ => unfold Wq; rfl
      | _ => unfold Wq; rfl
theorem qwp_lift {r : R D} {fr0 : Fr} : Wq (liftR fr0 r) Q E = Wq r (fun d _ h => Q d fr0 h) (fun x _ h => E x fr0 h) := by
  cases r <;> (unfold Wq liftR; rfl)
theorem qwp_Call {n k : Nat} {F : Fn} {gD : List D → List D → List D} {ma mk : M (List D)} : Wq (mCall n k F gD ma mk fr h) Q E = Wq (ma fr h) (fun ds fr h => Wq (mk fr h) (fun es fr h => ds.length = n ∧ es.length = k ∧ Wq (F (gD ds es) h) (fun d _ h => Q d fr h) (fun x _ h => E x fr h)) E) E := by
  unfold mCall; rw [qwp_bind]
  congr 1
  funext ds fr h
  rw [qwp_bind]
  congr 1
  funext es fr h
  split
  · rename_i hb; rw [qwp_lift]; simp only [hb.1, hb.2, true_and]
  · rename_i hb
    rw [qwp_err, eq_iff_iff]
    exact ⟨False.elim, fun z => hb ⟨z.1, z.2.1⟩⟩
theorem qwp_Meth {n k : Nat} {mt : Nat → Option Fn} {gD : List D → List D → List D} {mo : M D} {ma mk : M (List D)} : Wq (mMeth n k mt gD mo ma mk fr h) Q E = Wq (mo fr h) (fun o fr h => Oq (fnOf mt h o) fun F => Wq (ma fr h) (fun ds fr h => Wq (mk fr h) (fun es fr h => ds.length = n ∧ es.length = k ∧ Wq (F (gD (o :: ds) es) h) (fun d _ h => Q d fr h) (fun x _ h => E x fr h)) E) E) E := by
  unfold mMeth; rw [qwp_bind]
  congr 1
  funext o fr h
  cases fnOf mt h o with
  | none => exact qwp_err.trans qop_none.symm
  | some F =>
    rw [qop_some]
    dsimp only
    rw [qwp_Call]
    simp only [qwp_bind, qwp_ret, List.length_cons, Nat.add_right_cancel_iff]
theorem qwp_Prop {mt : Nat → Option Fn} {mo : M D} : Wq (mProp mt mo fr h) Q E = Wq (mo fr h) (fun o fr h => Oq (fnOf mt h o) fun F => Wq (F [o] h) (fun d _ h => Q d fr h) NoE) E := by
  unfold mProp; rw [qwp_bind]
  congr 1
  funext o fr h
  cases fnOf mt h o with
  | none => exact qwp_err.trans qop_none.symm
  | some F =>
    rw [qop_some]
    dsimp only
    cases F [o] h <;> (unfold Wq; rfl)
theorem qwp_runF {n : Nat} {m : M Fl} {ds : List D} : Wq (runF n m ds h) Q E = Bq (startF n ds) fun fr => Wq (m fr h) (fun f _ h => Rq f fun d => Q d [] h) (fun x _ h => E x [] h) := by
  unfold runF Bq
  show _ = Wq (m (startF n ds) h) _ _
  generalize m (startF n ds) h = r
  cases r with
  | ok f fr h => cases f <;> rfl
  | exc x fr h => rfl
  | err => rfl
def Nq (c : Nat) (s : Option (Option D)) (K : D → Prop) : Prop := match s with
  | some (some (.no c' fs)) => c' = c ∧ K (.no c fs)
  | _ => False
theorem qnok_some {c c' : Nat} {fs : List D} {K : D → Prop} : Nq c (some (some (.no c' fs))) K = (c' = c ∧ K (.no c fs)) := by unfold Nq; rfl
theorem qwp_runI {c n : Nat} {m : M Fl} {ds : List D} : Wq (runI c n m ds h) Q E = Bq (startF n (.no c [] :: ds)) fun fr => Wq (m fr h) (fun f fr h => Fq f (Nq c fr[0]? fun d => Q d [] h) False) (fun x _ h => E x [] h) := by
  unfold runI Bq
  show _ = Wq (m (startF n (.no c [] :: ds)) h) _ _
  generalize m (startF n (.no c [] :: ds)) h = r
  cases r with
  | ok f fr h =>
    cases f with
    | nx =>
      rw [qwp_ok, qflk_nx]
      dsimp only
      cases e : (fr : List (Option D))[0]? with
      | none => rfl
      | some o =>
        cases o with
        | none => rfl
        | some d =>
          cases d with
          | no c' fs =>
            rw [qnok_some]
            dsimp only
            split
            · rename_i hb; subst hb; rw [qwp_ok]; simp
            · rename_i hb; rw [qwp_err]; simp only [hb, false_and]
          | _ => rfl
    | _ => rfl
  | exc x fr h => rfl
  | err => rfl
end
/-! ### the same, shut: simp does not look into what follows -/
structure Tg0 {β γ : Type} (_ : β) (_ : γ) : Type where
def Wp {α : Type} (r : R α) (Q : α → Fr → Hh → Prop) (E : Exn → Fr → Hh → Prop) (_ : Tg0 Q E := ⟨⟩) : Prop := Wq r Q E
def Op {α : Type} (o : Option α) (K : α → Prop) (_ : Tg0 K K := ⟨⟩) : Prop := Oq o K
def Sl (s : Option (Option D)) (K : D → Prop) (_ : Tg0 K K := ⟨⟩) : Prop := Sq s K
def Cd (b : Bool) (A B : Prop) (_ : Tg0 A B := ⟨⟩) : Prop := Cdq b A B
def Bx (fr : Fr) (K : Fr → Prop) (_ : Tg0 K K := ⟨⟩) : Prop := Bq fr K
def FlK (f : Fl) (A B : Prop) (_ : Tg0 A B := ⟨⟩) : Prop := Fq f A B
def RtK (f : Fl) (K : D → Prop) (_ : Tg0 K K := ⟨⟩) : Prop := Rq f K
def NoK (c : Nat) (s : Option (Option D)) (K : D → Prop) (_ : Tg0 K K := ⟨⟩) : Prop := Nq c s K
section
variable {α β : Type} {Q : α → Fr → Hh → Prop} {E : Exn → Fr → Hh → Prop} {fr : Fr} {h : Hh}
theorem wp_ok {a : α} : Wp (.ok a fr h) Q E = Q a fr h := qwp_ok
theorem wp_exc {x : Exn} : Wp (.exc x fr h : R α) Q E = E x fr h := qwp_exc
theorem op_some {a : α} {K : α → Prop} : Op (some a) K = K a := qop_some
theorem op_none {K : α → Prop} : Op none K = False := qop_none
theorem op_itb {c : Bool} {a : α} {K : α → Prop} : Op (if c then some a else none) K = (c = true ∧ K a) := qop_itb
theorem sl_some {d : D} {K : D → Prop} : Sl (some (some d)) K = K d := qsl_some
theorem cd_t {A B : Prop} : Cd true A B = A := qcd_t
theorem cd_f {A B : Prop} : Cd false A B = B := qcd_f
theorem bx_cons {a : Option D} {l : Fr} {K : Fr → Prop} : Bx (a :: l) K = K (a :: l) := qbx_cons
theorem flk_nx {A B : Prop} : FlK .nx A B = A := qflk_nx
theorem flk_rt {A B : Prop} {d : D} : FlK (.rt d) A B = B := qflk_rt
theorem rtk_rt {K : D → Prop} {d : D} : RtK (.rt d) K = K d := qrtk_rt
theorem Wp.mono {r : R α} {Q Q' : α → Fr → Hh → Prop} {E : Exn → Fr → Hh → Prop} (w : Wp r Q E) (hq : ∀ a fr h, Q a fr h → Q' a fr h) : Wp r Q' E := Wq.mono w hq
theorem Wp.ex {r : R α} {Q : α → Fr → Hh → Prop} (w : Wp r Q NoE) : ∃ a fr h, r = .ok a fr h ∧ Q a fr h := Wq.ex w
theorem Wp.eq {a : α} {r : R α} {fr : Fr} {h : Hh} (w : Wp r (fun b fr1 h1 => b = a ∧ fr1 = fr ∧ h1 = h) NoE) : r = .ok a fr h := Wq.eq w
theorem Wp.of_eq {r : R α} {a : α} {fr : Fr} {h : Hh} (e : r = .ok a fr h) (q : Q a fr h) : Wp r Q E := Wq.of_eq e q
theorem wp_ret {a : α} : Wp (M.ret a fr h) Q E = Q a fr h := qwp_ret
end
section
variable {α : Type} {Q : D → Fr → Hh → Prop} {P : Bool → Fr → Hh → Prop} {S : α → Fr → Hh → Prop} {U : Unit → Fr → Hh → Prop} {G : List D → Fr → Hh → Prop} {L : Fl → Fr → Hh → Prop} {I : Option Int → Fr → Hh → Prop} {E : Exn → Fr → Hh → Prop} {fr : Fr} {h : Hh} {m ma mb mc : M D} {i : Nat}
theorem wp_C {d : D} : Wp (mC d fr h) Q E = Q d fr h := qwp_C
theorem wp_Fz : Wp (mFz m fr h) Q E = Wp (m fr h) (fun d fr h => Q d.fz fr h) E := qwp_Fz
theorem wp_Var : Wp (mVar i fr h) Q E = Sl fr[i]? fun d => Cd d.own (Bx (fr.set i (some d.fz)) fun fr => Q d.fz fr h) (Q d fr h) := qwp_Var
theorem wp_Bor : Wp (mBor i fr h) Q E = Sl fr[i]? fun d => Q d fr h := qwp_Bor
theorem wp_Op {f : Hh → D → D → Option α} : Wp (mOp f ma mb fr h) S E = Wp (ma fr h) (fun x fr h => Wp (mb fr h) (fun y fr h => Op (f h x y) fun z => S z fr h) E) E := qwp_Op
theorem wp_Un {f : Hh → D → Option α} : Wp (mUn f ma fr h) S E = Wp (ma fr h) (fun x fr h => Op (f h x) fun z => S z fr h) E := qwp_Un
theorem wp_Bl {t : M Bool} : Wp (mBl t fr h) Q E = Wp (t fr h) (fun b fr h => Q (.bl b) fr h) E := qwp_Bl
theorem wp_Not {t : M Bool} : Wp (mNot t fr h) P E = Wp (t fr h) (fun b fr h => P (!b) fr h) E := qwp_Not
theorem wp_And {t u : M Bool} : Wp (mAnd t u fr h) P E = Wp (t fr h) (fun b fr h => Cd b (Wp (u fr h) P E) (P false fr h)) E := qwp_And
theorem wp_Or {t u : M Bool} : Wp (mOr t u fr h) P E = Wp (t fr h) (fun b fr h => Cd b (P true fr h) (Wp (u fr h) P E)) E := qwp_Or
theorem wp_NotV : Wp (mNotV m fr h) Q E = Wp (m fr h) (fun d fr h => Op d.tb fun b => Q (.bl (!b)) fr h) E := qwp_NotV
theorem wp_AndV {n : M D} : Wp (mAndV m n fr h) Q E = Wp (m fr h) (fun d fr h => Op d.tb fun b => Cd b (Wp (n fr h) Q E) (Q (.bl false) fr h)) E := qwp_AndV
theorem wp_If {t : M Bool} {m n : M α} : Wp (mIf t m n fr h) S E = Wp (t fr h) (fun b fr h => Cd b (Wp (m fr h) S E) (Wp (n fr h) S E)) E := qwp_If
theorem wp_Args0 : Wp (mArgs [] fr h) G E = G [] fr h := qwp_Args0
theorem wp_Args1 {ms : List (M D)} : Wp (mArgs (m :: ms) fr h) G E = Wp (m fr h) (fun d fr h => Wp (mArgs ms fr h) (fun ds fr h => G (d :: ds) fr h) E) E := qwp_Args1
theorem wp_Tup {ms : List (M D)} : Wp (mTup ms fr h) Q E = Wp (mArgs ms fr h) (fun ds fr h => ds.length ≤ big ∧ Q (.tup ds) fr h) E := qwp_Tup
theorem wp_Lst {ms : List (M D)} : Wp (mLst ms fr h) Q E = Wp (mArgs ms fr h) (fun ds fr h => ds.length ≤ big ∧ Q (.nl ds) fr h) E := qwp_Lst
theorem wp_Late {β : Type} {m : M β} {f : Hh → D → β → Option D} : Wp (mLate i m f fr h) Q E = Sl fr[i]? fun _ => Wp (m fr h) (fun y fr h => Sl fr[i]? fun d => Op (f h d y) fun z => Q z fr h) E := qwp_Late
theorem wp_Pn : Wp (mPn fr h) I E = I none fr h := qwp_Pn
theorem wp_Ps : Wp (mPs m fr h) I E = Wp (m fr h) (fun d fr h => Op (match d with | .int i => some i | _ => none) fun i => I (some i) fr h) E := qwp_Ps
theorem wp_Cut {ml mh : M (Option Int)} : Wp (mCut m ml mh fr h) Q E = Wp (m fr h) (fun d fr h => Wp (ml fr h) (fun l fr h => Wp (mh fr h) (fun u fr h => Op (bCut h d (l, u)) fun z => Q z fr h) E) E) E := qwp_Cut
theorem wp_Rng1 : Wp (mRng1 m fr h) G E = Wp (m fr h) (fun d fr h => Op (rgA d) fun l => G l fr h) E := qwp_Rng1
theorem wp_Seq {s n : M Fl} : Wp (mSeq s n fr h) L E = Wp (s fr h) (fun f fr h => FlK f (Wp (n fr h) L E) (L f fr h)) E := qwp_Seq
theorem wp_IfS {t : M Bool} {s n : M Fl} : Wp (mIfS t s n fr h) L E = Wp (t fr h) (fun b fr h => Cd b (Wp (s fr h) L E) (Wp (n fr h) L E)) E := qwp_IfS
theorem wp_Ret : Wp (mRet m fr h) L E = Wp (m fr h) (fun d fr h => L (.rt d) fr h) E := qwp_Ret
theorem wp_Put : Wp (mPut i m fr h) L E = Wp (m fr h) (fun d fr h => Bx (fr.set i (some d)) fun fr => L .nx fr h) E := qwp_Put
theorem wp_Asg {g : D → M Unit} : Wp (mAsg m g fr h) L E = Wp (m fr h) (fun d fr h => Wp (g d fr h) (fun _ fr h => L .nx fr h) NoE) E := qwp_Asg
theorem wp_PutE {is : List Nat} {ms : M (List D)} : Wp (mPutE is ms fr h) L E = Wp (ms fr h) (fun ds fr h => Op (mPuts is ds fr) fun fr' => ds.length ≤ big ∧ Bx fr' fun fr' => L .nx fr' h) E := qwp_PutE
theorem wp_ForI {l : M (List D)} {g : D → M Unit} {b : M Fl} : Wp (mForI l g b fr h) L E = Wp (l fr h) (fun ds fr h => Wp (mFor g b ds fr h) L E) E := qwp_ForI
theorem wp_tgNm {d : D} : Wp (tgNm i d fr h) U E = Bx (fr.set i (some d)) fun fr => U () fr h := qwp_tgNm
theorem wp_tgNil : Wp (tgNil [] fr h) U E = U () fr h := qwp_tgNil
theorem wp_tgCons {g : D → M Unit} {gs : List D → M Unit} {d : D} {ds : List D} : Wp (tgCons g gs (d :: ds) fr h) U E = Wp (g d fr h) (fun _ fr h => Wp (gs ds fr h) U E) E := qwp_tgCons
theorem wp_tgTup {n : Nat} {gs : List D → M Unit} {l : List D} : Wp (tgTup n gs (.tup l) fr h) U E = (l.length = n ∧ Wp (gs l fr h) U E) := qwp_tgTup
theorem wp_Cell : Wp (mCell m fr h) Q E = Wp (m fr h) (fun d fr h => d.own = true ∧ Q (.ref h.length) fr (h ++ [d])) E := qwp_Cell
theorem wp_PutFld {ix : Nat → Option Nat} : Wp (mPutFld i ix m fr h) L E = Wp (m fr h) (fun d fr h => Wp (mutFld i ix d fr h) (fun _ fr h => L .nx fr h) E) E := qwp_PutFld
theorem wp_mutF {ix : Nat → Option Nat} {x : D} : Wp (mutFld i ix x fr h) U E = Sl fr[i]? fun d => match d with
  | .no c fs => Op (ix c) fun k => Op (putFs k x fs) fun fs' => Bx (fr.set i (some (.no c fs'))) fun fr => U () fr h
  | .ref n => Op h[n]? fun c => match c with
    | .no c fs => Op (ix c) fun k => Op (putFs k x fs) fun fs' => U () fr (h.set n (.no c fs'))
    | _ => False
  | _ => False := qwp_mutF
theorem wp_Call {n k : Nat} {F : Fn} {gD : List D → List D → List D} {ma mk : M (List D)} : Wp (mCall n k F gD ma mk fr h) Q E = Wp (ma fr h) (fun ds fr h => Wp (mk fr h) (fun es fr h => ds.length = n ∧ es.length = k ∧ Wp (F (gD ds es) h) (fun d _ h => Q d fr h) (fun x _ h => E x fr h)) E) E := qwp_Call
theorem wp_Meth {n k : Nat} {mt : Nat → Option Fn} {gD : List D → List D → List D} {mo : M D} {ma mk : M (List D)} : Wp (mMeth n k mt gD mo ma mk fr h) Q E = Wp (mo fr h) (fun o fr h => Op (fnOf mt h o) fun F => Wp (ma fr h) (fun ds fr h => Wp (mk fr h) (fun es fr h => ds.length = n ∧ es.length = k ∧ Wp (F (gD (o :: ds) es) h) (fun d _ h => Q d fr h) (fun x _ h => E x fr h)) E) E) E := qwp_Meth
theorem wp_Prop {mt : Nat → Option Fn} {mo : M D} : Wp (mProp mt mo fr h) Q E = Wp (mo fr h) (fun o fr h => Op (fnOf mt h o) fun F => Wp (F [o] h) (fun d _ h => Q d fr h) NoE) E := qwp_Prop
theorem wp_runF {n : Nat} {m : M Fl} {ds : List D} : Wp (runF n m ds h) Q E = Bx (startF n ds) fun fr => Wp (m fr h) (fun f _ h => RtK f fun d => Q d [] h) (fun x _ h => E x [] h) := qwp_runF
theorem nok_some {c c' : Nat} {fs : List D} {K : D → Prop} : NoK c (some (some (.no c' fs))) K = (c' = c ∧ K (.no c fs)) := qnok_some
theorem wp_runI {c n : Nat} {m : M Fl} {ds : List D} : Wp (runI c n m ds h) Q E = Bx (startF n (.no c [] :: ds)) fun fr => Wp (m fr h) (fun f fr h => FlK f (NoK c fr[0]? fun d => Q d [] h) False) (fun x _ h => E x [] h) := qwp_runI
end
end Pk

/-! Wp2: values, tests and lists under the rules of Wp1; loops. -/
namespace Pk
open PySem PySem.Spec L2
section
variable {h : Hh} {l l' ds fs : List D} {i j : Int} {a b : Bool} {s z : Str} {n c : Nat} {t : String}
theorem own_int : (D.int i).own = false := by unfold D.own; rfl
theorem own_str : (D.str s).own = false := by unfold D.own; rfl
theorem own_non : D.non.own = false := by unfold D.own; rfl
theorem own_tup : (D.tup l).own = false := by unfold D.own; rfl
theorem own_kl : (D.kl l).own = false := by unfold D.own; rfl
theorem own_obj : (D.obj c l).own = false := by unfold D.own; rfl
theorem own_ref : (D.ref n).own = false := by unfold D.own; rfl
theorem own_nl : (D.nl l).own = true := by unfold D.own; rfl
theorem own_no : (D.no c l).own = true := by unfold D.own; rfl
theorem fz_int : (D.int i).fz = .int i := by unfold D.fz; rfl
theorem fz_str : (D.str s).fz = .str s := by unfold D.fz; rfl
theorem fz_tup : (D.tup l).fz = .tup l := by unfold D.fz; rfl
theorem fz_nl : (D.nl l).fz = .fl l := by unfold D.fz; rfl
theorem fz_no : (D.no c l).fz = .obj c l := by unfold D.fz; rfl
theorem fz_of {d : D} (o : d.own = false) : d.fz = d := by
  cases d <;> first | rfl | (unfold D.own at o; cases o)
theorem its_tup : (D.tup l).its h = some l := by unfold D.its D.der; rfl
theorem its_fl : (D.fl l).its h = some l := by unfold D.its D.der; rfl
theorem its_kl : (D.kl l).its h = some l := by unfold D.its D.der; rfl
theorem bLen_kl : bLen h (.kl l) = some (.int l.length) := by unfold bLen; dsimp only; rw [its_kl]; rfl
theorem bIdx_tup : bIdx h (.tup l) (.int i) = atI l i := by unfold bIdx; dsimp only; rw [its_tup]
theorem bIdx_f : bIdx h (.fl l) (.int i) = atI l i := by unfold bIdx; dsimp only; rw [its_fl]
section
variable {α : Type} {xs : List α}
theorem at_nat {k : Nat} : atI xs (k : Int) = xs[k]? := by
  unfold atI ixN
  rw [if_pos (by omega)]
  by_cases hk : k < xs.length
  · rw [if_pos (by omega)]; simp
  · rw [if_neg (by omega)]; simp; omega
theorem at_0 : atI xs 0 = xs[0]? := at_nat (k := 0)
theorem at_1 : atI xs 1 = xs[1]? := at_nat (k := 1)
theorem at_2 : atI xs 2 = xs[2]? := at_nat (k := 2)
theorem at_3 : atI xs 3 = xs[3]? := at_nat (k := 3)
theorem at_4 : atI xs 4 = xs[4]? := at_nat (k := 4)
theorem at_5 : atI xs 5 = xs[5]? := at_nat (k := 5)
end
section
variable {C : Int → Int → Bool} {g : Int → Int → Int} {K : D → Prop}
theorem op_int : Op (bInt C g h (.int i) (.int j)) K = (C i j = true ∧ K (.int (g i j))) := by unfold bInt; exact op_itb
theorem c_yes : cYes i j = true := by unfold cYes; rfl
theorem bAdd_int : bAdd h (.int i) (.int j) = some (.int (i + j)) := by unfold bAdd; rfl
theorem bNeg_int : bNeg (.int i) = some (.int (-i)) := by unfold bNeg; rfl
theorem bAbs_int : bAbs h (.int i) = some (.int (if i < 0 then -i else i)) := by unfold bAbs; rfl
theorem bInt1_int : bInt1 h (.int i) = some (.int i) := by unfold bInt1; rfl
theorem cInt_int {p : Int → Int → Bool} : cInt p h (.int i) (.int j) = some (p i j) := by unfold cInt; rfl
theorem cEq_ii : cEq h (.int i) (.int j) = some (decide (i = j)) := by
  have : cEq h (.int i) (.int j) = some (i == j) := by unfold cEq; rfl
  rw [this]
  by_cases e : i = j
  · subst e; simp
  · simp [e]
theorem cEq_bb : cEq h (.bl a) (.bl b) = some (a == b) := by unfold cEq; rfl
theorem cNe_eq {d e : D} : cNe h d e = (cEq h d e).map (!·) := by unfold cNe; rfl
theorem cNin_eq {d e : D} : cNin h d e = (cIn h d e).map (!·) := by unfold cNin; rfl
theorem cIs_non {d : D} : cIs h d .non = some d.isNon := by unfold cIs; rfl
theorem isNon_non : D.non.isNon = true := by unfold D.isNon; rfl
theorem isNon_int : (D.int i).isNon = false := by unfold D.isNon; rfl
theorem tb_bl : (D.bl a).tb = some a := by unfold D.tb; rfl
theorem tru_bl : (D.bl a).tru h = some a := by unfold D.tru; rfl
end
theorem fld_obj {ix : Nat → Option Nat} {K : D → Prop} : Op (bFld ix h (.obj c fs)) K = Op (ix c) fun k => Op fs[k]? K := by
  unfold bFld D.ins D.der; dsimp only
  cases ix c with
  | none => exact (op_none (K := K)).trans (op_none (α := Nat)).symm
  | some k => rw [op_some]
theorem fnOf_obj {mt : Nat → Option Fn} : fnOf mt h (.obj c fs) = mt c := by unfold fnOf D.ins D.der; rfl
theorem puts_nil {fr : Fr} : mPuts [] [] fr = some fr := by unfold mPuts; rfl
theorem puts_cons {fr : Fr} {k : Nat} {ks : List Nat} {d : D} : mPuts (k :: ks) (d :: ds) fr = mPuts ks ds (fr.set k (some d)) := by rw [mPuts]
theorem gPos_eq {dfl es : List D} : gPos dfl ds es = ds ++ dfl := by unfold gPos; rfl
theorem pick_nil {α : Type} {xs : List α} : pick [] xs = [] := by unfold pick; rfl
theorem pick_cons {α : Type} {xs : List α} {k : Nat} {ks : List Nat} : pick (k :: ks) xs = xs[k]?.toList ++ pick ks xs := by
  unfold pick
  rw [List.filterMap_cons]
  cases xs[k]? <;> rfl
theorem toL_some {α : Type} {x : α} : (some x).toList = [x] := by unfold Option.toList; rfl
end
theorem big_eq : big = 100000 := by unfold big; rfl
/-! ### loops -/
def LpK (f : Fl) (A : Prop) (B : Fl → Prop) (_ : Tg0 A B := ⟨⟩) : Prop := match f with
  | .nx => A
  | .ct => A
  | .brk => B .nx
  | .rt d => B (.rt d)
theorem lpk_nx {A : Prop} {B : Fl → Prop} : LpK .nx A B = A := by unfold LpK; rfl
theorem lpk_ct {A : Prop} {B : Fl → Prop} : LpK .ct A B = A := by unfold LpK; rfl
theorem lpk_brk {A : Prop} {B : Fl → Prop} : LpK .brk A B = B .nx := by unfold LpK; rfl
theorem lpk_rt {d : D} {A : Prop} {B : Fl → Prop} : LpK (.rt d) A B = B (.rt d) := by unfold LpK; rfl
section
variable {L : Fl → Fr → Hh → Prop} {E : Exn → Fr → Hh → Prop} {g : D → M Unit} {b : M Fl}
theorem wp_for0 {fr : Fr} {h : Hh} : Wp (mFor g b [] fr h) L E = L .nx fr h := by unfold mFor; exact wp_ret
theorem wp_for1 {d : D} {ds : List D} {fr : Fr} {h : Hh} : Wp (mFor g b (d :: ds) fr h) L E = Wp (g d fr h) (fun _ fr h => Wp (b fr h) (fun f fr h => LpK f (Wp (mFor g b ds fr h) L E) fun f => L f fr h) E) NoE := by
  rw [mFor]
  dsimp only
  cases g d fr h with
  | ok u fr h =>
    rw [wp_ok]
    dsimp only
    cases b fr h with
    | ok f fr h =>
      rw [wp_ok]
      cases f with
      | nx => rw [lpk_nx]
      | ct => rw [lpk_ct]
      | brk => rw [lpk_brk]; exact wp_ok
      | rt d => rw [lpk_rt]; exact wp_ok
    | exc x fr h => unfold Wp; rfl
    | err => unfold Wp; rfl
  | exc x fr h => unfold Wp NoE; rfl
  | err => unfold Wp; rfl
/-- a loop over what a list of α stands for: I says what holds behind the turns done -/
theorem wp_for {α : Type} {F : α → D} {xs : List α} (I : List α → Fr → Hh → Prop) {fr : Fr} {h : Hh} (i0 : I [] fr h)
    (st : ∀ pre a suf fr h, xs = pre ++ a :: suf → I pre fr h → Wp (g (F a) fr h) (fun _ fr h => Wp (b fr h) (fun f fr h => LpK f (I (pre ++ [a]) fr h) fun f => L f fr h) E) NoE)
    (en : ∀ fr h, I xs fr h → L .nx fr h) : Wp (mFor g b (xs.map F) fr h) L E := by
  have main : ∀ (suf pre : List α) (fr : Fr) (h : Hh), xs = pre ++ suf → I pre fr h → Wp (mFor g b (suf.map F) fr h) L E := by
    intro suf
    induction suf with
    | nil =>
      intro pre fr h e i
      rw [List.map_nil, wp_for0]
      rw [List.append_nil] at e
      subst e
      exact en fr h i
    | cons a suf ih =>
      intro pre fr h e i
      rw [List.map_cons, wp_for1]
      refine (st pre a suf fr h e i).mono fun _ fr1 h1 w => w.mono fun f fr2 h2 z => ?_
      have e' : xs = (pre ++ [a]) ++ suf := by rw [e, List.append_assoc]; rfl
      cases f with
      | nx => rw [lpk_nx] at z ⊢; exact ih _ _ _ e' z
      | ct => rw [lpk_ct] at z ⊢; exact ih _ _ _ e' z
      | brk => rw [lpk_brk] at z ⊢; exact z
      | rt d => rw [lpk_rt] at z ⊢; exact z
  exact main xs [] fr h rfl i0
/-- a loop over a range -/
theorem wp_forR {lo : Int} {n : Nat} (I : Int → Fr → Hh → Prop) {fr : Fr} {h : Hh} (i0 : I lo fr h)
    (st : ∀ j fr h, lo ≤ j → j < lo + n → I j fr h → Wp (g (.int j) fr h) (fun _ fr h => Wp (b fr h) (fun f fr h => LpK f (I (j + 1) fr h) fun f => L f fr h) E) NoE)
    (en : ∀ fr h, I (lo + n) fr h → L .nx fr h) : Wp (mFor g b (rngD lo n) fr h) L E := by
  have e : rngD lo n = ((List.range n).map fun (k : Nat) => lo + (k : Int)).map D.int := by unfold rngD; rw [List.map_map]; rfl
  rw [e]
  refine wp_for (fun pre fr h => I (lo + pre.length) fr h) (by simpa using i0) (fun pre a suf fr h ex i => ?_) (fun fr h i => en fr h ?_)
  · have hl : pre.length < n := by
      have := congrArg List.length ex
      simp only [List.length_map, List.length_range, List.length_append, List.length_cons] at this
      omega
    have ha : a = lo + pre.length := by
      have := congrArg (fun l => l[pre.length]?) ex
      simp only [List.getElem?_map, List.getElem?_range hl, Option.map_some, List.getElem?_append_right (Nat.le_refl _), Nat.sub_self, List.getElem?_cons_zero, Option.some.injEq] at this
      exact this.symm
    subst ha
    have z := st (lo + pre.length) fr h (by omega) (by omega) i
    rw [List.length_append, List.length_singleton, Int.natCast_add, ← Int.add_assoc]
    exact z
  · simpa using i
end
section
variable {vs : List Nat} {g : D → M Unit} {t : M Bool} {e : M D}
end
end Pk

/-! Wp3: plain data and its equality; membership; a law's outer loop. -/
namespace Pk
open PySem PySem.Spec L2
/-- how values of a Lean type stand as Python's plain data -/
structure Em (α : Type) [DecidableEq α] where
  f : α → PyData
  n : Nat
  ok : α → Prop
  lay : ∀ a, ok a → (f a).canLay0 = true
  dep : ∀ a, (f a).depth ≤ n
  eq : ∀ a b, PyData.eqv (f a) (f b) = decide (a = b)
theorem int_beq (a b : Int) : (a == b) = decide (a = b) := by
  by_cases e : a = b
  · subst e; simp
  · simp [e]
def Em.int : Em Int where
  f := .int
  n := 0
  ok := fun _ => True
  lay := fun _ _ => rfl
  dep := fun _ => Nat.le_refl 0
  eq := fun a b => by
    show (a == b) = _
    exact int_beq a b
def strG (s : Str) : Bool := (PyData.str s).canLay0
def Em.str : Em Str where
  f := .str
  n := 0
  ok := fun s => strG s = true
  lay := fun _ h => h
  dep := fun _ => Nat.le_refl 0
  eq := fun a b => by
    show (a == b) = _
    by_cases e : a = b
    · subst e; simp
    · simp [e]
section
variable {α β : Type} [DecidableEq α] [DecidableEq β]
theorem Em.all_lay (A : Em α) : ∀ {l : List α}, (∀ a ∈ l, A.ok a) → PyData.canLayAll0 (l.map A.f) = true
  | [], _ => rfl
  | a :: l, h => by
    rw [List.map_cons, PyData.canLayAll0, A.lay a (h a List.mem_cons_self), A.all_lay fun x hx => h x (List.mem_cons_of_mem _ hx)]
    rfl
theorem Em.all_dep (A : Em α) : ∀ l : List α, PyData.depthAll (l.map A.f) ≤ A.n
  | [] => Nat.zero_le _
  | a :: l => by
    rw [List.map_cons, PyData.depthAll]
    exact Nat.max_le.mpr ⟨A.dep a, A.all_dep l⟩
theorem Em.all_eq (A : Em α) : ∀ l m : List α, PyData.eqvAll (l.map A.f) (m.map A.f) = decide (l = m)
  | [], [] => rfl
  | [], b :: m => by simp [PyData.eqvAll]
  | a :: l, [] => by simp [PyData.eqvAll]
  | a :: l, b :: m => by
    rw [List.map_cons, List.map_cons, PyData.eqvAll, A.eq, A.all_eq l m]
    by_cases e : a = b <;> by_cases e2 : l = m <;> simp [e, e2]
def Em.list (A : Em α) : Em (List α) where
  f := fun l => .list (l.map A.f)
  n := A.n + 1
  ok := fun l => ∀ a ∈ l, A.ok a
  lay := fun l h => by rw [PyData.canLay0]; exact A.all_lay h
  dep := fun l => by rw [PyData.depth]; exact Nat.succ_le_succ (A.all_dep l)
  eq := fun l m => by rw [PyData.eqv]; exact A.all_eq l m
def Em.tup (A : Em α) : Em (List α) where
  f := fun l => .tuple (l.map A.f)
  n := A.n + 1
  ok := fun l => ∀ a ∈ l, A.ok a
  lay := fun l h => by rw [PyData.canLay0]; exact A.all_lay h
  dep := fun l => by rw [PyData.depth]; exact Nat.succ_le_succ (A.all_dep l)
  eq := fun l m => by rw [PyData.eqv]; exact A.all_eq l m
def Em.pair (A : Em α) (B : Em β) : Em (α × β) where
  f := fun p => .tuple [A.f p.1, B.f p.2]
  n := max A.n B.n + 1
  ok := fun p => A.ok p.1 ∧ B.ok p.2
  lay := fun p h => by
    rw [PyData.canLay0, PyData.canLayAll0, PyData.canLayAll0, PyData.canLayAll0, A.lay _ h.1, B.lay _ h.2]; rfl
  dep := fun p => by
    rw [PyData.depth, PyData.depthAll, PyData.depthAll, PyData.depthAll]
    have := A.dep p.1
    have := B.dep p.2
    omega
  eq := fun p q => by
    rw [PyData.eqv, PyData.eqvAll, PyData.eqvAll, PyData.eqvAll, A.eq, B.eq]
    obtain ⟨a, b⟩ := p
    obtain ⟨c, d⟩ := q
    by_cases e : a = c <;> by_cases e2 : b = d <;> simp [e, e2]
def Em.opt (A : Em α) (hn : ∀ a, PyData.eqv .none (A.f a) = false ∧ PyData.eqv (A.f a) .none = false) : Em (Option α) where
  f := fun o => match o with
    | some a => A.f a
    | none => .none
  n := A.n
  ok := fun o => ∀ a, o = some a → A.ok a
  lay := fun o h => by
    cases o with
    | none => rfl
    | some a => exact A.lay a (h a rfl)
  dep := fun o => by
    cases o with
    | none => exact Nat.zero_le _
    | some a => exact A.dep a
  eq := fun o p => by
    cases o with
    | none => cases p with
      | none => rfl
      | some b => simp only [(hn b).1]; simp
    | some a => cases p with
      | none => simp only [(hn a).2]; simp
      | some b => simp only [A.eq]; simp
theorem Em.shaped (A : Em α) {a : α} (h : A.ok a) (hn : A.n ≤ 64) : SeqAt.shaped (A.f a) = true := by
  unfold SeqAt.shaped
  rw [A.lay a h, decide_eq_true (Nat.le_trans (A.dep a) hn)]
  rfl
theorem cEq_em (A : Em α) {h : Hh} {d e : D} {a b : α} (hd : d.toP = some (A.f a)) (he : e.toP = some (A.f b)) (oa : A.ok a) (ob : A.ok b) (hn : A.n ≤ 64) : cEq h d e = some (decide (a = b)) := by
  unfold cEq
  rw [hd, he]
  dsimp only
  rw [A.shaped oa hn, A.shaped ob hn, ← A.eq]
  rfl
theorem toPs_em (A : Em α) {g : α → D} (hg : ∀ a, (g a).toP = some (A.f a)) : ∀ l : List α, D.toPs (l.map g) = some (l.map A.f)
  | [] => by rw [List.map_nil, D.toPs]; rfl
  | a :: l => by
    rw [List.map_cons, D.toPs, hg a, toPs_em A hg l]
    rfl
theorem toP_fl (A : Em α) {g : α → D} (hg : ∀ a, (g a).toP = some (A.f a)) (l : List α) : (D.fl (l.map g)).toP = some (A.list.f l) := by
  rw [D.toP, toPs_em A hg]; rfl
theorem toP_nl (A : Em α) {g : α → D} (hg : ∀ a, (g a).toP = some (A.f a)) (l : List α) : (D.nl (l.map g)).toP = some (A.list.f l) := by
  rw [D.toP, toPs_em A hg]; rfl
theorem toP_tup (A : Em α) {g : α → D} (hg : ∀ a, (g a).toP = some (A.f a)) (l : List α) : (D.tup (l.map g)).toP = some (A.tup.f l) := by
  rw [D.toP, toPs_em A hg]; rfl
theorem toP_int (i : Int) : (D.int i).toP = some (Em.int.f i) := by unfold D.toP; rfl
theorem toP_str (s : Str) : (D.str s).toP = some (Em.str.f s) := by unfold D.toP; rfl
end
section
variable {h : Hh} {l m : List Int} {v : Int}
theorem cEq_fnI : cEq h (.fl (l.map .int)) (.nl (m.map .int)) = some (decide (l = m)) := cEq_em Em.int.list (toP_fl Em.int toP_int l) (toP_nl Em.int toP_int m) (fun _ _ => trivial) (fun _ _ => trivial) (by decide)
end
def psI (d : D) : Option Int := match d with
  | .int i => some i
  | _ => none
theorem psI_int {i : Int} : psI (.int i) = some i := by unfold psI; rfl
theorem wp_Psi {m : M D} {I : Option Int → Fr → Hh → Prop} {E : Exn → Fr → Hh → Prop} {fr : Fr} {h : Hh} : Wp (mPs m fr h) I E = Wp (m fr h) (fun d fr h => Op (psI d) fun i => I (some i) fr h) E := by
  rw [wp_Ps]
  congr 1
theorem cut_lo {α : Type} {l : List α} {k : Int} (h0 : 0 ≤ k) : cutD l (some k) none = l.drop k.toNat := by
  unfold cutD HT.sIx
  dsimp only
  rw [if_neg (by omega)]
  by_cases hk : k.toNat ≤ l.length
  · rw [Nat.min_eq_left hk, List.take_of_length_le (by rw [List.length_drop]; omega)]
  · rw [Nat.min_eq_right (by omega), List.drop_of_length_le (Nat.le_refl _), List.drop_of_length_le (by omega), List.take_nil]
theorem bCut_tup {h : Hh} {l : List D} {p : Option Int × Option Int} : bCut h (.tup l) p = some (.tup (cutD l p.1 p.2)) := by unfold bCut; rfl
theorem cEq_ss {h : Hh} {a b : Str} (ha : strG a = true) (hb : strG b = true) : cEq h (.str a) (.str b) = some (decide (a = b)) := cEq_em Em.str (toP_str a) (toP_str b) ha hb (by decide)
theorem csm_of {i : Int} (h1 : -100000 ≤ i) (h2 : i ≤ 100000) : cSm i = true := by
  unfold cSm
  rw [decide_eq_true (show -(2 ^ 62) ≤ i by omega), decide_eq_true (show i < 2 ^ 62 by omega)]
  rfl
/-- a law's outer loop over its cells -/
theorem law_top {n : Nat} {N : Int} {b : M Fl} {ns : List Int} (hn : 2 ≤ n) (h1 : 1 ≤ N) (hN : N ≤ 63)
    (hb : ∀ (k : Nat) (xs : Fr) (h : Hh), (k : Int) < N → xs.length = n - 2 → Wp (b (some (.kl (ns.map .int)) :: some (.int k) :: xs) h) (fun f fr _ => (f = .nx ∨ f = .ct) ∧ ∃ x1 ys, fr = some (.kl (ns.map .int)) :: x1 :: ys ∧ ys.length = n - 2) NoE) :
    ∃ fr h, runF n (mSeq (mForI (mRng1 (mOp bMax2 (mC (.int 1)) (mOp bMin2 (mC (.int N)) (mUn bLen (mBor 0))))) (tgNm 1) b) (mRet (mC (.bl true)))) [.kl (ns.map .int)] [] = .ok (.bl true) fr h := by
  have w : Wp (runF n (mSeq (mForI (mRng1 (mOp bMax2 (mC (.int 1)) (mOp bMin2 (mC (.int N)) (mUn bLen (mBor 0))))) (tgNm 1) b) (mRet (mC (.bl true)))) [.kl (ns.map .int)] []) (fun d _ _ => d = .bl true) NoE := by
    have es : startF n [.kl (ns.map .int)] = some (.kl (ns.map .int)) :: none :: List.replicate (n - 2) none := by
      unfold startF
      obtain ⟨m, rfl⟩ : ∃ m, n = m + 2 := ⟨n - 2, by omega⟩
      simp [List.replicate_succ]
    simp only [wp_runF, es, bx_cons, ↓wp_Seq, ↓wp_ForI, ↓wp_Rng1, ↓wp_Op, ↓wp_C, ↓wp_Un, ↓wp_Bor, List.getElem?_cons_zero, sl_some, bLen_kl, op_some, op_int, c_yes, true_and, rgA, List.length_map]
    generalize hz : (if (if (ns.length : Int) < N then (ns.length : Int) else N) > 1 then (if (ns.length : Int) < N then (ns.length : Int) else N) else 1) = z
    have z1 : 1 ≤ z := by rw [← hz]; split <;> omega
    have z2 : z ≤ N := by rw [← hz]; split <;> split at * <;> omega
    rw [csm_of (by omega) (by omega)]
    simp only [↓reduceIte, op_some]
    refine wp_forR (fun _ fr _ => ∃ x1 ys, fr = some (.kl (ns.map .int)) :: x1 :: ys ∧ ys.length = n - 2) ⟨none, _, rfl, by simp⟩ ?_ ?_
    · rintro j fr h j0 j1 ⟨x1, ys, rfl, hy⟩
      simp only [↓wp_tgNm, List.set_cons_succ, List.set_cons_zero, bx_cons]
      have ej : ((j.toNat : Nat) : Int) = j := by omega
      have := hb j.toNat ys h (by omega) hy
      rw [ej] at this
      refine this.mono ?_
      rintro f fr h ⟨rfl | rfl, q⟩
      · rw [lpk_nx]; exact q
      · rw [lpk_ct]; exact q
    · rintro fr h ⟨x1, ys, rfl, hy⟩
      simp only [flk_nx, ↓wp_Ret, ↓wp_C, rtk_rt]
  obtain ⟨d, fr, h, e, rfl⟩ := w.ex
  exact ⟨fr, h, e⟩
end Pk

/-! Wp4: star calls, own operators, texts in lists, comprehensions that change the frame once. -/
namespace Pk
open PySem PySem.Spec L2
section
variable {Q : D → Fr → Hh → Prop} {E : Exn → Fr → Hh → Prop} {fr : Fr} {h : Hh} {ma mb : M D} {mk : M (List D)} {F : Fn} {m : Nat} {mt : Nat → Option Fn}
theorem qwp_Dun : Wq (mDun mt ma mb fr h) Q E = Wq (ma fr h) (fun x fr h => Wq (mb fr h) (fun y fr h => Oq (dunFn mt h x y) fun F => Wq (F [x, y] h) (fun d _ h => Q d fr h) (fun x _ h => E x fr h)) E) E := by
  unfold mDun
  rw [qwp_bind]
  congr 1
  funext x fr h
  rw [qwp_bind]
  congr 1
  funext y fr h
  cases dunFn mt h x y with
  | none => exact (qwp_err (Q := Q) (E := E)).trans (qop_none (α := Fn)).symm
  | some F => rw [qop_some]; exact qwp_lift
theorem wp_Dun : Wp (mDun mt ma mb fr h) Q E = Wp (ma fr h) (fun x fr h => Wp (mb fr h) (fun y fr h => Op (dunFn mt h x y) fun F => Wp (F [x, y] h) (fun d _ h => Q d fr h) (fun x _ h => E x fr h)) E) E := qwp_Dun
theorem dun_obj {c : Nat} {fs gs : List D} : dunFn mt h (.obj c fs) (.obj c gs) = mt c := by
  unfold dunFn sameC D.ins D.der
  dsimp only
  rw [if_pos rfl]
end
section
variable {h : Hh} {l m : List Str} {w : Str}
end
section
variable {vs : List Nat} {g : D → M Unit} {t : M Bool} {e : M D}
end
end Pk

/-! Wp5: raise, try, own products. -/
namespace Pk
open PySem PySem.Spec L2
/-- where a named handler ends -/
def endF (i : Nat) (f : Fl) (fr : Fr) : Fr := match f with
  | .rt _ => fr
  | _ => fr.set i none
section
variable {Q : Fl → Fr → Hh → Prop} {S : D → Fr → Hh → Prop} {E : Exn → Fr → Hh → Prop} {fr : Fr} {h : Hh} {i : Nat} {cond : Nat → Option Bool} {mb : M Fl} {ms : Exn → M Fl} {ma mc : M D} {mt : Nat → Option Fn}
theorem wp_MulL : Wp (mMulL mt ma mc fr h) S E = Wp (ma fr h) (fun x fr h => Wp (mc fr h) (fun y fr h => Op (fnOf mt h x) fun F => Op (y.bty h) fun _ => Wp (F [x, y] h) (fun d _ h => S d fr h) (fun x _ h => E x fr h)) E) E := by
  show Wq (mMulL mt ma mc fr h) S E = Wq (ma fr h) (fun x fr h => Wq (mc fr h) (fun y fr h => Oq (fnOf mt h x) fun F => Oq (y.bty h) fun _ => Wq (F [x, y] h) (fun d _ h => S d fr h) (fun x _ h => E x fr h)) E) E
  unfold mMulL
  simp only [qwp_bind]
  congr 1
  funext x fr h
  congr 1
  funext y fr h
  cases fnOf mt h x with
  | none => exact qwp_err.trans qop_none.symm
  | some F =>
    rw [qop_some]
    cases y.bty h with
    | none => exact qwp_err.trans qop_none.symm
    | some t => rw [qop_some]; exact qwp_lift
theorem wp_MulR : Wp (mMulR mt ma mc fr h) S E = Wp (ma fr h) (fun x fr h => Wp (mc fr h) (fun y fr h => Op (fnOf mt h y) fun F => x.smp = true ∧ Wp (F [y, x] h) (fun d _ h => S d fr h) (fun x _ h => E x fr h)) E) E := by
  show Wq (mMulR mt ma mc fr h) S E = Wq (ma fr h) (fun x fr h => Wq (mc fr h) (fun y fr h => Oq (fnOf mt h y) fun F => x.smp = true ∧ Wq (F [y, x] h) (fun d _ h => S d fr h) (fun x _ h => E x fr h)) E) E
  unfold mMulR
  simp only [qwp_bind]
  congr 1
  funext x fr h
  congr 1
  funext y fr h
  cases fnOf mt h y with
  | none => exact qwp_err.trans qop_none.symm
  | some F =>
    rw [qop_some]
    cases x.smp with
    | false =>
      refine qwp_err.trans ?_
      simp
    | true =>
      simp only [true_and]
      exact qwp_lift
end
section
variable {h : Hh} {i : Int} {b : Bool} {z : Str} {l : List D}
theorem smp_int : D.smp (.int i) = true := rfl
theorem bty_int : D.bty h (.int i) = some "int" := rfl
end
end Pk

/-! Wp6: len(o), o[i], x in o by own methods. -/
namespace Pk
open PySem PySem.Spec L2
def NatK (d : D) (K : Int → Prop) : Prop := match d with
  | .int i => 0 ≤ i ∧ i < 2 ^ 60 ∧ K i
  | _ => False
section
variable {Q : Bool → Fr → Hh → Prop} {S : D → Fr → Hh → Prop} {E : Exn → Fr → Hh → Prop} {fr : Fr} {h : Hh} {ma mb : M D} {mt : Nat → Option Fn}
theorem qwp_Own {o : D} {as : List D} : Wq (mOwn mt o as fr h) S E = Oq (fnOf mt h o) fun F => Wq (F (o :: as) h) (fun d _ h => S d fr h) NoE := by
  unfold mOwn
  cases fnOf mt h o with
  | none => exact qwp_err.trans qop_none.symm
  | some F =>
    rw [qop_some]
    dsimp only
    cases F (o :: as) h <;> (unfold Wq; rfl)
theorem qwp_OwnX {o : D} {as : List D} : Wq (mOwnX mt o as fr h) S E = Oq (fnOf mt h o) fun F => Wq (F (o :: as) h) (fun d _ h => S d fr h) (fun x _ h => E x fr h) := by
  unfold mOwnX
  cases fnOf mt h o with
  | none => exact qwp_err.trans qop_none.symm
  | some F =>
    rw [qop_some]
    dsimp only
    exact qwp_lift
theorem wp_OpM {α : Type} {P : α → Fr → Hh → Prop} {g : D → D → M α} : Wp (mOpM g ma mb fr h) P E = Wp (ma fr h) (fun x fr h => Wp (mb fr h) (fun y fr h => Wp (g x y fr h) P E) E) E := by
  show Wq (mOpM g ma mb fr h) P E = Wq (ma fr h) (fun x fr h => Wq (mb fr h) (fun y fr h => Wq (g x y fr h) P E) E) E
  unfold mOpM
  simp only [qwp_bind]
theorem qwp_tb {d : D} {c : Bool → Bool} : Wq (((tbM d).bind fun b => M.ret (c b)) fr h) Q E = Oq d.tb fun b => Q (c b) fr h := by
  unfold tbM
  rw [qwp_bind, qwp_opt]
  rfl
end
end Pk

/-! Wp7: == and != by an own __eq__. -/
namespace Pk
open PySem PySem.Spec L2
section
variable {Q : Bool → Fr → Hh → Prop} {E : Exn → Fr → Hh → Prop} {fr : Fr} {h : Hh} {mt : Nat → Option Fn} {n m : Nat} {fs gs : List D}
theorem wp_gEq {c : Bool → Bool} {x y : D} : Wp (gEq mt c x y fr h) Q E = (((y.bty h).isSome || (sameC h x y).isSome) = true ∧ Op (fnOf mt h x) fun F => Wp (F [x, y] h) (fun d _ h => Op d.tb fun b => Q (c b) fr h) NoE) := by
  show Wq (gEq mt c x y fr h) Q E = (((y.bty h).isSome || (sameC h x y).isSome) = true ∧ Oq (fnOf mt h x) fun F => Wq (F [x, y] h) (fun d _ h => Oq d.tb fun b => Q (c b) fr h) NoE)
  unfold gEq
  cases hc : ((y.bty h).isSome || (sameC h x y).isSome) with
  | false =>
    rw [if_neg (by simp), qwp_err]
    simp
  | true =>
    rw [if_pos rfl, qwp_bind, qwp_Own]
    simp only [true_and]
    congr 1
    funext F
    congr 1
    funext d fr1 h1
    exact qwp_tb
theorem same_obj : sameC h (.obj n fs) (.obj n gs) = some n := by
  unfold sameC D.ins D.der
  dsimp only
  rw [if_pos rfl]
theorem bty_obj : D.bty h (.obj n fs) = none := rfl
end
end Pk

/-! Wp8: bool(o), x.pop(i), classmethods. -/
namespace Pk
open PySem PySem.Spec L2
def popQ (l : List D) (d : D) : Option (D × List D) := match d with
  | .int j => if -(2 ^ 63) ≤ j ∧ j < 2 ^ 63 then (match seqIndex? j l.length with
    | some q => (match l[q]? with
      | some y => some (y, l.eraseIdx q)
      | none => none)
    | none => none) else none
  | _ => none
def PopK (x d : D) (K : D → List D → Prop) : Prop := match x with
  | .nl l => Oq (popQ l d) fun p => K p.1 p.2
  | _ => False
section
variable {S : D → Fr → Hh → Prop} {E : Exn → Fr → Hh → Prop} {fr : Fr} {h : Hh} {ma : M D} {mas : M (List D)} {mt : Nat → Option Fn} {i n c : Nat} {d : D} {l : List D}
end
end Pk

/-! Wp9: comparisons that read their left name late. -/
namespace Pk
open PySem PySem.Spec L2
section
variable {Q : Bool → Fr → Hh → Prop} {E : Exn → Fr → Hh → Prop} {fr : Fr} {h : Hh} {mb : M D} {i : Nat}
end
end Pk

/-! Wp10: == by an own __eq__ on either side, is True. -/
namespace Pk
open PySem PySem.Spec L2
def EqK {α : Type} (o : Option α) (A B : Prop) : Prop := match o with
  | some _ => A
  | none => B
section
variable {Q : Bool → Fr → Hh → Prop} {E : Exn → Fr → Hh → Prop} {fr : Fr} {h : Hh} {mt : Nat → Option Fn} {i : Int} {b c : Bool} {z : Str} {l : List D}
end
end Pk

/-! Wp11: == of tuples of own instances. -/
namespace Pk
open PySem PySem.Spec L2
section
variable {Q : Bool → Fr → Hh → Prop} {E : Exn → Fr → Hh → Prop} {fr : Fr} {h : Hh} {mt : Nat → Option Fn} {nf : Nat → Nat}
end
end Pk

/-! Wp12: several except clauses. -/
namespace Pk
open PySem PySem.Spec L2
section
variable {Q : Fl → Fr → Hh → Prop} {E : Exn → Fr → Hh → Prop} {fr : Fr} {h : Hh} {i : Nat} {cond : Nat → Option Bool} {mb : M Fl} {ms : Exn → M Fl} {x : Exn} {cs : List Hd}
end
end Pk

/-! Wp13: repr of a truth value, bool of a built-in value. -/
namespace Pk
open PySem PySem.Spec L2
end Pk

/-! Wp14: raise of an error without an __init__ of its own. -/
namespace Pk
open PySem PySem.Spec L2
section
variable {Q : Fl → Fr → Hh → Prop} {E : Exn → Fr → Hh → Prop} {fr : Fr} {h : Hh} {c : Nat} {ma : M D}
end
end Pk

/-! Wp15: zip. -/
namespace Pk
open PySem PySem.Spec L2
section
variable {G : List D → Fr → Hh → Prop} {E : Exn → Fr → Hh → Prop} {fr : Fr} {h : Hh} {ma mb : M D} {a b : D} {l m : List D}
end
end Pk

/-! Wp16: max of integers. -/
namespace Pk
open PySem PySem.Spec L2
def maxI : List Int → Int
  | a :: r => maxL a r
  | [] => 0
end Pk

/-! Wp17: loops over a cell, sorted. -/
namespace Pk
open PySem PySem.Spec L2
section
variable {L : Fl → Fr → Hh → Prop} {E : Exn → Fr → Hh → Prop} {g : D → M Unit} {b : M Fl} {n : Nat} {l : List D} {fr : Fr} {h : Hh} {G : Nat × List D × List D → Fr → Hh → Prop} {li : M (Nat × List D × List D)} {ma mb : M D}
end
end Pk

/-! Wp18: slices as values, list(range), x += e, f-strings, match. -/
namespace Pk
open PySem PySem.Spec L2
def JnK (d : D) (K : Str → Prop) : Prop := match d with
  | .str y => K y
  | _ => False
def AgK (d : D) (K : Int → Prop) : Prop := match d with
  | .int y => K y
  | _ => False
section
variable {α : Type} {Q : α → Fr → Hh → Prop} {S : D → Fr → Hh → Prop} {L : Fl → Fr → Hh → Prop} {G : Str → Fr → Hh → Prop} {E : Exn → Fr → Hh → Prop} {fr : Fr} {h : Hh} {m ma mb : M D} {ml mh : M (Option Int)} {mt : Nat → Option Fn} {i : Nat} {ms : List (M D)} {acc : Str}
theorem jnk_str {y : Str} {K : Str → Prop} : JnK (.str y) K = K y := by unfold JnK; rfl
theorem wp_GetSl : Wp (mGetSl mt ma ml mh fr h) S E = Wp (ma fr h) (fun o fr h => Wp (ml fr h) (fun l fr h => Wp (mh fr h) (fun u fr h => Op (fnOf mt h o) fun F => Wp (F [o, .sl l u] h) (fun d _ h => S d fr h) (fun x _ h => E x fr h)) E) E) E := by
  show Wq (mGetSl mt ma ml mh fr h) S E = Wq (ma fr h) (fun o fr h => Wq (ml fr h) (fun l fr h => Wq (mh fr h) (fun u fr h => Oq (fnOf mt h o) fun F => Wq (F [o, .sl l u] h) (fun d _ h => S d fr h) (fun x _ h => E x fr h)) E) E) E
  unfold mGetSl
  simp only [qwp_bind, qwp_OwnX]
theorem wp_LstR2 : Wp (mLstR2 ma mb fr h) S E = Wp (ma fr h) (fun d fr h => Wp (mb fr h) (fun e fr h => Op (bRg d e) fun z => S z fr h) E) E := by
  show Wq (mLstR2 ma mb fr h) S E = Wq (ma fr h) (fun d fr h => Wq (mb fr h) (fun e fr h => Oq (bRg d e) fun z => S z fr h) E) E
  unfold mLstR2
  simp only [qwp_bind, qwp_opt]
theorem bRg_ok {a b : Int} (h : rgOk a b = true) : bRg (.int a) (.int b) = some (.nl (rgD a b)) := by
  unfold bRg
  dsimp only
  rw [if_pos h]
theorem wp_Fmt : Wp (mFmt m fr h) S E = Wp (m fr h) (fun d fr h => Op (bFmt d) fun z => S z fr h) E := by
  show Wq (mFmt m fr h) S E = Wq (m fr h) (fun d fr h => Oq (bFmt d) fun z => S z fr h) E
  unfold mFmt
  simp only [qwp_bind, qwp_opt]
theorem bFmt_int {k : Int} (hk : k.natAbs.log2 < 1920) : bFmt (.int k) = some (.str (toString k)) := by
  unfold bFmt
  dsimp only
  rw [if_pos hk]
theorem bFmt_str {y : Str} (hk : y.length ≤ big) : bFmt (.str y) = some (.str y) := by
  unfold bFmt
  dsimp only
  rw [if_pos hk]
theorem wp_js0 : Wp (mJs [] acc fr h) G E = G acc fr h := wp_ret
theorem wp_js1 : Wp (mJs (m :: ms) acc fr h) G E = Wp (m fr h) (fun d fr h => JnK d fun y => (acc ++ y).length ≤ big ∧ Wp (mJs ms (acc ++ y) fr h) G E) E := by
  show Wq (mJs (m :: ms) acc fr h) G E = Wq (m fr h) (fun d fr h => JnK d fun y => (acc ++ y).length ≤ big ∧ Wq (mJs ms (acc ++ y) fr h) G E) E
  rw [mJs, qwp_bind]
  congr 1
  funext d fr h
  unfold JnK
  cases d with
  | str y =>
    dsimp only
    split
    · rename_i hl
      simp only [hl, true_and]
    · rename_i hl
      rw [qwp_opt, qop_none]
      simp only [hl, false_and]
  | _ => exact qwp_opt.trans qop_none
theorem wp_Join : Wp (mJoin ms fr h) S E = Wp (mJs ms Str.empty fr h) (fun z fr h => S (.str z) fr h) E := by
  show Wq (mJoin ms fr h) S E = Wq (mJs ms Str.empty fr h) (fun z fr h => S (.str z) fr h) E
  unfold mJoin
  simp only [qwp_bind, qwp_ret]
theorem wp_Match {f : Str → M Fl} : Wp (mMatch m f fr h) L E = Wp (m fr h) (fun d fr h => JnK d fun z => Wp (f z fr h) L E) E := by
  show Wq (mMatch m f fr h) L E = Wq (m fr h) (fun d fr h => JnK d fun z => Wq (f z fr h) L E) E
  unfold mMatch
  rw [qwp_bind]
  congr 1
  funext d fr h
  unfold JnK
  cases d <;> first | rfl | exact qwp_err
theorem wp_cases0 {z : Str} : Wp (mCases [] z fr h) L E = L .nx fr h := wp_ret
theorem wp_cases1 {z : Str} {ss : List Str} {b : M Fl} {r : List (List Str × M Fl)} : Wp (mCases ((ss, b) :: r) z fr h) L E = Cd (ss.contains z) (Wp (b fr h) L E) (Wp (mCases r z fr h) L E) := by
  show Wq ((if ss.contains z then b else mCases r z) fr h) L E = Cdq (ss.contains z) (Wq (b fr h) L E) (Wq (mCases r z fr h) L E)
  exact qwp_iteM
theorem bIdxS_sl {l : List D} {lo hi : Option Int} : bIdxS h (.nl l) (.sl lo hi) = some (.nl (cutD l lo hi)) := by
  unfold bIdxS
  rfl
theorem isiS_sl {tab : Tg → Tg → Option Bool} {lo hi : Option Int} : bIsiS tab h (.sl lo hi) (.ty "int") = some (.bl false) := by
  unfold bIsiS
  dsimp only
  rw [if_pos (by decide)]
theorem Wp.eqx {r : R α} {x : Exn} {fr : Fr} {h : Hh} (w : Wp r (fun _ _ _ => False) (fun y fr1 h1 => y = x ∧ fr1 = fr ∧ h1 = h)) : r = .exc x fr h := by
  cases r with
  | ok a fr h => exact (show False from w).elim
  | exc y fr1 h1 =>
    obtain ⟨e1, e2, e3⟩ := (show y = x ∧ fr1 = fr ∧ h1 = h from w)
    rw [e1, e2, e3]
  | err => exact (show False from w).elim
theorem own_sl {lo hi : Option Int} : (D.sl lo hi).own = false := rfl
theorem fz_sl {lo hi : Option Int} : (D.sl lo hi).fz = .sl lo hi := rfl
end
end Pk

/-! Wp19: str(..). -/
namespace Pk
open PySem PySem.Spec L2
theorem bStr1_int {h : Hh} {k : Int} (hk : k.natAbs.log2 < 1920) : bStr1 h (.int k) = some (.str (toString k)) := by
  unfold bStr1
  dsimp only
  rw [if_pos hk]
end Pk

/-! rules for Pk44, Pk45 -/
namespace Pk
open PySem PySem.Spec L2
section
variable {h : Hh}
theorem Wp.out {α : Type} {r : R α} {Q : α → Fr → Hh → Prop} (w : Wp r Q NoE) : ∃ a fr h, r = .ok a fr h ∧ Q a fr h := by
  cases r with
  | ok a fr h => exact ⟨a, fr, h, rfl, w⟩
  | exc y fr1 h1 => exact (show False from w).elim
  | err => exact (show False from w).elim
end
end Pk

/-! rules for Pk46 -/
namespace Pk
open PySem PySem.Spec L2
section
variable {S : D → Fr → Hh → Prop} {E : Exn → Fr → Hh → Prop} {fr : Fr} {h : Hh} {ma : M D} {mt : Nat → Option Fn}
theorem wp_One : Wp (mOne mt ma fr h) S E = Wp (ma fr h) (fun o fr h => Op (fnOf mt h o) fun F => Wp (F [o] h) (fun d _ h => S d fr h) NoE) E := by
  show Wq (mOne mt ma fr h) S E = Wq (ma fr h) (fun o fr h => Oq (fnOf mt h o) fun F => Wq (F [o] h) (fun d _ h => S d fr h) NoE) E
  unfold mOne
  rw [qwp_bind]
  congr 1
  funext o fr h
  rw [qwp_Own]
end
end Pk

namespace L
open PySem PySem.Spec L2 Pk
/-! ### the classes -/
def cn : Nat → Str
  | 0 => "Term"
  | 1 => "Series"
  | 2 => "Totals"
  | 3 => "BadTerm"
  | _ => "?"
def fld : Nat → List Str
  | 0 => ["readings", "node"]
  | 1 => ["readings", "filling", "start", "stop"]
  | 2 => ["readings", "filling", "start", "stop"]
  | 3 => []
  | _ => []
abbrev T (K : PySem.W.Frag) : Tb := Tbo cn fld K
def chk_BadTerm : List D → Bool := fun _ => true
def ix_readings : Nat → Option Nat := fun c => List.lookup c [(0, 0), (1, 0), (2, 0)]
def ix_node : Nat → Option Nat := fun c => List.lookup c [(0, 1)]
def ix_filling : Nat → Option Nat := fun c => List.lookup c [(1, 1), (2, 1)]
def ix_start : Nat → Option Nat := fun c => List.lookup c [(1, 2), (2, 2)]
def ix_stop : Nat → Option Nat := fun c => List.lookup c [(1, 3), (2, 3)]
def isiTab : Tg → Tg → Option Bool := isiT [((.b "NoneType", .o 0), false), ((.b "bool", .o 0), false), ((.b "int", .o 0), false), ((.b "str", .o 0), false), ((.b "tuple", .o 0), false), ((.b "list", .o 0), false), ((.o 0, .b "bool"), false), ((.o 0, .b "int"), false), ((.o 0, .b "str"), false), ((.o 0, .b "tuple"), false), ((.o 0, .b "list"), false), ((.o 0, .o 0), true), ((.o 1, .b "bool"), false), ((.o 1, .b "int"), false), ((.o 1, .b "str"), false), ((.o 1, .b "tuple"), false), ((.o 1, .b "list"), false), ((.o 1, .o 0), false), ((.o 2, .b "bool"), false), ((.o 2, .b "int"), false), ((.o 2, .b "str"), false), ((.o 2, .b "tuple"), false), ((.o 2, .b "list"), false), ((.o 2, .o 0), false)]
def errTab : Tg → Tg → Option Bool := errT []
def kon_FILLINGS : List D := [.str "raw", .str "zero", .str "held"]
/-! ### what the defs do -/
def m__law_source_k1 : M Fl :=
    (mSeq (mPut 3 (mIf (mOp cGe (mUn bAbs (mVar 2)) (mOp bPow (mC (.int 10)) (mC (.int 18)))) (mUn bAbs (mVar 2)) (mC (.int 0))))
    (mRet (mLst [(mVar 3), (mFz (mOp bAdd (mFz (mOp bAdd (mOp bMod (mUn bInt1 (mVar 2)) (mC (.int 2147483629))) (mOp bMul (mC (.int 15485863)) (mVar 1)))) (mC (.int 7919)))), (mC (.int 0))])))
def m__law_source : M Fl :=
    (mSeq (mPut 2 (mIf (mOp cLt (mVar 1) (mUn bLen (mBor 0))) (mLate 0 (mVar 1) bIdx) (mC (.int 0))))
    m__law_source_k1)
def f__law_source : Fn := runF 4 m__law_source
def m__law_draw_k3 : M Fl :=
    (mSeq (mPut 3 (mOp bMod (mUn bInt1 (mOp bPow (mFz (mOp bAdd (mVar 3) (mOp bMul (mC (.int 49979687)) (mLate 0 (mC (.int 2)) bIdx)))) (mC (.int 2)))) (mC (.int 2305843009213693951))))
    (mRet (mOp bMod (mUn bInt1 (mOp bDiv (mVar 3) (mC (.int 4096)))) (mVar 1))))
def m__law_draw_k2 : M Fl :=
    (mSeq (mPut 3 (mOp bMod (mUn bInt1 (mOp bPow (mFz (mOp bAdd (mLate 0 (mC (.int 1)) bIdx) (mOp bMul (mC (.int 32452843)) (mLate 0 (mC (.int 2)) bIdx)))) (mC (.int 3)))) (mC (.int 2305843009213693921))))
    m__law_draw_k3)
def m__law_draw_k1 : M Fl :=
    (mSeq (mSetS 0 (mFz (mOp bAdd (mLate 0 (mC (.int 2)) bIdx) (mC (.int 1)))) (mC (.int 2)))
    m__law_draw_k2)
def m__law_draw : M Fl :=
    (mSeq (mIfS (mOp cGt (mLate 0 (mC (.int 0)) bIdx) (mC (.int 0)))
    (mSeq (mPut 2 (mOp bMod (mUn bInt1 (mLate 0 (mC (.int 0)) bIdx)) (mVar 1)))
    (mSeq (mSetS 0 (mOp bDiv (mLate 0 (mC (.int 0)) bIdx) (mVar 1)) (mC (.int 0)))
    (mRet (mMove 2))))
    (M.ret .nx))
    m__law_draw_k1)
def f__law_draw : Fn := runF 4 m__law_draw
def m__law_of : M Fl :=
    (mRet (mLate 1 (mFz (mCall 2 0 f__law_draw (gPos []) (mArgs [(mVar 0), (mUn bLen (mBor 1))]) (mArgs []))) bIdx))
def f__law_of : Fn := runF 2 m__law_of
def m__law_leaf_k5 : M Fl :=
    (mSeq (mPut 5 (mCall 2 0 f__law_of (gPos []) (mArgs [(mVar 0), (mFz (mLst [(mC (.str "rises")), (mC (.str "rises")), (mC (.str "told")), (mC (.str "first")), (mC (.str "last")), (mC (.str "top")), (mC (.str "low")), (mC (.str "change"))]))]) (mArgs [])))
    (mRet (mTup [(mC (.str "each")), (mVar 5), (mFz (mIf (mOp cEq (mVar 5) (mC (.str "told"))) (mC (.str "raw")) (mCall 2 0 f__law_of (gPos []) (mArgs [(mVar 0), (mFz (mLst [(mC (.str "raw")), (mC (.str "zero")), (mC (.str "held"))]))]) (mArgs [])))), (mVar 2), (mVar 3)])))
def m__law_leaf_k4 : M Fl :=
    (mSeq (mIfS (mOp cLt (mVar 4) (mC (.int 4)))
    (mSeq (mPut 5 (mCall 2 0 f__law_of (gPos []) (mArgs [(mVar 0), (mFz (mLst [(mC (.str "rises")), (mC (.str "rises")), (mC (.str "first")), (mC (.str "last")), (mC (.str "change"))]))]) (mArgs [])))
    (mRet (mTup [(mC (.str "all")), (mVar 5), (mFz (mCall 2 0 f__law_of (gPos []) (mArgs [(mVar 0), (mFz (mLst [(mC (.str "zero")), (mC (.str "held"))]))]) (mArgs []))), (mVar 2), (mVar 3)])))
    (M.ret .nx))
    m__law_leaf_k5)
def m__law_leaf_k3 : M Fl :=
    (mSeq (mIfS (mOp cEq (mVar 4) (mC (.int 0)))
    (mRet (mTup [(mC (.str "true")), (mVar 2), (mVar 3)]))
    (M.ret .nx))
    m__law_leaf_k4)
def m__law_leaf_k2 : M Fl :=
    (mSeq (mPut 4 (mCall 2 0 f__law_draw (gPos []) (mArgs [(mVar 0), (mC (.int 8))]) (mArgs [])))
    m__law_leaf_k3)
def m__law_leaf_k1 : M Fl :=
    (mSeq (mPut 3 (mIf (mOp cEq (mFz (mCall 2 0 f__law_draw (gPos []) (mArgs [(mVar 0), (mC (.int 2))]) (mArgs []))) (mC (.int 1))) (mOp bAdd (mFz (mOp bAdd (mVar 2) (mC (.int 1)))) (mFz (mCall 2 0 f__law_draw (gPos []) (mArgs [(mVar 0), (mOp bSub (mVar 1) (mVar 2))]) (mArgs [])))) (mVar 1)))
    m__law_leaf_k2)
def m__law_leaf : M Fl :=
    (mSeq (mPut 2 (mIf (mOp cEq (mFz (mCall 2 0 f__law_draw (gPos []) (mArgs [(mVar 0), (mC (.int 2))]) (mArgs []))) (mC (.int 1))) (mCall 2 0 f__law_draw (gPos []) (mArgs [(mVar 0), (mVar 1)]) (mArgs [])) (mC (.int 0))))
    m__law_leaf_k1)
def f__law_leaf : Fn := runF 6 m__law_leaf
def m__law_tree_k4 (R : Fn) : M Fl :=
    (mSeq (mPut 4 (mCall 3 0 R (gPos []) (mArgs [(mVar 0), (mVar 1), (mOp bSub (mVar 2) (mC (.int 1)))]) (mArgs [])))
    (mRet (mTup [(mOp bIdx (mFz (mLst [(mC (.str "+")), (mC (.str "-")), (mC (.str "max")), (mC (.str "min"))])) (mOp bSub (mVar 3) (mC (.int 5)))), (mVar 4), (mFz (mCall 3 0 R (gPos []) (mArgs [(mVar 0), (mVar 1), (mOp bSub (mVar 2) (mC (.int 1)))]) (mArgs [])))])))
def m__law_tree_k3 (R : Fn) : M Fl :=
    (mSeq (mIfS (mOp cEq (mVar 3) (mC (.int 4)))
    (mRet (mTup [(mC (.str "abs")), (mFz (mCall 3 0 R (gPos []) (mArgs [(mVar 0), (mVar 1), (mOp bSub (mVar 2) (mC (.int 1)))]) (mArgs [])))]))
    (M.ret .nx))
    (m__law_tree_k4 R))
def m__law_tree_k2 (R : Fn) : M Fl :=
    (mSeq (mIfS (mOp cEq (mVar 3) (mC (.int 3)))
    (mRet (mTup [(mC (.str "*")), (mFz (mCall 2 0 f__law_of (gPos []) (mArgs [(mVar 0), (mFz (mLst [(mUn (fun _ => bNeg) (mC (.int 1))), (mUn (fun _ => bNeg) (mC (.int 1))), (mC (.int 2)), (mC (.int 3)), (mUn (fun _ => bNeg) (mC (.int 3))), (mC (.int 0)), (mC (.int 1)), (mUn (fun _ => bNeg) (mC (.int 7))), (mC (.int 10))]))]) (mArgs []))), (mFz (mCall 3 0 R (gPos []) (mArgs [(mVar 0), (mVar 1), (mOp bSub (mVar 2) (mC (.int 1)))]) (mArgs [])))]))
    (M.ret .nx))
    (m__law_tree_k3 R))
def m__law_tree_k1 (R : Fn) : M Fl :=
    (mSeq (mIfS (mOp cLt (mVar 3) (mC (.int 3)))
    (mRet (mCall 2 0 f__law_leaf (gPos []) (mArgs [(mVar 0), (mVar 1)]) (mArgs [])))
    (M.ret .nx))
    (m__law_tree_k2 R))
def m__law_tree (R : Fn) : M Fl :=
    (mSeq (mPut 3 (mIf (mOp cGt (mVar 2) (mC (.int 0))) (mCall 2 0 f__law_draw (gPos []) (mArgs [(mVar 0), (mC (.int 9))]) (mArgs [])) (mC (.int 0))))
    (m__law_tree_k1 R))
def fr__law_tree : Nat → Fn
  | 0 => runF 5 (fun _ _ => .err)
  | j + 1 => runF 5 (m__law_tree (fr__law_tree j))
def f__law_tree : Fn := fr__law_tree 5
def m_Term____init__ : M Fl :=
    (mSeq (mPutFld 0 ix_readings (mVar 1))
    (mPutFld 0 ix_node (mVar 2)))
def f_Term____init__ : Fn := runI 0 3 m_Term____init__
def m_Term____abs__ : M Fl :=
    (mRet (mCall 2 0 f_Term____init__ (gPos []) (mArgs [(mUn (bFld ix_readings) (mBor 0)), (mTup [(mC (.str "abs")), (mUn (bFld ix_node) (mBor 0))])]) (mArgs [])))
def f_Term____abs__ : Fn := runF 1 m_Term____abs__
def m_picked_k3 : M Fl :=
    (mSeq (mIfS (mOp cEq (mVar 4) (mLst []))
    (fun fr h => .exc ⟨3, []⟩ fr h)
    (M.ret .nx))
    (mRet (mTup [(mLate 4 (mC (.int 0)) bIdx), (mFz (mOp bAdd (mLate 4 (mUn (fun _ => bNeg) (mC (.int 1))) bIdx) (mC (.int 1))))])))
def m_picked_k2 : M Fl :=
    (mSeq (mPut 4 (mLate 3 (mVar 2) bIdxS))
    m_picked_k3)
def m_picked_k1 : M Fl :=
    (mSeq (mIfS (mUn D.tru (mOp (bIsiS isiTab) (mVar 2) (mC (.ty "int"))))
    (mSeq (mIfS (mNot (mChain cLe cLt (mUn (fun _ => bNeg) (mUn bLen (mBor 3))) (mVar 2) (mUn bLen (mBor 3))))
    (fun fr h => .exc ⟨3, []⟩ fr h)
    (M.ret .nx))
    (mRet (mTup [(mFz (mLate 3 (mVar 2) bIdxS)), (mFz (mOp bAdd (mFz (mLate 3 (mVar 2) bIdxS)) (mC (.int 1))))])))
    (M.ret .nx))
    m_picked_k2)
def m_picked : M Fl :=
    (mSeq (mPut 3 (mLstR2 (mVar 0) (mVar 1)))
    m_picked_k1)
def f_picked : Fn := runF 5 m_picked
def m_Series____init___k3 : M Fl :=
    (mSeq (mPutFld 0 ix_start (mVar 3))
    (mPutFld 0 ix_stop (mIf (mOp cIs (mVar 4) (mC .non)) (mVar 1) (mVar 4))))
def m_Series____init___k2 : M Fl :=
    (mSeq (mPutFld 0 ix_filling (mVar 2))
    m_Series____init___k3)
def m_Series____init___k1 : M Fl :=
    (mSeq (mPutFld 0 ix_readings (mVar 1))
    m_Series____init___k2)
def m_Series____init__ : M Fl :=
    (mSeq (mIfS (mOr (mNot (mUn D.tru (mOp (bIsi isiTab) (mVar 2) (mC (.ty "str"))))) (mOp cNin (mVar 2) (mC (.tup kon_FILLINGS))))
    (fun fr h => .exc ⟨3, []⟩ fr h)
    (M.ret .nx))
    m_Series____init___k1)
def f_Series____init__ : Fn := runI 1 5 m_Series____init__
def m_Series____getitem__ : M Fl :=
    (mSeq (mAsg (mFz (mCall 3 0 f_picked (gPos []) (mArgs [(mUn (bFld ix_start) (mBor 0)), (mUn (bFld ix_stop) (mBor 0)), (mVar 1)]) (mArgs []))) (tgTup 2 (tgCons (tgNm 2) (tgCons (tgNm 3) tgNil))))
    (mRet (mCall 1 3 f_Series____init__ (gKwD [0, 1, 2] []) (mArgs [(mUn (bFld ix_readings) (mBor 0))]) (mArgs [(mUn (bFld ix_filling) (mBor 0)), (mVar 2), (mVar 3)]))))
def f_Series____getitem__ : Fn := runF 4 m_Series____getitem__
def m_Totals____init___k3 : M Fl :=
    (mSeq (mPutFld 0 ix_start (mVar 3))
    (mPutFld 0 ix_stop (mIf (mOp cIs (mVar 4) (mC .non)) (mVar 1) (mVar 4))))
def m_Totals____init___k2 : M Fl :=
    (mSeq (mPutFld 0 ix_filling (mVar 2))
    m_Totals____init___k3)
def m_Totals____init___k1 : M Fl :=
    (mSeq (mPutFld 0 ix_readings (mVar 1))
    m_Totals____init___k2)
def m_Totals____init__ : M Fl :=
    (mSeq (mIfS (mOr (mNot (mUn D.tru (mOp (bIsi isiTab) (mVar 2) (mC (.ty "str"))))) (mOp cNin (mVar 2) (mCut (mC (.tup kon_FILLINGS)) (mPs (mC (.int 1))) mPn)))
    (fun fr h => .exc ⟨3, []⟩ fr h)
    (M.ret .nx))
    m_Totals____init___k1)
def f_Totals____init__ : Fn := runI 2 5 m_Totals____init__
def m_Series__total : M Fl :=
    (mSeq (mPut 1 (mIf (mOp cEq (mUn (bFld ix_filling) (mBor 0)) (mC (.str "held"))) (mC (.str "held")) (mC (.str "zero"))))
    (mRet (mCall 1 3 f_Totals____init__ (gKwD [0, 1, 2] []) (mArgs [(mUn (bFld ix_readings) (mBor 0))]) (mArgs [(mVar 1), (mUn (bFld ix_start) (mBor 0)), (mUn (bFld ix_stop) (mBor 0))]))))
def f_Series__total : Fn := runF 2 m_Series__total
def m_Series__true_events : M Fl :=
    (mRet (mCall 2 0 f_Term____init__ (gPos []) (mArgs [(mUn (bFld ix_readings) (mBor 0)), (mTup [(mC (.str "events")), (mUn (bFld ix_start) (mBor 0)), (mUn (bFld ix_stop) (mBor 0))])]) (mArgs [])))
def f_Series__true_events : Fn := runF 1 m_Series__true_events
def m_Series__leaf : M Fl :=
    (mRet (mCall 2 0 f_Term____init__ (gPos []) (mArgs [(mUn (bFld ix_readings) (mBor 0)), (mTup [(mC (.str "leaf")), (mC (.str "each")), (mVar 1), (mUn (bFld ix_filling) (mBor 0)), (mUn (bFld ix_start) (mBor 0)), (mUn (bFld ix_stop) (mBor 0))])]) (mArgs [])))
def f_Series__leaf : Fn := runF 2 m_Series__leaf
def m_Totals__leaf : M Fl :=
    (mRet (mCall 2 0 f_Term____init__ (gPos []) (mArgs [(mUn (bFld ix_readings) (mBor 0)), (mTup [(mC (.str "leaf")), (mC (.str "all")), (mVar 1), (mUn (bFld ix_filling) (mBor 0)), (mUn (bFld ix_start) (mBor 0)), (mUn (bFld ix_stop) (mBor 0))])]) (mArgs [])))
def f_Totals__leaf : Fn := runF 2 m_Totals__leaf
def mt_leaf : Nat → Option Fn := fun c => List.lookup c [(1, f_Series__leaf), (2, f_Totals__leaf)]
def m_Series__first : M Fl :=
    (mRet (mMeth 1 0 mt_leaf (gPos []) (mVar 0) (mArgs [(mC (.str "first"))]) (mArgs [])))
def f_Series__first : Fn := runF 1 m_Series__first
def m_Totals__first : M Fl :=
    (mRet (mMeth 1 0 mt_leaf (gPos []) (mVar 0) (mArgs [(mC (.str "first"))]) (mArgs [])))
def f_Totals__first : Fn := runF 1 m_Totals__first
def m_Series__last : M Fl :=
    (mRet (mMeth 1 0 mt_leaf (gPos []) (mVar 0) (mArgs [(mC (.str "last"))]) (mArgs [])))
def f_Series__last : Fn := runF 1 m_Series__last
def m_Totals__last : M Fl :=
    (mRet (mMeth 1 0 mt_leaf (gPos []) (mVar 0) (mArgs [(mC (.str "last"))]) (mArgs [])))
def f_Totals__last : Fn := runF 1 m_Totals__last
def m_Series__change : M Fl :=
    (mRet (mMeth 1 0 mt_leaf (gPos []) (mVar 0) (mArgs [(mC (.str "change"))]) (mArgs [])))
def f_Series__change : Fn := runF 1 m_Series__change
def m_Totals__change : M Fl :=
    (mRet (mMeth 1 0 mt_leaf (gPos []) (mVar 0) (mArgs [(mC (.str "change"))]) (mArgs [])))
def f_Totals__change : Fn := runF 1 m_Totals__change
def m_Series__rises : M Fl :=
    (mRet (mMeth 1 0 mt_leaf (gPos []) (mVar 0) (mArgs [(mC (.str "rises"))]) (mArgs [])))
def f_Series__rises : Fn := runF 1 m_Series__rises
def m_Totals__rises : M Fl :=
    (mRet (mMeth 1 0 mt_leaf (gPos []) (mVar 0) (mArgs [(mC (.str "rises"))]) (mArgs [])))
def f_Totals__rises : Fn := runF 1 m_Totals__rises
def m_Series__told : M Fl :=
    (mSeq (mIfS (mOp cNe (mUn (bFld ix_filling) (mBor 0)) (mC (.str "raw")))
    (fun fr h => .exc ⟨3, []⟩ fr h)
    (M.ret .nx))
    (mRet (mMeth 1 0 mt_leaf (gPos []) (mVar 0) (mArgs [(mC (.str "told"))]) (mArgs []))))
def f_Series__told : Fn := runF 1 m_Series__told
def m_Series__top : M Fl :=
    (mRet (mMeth 1 0 mt_leaf (gPos []) (mVar 0) (mArgs [(mC (.str "top"))]) (mArgs [])))
def f_Series__top : Fn := runF 1 m_Series__top
def m_Series__low : M Fl :=
    (mRet (mMeth 1 0 mt_leaf (gPos []) (mVar 0) (mArgs [(mC (.str "low"))]) (mArgs [])))
def f_Series__low : Fn := runF 1 m_Series__low
def pt_total : Nat → Option Fn := fun c => List.lookup c [(1, f_Series__total)]
def mt_true_events : Nat → Option Fn := fun c => List.lookup c [(1, f_Series__true_events)]
def mt___getitem____Series : Nat → Option Fn := fun c => List.lookup c [(1, f_Series____getitem__)]
def mt_first : Nat → Option Fn := fun c => List.lookup c [(1, f_Series__first), (2, f_Totals__first)]
def mt_last : Nat → Option Fn := fun c => List.lookup c [(1, f_Series__last), (2, f_Totals__last)]
def mt_change : Nat → Option Fn := fun c => List.lookup c [(1, f_Series__change), (2, f_Totals__change)]
def mt_rises : Nat → Option Fn := fun c => List.lookup c [(1, f_Series__rises), (2, f_Totals__rises)]
def mt_told : Nat → Option Fn := fun c => List.lookup c [(1, f_Series__told)]
def mt_top : Nat → Option Fn := fun c => List.lookup c [(1, f_Series__top)]
def mt_low : Nat → Option Fn := fun c => List.lookup c [(1, f_Series__low)]
def m__law_leaf_term_k8 : M Fl :=
    (mSeq (mIfS (mOp cEq (mVar 3) (mC (.str "told")))
    (mRet (mMeth 0 0 mt_told (gPos []) (mVar 2) (mArgs []) (mArgs [])))
    (M.ret .nx))
    (mRet (mIf (mOp cEq (mVar 3) (mC (.str "top"))) (mMeth 0 0 mt_top (gPos []) (mVar 2) (mArgs []) (mArgs [])) (mMeth 0 0 mt_low (gPos []) (mVar 2) (mArgs []) (mArgs [])))))
def m__law_leaf_term_k7 : M Fl :=
    (mSeq (mIfS (mOp cEq (mVar 3) (mC (.str "rises")))
    (mRet (mMeth 0 0 mt_rises (gPos []) (mVar 2) (mArgs []) (mArgs [])))
    (M.ret .nx))
    m__law_leaf_term_k8)
def m__law_leaf_term_k6 : M Fl :=
    (mSeq (mIfS (mOp cEq (mVar 3) (mC (.str "change")))
    (mRet (mMeth 0 0 mt_change (gPos []) (mVar 2) (mArgs []) (mArgs [])))
    (M.ret .nx))
    m__law_leaf_term_k7)
def m__law_leaf_term_k5 : M Fl :=
    (mSeq (mIfS (mOp cEq (mVar 3) (mC (.str "last")))
    (mRet (mMeth 0 0 mt_last (gPos []) (mVar 2) (mArgs []) (mArgs [])))
    (M.ret .nx))
    m__law_leaf_term_k6)
def m__law_leaf_term_k4 : M Fl :=
    (mSeq (mIfS (mOp cEq (mVar 3) (mC (.str "first")))
    (mRet (mMeth 0 0 mt_first (gPos []) (mVar 2) (mArgs []) (mArgs [])))
    (M.ret .nx))
    m__law_leaf_term_k5)
def m__law_leaf_term_k3 : M Fl :=
    (mSeq (mPut 3 (mLate 0 (mC (.int 1)) bIdx))
    m__law_leaf_term_k4)
def m__law_leaf_term_k2 : M Fl :=
    (mSeq (mIfS (mOp cEq (mLate 0 (mC (.int 0)) bIdx) (mC (.str "all")))
    (mPut 2 (mProp pt_total (mVar 2)))
    (M.ret .nx))
    m__law_leaf_term_k3)
def m__law_leaf_term_k1 : M Fl :=
    (mSeq (mPut 2 (mGetSl mt___getitem____Series (mFz (mCall 1 1 f_Series____init__ (gKwD [0, 1, 2] [.int 0, .non]) (mArgs [(mVar 1)]) (mArgs [(mLate 0 (mC (.int 2)) bIdx)]))) (mPs (mLate 0 (mC (.int 3)) bIdx)) (mPs (mLate 0 (mC (.int 4)) bIdx))))
    m__law_leaf_term_k2)
def m__law_leaf_term : M Fl :=
    (mSeq (mIfS (mOp cEq (mLate 0 (mC (.int 0)) bIdx) (mC (.str "true")))
    (mRet (mMeth 0 0 mt_true_events (gPos []) (mFz (mGetSl mt___getitem____Series (mFz (mCall 1 0 f_Series____init__ (gKwD [0, 1, 2] [.str "raw", .int 0, .non]) (mArgs [(mVar 1)]) (mArgs []))) (mPs (mLate 0 (mC (.int 1)) bIdx)) (mPs (mLate 0 (mC (.int 2)) bIdx)))) (mArgs []) (mArgs [])))
    (M.ret .nx))
    m__law_leaf_term_k1)
def f__law_leaf_term : Fn := runF 4 m__law_leaf_term
def m_Term__with_other_k1 : M Fl :=
    (mSeq (mIfS (mOp cNe (mUn (bFld ix_readings) (mBor 0)) (mUn (bFld ix_readings) (mBor 2)))
    (fun _ _ => .err)
    (M.ret .nx))
    (mRet (mCall 2 0 f_Term____init__ (gPos []) (mArgs [(mUn (bFld ix_readings) (mBor 0)), (mTup [(mVar 1), (mUn (bFld ix_node) (mBor 0)), (mUn (bFld ix_node) (mBor 2))])]) (mArgs []))))
def m_Term__with_other : M Fl :=
    (mSeq (mIfS (mNot (mUn D.tru (mOp (bIsi isiTab) (mVar 2) (mC (.cls 0)))))
    (fun fr h => .exc ⟨3, []⟩ fr h)
    (M.ret .nx))
    m_Term__with_other_k1)
def f_Term__with_other : Fn := runF 3 m_Term__with_other
def mt_with_other : Nat → Option Fn := fun c => List.lookup c [(0, f_Term__with_other)]
def m_Term____add__ : M Fl :=
    (mRet (mMeth 2 0 mt_with_other (gPos []) (mVar 0) (mArgs [(mC (.str "plus")), (mVar 1)]) (mArgs [])))
def f_Term____add__ : Fn := runF 2 m_Term____add__
def m_Term____sub__ : M Fl :=
    (mRet (mMeth 2 0 mt_with_other (gPos []) (mVar 0) (mArgs [(mC (.str "minus")), (mVar 1)]) (mArgs [])))
def f_Term____sub__ : Fn := runF 2 m_Term____sub__
def m_Term____or__ : M Fl :=
    (mRet (mMeth 2 0 mt_with_other (gPos []) (mVar 0) (mArgs [(mC (.str "max")), (mVar 1)]) (mArgs [])))
def f_Term____or__ : Fn := runF 2 m_Term____or__
def m_Term____and__ : M Fl :=
    (mRet (mMeth 2 0 mt_with_other (gPos []) (mVar 0) (mArgs [(mC (.str "min")), (mVar 1)]) (mArgs [])))
def f_Term____and__ : Fn := runF 2 m_Term____and__
def m_Term____neg__ : M Fl :=
    (mRet (mCall 2 0 f_Term____init__ (gPos []) (mArgs [(mUn (bFld ix_readings) (mBor 0)), (mTup [(mC (.str "times")), (mUn (fun _ => bNeg) (mC (.int 1))), (mUn (bFld ix_node) (mBor 0))])]) (mArgs [])))
def f_Term____neg__ : Fn := runF 1 m_Term____neg__
def m_is_integer : M Fl :=
    (mRet (mAndV (mOp (bIsi isiTab) (mVar 0) (mC (.ty "int"))) (mNotV (mOp (bIsi isiTab) (mVar 0) (mC (.ty "bool"))))))
def f_is_integer : Fn := runF 1 m_is_integer
def m_Term____mul__ : M Fl :=
    (mSeq (mIfS (mOr (mNot (mUn D.tru (mCall 1 0 f_is_integer (gPos []) (mArgs [(mVar 1)]) (mArgs [])))) (mOp cGt (mUn bAbs (mUn bInt1 (mVar 1))) (mC (.int 1000000))))
    (fun fr h => .exc ⟨3, []⟩ fr h)
    (M.ret .nx))
    (mRet (mCall 2 0 f_Term____init__ (gPos []) (mArgs [(mUn (bFld ix_readings) (mBor 0)), (mTup [(mC (.str "times")), (mVar 1), (mUn (bFld ix_node) (mBor 0))])]) (mArgs []))))
def f_Term____mul__ : Fn := runF 2 m_Term____mul__
def mt___mul____Term : Nat → Option Fn := fun c => List.lookup c [(0, f_Term____mul__)]
def m_Term____rmul__ : M Fl :=
    (mRet (mMulL mt___mul____Term (mVar 0) (mVar 1)))
def f_Term____rmul__ : Fn := runF 2 m_Term____rmul__
def mt___neg____Term : Nat → Option Fn := fun c => List.lookup c [(0, f_Term____neg__)]
def mt___abs____Term : Nat → Option Fn := fun c => List.lookup c [(0, f_Term____abs__)]
def mt___add__ : Nat → Option Fn := fun c => List.lookup c [(0, f_Term____add__)]
def mt___sub__ : Nat → Option Fn := fun c => List.lookup c [(0, f_Term____sub__)]
def mt___or__ : Nat → Option Fn := fun c => List.lookup c [(0, f_Term____or__)]
def mt___and__ : Nat → Option Fn := fun c => List.lookup c [(0, f_Term____and__)]
def mt___rmul____Term : Nat → Option Fn := fun c => List.lookup c [(0, f_Term____rmul__)]
def m__law_term_k5 (R : Fn) : M Fl :=
    (mSeq (mIfS (mOp cEq (mLate 0 (mC (.int 0)) bIdx) (mC (.str "-")))
    (mRet (mDun mt___sub__ (mVar 3) (mVar 4)))
    (M.ret .nx))
    (mRet (mIf (mOp cEq (mLate 0 (mC (.int 0)) bIdx) (mC (.str "max"))) (mDun mt___or__ (mVar 3) (mVar 4)) (mDun mt___and__ (mVar 3) (mVar 4)))))
def m__law_term_k4 (R : Fn) : M Fl :=
    (mSeq (mIfS (mOp cEq (mLate 0 (mC (.int 0)) bIdx) (mC (.str "+")))
    (mRet (mDun mt___add__ (mVar 3) (mVar 4)))
    (M.ret .nx))
    (m__law_term_k5 R))
def m__law_term_k3 (R : Fn) : M Fl :=
    (mSeq (mPutE [3, 4] (mArgs [(mCall 2 0 R (gPos []) (mArgs [(mLate 0 (mC (.int 1)) bIdx), (mVar 1)]) (mArgs [])), (mCall 2 0 R (gPos []) (mArgs [(mLate 0 (mC (.int 2)) bIdx), (mVar 1)]) (mArgs []))]))
    (m__law_term_k4 R))
def m__law_term_k2 (R : Fn) : M Fl :=
    (mSeq (mIfS (mOp cNin (mLate 0 (mC (.int 0)) bIdx) (mTup [(mC (.str "+")), (mC (.str "-")), (mC (.str "max")), (mC (.str "min"))]))
    (mRet (mCall 2 0 f__law_leaf_term (gPos []) (mArgs [(mVar 0), (mVar 1)]) (mArgs [])))
    (M.ret .nx))
    (m__law_term_k3 R))
def m__law_term_k1 (R : Fn) : M Fl :=
    (mSeq (mIfS (mOp cEq (mLate 0 (mC (.int 0)) bIdx) (mC (.str "abs")))
    (mRet (mOne mt___abs____Term (mFz (mCall 2 0 R (gPos []) (mArgs [(mLate 0 (mC (.int 1)) bIdx), (mVar 1)]) (mArgs [])))))
    (M.ret .nx))
    (m__law_term_k2 R))
def m__law_term (R : Fn) : M Fl :=
    (mSeq (mIfS (mOp cEq (mLate 0 (mC (.int 0)) bIdx) (mC (.str "*")))
    (mSeq (mPut 2 (mCall 2 0 R (gPos []) (mArgs [(mLate 0 (mC (.int 2)) bIdx), (mVar 1)]) (mArgs [])))
    (mRet (mIf (mOp cEq (mLate 0 (mC (.int 1)) bIdx) (mUn (fun _ => bNeg) (mC (.int 1)))) (mOne mt___neg____Term (mVar 2)) (mMulR mt___rmul____Term (mLate 0 (mC (.int 1)) bIdx) (mVar 2)))))
    (M.ret .nx))
    (m__law_term_k1 R))
def fr__law_term : Nat → Fn
  | 0 => runF 5 (fun _ _ => .err)
  | j + 1 => runF 5 (m__law_term (fr__law_term j))
def f__law_term : Fn := fr__law_term 5
def m_Term____eq__ : M Fl :=
    (mSeq (mIfS (mNot (mUn D.tru (mOp (bIsi isiTab) (mVar 1) (mC (.cls 0)))))
    (mRet (mC (.bl false)))
    (M.ret .nx))
    (mRet (mAndV (mOp (fun h x y => (cEq h x y).map .bl) (mUn (bFld ix_readings) (mBor 0)) (mUn (bFld ix_readings) (mBor 1))) (mOp (fun h x y => (cEq h x y).map .bl) (mUn (bFld ix_node) (mBor 0)) (mUn (bFld ix_node) (mBor 1))))))
def f_Term____eq__ : Fn := runF 2 m_Term____eq__
def m_write_leaf_k2 : M Fl :=
    (mSeq (mIfS (mOp cEq (mLate 0 (mC (.int 1)) bIdx) (mC (.str "each")))
    (mRet (mJoin [(mC (.str "sum(")), (mFmt (mLate 0 (mC (.int 2)) bIdx)), (mC (.str "(")), (mFmt (mVar 1)), (mC (.str "))"))]))
    (M.ret .nx))
    (mRet (mJoin [(mFmt (mLate 0 (mC (.int 2)) bIdx)), (mC (.str "(sum(")), (mFmt (mVar 1)), (mC (.str "))"))])))
def m_write_leaf_k1 : M Fl :=
    (mSeq (mPut 1 (mJoin [(mFmt (mLate 0 (mC (.int 3)) bIdx)), (mC (.str "[")), (mFmt (mLate 0 (mC (.int 4)) bIdx)), (mC (.str ":")), (mFmt (mLate 0 (mC (.int 5)) bIdx)), (mC (.str "]"))]))
    m_write_leaf_k2)
def m_write_leaf : M Fl :=
    (mSeq (mIfS (mOp cEq (mLate 0 (mC (.int 0)) bIdx) (mC (.str "events")))
    (mRet (mJoin [(mC (.str "events[")), (mFmt (mLate 0 (mC (.int 1)) bIdx)), (mC (.str ":")), (mFmt (mLate 0 (mC (.int 2)) bIdx)), (mC (.str "]"))]))
    (M.ret .nx))
    m_write_leaf_k1)
def f_write_leaf : Fn := runF 2 m_write_leaf
def m_bracketed (R : Fn) : M Fl :=
    (mSeq (mPut 2 (mCall 1 0 R (gPos []) (mArgs [(mVar 0)]) (mArgs [])))
    (mRet (mIf (mOp cIn (mLate 0 (mC (.int 0)) bIdx) (mBor 1)) (mJoin [(mC (.str "(")), (mFmt (mVar 2)), (mC (.str ")"))]) (mVar 2))))
def f_bracketed (R : Fn) : Fn := runF 3 (m_bracketed R)
def m_write_k3 (R : Fn) : M Fl :=
    (mSeq (mIfS (mAnd (mOp cEq (mOp bIdx (mLate 0 (mC (.int 2)) bIdx) (mC (.int 0))) (mC (.str "times"))) (mOp cLt (mOp bIdx (mLate 0 (mC (.int 2)) bIdx) (mC (.int 1))) (mC (.int 0))))
    (mPut 3 (mTup [(mC (.str "times"))]))
    (M.ret .nx))
    (mRet (mJoin [(mFmt (mFz (mCall 1 0 R (gPos []) (mArgs [(mLate 0 (mC (.int 1)) bIdx)]) (mArgs [])))), (mC (.str " ")), (mFmt (mVar 2)), (mC (.str " ")), (mFmt (mFz (mCall 2 0 (f_bracketed R) (gPos []) (mArgs [(mLate 0 (mC (.int 2)) bIdx), (mVar 3)]) (mArgs []))))])))
def m_write_k2 (R : Fn) : M Fl :=
    (mSeq (mPut 3 (mTup [(mC (.str "plus")), (mC (.str "minus"))]))
    (m_write_k3 R))
def m_write_k1 (R : Fn) : M Fl :=
    (mSeq (mPut 2 (mIf (mOp cEq (mLate 0 (mC (.int 0)) bIdx) (mC (.str "plus"))) (mC (.str "+")) (mC (.str "-"))))
    (m_write_k2 R))
def m_write (R : Fn) : M Fl :=
    (mSeq (mMatch (mLate 0 (mC (.int 0)) bIdx) (mCases [(["events", "leaf"], (mRet (mCall 1 0 f_write_leaf (gPos []) (mArgs [(mVar 0)]) (mArgs [])))), (["abs"], (mRet (mJoin [(mC (.str "abs(")), (mFmt (mFz (mCall 1 0 R (gPos []) (mArgs [(mLate 0 (mC (.int 1)) bIdx)]) (mArgs [])))), (mC (.str ")"))]))), (["max", "min"], (mRet (mJoin [(mFmt (mLate 0 (mC (.int 0)) bIdx)), (mC (.str "(")), (mFmt (mFz (mCall 1 0 R (gPos []) (mArgs [(mLate 0 (mC (.int 1)) bIdx)]) (mArgs [])))), (mC (.str ", ")), (mFmt (mFz (mCall 1 0 R (gPos []) (mArgs [(mLate 0 (mC (.int 2)) bIdx)]) (mArgs [])))), (mC (.str ")"))]))), (["times"], (mSeq (mPut 1 (mCall 2 0 (f_bracketed R) (gPos []) (mArgs [(mLate 0 (mC (.int 2)) bIdx), (mTup [(mC (.str "plus")), (mC (.str "minus")), (mC (.str "times"))])]) (mArgs [])))
    (mRet (mIf (mOp cEq (mLate 0 (mC (.int 1)) bIdx) (mUn (fun _ => bNeg) (mC (.int 1)))) (mJoin [(mC (.str "-")), (mFmt (mVar 1))]) (mJoin [(mFmt (mLate 0 (mC (.int 1)) bIdx)), (mC (.str " * ")), (mFmt (mVar 1))])))))]))
    (m_write_k1 R))
def fr_write : Nat → Fn
  | 0 => runF 4 (fun _ _ => .err)
  | j + 1 => runF 4 (m_write (fr_write j))
def f_write : Fn := fr_write 6
def m_Term__text : M Fl :=
    (mRet (mCall 1 0 f_write (gPos []) (mArgs [(mUn (bFld ix_node) (mBor 0))]) (mArgs [])))
def f_Term__text : Fn := runF 1 m_Term__text
def m__law_leaf_text_k2 : M Fl :=
    (mSeq (mIfS (mOp cEq (mLate 0 (mC (.int 0)) bIdx) (mC (.str "each")))
    (mRet (mOp bAdd (mFz (mOp bAdd (mFz (mOp bAdd (mFz (mOp bAdd (mC (.str "sum(")) (mLate 0 (mC (.int 1)) bIdx))) (mC (.str "(")))) (mVar 1))) (mC (.str "))"))))
    (M.ret .nx))
    (mRet (mOp bAdd (mFz (mOp bAdd (mFz (mOp bAdd (mLate 0 (mC (.int 1)) bIdx) (mC (.str "(sum(")))) (mVar 1))) (mC (.str "))")))))
def m__law_leaf_text_k1 : M Fl :=
    (mSeq (mPut 1 (mOp bAdd (mFz (mOp bAdd (mFz (mOp bAdd (mFz (mOp bAdd (mFz (mOp bAdd (mLate 0 (mC (.int 2)) bIdx) (mC (.str "[")))) (mUn bStr1 (mLate 0 (mC (.int 3)) bIdx)))) (mC (.str ":")))) (mUn bStr1 (mLate 0 (mC (.int 4)) bIdx)))) (mC (.str "]"))))
    m__law_leaf_text_k2)
def m__law_leaf_text : M Fl :=
    (mSeq (mIfS (mOp cEq (mLate 0 (mC (.int 0)) bIdx) (mC (.str "true")))
    (mRet (mOp bAdd (mFz (mOp bAdd (mFz (mOp bAdd (mFz (mOp bAdd (mC (.str "events[")) (mUn bStr1 (mLate 0 (mC (.int 1)) bIdx)))) (mC (.str ":")))) (mUn bStr1 (mLate 0 (mC (.int 2)) bIdx)))) (mC (.str "]"))))
    (M.ret .nx))
    m__law_leaf_text_k1)
def f__law_leaf_text : Fn := runF 2 m__law_leaf_text
def m__law_text_k5 (R : Fn) : M Fl :=
    (mSeq (mIfS (mOr (mOp cIn (mOp bIdx (mLate 0 (mC (.int 2)) bIdx) (mC (.int 0))) (mTup [(mC (.str "+")), (mC (.str "-"))])) (mAnd (mOp cEq (mOp bIdx (mLate 0 (mC (.int 2)) bIdx) (mC (.int 0))) (mC (.str "*"))) (mOp cLt (mOp bIdx (mLate 0 (mC (.int 2)) bIdx) (mC (.int 1))) (mC (.int 0)))))
    (mPut 2 (mOp bAdd (mFz (mOp bAdd (mC (.str "(")) (mVar 2))) (mC (.str ")"))))
    (M.ret .nx))
    (mRet (mOp bAdd (mFz (mOp bAdd (mFz (mOp bAdd (mFz (mOp bAdd (mFz (mCall 1 0 R (gPos []) (mArgs [(mLate 0 (mC (.int 1)) bIdx)]) (mArgs []))) (mC (.str " ")))) (mLate 0 (mC (.int 0)) bIdx))) (mC (.str " ")))) (mVar 2))))
def m__law_text_k4 (R : Fn) : M Fl :=
    (mSeq (mPut 2 (mCall 1 0 R (gPos []) (mArgs [(mLate 0 (mC (.int 2)) bIdx)]) (mArgs [])))
    (m__law_text_k5 R))
def m__law_text_k3 (R : Fn) : M Fl :=
    (mSeq (mIfS (mOp cNin (mLate 0 (mC (.int 0)) bIdx) (mTup [(mC (.str "+")), (mC (.str "-"))]))
    (mRet (mCall 1 0 f__law_leaf_text (gPos []) (mArgs [(mVar 0)]) (mArgs [])))
    (M.ret .nx))
    (m__law_text_k4 R))
def m__law_text_k2 (R : Fn) : M Fl :=
    (mSeq (mIfS (mOp cIn (mLate 0 (mC (.int 0)) bIdx) (mTup [(mC (.str "max")), (mC (.str "min"))]))
    (mRet (mOp bAdd (mFz (mOp bAdd (mFz (mOp bAdd (mFz (mOp bAdd (mFz (mOp bAdd (mLate 0 (mC (.int 0)) bIdx) (mC (.str "(")))) (mFz (mCall 1 0 R (gPos []) (mArgs [(mLate 0 (mC (.int 1)) bIdx)]) (mArgs []))))) (mC (.str ", ")))) (mFz (mCall 1 0 R (gPos []) (mArgs [(mLate 0 (mC (.int 2)) bIdx)]) (mArgs []))))) (mC (.str ")"))))
    (M.ret .nx))
    (m__law_text_k3 R))
def m__law_text_k1 (R : Fn) : M Fl :=
    (mSeq (mIfS (mOp cEq (mLate 0 (mC (.int 0)) bIdx) (mC (.str "abs")))
    (mRet (mOp bAdd (mFz (mOp bAdd (mC (.str "abs(")) (mFz (mCall 1 0 R (gPos []) (mArgs [(mLate 0 (mC (.int 1)) bIdx)]) (mArgs []))))) (mC (.str ")"))))
    (M.ret .nx))
    (m__law_text_k2 R))
def m__law_text (R : Fn) : M Fl :=
    (mSeq (mIfS (mOp cEq (mLate 0 (mC (.int 0)) bIdx) (mC (.str "*")))
    (mSeq (mPut 1 (mCall 1 0 R (gPos []) (mArgs [(mLate 0 (mC (.int 2)) bIdx)]) (mArgs [])))
    (mSeq (mIfS (mOp cIn (mOp bIdx (mLate 0 (mC (.int 2)) bIdx) (mC (.int 0))) (mTup [(mC (.str "*")), (mC (.str "+")), (mC (.str "-"))]))
    (mPut 1 (mOp bAdd (mFz (mOp bAdd (mC (.str "(")) (mVar 1))) (mC (.str ")"))))
    (M.ret .nx))
    (mRet (mIf (mOp cEq (mLate 0 (mC (.int 1)) bIdx) (mUn (fun _ => bNeg) (mC (.int 1)))) (mOp bAdd (mC (.str "-")) (mVar 1)) (mOp bAdd (mFz (mOp bAdd (mUn bStr1 (mLate 0 (mC (.int 1)) bIdx)) (mC (.str " * ")))) (mVar 1))))))
    (M.ret .nx))
    (m__law_text_k1 R))
def fr__law_text : Nat → Fn
  | 0 => runF 3 (fun _ _ => .err)
  | j + 1 => runF 3 (m__law_text (fr__law_text j))
def f__law_text : Fn := fr__law_text 6
def pt_text : Nat → Option Fn := fun c => List.lookup c [(0, f_Term__text)]
def m__law_is : M Fl :=
    (mRet (mAndV (mOp (bIsi isiTab) (mVar 0) (mC (.cls 0))) (mAndV (mOp (fun h x y => (cEq h x y).map .bl) (mFz (mProp pt_text (mVar 0))) (mCall 1 0 f__law_text (gPos []) (mArgs [(mVar 1)]) (mArgs []))) (mOp (fun h x y => (cEq h x y).map .bl) (mUn (bFld ix_readings) (mBor 0)) (mBor 2)))))
def f__law_is : Fn := runF 3 m__law_is
def mt___eq____Term : Nat → Option Fn := fun c => List.lookup c [(0, f_Term____eq__)]
def m_law_t1_k12 : M Fl :=
    (mSeq (mPut 9 (mIf (mOp cLt (mVar 3) (mC (.int 4))) (mC (.int 4)) (mC (.int 3))))
    (mIfS (mAnd (mOp cEq (mLate 4 (mC (.int 0)) bIdx) (mC (.str "true"))) (mAnd (mOp cLe (mLate 4 (mUn (fun _ => bNeg) (mC (.int 1))) bIdx) (mVar 9)) (mOpM (gEq mt___eq____Term (fun b => b)) (mVar 6) (mFz (mCall 2 0 f__law_leaf_term (gPos []) (mArgs [(mVar 4), (mVar 9)]) (mArgs []))))))
    (mRet (mC (.bl false)))
    (M.ret .nx)))
def m_law_t1_k11 : M Fl :=
    (mSeq (mIfS (mOr (mOp cNe (mBl (mOpM (gEq mt___eq____Term (fun b => b)) (mVar 6) (mVar 7))) (mOp (fun h x y => (cEq h x y).map .bl) (mFz (mCall 1 0 f__law_text (gPos []) (mArgs [(mVar 4)]) (mArgs []))) (mCall 1 0 f__law_text (gPos []) (mArgs [(mVar 5)]) (mArgs [])))) (mNot (mOpM (gEq mt___eq____Term (fun b => b)) (mVar 6) (mFz (mCall 2 0 f__law_term (gPos []) (mArgs [(mVar 4), (mVar 3)]) (mArgs []))))))
    (mRet (mC (.bl false)))
    (M.ret .nx))
    m_law_t1_k12)
def m_law_t1_k10 : M Fl :=
    (mSeq (mIfS (mOr (mNot (mUn D.tru (mCall 3 0 f__law_is (gPos []) (mArgs [(mVar 6), (mVar 4), (mVar 3)]) (mArgs [])))) (mNot (mUn D.tru (mCall 3 0 f__law_is (gPos []) (mArgs [(mVar 7), (mVar 5), (mVar 3)]) (mArgs [])))))
    (mRet (mC (.bl false)))
    (M.ret .nx))
    m_law_t1_k11)
def m_law_t1_k9 : M Fl :=
    (mSeq (mIfS (mOr (mNot (mUn D.tru (mCall 3 0 f__law_is (gPos []) (mArgs [(mFz (mMulL mt___mul____Term (mVar 6) (mVar 8))), (mTup [(mC (.str "*")), (mVar 8), (mVar 4)]), (mVar 3)]) (mArgs [])))) (mNot (mUn D.tru (mCall 3 0 f__law_is (gPos []) (mArgs [(mFz (mMulR mt___rmul____Term (mVar 8) (mVar 7))), (mTup [(mC (.str "*")), (mVar 8), (mVar 5)]), (mVar 3)]) (mArgs [])))))
    (mRet (mC (.bl false)))
    (M.ret .nx))
    m_law_t1_k10)
def m_law_t1_k8 : M Fl :=
    (mSeq (mIfS (mOr (mNot (mUn D.tru (mCall 3 0 f__law_is (gPos []) (mArgs [(mFz (mOne mt___neg____Term (mVar 6))), (mTup [(mC (.str "*")), (mUn (fun _ => bNeg) (mC (.int 1))), (mVar 4)]), (mVar 3)]) (mArgs [])))) (mNot (mUn D.tru (mCall 3 0 f__law_is (gPos []) (mArgs [(mFz (mOne mt___abs____Term (mVar 7))), (mTup [(mC (.str "abs")), (mVar 5)]), (mVar 3)]) (mArgs [])))))
    (mRet (mC (.bl false)))
    (M.ret .nx))
    m_law_t1_k9)
def m_law_t1_k7 : M Fl :=
    (mSeq (mIfS (mOr (mNot (mUn D.tru (mCall 3 0 f__law_is (gPos []) (mArgs [(mFz (mDun mt___or__ (mVar 6) (mVar 7))), (mTup [(mC (.str "max")), (mVar 4), (mVar 5)]), (mVar 3)]) (mArgs [])))) (mNot (mUn D.tru (mCall 3 0 f__law_is (gPos []) (mArgs [(mFz (mDun mt___and__ (mVar 7) (mVar 6))), (mTup [(mC (.str "min")), (mVar 5), (mVar 4)]), (mVar 3)]) (mArgs [])))))
    (mRet (mC (.bl false)))
    (M.ret .nx))
    m_law_t1_k8)
def m_law_t1_k6 : M Fl :=
    (mSeq (mIfS (mOr (mNot (mUn D.tru (mCall 3 0 f__law_is (gPos []) (mArgs [(mFz (mDun mt___add__ (mVar 6) (mVar 7))), (mTup [(mC (.str "+")), (mVar 4), (mVar 5)]), (mVar 3)]) (mArgs [])))) (mNot (mUn D.tru (mCall 3 0 f__law_is (gPos []) (mArgs [(mFz (mDun mt___sub__ (mVar 7) (mVar 6))), (mTup [(mC (.str "-")), (mVar 5), (mVar 4)]), (mVar 3)]) (mArgs [])))))
    (mRet (mC (.bl false)))
    (M.ret .nx))
    m_law_t1_k7)
def m_law_t1_k5 : M Fl :=
    (mSeq (mPut 8 (mCall 2 0 f__law_of (gPos []) (mArgs [(mVar 2), (mFz (mLst [(mFz (mCall 2 0 f__law_draw (gPos []) (mArgs [(mVar 2), (mC (.int 1000001))]) (mArgs []))), (mC (.int 1000000)), (mUn (fun _ => bNeg) (mC (.int 1000000))), (mUn (fun _ => bNeg) (mC (.int 1))), (mC (.int 0)), (mC (.int 1)), (mUn (fun _ => bNeg) (mFz (mCall 2 0 f__law_draw (gPos []) (mArgs [(mVar 2), (mC (.int 1000))]) (mArgs []))))]))]) (mArgs [])))
    m_law_t1_k6)
def m_law_t1_k4 : M Fl :=
    (mSeq (mIfS (mOr (mNot (mUn D.tru (mCall 3 0 f__law_is (gPos []) (mArgs [(mVar 6), (mVar 4), (mVar 3)]) (mArgs [])))) (mOr (mNot (mUn D.tru (mCall 3 0 f__law_is (gPos []) (mArgs [(mVar 7), (mVar 5), (mVar 3)]) (mArgs [])))) (mOp cNe (mC (.int 1000000)) (mC (.int 1000000)))))
    (mRet (mC (.bl false)))
    (M.ret .nx))
    m_law_t1_k5)
def m_law_t1_k3 : M Fl :=
    (mSeq (mPutE [6, 7] (mArgs [(mCall 2 0 f__law_term (gPos []) (mArgs [(mVar 4), (mVar 3)]) (mArgs [])), (mCall 2 0 f__law_term (gPos []) (mArgs [(mVar 5), (mVar 3)]) (mArgs []))]))
    m_law_t1_k4)
def m_law_t1_k2 : M Fl :=
    (mSeq (mPutE [4, 5] (mArgs [(mCall 3 0 f__law_tree (gPos []) (mArgs [(mVar 2), (mVar 3), (mC (.int 4))]) (mArgs [])), (mCall 3 0 f__law_tree (gPos []) (mArgs [(mVar 2), (mVar 3), (mC (.int 3))]) (mArgs []))]))
    m_law_t1_k3)
def m_law_t1_k1 : M Fl :=
    (mSeq (mPut 3 (mOp bAdd (mC (.int 2)) (mFz (mCall 2 0 f__law_draw (gPos []) (mArgs [(mVar 2), (mC (.int 3))]) (mArgs [])))))
    m_law_t1_k2)
def m_law_b13 : M Fl :=
    (mSeq (mPut 2 (mCell (mCall 2 0 f__law_source (gPos []) (mArgs [(mVar 0), (mVar 1)]) (mArgs []))))
    m_law_t1_k1)
def m_law : M Fl :=
    (mSeq (mForI (mRng1 (mOp bMax2 (mC (.int 1)) (mOp bMin2 (mC (.int 20)) (mUn bLen (mBor 0))))) (tgNm 1) m_law_b13)
    (mRet (mC (.bl true))))
def f_law : Fn := runF 10 m_law
end L

namespace L
open PySem PySem.Spec L2 Pk
/-! ### where the defs stand -/
def top (i : Nat) : Stmt := PySem.Challenge.pw_countrestarts_k22_terms_by_signs.main.body.getD i (.Pass ⟨0, 0, 0, 0⟩)
abbrev s__law_source : Stmt := top 46
abbrev N__law_source : List Str := ["_law_script", "_law_at", "_law_cell", "_law_large"]
abbrev P__law_source : List Str := ["_law_script", "_law_at"]
theorem sc__law_source : FnScope N__law_source P__law_source (defScope s__law_source) := ⟨rfl, rfl, rfl, by decide +kernel, rfl, by decide +kernel, by decide +kernel⟩
def d__law_source : PD := ⟨fun K => He.ga K "_law_source", "_law_source", "_law_source", defArgs s__law_source, defBody s__law_source, defScope s__law_source, [], [], false⟩
abbrev s__law_draw : Stmt := top 47
abbrev N__law_draw : List Str := ["_law_source_here", "_law_many", "_law_digit", "_law_mixed"]
abbrev P__law_draw : List Str := ["_law_source_here", "_law_many"]
theorem sc__law_draw : FnScope N__law_draw P__law_draw (defScope s__law_draw) := ⟨rfl, rfl, rfl, by decide +kernel, rfl, by decide +kernel, by decide +kernel⟩
def d__law_draw : PD := ⟨fun K => He.ga K "_law_draw", "_law_draw", "_law_draw", defArgs s__law_draw, defBody s__law_draw, defScope s__law_draw, [], [], false⟩
abbrev s__law_of : Stmt := top 48
abbrev N__law_of : List Str := ["_law_source_here", "_law_some"]
abbrev P__law_of : List Str := ["_law_source_here", "_law_some"]
theorem sc__law_of : FnScope N__law_of P__law_of (defScope s__law_of) := ⟨rfl, rfl, rfl, by decide +kernel, rfl, by decide +kernel, by decide +kernel⟩
def d__law_of : PD := ⟨fun K => He.ga K "_law_of", "_law_of", "_law_of", defArgs s__law_of, defBody s__law_of, defScope s__law_of, [], [], false⟩
abbrev s__law_leaf : Stmt := top 49
abbrev N__law_leaf : List Str := ["_law_source_here", "_law_size", "_law_a", "_law_b", "_law_road", "_law_measure"]
abbrev P__law_leaf : List Str := ["_law_source_here", "_law_size"]
theorem sc__law_leaf : FnScope N__law_leaf P__law_leaf (defScope s__law_leaf) := ⟨rfl, rfl, rfl, by decide +kernel, rfl, by decide +kernel, by decide +kernel⟩
def d__law_leaf : PD := ⟨fun K => He.ga K "_law_leaf", "_law_leaf", "_law_leaf", defArgs s__law_leaf, defBody s__law_leaf, defScope s__law_leaf, [], [], false⟩
abbrev s__law_tree : Stmt := top 52
abbrev N__law_tree : List Str := ["_law_source_here", "_law_size", "_law_deep", "_law_road", "_law_left"]
abbrev P__law_tree : List Str := ["_law_source_here", "_law_size", "_law_deep"]
theorem sc__law_tree : FnScope N__law_tree P__law_tree (defScope s__law_tree) := ⟨rfl, rfl, rfl, by decide +kernel, rfl, by decide +kernel, by decide +kernel⟩
def d__law_tree : PD := ⟨fun K => He.ga K "_law_tree", "_law_tree", "_law_tree", defArgs s__law_tree, defBody s__law_tree, defScope s__law_tree, [], [], false⟩
abbrev s_Term____init__ : Stmt := inClass (top 42) 1
abbrev N_Term____init__ : List Str := ["self", "readings", "node"]
abbrev P_Term____init__ : List Str := ["self", "readings", "node"]
theorem sc_Term____init__ : FnScope N_Term____init__ P_Term____init__ (defScope s_Term____init__) := ⟨rfl, rfl, rfl, by decide +kernel, rfl, by decide +kernel, by decide +kernel⟩
def d_Term____init__ : PD := ⟨fun K => He.ma K (He.ga K "Term") "__init__", "__init__", "Term.__init__", defArgs s_Term____init__, defBody s_Term____init__, defScope s_Term____init__, [], [], false⟩
abbrev s_Term____abs__ : Stmt := inClass (top 42) 16
abbrev N_Term____abs__ : List Str := ["self"]
abbrev P_Term____abs__ : List Str := ["self"]
theorem sc_Term____abs__ : FnScope N_Term____abs__ P_Term____abs__ (defScope s_Term____abs__) := ⟨rfl, rfl, rfl, by decide +kernel, rfl, by decide +kernel, by decide +kernel⟩
def d_Term____abs__ : PD := ⟨fun K => He.ma K (He.ga K "Term") "__abs__", "__abs__", "Term.__abs__", defArgs s_Term____abs__, defBody s_Term____abs__, defScope s_Term____abs__, [], [], false⟩
abbrev s_picked : Stmt := top 39
abbrev N_picked : List Str := ["start", "stop", "at", "moments", "found"]
abbrev P_picked : List Str := ["start", "stop", "at"]
theorem sc_picked : FnScope N_picked P_picked (defScope s_picked) := ⟨rfl, rfl, rfl, by decide +kernel, rfl, by decide +kernel, by decide +kernel⟩
def d_picked : PD := ⟨fun K => He.ga K "picked", "picked", "picked", defArgs s_picked, defBody s_picked, defScope s_picked, [], [], false⟩
abbrev s_Series____init__ : Stmt := inClass (top 43) 0
abbrev N_Series____init__ : List Str := ["self", "readings", "filling", "start", "stop"]
abbrev P_Series____init__ : List Str := ["self", "readings", "filling", "start", "stop"]
theorem sc_Series____init__ : FnScope N_Series____init__ P_Series____init__ (defScope s_Series____init__) := ⟨rfl, rfl, rfl, by decide +kernel, rfl, by decide +kernel, by decide +kernel⟩
def d_Series____init__ : PD := ⟨fun K => He.ma K (He.ga K "Series") "__init__", "__init__", "Series.__init__", defArgs s_Series____init__, defBody s_Series____init__, defScope s_Series____init__, [], [("filling", .str "raw"), ("start", .int 0), ("stop", .non)], false⟩
abbrev s_Series____getitem__ : Stmt := inClass (top 43) 3
abbrev N_Series____getitem__ : List Str := ["self", "at", "start", "stop"]
abbrev P_Series____getitem__ : List Str := ["self", "at"]
theorem sc_Series____getitem__ : FnScope N_Series____getitem__ P_Series____getitem__ (defScope s_Series____getitem__) := ⟨rfl, rfl, rfl, by decide +kernel, rfl, by decide +kernel, by decide +kernel⟩
def d_Series____getitem__ : PD := ⟨fun K => He.ma K (He.ga K "Series") "__getitem__", "__getitem__", "Series.__getitem__", defArgs s_Series____getitem__, defBody s_Series____getitem__, defScope s_Series____getitem__, [], [], false⟩
abbrev s_Totals____init__ : Stmt := inClass (top 44) 0
abbrev N_Totals____init__ : List Str := ["self", "readings", "filling", "start", "stop"]
abbrev P_Totals____init__ : List Str := ["self", "readings", "filling", "start", "stop"]
theorem sc_Totals____init__ : FnScope N_Totals____init__ P_Totals____init__ (defScope s_Totals____init__) := ⟨rfl, rfl, rfl, by decide +kernel, rfl, by decide +kernel, by decide +kernel⟩
def d_Totals____init__ : PD := ⟨fun K => He.ma K (He.ga K "Totals") "__init__", "__init__", "Totals.__init__", defArgs s_Totals____init__, defBody s_Totals____init__, defScope s_Totals____init__, [], [("filling", .str "zero"), ("start", .int 0), ("stop", .non)], false⟩
abbrev s_Series__total : Stmt := inClass (top 43) 13
abbrev N_Series__total : List Str := ["self", "filling"]
abbrev P_Series__total : List Str := ["self"]
theorem sc_Series__total : FnScope N_Series__total P_Series__total (defScope s_Series__total) := ⟨rfl, rfl, rfl, by decide +kernel, rfl, by decide +kernel, by decide +kernel⟩
def d_Series__total : PD := ⟨fun K => pgA K (He.ga K "Series") "total", "total", "Series.total", defArgs s_Series__total, defBody s_Series__total, defScope s_Series__total, [], [], false⟩
abbrev s_Series__true_events : Stmt := inClass (top 43) 12
abbrev N_Series__true_events : List Str := ["self"]
abbrev P_Series__true_events : List Str := ["self"]
theorem sc_Series__true_events : FnScope N_Series__true_events P_Series__true_events (defScope s_Series__true_events) := ⟨rfl, rfl, rfl, by decide +kernel, rfl, by decide +kernel, by decide +kernel⟩
def d_Series__true_events : PD := ⟨fun K => He.ma K (He.ga K "Series") "true_events", "true_events", "Series.true_events", defArgs s_Series__true_events, defBody s_Series__true_events, defScope s_Series__true_events, [], [], false⟩
abbrev s_Series__leaf : Stmt := inClass (top 43) 4
abbrev N_Series__leaf : List Str := ["self", "measure"]
abbrev P_Series__leaf : List Str := ["self", "measure"]
theorem sc_Series__leaf : FnScope N_Series__leaf P_Series__leaf (defScope s_Series__leaf) := ⟨rfl, rfl, rfl, by decide +kernel, rfl, by decide +kernel, by decide +kernel⟩
def d_Series__leaf : PD := ⟨fun K => He.ma K (He.ga K "Series") "leaf", "leaf", "Series.leaf", defArgs s_Series__leaf, defBody s_Series__leaf, defScope s_Series__leaf, [], [], false⟩
abbrev s_Totals__leaf : Stmt := inClass (top 44) 4
abbrev N_Totals__leaf : List Str := ["self", "measure"]
abbrev P_Totals__leaf : List Str := ["self", "measure"]
theorem sc_Totals__leaf : FnScope N_Totals__leaf P_Totals__leaf (defScope s_Totals__leaf) := ⟨rfl, rfl, rfl, by decide +kernel, rfl, by decide +kernel, by decide +kernel⟩
def d_Totals__leaf : PD := ⟨fun K => He.ma K (He.ga K "Totals") "leaf", "leaf", "Totals.leaf", defArgs s_Totals__leaf, defBody s_Totals__leaf, defScope s_Totals__leaf, [], [], false⟩
abbrev s_Series__first : Stmt := inClass (top 43) 5
abbrev N_Series__first : List Str := ["self"]
abbrev P_Series__first : List Str := ["self"]
theorem sc_Series__first : FnScope N_Series__first P_Series__first (defScope s_Series__first) := ⟨rfl, rfl, rfl, by decide +kernel, rfl, by decide +kernel, by decide +kernel⟩
def d_Series__first : PD := ⟨fun K => He.ma K (He.ga K "Series") "first", "first", "Series.first", defArgs s_Series__first, defBody s_Series__first, defScope s_Series__first, [], [], false⟩
abbrev s_Totals__first : Stmt := inClass (top 44) 5
abbrev N_Totals__first : List Str := ["self"]
abbrev P_Totals__first : List Str := ["self"]
theorem sc_Totals__first : FnScope N_Totals__first P_Totals__first (defScope s_Totals__first) := ⟨rfl, rfl, rfl, by decide +kernel, rfl, by decide +kernel, by decide +kernel⟩
def d_Totals__first : PD := ⟨fun K => He.ma K (He.ga K "Totals") "first", "first", "Totals.first", defArgs s_Totals__first, defBody s_Totals__first, defScope s_Totals__first, [], [], false⟩
abbrev s_Series__last : Stmt := inClass (top 43) 6
abbrev N_Series__last : List Str := ["self"]
abbrev P_Series__last : List Str := ["self"]
theorem sc_Series__last : FnScope N_Series__last P_Series__last (defScope s_Series__last) := ⟨rfl, rfl, rfl, by decide +kernel, rfl, by decide +kernel, by decide +kernel⟩
def d_Series__last : PD := ⟨fun K => He.ma K (He.ga K "Series") "last", "last", "Series.last", defArgs s_Series__last, defBody s_Series__last, defScope s_Series__last, [], [], false⟩
abbrev s_Totals__last : Stmt := inClass (top 44) 6
abbrev N_Totals__last : List Str := ["self"]
abbrev P_Totals__last : List Str := ["self"]
theorem sc_Totals__last : FnScope N_Totals__last P_Totals__last (defScope s_Totals__last) := ⟨rfl, rfl, rfl, by decide +kernel, rfl, by decide +kernel, by decide +kernel⟩
def d_Totals__last : PD := ⟨fun K => He.ma K (He.ga K "Totals") "last", "last", "Totals.last", defArgs s_Totals__last, defBody s_Totals__last, defScope s_Totals__last, [], [], false⟩
abbrev s_Series__change : Stmt := inClass (top 43) 9
abbrev N_Series__change : List Str := ["self"]
abbrev P_Series__change : List Str := ["self"]
theorem sc_Series__change : FnScope N_Series__change P_Series__change (defScope s_Series__change) := ⟨rfl, rfl, rfl, by decide +kernel, rfl, by decide +kernel, by decide +kernel⟩
def d_Series__change : PD := ⟨fun K => He.ma K (He.ga K "Series") "change", "change", "Series.change", defArgs s_Series__change, defBody s_Series__change, defScope s_Series__change, [], [], false⟩
abbrev s_Totals__change : Stmt := inClass (top 44) 7
abbrev N_Totals__change : List Str := ["self"]
abbrev P_Totals__change : List Str := ["self"]
theorem sc_Totals__change : FnScope N_Totals__change P_Totals__change (defScope s_Totals__change) := ⟨rfl, rfl, rfl, by decide +kernel, rfl, by decide +kernel, by decide +kernel⟩
def d_Totals__change : PD := ⟨fun K => He.ma K (He.ga K "Totals") "change", "change", "Totals.change", defArgs s_Totals__change, defBody s_Totals__change, defScope s_Totals__change, [], [], false⟩
abbrev s_Series__rises : Stmt := inClass (top 43) 10
abbrev N_Series__rises : List Str := ["self"]
abbrev P_Series__rises : List Str := ["self"]
theorem sc_Series__rises : FnScope N_Series__rises P_Series__rises (defScope s_Series__rises) := ⟨rfl, rfl, rfl, by decide +kernel, rfl, by decide +kernel, by decide +kernel⟩
def d_Series__rises : PD := ⟨fun K => He.ma K (He.ga K "Series") "rises", "rises", "Series.rises", defArgs s_Series__rises, defBody s_Series__rises, defScope s_Series__rises, [], [], false⟩
abbrev s_Totals__rises : Stmt := inClass (top 44) 8
abbrev N_Totals__rises : List Str := ["self"]
abbrev P_Totals__rises : List Str := ["self"]
theorem sc_Totals__rises : FnScope N_Totals__rises P_Totals__rises (defScope s_Totals__rises) := ⟨rfl, rfl, rfl, by decide +kernel, rfl, by decide +kernel, by decide +kernel⟩
def d_Totals__rises : PD := ⟨fun K => He.ma K (He.ga K "Totals") "rises", "rises", "Totals.rises", defArgs s_Totals__rises, defBody s_Totals__rises, defScope s_Totals__rises, [], [], false⟩
abbrev s_Series__told : Stmt := inClass (top 43) 11
abbrev N_Series__told : List Str := ["self"]
abbrev P_Series__told : List Str := ["self"]
theorem sc_Series__told : FnScope N_Series__told P_Series__told (defScope s_Series__told) := ⟨rfl, rfl, rfl, by decide +kernel, rfl, by decide +kernel, by decide +kernel⟩
def d_Series__told : PD := ⟨fun K => He.ma K (He.ga K "Series") "told", "told", "Series.told", defArgs s_Series__told, defBody s_Series__told, defScope s_Series__told, [], [], false⟩
abbrev s_Series__top : Stmt := inClass (top 43) 7
abbrev N_Series__top : List Str := ["self"]
abbrev P_Series__top : List Str := ["self"]
theorem sc_Series__top : FnScope N_Series__top P_Series__top (defScope s_Series__top) := ⟨rfl, rfl, rfl, by decide +kernel, rfl, by decide +kernel, by decide +kernel⟩
def d_Series__top : PD := ⟨fun K => He.ma K (He.ga K "Series") "top", "top", "Series.top", defArgs s_Series__top, defBody s_Series__top, defScope s_Series__top, [], [], false⟩
abbrev s_Series__low : Stmt := inClass (top 43) 8
abbrev N_Series__low : List Str := ["self"]
abbrev P_Series__low : List Str := ["self"]
theorem sc_Series__low : FnScope N_Series__low P_Series__low (defScope s_Series__low) := ⟨rfl, rfl, rfl, by decide +kernel, rfl, by decide +kernel, by decide +kernel⟩
def d_Series__low : PD := ⟨fun K => He.ma K (He.ga K "Series") "low", "low", "Series.low", defArgs s_Series__low, defBody s_Series__low, defScope s_Series__low, [], [], false⟩
abbrev s__law_leaf_term : Stmt := top 50
abbrev N__law_leaf_term : List Str := ["_law_leaf_here", "_law_size", "_law_row", "_law_measure"]
abbrev P__law_leaf_term : List Str := ["_law_leaf_here", "_law_size"]
theorem sc__law_leaf_term : FnScope N__law_leaf_term P__law_leaf_term (defScope s__law_leaf_term) := ⟨rfl, rfl, rfl, by decide +kernel, rfl, by decide +kernel, by decide +kernel⟩
def d__law_leaf_term : PD := ⟨fun K => He.ga K "_law_leaf_term", "_law_leaf_term", "_law_leaf_term", defArgs s__law_leaf_term, defBody s__law_leaf_term, defScope s__law_leaf_term, [], [], false⟩
abbrev s_Term__with_other : Stmt := inClass (top 42) 4
abbrev N_Term__with_other : List Str := ["self", "word", "other"]
abbrev P_Term__with_other : List Str := ["self", "word", "other"]
theorem sc_Term__with_other : FnScope N_Term__with_other P_Term__with_other (defScope s_Term__with_other) := ⟨rfl, rfl, rfl, by decide +kernel, rfl, by decide +kernel, by decide +kernel⟩
def d_Term__with_other : PD := ⟨fun K => He.ma K (He.ga K "Term") "with_other", "with_other", "Term.with_other", defArgs s_Term__with_other, defBody s_Term__with_other, defScope s_Term__with_other, [], [], false⟩
abbrev s_Term____add__ : Stmt := inClass (top 42) 5
abbrev N_Term____add__ : List Str := ["self", "other"]
abbrev P_Term____add__ : List Str := ["self", "other"]
theorem sc_Term____add__ : FnScope N_Term____add__ P_Term____add__ (defScope s_Term____add__) := ⟨rfl, rfl, rfl, by decide +kernel, rfl, by decide +kernel, by decide +kernel⟩
def d_Term____add__ : PD := ⟨fun K => He.ma K (He.ga K "Term") "__add__", "__add__", "Term.__add__", defArgs s_Term____add__, defBody s_Term____add__, defScope s_Term____add__, [], [], false⟩
abbrev s_Term____sub__ : Stmt := inClass (top 42) 7
abbrev N_Term____sub__ : List Str := ["self", "other"]
abbrev P_Term____sub__ : List Str := ["self", "other"]
theorem sc_Term____sub__ : FnScope N_Term____sub__ P_Term____sub__ (defScope s_Term____sub__) := ⟨rfl, rfl, rfl, by decide +kernel, rfl, by decide +kernel, by decide +kernel⟩
def d_Term____sub__ : PD := ⟨fun K => He.ma K (He.ga K "Term") "__sub__", "__sub__", "Term.__sub__", defArgs s_Term____sub__, defBody s_Term____sub__, defScope s_Term____sub__, [], [], false⟩
abbrev s_Term____or__ : Stmt := inClass (top 42) 9
abbrev N_Term____or__ : List Str := ["self", "other"]
abbrev P_Term____or__ : List Str := ["self", "other"]
theorem sc_Term____or__ : FnScope N_Term____or__ P_Term____or__ (defScope s_Term____or__) := ⟨rfl, rfl, rfl, by decide +kernel, rfl, by decide +kernel, by decide +kernel⟩
def d_Term____or__ : PD := ⟨fun K => He.ma K (He.ga K "Term") "__or__", "__or__", "Term.__or__", defArgs s_Term____or__, defBody s_Term____or__, defScope s_Term____or__, [], [], false⟩
abbrev s_Term____and__ : Stmt := inClass (top 42) 11
abbrev N_Term____and__ : List Str := ["self", "other"]
abbrev P_Term____and__ : List Str := ["self", "other"]
theorem sc_Term____and__ : FnScope N_Term____and__ P_Term____and__ (defScope s_Term____and__) := ⟨rfl, rfl, rfl, by decide +kernel, rfl, by decide +kernel, by decide +kernel⟩
def d_Term____and__ : PD := ⟨fun K => He.ma K (He.ga K "Term") "__and__", "__and__", "Term.__and__", defArgs s_Term____and__, defBody s_Term____and__, defScope s_Term____and__, [], [], false⟩
abbrev s_Term____neg__ : Stmt := inClass (top 42) 15
abbrev N_Term____neg__ : List Str := ["self"]
abbrev P_Term____neg__ : List Str := ["self"]
theorem sc_Term____neg__ : FnScope N_Term____neg__ P_Term____neg__ (defScope s_Term____neg__) := ⟨rfl, rfl, rfl, by decide +kernel, rfl, by decide +kernel, by decide +kernel⟩
def d_Term____neg__ : PD := ⟨fun K => He.ma K (He.ga K "Term") "__neg__", "__neg__", "Term.__neg__", defArgs s_Term____neg__, defBody s_Term____neg__, defScope s_Term____neg__, [], [], false⟩
abbrev s_is_integer : Stmt := top 7
abbrev N_is_integer : List Str := ["value"]
abbrev P_is_integer : List Str := ["value"]
theorem sc_is_integer : FnScope N_is_integer P_is_integer (defScope s_is_integer) := ⟨rfl, rfl, rfl, by decide +kernel, rfl, by decide +kernel, by decide +kernel⟩
def d_is_integer : PD := ⟨fun K => He.ga K "is_integer", "is_integer", "is_integer", defArgs s_is_integer, defBody s_is_integer, defScope s_is_integer, [], [], false⟩
abbrev s_Term____mul__ : Stmt := inClass (top 42) 13
abbrev N_Term____mul__ : List Str := ["self", "other"]
abbrev P_Term____mul__ : List Str := ["self", "other"]
theorem sc_Term____mul__ : FnScope N_Term____mul__ P_Term____mul__ (defScope s_Term____mul__) := ⟨rfl, rfl, rfl, by decide +kernel, rfl, by decide +kernel, by decide +kernel⟩
def d_Term____mul__ : PD := ⟨fun K => He.ma K (He.ga K "Term") "__mul__", "__mul__", "Term.__mul__", defArgs s_Term____mul__, defBody s_Term____mul__, defScope s_Term____mul__, [], [], false⟩
abbrev s_Term____rmul__ : Stmt := inClass (top 42) 14
abbrev N_Term____rmul__ : List Str := ["self", "other"]
abbrev P_Term____rmul__ : List Str := ["self", "other"]
theorem sc_Term____rmul__ : FnScope N_Term____rmul__ P_Term____rmul__ (defScope s_Term____rmul__) := ⟨rfl, rfl, rfl, by decide +kernel, rfl, by decide +kernel, by decide +kernel⟩
def d_Term____rmul__ : PD := ⟨fun K => He.ma K (He.ga K "Term") "__rmul__", "__rmul__", "Term.__rmul__", defArgs s_Term____rmul__, defBody s_Term____rmul__, defScope s_Term____rmul__, [], [], false⟩
abbrev s__law_term : Stmt := top 53
abbrev N__law_term : List Str := ["_law_tree_here", "_law_size", "_law_inner", "_law_left", "_law_right"]
abbrev P__law_term : List Str := ["_law_tree_here", "_law_size"]
theorem sc__law_term : FnScope N__law_term P__law_term (defScope s__law_term) := ⟨rfl, rfl, rfl, by decide +kernel, rfl, by decide +kernel, by decide +kernel⟩
def d__law_term : PD := ⟨fun K => He.ga K "_law_term", "_law_term", "_law_term", defArgs s__law_term, defBody s__law_term, defScope s__law_term, [], [], false⟩
abbrev s_Term____eq__ : Stmt := inClass (top 42) 17
abbrev N_Term____eq__ : List Str := ["self", "other"]
abbrev P_Term____eq__ : List Str := ["self", "other"]
theorem sc_Term____eq__ : FnScope N_Term____eq__ P_Term____eq__ (defScope s_Term____eq__) := ⟨rfl, rfl, rfl, by decide +kernel, rfl, by decide +kernel, by decide +kernel⟩
def d_Term____eq__ : PD := ⟨fun K => He.ma K (He.ga K "Term") "__eq__", "__eq__", "Term.__eq__", defArgs s_Term____eq__, defBody s_Term____eq__, defScope s_Term____eq__, [], [], false⟩
abbrev s_write_leaf : Stmt := top 23
abbrev N_write_leaf : List Str := ["node", "inner"]
abbrev P_write_leaf : List Str := ["node"]
theorem sc_write_leaf : FnScope N_write_leaf P_write_leaf (defScope s_write_leaf) := ⟨rfl, rfl, rfl, by decide +kernel, rfl, by decide +kernel, by decide +kernel⟩
def d_write_leaf : PD := ⟨fun K => He.ga K "write_leaf", "write_leaf", "write_leaf", defArgs s_write_leaf, defBody s_write_leaf, defScope s_write_leaf, [], [], false⟩
abbrev s_bracketed : Stmt := top 22
abbrev N_bracketed : List Str := ["node", "kinds", "text"]
abbrev P_bracketed : List Str := ["node", "kinds"]
theorem sc_bracketed : FnScope N_bracketed P_bracketed (defScope s_bracketed) := ⟨rfl, rfl, rfl, by decide +kernel, rfl, by decide +kernel, by decide +kernel⟩
def d_bracketed : PD := ⟨fun K => He.ga K "bracketed", "bracketed", "bracketed", defArgs s_bracketed, defBody s_bracketed, defScope s_bracketed, [], [], false⟩
abbrev s_write : Stmt := top 24
abbrev N_write : List Str := ["node", "inner", "sign", "kinds"]
abbrev P_write : List Str := ["node"]
theorem sc_write : FnScope N_write P_write (defScope s_write) := ⟨rfl, rfl, rfl, by decide +kernel, rfl, by decide +kernel, by decide +kernel⟩
def d_write : PD := ⟨fun K => He.ga K "write", "write", "write", defArgs s_write, defBody s_write, defScope s_write, [], [], false⟩
abbrev s_Term__text : Stmt := inClass (top 42) 3
abbrev N_Term__text : List Str := ["self"]
abbrev P_Term__text : List Str := ["self"]
theorem sc_Term__text : FnScope N_Term__text P_Term__text (defScope s_Term__text) := ⟨rfl, rfl, rfl, by decide +kernel, rfl, by decide +kernel, by decide +kernel⟩
def d_Term__text : PD := ⟨fun K => pgA K (He.ga K "Term") "text", "text", "Term.text", defArgs s_Term__text, defBody s_Term__text, defScope s_Term__text, [], [], false⟩
abbrev s__law_leaf_text : Stmt := top 51
abbrev N__law_leaf_text : List Str := ["_law_leaf_here", "_law_part"]
abbrev P__law_leaf_text : List Str := ["_law_leaf_here"]
theorem sc__law_leaf_text : FnScope N__law_leaf_text P__law_leaf_text (defScope s__law_leaf_text) := ⟨rfl, rfl, rfl, by decide +kernel, rfl, by decide +kernel, by decide +kernel⟩
def d__law_leaf_text : PD := ⟨fun K => He.ga K "_law_leaf_text", "_law_leaf_text", "_law_leaf_text", defArgs s__law_leaf_text, defBody s__law_leaf_text, defScope s__law_leaf_text, [], [], false⟩
abbrev s__law_text : Stmt := top 54
abbrev N__law_text : List Str := ["_law_tree_here", "_law_inner", "_law_right"]
abbrev P__law_text : List Str := ["_law_tree_here"]
theorem sc__law_text : FnScope N__law_text P__law_text (defScope s__law_text) := ⟨rfl, rfl, rfl, by decide +kernel, rfl, by decide +kernel, by decide +kernel⟩
def d__law_text : PD := ⟨fun K => He.ga K "_law_text", "_law_text", "_law_text", defArgs s__law_text, defBody s__law_text, defScope s__law_text, [], [], false⟩
abbrev s__law_is : Stmt := top 55
abbrev N__law_is : List Str := ["_law_term_here", "_law_tree_here", "_law_size"]
abbrev P__law_is : List Str := ["_law_term_here", "_law_tree_here", "_law_size"]
theorem sc__law_is : FnScope N__law_is P__law_is (defScope s__law_is) := ⟨rfl, rfl, rfl, by decide +kernel, rfl, by decide +kernel, by decide +kernel⟩
def d__law_is : PD := ⟨fun K => He.ga K "_law_is", "_law_is", "_law_is", defArgs s__law_is, defBody s__law_is, defScope s__law_is, [], [], false⟩
abbrev s_law : Stmt := top 56
abbrev N_law : List Str := ["_law_script", "_law_at", "_law_source_here", "_law_size", "_law_one", "_law_two", "_law_first", "_law_second", "_law_by", "_law_wide"]
abbrev P_law : List Str := ["_law_script"]
theorem sc_law : FnScope N_law P_law (defScope s_law) := ⟨rfl, rfl, rfl, by decide +kernel, rfl, by decide +kernel, by decide +kernel⟩
def d_law : PD := ⟨fun K => He.ga K "law", "law", "law", defArgs s_law, defBody s_law, defScope s_law, [], [], false⟩
abbrev s_BadTerm____init__ : Stmt := inClass (top 4) 0
def d_BadTerm____init__ : PD := ⟨fun K => He.ma K (He.ga K "BadTerm") "__init__", "__init__", "BadTerm.__init__", defArgs s_BadTerm____init__, defBody s_BadTerm____init__, defScope s_BadTerm____init__, [], [], true⟩
abbrev gs_BadTerm : List PySem.ExS.Asg := []
def Ok_BadTerm (K : PySem.W.Frag) (H : Hp) (vs : List V) : Prop := True
theorem xs_BadTerm {K : PySem.W.Frag} : PySem.ExS.ExSt K (defArgs s_BadTerm____init__) (defScope s_BadTerm____init__) "BadTerm.__init__" (.Constant (.str "no term can be built so") 0 ⟨14, 25, 14, 50⟩) ⟨14, 8, 14, 13⟩ ⟨14, 8, 14, 15⟩ ⟨14, 8, 14, 24⟩ ⟨14, 8, 14, 51⟩ ⟨14, 8, 14, 51⟩ gs_BadTerm (Ok_BadTerm K) where
  bind := fun _ _ _ _ _ _ _ _ us hl => match us, hl with | [], _ => (by kernel_rfl)
  nd := by decide +kernel
  len := by decide
  loc := by decide +kernel
  dbg := by decide +kernel
  cell := by decide +kernel
  hp := ⟨_, rfl, rfl⟩
  ks := rfl
  kc := rfl
  co := rfl
  gen := rfl
  k := rfl
  hE := fun _ _ _ _ _ _ _ _ _ _ _ _ _ _ _ _ _ _ _ _ _ _ _ _ _ _ hq => hE_con hq
  hin := fun _ _ _ _ => rfl
  hev := fun _ _ _ _ => ⟨_, rfl⟩
  hsw := fun _ _ _ _ => rfl
  hst := fun _ => rfl
  hsw2 := fun _ _ _ _ _ => rfl
theorem bd_BadTerm : (d_BadTerm____init__).body = PySem.ExS.sup (.Constant (.str "no term can be built so") 0 ⟨14, 25, 14, 50⟩) ⟨14, 8, 14, 13⟩ ⟨14, 8, 14, 15⟩ ⟨14, 8, 14, 24⟩ ⟨14, 8, 14, 51⟩ ⟨14, 8, 14, 51⟩ :: PySem.ExS.asgs gs_BadTerm := rfl
/-! ### facts of the head -/
def fa : List Fx := [.he (.free "len"),
  .he (.free "abs"),
  .he (.free "int"),
  .he (.glo "_law_draw"),
  .he (.glo "_law_of"),
  .he (.glo "_law_leaf"),
  .he (.glo "_law_tree"),
  .he (.glo "Term"),
  .he (.free "list"),
  .he (.free "range"),
  .he (.free "isinstance"),
  .he (.free "super"),
  .he (.glo "BadTerm"),
  .he (.free "str"),
  .he (.glo "picked"),
  .he (.glo "Series"),
  .he (.glo "Totals"),
  .he (.free "bool"),
  .he (.glo "is_integer"),
  .he (.glo "_law_term"),
  .he (.glo "_law_leaf_term"),
  .he (.glo "write"),
  .he (.glo "write_leaf"),
  .he (.glo "bracketed"),
  .he (.glo "_law_text"),
  .he (.glo "_law_leaf_text"),
  .he (.free "min"),
  .he (.free "max"),
  .he (.glo "_law_source"),
  .he (.glo "_law_is"),
  .he (.cls "Term"),
  .he (.noat "Term" "readings"),
  .he (.cls "Series"),
  .he (.noat "Series" "readings"),
  .he (.cls "Totals"),
  .he (.noat "Totals" "readings"),
  .he (.noat "Term" "node"),
  .he (.noat "Series" "filling"),
  .he (.noat "Totals" "filling"),
  .he (.noat "Series" "start"),
  .he (.noat "Totals" "start"),
  .he (.noat "Series" "stop"),
  .he (.noat "Totals" "stop"),
  .prop "Series" "total",
  .prop "Term" "text",
  .he (.meth "Series" "leaf"),
  .he (.meth "Totals" "leaf"),
  .he (.meth "Series" "true_events"),
  .he (.meth "Series" "__getitem__"),
  .he (.meth "Series" "first"),
  .he (.meth "Totals" "first"),
  .he (.meth "Series" "last"),
  .he (.meth "Totals" "last"),
  .he (.meth "Series" "change"),
  .he (.meth "Totals" "change"),
  .he (.meth "Series" "rises"),
  .he (.meth "Totals" "rises"),
  .he (.meth "Series" "told"),
  .he (.meth "Series" "top"),
  .he (.meth "Series" "low"),
  .he (.meth "Term" "with_other"),
  .he (.meth "Term" "__neg__"),
  .he (.meth "Term" "__abs__"),
  .he (.meth "Term" "__eq__"),
  .he (.meth "Term" "__add__"),
  .slf "Term",
  .he (.meth "Term" "__sub__"),
  .he (.meth "Term" "__or__"),
  .he (.meth "Term" "__and__"),
  .he (.meth "Term" "__mul__"),
  .he (.meth "Term" "__rmul__"),
  .nsb "Term",
  .own "BadTerm" (PySem.Str.ofString "/claim/cut.py") [],
  .he (.glo "FILLINGS"),
  .tup (fun K => He.ga K "FILLINGS") [.str "raw", .str "zero", .str "held"],
  .raw (fun K => nsqX K (He.ga K "Series")),
  .raw (fun K => cconI K (He.ga K "Term") "MOST" 1000000),
  .raw (fun K => eqX K (He.ga K "Term")),
  .he (.mkr "Term"),
  .he (.mkr "Series"),
  .he (.mkr "Totals"),
  .ins "Term",
  .ins "Series",
  .ins "Totals",
  .kit (.b "NoneType") (.o 0) false,
  .kit (.b "bool") (.o 0) false,
  .kit (.b "int") (.o 0) false,
  .kit (.b "str") (.o 0) false,
  .kit (.b "tuple") (.o 0) false,
  .kit (.b "list") (.o 0) false,
  .kit (.o 0) (.b "bool") false,
  .kit (.o 0) (.b "int") false,
  .kit (.o 0) (.b "str") false,
  .kit (.o 0) (.b "tuple") false,
  .kit (.o 0) (.b "list") false,
  .kit (.o 0) (.o 0) true,
  .kit (.o 1) (.b "bool") false,
  .kit (.o 1) (.b "int") false,
  .kit (.o 1) (.b "str") false,
  .kit (.o 1) (.b "tuple") false,
  .kit (.o 1) (.b "list") false,
  .kit (.o 1) (.o 0) false,
  .kit (.o 2) (.b "bool") false,
  .kit (.o 2) (.b "int") false,
  .kit (.o 2) (.b "str") false,
  .kit (.o 2) (.b "tuple") false,
  .kit (.o 2) (.b "list") false,
  .kit (.o 2) (.o 0) false,
  .he (.glo "law")]
def fn : List PD := [d_BadTerm____init__, d__law_source, d__law_draw, d__law_of, d__law_leaf, d__law_tree, d_Term____init__, d_Term____abs__, d_picked, d_Series____init__, d_Series____getitem__, d_Totals____init__, d_Series__total, d_Series__true_events, d_Series__leaf, d_Totals__leaf, d_Series__first, d_Totals__first, d_Series__last, d_Totals__last, d_Series__change, d_Totals__change, d_Series__rises, d_Totals__rises, d_Series__told, d_Series__top, d_Series__low, d__law_leaf_term, d_Term__with_other, d_Term____add__, d_Term____sub__, d_Term____or__, d_Term____and__, d_Term____neg__, d_is_integer, d_Term____mul__, d_Term____rmul__, d__law_term, d_Term____eq__, d_write_leaf, d_bracketed, d_write, d_Term__text, d__law_leaf_text, d__law_text, d__law_is, d_law]
class PF (P : Program) : Prop where
  f : ((P.main.file : Str) == (PySem.Str.ofString "/claim/cut.py")) = true
  t : (P.main.scope.names.lookup ("super" : Str)).isSome = false
abbrev Says (K : PySem.W.Frag) : Prop := SaysP cn fa fn K
section
open PySem PySem.Spec PyProof.Rows L2
/-! ### the head -/
abbrev Rw : PySem.W.OpenRow := PySem.W.OpenLaw.row PySem.Challenge.rw_countrestarts_k22_terms_by_signs
abbrev hk : PySem.W.Hook := Pk.hookP 7 cn fa fn
def ob (s : PySem.W.SharedT) : Pk.AlP := Pk.obsPG 7 cn fa fn (HandSHeadRun.getT s)
theorem ob_eq (s : PySem.W.SharedT) : ob s = hk.obs s.abs := Pk.obsPG_eq (HandSHeadRun.getT_eq s)
def names : List PySem.Str := "_wall" :: "CountError" :: "Unlike" :: "BadTerm" :: "BadText" :: "is_integer" :: "filled" :: "amounts" :: "rises_of" :: "told_of" :: "measure_of" :: "leaf_number" :: "measure_of_totals" :: "LETTERS" :: "DIGITS" :: "MEASURES" :: "OF_TOTALS" :: "MOST" :: "bracketed" :: "write_leaf" :: "write" :: "word_end" :: "Tokens" :: "read_slice" :: "read_filling" :: "read_leaf" :: "read_atom" :: "read_product" :: "read_term" :: "parse" :: "View" :: "view_of" :: "FILLINGS" :: "picked" :: "totals_of" :: "value_of" :: "Term" :: "Series" :: "Totals" :: "_law_source" :: "_law_draw" :: "_law_of" :: "_law_leaf" :: "_law_leaf_term" :: "_law_leaf_text" :: "_law_tree" :: "_law_term" :: "_law_text" :: "_law_is" :: []
theorem map3 {α β γ δ : Type} {o : Option α} {f : α → β} {g : α → γ} {k : α → δ} {a : β} {b : γ} {c : δ} (h1 : o.map f = some a) (h2 : o.map g = some b) (h3 : o.map k = some c) : o.map (fun s => (f s, g s, k s)) = some (a, b, c) := by
  cases o with
  | none => cases h1
  | some s =>
    cases h1
    cases h2
    cases h3
    rfl
abbrev vw : Program := PySem.W.view Rw.prog [56]
noncomputable abbrev ends (w : World) (os : PySem.OsState) : Option PySem.W.SharedT := HandSHeadRun.endF (HandSHeadRun.stepQ (HandSHeadRun.denQ HandSHeadRun.tabQ) Rw.prog w) 20000 Rw.prog w os
/- the run looked at three ways, one kernel check each: one check of all three runs three times over and takes the memory of three -/
open PySem.W PySem.Calls HandSHeadRun in
set_option maxHeartbeats 0 in
theorem run_a (w : World) (os : PySem.OsState) : (ends w os).map (fun s => looksF Rw.prog (boot_heap w.params) s.abs) = some true := by
  kernel_rfl
open PySem.W PySem.Calls HandSHeadRun in
set_option maxHeartbeats 0 in
theorem run_b (w : World) (os : PySem.OsState) : (ends w os).map (fun s => seenQ vw names (importedModules Rw.prog.main.body) (fun s => xlAt vw [] s && recOk Rw.toRowW.records s) s.abs) = some (openGood vw names) := by
  kernel_rfl
set_option maxHeartbeats 0 in
theorem run_c (w : World) (os : PySem.OsState) : (ends w os).map (fun s => (ob s).1) = some true := by
  kernel_rfl
set_option maxHeartbeats 0 in
theorem run_d (w : World) (os : PySem.OsState) : (ends w os).map (fun s => (ob s).2) = some (fn.map Pk.PD.val) := by
  kernel_rfl
theorem map2 {α β γ : Type} {o : Option α} {f : α → β × γ} {a : β} {b : γ} (h1 : o.map (fun s => (f s).1) = some a) (h2 : o.map (fun s => (f s).2) = some b) : o.map f = some (a, b) := by
  cases o with
  | none => cases h1
  | some s =>
    have e1 := Option.some.inj h1
    have e2 := Option.some.inj h2
    exact congrArg some (Prod.ext e1 e2)
theorem run (w : World) : HandSHeadRun.RunEq Rw vw hk ob 20000 names w := fun os => map3 (run_a w os) (run_b w os) (map2 (run_c w os) (run_d w os))
end
section
variable {P : Program} {w : World} {K : PySem.W.Frag} {mg : Str → Option Value} {base : Heap} [hp_ : PF P]
theorem gl__law_draw (c : Says K) (Y : K.In base) (G : base.Ns mainGlobals mg) : mg "_law_draw" = some (.ref (He.ga K "_law_draw")) := He.glo_ok Y G (c.fact 3 (f := .he (.glo "_law_draw")) rfl)
theorem gl__law_of (c : Says K) (Y : K.In base) (G : base.Ns mainGlobals mg) : mg "_law_of" = some (.ref (He.ga K "_law_of")) := He.glo_ok Y G (c.fact 4 (f := .he (.glo "_law_of")) rfl)
theorem gl__law_leaf (c : Says K) (Y : K.In base) (G : base.Ns mainGlobals mg) : mg "_law_leaf" = some (.ref (He.ga K "_law_leaf")) := He.glo_ok Y G (c.fact 5 (f := .he (.glo "_law_leaf")) rfl)
theorem gl__law_tree (c : Says K) (Y : K.In base) (G : base.Ns mainGlobals mg) : mg "_law_tree" = some (.ref (He.ga K "_law_tree")) := He.glo_ok Y G (c.fact 6 (f := .he (.glo "_law_tree")) rfl)
theorem gl_Term (c : Says K) (Y : K.In base) (G : base.Ns mainGlobals mg) : mg "Term" = some (.ref (He.ga K "Term")) := He.glo_ok Y G (c.fact 7 (f := .he (.glo "Term")) rfl)
theorem gl_BadTerm (c : Says K) (Y : K.In base) (G : base.Ns mainGlobals mg) : mg "BadTerm" = some (.ref (He.ga K "BadTerm")) := He.glo_ok Y G (c.fact 12 (f := .he (.glo "BadTerm")) rfl)
theorem gl_picked (c : Says K) (Y : K.In base) (G : base.Ns mainGlobals mg) : mg "picked" = some (.ref (He.ga K "picked")) := He.glo_ok Y G (c.fact 14 (f := .he (.glo "picked")) rfl)
theorem gl_Series (c : Says K) (Y : K.In base) (G : base.Ns mainGlobals mg) : mg "Series" = some (.ref (He.ga K "Series")) := He.glo_ok Y G (c.fact 15 (f := .he (.glo "Series")) rfl)
theorem gl_Totals (c : Says K) (Y : K.In base) (G : base.Ns mainGlobals mg) : mg "Totals" = some (.ref (He.ga K "Totals")) := He.glo_ok Y G (c.fact 16 (f := .he (.glo "Totals")) rfl)
theorem gl_is_integer (c : Says K) (Y : K.In base) (G : base.Ns mainGlobals mg) : mg "is_integer" = some (.ref (He.ga K "is_integer")) := He.glo_ok Y G (c.fact 18 (f := .he (.glo "is_integer")) rfl)
theorem gl__law_term (c : Says K) (Y : K.In base) (G : base.Ns mainGlobals mg) : mg "_law_term" = some (.ref (He.ga K "_law_term")) := He.glo_ok Y G (c.fact 19 (f := .he (.glo "_law_term")) rfl)
theorem gl__law_leaf_term (c : Says K) (Y : K.In base) (G : base.Ns mainGlobals mg) : mg "_law_leaf_term" = some (.ref (He.ga K "_law_leaf_term")) := He.glo_ok Y G (c.fact 20 (f := .he (.glo "_law_leaf_term")) rfl)
theorem gl_write (c : Says K) (Y : K.In base) (G : base.Ns mainGlobals mg) : mg "write" = some (.ref (He.ga K "write")) := He.glo_ok Y G (c.fact 21 (f := .he (.glo "write")) rfl)
theorem gl_write_leaf (c : Says K) (Y : K.In base) (G : base.Ns mainGlobals mg) : mg "write_leaf" = some (.ref (He.ga K "write_leaf")) := He.glo_ok Y G (c.fact 22 (f := .he (.glo "write_leaf")) rfl)
theorem gl_bracketed (c : Says K) (Y : K.In base) (G : base.Ns mainGlobals mg) : mg "bracketed" = some (.ref (He.ga K "bracketed")) := He.glo_ok Y G (c.fact 23 (f := .he (.glo "bracketed")) rfl)
theorem gl__law_text (c : Says K) (Y : K.In base) (G : base.Ns mainGlobals mg) : mg "_law_text" = some (.ref (He.ga K "_law_text")) := He.glo_ok Y G (c.fact 24 (f := .he (.glo "_law_text")) rfl)
theorem gl__law_leaf_text (c : Says K) (Y : K.In base) (G : base.Ns mainGlobals mg) : mg "_law_leaf_text" = some (.ref (He.ga K "_law_leaf_text")) := He.glo_ok Y G (c.fact 25 (f := .he (.glo "_law_leaf_text")) rfl)
theorem gl__law_source (c : Says K) (Y : K.In base) (G : base.Ns mainGlobals mg) : mg "_law_source" = some (.ref (He.ga K "_law_source")) := He.glo_ok Y G (c.fact 28 (f := .he (.glo "_law_source")) rfl)
theorem gl__law_is (c : Says K) (Y : K.In base) (G : base.Ns mainGlobals mg) : mg "_law_is" = some (.ref (He.ga K "_law_is")) := He.glo_ok Y G (c.fact 29 (f := .he (.glo "_law_is")) rfl)
theorem fr_len (c : Says K) (Y : K.In base) (G : base.Ns mainGlobals mg) : mg "len" = none := He.free_ok Y G (c.fact 0 (f := .he (.free "len")) rfl)
theorem fr_abs (c : Says K) (Y : K.In base) (G : base.Ns mainGlobals mg) : mg "abs" = none := He.free_ok Y G (c.fact 1 (f := .he (.free "abs")) rfl)
theorem fr_int (c : Says K) (Y : K.In base) (G : base.Ns mainGlobals mg) : mg "int" = none := He.free_ok Y G (c.fact 2 (f := .he (.free "int")) rfl)
theorem fr_list (c : Says K) (Y : K.In base) (G : base.Ns mainGlobals mg) : mg "list" = none := He.free_ok Y G (c.fact 8 (f := .he (.free "list")) rfl)
theorem fr_range (c : Says K) (Y : K.In base) (G : base.Ns mainGlobals mg) : mg "range" = none := He.free_ok Y G (c.fact 9 (f := .he (.free "range")) rfl)
theorem fr_isinstance (c : Says K) (Y : K.In base) (G : base.Ns mainGlobals mg) : mg "isinstance" = none := He.free_ok Y G (c.fact 10 (f := .he (.free "isinstance")) rfl)
theorem fr_super (c : Says K) (Y : K.In base) (G : base.Ns mainGlobals mg) : mg "super" = none := He.free_ok Y G (c.fact 11 (f := .he (.free "super")) rfl)
theorem fr_str (c : Says K) (Y : K.In base) (G : base.Ns mainGlobals mg) : mg "str" = none := He.free_ok Y G (c.fact 13 (f := .he (.free "str")) rfl)
theorem fr_bool (c : Says K) (Y : K.In base) (G : base.Ns mainGlobals mg) : mg "bool" = none := He.free_ok Y G (c.fact 17 (f := .he (.free "bool")) rfl)
theorem fr_min (c : Says K) (Y : K.In base) (G : base.Ns mainGlobals mg) : mg "min" = none := He.free_ok Y G (c.fact 26 (f := .he (.free "min")) rfl)
theorem fr_max (c : Says K) (Y : K.In base) (G : base.Ns mainGlobals mg) : mg "max" = none := He.free_ok Y G (c.fact 27 (f := .he (.free "max")) rfl)
theorem fd_readings (c : Says K) {X : Cx} (hK : X.K = K) : FldF X (T K) "readings" ix_readings := by
  subst hK
  exact ⟨lk_all (Q := fun c _ => Cls X.K ((T X.K).cad c)) (.cons (He.cls_ok (c.fact 30 (f := .he (.cls "Term")) rfl)) (.cons (He.cls_ok (c.fact 32 (f := .he (.cls "Series")) rfl)) (.cons (He.cls_ok (c.fact 34 (f := .he (.cls "Totals")) rfl)) .nil))),
    lk_all (Q := fun c _ => NoAttr X.K ((T X.K).cad c) "readings") (.cons (He.noat_ok (c.fact 31 (f := .he (.noat "Term" "readings")) rfl)) (.cons (He.noat_ok (c.fact 33 (f := .he (.noat "Series" "readings")) rfl)) (.cons (He.noat_ok (c.fact 35 (f := .he (.noat "Totals" "readings")) rfl)) .nil))),
    lk_all (Q := fun c _ => ((T X.K).fld c).Nodup ∧ ((T X.K).fld c).length < 1000) (.cons ⟨(by show (fld 0).Nodup; decide +kernel), (by show (fld 0).length < 1000; decide)⟩ (.cons ⟨(by show (fld 1).Nodup; decide +kernel), (by show (fld 1).length < 1000; decide)⟩ (.cons ⟨(by show (fld 2).Nodup; decide +kernel), (by show (fld 2).length < 1000; decide)⟩ .nil))),
    lk_all (Q := fun (c i : Nat) => ((T X.K).fld c)[i]? = some (("readings" : Str))) (.cons rfl (.cons rfl (.cons rfl .nil)))⟩
theorem fd_node (c : Says K) {X : Cx} (hK : X.K = K) : FldF X (T K) "node" ix_node := by
  subst hK
  exact ⟨lk_all (Q := fun c _ => Cls X.K ((T X.K).cad c)) (.cons (He.cls_ok (c.fact 30 (f := .he (.cls "Term")) rfl)) .nil),
    lk_all (Q := fun c _ => NoAttr X.K ((T X.K).cad c) "node") (.cons (He.noat_ok (c.fact 36 (f := .he (.noat "Term" "node")) rfl)) .nil),
    lk_all (Q := fun c _ => ((T X.K).fld c).Nodup ∧ ((T X.K).fld c).length < 1000) (.cons ⟨(by show (fld 0).Nodup; decide +kernel), (by show (fld 0).length < 1000; decide)⟩ .nil),
    lk_all (Q := fun (c i : Nat) => ((T X.K).fld c)[i]? = some (("node" : Str))) (.cons rfl .nil)⟩
theorem fd_filling (c : Says K) {X : Cx} (hK : X.K = K) : FldF X (T K) "filling" ix_filling := by
  subst hK
  exact ⟨lk_all (Q := fun c _ => Cls X.K ((T X.K).cad c)) (.cons (He.cls_ok (c.fact 32 (f := .he (.cls "Series")) rfl)) (.cons (He.cls_ok (c.fact 34 (f := .he (.cls "Totals")) rfl)) .nil)),
    lk_all (Q := fun c _ => NoAttr X.K ((T X.K).cad c) "filling") (.cons (He.noat_ok (c.fact 37 (f := .he (.noat "Series" "filling")) rfl)) (.cons (He.noat_ok (c.fact 38 (f := .he (.noat "Totals" "filling")) rfl)) .nil)),
    lk_all (Q := fun c _ => ((T X.K).fld c).Nodup ∧ ((T X.K).fld c).length < 1000) (.cons ⟨(by show (fld 1).Nodup; decide +kernel), (by show (fld 1).length < 1000; decide)⟩ (.cons ⟨(by show (fld 2).Nodup; decide +kernel), (by show (fld 2).length < 1000; decide)⟩ .nil)),
    lk_all (Q := fun (c i : Nat) => ((T X.K).fld c)[i]? = some (("filling" : Str))) (.cons rfl (.cons rfl .nil))⟩
theorem fd_start (c : Says K) {X : Cx} (hK : X.K = K) : FldF X (T K) "start" ix_start := by
  subst hK
  exact ⟨lk_all (Q := fun c _ => Cls X.K ((T X.K).cad c)) (.cons (He.cls_ok (c.fact 32 (f := .he (.cls "Series")) rfl)) (.cons (He.cls_ok (c.fact 34 (f := .he (.cls "Totals")) rfl)) .nil)),
    lk_all (Q := fun c _ => NoAttr X.K ((T X.K).cad c) "start") (.cons (He.noat_ok (c.fact 39 (f := .he (.noat "Series" "start")) rfl)) (.cons (He.noat_ok (c.fact 40 (f := .he (.noat "Totals" "start")) rfl)) .nil)),
    lk_all (Q := fun c _ => ((T X.K).fld c).Nodup ∧ ((T X.K).fld c).length < 1000) (.cons ⟨(by show (fld 1).Nodup; decide +kernel), (by show (fld 1).length < 1000; decide)⟩ (.cons ⟨(by show (fld 2).Nodup; decide +kernel), (by show (fld 2).length < 1000; decide)⟩ .nil)),
    lk_all (Q := fun (c i : Nat) => ((T X.K).fld c)[i]? = some (("start" : Str))) (.cons rfl (.cons rfl .nil))⟩
theorem fd_stop (c : Says K) {X : Cx} (hK : X.K = K) : FldF X (T K) "stop" ix_stop := by
  subst hK
  exact ⟨lk_all (Q := fun c _ => Cls X.K ((T X.K).cad c)) (.cons (He.cls_ok (c.fact 32 (f := .he (.cls "Series")) rfl)) (.cons (He.cls_ok (c.fact 34 (f := .he (.cls "Totals")) rfl)) .nil)),
    lk_all (Q := fun c _ => NoAttr X.K ((T X.K).cad c) "stop") (.cons (He.noat_ok (c.fact 41 (f := .he (.noat "Series" "stop")) rfl)) (.cons (He.noat_ok (c.fact 42 (f := .he (.noat "Totals" "stop")) rfl)) .nil)),
    lk_all (Q := fun c _ => ((T X.K).fld c).Nodup ∧ ((T X.K).fld c).length < 1000) (.cons ⟨(by show (fld 1).Nodup; decide +kernel), (by show (fld 1).length < 1000; decide)⟩ (.cons ⟨(by show (fld 2).Nodup; decide +kernel), (by show (fld 2).length < 1000; decide)⟩ .nil)),
    lk_all (Q := fun (c i : Nat) => ((T X.K).fld c)[i]? = some (("stop" : Str))) (.cons rfl (.cons rfl .nil))⟩
theorem isi_ok (c : Says K) : IsiF K (T K) isiTab := isi_of (.b (kit_ok (c.fact 84 (f := .kit (.b "NoneType") (.o 0) false) rfl)) (.b (kit_ok (c.fact 85 (f := .kit (.b "bool") (.o 0) false) rfl)) (.b (kit_ok (c.fact 86 (f := .kit (.b "int") (.o 0) false) rfl)) (.b (kit_ok (c.fact 87 (f := .kit (.b "str") (.o 0) false) rfl)) (.b (kit_ok (c.fact 88 (f := .kit (.b "tuple") (.o 0) false) rfl)) (.b (kit_ok (c.fact 89 (f := .kit (.b "list") (.o 0) false) rfl)) (.o (kit_ok (c.fact 90 (f := .kit (.o 0) (.b "bool") false) rfl)) (ins_ok (c.fact 81 (f := .ins "Term") rfl)) (.o (kit_ok (c.fact 91 (f := .kit (.o 0) (.b "int") false) rfl)) (ins_ok (c.fact 81 (f := .ins "Term") rfl)) (.o (kit_ok (c.fact 92 (f := .kit (.o 0) (.b "str") false) rfl)) (ins_ok (c.fact 81 (f := .ins "Term") rfl)) (.o (kit_ok (c.fact 93 (f := .kit (.o 0) (.b "tuple") false) rfl)) (ins_ok (c.fact 81 (f := .ins "Term") rfl)) (.o (kit_ok (c.fact 94 (f := .kit (.o 0) (.b "list") false) rfl)) (ins_ok (c.fact 81 (f := .ins "Term") rfl)) (.o (kit_ok (c.fact 95 (f := .kit (.o 0) (.o 0) true) rfl)) (ins_ok (c.fact 81 (f := .ins "Term") rfl)) (.o (kit_ok (c.fact 96 (f := .kit (.o 1) (.b "bool") false) rfl)) (ins_ok (c.fact 82 (f := .ins "Series") rfl)) (.o (kit_ok (c.fact 97 (f := .kit (.o 1) (.b "int") false) rfl)) (ins_ok (c.fact 82 (f := .ins "Series") rfl)) (.o (kit_ok (c.fact 98 (f := .kit (.o 1) (.b "str") false) rfl)) (ins_ok (c.fact 82 (f := .ins "Series") rfl)) (.o (kit_ok (c.fact 99 (f := .kit (.o 1) (.b "tuple") false) rfl)) (ins_ok (c.fact 82 (f := .ins "Series") rfl)) (.o (kit_ok (c.fact 100 (f := .kit (.o 1) (.b "list") false) rfl)) (ins_ok (c.fact 82 (f := .ins "Series") rfl)) (.o (kit_ok (c.fact 101 (f := .kit (.o 1) (.o 0) false) rfl)) (ins_ok (c.fact 82 (f := .ins "Series") rfl)) (.o (kit_ok (c.fact 102 (f := .kit (.o 2) (.b "bool") false) rfl)) (ins_ok (c.fact 83 (f := .ins "Totals") rfl)) (.o (kit_ok (c.fact 103 (f := .kit (.o 2) (.b "int") false) rfl)) (ins_ok (c.fact 83 (f := .ins "Totals") rfl)) (.o (kit_ok (c.fact 104 (f := .kit (.o 2) (.b "str") false) rfl)) (ins_ok (c.fact 83 (f := .ins "Totals") rfl)) (.o (kit_ok (c.fact 105 (f := .kit (.o 2) (.b "tuple") false) rfl)) (ins_ok (c.fact 83 (f := .ins "Totals") rfl)) (.o (kit_ok (c.fact 106 (f := .kit (.o 2) (.b "list") false) rfl)) (ins_ok (c.fact 83 (f := .ins "Totals") rfl)) (.o (kit_ok (c.fact 107 (f := .kit (.o 2) (.o 0) false) rfl)) (ins_ok (c.fact 83 (f := .ins "Totals") rfl)) .nil))))))))))))))))))))))))
theorem ko_FILLINGS (c : Says K) (Y : K.In base) (G : base.Ns mainGlobals mg) {X : Cx} (hK : X.K = K) (hm : X.mg = mg) : KonF X (T K) "FILLINGS" (.tup kon_FILLINGS) := by
  subst hK hm
  exact ⟨_, .ref (He.ga X.K "FILLINGS"), He.glo_ok Y G (c.fact 73 (f := .he (.glo "FILLINGS")) rfl), rfl, .tup (tupA_ok (c.fact 74 (f := .tup (fun K => He.ga K "FILLINGS") [.str "raw", .str "zero", .str "held"]) rfl) _) (.cons (.str _) (.cons (.str _) (.cons (.str _) .nil)))⟩
theorem cc_Term_MOST (c : Says K) {X : Cx} (hK : X.K = K) : CconF X (T K) 0 "MOST" (.int 1000000) := by
  subst hK
  exact cconI_of (raw_ok (c.fact 76 (f := .raw (fun K => cconI K (He.ga K "Term") "MOST" 1000000)) rfl))
theorem nsq___getitem____Series (c : Says K) {X : Cx} (hK : X.K = K) : NsqF X.K (T K) mt___getitem____Series := by
  subst hK
  exact ⟨lk_all (Q := fun c _ => PySem.W.noSeq X.K ((T X.K).cad c) = true) (.cons (raw_ok (c.fact 75 (f := .raw (fun K => nsqX K (He.ga K "Series"))) rfl)) .nil)⟩
theorem eq___eq____Term (c : Says K) {X : Cx} (hK : X.K = K) : EqF X.K (T K) mt___eq____Term := by
  subst hK
  exact ⟨lk_all (.cons (eqX_ok (raw_ok (c.fact 77 (f := .raw (fun K => eqX K (He.ga K "Term"))) rfl))) .nil)⟩
theorem xc_BadTerm (c : Says K) : Pk.ExC P K (T K) 3 (Ok_BadTerm K) := exC_mk (c.fact 72 (f := .own "BadTerm" (PySem.Str.ofString "/claim/cut.py") []) rfl) rfl rfl (c.wrote 0 (d := d_BadTerm____init__) rfl) rfl rfl bd_BadTerm xs_BadTerm rfl rfl (by decide +kernel) hp_.f hp_.t
/-! ### each def does what its mirror says -/
theorem does__law_source (c : Says K) (Y : K.In base) (G : base.Ns mainGlobals mg) : Does P w K mg base (T K) 0 N__law_source "_law_source" (defScope s__law_source) (defBody s__law_source) m__law_source := by
  intro f cdv A outer s H E C
  exact (ss_cons (s_putV C 2 (s_if (st_cmp cmp_lt (sv_var 1) (sv_len (so_var 0) (fr_len c Y G))) (sv_idxV 0 (sv_var 1)) sv_int))
    (ss_cons (s_putV C 3 (s_if (st_cmp cmp_ge (sv_abs (sv_var 2) (fr_abs c Y G)) (sv_pow sv_int sv_int)) (sv_abs (sv_var 2) (fr_abs c Y G)) sv_int))
    (ss_one (s_ret (se_lst (sa_cons (sv_var 3) (sa_cons (sv_of (se_add (sv_of (se_add (sv_mod (sv_intf (sv_var 2) (fr_int c Y G)) sv_int) (sv_mul sv_int (sv_var 1)))) sv_int)) (sa_cons sv_int sa_nil))))))))
theorem ok__law_source (c : Says K) (Y : K.In base) (G : base.Ns mainGlobals mg) : ∃ fd : FuncData, FnP P w K mg base (T K) 1 (d__law_source.adr K) fd P__law_source f__law_source ∧ Bn K (T K) fd P__law_source 2 [] (gPos []) := by
  obtain ⟨fd, F⟩ := c.def_ 1 (d := d__law_source) rfl
  exact ⟨fd, ⟨fn_sim F sc__law_source (does__law_source c Y G), F.kp⟩, (bn_all (FunD.bindsN F fun _ _ _ _ _ _ us hl => match us, hl with | [_, _], _ => (by kernel_rfl)))⟩
theorem does__law_draw (c : Says K) (Y : K.In base) (G : base.Ns mainGlobals mg) : Does P w K mg base (T K) 0 N__law_draw "_law_draw" (defScope s__law_draw) (defBody s__law_draw) m__law_draw := by
  intro f cdv A outer s H E C
  exact (ss_cons (s_ifS (st_cmp cmp_gt (sv_idxV 0 sv_int) sv_int)
    (ss_cons (s_putV C 2 (sv_mod (sv_intf (sv_idxV 0 sv_int) (fr_int c Y G)) (sv_var 1)))
    (ss_cons (s_setS 0 (sv_div (sv_idxV 0 sv_int) (sv_var 1)) sv_int)
    (ss_one (s_ret (se_move 2)))))
    ss_nil)
    (ss_cons (s_setS 0 (sv_of (se_add (sv_idxV 0 sv_int) sv_int)) sv_int)
    (ss_cons (s_putV C 3 (sv_mod (sv_intf (sv_pow (sv_of (se_add (sv_idxV 0 sv_int) (sv_mul sv_int (sv_idxV 0 sv_int)))) sv_int) (fr_int c Y G)) sv_int))
    (ss_cons (s_putV C 3 (sv_mod (sv_intf (sv_pow (sv_of (se_add (sv_var 3) (sv_mul sv_int (sv_idxV 0 sv_int)))) sv_int) (fr_int c Y G)) sv_int))
    (ss_one (s_ret (se_of (sv_mod (sv_intf (sv_div (sv_var 3) sv_int) (fr_int c Y G)) (sv_var 1)))))))))
theorem ok__law_draw (c : Says K) (Y : K.In base) (G : base.Ns mainGlobals mg) : ∃ fd : FuncData, FnP P w K mg base (T K) 1 (d__law_draw.adr K) fd P__law_draw f__law_draw ∧ Bn K (T K) fd P__law_draw 2 [] (gPos []) := by
  obtain ⟨fd, F⟩ := c.def_ 2 (d := d__law_draw) rfl
  exact ⟨fd, ⟨fn_sim F sc__law_draw (does__law_draw c Y G), F.kp⟩, (bn_all (FunD.bindsN F fun _ _ _ _ _ _ us hl => match us, hl with | [_, _], _ => (by kernel_rfl)))⟩
theorem does__law_of (c : Says K) (Y : K.In base) (G : base.Ns mainGlobals mg) : Does P w K mg base (T K) 1 N__law_of "_law_of" (defScope s__law_of) (defBody s__law_of) m__law_of := by
  obtain ⟨fd__law_draw, F__law_draw, B__law_draw_0⟩ := ok__law_draw (P := P) (w := w) c Y G
  intro f cdv A outer s H E C
  exact (ss_one (s_ret (se_of (sv_idxV 1 (sv_of (se_call C F__law_draw (by decide) B__law_draw_0 (gl__law_draw c Y G) (sa_cons (sv_var 0) (sa_cons (sv_len (so_var 1) (fr_len c Y G)) sa_nil))))))))
theorem ok__law_of (c : Says K) (Y : K.In base) (G : base.Ns mainGlobals mg) : ∃ fd : FuncData, FnP P w K mg base (T K) 2 (d__law_of.adr K) fd P__law_of f__law_of ∧ Bn K (T K) fd P__law_of 2 [] (gPos []) := by
  obtain ⟨fd, F⟩ := c.def_ 3 (d := d__law_of) rfl
  exact ⟨fd, ⟨fn_sim F sc__law_of (does__law_of c Y G), F.kp⟩, (bn_all (FunD.bindsN F fun _ _ _ _ _ _ us hl => match us, hl with | [_, _], _ => (by kernel_rfl)))⟩
theorem does__law_leaf (c : Says K) (Y : K.In base) (G : base.Ns mainGlobals mg) : Does P w K mg base (T K) 2 N__law_leaf "_law_leaf" (defScope s__law_leaf) (defBody s__law_leaf) m__law_leaf := by
  obtain ⟨fd__law_draw, F__law_draw, B__law_draw_0⟩ := ok__law_draw (P := P) (w := w) c Y G
  obtain ⟨fd__law_of, F__law_of, B__law_of_0⟩ := ok__law_of (P := P) (w := w) c Y G
  intro f cdv A outer s H E C
  exact (ss_cons (s_put C 2 (s_if (st_cmp (cmp_eq C) (sv_of (se_call C F__law_draw (by decide) B__law_draw_0 (gl__law_draw c Y G) (sa_cons (sv_var 0) (sa_cons sv_int sa_nil)))) (so_of sv_int)) (se_call C F__law_draw (by decide) B__law_draw_0 (gl__law_draw c Y G) (sa_cons (sv_var 0) (sa_cons (sv_var 1) sa_nil))) (se_of sv_int)))
    (ss_cons (s_put C 3 (s_if (st_cmp (cmp_eq C) (sv_of (se_call C F__law_draw (by decide) B__law_draw_0 (gl__law_draw c Y G) (sa_cons (sv_var 0) (sa_cons sv_int sa_nil)))) (so_of sv_int)) (se_add (sv_of (se_add (sv_var 2) sv_int)) (sv_of (se_call C F__law_draw (by decide) B__law_draw_0 (gl__law_draw c Y G) (sa_cons (sv_var 0) (sa_cons (sv_sub (sv_var 1) (sv_var 2)) sa_nil))))) (se_of (sv_var 1))))
    (ss_cons (s_put C 4 (se_call C F__law_draw (by decide) B__law_draw_0 (gl__law_draw c Y G) (sa_cons (sv_var 0) (sa_cons sv_int sa_nil))))
    (ss_cons (s_ifS (st_cmp (cmp_eq C) (sv_var 4) (so_of sv_int))
    (ss_one (s_ret (se_of (sv_tup (sa_cons sv_str (sa_cons (sv_var 2) (sa_cons (sv_var 3) sa_nil)))))))
    ss_nil)
    (ss_cons (s_ifS (st_cmp cmp_lt (sv_var 4) sv_int)
    (ss_cons (s_put C 5 (se_call C F__law_of (by decide) B__law_of_0 (gl__law_of c Y G) (sa_cons (sv_var 0) (sa_cons (sv_of (se_lst (sa_cons sv_str (sa_cons sv_str (sa_cons sv_str (sa_cons sv_str (sa_cons sv_str sa_nil))))))) sa_nil))))
    (ss_one (s_ret (se_of (sv_tup (sa_cons sv_str (sa_cons (sv_var 5) (sa_cons (sv_of (se_call C F__law_of (by decide) B__law_of_0 (gl__law_of c Y G) (sa_cons (sv_var 0) (sa_cons (sv_of (se_lst (sa_cons sv_str (sa_cons sv_str sa_nil)))) sa_nil)))) (sa_cons (sv_var 2) (sa_cons (sv_var 3) sa_nil))))))))))
    ss_nil)
    (ss_cons (s_put C 5 (se_call C F__law_of (by decide) B__law_of_0 (gl__law_of c Y G) (sa_cons (sv_var 0) (sa_cons (sv_of (se_lst (sa_cons sv_str (sa_cons sv_str (sa_cons sv_str (sa_cons sv_str (sa_cons sv_str (sa_cons sv_str (sa_cons sv_str (sa_cons sv_str sa_nil)))))))))) sa_nil))))
    (ss_one (s_ret (se_of (sv_tup (sa_cons sv_str (sa_cons (sv_var 5) (sa_cons (sv_of (s_if (st_cmp (cmp_eq C) (sv_var 5) (so_of sv_str)) (se_of sv_str) (se_call C F__law_of (by decide) B__law_of_0 (gl__law_of c Y G) (sa_cons (sv_var 0) (sa_cons (sv_of (se_lst (sa_cons sv_str (sa_cons sv_str (sa_cons sv_str sa_nil))))) sa_nil))))) (sa_cons (sv_var 2) (sa_cons (sv_var 3) sa_nil)))))))))))))))
theorem ok__law_leaf (c : Says K) (Y : K.In base) (G : base.Ns mainGlobals mg) : ∃ fd : FuncData, FnP P w K mg base (T K) 3 (d__law_leaf.adr K) fd P__law_leaf f__law_leaf ∧ Bn K (T K) fd P__law_leaf 2 [] (gPos []) := by
  obtain ⟨fd, F⟩ := c.def_ 4 (d := d__law_leaf) rfl
  exact ⟨fd, ⟨fn_sim F sc__law_leaf (does__law_leaf c Y G), F.kp⟩, (bn_all (FunD.bindsN F fun _ _ _ _ _ _ us hl => match us, hl with | [_, _], _ => (by kernel_rfl)))⟩
theorem does__law_tree (c : Says K) (Y : K.In base) (G : base.Ns mainGlobals mg) {j : Nat} {R : Fn} {fdR : FuncData} (F__law_tree : FnP P w K mg base (T K) (4 + j) (d__law_tree.adr K) fdR P__law_tree R) (B__law_tree_0 : Bn K (T K) fdR P__law_tree 3 [] (gPos [])) : Does P w K mg base (T K) (4 + j) N__law_tree "_law_tree" (defScope s__law_tree) (defBody s__law_tree) (m__law_tree R) := by
  obtain ⟨fd__law_draw, F__law_draw, B__law_draw_0⟩ := ok__law_draw (P := P) (w := w) c Y G
  obtain ⟨fd__law_leaf, F__law_leaf, B__law_leaf_0⟩ := ok__law_leaf (P := P) (w := w) c Y G
  obtain ⟨fd__law_of, F__law_of, B__law_of_0⟩ := ok__law_of (P := P) (w := w) c Y G
  intro f cdv A outer s H E C
  exact (ss_cons (s_put C 3 (s_if (st_cmp cmp_gt (sv_var 2) sv_int) (se_call C F__law_draw (by omega) B__law_draw_0 (gl__law_draw c Y G) (sa_cons (sv_var 0) (sa_cons sv_int sa_nil))) (se_of sv_int)))
    (ss_cons (s_ifS (st_cmp cmp_lt (sv_var 3) sv_int)
    (ss_one (s_ret (se_call C F__law_leaf (by omega) B__law_leaf_0 (gl__law_leaf c Y G) (sa_cons (sv_var 0) (sa_cons (sv_var 1) sa_nil)))))
    ss_nil)
    (ss_cons (s_ifS (st_cmp (cmp_eq C) (sv_var 3) (so_of sv_int))
    (ss_one (s_ret (se_of (sv_tup (sa_cons sv_str (sa_cons (sv_of (se_call C F__law_of (by omega) B__law_of_0 (gl__law_of c Y G) (sa_cons (sv_var 0) (sa_cons (sv_of (se_lst (sa_cons (sv_neg sv_int) (sa_cons (sv_neg sv_int) (sa_cons sv_int (sa_cons sv_int (sa_cons (sv_neg sv_int) (sa_cons sv_int (sa_cons sv_int (sa_cons (sv_neg sv_int) (sa_cons sv_int sa_nil))))))))))) sa_nil)))) (sa_cons (sv_of (se_call C F__law_tree (by omega) B__law_tree_0 (gl__law_tree c Y G) (sa_cons (sv_var 0) (sa_cons (sv_var 1) (sa_cons (sv_sub (sv_var 2) sv_int) sa_nil))))) sa_nil)))))))
    ss_nil)
    (ss_cons (s_ifS (st_cmp (cmp_eq C) (sv_var 3) (so_of sv_int))
    (ss_one (s_ret (se_of (sv_tup (sa_cons sv_str (sa_cons (sv_of (se_call C F__law_tree (by omega) B__law_tree_0 (gl__law_tree c Y G) (sa_cons (sv_var 0) (sa_cons (sv_var 1) (sa_cons (sv_sub (sv_var 2) sv_int) sa_nil))))) sa_nil))))))
    ss_nil)
    (ss_cons (s_put C 4 (se_call C F__law_tree (by omega) B__law_tree_0 (gl__law_tree c Y G) (sa_cons (sv_var 0) (sa_cons (sv_var 1) (sa_cons (sv_sub (sv_var 2) sv_int) sa_nil)))))
    (ss_one (s_ret (se_of (sv_tup (sa_cons (sv_idx (sv_of (se_lst (sa_cons sv_str (sa_cons sv_str (sa_cons sv_str (sa_cons sv_str sa_nil)))))) (sv_sub (sv_var 3) sv_int)) (sa_cons (sv_var 4) (sa_cons (sv_of (se_call C F__law_tree (by omega) B__law_tree_0 (gl__law_tree c Y G) (sa_cons (sv_var 0) (sa_cons (sv_var 1) (sa_cons (sv_sub (sv_var 2) sv_int) sa_nil))))) sa_nil))))))))))))
theorem ok__law_tree (c : Says K) (Y : K.In base) (G : base.Ns mainGlobals mg) : ∃ fd : FuncData, FnP P w K mg base (T K) 9 (d__law_tree.adr K) fd P__law_tree f__law_tree ∧ Bn K (T K) fd P__law_tree 3 [] (gPos []) := by
  obtain ⟨fd, F⟩ := c.def_ 5 (d := d__law_tree) rfl
  have B : Bn K (T K) fd P__law_tree 3 [] (gPos []) := (bn_all (FunD.bindsN F fun _ _ _ _ _ _ us hl => match us, hl with | [_, _, _], _ => (by kernel_rfl)))
  have key : ∀ j, FnP P w K mg base (T K) (4 + j) (d__law_tree.adr K) fd P__law_tree (fr__law_tree j) := by
    intro j
    induction j with
    | zero => exact ⟨fn_sim (k := 3) F sc__law_tree (m := fun _ _ => .err) (fun f cdv A outer s H E C B w σ H2 fr h D R p => p.elim), F.kp⟩
    | succ j ih => exact ⟨fn_sim F sc__law_tree (does__law_tree c Y G ih B), F.kp⟩
  exact ⟨fd, key 5, B⟩
theorem does_Term____init__ (c : Says K) (Y : K.In base) (G : base.Ns mainGlobals mg) : Does P w K mg base (T K) 0 N_Term____init__ "Term.__init__" (defScope s_Term____init__) (defBody s_Term____init__) m_Term____init__ := by
  intro f cdv A outer s H E C
  exact (ss_cons (s_putFld 0 (fd_readings c rfl) (sv_var 1))
    (ss_one (s_putFld 0 (fd_node c rfl) (sv_var 2))))
theorem ok_Term____init__ (c : Says K) (Y : K.In base) (G : base.Ns mainGlobals mg) : ∃ fd : FuncData, FnI P w K mg base (T K) 1 0 (d_Term____init__.adr K) fd P_Term____init__ f_Term____init__ ∧ BnI K (T K) fd P_Term____init__ 2 [] (gPos []) := by
  obtain ⟨fd, F⟩ := c.def_ 6 (d := d_Term____init__) rfl
  exact ⟨fd, ⟨fn_simI 0 F sc_Term____init__ (does_Term____init__ c Y G), He.mkr_ok (c.fact 78 (f := .he (.mkr "Term")) rfl)⟩, (bnI_all 2 (FunD.bindsN F fun _ _ _ _ _ _ us hl => match us, hl with | [_, _, _], _ => (by kernel_rfl)) rfl)⟩
theorem does_Term____abs__ (c : Says K) (Y : K.In base) (G : base.Ns mainGlobals mg) : Does P w K mg base (T K) 2 N_Term____abs__ "Term.__abs__" (defScope s_Term____abs__) (defBody s_Term____abs__) m_Term____abs__ := by
  obtain ⟨fd_Term____init__, F_Term____init__, B_Term____init___0⟩ := ok_Term____init__ (P := P) (w := w) c Y G
  intro f cdv A outer s H E C
  exact (ss_one (s_ret (se_make C F_Term____init__ (by decide) B_Term____init___0 (gl_Term c Y G) (sa_cons (sv_fld (fd_readings c rfl) (so_var 0)) (sa_cons (sv_tup (sa_cons sv_str (sa_cons (sv_fld (fd_node c rfl) (so_var 0)) sa_nil))) sa_nil)))))
theorem ok_Term____abs__ (c : Says K) (Y : K.In base) (G : base.Ns mainGlobals mg) : ∃ fd : FuncData, FnP P w K mg base (T K) 3 (d_Term____abs__.adr K) fd P_Term____abs__ f_Term____abs__ ∧ Bn K (T K) fd P_Term____abs__ 1 [] (gPos []) := by
  obtain ⟨fd, F⟩ := c.def_ 7 (d := d_Term____abs__) rfl
  exact ⟨fd, ⟨fn_sim F sc_Term____abs__ (does_Term____abs__ c Y G), F.kp⟩, (bn_all (FunD.bindsN F fun _ _ _ _ _ _ us hl => match us, hl with | [_], _ => (by kernel_rfl)))⟩
theorem does_picked (c : Says K) (Y : K.In base) (G : base.Ns mainGlobals mg) : Does P w K mg base (T K) 0 N_picked "picked" (defScope s_picked) (defBody s_picked) m_picked := by
  intro f cdv A outer s H E C
  exact (ss_cons (s_put C 3 (se_lstR2 C (sv_var 0) (sv_var 1) (fr_list c Y G) (fr_range c Y G)))
    (ss_cons (s_ifS (st_tru (so_of (sv_isiS (isi_ok c) (sv_var 2) (sv_ty (t := "int") (fr_int c Y G)) (fr_isinstance c Y G))))
    (ss_cons (s_ifS (st_not (st_chain cmp_le cmp_lt (sv_neg (sv_len (so_var 3) (fr_len c Y G))) (sv_var 2) (sv_len (so_var 3) (fr_len c Y G))))
    (ss_one (s_raise0 C (xc_BadTerm (P := P) c) rfl (fun _ => trivial) (fr_super c Y G) (gl_BadTerm c Y G)))
    ss_nil)
    (ss_one (s_ret (se_of (sv_tup (sa_cons (sv_of (se_idxS 3 (sv_var 2))) (sa_cons (sv_of (se_add (sv_of (se_idxS 3 (sv_var 2))) sv_int)) sa_nil)))))))
    ss_nil)
    (ss_cons (s_put C 4 (se_idxS 3 (sv_var 2)))
    (ss_cons (s_ifS (st_cmp (cmp_eq C) (sv_var 4) (so_ofE (se_lst sa_nil)))
    (ss_one (s_raise0 C (xc_BadTerm (P := P) c) rfl (fun _ => trivial) (fr_super c Y G) (gl_BadTerm c Y G)))
    ss_nil)
    (ss_one (s_ret (se_of (sv_tup (sa_cons (sv_idxV 4 sv_int) (sa_cons (sv_of (se_add (sv_idxV 4 (sv_neg sv_int)) sv_int)) sa_nil))))))))))
theorem ok_picked (c : Says K) (Y : K.In base) (G : base.Ns mainGlobals mg) : ∃ fd : FuncData, FnP P w K mg base (T K) 1 (d_picked.adr K) fd P_picked f_picked ∧ Bn K (T K) fd P_picked 3 [] (gPos []) := by
  obtain ⟨fd, F⟩ := c.def_ 8 (d := d_picked) rfl
  exact ⟨fd, ⟨fn_sim F sc_picked (does_picked c Y G), F.kp⟩, (bn_all (FunD.bindsN F fun _ _ _ _ _ _ us hl => match us, hl with | [_, _, _], _ => (by kernel_rfl)))⟩
theorem does_Series____init__ (c : Says K) (Y : K.In base) (G : base.Ns mainGlobals mg) : Does P w K mg base (T K) 0 N_Series____init__ "Series.__init__" (defScope s_Series____init__) (defBody s_Series____init__) m_Series____init__ := by
  intro f cdv A outer s H E C
  exact (ss_cons (s_ifS (st_ww (sw_or (st_not (st_tru (so_of (sv_isi (isi_ok c) (sv_var 2) (sv_ty (t := "str") (fr_str c Y G)) (fr_isinstance c Y G))))) (sw_or1 (st_cmp (cmp_nin) (sv_var 2) (so_of (sv_kon (ko_FILLINGS c Y G rfl rfl)))))))
    (ss_one (s_raise0 C (xc_BadTerm (P := P) c) rfl (fun _ => trivial) (fr_super c Y G) (gl_BadTerm c Y G)))
    ss_nil)
    (ss_cons (s_putFld 0 (fd_readings c rfl) (sv_var 1))
    (ss_cons (s_putFld 0 (fd_filling c rfl) (sv_var 2))
    (ss_cons (s_putFld 0 (fd_start c rfl) (sv_var 3))
    (ss_one (s_putFld 0 (fd_stop c rfl) (s_if (st_cmp cmp_is (sv_var 4) sv_non) (sv_var 1) (sv_var 4))))))))
theorem ok_Series____init__ (c : Says K) (Y : K.In base) (G : base.Ns mainGlobals mg) : ∃ fd : FuncData, FnI P w K mg base (T K) 1 1 (d_Series____init__.adr K) fd P_Series____init__ f_Series____init__ ∧ BnI K (T K) fd P_Series____init__ 1 ["filling", "start", "stop"] (gKwD [0, 1, 2] []) ∧ BnI K (T K) fd P_Series____init__ 1 [] (gKwD [0, 1, 2] [.str "raw", .int 0, .non]) ∧ BnI K (T K) fd P_Series____init__ 1 ["filling"] (gKwD [0, 1, 2] [.int 0, .non]) := by
  obtain ⟨fd, F⟩ := c.def_ 9 (d := d_Series____init__) rfl
  obtain ⟨mv0, kb0⟩ := FunD.kbinds0 F (ps := P_Series____init__) 2 ["filling", "start", "stop"] [] (fun us mv ws => gKw [0, 1, 2] us mv ws) (by exact List.cons_ne_nil _ _) (kw_mem [] rfl) (fun r1 r2 r3 => r1.append (pick_vals _ (r3.append r2))) (by
    intro D doc pm an cdv ct us mv ws l1 l2 l3
    match us, mv, ws, l1, l2, l3 with
    | [u0, u1], [], [w0, w1, w2], _, _, _ => (show bindArgs _ _ = pure _; kernel_rfl))
  obtain ⟨mv1, kb1⟩ := FunD.kbinds0 F (ps := P_Series____init__) 2 [] [("filling", He.Dv.v K (.str "raw")), ("start", He.Dv.v K (.int 0)), ("stop", He.Dv.v K (.non))] (fun us mv ws => gKw [0, 1, 2] us mv ws) (by exact List.cons_ne_nil _ _) (kw_mem [0, 1, 2] rfl) (fun r1 r2 r3 => r1.append (pick_vals _ (r3.append r2))) (by
    intro D doc pm an cdv ct us mv ws l1 l2 l3
    match us, mv, ws, l1, l2, l3 with
    | [u0, u1], [v0, v1, v2], [], _, _, _ => exact ⟨_, _, _, _, _, _, rfl, rfl, ⟨_, _, _, _, _, _, rfl, rfl, ⟨_, _, _, _, _, _, rfl, rfl, rfl⟩⟩⟩)
  obtain ⟨mv2, kb2⟩ := FunD.kbinds0 F (ps := P_Series____init__) 2 ["filling"] [("start", He.Dv.v K (.int 0)), ("stop", He.Dv.v K (.non))] (fun us mv ws => gKw [0, 1, 2] us mv ws) (by exact List.cons_ne_nil _ _) (kw_mem [1, 2] rfl) (fun r1 r2 r3 => r1.append (pick_vals _ (r3.append r2))) (by
    intro D doc pm an cdv ct us mv ws l1 l2 l3
    match us, mv, ws, l1, l2, l3 with
    | [u0, u1], [v0, v1], [w0], _, _, _ => exact ⟨_, _, _, _, _, _, rfl, rfl, ⟨_, _, _, _, _, _, rfl, rfl, rfl⟩⟩)
  exact ⟨fd, ⟨fn_simI 1 F sc_Series____init__ (does_Series____init__ c Y G), He.mkr_ok (c.fact 79 (f := .he (.mkr "Series")) rfl)⟩, ⟨_, _, fun vs zs => gKw [0, 1, 2] vs (([] : List (Str × V)).map (·.2)) zs, kb0, fun _ _ _ _ _ => rfl, gkw_rel [0, 1, 2] (fun _ => .nil) (by decide) (by decide)⟩, ⟨_, _, fun vs zs => gKw [0, 1, 2] vs (([("filling", He.Dv.v K (.str "raw")), ("start", He.Dv.v K (.int 0)), ("stop", He.Dv.v K (.non))] : List (Str × V)).map (·.2)) zs, kb1, fun _ _ _ _ _ => rfl, gkw_rel [0, 1, 2] (fun _ => (.cons (.str _) (.cons (.int _) (.cons .non .nil)))) (by decide) (by decide)⟩, ⟨_, _, fun vs zs => gKw [0, 1, 2] vs (([("start", He.Dv.v K (.int 0)), ("stop", He.Dv.v K (.non))] : List (Str × V)).map (·.2)) zs, kb2, fun _ _ _ _ _ => rfl, gkw_rel [0, 1, 2] (fun _ => (.cons (.int _) (.cons .non .nil))) (by decide) (by decide)⟩⟩
theorem does_Series____getitem__ (c : Says K) (Y : K.In base) (G : base.Ns mainGlobals mg) : Does P w K mg base (T K) 2 N_Series____getitem__ "Series.__getitem__" (defScope s_Series____getitem__) (defBody s_Series____getitem__) m_Series____getitem__ := by
  obtain ⟨fd_Series____init__, F_Series____init__, B_Series____init___0, B_Series____init___1, B_Series____init___2⟩ := ok_Series____init__ (P := P) (w := w) c Y G
  obtain ⟨fd_picked, F_picked, B_picked_0⟩ := ok_picked (P := P) (w := w) c Y G
  intro f cdv A outer s H E C
  exact (ss_cons (s_asg (sv_of (se_call C F_picked (by decide) B_picked_0 (gl_picked c Y G) (sa_cons (sv_fld (fd_start c rfl) (so_var 0)) (sa_cons (sv_fld (fd_stop c rfl) (so_var 0)) (sa_cons (sv_var 1) sa_nil))))) (sg_tup C (sgs_cons (sg_name C 2) (sgs_cons (sg_name C 3) sgs_nil))))
    (ss_one (s_ret (se_makeK C F_Series____init__ (by decide) B_Series____init___0 (gl_Series c Y G) (sa_cons (sv_fld (fd_readings c rfl) (so_var 0)) sa_nil) (sk_cons (sv_fld (fd_filling c rfl) (so_var 0)) (sk_cons (sv_var 2) (sk_cons (sv_var 3) sk_nil)))))))
theorem ok_Series____getitem__ (c : Says K) (Y : K.In base) (G : base.Ns mainGlobals mg) : ∃ fd : FuncData, FnP P w K mg base (T K) 3 (d_Series____getitem__.adr K) fd P_Series____getitem__ f_Series____getitem__ ∧ Bn K (T K) fd P_Series____getitem__ 2 [] (gPos []) := by
  obtain ⟨fd, F⟩ := c.def_ 10 (d := d_Series____getitem__) rfl
  exact ⟨fd, ⟨fn_sim F sc_Series____getitem__ (does_Series____getitem__ c Y G), F.kp⟩, (bn_all (FunD.bindsN F fun _ _ _ _ _ _ us hl => match us, hl with | [_, _], _ => (by kernel_rfl)))⟩
theorem does_Totals____init__ (c : Says K) (Y : K.In base) (G : base.Ns mainGlobals mg) : Does P w K mg base (T K) 0 N_Totals____init__ "Totals.__init__" (defScope s_Totals____init__) (defBody s_Totals____init__) m_Totals____init__ := by
  intro f cdv A outer s H E C
  exact (ss_cons (s_ifS (st_ww (sw_or (st_not (st_tru (so_of (sv_isi (isi_ok c) (sv_var 2) (sv_ty (t := "str") (fr_str c Y G)) (fr_isinstance c Y G))))) (sw_or1 (st_cmp (cmp_nin) (sv_var 2) (so_ofE (se_cut (sv_kon (ko_FILLINGS c Y G rfl rfl)) (sp_some sv_int) sp_none))))))
    (ss_one (s_raise0 C (xc_BadTerm (P := P) c) rfl (fun _ => trivial) (fr_super c Y G) (gl_BadTerm c Y G)))
    ss_nil)
    (ss_cons (s_putFld 0 (fd_readings c rfl) (sv_var 1))
    (ss_cons (s_putFld 0 (fd_filling c rfl) (sv_var 2))
    (ss_cons (s_putFld 0 (fd_start c rfl) (sv_var 3))
    (ss_one (s_putFld 0 (fd_stop c rfl) (s_if (st_cmp cmp_is (sv_var 4) sv_non) (sv_var 1) (sv_var 4))))))))
theorem ok_Totals____init__ (c : Says K) (Y : K.In base) (G : base.Ns mainGlobals mg) : ∃ fd : FuncData, FnI P w K mg base (T K) 1 2 (d_Totals____init__.adr K) fd P_Totals____init__ f_Totals____init__ ∧ BnI K (T K) fd P_Totals____init__ 1 ["filling", "start", "stop"] (gKwD [0, 1, 2] []) := by
  obtain ⟨fd, F⟩ := c.def_ 11 (d := d_Totals____init__) rfl
  obtain ⟨mv0, kb0⟩ := FunD.kbinds0 F (ps := P_Totals____init__) 2 ["filling", "start", "stop"] [] (fun us mv ws => gKw [0, 1, 2] us mv ws) (by exact List.cons_ne_nil _ _) (kw_mem [] rfl) (fun r1 r2 r3 => r1.append (pick_vals _ (r3.append r2))) (by
    intro D doc pm an cdv ct us mv ws l1 l2 l3
    match us, mv, ws, l1, l2, l3 with
    | [u0, u1], [], [w0, w1, w2], _, _, _ => (show bindArgs _ _ = pure _; kernel_rfl))
  exact ⟨fd, ⟨fn_simI 2 F sc_Totals____init__ (does_Totals____init__ c Y G), He.mkr_ok (c.fact 80 (f := .he (.mkr "Totals")) rfl)⟩, ⟨_, _, fun vs zs => gKw [0, 1, 2] vs (([] : List (Str × V)).map (·.2)) zs, kb0, fun _ _ _ _ _ => rfl, gkw_rel [0, 1, 2] (fun _ => .nil) (by decide) (by decide)⟩⟩
theorem does_Series__total (c : Says K) (Y : K.In base) (G : base.Ns mainGlobals mg) : Does P w K mg base (T K) 2 N_Series__total "Series.total" (defScope s_Series__total) (defBody s_Series__total) m_Series__total := by
  obtain ⟨fd_Totals____init__, F_Totals____init__, B_Totals____init___0⟩ := ok_Totals____init__ (P := P) (w := w) c Y G
  intro f cdv A outer s H E C
  exact (ss_cons (s_putV C 1 (s_if (st_cmp (cmp_eq C) (sv_fld (fd_filling c rfl) (so_var 0)) (so_of sv_str)) sv_str sv_str))
    (ss_one (s_ret (se_makeK C F_Totals____init__ (by decide) B_Totals____init___0 (gl_Totals c Y G) (sa_cons (sv_fld (fd_readings c rfl) (so_var 0)) sa_nil) (sk_cons (sv_var 1) (sk_cons (sv_fld (fd_start c rfl) (so_var 0)) (sk_cons (sv_fld (fd_stop c rfl) (so_var 0)) sk_nil)))))))
theorem ok_Series__total (c : Says K) (Y : K.In base) (G : base.Ns mainGlobals mg) : ∃ fd : FuncData, FnP P w K mg base (T K) 3 (d_Series__total.adr K) fd P_Series__total f_Series__total ∧ Binds K fd P_Series__total [] := by
  obtain ⟨fd, F⟩ := c.def_ 12 (d := d_Series__total) rfl
  exact ⟨fd, ⟨fn_sim F sc_Series__total (does_Series__total c Y G), F.kp⟩, (FunD.bindsN F fun _ _ _ _ _ _ us hl => match us, hl with | [_], _ => (by kernel_rfl))⟩
theorem does_Series__true_events (c : Says K) (Y : K.In base) (G : base.Ns mainGlobals mg) : Does P w K mg base (T K) 2 N_Series__true_events "Series.true_events" (defScope s_Series__true_events) (defBody s_Series__true_events) m_Series__true_events := by
  obtain ⟨fd_Term____init__, F_Term____init__, B_Term____init___0⟩ := ok_Term____init__ (P := P) (w := w) c Y G
  intro f cdv A outer s H E C
  exact (ss_one (s_ret (se_make C F_Term____init__ (by decide) B_Term____init___0 (gl_Term c Y G) (sa_cons (sv_fld (fd_readings c rfl) (so_var 0)) (sa_cons (sv_tup (sa_cons sv_str (sa_cons (sv_fld (fd_start c rfl) (so_var 0)) (sa_cons (sv_fld (fd_stop c rfl) (so_var 0)) sa_nil)))) sa_nil)))))
theorem ok_Series__true_events (c : Says K) (Y : K.In base) (G : base.Ns mainGlobals mg) : ∃ fd : FuncData, FnP P w K mg base (T K) 3 (d_Series__true_events.adr K) fd P_Series__true_events f_Series__true_events ∧ Bn K (T K) fd P_Series__true_events 1 [] (gPos []) := by
  obtain ⟨fd, F⟩ := c.def_ 13 (d := d_Series__true_events) rfl
  exact ⟨fd, ⟨fn_sim F sc_Series__true_events (does_Series__true_events c Y G), F.kp⟩, (bn_all (FunD.bindsN F fun _ _ _ _ _ _ us hl => match us, hl with | [_], _ => (by kernel_rfl)))⟩
theorem does_Series__leaf (c : Says K) (Y : K.In base) (G : base.Ns mainGlobals mg) : Does P w K mg base (T K) 2 N_Series__leaf "Series.leaf" (defScope s_Series__leaf) (defBody s_Series__leaf) m_Series__leaf := by
  obtain ⟨fd_Term____init__, F_Term____init__, B_Term____init___0⟩ := ok_Term____init__ (P := P) (w := w) c Y G
  intro f cdv A outer s H E C
  exact (ss_one (s_ret (se_make C F_Term____init__ (by decide) B_Term____init___0 (gl_Term c Y G) (sa_cons (sv_fld (fd_readings c rfl) (so_var 0)) (sa_cons (sv_tup (sa_cons sv_str (sa_cons sv_str (sa_cons (sv_var 1) (sa_cons (sv_fld (fd_filling c rfl) (so_var 0)) (sa_cons (sv_fld (fd_start c rfl) (so_var 0)) (sa_cons (sv_fld (fd_stop c rfl) (so_var 0)) sa_nil))))))) sa_nil)))))
theorem ok_Series__leaf (c : Says K) (Y : K.In base) (G : base.Ns mainGlobals mg) : ∃ fd : FuncData, FnP P w K mg base (T K) 3 (d_Series__leaf.adr K) fd P_Series__leaf f_Series__leaf ∧ Bn K (T K) fd P_Series__leaf 2 [] (gPos []) := by
  obtain ⟨fd, F⟩ := c.def_ 14 (d := d_Series__leaf) rfl
  exact ⟨fd, ⟨fn_sim F sc_Series__leaf (does_Series__leaf c Y G), F.kp⟩, (bn_all (FunD.bindsN F fun _ _ _ _ _ _ us hl => match us, hl with | [_, _], _ => (by kernel_rfl)))⟩
theorem does_Totals__leaf (c : Says K) (Y : K.In base) (G : base.Ns mainGlobals mg) : Does P w K mg base (T K) 2 N_Totals__leaf "Totals.leaf" (defScope s_Totals__leaf) (defBody s_Totals__leaf) m_Totals__leaf := by
  obtain ⟨fd_Term____init__, F_Term____init__, B_Term____init___0⟩ := ok_Term____init__ (P := P) (w := w) c Y G
  intro f cdv A outer s H E C
  exact (ss_one (s_ret (se_make C F_Term____init__ (by decide) B_Term____init___0 (gl_Term c Y G) (sa_cons (sv_fld (fd_readings c rfl) (so_var 0)) (sa_cons (sv_tup (sa_cons sv_str (sa_cons sv_str (sa_cons (sv_var 1) (sa_cons (sv_fld (fd_filling c rfl) (so_var 0)) (sa_cons (sv_fld (fd_start c rfl) (so_var 0)) (sa_cons (sv_fld (fd_stop c rfl) (so_var 0)) sa_nil))))))) sa_nil)))))
theorem ok_Totals__leaf (c : Says K) (Y : K.In base) (G : base.Ns mainGlobals mg) : ∃ fd : FuncData, FnP P w K mg base (T K) 3 (d_Totals__leaf.adr K) fd P_Totals__leaf f_Totals__leaf ∧ Bn K (T K) fd P_Totals__leaf 2 [] (gPos []) := by
  obtain ⟨fd, F⟩ := c.def_ 15 (d := d_Totals__leaf) rfl
  exact ⟨fd, ⟨fn_sim F sc_Totals__leaf (does_Totals__leaf c Y G), F.kp⟩, (bn_all (FunD.bindsN F fun _ _ _ _ _ _ us hl => match us, hl with | [_, _], _ => (by kernel_rfl)))⟩
theorem me_leaf (c : Says K) (Y : K.In base) (G : base.Ns mainGlobals mg) {X : Cx} {k : Nat} (hk : 3 ≤ k) (hP : X.prog = P) (hw : X.w = w) (hK : X.K = K) (hm : X.mg = mg) (hb : X.base = base) : MethF X (T K) k "leaf" mt_leaf 1 [] (gPos []) := by
  subst hP hw hK hm hb
  exact ⟨lk_all (.cons (by
    obtain ⟨fd, F, B⟩ := ok_Series__leaf (P := X.prog) (w := X.w) c Y G
    exact ⟨_, _, fd, _, He.cls_ok (c.fact 32 (f := .he (.cls "Series")) rfl), He.meth_ok (c.fact 45 (f := .he (.meth "Series" "leaf")) rfl), F, B, (by show _ ∉ fld 1; decide +kernel), Nat.le_trans (by decide) hk⟩) (.cons (by
    obtain ⟨fd, F, B⟩ := ok_Totals__leaf (P := X.prog) (w := X.w) c Y G
    exact ⟨_, _, fd, _, He.cls_ok (c.fact 34 (f := .he (.cls "Totals")) rfl), He.meth_ok (c.fact 46 (f := .he (.meth "Totals" "leaf")) rfl), F, B, (by show _ ∉ fld 2; decide +kernel), Nat.le_trans (by decide) hk⟩) .nil))⟩
theorem does_Series__first (c : Says K) (Y : K.In base) (G : base.Ns mainGlobals mg) : Does P w K mg base (T K) 3 N_Series__first "Series.first" (defScope s_Series__first) (defBody s_Series__first) m_Series__first := by
  intro f cdv A outer s H E C
  exact (ss_one (s_ret (se_meth C (me_leaf (P := P) c Y G (by decide) rfl rfl rfl rfl rfl) (sv_var 0) (sa_cons sv_str sa_nil))))
theorem ok_Series__first (c : Says K) (Y : K.In base) (G : base.Ns mainGlobals mg) : ∃ fd : FuncData, FnP P w K mg base (T K) 4 (d_Series__first.adr K) fd P_Series__first f_Series__first ∧ Bn K (T K) fd P_Series__first 1 [] (gPos []) := by
  obtain ⟨fd, F⟩ := c.def_ 16 (d := d_Series__first) rfl
  exact ⟨fd, ⟨fn_sim F sc_Series__first (does_Series__first c Y G), F.kp⟩, (bn_all (FunD.bindsN F fun _ _ _ _ _ _ us hl => match us, hl with | [_], _ => (by kernel_rfl)))⟩
theorem does_Totals__first (c : Says K) (Y : K.In base) (G : base.Ns mainGlobals mg) : Does P w K mg base (T K) 3 N_Totals__first "Totals.first" (defScope s_Totals__first) (defBody s_Totals__first) m_Totals__first := by
  intro f cdv A outer s H E C
  exact (ss_one (s_ret (se_meth C (me_leaf (P := P) c Y G (by decide) rfl rfl rfl rfl rfl) (sv_var 0) (sa_cons sv_str sa_nil))))
theorem ok_Totals__first (c : Says K) (Y : K.In base) (G : base.Ns mainGlobals mg) : ∃ fd : FuncData, FnP P w K mg base (T K) 4 (d_Totals__first.adr K) fd P_Totals__first f_Totals__first ∧ Bn K (T K) fd P_Totals__first 1 [] (gPos []) := by
  obtain ⟨fd, F⟩ := c.def_ 17 (d := d_Totals__first) rfl
  exact ⟨fd, ⟨fn_sim F sc_Totals__first (does_Totals__first c Y G), F.kp⟩, (bn_all (FunD.bindsN F fun _ _ _ _ _ _ us hl => match us, hl with | [_], _ => (by kernel_rfl)))⟩
theorem does_Series__last (c : Says K) (Y : K.In base) (G : base.Ns mainGlobals mg) : Does P w K mg base (T K) 3 N_Series__last "Series.last" (defScope s_Series__last) (defBody s_Series__last) m_Series__last := by
  intro f cdv A outer s H E C
  exact (ss_one (s_ret (se_meth C (me_leaf (P := P) c Y G (by decide) rfl rfl rfl rfl rfl) (sv_var 0) (sa_cons sv_str sa_nil))))
theorem ok_Series__last (c : Says K) (Y : K.In base) (G : base.Ns mainGlobals mg) : ∃ fd : FuncData, FnP P w K mg base (T K) 4 (d_Series__last.adr K) fd P_Series__last f_Series__last ∧ Bn K (T K) fd P_Series__last 1 [] (gPos []) := by
  obtain ⟨fd, F⟩ := c.def_ 18 (d := d_Series__last) rfl
  exact ⟨fd, ⟨fn_sim F sc_Series__last (does_Series__last c Y G), F.kp⟩, (bn_all (FunD.bindsN F fun _ _ _ _ _ _ us hl => match us, hl with | [_], _ => (by kernel_rfl)))⟩
theorem does_Totals__last (c : Says K) (Y : K.In base) (G : base.Ns mainGlobals mg) : Does P w K mg base (T K) 3 N_Totals__last "Totals.last" (defScope s_Totals__last) (defBody s_Totals__last) m_Totals__last := by
  intro f cdv A outer s H E C
  exact (ss_one (s_ret (se_meth C (me_leaf (P := P) c Y G (by decide) rfl rfl rfl rfl rfl) (sv_var 0) (sa_cons sv_str sa_nil))))
theorem ok_Totals__last (c : Says K) (Y : K.In base) (G : base.Ns mainGlobals mg) : ∃ fd : FuncData, FnP P w K mg base (T K) 4 (d_Totals__last.adr K) fd P_Totals__last f_Totals__last ∧ Bn K (T K) fd P_Totals__last 1 [] (gPos []) := by
  obtain ⟨fd, F⟩ := c.def_ 19 (d := d_Totals__last) rfl
  exact ⟨fd, ⟨fn_sim F sc_Totals__last (does_Totals__last c Y G), F.kp⟩, (bn_all (FunD.bindsN F fun _ _ _ _ _ _ us hl => match us, hl with | [_], _ => (by kernel_rfl)))⟩
theorem does_Series__change (c : Says K) (Y : K.In base) (G : base.Ns mainGlobals mg) : Does P w K mg base (T K) 3 N_Series__change "Series.change" (defScope s_Series__change) (defBody s_Series__change) m_Series__change := by
  intro f cdv A outer s H E C
  exact (ss_one (s_ret (se_meth C (me_leaf (P := P) c Y G (by decide) rfl rfl rfl rfl rfl) (sv_var 0) (sa_cons sv_str sa_nil))))
theorem ok_Series__change (c : Says K) (Y : K.In base) (G : base.Ns mainGlobals mg) : ∃ fd : FuncData, FnP P w K mg base (T K) 4 (d_Series__change.adr K) fd P_Series__change f_Series__change ∧ Bn K (T K) fd P_Series__change 1 [] (gPos []) := by
  obtain ⟨fd, F⟩ := c.def_ 20 (d := d_Series__change) rfl
  exact ⟨fd, ⟨fn_sim F sc_Series__change (does_Series__change c Y G), F.kp⟩, (bn_all (FunD.bindsN F fun _ _ _ _ _ _ us hl => match us, hl with | [_], _ => (by kernel_rfl)))⟩
theorem does_Totals__change (c : Says K) (Y : K.In base) (G : base.Ns mainGlobals mg) : Does P w K mg base (T K) 3 N_Totals__change "Totals.change" (defScope s_Totals__change) (defBody s_Totals__change) m_Totals__change := by
  intro f cdv A outer s H E C
  exact (ss_one (s_ret (se_meth C (me_leaf (P := P) c Y G (by decide) rfl rfl rfl rfl rfl) (sv_var 0) (sa_cons sv_str sa_nil))))
theorem ok_Totals__change (c : Says K) (Y : K.In base) (G : base.Ns mainGlobals mg) : ∃ fd : FuncData, FnP P w K mg base (T K) 4 (d_Totals__change.adr K) fd P_Totals__change f_Totals__change ∧ Bn K (T K) fd P_Totals__change 1 [] (gPos []) := by
  obtain ⟨fd, F⟩ := c.def_ 21 (d := d_Totals__change) rfl
  exact ⟨fd, ⟨fn_sim F sc_Totals__change (does_Totals__change c Y G), F.kp⟩, (bn_all (FunD.bindsN F fun _ _ _ _ _ _ us hl => match us, hl with | [_], _ => (by kernel_rfl)))⟩
theorem does_Series__rises (c : Says K) (Y : K.In base) (G : base.Ns mainGlobals mg) : Does P w K mg base (T K) 3 N_Series__rises "Series.rises" (defScope s_Series__rises) (defBody s_Series__rises) m_Series__rises := by
  intro f cdv A outer s H E C
  exact (ss_one (s_ret (se_meth C (me_leaf (P := P) c Y G (by decide) rfl rfl rfl rfl rfl) (sv_var 0) (sa_cons sv_str sa_nil))))
theorem ok_Series__rises (c : Says K) (Y : K.In base) (G : base.Ns mainGlobals mg) : ∃ fd : FuncData, FnP P w K mg base (T K) 4 (d_Series__rises.adr K) fd P_Series__rises f_Series__rises ∧ Bn K (T K) fd P_Series__rises 1 [] (gPos []) := by
  obtain ⟨fd, F⟩ := c.def_ 22 (d := d_Series__rises) rfl
  exact ⟨fd, ⟨fn_sim F sc_Series__rises (does_Series__rises c Y G), F.kp⟩, (bn_all (FunD.bindsN F fun _ _ _ _ _ _ us hl => match us, hl with | [_], _ => (by kernel_rfl)))⟩
theorem does_Totals__rises (c : Says K) (Y : K.In base) (G : base.Ns mainGlobals mg) : Does P w K mg base (T K) 3 N_Totals__rises "Totals.rises" (defScope s_Totals__rises) (defBody s_Totals__rises) m_Totals__rises := by
  intro f cdv A outer s H E C
  exact (ss_one (s_ret (se_meth C (me_leaf (P := P) c Y G (by decide) rfl rfl rfl rfl rfl) (sv_var 0) (sa_cons sv_str sa_nil))))
theorem ok_Totals__rises (c : Says K) (Y : K.In base) (G : base.Ns mainGlobals mg) : ∃ fd : FuncData, FnP P w K mg base (T K) 4 (d_Totals__rises.adr K) fd P_Totals__rises f_Totals__rises ∧ Bn K (T K) fd P_Totals__rises 1 [] (gPos []) := by
  obtain ⟨fd, F⟩ := c.def_ 23 (d := d_Totals__rises) rfl
  exact ⟨fd, ⟨fn_sim F sc_Totals__rises (does_Totals__rises c Y G), F.kp⟩, (bn_all (FunD.bindsN F fun _ _ _ _ _ _ us hl => match us, hl with | [_], _ => (by kernel_rfl)))⟩
theorem does_Series__told (c : Says K) (Y : K.In base) (G : base.Ns mainGlobals mg) : Does P w K mg base (T K) 3 N_Series__told "Series.told" (defScope s_Series__told) (defBody s_Series__told) m_Series__told := by
  intro f cdv A outer s H E C
  exact (ss_cons (s_ifS (st_cmp (cmp_ne C) (sv_fld (fd_filling c rfl) (so_var 0)) (so_of sv_str))
    (ss_one (s_raise0 C (xc_BadTerm (P := P) c) rfl (fun _ => trivial) (fr_super c Y G) (gl_BadTerm c Y G)))
    ss_nil)
    (ss_one (s_ret (se_meth C (me_leaf (P := P) c Y G (by decide) rfl rfl rfl rfl rfl) (sv_var 0) (sa_cons sv_str sa_nil)))))
theorem ok_Series__told (c : Says K) (Y : K.In base) (G : base.Ns mainGlobals mg) : ∃ fd : FuncData, FnP P w K mg base (T K) 4 (d_Series__told.adr K) fd P_Series__told f_Series__told ∧ Bn K (T K) fd P_Series__told 1 [] (gPos []) := by
  obtain ⟨fd, F⟩ := c.def_ 24 (d := d_Series__told) rfl
  exact ⟨fd, ⟨fn_sim F sc_Series__told (does_Series__told c Y G), F.kp⟩, (bn_all (FunD.bindsN F fun _ _ _ _ _ _ us hl => match us, hl with | [_], _ => (by kernel_rfl)))⟩
theorem does_Series__top (c : Says K) (Y : K.In base) (G : base.Ns mainGlobals mg) : Does P w K mg base (T K) 3 N_Series__top "Series.top" (defScope s_Series__top) (defBody s_Series__top) m_Series__top := by
  intro f cdv A outer s H E C
  exact (ss_one (s_ret (se_meth C (me_leaf (P := P) c Y G (by decide) rfl rfl rfl rfl rfl) (sv_var 0) (sa_cons sv_str sa_nil))))
theorem ok_Series__top (c : Says K) (Y : K.In base) (G : base.Ns mainGlobals mg) : ∃ fd : FuncData, FnP P w K mg base (T K) 4 (d_Series__top.adr K) fd P_Series__top f_Series__top ∧ Bn K (T K) fd P_Series__top 1 [] (gPos []) := by
  obtain ⟨fd, F⟩ := c.def_ 25 (d := d_Series__top) rfl
  exact ⟨fd, ⟨fn_sim F sc_Series__top (does_Series__top c Y G), F.kp⟩, (bn_all (FunD.bindsN F fun _ _ _ _ _ _ us hl => match us, hl with | [_], _ => (by kernel_rfl)))⟩
theorem does_Series__low (c : Says K) (Y : K.In base) (G : base.Ns mainGlobals mg) : Does P w K mg base (T K) 3 N_Series__low "Series.low" (defScope s_Series__low) (defBody s_Series__low) m_Series__low := by
  intro f cdv A outer s H E C
  exact (ss_one (s_ret (se_meth C (me_leaf (P := P) c Y G (by decide) rfl rfl rfl rfl rfl) (sv_var 0) (sa_cons sv_str sa_nil))))
theorem ok_Series__low (c : Says K) (Y : K.In base) (G : base.Ns mainGlobals mg) : ∃ fd : FuncData, FnP P w K mg base (T K) 4 (d_Series__low.adr K) fd P_Series__low f_Series__low ∧ Bn K (T K) fd P_Series__low 1 [] (gPos []) := by
  obtain ⟨fd, F⟩ := c.def_ 26 (d := d_Series__low) rfl
  exact ⟨fd, ⟨fn_sim F sc_Series__low (does_Series__low c Y G), F.kp⟩, (bn_all (FunD.bindsN F fun _ _ _ _ _ _ us hl => match us, hl with | [_], _ => (by kernel_rfl)))⟩
theorem pr_total (c : Says K) (Y : K.In base) (G : base.Ns mainGlobals mg) {X : Cx} {k : Nat} (hk : 4 ≤ k) (hP : X.prog = P) (hw : X.w = w) (hK : X.K = K) (hm : X.mg = mg) (hb : X.base = base) : PropF X (T K) k "total" pt_total := by
  subst hP hw hK hm hb
  exact ⟨lk_all (.cons (by
    obtain ⟨fd, F, B⟩ := ok_Series__total (P := X.prog) (w := X.w) c Y G
    exact ⟨_, _, _, fd, _, He.cls_ok (c.fact 32 (f := .he (.cls "Series")) rfl), prop_ok (c.fact 43 (f := .prop "Series" "total") rfl), F, B, rfl, Nat.le_trans (by decide) hk⟩) .nil)⟩
theorem me_true_events (c : Says K) (Y : K.In base) (G : base.Ns mainGlobals mg) {X : Cx} {k : Nat} (hk : 3 ≤ k) (hP : X.prog = P) (hw : X.w = w) (hK : X.K = K) (hm : X.mg = mg) (hb : X.base = base) : MethF X (T K) k "true_events" mt_true_events 0 [] (gPos []) := by
  subst hP hw hK hm hb
  exact ⟨lk_all (.cons (by
    obtain ⟨fd, F, B⟩ := ok_Series__true_events (P := X.prog) (w := X.w) c Y G
    exact ⟨_, _, fd, _, He.cls_ok (c.fact 32 (f := .he (.cls "Series")) rfl), He.meth_ok (c.fact 47 (f := .he (.meth "Series" "true_events")) rfl), F, B, (by show _ ∉ fld 1; decide +kernel), Nat.le_trans (by decide) hk⟩) .nil)⟩
theorem me___getitem____Series (c : Says K) (Y : K.In base) (G : base.Ns mainGlobals mg) {X : Cx} {k : Nat} (hk : 3 ≤ k) (hP : X.prog = P) (hw : X.w = w) (hK : X.K = K) (hm : X.mg = mg) (hb : X.base = base) : MethF X (T K) k "__getitem__" mt___getitem____Series 1 [] (gPos []) := by
  subst hP hw hK hm hb
  exact ⟨lk_all (.cons (by
    obtain ⟨fd, F, B⟩ := ok_Series____getitem__ (P := X.prog) (w := X.w) c Y G
    exact ⟨_, _, fd, _, He.cls_ok (c.fact 32 (f := .he (.cls "Series")) rfl), He.meth_ok (c.fact 48 (f := .he (.meth "Series" "__getitem__")) rfl), F, B, (by show _ ∉ fld 1; decide +kernel), Nat.le_trans (by decide) hk⟩) .nil)⟩
theorem me_first (c : Says K) (Y : K.In base) (G : base.Ns mainGlobals mg) {X : Cx} {k : Nat} (hk : 4 ≤ k) (hP : X.prog = P) (hw : X.w = w) (hK : X.K = K) (hm : X.mg = mg) (hb : X.base = base) : MethF X (T K) k "first" mt_first 0 [] (gPos []) := by
  subst hP hw hK hm hb
  exact ⟨lk_all (.cons (by
    obtain ⟨fd, F, B⟩ := ok_Series__first (P := X.prog) (w := X.w) c Y G
    exact ⟨_, _, fd, _, He.cls_ok (c.fact 32 (f := .he (.cls "Series")) rfl), He.meth_ok (c.fact 49 (f := .he (.meth "Series" "first")) rfl), F, B, (by show _ ∉ fld 1; decide +kernel), Nat.le_trans (by decide) hk⟩) (.cons (by
    obtain ⟨fd, F, B⟩ := ok_Totals__first (P := X.prog) (w := X.w) c Y G
    exact ⟨_, _, fd, _, He.cls_ok (c.fact 34 (f := .he (.cls "Totals")) rfl), He.meth_ok (c.fact 50 (f := .he (.meth "Totals" "first")) rfl), F, B, (by show _ ∉ fld 2; decide +kernel), Nat.le_trans (by decide) hk⟩) .nil))⟩
theorem me_last (c : Says K) (Y : K.In base) (G : base.Ns mainGlobals mg) {X : Cx} {k : Nat} (hk : 4 ≤ k) (hP : X.prog = P) (hw : X.w = w) (hK : X.K = K) (hm : X.mg = mg) (hb : X.base = base) : MethF X (T K) k "last" mt_last 0 [] (gPos []) := by
  subst hP hw hK hm hb
  exact ⟨lk_all (.cons (by
    obtain ⟨fd, F, B⟩ := ok_Series__last (P := X.prog) (w := X.w) c Y G
    exact ⟨_, _, fd, _, He.cls_ok (c.fact 32 (f := .he (.cls "Series")) rfl), He.meth_ok (c.fact 51 (f := .he (.meth "Series" "last")) rfl), F, B, (by show _ ∉ fld 1; decide +kernel), Nat.le_trans (by decide) hk⟩) (.cons (by
    obtain ⟨fd, F, B⟩ := ok_Totals__last (P := X.prog) (w := X.w) c Y G
    exact ⟨_, _, fd, _, He.cls_ok (c.fact 34 (f := .he (.cls "Totals")) rfl), He.meth_ok (c.fact 52 (f := .he (.meth "Totals" "last")) rfl), F, B, (by show _ ∉ fld 2; decide +kernel), Nat.le_trans (by decide) hk⟩) .nil))⟩
theorem me_change (c : Says K) (Y : K.In base) (G : base.Ns mainGlobals mg) {X : Cx} {k : Nat} (hk : 4 ≤ k) (hP : X.prog = P) (hw : X.w = w) (hK : X.K = K) (hm : X.mg = mg) (hb : X.base = base) : MethF X (T K) k "change" mt_change 0 [] (gPos []) := by
  subst hP hw hK hm hb
  exact ⟨lk_all (.cons (by
    obtain ⟨fd, F, B⟩ := ok_Series__change (P := X.prog) (w := X.w) c Y G
    exact ⟨_, _, fd, _, He.cls_ok (c.fact 32 (f := .he (.cls "Series")) rfl), He.meth_ok (c.fact 53 (f := .he (.meth "Series" "change")) rfl), F, B, (by show _ ∉ fld 1; decide +kernel), Nat.le_trans (by decide) hk⟩) (.cons (by
    obtain ⟨fd, F, B⟩ := ok_Totals__change (P := X.prog) (w := X.w) c Y G
    exact ⟨_, _, fd, _, He.cls_ok (c.fact 34 (f := .he (.cls "Totals")) rfl), He.meth_ok (c.fact 54 (f := .he (.meth "Totals" "change")) rfl), F, B, (by show _ ∉ fld 2; decide +kernel), Nat.le_trans (by decide) hk⟩) .nil))⟩
theorem me_rises (c : Says K) (Y : K.In base) (G : base.Ns mainGlobals mg) {X : Cx} {k : Nat} (hk : 4 ≤ k) (hP : X.prog = P) (hw : X.w = w) (hK : X.K = K) (hm : X.mg = mg) (hb : X.base = base) : MethF X (T K) k "rises" mt_rises 0 [] (gPos []) := by
  subst hP hw hK hm hb
  exact ⟨lk_all (.cons (by
    obtain ⟨fd, F, B⟩ := ok_Series__rises (P := X.prog) (w := X.w) c Y G
    exact ⟨_, _, fd, _, He.cls_ok (c.fact 32 (f := .he (.cls "Series")) rfl), He.meth_ok (c.fact 55 (f := .he (.meth "Series" "rises")) rfl), F, B, (by show _ ∉ fld 1; decide +kernel), Nat.le_trans (by decide) hk⟩) (.cons (by
    obtain ⟨fd, F, B⟩ := ok_Totals__rises (P := X.prog) (w := X.w) c Y G
    exact ⟨_, _, fd, _, He.cls_ok (c.fact 34 (f := .he (.cls "Totals")) rfl), He.meth_ok (c.fact 56 (f := .he (.meth "Totals" "rises")) rfl), F, B, (by show _ ∉ fld 2; decide +kernel), Nat.le_trans (by decide) hk⟩) .nil))⟩
theorem me_told (c : Says K) (Y : K.In base) (G : base.Ns mainGlobals mg) {X : Cx} {k : Nat} (hk : 4 ≤ k) (hP : X.prog = P) (hw : X.w = w) (hK : X.K = K) (hm : X.mg = mg) (hb : X.base = base) : MethF X (T K) k "told" mt_told 0 [] (gPos []) := by
  subst hP hw hK hm hb
  exact ⟨lk_all (.cons (by
    obtain ⟨fd, F, B⟩ := ok_Series__told (P := X.prog) (w := X.w) c Y G
    exact ⟨_, _, fd, _, He.cls_ok (c.fact 32 (f := .he (.cls "Series")) rfl), He.meth_ok (c.fact 57 (f := .he (.meth "Series" "told")) rfl), F, B, (by show _ ∉ fld 1; decide +kernel), Nat.le_trans (by decide) hk⟩) .nil)⟩
theorem me_top (c : Says K) (Y : K.In base) (G : base.Ns mainGlobals mg) {X : Cx} {k : Nat} (hk : 4 ≤ k) (hP : X.prog = P) (hw : X.w = w) (hK : X.K = K) (hm : X.mg = mg) (hb : X.base = base) : MethF X (T K) k "top" mt_top 0 [] (gPos []) := by
  subst hP hw hK hm hb
  exact ⟨lk_all (.cons (by
    obtain ⟨fd, F, B⟩ := ok_Series__top (P := X.prog) (w := X.w) c Y G
    exact ⟨_, _, fd, _, He.cls_ok (c.fact 32 (f := .he (.cls "Series")) rfl), He.meth_ok (c.fact 58 (f := .he (.meth "Series" "top")) rfl), F, B, (by show _ ∉ fld 1; decide +kernel), Nat.le_trans (by decide) hk⟩) .nil)⟩
theorem me_low (c : Says K) (Y : K.In base) (G : base.Ns mainGlobals mg) {X : Cx} {k : Nat} (hk : 4 ≤ k) (hP : X.prog = P) (hw : X.w = w) (hK : X.K = K) (hm : X.mg = mg) (hb : X.base = base) : MethF X (T K) k "low" mt_low 0 [] (gPos []) := by
  subst hP hw hK hm hb
  exact ⟨lk_all (.cons (by
    obtain ⟨fd, F, B⟩ := ok_Series__low (P := X.prog) (w := X.w) c Y G
    exact ⟨_, _, fd, _, He.cls_ok (c.fact 32 (f := .he (.cls "Series")) rfl), He.meth_ok (c.fact 59 (f := .he (.meth "Series" "low")) rfl), F, B, (by show _ ∉ fld 1; decide +kernel), Nat.le_trans (by decide) hk⟩) .nil)⟩
theorem does__law_leaf_term (c : Says K) (Y : K.In base) (G : base.Ns mainGlobals mg) : Does P w K mg base (T K) 4 N__law_leaf_term "_law_leaf_term" (defScope s__law_leaf_term) (defBody s__law_leaf_term) m__law_leaf_term := by
  obtain ⟨fd_Series____init__, F_Series____init__, B_Series____init___0, B_Series____init___1, B_Series____init___2⟩ := ok_Series____init__ (P := P) (w := w) c Y G
  intro f cdv A outer s H E C
  exact (ss_cons (s_ifS (st_cmp (cmp_eq C) (sv_idxV 0 sv_int) (so_of sv_str))
    (ss_one (s_ret (se_meth0 C (me_true_events (P := P) c Y G (by decide) rfl rfl rfl rfl rfl) (sv_of (se_getSl (j := 3) C (by decide) (me___getitem____Series (P := P) c Y G (by decide) rfl rfl rfl rfl rfl) (nsq___getitem____Series c rfl) (sv_of (se_make C F_Series____init__ (by decide) B_Series____init___1 (gl_Series c Y G) (sa_cons (sv_var 1) sa_nil))) (sp_some (sv_idxV 0 sv_int)) (sp_some (sv_idxV 0 sv_int)))))))
    ss_nil)
    (ss_cons (s_put C 2 (se_getSl (j := 3) C (by decide) (me___getitem____Series (P := P) c Y G (by decide) rfl rfl rfl rfl rfl) (nsq___getitem____Series c rfl) (sv_of (se_makeK C F_Series____init__ (by decide) B_Series____init___2 (gl_Series c Y G) (sa_cons (sv_var 1) sa_nil) (sk_cons (sv_idxV 0 sv_int) sk_nil))) (sp_some (sv_idxV 0 sv_int)) (sp_some (sv_idxV 0 sv_int))))
    (ss_cons (s_ifS (st_cmp (cmp_eq C) (sv_idxV 0 sv_int) (so_of sv_str))
    (ss_one (s_put C 2 (se_prop C (pr_total (P := P) c Y G (by decide) rfl rfl rfl rfl rfl) (sv_var 2))))
    ss_nil)
    (ss_cons (s_putV C 3 (sv_idxV 0 sv_int))
    (ss_cons (s_ifS (st_cmp (cmp_eq C) (sv_var 3) (so_of sv_str))
    (ss_one (s_ret (se_meth0 C (me_first (P := P) c Y G (by decide) rfl rfl rfl rfl rfl) (sv_var 2))))
    ss_nil)
    (ss_cons (s_ifS (st_cmp (cmp_eq C) (sv_var 3) (so_of sv_str))
    (ss_one (s_ret (se_meth0 C (me_last (P := P) c Y G (by decide) rfl rfl rfl rfl rfl) (sv_var 2))))
    ss_nil)
    (ss_cons (s_ifS (st_cmp (cmp_eq C) (sv_var 3) (so_of sv_str))
    (ss_one (s_ret (se_meth0 C (me_change (P := P) c Y G (by decide) rfl rfl rfl rfl rfl) (sv_var 2))))
    ss_nil)
    (ss_cons (s_ifS (st_cmp (cmp_eq C) (sv_var 3) (so_of sv_str))
    (ss_one (s_ret (se_meth0 C (me_rises (P := P) c Y G (by decide) rfl rfl rfl rfl rfl) (sv_var 2))))
    ss_nil)
    (ss_cons (s_ifS (st_cmp (cmp_eq C) (sv_var 3) (so_of sv_str))
    (ss_one (s_ret (se_meth0 C (me_told (P := P) c Y G (by decide) rfl rfl rfl rfl rfl) (sv_var 2))))
    ss_nil)
    (ss_one (s_ret (s_if (st_cmp (cmp_eq C) (sv_var 3) (so_of sv_str)) (se_meth0 C (me_top (P := P) c Y G (by decide) rfl rfl rfl rfl rfl) (sv_var 2)) (se_meth0 C (me_low (P := P) c Y G (by decide) rfl rfl rfl rfl rfl) (sv_var 2))))))))))))))
theorem ok__law_leaf_term (c : Says K) (Y : K.In base) (G : base.Ns mainGlobals mg) : ∃ fd : FuncData, FnP P w K mg base (T K) 5 (d__law_leaf_term.adr K) fd P__law_leaf_term f__law_leaf_term ∧ Bn K (T K) fd P__law_leaf_term 2 [] (gPos []) := by
  obtain ⟨fd, F⟩ := c.def_ 27 (d := d__law_leaf_term) rfl
  exact ⟨fd, ⟨fn_sim F sc__law_leaf_term (does__law_leaf_term c Y G), F.kp⟩, (bn_all (FunD.bindsN F fun _ _ _ _ _ _ us hl => match us, hl with | [_, _], _ => (by kernel_rfl)))⟩
theorem does_Term__with_other (c : Says K) (Y : K.In base) (G : base.Ns mainGlobals mg) : Does P w K mg base (T K) 2 N_Term__with_other "Term.with_other" (defScope s_Term__with_other) (defBody s_Term__with_other) m_Term__with_other := by
  obtain ⟨fd_Term____init__, F_Term____init__, B_Term____init___0⟩ := ok_Term____init__ (P := P) (w := w) c Y G
  intro f cdv A outer s H E C
  exact (ss_cons (s_ifS (st_not (st_tru (so_of (sv_isi (isi_ok c) (sv_var 2) (sv_cls (c := 0) (gl_Term c Y G)) (fr_isinstance c Y G)))))
    (ss_one (s_raise0 C (xc_BadTerm (P := P) c) rfl (fun _ => trivial) (fr_super c Y G) (gl_BadTerm c Y G)))
    ss_nil)
    (ss_cons (s_ifS (st_cmp (cmp_ne C) (sv_fld (fd_readings c rfl) (so_var 0)) (so_of (sv_fld (fd_readings c rfl) (so_var 2))))
    (ss_one s_never)
    ss_nil)
    (ss_one (s_ret (se_make C F_Term____init__ (by decide) B_Term____init___0 (gl_Term c Y G) (sa_cons (sv_fld (fd_readings c rfl) (so_var 0)) (sa_cons (sv_tup (sa_cons (sv_var 1) (sa_cons (sv_fld (fd_node c rfl) (so_var 0)) (sa_cons (sv_fld (fd_node c rfl) (so_var 2)) sa_nil)))) sa_nil)))))))
theorem ok_Term__with_other (c : Says K) (Y : K.In base) (G : base.Ns mainGlobals mg) : ∃ fd : FuncData, FnP P w K mg base (T K) 3 (d_Term__with_other.adr K) fd P_Term__with_other f_Term__with_other ∧ Bn K (T K) fd P_Term__with_other 3 [] (gPos []) := by
  obtain ⟨fd, F⟩ := c.def_ 28 (d := d_Term__with_other) rfl
  exact ⟨fd, ⟨fn_sim F sc_Term__with_other (does_Term__with_other c Y G), F.kp⟩, (bn_all (FunD.bindsN F fun _ _ _ _ _ _ us hl => match us, hl with | [_, _, _], _ => (by kernel_rfl)))⟩
theorem me_with_other (c : Says K) (Y : K.In base) (G : base.Ns mainGlobals mg) {X : Cx} {k : Nat} (hk : 3 ≤ k) (hP : X.prog = P) (hw : X.w = w) (hK : X.K = K) (hm : X.mg = mg) (hb : X.base = base) : MethF X (T K) k "with_other" mt_with_other 2 [] (gPos []) := by
  subst hP hw hK hm hb
  exact ⟨lk_all (.cons (by
    obtain ⟨fd, F, B⟩ := ok_Term__with_other (P := X.prog) (w := X.w) c Y G
    exact ⟨_, _, fd, _, He.cls_ok (c.fact 30 (f := .he (.cls "Term")) rfl), He.meth_ok (c.fact 60 (f := .he (.meth "Term" "with_other")) rfl), F, B, (by show _ ∉ fld 0; decide +kernel), Nat.le_trans (by decide) hk⟩) .nil)⟩
theorem does_Term____add__ (c : Says K) (Y : K.In base) (G : base.Ns mainGlobals mg) : Does P w K mg base (T K) 3 N_Term____add__ "Term.__add__" (defScope s_Term____add__) (defBody s_Term____add__) m_Term____add__ := by
  intro f cdv A outer s H E C
  exact (ss_one (s_ret (se_meth C (me_with_other (P := P) c Y G (by decide) rfl rfl rfl rfl rfl) (sv_var 0) (sa_cons sv_str (sa_cons (sv_var 1) sa_nil)))))
theorem ok_Term____add__ (c : Says K) (Y : K.In base) (G : base.Ns mainGlobals mg) : ∃ fd : FuncData, FnP P w K mg base (T K) 4 (d_Term____add__.adr K) fd P_Term____add__ f_Term____add__ ∧ Bn K (T K) fd P_Term____add__ 2 [] (gPos []) := by
  obtain ⟨fd, F⟩ := c.def_ 29 (d := d_Term____add__) rfl
  exact ⟨fd, ⟨fn_sim F sc_Term____add__ (does_Term____add__ c Y G), F.kp⟩, (bn_all (FunD.bindsN F fun _ _ _ _ _ _ us hl => match us, hl with | [_, _], _ => (by kernel_rfl)))⟩
theorem does_Term____sub__ (c : Says K) (Y : K.In base) (G : base.Ns mainGlobals mg) : Does P w K mg base (T K) 3 N_Term____sub__ "Term.__sub__" (defScope s_Term____sub__) (defBody s_Term____sub__) m_Term____sub__ := by
  intro f cdv A outer s H E C
  exact (ss_one (s_ret (se_meth C (me_with_other (P := P) c Y G (by decide) rfl rfl rfl rfl rfl) (sv_var 0) (sa_cons sv_str (sa_cons (sv_var 1) sa_nil)))))
theorem ok_Term____sub__ (c : Says K) (Y : K.In base) (G : base.Ns mainGlobals mg) : ∃ fd : FuncData, FnP P w K mg base (T K) 4 (d_Term____sub__.adr K) fd P_Term____sub__ f_Term____sub__ ∧ Bn K (T K) fd P_Term____sub__ 2 [] (gPos []) := by
  obtain ⟨fd, F⟩ := c.def_ 30 (d := d_Term____sub__) rfl
  exact ⟨fd, ⟨fn_sim F sc_Term____sub__ (does_Term____sub__ c Y G), F.kp⟩, (bn_all (FunD.bindsN F fun _ _ _ _ _ _ us hl => match us, hl with | [_, _], _ => (by kernel_rfl)))⟩
theorem does_Term____or__ (c : Says K) (Y : K.In base) (G : base.Ns mainGlobals mg) : Does P w K mg base (T K) 3 N_Term____or__ "Term.__or__" (defScope s_Term____or__) (defBody s_Term____or__) m_Term____or__ := by
  intro f cdv A outer s H E C
  exact (ss_one (s_ret (se_meth C (me_with_other (P := P) c Y G (by decide) rfl rfl rfl rfl rfl) (sv_var 0) (sa_cons sv_str (sa_cons (sv_var 1) sa_nil)))))
theorem ok_Term____or__ (c : Says K) (Y : K.In base) (G : base.Ns mainGlobals mg) : ∃ fd : FuncData, FnP P w K mg base (T K) 4 (d_Term____or__.adr K) fd P_Term____or__ f_Term____or__ ∧ Bn K (T K) fd P_Term____or__ 2 [] (gPos []) := by
  obtain ⟨fd, F⟩ := c.def_ 31 (d := d_Term____or__) rfl
  exact ⟨fd, ⟨fn_sim F sc_Term____or__ (does_Term____or__ c Y G), F.kp⟩, (bn_all (FunD.bindsN F fun _ _ _ _ _ _ us hl => match us, hl with | [_, _], _ => (by kernel_rfl)))⟩
theorem does_Term____and__ (c : Says K) (Y : K.In base) (G : base.Ns mainGlobals mg) : Does P w K mg base (T K) 3 N_Term____and__ "Term.__and__" (defScope s_Term____and__) (defBody s_Term____and__) m_Term____and__ := by
  intro f cdv A outer s H E C
  exact (ss_one (s_ret (se_meth C (me_with_other (P := P) c Y G (by decide) rfl rfl rfl rfl rfl) (sv_var 0) (sa_cons sv_str (sa_cons (sv_var 1) sa_nil)))))
theorem ok_Term____and__ (c : Says K) (Y : K.In base) (G : base.Ns mainGlobals mg) : ∃ fd : FuncData, FnP P w K mg base (T K) 4 (d_Term____and__.adr K) fd P_Term____and__ f_Term____and__ ∧ Bn K (T K) fd P_Term____and__ 2 [] (gPos []) := by
  obtain ⟨fd, F⟩ := c.def_ 32 (d := d_Term____and__) rfl
  exact ⟨fd, ⟨fn_sim F sc_Term____and__ (does_Term____and__ c Y G), F.kp⟩, (bn_all (FunD.bindsN F fun _ _ _ _ _ _ us hl => match us, hl with | [_, _], _ => (by kernel_rfl)))⟩
theorem does_Term____neg__ (c : Says K) (Y : K.In base) (G : base.Ns mainGlobals mg) : Does P w K mg base (T K) 2 N_Term____neg__ "Term.__neg__" (defScope s_Term____neg__) (defBody s_Term____neg__) m_Term____neg__ := by
  obtain ⟨fd_Term____init__, F_Term____init__, B_Term____init___0⟩ := ok_Term____init__ (P := P) (w := w) c Y G
  intro f cdv A outer s H E C
  exact (ss_one (s_ret (se_make C F_Term____init__ (by decide) B_Term____init___0 (gl_Term c Y G) (sa_cons (sv_fld (fd_readings c rfl) (so_var 0)) (sa_cons (sv_tup (sa_cons sv_str (sa_cons (sv_neg sv_int) (sa_cons (sv_fld (fd_node c rfl) (so_var 0)) sa_nil)))) sa_nil)))))
theorem ok_Term____neg__ (c : Says K) (Y : K.In base) (G : base.Ns mainGlobals mg) : ∃ fd : FuncData, FnP P w K mg base (T K) 3 (d_Term____neg__.adr K) fd P_Term____neg__ f_Term____neg__ ∧ Bn K (T K) fd P_Term____neg__ 1 [] (gPos []) := by
  obtain ⟨fd, F⟩ := c.def_ 33 (d := d_Term____neg__) rfl
  exact ⟨fd, ⟨fn_sim F sc_Term____neg__ (does_Term____neg__ c Y G), F.kp⟩, (bn_all (FunD.bindsN F fun _ _ _ _ _ _ us hl => match us, hl with | [_], _ => (by kernel_rfl)))⟩
theorem does_is_integer (c : Says K) (Y : K.In base) (G : base.Ns mainGlobals mg) : Does P w K mg base (T K) 0 N_is_integer "is_integer" (defScope s_is_integer) (defBody s_is_integer) m_is_integer := by
  intro f cdv A outer s H E C
  exact (ss_one (s_ret (se_of (sv_and (sv_isi (isi_ok c) (sv_var 0) (sv_ty (t := "int") (fr_int c Y G)) (fr_isinstance c Y G)) (sv_one (sv_not (sv_isi (isi_ok c) (sv_var 0) (sv_ty (t := "bool") (fr_bool c Y G)) (fr_isinstance c Y G))))))))
theorem ok_is_integer (c : Says K) (Y : K.In base) (G : base.Ns mainGlobals mg) : ∃ fd : FuncData, FnP P w K mg base (T K) 1 (d_is_integer.adr K) fd P_is_integer f_is_integer ∧ Bn K (T K) fd P_is_integer 1 [] (gPos []) := by
  obtain ⟨fd, F⟩ := c.def_ 34 (d := d_is_integer) rfl
  exact ⟨fd, ⟨fn_sim F sc_is_integer (does_is_integer c Y G), F.kp⟩, (bn_all (FunD.bindsN F fun _ _ _ _ _ _ us hl => match us, hl with | [_], _ => (by kernel_rfl)))⟩
theorem does_Term____mul__ (c : Says K) (Y : K.In base) (G : base.Ns mainGlobals mg) : Does P w K mg base (T K) 2 N_Term____mul__ "Term.__mul__" (defScope s_Term____mul__) (defBody s_Term____mul__) m_Term____mul__ := by
  obtain ⟨fd_Term____init__, F_Term____init__, B_Term____init___0⟩ := ok_Term____init__ (P := P) (w := w) c Y G
  obtain ⟨fd_is_integer, F_is_integer, B_is_integer_0⟩ := ok_is_integer (P := P) (w := w) c Y G
  intro f cdv A outer s H E C
  exact (ss_cons (s_ifS (st_ww (sw_or (st_not (st_tru (so_ofE (se_call C F_is_integer (by decide) B_is_integer_0 (gl_is_integer c Y G) (sa_cons (sv_var 1) sa_nil))))) (sw_or1 (st_cmp cmp_gt (sv_abs (sv_intf (sv_var 1) (fr_int c Y G)) (fr_abs c Y G)) (sv_ccon (c := 0) (cc_Term_MOST c rfl) (gl_Term c Y G))))))
    (ss_one (s_raise0 C (xc_BadTerm (P := P) c) rfl (fun _ => trivial) (fr_super c Y G) (gl_BadTerm c Y G)))
    ss_nil)
    (ss_one (s_ret (se_make C F_Term____init__ (by decide) B_Term____init___0 (gl_Term c Y G) (sa_cons (sv_fld (fd_readings c rfl) (so_var 0)) (sa_cons (sv_tup (sa_cons sv_str (sa_cons (sv_var 1) (sa_cons (sv_fld (fd_node c rfl) (so_var 0)) sa_nil)))) sa_nil))))))
theorem ok_Term____mul__ (c : Says K) (Y : K.In base) (G : base.Ns mainGlobals mg) : ∃ fd : FuncData, FnP P w K mg base (T K) 3 (d_Term____mul__.adr K) fd P_Term____mul__ f_Term____mul__ ∧ Bn K (T K) fd P_Term____mul__ 2 [] (gPos []) := by
  obtain ⟨fd, F⟩ := c.def_ 35 (d := d_Term____mul__) rfl
  exact ⟨fd, ⟨fn_sim F sc_Term____mul__ (does_Term____mul__ c Y G), F.kp⟩, (bn_all (FunD.bindsN F fun _ _ _ _ _ _ us hl => match us, hl with | [_, _], _ => (by kernel_rfl)))⟩
theorem mu___mul____Term (c : Says K) (Y : K.In base) (G : base.Ns mainGlobals mg) {X : Cx} {k : Nat} (hk : 3 ≤ k) (hP : X.prog = P) (hw : X.w = w) (hK : X.K = K) (hm : X.mg = mg) (hb : X.base = base) : MulF X (T K) k mt___mul____Term := by
  subst hP hw hK hm hb
  exact ⟨lk_all (.cons (by
    obtain ⟨fd, F, B⟩ := ok_Term____mul__ (P := X.prog) (w := X.w) c Y G
    exact ⟨_, _, fd, _, He.cls_ok (c.fact 30 (f := .he (.cls "Term")) rfl), He.meth_ok (c.fact 69 (f := .he (.meth "Term" "__mul__")) rfl), (c.fact 65 (f := .slf "Term") rfl), F, B, Nat.le_trans (by decide) hk, ⟨_, (He.meth_ok (c.fact 70 (f := .he (.meth "Term" "__rmul__")) rfl)).at_⟩⟩) .nil)⟩
theorem does_Term____rmul__ (c : Says K) (Y : K.In base) (G : base.Ns mainGlobals mg) : Does P w K mg base (T K) 3 N_Term____rmul__ "Term.__rmul__" (defScope s_Term____rmul__) (defBody s_Term____rmul__) m_Term____rmul__ := by
  intro f cdv A outer s H E C
  exact (ss_one (s_ret (se_mulL C (mu___mul____Term (P := P) c Y G (by decide) rfl rfl rfl rfl rfl) (sv_var 0) (sv_var 1))))
theorem ok_Term____rmul__ (c : Says K) (Y : K.In base) (G : base.Ns mainGlobals mg) : ∃ fd : FuncData, FnP P w K mg base (T K) 4 (d_Term____rmul__.adr K) fd P_Term____rmul__ f_Term____rmul__ ∧ Bn K (T K) fd P_Term____rmul__ 2 [] (gPos []) := by
  obtain ⟨fd, F⟩ := c.def_ 36 (d := d_Term____rmul__) rfl
  exact ⟨fd, ⟨fn_sim F sc_Term____rmul__ (does_Term____rmul__ c Y G), F.kp⟩, (bn_all (FunD.bindsN F fun _ _ _ _ _ _ us hl => match us, hl with | [_, _], _ => (by kernel_rfl)))⟩
theorem me___neg____Term (c : Says K) (Y : K.In base) (G : base.Ns mainGlobals mg) {X : Cx} {k : Nat} (hk : 3 ≤ k) (hP : X.prog = P) (hw : X.w = w) (hK : X.K = K) (hm : X.mg = mg) (hb : X.base = base) : MethF X (T K) k "__neg__" mt___neg____Term 0 [] (gPos []) := by
  subst hP hw hK hm hb
  exact ⟨lk_all (.cons (by
    obtain ⟨fd, F, B⟩ := ok_Term____neg__ (P := X.prog) (w := X.w) c Y G
    exact ⟨_, _, fd, _, He.cls_ok (c.fact 30 (f := .he (.cls "Term")) rfl), He.meth_ok (c.fact 61 (f := .he (.meth "Term" "__neg__")) rfl), F, B, (by show _ ∉ fld 0; decide +kernel), Nat.le_trans (by decide) hk⟩) .nil)⟩
theorem me___abs____Term (c : Says K) (Y : K.In base) (G : base.Ns mainGlobals mg) {X : Cx} {k : Nat} (hk : 3 ≤ k) (hP : X.prog = P) (hw : X.w = w) (hK : X.K = K) (hm : X.mg = mg) (hb : X.base = base) : MethF X (T K) k "__abs__" mt___abs____Term 0 [] (gPos []) := by
  subst hP hw hK hm hb
  exact ⟨lk_all (.cons (by
    obtain ⟨fd, F, B⟩ := ok_Term____abs__ (P := X.prog) (w := X.w) c Y G
    exact ⟨_, _, fd, _, He.cls_ok (c.fact 30 (f := .he (.cls "Term")) rfl), He.meth_ok (c.fact 62 (f := .he (.meth "Term" "__abs__")) rfl), F, B, (by show _ ∉ fld 0; decide +kernel), Nat.le_trans (by decide) hk⟩) .nil)⟩
theorem du___add__ (c : Says K) (Y : K.In base) (G : base.Ns mainGlobals mg) {X : Cx} {k : Nat} (hk : 4 ≤ k) (hP : X.prog = P) (hw : X.w = w) (hK : X.K = K) (hm : X.mg = mg) (hb : X.base = base) : DunF X (T K) k .Add mt___add__ := by
  subst hP hw hK hm hb
  exact ⟨lk_all (.cons (by
    obtain ⟨fd, F, B⟩ := ok_Term____add__ (P := X.prog) (w := X.w) c Y G
    exact ⟨_, _, fd, _, He.cls_ok (c.fact 30 (f := .he (.cls "Term")) rfl), He.meth_ok (c.fact 64 (f := .he (.meth "Term" "__add__")) rfl), (c.fact 65 (f := .slf "Term") rfl), F, B, Nat.le_trans (by decide) hk⟩) .nil)⟩
theorem du___sub__ (c : Says K) (Y : K.In base) (G : base.Ns mainGlobals mg) {X : Cx} {k : Nat} (hk : 4 ≤ k) (hP : X.prog = P) (hw : X.w = w) (hK : X.K = K) (hm : X.mg = mg) (hb : X.base = base) : DunF X (T K) k .Sub mt___sub__ := by
  subst hP hw hK hm hb
  exact ⟨lk_all (.cons (by
    obtain ⟨fd, F, B⟩ := ok_Term____sub__ (P := X.prog) (w := X.w) c Y G
    exact ⟨_, _, fd, _, He.cls_ok (c.fact 30 (f := .he (.cls "Term")) rfl), He.meth_ok (c.fact 66 (f := .he (.meth "Term" "__sub__")) rfl), (c.fact 65 (f := .slf "Term") rfl), F, B, Nat.le_trans (by decide) hk⟩) .nil)⟩
theorem du___or__ (c : Says K) (Y : K.In base) (G : base.Ns mainGlobals mg) {X : Cx} {k : Nat} (hk : 4 ≤ k) (hP : X.prog = P) (hw : X.w = w) (hK : X.K = K) (hm : X.mg = mg) (hb : X.base = base) : DunF X (T K) k .BitOr mt___or__ := by
  subst hP hw hK hm hb
  exact ⟨lk_all (.cons (by
    obtain ⟨fd, F, B⟩ := ok_Term____or__ (P := X.prog) (w := X.w) c Y G
    exact ⟨_, _, fd, _, He.cls_ok (c.fact 30 (f := .he (.cls "Term")) rfl), He.meth_ok (c.fact 67 (f := .he (.meth "Term" "__or__")) rfl), (c.fact 65 (f := .slf "Term") rfl), F, B, Nat.le_trans (by decide) hk⟩) .nil)⟩
theorem du___and__ (c : Says K) (Y : K.In base) (G : base.Ns mainGlobals mg) {X : Cx} {k : Nat} (hk : 4 ≤ k) (hP : X.prog = P) (hw : X.w = w) (hK : X.K = K) (hm : X.mg = mg) (hb : X.base = base) : DunF X (T K) k .BitAnd mt___and__ := by
  subst hP hw hK hm hb
  exact ⟨lk_all (.cons (by
    obtain ⟨fd, F, B⟩ := ok_Term____and__ (P := X.prog) (w := X.w) c Y G
    exact ⟨_, _, fd, _, He.cls_ok (c.fact 30 (f := .he (.cls "Term")) rfl), He.meth_ok (c.fact 68 (f := .he (.meth "Term" "__and__")) rfl), (c.fact 65 (f := .slf "Term") rfl), F, B, Nat.le_trans (by decide) hk⟩) .nil)⟩
theorem mu___rmul____Term (c : Says K) (Y : K.In base) (G : base.Ns mainGlobals mg) {X : Cx} {k : Nat} (hk : 4 ≤ k) (hP : X.prog = P) (hw : X.w = w) (hK : X.K = K) (hm : X.mg = mg) (hb : X.base = base) : RmulF X (T K) k mt___rmul____Term := by
  subst hP hw hK hm hb
  exact ⟨lk_all (.cons (by
    obtain ⟨fd, F, B⟩ := ok_Term____rmul__ (P := X.prog) (w := X.w) c Y G
    exact ⟨_, _, fd, _, He.cls_ok (c.fact 30 (f := .he (.cls "Term")) rfl), He.meth_ok (c.fact 70 (f := .he (.meth "Term" "__rmul__")) rfl), (c.fact 65 (f := .slf "Term") rfl), F, B, Nat.le_trans (by decide) hk, ⟨_, (He.meth_ok (c.fact 69 (f := .he (.meth "Term" "__mul__")) rfl)).at_⟩, (nsb_ok (c.fact 71 (f := .nsb "Term") rfl)).1, (nsb_ok (c.fact 71 (f := .nsb "Term") rfl)).2⟩) .nil)⟩
theorem does__law_term (c : Says K) (Y : K.In base) (G : base.Ns mainGlobals mg) {j : Nat} {R : Fn} {fdR : FuncData} (F__law_term : FnP P w K mg base (T K) (6 + j) (d__law_term.adr K) fdR P__law_term R) (B__law_term_0 : Bn K (T K) fdR P__law_term 2 [] (gPos [])) : Does P w K mg base (T K) (6 + j) N__law_term "_law_term" (defScope s__law_term) (defBody s__law_term) (m__law_term R) := by
  obtain ⟨fd__law_leaf_term, F__law_leaf_term, B__law_leaf_term_0⟩ := ok__law_leaf_term (P := P) (w := w) c Y G
  intro f cdv A outer s H E C
  exact (ss_cons (s_ifS (st_cmp (cmp_eq C) (sv_idxV 0 sv_int) (so_of sv_str))
    (ss_cons (s_put C 2 (se_call C F__law_term (by omega) B__law_term_0 (gl__law_term c Y G) (sa_cons (sv_idxV 0 sv_int) (sa_cons (sv_var 1) sa_nil))))
    (ss_one (s_ret (s_if (st_cmp (cmp_eq C) (sv_idxV 0 sv_int) (so_of (sv_neg sv_int))) (se_negO (j := 3) C (by first | omega | decide) (me___neg____Term (P := P) c Y G (by first | omega | decide) rfl rfl rfl rfl rfl) (sv_var 2)) (se_mulR C (mu___rmul____Term (P := P) c Y G (by first | omega | decide) rfl rfl rfl rfl rfl) (sv_idxV 0 sv_int) (sv_var 2))))))
    ss_nil)
    (ss_cons (s_ifS (st_cmp (cmp_eq C) (sv_idxV 0 sv_int) (so_of sv_str))
    (ss_one (s_ret (se_absO (j := 3) C (by first | omega | decide) (me___abs____Term (P := P) c Y G (by first | omega | decide) rfl rfl rfl rfl rfl) (sv_of (se_call C F__law_term (by omega) B__law_term_0 (gl__law_term c Y G) (sa_cons (sv_idxV 0 sv_int) (sa_cons (sv_var 1) sa_nil)))) (fr_abs c Y G))))
    ss_nil)
    (ss_cons (s_ifS (st_cmp (cmp_nin) (sv_idxV 0 sv_int) (so_of (sv_tup (sa_cons sv_str (sa_cons sv_str (sa_cons sv_str (sa_cons sv_str sa_nil)))))))
    (ss_one (s_ret (se_call C F__law_leaf_term (by omega) B__law_leaf_term_0 (gl__law_leaf_term c Y G) (sa_cons (sv_var 0) (sa_cons (sv_var 1) sa_nil)))))
    ss_nil)
    (ss_cons (s_par2 C 3 4 (ses_cons (se_call C F__law_term (by omega) B__law_term_0 (gl__law_term c Y G) (sa_cons (sv_idxV 0 sv_int) (sa_cons (sv_var 1) sa_nil))) (ses_cons (se_call C F__law_term (by omega) B__law_term_0 (gl__law_term c Y G) (sa_cons (sv_idxV 0 sv_int) (sa_cons (sv_var 1) sa_nil))) ses_nil)))
    (ss_cons (s_ifS (st_cmp (cmp_eq C) (sv_idxV 0 sv_int) (so_of sv_str))
    (ss_one (s_ret (se_dun C (du___add__ (P := P) c Y G (by first | omega | decide) rfl rfl rfl rfl rfl) (sv_var 3) (sv_var 4))))
    ss_nil)
    (ss_cons (s_ifS (st_cmp (cmp_eq C) (sv_idxV 0 sv_int) (so_of sv_str))
    (ss_one (s_ret (se_dun C (du___sub__ (P := P) c Y G (by first | omega | decide) rfl rfl rfl rfl rfl) (sv_var 3) (sv_var 4))))
    ss_nil)
    (ss_one (s_ret (s_if (st_cmp (cmp_eq C) (sv_idxV 0 sv_int) (so_of sv_str)) (se_dun C (du___or__ (P := P) c Y G (by first | omega | decide) rfl rfl rfl rfl rfl) (sv_var 3) (sv_var 4)) (se_dun C (du___and__ (P := P) c Y G (by first | omega | decide) rfl rfl rfl rfl rfl) (sv_var 3) (sv_var 4)))))))))))
theorem ok__law_term (c : Says K) (Y : K.In base) (G : base.Ns mainGlobals mg) : ∃ fd : FuncData, FnP P w K mg base (T K) 11 (d__law_term.adr K) fd P__law_term f__law_term ∧ Bn K (T K) fd P__law_term 2 [] (gPos []) := by
  obtain ⟨fd, F⟩ := c.def_ 37 (d := d__law_term) rfl
  have B : Bn K (T K) fd P__law_term 2 [] (gPos []) := (bn_all (FunD.bindsN F fun _ _ _ _ _ _ us hl => match us, hl with | [_, _], _ => (by kernel_rfl)))
  have key : ∀ j, FnP P w K mg base (T K) (6 + j) (d__law_term.adr K) fd P__law_term (fr__law_term j) := by
    intro j
    induction j with
    | zero => exact ⟨fn_sim (k := 5) F sc__law_term (m := fun _ _ => .err) (fun f cdv A outer s H E C B w σ H2 fr h D R p => p.elim), F.kp⟩
    | succ j ih => exact ⟨fn_sim F sc__law_term (does__law_term c Y G ih B), F.kp⟩
  exact ⟨fd, key 5, B⟩
theorem does_Term____eq__ (c : Says K) (Y : K.In base) (G : base.Ns mainGlobals mg) : Does P w K mg base (T K) 0 N_Term____eq__ "Term.__eq__" (defScope s_Term____eq__) (defBody s_Term____eq__) m_Term____eq__ := by
  intro f cdv A outer s H E C
  exact (ss_cons (s_ifS (st_not (st_tru (so_of (sv_isi (isi_ok c) (sv_var 1) (sv_cls (c := 0) (gl_Term c Y G)) (fr_isinstance c Y G)))))
    (ss_one (s_ret (se_of sv_bl)))
    ss_nil)
    (ss_one (s_ret (se_of (sv_and (sv_cmp (cmp_eq C) (sv_fld (fd_readings c rfl) (so_var 0)) (so_of (sv_fld (fd_readings c rfl) (so_var 1)))) (sv_one (sv_cmp (cmp_eq C) (sv_fld (fd_node c rfl) (so_var 0)) (so_of (sv_fld (fd_node c rfl) (so_var 1))))))))))
theorem ok_Term____eq__ (c : Says K) (Y : K.In base) (G : base.Ns mainGlobals mg) : ∃ fd : FuncData, FnP P w K mg base (T K) 1 (d_Term____eq__.adr K) fd P_Term____eq__ f_Term____eq__ ∧ Bn K (T K) fd P_Term____eq__ 2 [] (gPos []) := by
  obtain ⟨fd, F⟩ := c.def_ 38 (d := d_Term____eq__) rfl
  exact ⟨fd, ⟨fn_sim F sc_Term____eq__ (does_Term____eq__ c Y G), F.kp⟩, (bn_all (FunD.bindsN F fun _ _ _ _ _ _ us hl => match us, hl with | [_, _], _ => (by kernel_rfl)))⟩
theorem does_write_leaf (c : Says K) (Y : K.In base) (G : base.Ns mainGlobals mg) : Does P w K mg base (T K) 0 N_write_leaf "write_leaf" (defScope s_write_leaf) (defBody s_write_leaf) m_write_leaf := by
  intro f cdv A outer s H E C
  exact (ss_cons (s_ifS (st_cmp (cmp_eq C) (sv_idxV 0 sv_int) (so_of sv_str))
    (ss_one (s_ret (se_of (sv_joined (sj_cons sv_str (sj_cons (sv_fmt (sv_idxV 0 sv_int)) (sj_cons sv_str (sj_cons (sv_fmt (sv_idxV 0 sv_int)) (sj_cons sv_str sj_nil)))))))))
    ss_nil)
    (ss_cons (s_putV C 1 (sv_joined (sj_cons (sv_fmt (sv_idxV 0 sv_int)) (sj_cons sv_str (sj_cons (sv_fmt (sv_idxV 0 sv_int)) (sj_cons sv_str (sj_cons (sv_fmt (sv_idxV 0 sv_int)) (sj_cons sv_str sj_nil))))))))
    (ss_cons (s_ifS (st_cmp (cmp_eq C) (sv_idxV 0 sv_int) (so_of sv_str))
    (ss_one (s_ret (se_of (sv_joined (sj_cons sv_str (sj_cons (sv_fmt (sv_idxV 0 sv_int)) (sj_cons sv_str (sj_cons (sv_fmt (sv_var 1)) (sj_cons sv_str sj_nil)))))))))
    ss_nil)
    (ss_one (s_ret (se_of (sv_joined (sj_cons (sv_fmt (sv_idxV 0 sv_int)) (sj_cons sv_str (sj_cons (sv_fmt (sv_var 1)) (sj_cons sv_str sj_nil)))))))))))
theorem ok_write_leaf (c : Says K) (Y : K.In base) (G : base.Ns mainGlobals mg) : ∃ fd : FuncData, FnP P w K mg base (T K) 1 (d_write_leaf.adr K) fd P_write_leaf f_write_leaf ∧ Bn K (T K) fd P_write_leaf 1 [] (gPos []) := by
  obtain ⟨fd, F⟩ := c.def_ 39 (d := d_write_leaf) rfl
  exact ⟨fd, ⟨fn_sim F sc_write_leaf (does_write_leaf c Y G), F.kp⟩, (bn_all (FunD.bindsN F fun _ _ _ _ _ _ us hl => match us, hl with | [_], _ => (by kernel_rfl)))⟩
theorem does_bracketed (c : Says K) (Y : K.In base) (G : base.Ns mainGlobals mg) {j : Nat} {R : Fn} {fdR : FuncData} (F_write : FnP P w K mg base (T K) (2 + 2 * j) (d_write.adr K) fdR P_write R) (B_write_0 : Bn K (T K) fdR P_write 1 [] (gPos [])) : Does P w K mg base (T K) (2 + 2 * j) N_bracketed "bracketed" (defScope s_bracketed) (defBody s_bracketed) (m_bracketed R) := by
  intro f cdv A outer s H E C
  exact (ss_cons (s_put C 2 (se_call C F_write (by omega) B_write_0 (gl_write c Y G) (sa_cons (sv_var 0) sa_nil)))
    (ss_one (s_ret (se_of (s_if (st_cmp (cmp_in) (sv_idxV 0 sv_int) (so_var 1)) (sv_joined (sj_cons sv_str (sj_cons (sv_fmt (sv_var 2)) (sj_cons sv_str sj_nil)))) (sv_var 2))))))
theorem ok_bracketed (c : Says K) (Y : K.In base) (G : base.Ns mainGlobals mg) {j : Nat} {R : Fn} {fdR : FuncData} (F_write : FnP P w K mg base (T K) (2 + 2 * j) (d_write.adr K) fdR P_write R) (B_write_0 : Bn K (T K) fdR P_write 1 [] (gPos [])) : ∃ fd : FuncData, FnP P w K mg base (T K) (2 + 2 * j + 1) (d_bracketed.adr K) fd P_bracketed (f_bracketed R) ∧ Bn K (T K) fd P_bracketed 2 [] (gPos []) := by
  obtain ⟨fd, F⟩ := c.def_ 40 (d := d_bracketed) rfl
  exact ⟨fd, ⟨fn_sim F sc_bracketed (does_bracketed c Y G F_write B_write_0), F.kp⟩, (bn_all (FunD.bindsN F fun _ _ _ _ _ _ us hl => match us, hl with | [_, _], _ => (by kernel_rfl)))⟩
theorem does_write (c : Says K) (Y : K.In base) (G : base.Ns mainGlobals mg) {j : Nat} {R : Fn} {fdR : FuncData} (F_write : FnP P w K mg base (T K) (2 + 2 * j) (d_write.adr K) fdR P_write R) (B_write_0 : Bn K (T K) fdR P_write 1 [] (gPos [])) : Does P w K mg base (T K) (2 + 2 * j + 1) N_write "write" (defScope s_write) (defBody s_write) (m_write R) := by
  obtain ⟨fd_bracketed, F_bracketed, B_bracketed_0⟩ := ok_bracketed (P := P) (w := w) c Y G F_write B_write_0
  obtain ⟨fd_write_leaf, F_write_leaf, B_write_leaf_0⟩ := ok_write_leaf (P := P) (w := w) c Y G
  intro f cdv A outer s H E C
  exact (ss_cons (s_match (sv_idxV 0 sv_int) (sm_cons (pat_or (pats_cons pat_val (pats_cons pat_val pats_nil))) (ss_one (s_ret (se_call C F_write_leaf (by omega) B_write_leaf_0 (gl_write_leaf c Y G) (sa_cons (sv_var 0) sa_nil))))
    (sm_cons pat_val (ss_one (s_ret (se_of (sv_joined (sj_cons sv_str (sj_cons (sv_fmt (sv_of (se_call C F_write (by omega) B_write_0 (gl_write c Y G) (sa_cons (sv_idxV 0 sv_int) sa_nil)))) (sj_cons sv_str sj_nil)))))))
    (sm_cons (pat_or (pats_cons pat_val (pats_cons pat_val pats_nil))) (ss_one (s_ret (se_of (sv_joined (sj_cons (sv_fmt (sv_idxV 0 sv_int)) (sj_cons sv_str (sj_cons (sv_fmt (sv_of (se_call C F_write (by omega) B_write_0 (gl_write c Y G) (sa_cons (sv_idxV 0 sv_int) sa_nil)))) (sj_cons sv_str (sj_cons (sv_fmt (sv_of (se_call C F_write (by omega) B_write_0 (gl_write c Y G) (sa_cons (sv_idxV 0 sv_int) sa_nil)))) (sj_cons sv_str sj_nil))))))))))
    (sm_cons pat_val (ss_cons (s_put C 1 (se_call C F_bracketed (by omega) B_bracketed_0 (gl_bracketed c Y G) (sa_cons (sv_idxV 0 sv_int) (sa_cons (sv_tup (sa_cons sv_str (sa_cons sv_str (sa_cons sv_str sa_nil)))) sa_nil))))
    (ss_one (s_ret (se_of (s_if (st_cmp (cmp_eq C) (sv_idxV 0 sv_int) (so_of (sv_neg sv_int))) (sv_joined (sj_cons sv_str (sj_cons (sv_fmt (sv_var 1)) sj_nil))) (sv_joined (sj_cons (sv_fmt (sv_idxV 0 sv_int)) (sj_cons sv_str (sj_cons (sv_fmt (sv_var 1)) sj_nil)))))))))
    sm_nil)))))
    (ss_cons (s_putV C 2 (s_if (st_cmp (cmp_eq C) (sv_idxV 0 sv_int) (so_of sv_str)) sv_str sv_str))
    (ss_cons (s_putV C 3 (sv_tup (sa_cons sv_str (sa_cons sv_str sa_nil))))
    (ss_cons (s_ifS (st_ww (sw_and (st_cmp (cmp_eq C) (sv_idx (sv_idxV 0 sv_int) sv_int) (so_of sv_str)) (sw_and1 (st_cmp cmp_lt (sv_idx (sv_idxV 0 sv_int) sv_int) sv_int))))
    (ss_one (s_putV C 3 (sv_tup (sa_cons sv_str sa_nil))))
    ss_nil)
    (ss_one (s_ret (se_of (sv_joined (sj_cons (sv_fmt (sv_of (se_call C F_write (by omega) B_write_0 (gl_write c Y G) (sa_cons (sv_idxV 0 sv_int) sa_nil)))) (sj_cons sv_str (sj_cons (sv_fmt (sv_var 2)) (sj_cons sv_str (sj_cons (sv_fmt (sv_of (se_call C F_bracketed (by omega) B_bracketed_0 (gl_bracketed c Y G) (sa_cons (sv_idxV 0 sv_int) (sa_cons (sv_var 3) sa_nil))))) sj_nil)))))))))))))
theorem ok_write (c : Says K) (Y : K.In base) (G : base.Ns mainGlobals mg) : ∃ fd : FuncData, FnP P w K mg base (T K) 14 (d_write.adr K) fd P_write f_write ∧ Bn K (T K) fd P_write 1 [] (gPos []) := by
  obtain ⟨fd, F⟩ := c.def_ 41 (d := d_write) rfl
  have B : Bn K (T K) fd P_write 1 [] (gPos []) := (bn_all (FunD.bindsN F fun _ _ _ _ _ _ us hl => match us, hl with | [_], _ => (by kernel_rfl)))
  have key : ∀ j, FnP P w K mg base (T K) (2 + 2 * j) (d_write.adr K) fd P_write (fr_write j) := by
    intro j
    induction j with
    | zero => exact ⟨fn_sim (k := 1) F sc_write (m := fun _ _ => .err) (fun f cdv A outer s H E C B w σ H2 fr h D R p => p.elim), F.kp⟩
    | succ j ih => exact ⟨fn_sim F sc_write (does_write c Y G ih B), F.kp⟩
  exact ⟨fd, key 6, B⟩
theorem does_Term__text (c : Says K) (Y : K.In base) (G : base.Ns mainGlobals mg) : Does P w K mg base (T K) 14 N_Term__text "Term.text" (defScope s_Term__text) (defBody s_Term__text) m_Term__text := by
  obtain ⟨fd_write, F_write, B_write_0⟩ := ok_write (P := P) (w := w) c Y G
  intro f cdv A outer s H E C
  exact (ss_one (s_ret (se_call C F_write (by decide) B_write_0 (gl_write c Y G) (sa_cons (sv_fld (fd_node c rfl) (so_var 0)) sa_nil))))
theorem ok_Term__text (c : Says K) (Y : K.In base) (G : base.Ns mainGlobals mg) : ∃ fd : FuncData, FnP P w K mg base (T K) 15 (d_Term__text.adr K) fd P_Term__text f_Term__text ∧ Binds K fd P_Term__text [] := by
  obtain ⟨fd, F⟩ := c.def_ 42 (d := d_Term__text) rfl
  exact ⟨fd, ⟨fn_sim F sc_Term__text (does_Term__text c Y G), F.kp⟩, (FunD.bindsN F fun _ _ _ _ _ _ us hl => match us, hl with | [_], _ => (by kernel_rfl))⟩
theorem does__law_leaf_text (c : Says K) (Y : K.In base) (G : base.Ns mainGlobals mg) : Does P w K mg base (T K) 0 N__law_leaf_text "_law_leaf_text" (defScope s__law_leaf_text) (defBody s__law_leaf_text) m__law_leaf_text := by
  intro f cdv A outer s H E C
  exact (ss_cons (s_ifS (st_cmp (cmp_eq C) (sv_idxV 0 sv_int) (so_of sv_str))
    (ss_one (s_ret (se_add (sv_of (se_add (sv_of (se_add (sv_of (se_add sv_str (sv_str1 (sv_idxV 0 sv_int) (fr_str c Y G)))) sv_str)) (sv_str1 (sv_idxV 0 sv_int) (fr_str c Y G)))) sv_str)))
    ss_nil)
    (ss_cons (s_put C 1 (se_add (sv_of (se_add (sv_of (se_add (sv_of (se_add (sv_of (se_add (sv_idxV 0 sv_int) sv_str)) (sv_str1 (sv_idxV 0 sv_int) (fr_str c Y G)))) sv_str)) (sv_str1 (sv_idxV 0 sv_int) (fr_str c Y G)))) sv_str))
    (ss_cons (s_ifS (st_cmp (cmp_eq C) (sv_idxV 0 sv_int) (so_of sv_str))
    (ss_one (s_ret (se_add (sv_of (se_add (sv_of (se_add (sv_of (se_add sv_str (sv_idxV 0 sv_int))) sv_str)) (sv_var 1))) sv_str)))
    ss_nil)
    (ss_one (s_ret (se_add (sv_of (se_add (sv_of (se_add (sv_idxV 0 sv_int) sv_str)) (sv_var 1))) sv_str))))))
theorem ok__law_leaf_text (c : Says K) (Y : K.In base) (G : base.Ns mainGlobals mg) : ∃ fd : FuncData, FnP P w K mg base (T K) 1 (d__law_leaf_text.adr K) fd P__law_leaf_text f__law_leaf_text ∧ Bn K (T K) fd P__law_leaf_text 1 [] (gPos []) := by
  obtain ⟨fd, F⟩ := c.def_ 43 (d := d__law_leaf_text) rfl
  exact ⟨fd, ⟨fn_sim F sc__law_leaf_text (does__law_leaf_text c Y G), F.kp⟩, (bn_all (FunD.bindsN F fun _ _ _ _ _ _ us hl => match us, hl with | [_], _ => (by kernel_rfl)))⟩
theorem does__law_text (c : Says K) (Y : K.In base) (G : base.Ns mainGlobals mg) {j : Nat} {R : Fn} {fdR : FuncData} (F__law_text : FnP P w K mg base (T K) (2 + j) (d__law_text.adr K) fdR P__law_text R) (B__law_text_0 : Bn K (T K) fdR P__law_text 1 [] (gPos [])) : Does P w K mg base (T K) (2 + j) N__law_text "_law_text" (defScope s__law_text) (defBody s__law_text) (m__law_text R) := by
  obtain ⟨fd__law_leaf_text, F__law_leaf_text, B__law_leaf_text_0⟩ := ok__law_leaf_text (P := P) (w := w) c Y G
  intro f cdv A outer s H E C
  exact (ss_cons (s_ifS (st_cmp (cmp_eq C) (sv_idxV 0 sv_int) (so_of sv_str))
    (ss_cons (s_put C 1 (se_call C F__law_text (by omega) B__law_text_0 (gl__law_text c Y G) (sa_cons (sv_idxV 0 sv_int) sa_nil)))
    (ss_cons (s_ifS (st_cmp (cmp_in) (sv_idx (sv_idxV 0 sv_int) sv_int) (so_of (sv_tup (sa_cons sv_str (sa_cons sv_str (sa_cons sv_str sa_nil))))))
    (ss_one (s_put C 1 (se_add (sv_of (se_add sv_str (sv_var 1))) sv_str)))
    ss_nil)
    (ss_one (s_ret (s_if (st_cmp (cmp_eq C) (sv_idxV 0 sv_int) (so_of (sv_neg sv_int))) (se_add sv_str (sv_var 1)) (se_add (sv_of (se_add (sv_str1 (sv_idxV 0 sv_int) (fr_str c Y G)) sv_str)) (sv_var 1)))))))
    ss_nil)
    (ss_cons (s_ifS (st_cmp (cmp_eq C) (sv_idxV 0 sv_int) (so_of sv_str))
    (ss_one (s_ret (se_add (sv_of (se_add sv_str (sv_of (se_call C F__law_text (by omega) B__law_text_0 (gl__law_text c Y G) (sa_cons (sv_idxV 0 sv_int) sa_nil))))) sv_str)))
    ss_nil)
    (ss_cons (s_ifS (st_cmp (cmp_in) (sv_idxV 0 sv_int) (so_of (sv_tup (sa_cons sv_str (sa_cons sv_str sa_nil)))))
    (ss_one (s_ret (se_add (sv_of (se_add (sv_of (se_add (sv_of (se_add (sv_of (se_add (sv_idxV 0 sv_int) sv_str)) (sv_of (se_call C F__law_text (by omega) B__law_text_0 (gl__law_text c Y G) (sa_cons (sv_idxV 0 sv_int) sa_nil))))) sv_str)) (sv_of (se_call C F__law_text (by omega) B__law_text_0 (gl__law_text c Y G) (sa_cons (sv_idxV 0 sv_int) sa_nil))))) sv_str)))
    ss_nil)
    (ss_cons (s_ifS (st_cmp (cmp_nin) (sv_idxV 0 sv_int) (so_of (sv_tup (sa_cons sv_str (sa_cons sv_str sa_nil)))))
    (ss_one (s_ret (se_call C F__law_leaf_text (by omega) B__law_leaf_text_0 (gl__law_leaf_text c Y G) (sa_cons (sv_var 0) sa_nil))))
    ss_nil)
    (ss_cons (s_put C 2 (se_call C F__law_text (by omega) B__law_text_0 (gl__law_text c Y G) (sa_cons (sv_idxV 0 sv_int) sa_nil)))
    (ss_cons (s_ifS (st_ww (sw_or (st_cmp (cmp_in) (sv_idx (sv_idxV 0 sv_int) sv_int) (so_of (sv_tup (sa_cons sv_str (sa_cons sv_str sa_nil))))) (sw_or1 (st_ww (sw_and (st_cmp (cmp_eq C) (sv_idx (sv_idxV 0 sv_int) sv_int) (so_of sv_str)) (sw_and1 (st_cmp cmp_lt (sv_idx (sv_idxV 0 sv_int) sv_int) sv_int)))))))
    (ss_one (s_put C 2 (se_add (sv_of (se_add sv_str (sv_var 2))) sv_str)))
    ss_nil)
    (ss_one (s_ret (se_add (sv_of (se_add (sv_of (se_add (sv_of (se_add (sv_of (se_call C F__law_text (by omega) B__law_text_0 (gl__law_text c Y G) (sa_cons (sv_idxV 0 sv_int) sa_nil))) sv_str)) (sv_idxV 0 sv_int))) sv_str)) (sv_var 2))))))))))
theorem ok__law_text (c : Says K) (Y : K.In base) (G : base.Ns mainGlobals mg) : ∃ fd : FuncData, FnP P w K mg base (T K) 8 (d__law_text.adr K) fd P__law_text f__law_text ∧ Bn K (T K) fd P__law_text 1 [] (gPos []) := by
  obtain ⟨fd, F⟩ := c.def_ 44 (d := d__law_text) rfl
  have B : Bn K (T K) fd P__law_text 1 [] (gPos []) := (bn_all (FunD.bindsN F fun _ _ _ _ _ _ us hl => match us, hl with | [_], _ => (by kernel_rfl)))
  have key : ∀ j, FnP P w K mg base (T K) (2 + j) (d__law_text.adr K) fd P__law_text (fr__law_text j) := by
    intro j
    induction j with
    | zero => exact ⟨fn_sim (k := 1) F sc__law_text (m := fun _ _ => .err) (fun f cdv A outer s H E C B w σ H2 fr h D R p => p.elim), F.kp⟩
    | succ j ih => exact ⟨fn_sim F sc__law_text (does__law_text c Y G ih B), F.kp⟩
  exact ⟨fd, key 6, B⟩
theorem pr_text (c : Says K) (Y : K.In base) (G : base.Ns mainGlobals mg) {X : Cx} {k : Nat} (hk : 16 ≤ k) (hP : X.prog = P) (hw : X.w = w) (hK : X.K = K) (hm : X.mg = mg) (hb : X.base = base) : PropF X (T K) k "text" pt_text := by
  subst hP hw hK hm hb
  exact ⟨lk_all (.cons (by
    obtain ⟨fd, F, B⟩ := ok_Term__text (P := X.prog) (w := X.w) c Y G
    exact ⟨_, _, _, fd, _, He.cls_ok (c.fact 30 (f := .he (.cls "Term")) rfl), prop_ok (c.fact 44 (f := .prop "Term" "text") rfl), F, B, rfl, Nat.le_trans (by decide) hk⟩) .nil)⟩
theorem does__law_is (c : Says K) (Y : K.In base) (G : base.Ns mainGlobals mg) : Does P w K mg base (T K) 16 N__law_is "_law_is" (defScope s__law_is) (defBody s__law_is) m__law_is := by
  obtain ⟨fd__law_text, F__law_text, B__law_text_0⟩ := ok__law_text (P := P) (w := w) c Y G
  intro f cdv A outer s H E C
  exact (ss_one (s_ret (se_of (sv_and (sv_isi (isi_ok c) (sv_var 0) (sv_cls (c := 0) (gl_Term c Y G)) (fr_isinstance c Y G)) (sv_and (sv_cmp (cmp_eq C) (sv_of (se_prop C (pr_text (P := P) c Y G (by decide) rfl rfl rfl rfl rfl) (sv_var 0))) (so_ofE (se_call C F__law_text (by decide) B__law_text_0 (gl__law_text c Y G) (sa_cons (sv_var 1) sa_nil)))) (sv_one (sv_cmp (cmp_eq C) (sv_fld (fd_readings c rfl) (so_var 0)) (so_var 2))))))))
theorem ok__law_is (c : Says K) (Y : K.In base) (G : base.Ns mainGlobals mg) : ∃ fd : FuncData, FnP P w K mg base (T K) 17 (d__law_is.adr K) fd P__law_is f__law_is ∧ Bn K (T K) fd P__law_is 3 [] (gPos []) := by
  obtain ⟨fd, F⟩ := c.def_ 45 (d := d__law_is) rfl
  exact ⟨fd, ⟨fn_sim F sc__law_is (does__law_is c Y G), F.kp⟩, (bn_all (FunD.bindsN F fun _ _ _ _ _ _ us hl => match us, hl with | [_, _, _], _ => (by kernel_rfl)))⟩
theorem me___eq____Term (c : Says K) (Y : K.In base) (G : base.Ns mainGlobals mg) {X : Cx} {k : Nat} (hk : 1 ≤ k) (hP : X.prog = P) (hw : X.w = w) (hK : X.K = K) (hm : X.mg = mg) (hb : X.base = base) : MethF X (T K) k "__eq__" mt___eq____Term 1 [] (gPos []) := by
  subst hP hw hK hm hb
  exact ⟨lk_all (.cons (by
    obtain ⟨fd, F, B⟩ := ok_Term____eq__ (P := X.prog) (w := X.w) c Y G
    exact ⟨_, _, fd, _, He.cls_ok (c.fact 30 (f := .he (.cls "Term")) rfl), He.meth_ok (c.fact 63 (f := .he (.meth "Term" "__eq__")) rfl), F, B, (by show _ ∉ fld 0; decide +kernel), Nat.le_trans (by decide) hk⟩) .nil)⟩
theorem does_law (c : Says K) (Y : K.In base) (G : base.Ns mainGlobals mg) : Does P w K mg base (T K) 17 N_law "law" (defScope s_law) (defBody s_law) m_law := by
  obtain ⟨fd__law_draw, F__law_draw, B__law_draw_0⟩ := ok__law_draw (P := P) (w := w) c Y G
  obtain ⟨fd__law_is, F__law_is, B__law_is_0⟩ := ok__law_is (P := P) (w := w) c Y G
  obtain ⟨fd__law_leaf_term, F__law_leaf_term, B__law_leaf_term_0⟩ := ok__law_leaf_term (P := P) (w := w) c Y G
  obtain ⟨fd__law_of, F__law_of, B__law_of_0⟩ := ok__law_of (P := P) (w := w) c Y G
  obtain ⟨fd__law_source, F__law_source, B__law_source_0⟩ := ok__law_source (P := P) (w := w) c Y G
  obtain ⟨fd__law_term, F__law_term, B__law_term_0⟩ := ok__law_term (P := P) (w := w) c Y G
  obtain ⟨fd__law_text, F__law_text, B__law_text_0⟩ := ok__law_text (P := P) (w := w) c Y G
  obtain ⟨fd__law_tree, F__law_tree, B__law_tree_0⟩ := ok__law_tree (P := P) (w := w) c Y G
  intro f cdv A outer s H E C
  exact (ss_cons (s_for C (si_rng1 (sv_max2 C sv_int (sv_min2 C sv_int (sv_len (so_var 0) (fr_len c Y G)) (fr_min c Y G)) (fr_max c Y G)) (fr_range c Y G)) (sg_name C 1)
    (ss_cons (s_putV C 2 (sv_cell (se_call C F__law_source (by decide) B__law_source_0 (gl__law_source c Y G) (sa_cons (sv_var 0) (sa_cons (sv_var 1) sa_nil)))))
    (ss_cons (s_put C 3 (se_add sv_int (sv_of (se_call C F__law_draw (by decide) B__law_draw_0 (gl__law_draw c Y G) (sa_cons (sv_var 2) (sa_cons sv_int sa_nil))))))
    (ss_cons (s_par2 C 4 5 (ses_cons (se_call C F__law_tree (by decide) B__law_tree_0 (gl__law_tree c Y G) (sa_cons (sv_var 2) (sa_cons (sv_var 3) (sa_cons sv_int sa_nil)))) (ses_cons (se_call C F__law_tree (by decide) B__law_tree_0 (gl__law_tree c Y G) (sa_cons (sv_var 2) (sa_cons (sv_var 3) (sa_cons sv_int sa_nil)))) ses_nil)))
    (ss_cons (s_par2 C 6 7 (ses_cons (se_call C F__law_term (by decide) B__law_term_0 (gl__law_term c Y G) (sa_cons (sv_var 4) (sa_cons (sv_var 3) sa_nil))) (ses_cons (se_call C F__law_term (by decide) B__law_term_0 (gl__law_term c Y G) (sa_cons (sv_var 5) (sa_cons (sv_var 3) sa_nil))) ses_nil)))
    (ss_cons (s_ifS (st_ww (sw_or (st_not (st_tru (so_ofE (se_call C F__law_is (by decide) B__law_is_0 (gl__law_is c Y G) (sa_cons (sv_var 6) (sa_cons (sv_var 4) (sa_cons (sv_var 3) sa_nil))))))) (sw_or (st_not (st_tru (so_ofE (se_call C F__law_is (by decide) B__law_is_0 (gl__law_is c Y G) (sa_cons (sv_var 7) (sa_cons (sv_var 5) (sa_cons (sv_var 3) sa_nil))))))) (sw_or1 (st_cmp (cmp_ne C) (sv_ccon (c := 0) (cc_Term_MOST c rfl) (gl_Term c Y G)) (so_of sv_int))))))
    (ss_one (s_ret (se_of sv_bl)))
    ss_nil)
    (ss_cons (s_put C 8 (se_call C F__law_of (by decide) B__law_of_0 (gl__law_of c Y G) (sa_cons (sv_var 2) (sa_cons (sv_of (se_lst (sa_cons (sv_of (se_call C F__law_draw (by decide) B__law_draw_0 (gl__law_draw c Y G) (sa_cons (sv_var 2) (sa_cons sv_int sa_nil)))) (sa_cons sv_int (sa_cons (sv_neg sv_int) (sa_cons (sv_neg sv_int) (sa_cons sv_int (sa_cons sv_int (sa_cons (sv_neg (sv_of (se_call C F__law_draw (by decide) B__law_draw_0 (gl__law_draw c Y G) (sa_cons (sv_var 2) (sa_cons sv_int sa_nil))))) sa_nil))))))))) sa_nil))))
    (ss_cons (s_ifS (st_ww (sw_or (st_not (st_tru (so_ofE (se_call C F__law_is (by decide) B__law_is_0 (gl__law_is c Y G) (sa_cons (sv_of (se_dun C (du___add__ (P := P) c Y G (by decide) rfl rfl rfl rfl rfl) (sv_var 6) (sv_var 7))) (sa_cons (sv_tup (sa_cons sv_str (sa_cons (sv_var 4) (sa_cons (sv_var 5) sa_nil)))) (sa_cons (sv_var 3) sa_nil))))))) (sw_or1 (st_not (st_tru (so_ofE (se_call C F__law_is (by decide) B__law_is_0 (gl__law_is c Y G) (sa_cons (sv_of (se_dun C (du___sub__ (P := P) c Y G (by decide) rfl rfl rfl rfl rfl) (sv_var 7) (sv_var 6))) (sa_cons (sv_tup (sa_cons sv_str (sa_cons (sv_var 5) (sa_cons (sv_var 4) sa_nil)))) (sa_cons (sv_var 3) sa_nil))))))))))
    (ss_one (s_ret (se_of sv_bl)))
    ss_nil)
    (ss_cons (s_ifS (st_ww (sw_or (st_not (st_tru (so_ofE (se_call C F__law_is (by decide) B__law_is_0 (gl__law_is c Y G) (sa_cons (sv_of (se_dun C (du___or__ (P := P) c Y G (by decide) rfl rfl rfl rfl rfl) (sv_var 6) (sv_var 7))) (sa_cons (sv_tup (sa_cons sv_str (sa_cons (sv_var 4) (sa_cons (sv_var 5) sa_nil)))) (sa_cons (sv_var 3) sa_nil))))))) (sw_or1 (st_not (st_tru (so_ofE (se_call C F__law_is (by decide) B__law_is_0 (gl__law_is c Y G) (sa_cons (sv_of (se_dun C (du___and__ (P := P) c Y G (by decide) rfl rfl rfl rfl rfl) (sv_var 7) (sv_var 6))) (sa_cons (sv_tup (sa_cons sv_str (sa_cons (sv_var 5) (sa_cons (sv_var 4) sa_nil)))) (sa_cons (sv_var 3) sa_nil))))))))))
    (ss_one (s_ret (se_of sv_bl)))
    ss_nil)
    (ss_cons (s_ifS (st_ww (sw_or (st_not (st_tru (so_ofE (se_call C F__law_is (by decide) B__law_is_0 (gl__law_is c Y G) (sa_cons (sv_of (se_negO (j := 3) C (by decide) (me___neg____Term (P := P) c Y G (by decide) rfl rfl rfl rfl rfl) (sv_var 6))) (sa_cons (sv_tup (sa_cons sv_str (sa_cons (sv_neg sv_int) (sa_cons (sv_var 4) sa_nil)))) (sa_cons (sv_var 3) sa_nil))))))) (sw_or1 (st_not (st_tru (so_ofE (se_call C F__law_is (by decide) B__law_is_0 (gl__law_is c Y G) (sa_cons (sv_of (se_absO (j := 3) C (by decide) (me___abs____Term (P := P) c Y G (by decide) rfl rfl rfl rfl rfl) (sv_var 7) (fr_abs c Y G))) (sa_cons (sv_tup (sa_cons sv_str (sa_cons (sv_var 5) sa_nil))) (sa_cons (sv_var 3) sa_nil))))))))))
    (ss_one (s_ret (se_of sv_bl)))
    ss_nil)
    (ss_cons (s_ifS (st_ww (sw_or (st_not (st_tru (so_ofE (se_call C F__law_is (by decide) B__law_is_0 (gl__law_is c Y G) (sa_cons (sv_of (se_mulL C (mu___mul____Term (P := P) c Y G (by decide) rfl rfl rfl rfl rfl) (sv_var 6) (sv_var 8))) (sa_cons (sv_tup (sa_cons sv_str (sa_cons (sv_var 8) (sa_cons (sv_var 4) sa_nil)))) (sa_cons (sv_var 3) sa_nil))))))) (sw_or1 (st_not (st_tru (so_ofE (se_call C F__law_is (by decide) B__law_is_0 (gl__law_is c Y G) (sa_cons (sv_of (se_mulR C (mu___rmul____Term (P := P) c Y G (by decide) rfl rfl rfl rfl rfl) (sv_var 8) (sv_var 7))) (sa_cons (sv_tup (sa_cons sv_str (sa_cons (sv_var 8) (sa_cons (sv_var 5) sa_nil)))) (sa_cons (sv_var 3) sa_nil))))))))))
    (ss_one (s_ret (se_of sv_bl)))
    ss_nil)
    (ss_cons (s_ifS (st_ww (sw_or (st_not (st_tru (so_ofE (se_call C F__law_is (by decide) B__law_is_0 (gl__law_is c Y G) (sa_cons (sv_var 6) (sa_cons (sv_var 4) (sa_cons (sv_var 3) sa_nil))))))) (sw_or1 (st_not (st_tru (so_ofE (se_call C F__law_is (by decide) B__law_is_0 (gl__law_is c Y G) (sa_cons (sv_var 7) (sa_cons (sv_var 5) (sa_cons (sv_var 3) sa_nil))))))))))
    (ss_one (s_ret (se_of sv_bl)))
    ss_nil)
    (ss_cons (s_ifS (st_ww (sw_or (st_cmp (cmp_ne C) (sv_cmpM (cmp_eqI (j := 1) C (by decide) (me___eq____Term (P := P) c Y G (by decide) rfl rfl rfl rfl rfl) (eq___eq____Term c rfl)) (sv_var 6) (sv_var 7)) (so_of (sv_cmp (cmp_eq C) (sv_of (se_call C F__law_text (by decide) B__law_text_0 (gl__law_text c Y G) (sa_cons (sv_var 4) sa_nil))) (so_ofE (se_call C F__law_text (by decide) B__law_text_0 (gl__law_text c Y G) (sa_cons (sv_var 5) sa_nil)))))) (sw_or1 (st_not (st_cmpM (cmp_eqI (j := 1) C (by decide) (me___eq____Term (P := P) c Y G (by decide) rfl rfl rfl rfl rfl) (eq___eq____Term c rfl)) (sv_var 6) (sv_of (se_call C F__law_term (by decide) B__law_term_0 (gl__law_term c Y G) (sa_cons (sv_var 4) (sa_cons (sv_var 3) sa_nil)))))))))
    (ss_one (s_ret (se_of sv_bl)))
    ss_nil)
    (ss_cons (s_putV C 9 (s_if (st_cmp cmp_lt (sv_var 3) sv_int) sv_int sv_int))
    (ss_one (s_ifS (st_ww (sw_and (st_cmp (cmp_eq C) (sv_idxV 4 sv_int) (so_of sv_str)) (sw_and (st_cmp cmp_le (sv_idxV 4 (sv_neg sv_int)) (sv_var 9)) (sw_and1 (st_cmpM (cmp_eqI (j := 1) C (by decide) (me___eq____Term (P := P) c Y G (by decide) rfl rfl rfl rfl rfl) (eq___eq____Term c rfl)) (sv_var 6) (sv_of (se_call C F__law_leaf_term (by decide) B__law_leaf_term_0 (gl__law_leaf_term c Y G) (sa_cons (sv_var 4) (sa_cons (sv_var 9) sa_nil)))))))))
    (ss_one (s_ret (se_of sv_bl)))
    ss_nil))))))))))))))))
    (ss_one (s_ret (se_of sv_bl))))
end
end L

namespace L
open PySem PySem.Spec L2 Pk
theorem w__law_leaf_k5 {fr : Fr} {h : Hh} {Q : Fl → Fr → Hh → Prop} {E : Exn → Fr → Hh → Prop} : Wp (m__law_leaf_k5 fr h) Q E = Wp ((
    (mSeq (mPut 5 (mCall 2 0 f__law_of (gPos []) (mArgs [(mVar 0), (mFz (mLst [(mC (.str "rises")), (mC (.str "rises")), (mC (.str "told")), (mC (.str "first")), (mC (.str "last")), (mC (.str "top")), (mC (.str "low")), (mC (.str "change"))]))]) (mArgs [])))
    (mRet (mTup [(mC (.str "each")), (mVar 5), (mFz (mIf (mOp cEq (mVar 5) (mC (.str "told"))) (mC (.str "raw")) (mCall 2 0 f__law_of (gPos []) (mArgs [(mVar 0), (mFz (mLst [(mC (.str "raw")), (mC (.str "zero")), (mC (.str "held"))]))]) (mArgs [])))), (mVar 2), (mVar 3)])))) fr h) Q E := congrArg (fun m => Wp (m fr h) Q E) m__law_leaf_k5.eq_1
theorem w__law_leaf_k4 {fr : Fr} {h : Hh} {Q : Fl → Fr → Hh → Prop} {E : Exn → Fr → Hh → Prop} : Wp (m__law_leaf_k4 fr h) Q E = Wp ((
    (mSeq (mIfS (mOp cLt (mVar 4) (mC (.int 4)))
    (mSeq (mPut 5 (mCall 2 0 f__law_of (gPos []) (mArgs [(mVar 0), (mFz (mLst [(mC (.str "rises")), (mC (.str "rises")), (mC (.str "first")), (mC (.str "last")), (mC (.str "change"))]))]) (mArgs [])))
    (mRet (mTup [(mC (.str "all")), (mVar 5), (mFz (mCall 2 0 f__law_of (gPos []) (mArgs [(mVar 0), (mFz (mLst [(mC (.str "zero")), (mC (.str "held"))]))]) (mArgs []))), (mVar 2), (mVar 3)])))
    (M.ret .nx))
    m__law_leaf_k5)) fr h) Q E := congrArg (fun m => Wp (m fr h) Q E) m__law_leaf_k4.eq_1
theorem w__law_leaf_k3 {fr : Fr} {h : Hh} {Q : Fl → Fr → Hh → Prop} {E : Exn → Fr → Hh → Prop} : Wp (m__law_leaf_k3 fr h) Q E = Wp ((
    (mSeq (mIfS (mOp cEq (mVar 4) (mC (.int 0)))
    (mRet (mTup [(mC (.str "true")), (mVar 2), (mVar 3)]))
    (M.ret .nx))
    m__law_leaf_k4)) fr h) Q E := congrArg (fun m => Wp (m fr h) Q E) m__law_leaf_k3.eq_1
theorem w__law_leaf_k2 {fr : Fr} {h : Hh} {Q : Fl → Fr → Hh → Prop} {E : Exn → Fr → Hh → Prop} : Wp (m__law_leaf_k2 fr h) Q E = Wp ((
    (mSeq (mPut 4 (mCall 2 0 f__law_draw (gPos []) (mArgs [(mVar 0), (mC (.int 8))]) (mArgs [])))
    m__law_leaf_k3)) fr h) Q E := congrArg (fun m => Wp (m fr h) Q E) m__law_leaf_k2.eq_1
theorem w__law_leaf_k1 {fr : Fr} {h : Hh} {Q : Fl → Fr → Hh → Prop} {E : Exn → Fr → Hh → Prop} : Wp (m__law_leaf_k1 fr h) Q E = Wp ((
    (mSeq (mPut 3 (mIf (mOp cEq (mFz (mCall 2 0 f__law_draw (gPos []) (mArgs [(mVar 0), (mC (.int 2))]) (mArgs []))) (mC (.int 1))) (mOp bAdd (mFz (mOp bAdd (mVar 2) (mC (.int 1)))) (mFz (mCall 2 0 f__law_draw (gPos []) (mArgs [(mVar 0), (mOp bSub (mVar 1) (mVar 2))]) (mArgs [])))) (mVar 1)))
    m__law_leaf_k2)) fr h) Q E := congrArg (fun m => Wp (m fr h) Q E) m__law_leaf_k1.eq_1
theorem w__law_leaf {fr : Fr} {h : Hh} {Q : Fl → Fr → Hh → Prop} {E : Exn → Fr → Hh → Prop} : Wp (m__law_leaf fr h) Q E = Wp ((
    (mSeq (mPut 2 (mIf (mOp cEq (mFz (mCall 2 0 f__law_draw (gPos []) (mArgs [(mVar 0), (mC (.int 2))]) (mArgs []))) (mC (.int 1))) (mCall 2 0 f__law_draw (gPos []) (mArgs [(mVar 0), (mVar 1)]) (mArgs [])) (mC (.int 0))))
    m__law_leaf_k1)) fr h) Q E := congrArg (fun m => Wp (m fr h) Q E) m__law_leaf.eq_1
theorem w__law_tree_k4 {R : Fn} {fr : Fr} {h : Hh} {Q : Fl → Fr → Hh → Prop} {E : Exn → Fr → Hh → Prop} : Wp (m__law_tree_k4 R fr h) Q E = Wp ((
    (mSeq (mPut 4 (mCall 3 0 R (gPos []) (mArgs [(mVar 0), (mVar 1), (mOp bSub (mVar 2) (mC (.int 1)))]) (mArgs [])))
    (mRet (mTup [(mOp bIdx (mFz (mLst [(mC (.str "+")), (mC (.str "-")), (mC (.str "max")), (mC (.str "min"))])) (mOp bSub (mVar 3) (mC (.int 5)))), (mVar 4), (mFz (mCall 3 0 R (gPos []) (mArgs [(mVar 0), (mVar 1), (mOp bSub (mVar 2) (mC (.int 1)))]) (mArgs [])))])))) fr h) Q E := congrArg (fun m => Wp (m fr h) Q E) (m__law_tree_k4.eq_1 R)
theorem w__law_tree_k3 {R : Fn} {fr : Fr} {h : Hh} {Q : Fl → Fr → Hh → Prop} {E : Exn → Fr → Hh → Prop} : Wp (m__law_tree_k3 R fr h) Q E = Wp ((
    (mSeq (mIfS (mOp cEq (mVar 3) (mC (.int 4)))
    (mRet (mTup [(mC (.str "abs")), (mFz (mCall 3 0 R (gPos []) (mArgs [(mVar 0), (mVar 1), (mOp bSub (mVar 2) (mC (.int 1)))]) (mArgs [])))]))
    (M.ret .nx))
    (m__law_tree_k4 R))) fr h) Q E := congrArg (fun m => Wp (m fr h) Q E) (m__law_tree_k3.eq_1 R)
theorem w__law_tree_k2 {R : Fn} {fr : Fr} {h : Hh} {Q : Fl → Fr → Hh → Prop} {E : Exn → Fr → Hh → Prop} : Wp (m__law_tree_k2 R fr h) Q E = Wp ((
    (mSeq (mIfS (mOp cEq (mVar 3) (mC (.int 3)))
    (mRet (mTup [(mC (.str "*")), (mFz (mCall 2 0 f__law_of (gPos []) (mArgs [(mVar 0), (mFz (mLst [(mUn (fun _ => bNeg) (mC (.int 1))), (mUn (fun _ => bNeg) (mC (.int 1))), (mC (.int 2)), (mC (.int 3)), (mUn (fun _ => bNeg) (mC (.int 3))), (mC (.int 0)), (mC (.int 1)), (mUn (fun _ => bNeg) (mC (.int 7))), (mC (.int 10))]))]) (mArgs []))), (mFz (mCall 3 0 R (gPos []) (mArgs [(mVar 0), (mVar 1), (mOp bSub (mVar 2) (mC (.int 1)))]) (mArgs [])))]))
    (M.ret .nx))
    (m__law_tree_k3 R))) fr h) Q E := congrArg (fun m => Wp (m fr h) Q E) (m__law_tree_k2.eq_1 R)
theorem w__law_tree_k1 {R : Fn} {fr : Fr} {h : Hh} {Q : Fl → Fr → Hh → Prop} {E : Exn → Fr → Hh → Prop} : Wp (m__law_tree_k1 R fr h) Q E = Wp ((
    (mSeq (mIfS (mOp cLt (mVar 3) (mC (.int 3)))
    (mRet (mCall 2 0 f__law_leaf (gPos []) (mArgs [(mVar 0), (mVar 1)]) (mArgs [])))
    (M.ret .nx))
    (m__law_tree_k2 R))) fr h) Q E := congrArg (fun m => Wp (m fr h) Q E) (m__law_tree_k1.eq_1 R)
theorem w__law_tree {R : Fn} {fr : Fr} {h : Hh} {Q : Fl → Fr → Hh → Prop} {E : Exn → Fr → Hh → Prop} : Wp (m__law_tree R fr h) Q E = Wp ((
    (mSeq (mPut 3 (mIf (mOp cGt (mVar 2) (mC (.int 0))) (mCall 2 0 f__law_draw (gPos []) (mArgs [(mVar 0), (mC (.int 9))]) (mArgs [])) (mC (.int 0))))
    (m__law_tree_k1 R))) fr h) Q E := congrArg (fun m => Wp (m fr h) Q E) (m__law_tree.eq_1 R)
theorem w_Term____init__ {fr : Fr} {h : Hh} {Q : Fl → Fr → Hh → Prop} {E : Exn → Fr → Hh → Prop} : Wp (m_Term____init__ fr h) Q E = Wp ((
    (mSeq (mPutFld 0 ix_readings (mVar 1))
    (mPutFld 0 ix_node (mVar 2)))) fr h) Q E := congrArg (fun m => Wp (m fr h) Q E) m_Term____init__.eq_1
theorem w_Term____abs__ {fr : Fr} {h : Hh} {Q : Fl → Fr → Hh → Prop} {E : Exn → Fr → Hh → Prop} : Wp (m_Term____abs__ fr h) Q E = Wp ((
    (mRet (mCall 2 0 f_Term____init__ (gPos []) (mArgs [(mUn (bFld ix_readings) (mBor 0)), (mTup [(mC (.str "abs")), (mUn (bFld ix_node) (mBor 0))])]) (mArgs [])))) fr h) Q E := congrArg (fun m => Wp (m fr h) Q E) m_Term____abs__.eq_1
theorem w_picked_k3 {fr : Fr} {h : Hh} {Q : Fl → Fr → Hh → Prop} {E : Exn → Fr → Hh → Prop} : Wp (m_picked_k3 fr h) Q E = Wp ((
    (mSeq (mIfS (mOp cEq (mVar 4) (mLst []))
    (fun fr h => .exc ⟨3, []⟩ fr h)
    (M.ret .nx))
    (mRet (mTup [(mLate 4 (mC (.int 0)) bIdx), (mFz (mOp bAdd (mLate 4 (mUn (fun _ => bNeg) (mC (.int 1))) bIdx) (mC (.int 1))))])))) fr h) Q E := congrArg (fun m => Wp (m fr h) Q E) m_picked_k3.eq_1
theorem w_picked_k2 {fr : Fr} {h : Hh} {Q : Fl → Fr → Hh → Prop} {E : Exn → Fr → Hh → Prop} : Wp (m_picked_k2 fr h) Q E = Wp ((
    (mSeq (mPut 4 (mLate 3 (mVar 2) bIdxS))
    m_picked_k3)) fr h) Q E := congrArg (fun m => Wp (m fr h) Q E) m_picked_k2.eq_1
theorem w_picked_k1 {fr : Fr} {h : Hh} {Q : Fl → Fr → Hh → Prop} {E : Exn → Fr → Hh → Prop} : Wp (m_picked_k1 fr h) Q E = Wp ((
    (mSeq (mIfS (mUn D.tru (mOp (bIsiS isiTab) (mVar 2) (mC (.ty "int"))))
    (mSeq (mIfS (mNot (mChain cLe cLt (mUn (fun _ => bNeg) (mUn bLen (mBor 3))) (mVar 2) (mUn bLen (mBor 3))))
    (fun fr h => .exc ⟨3, []⟩ fr h)
    (M.ret .nx))
    (mRet (mTup [(mFz (mLate 3 (mVar 2) bIdxS)), (mFz (mOp bAdd (mFz (mLate 3 (mVar 2) bIdxS)) (mC (.int 1))))])))
    (M.ret .nx))
    m_picked_k2)) fr h) Q E := congrArg (fun m => Wp (m fr h) Q E) m_picked_k1.eq_1
theorem w_picked {fr : Fr} {h : Hh} {Q : Fl → Fr → Hh → Prop} {E : Exn → Fr → Hh → Prop} : Wp (m_picked fr h) Q E = Wp ((
    (mSeq (mPut 3 (mLstR2 (mVar 0) (mVar 1)))
    m_picked_k1)) fr h) Q E := congrArg (fun m => Wp (m fr h) Q E) m_picked.eq_1
theorem w_Series____init___k3 {fr : Fr} {h : Hh} {Q : Fl → Fr → Hh → Prop} {E : Exn → Fr → Hh → Prop} : Wp (m_Series____init___k3 fr h) Q E = Wp ((
    (mSeq (mPutFld 0 ix_start (mVar 3))
    (mPutFld 0 ix_stop (mIf (mOp cIs (mVar 4) (mC .non)) (mVar 1) (mVar 4))))) fr h) Q E := congrArg (fun m => Wp (m fr h) Q E) m_Series____init___k3.eq_1
theorem w_Series____init___k2 {fr : Fr} {h : Hh} {Q : Fl → Fr → Hh → Prop} {E : Exn → Fr → Hh → Prop} : Wp (m_Series____init___k2 fr h) Q E = Wp ((
    (mSeq (mPutFld 0 ix_filling (mVar 2))
    m_Series____init___k3)) fr h) Q E := congrArg (fun m => Wp (m fr h) Q E) m_Series____init___k2.eq_1
theorem w_Series____init___k1 {fr : Fr} {h : Hh} {Q : Fl → Fr → Hh → Prop} {E : Exn → Fr → Hh → Prop} : Wp (m_Series____init___k1 fr h) Q E = Wp ((
    (mSeq (mPutFld 0 ix_readings (mVar 1))
    m_Series____init___k2)) fr h) Q E := congrArg (fun m => Wp (m fr h) Q E) m_Series____init___k1.eq_1
theorem w_Series____init__ {fr : Fr} {h : Hh} {Q : Fl → Fr → Hh → Prop} {E : Exn → Fr → Hh → Prop} : Wp (m_Series____init__ fr h) Q E = Wp ((
    (mSeq (mIfS (mOr (mNot (mUn D.tru (mOp (bIsi isiTab) (mVar 2) (mC (.ty "str"))))) (mOp cNin (mVar 2) (mC (.tup kon_FILLINGS))))
    (fun fr h => .exc ⟨3, []⟩ fr h)
    (M.ret .nx))
    m_Series____init___k1)) fr h) Q E := congrArg (fun m => Wp (m fr h) Q E) m_Series____init__.eq_1
theorem w_Series____getitem__ {fr : Fr} {h : Hh} {Q : Fl → Fr → Hh → Prop} {E : Exn → Fr → Hh → Prop} : Wp (m_Series____getitem__ fr h) Q E = Wp ((
    (mSeq (mAsg (mFz (mCall 3 0 f_picked (gPos []) (mArgs [(mUn (bFld ix_start) (mBor 0)), (mUn (bFld ix_stop) (mBor 0)), (mVar 1)]) (mArgs []))) (tgTup 2 (tgCons (tgNm 2) (tgCons (tgNm 3) tgNil))))
    (mRet (mCall 1 3 f_Series____init__ (gKwD [0, 1, 2] []) (mArgs [(mUn (bFld ix_readings) (mBor 0))]) (mArgs [(mUn (bFld ix_filling) (mBor 0)), (mVar 2), (mVar 3)]))))) fr h) Q E := congrArg (fun m => Wp (m fr h) Q E) m_Series____getitem__.eq_1
theorem w_Totals____init___k3 {fr : Fr} {h : Hh} {Q : Fl → Fr → Hh → Prop} {E : Exn → Fr → Hh → Prop} : Wp (m_Totals____init___k3 fr h) Q E = Wp ((
    (mSeq (mPutFld 0 ix_start (mVar 3))
    (mPutFld 0 ix_stop (mIf (mOp cIs (mVar 4) (mC .non)) (mVar 1) (mVar 4))))) fr h) Q E := congrArg (fun m => Wp (m fr h) Q E) m_Totals____init___k3.eq_1
theorem w_Totals____init___k2 {fr : Fr} {h : Hh} {Q : Fl → Fr → Hh → Prop} {E : Exn → Fr → Hh → Prop} : Wp (m_Totals____init___k2 fr h) Q E = Wp ((
    (mSeq (mPutFld 0 ix_filling (mVar 2))
    m_Totals____init___k3)) fr h) Q E := congrArg (fun m => Wp (m fr h) Q E) m_Totals____init___k2.eq_1
theorem w_Totals____init___k1 {fr : Fr} {h : Hh} {Q : Fl → Fr → Hh → Prop} {E : Exn → Fr → Hh → Prop} : Wp (m_Totals____init___k1 fr h) Q E = Wp ((
    (mSeq (mPutFld 0 ix_readings (mVar 1))
    m_Totals____init___k2)) fr h) Q E := congrArg (fun m => Wp (m fr h) Q E) m_Totals____init___k1.eq_1
theorem w_Totals____init__ {fr : Fr} {h : Hh} {Q : Fl → Fr → Hh → Prop} {E : Exn → Fr → Hh → Prop} : Wp (m_Totals____init__ fr h) Q E = Wp ((
    (mSeq (mIfS (mOr (mNot (mUn D.tru (mOp (bIsi isiTab) (mVar 2) (mC (.ty "str"))))) (mOp cNin (mVar 2) (mCut (mC (.tup kon_FILLINGS)) (mPs (mC (.int 1))) mPn)))
    (fun fr h => .exc ⟨3, []⟩ fr h)
    (M.ret .nx))
    m_Totals____init___k1)) fr h) Q E := congrArg (fun m => Wp (m fr h) Q E) m_Totals____init__.eq_1
theorem w_Series__total {fr : Fr} {h : Hh} {Q : Fl → Fr → Hh → Prop} {E : Exn → Fr → Hh → Prop} : Wp (m_Series__total fr h) Q E = Wp ((
    (mSeq (mPut 1 (mIf (mOp cEq (mUn (bFld ix_filling) (mBor 0)) (mC (.str "held"))) (mC (.str "held")) (mC (.str "zero"))))
    (mRet (mCall 1 3 f_Totals____init__ (gKwD [0, 1, 2] []) (mArgs [(mUn (bFld ix_readings) (mBor 0))]) (mArgs [(mVar 1), (mUn (bFld ix_start) (mBor 0)), (mUn (bFld ix_stop) (mBor 0))]))))) fr h) Q E := congrArg (fun m => Wp (m fr h) Q E) m_Series__total.eq_1
theorem w_Series__true_events {fr : Fr} {h : Hh} {Q : Fl → Fr → Hh → Prop} {E : Exn → Fr → Hh → Prop} : Wp (m_Series__true_events fr h) Q E = Wp ((
    (mRet (mCall 2 0 f_Term____init__ (gPos []) (mArgs [(mUn (bFld ix_readings) (mBor 0)), (mTup [(mC (.str "events")), (mUn (bFld ix_start) (mBor 0)), (mUn (bFld ix_stop) (mBor 0))])]) (mArgs [])))) fr h) Q E := congrArg (fun m => Wp (m fr h) Q E) m_Series__true_events.eq_1
theorem w_Series__leaf {fr : Fr} {h : Hh} {Q : Fl → Fr → Hh → Prop} {E : Exn → Fr → Hh → Prop} : Wp (m_Series__leaf fr h) Q E = Wp ((
    (mRet (mCall 2 0 f_Term____init__ (gPos []) (mArgs [(mUn (bFld ix_readings) (mBor 0)), (mTup [(mC (.str "leaf")), (mC (.str "each")), (mVar 1), (mUn (bFld ix_filling) (mBor 0)), (mUn (bFld ix_start) (mBor 0)), (mUn (bFld ix_stop) (mBor 0))])]) (mArgs [])))) fr h) Q E := congrArg (fun m => Wp (m fr h) Q E) m_Series__leaf.eq_1
theorem w_Totals__leaf {fr : Fr} {h : Hh} {Q : Fl → Fr → Hh → Prop} {E : Exn → Fr → Hh → Prop} : Wp (m_Totals__leaf fr h) Q E = Wp ((
    (mRet (mCall 2 0 f_Term____init__ (gPos []) (mArgs [(mUn (bFld ix_readings) (mBor 0)), (mTup [(mC (.str "leaf")), (mC (.str "all")), (mVar 1), (mUn (bFld ix_filling) (mBor 0)), (mUn (bFld ix_start) (mBor 0)), (mUn (bFld ix_stop) (mBor 0))])]) (mArgs [])))) fr h) Q E := congrArg (fun m => Wp (m fr h) Q E) m_Totals__leaf.eq_1
theorem w_Series__first {fr : Fr} {h : Hh} {Q : Fl → Fr → Hh → Prop} {E : Exn → Fr → Hh → Prop} : Wp (m_Series__first fr h) Q E = Wp ((
    (mRet (mMeth 1 0 mt_leaf (gPos []) (mVar 0) (mArgs [(mC (.str "first"))]) (mArgs [])))) fr h) Q E := congrArg (fun m => Wp (m fr h) Q E) m_Series__first.eq_1
theorem w_Totals__first {fr : Fr} {h : Hh} {Q : Fl → Fr → Hh → Prop} {E : Exn → Fr → Hh → Prop} : Wp (m_Totals__first fr h) Q E = Wp ((
    (mRet (mMeth 1 0 mt_leaf (gPos []) (mVar 0) (mArgs [(mC (.str "first"))]) (mArgs [])))) fr h) Q E := congrArg (fun m => Wp (m fr h) Q E) m_Totals__first.eq_1
theorem w_Series__last {fr : Fr} {h : Hh} {Q : Fl → Fr → Hh → Prop} {E : Exn → Fr → Hh → Prop} : Wp (m_Series__last fr h) Q E = Wp ((
    (mRet (mMeth 1 0 mt_leaf (gPos []) (mVar 0) (mArgs [(mC (.str "last"))]) (mArgs [])))) fr h) Q E := congrArg (fun m => Wp (m fr h) Q E) m_Series__last.eq_1
theorem w_Totals__last {fr : Fr} {h : Hh} {Q : Fl → Fr → Hh → Prop} {E : Exn → Fr → Hh → Prop} : Wp (m_Totals__last fr h) Q E = Wp ((
    (mRet (mMeth 1 0 mt_leaf (gPos []) (mVar 0) (mArgs [(mC (.str "last"))]) (mArgs [])))) fr h) Q E := congrArg (fun m => Wp (m fr h) Q E) m_Totals__last.eq_1
theorem w_Series__change {fr : Fr} {h : Hh} {Q : Fl → Fr → Hh → Prop} {E : Exn → Fr → Hh → Prop} : Wp (m_Series__change fr h) Q E = Wp ((
    (mRet (mMeth 1 0 mt_leaf (gPos []) (mVar 0) (mArgs [(mC (.str "change"))]) (mArgs [])))) fr h) Q E := congrArg (fun m => Wp (m fr h) Q E) m_Series__change.eq_1
theorem w_Totals__change {fr : Fr} {h : Hh} {Q : Fl → Fr → Hh → Prop} {E : Exn → Fr → Hh → Prop} : Wp (m_Totals__change fr h) Q E = Wp ((
    (mRet (mMeth 1 0 mt_leaf (gPos []) (mVar 0) (mArgs [(mC (.str "change"))]) (mArgs [])))) fr h) Q E := congrArg (fun m => Wp (m fr h) Q E) m_Totals__change.eq_1
theorem w_Series__rises {fr : Fr} {h : Hh} {Q : Fl → Fr → Hh → Prop} {E : Exn → Fr → Hh → Prop} : Wp (m_Series__rises fr h) Q E = Wp ((
    (mRet (mMeth 1 0 mt_leaf (gPos []) (mVar 0) (mArgs [(mC (.str "rises"))]) (mArgs [])))) fr h) Q E := congrArg (fun m => Wp (m fr h) Q E) m_Series__rises.eq_1
theorem w_Totals__rises {fr : Fr} {h : Hh} {Q : Fl → Fr → Hh → Prop} {E : Exn → Fr → Hh → Prop} : Wp (m_Totals__rises fr h) Q E = Wp ((
    (mRet (mMeth 1 0 mt_leaf (gPos []) (mVar 0) (mArgs [(mC (.str "rises"))]) (mArgs [])))) fr h) Q E := congrArg (fun m => Wp (m fr h) Q E) m_Totals__rises.eq_1
theorem w_Series__told {fr : Fr} {h : Hh} {Q : Fl → Fr → Hh → Prop} {E : Exn → Fr → Hh → Prop} : Wp (m_Series__told fr h) Q E = Wp ((
    (mSeq (mIfS (mOp cNe (mUn (bFld ix_filling) (mBor 0)) (mC (.str "raw")))
    (fun fr h => .exc ⟨3, []⟩ fr h)
    (M.ret .nx))
    (mRet (mMeth 1 0 mt_leaf (gPos []) (mVar 0) (mArgs [(mC (.str "told"))]) (mArgs []))))) fr h) Q E := congrArg (fun m => Wp (m fr h) Q E) m_Series__told.eq_1
theorem w_Series__top {fr : Fr} {h : Hh} {Q : Fl → Fr → Hh → Prop} {E : Exn → Fr → Hh → Prop} : Wp (m_Series__top fr h) Q E = Wp ((
    (mRet (mMeth 1 0 mt_leaf (gPos []) (mVar 0) (mArgs [(mC (.str "top"))]) (mArgs [])))) fr h) Q E := congrArg (fun m => Wp (m fr h) Q E) m_Series__top.eq_1
theorem w_Series__low {fr : Fr} {h : Hh} {Q : Fl → Fr → Hh → Prop} {E : Exn → Fr → Hh → Prop} : Wp (m_Series__low fr h) Q E = Wp ((
    (mRet (mMeth 1 0 mt_leaf (gPos []) (mVar 0) (mArgs [(mC (.str "low"))]) (mArgs [])))) fr h) Q E := congrArg (fun m => Wp (m fr h) Q E) m_Series__low.eq_1
theorem w__law_leaf_term_k8 {fr : Fr} {h : Hh} {Q : Fl → Fr → Hh → Prop} {E : Exn → Fr → Hh → Prop} : Wp (m__law_leaf_term_k8 fr h) Q E = Wp ((
    (mSeq (mIfS (mOp cEq (mVar 3) (mC (.str "told")))
    (mRet (mMeth 0 0 mt_told (gPos []) (mVar 2) (mArgs []) (mArgs [])))
    (M.ret .nx))
    (mRet (mIf (mOp cEq (mVar 3) (mC (.str "top"))) (mMeth 0 0 mt_top (gPos []) (mVar 2) (mArgs []) (mArgs [])) (mMeth 0 0 mt_low (gPos []) (mVar 2) (mArgs []) (mArgs [])))))) fr h) Q E := congrArg (fun m => Wp (m fr h) Q E) m__law_leaf_term_k8.eq_1
theorem w__law_leaf_term_k7 {fr : Fr} {h : Hh} {Q : Fl → Fr → Hh → Prop} {E : Exn → Fr → Hh → Prop} : Wp (m__law_leaf_term_k7 fr h) Q E = Wp ((
    (mSeq (mIfS (mOp cEq (mVar 3) (mC (.str "rises")))
    (mRet (mMeth 0 0 mt_rises (gPos []) (mVar 2) (mArgs []) (mArgs [])))
    (M.ret .nx))
    m__law_leaf_term_k8)) fr h) Q E := congrArg (fun m => Wp (m fr h) Q E) m__law_leaf_term_k7.eq_1
theorem w__law_leaf_term_k6 {fr : Fr} {h : Hh} {Q : Fl → Fr → Hh → Prop} {E : Exn → Fr → Hh → Prop} : Wp (m__law_leaf_term_k6 fr h) Q E = Wp ((
    (mSeq (mIfS (mOp cEq (mVar 3) (mC (.str "change")))
    (mRet (mMeth 0 0 mt_change (gPos []) (mVar 2) (mArgs []) (mArgs [])))
    (M.ret .nx))
    m__law_leaf_term_k7)) fr h) Q E := congrArg (fun m => Wp (m fr h) Q E) m__law_leaf_term_k6.eq_1
theorem w__law_leaf_term_k5 {fr : Fr} {h : Hh} {Q : Fl → Fr → Hh → Prop} {E : Exn → Fr → Hh → Prop} : Wp (m__law_leaf_term_k5 fr h) Q E = Wp ((
    (mSeq (mIfS (mOp cEq (mVar 3) (mC (.str "last")))
    (mRet (mMeth 0 0 mt_last (gPos []) (mVar 2) (mArgs []) (mArgs [])))
    (M.ret .nx))
    m__law_leaf_term_k6)) fr h) Q E := congrArg (fun m => Wp (m fr h) Q E) m__law_leaf_term_k5.eq_1
theorem w__law_leaf_term_k4 {fr : Fr} {h : Hh} {Q : Fl → Fr → Hh → Prop} {E : Exn → Fr → Hh → Prop} : Wp (m__law_leaf_term_k4 fr h) Q E = Wp ((
    (mSeq (mIfS (mOp cEq (mVar 3) (mC (.str "first")))
    (mRet (mMeth 0 0 mt_first (gPos []) (mVar 2) (mArgs []) (mArgs [])))
    (M.ret .nx))
    m__law_leaf_term_k5)) fr h) Q E := congrArg (fun m => Wp (m fr h) Q E) m__law_leaf_term_k4.eq_1
theorem w__law_leaf_term_k3 {fr : Fr} {h : Hh} {Q : Fl → Fr → Hh → Prop} {E : Exn → Fr → Hh → Prop} : Wp (m__law_leaf_term_k3 fr h) Q E = Wp ((
    (mSeq (mPut 3 (mLate 0 (mC (.int 1)) bIdx))
    m__law_leaf_term_k4)) fr h) Q E := congrArg (fun m => Wp (m fr h) Q E) m__law_leaf_term_k3.eq_1
theorem w__law_leaf_term_k2 {fr : Fr} {h : Hh} {Q : Fl → Fr → Hh → Prop} {E : Exn → Fr → Hh → Prop} : Wp (m__law_leaf_term_k2 fr h) Q E = Wp ((
    (mSeq (mIfS (mOp cEq (mLate 0 (mC (.int 0)) bIdx) (mC (.str "all")))
    (mPut 2 (mProp pt_total (mVar 2)))
    (M.ret .nx))
    m__law_leaf_term_k3)) fr h) Q E := congrArg (fun m => Wp (m fr h) Q E) m__law_leaf_term_k2.eq_1
theorem w__law_leaf_term_k1 {fr : Fr} {h : Hh} {Q : Fl → Fr → Hh → Prop} {E : Exn → Fr → Hh → Prop} : Wp (m__law_leaf_term_k1 fr h) Q E = Wp ((
    (mSeq (mPut 2 (mGetSl mt___getitem____Series (mFz (mCall 1 1 f_Series____init__ (gKwD [0, 1, 2] [.int 0, .non]) (mArgs [(mVar 1)]) (mArgs [(mLate 0 (mC (.int 2)) bIdx)]))) (mPs (mLate 0 (mC (.int 3)) bIdx)) (mPs (mLate 0 (mC (.int 4)) bIdx))))
    m__law_leaf_term_k2)) fr h) Q E := congrArg (fun m => Wp (m fr h) Q E) m__law_leaf_term_k1.eq_1
theorem w__law_leaf_term {fr : Fr} {h : Hh} {Q : Fl → Fr → Hh → Prop} {E : Exn → Fr → Hh → Prop} : Wp (m__law_leaf_term fr h) Q E = Wp ((
    (mSeq (mIfS (mOp cEq (mLate 0 (mC (.int 0)) bIdx) (mC (.str "true")))
    (mRet (mMeth 0 0 mt_true_events (gPos []) (mFz (mGetSl mt___getitem____Series (mFz (mCall 1 0 f_Series____init__ (gKwD [0, 1, 2] [.str "raw", .int 0, .non]) (mArgs [(mVar 1)]) (mArgs []))) (mPs (mLate 0 (mC (.int 1)) bIdx)) (mPs (mLate 0 (mC (.int 2)) bIdx)))) (mArgs []) (mArgs [])))
    (M.ret .nx))
    m__law_leaf_term_k1)) fr h) Q E := congrArg (fun m => Wp (m fr h) Q E) m__law_leaf_term.eq_1
theorem w_Term__with_other_k1 {fr : Fr} {h : Hh} {Q : Fl → Fr → Hh → Prop} {E : Exn → Fr → Hh → Prop} : Wp (m_Term__with_other_k1 fr h) Q E = Wp ((
    (mSeq (mIfS (mOp cNe (mUn (bFld ix_readings) (mBor 0)) (mUn (bFld ix_readings) (mBor 2)))
    (fun _ _ => .err)
    (M.ret .nx))
    (mRet (mCall 2 0 f_Term____init__ (gPos []) (mArgs [(mUn (bFld ix_readings) (mBor 0)), (mTup [(mVar 1), (mUn (bFld ix_node) (mBor 0)), (mUn (bFld ix_node) (mBor 2))])]) (mArgs []))))) fr h) Q E := congrArg (fun m => Wp (m fr h) Q E) m_Term__with_other_k1.eq_1
theorem w_Term__with_other {fr : Fr} {h : Hh} {Q : Fl → Fr → Hh → Prop} {E : Exn → Fr → Hh → Prop} : Wp (m_Term__with_other fr h) Q E = Wp ((
    (mSeq (mIfS (mNot (mUn D.tru (mOp (bIsi isiTab) (mVar 2) (mC (.cls 0)))))
    (fun fr h => .exc ⟨3, []⟩ fr h)
    (M.ret .nx))
    m_Term__with_other_k1)) fr h) Q E := congrArg (fun m => Wp (m fr h) Q E) m_Term__with_other.eq_1
theorem w_Term____add__ {fr : Fr} {h : Hh} {Q : Fl → Fr → Hh → Prop} {E : Exn → Fr → Hh → Prop} : Wp (m_Term____add__ fr h) Q E = Wp ((
    (mRet (mMeth 2 0 mt_with_other (gPos []) (mVar 0) (mArgs [(mC (.str "plus")), (mVar 1)]) (mArgs [])))) fr h) Q E := congrArg (fun m => Wp (m fr h) Q E) m_Term____add__.eq_1
theorem w_Term____sub__ {fr : Fr} {h : Hh} {Q : Fl → Fr → Hh → Prop} {E : Exn → Fr → Hh → Prop} : Wp (m_Term____sub__ fr h) Q E = Wp ((
    (mRet (mMeth 2 0 mt_with_other (gPos []) (mVar 0) (mArgs [(mC (.str "minus")), (mVar 1)]) (mArgs [])))) fr h) Q E := congrArg (fun m => Wp (m fr h) Q E) m_Term____sub__.eq_1
theorem w_Term____or__ {fr : Fr} {h : Hh} {Q : Fl → Fr → Hh → Prop} {E : Exn → Fr → Hh → Prop} : Wp (m_Term____or__ fr h) Q E = Wp ((
    (mRet (mMeth 2 0 mt_with_other (gPos []) (mVar 0) (mArgs [(mC (.str "max")), (mVar 1)]) (mArgs [])))) fr h) Q E := congrArg (fun m => Wp (m fr h) Q E) m_Term____or__.eq_1
theorem w_Term____and__ {fr : Fr} {h : Hh} {Q : Fl → Fr → Hh → Prop} {E : Exn → Fr → Hh → Prop} : Wp (m_Term____and__ fr h) Q E = Wp ((
    (mRet (mMeth 2 0 mt_with_other (gPos []) (mVar 0) (mArgs [(mC (.str "min")), (mVar 1)]) (mArgs [])))) fr h) Q E := congrArg (fun m => Wp (m fr h) Q E) m_Term____and__.eq_1
theorem w_Term____neg__ {fr : Fr} {h : Hh} {Q : Fl → Fr → Hh → Prop} {E : Exn → Fr → Hh → Prop} : Wp (m_Term____neg__ fr h) Q E = Wp ((
    (mRet (mCall 2 0 f_Term____init__ (gPos []) (mArgs [(mUn (bFld ix_readings) (mBor 0)), (mTup [(mC (.str "times")), (mUn (fun _ => bNeg) (mC (.int 1))), (mUn (bFld ix_node) (mBor 0))])]) (mArgs [])))) fr h) Q E := congrArg (fun m => Wp (m fr h) Q E) m_Term____neg__.eq_1
theorem w_is_integer {fr : Fr} {h : Hh} {Q : Fl → Fr → Hh → Prop} {E : Exn → Fr → Hh → Prop} : Wp (m_is_integer fr h) Q E = Wp ((
    (mRet (mAndV (mOp (bIsi isiTab) (mVar 0) (mC (.ty "int"))) (mNotV (mOp (bIsi isiTab) (mVar 0) (mC (.ty "bool"))))))) fr h) Q E := congrArg (fun m => Wp (m fr h) Q E) m_is_integer.eq_1
theorem w_Term____mul__ {fr : Fr} {h : Hh} {Q : Fl → Fr → Hh → Prop} {E : Exn → Fr → Hh → Prop} : Wp (m_Term____mul__ fr h) Q E = Wp ((
    (mSeq (mIfS (mOr (mNot (mUn D.tru (mCall 1 0 f_is_integer (gPos []) (mArgs [(mVar 1)]) (mArgs [])))) (mOp cGt (mUn bAbs (mUn bInt1 (mVar 1))) (mC (.int 1000000))))
    (fun fr h => .exc ⟨3, []⟩ fr h)
    (M.ret .nx))
    (mRet (mCall 2 0 f_Term____init__ (gPos []) (mArgs [(mUn (bFld ix_readings) (mBor 0)), (mTup [(mC (.str "times")), (mVar 1), (mUn (bFld ix_node) (mBor 0))])]) (mArgs []))))) fr h) Q E := congrArg (fun m => Wp (m fr h) Q E) m_Term____mul__.eq_1
theorem w_Term____rmul__ {fr : Fr} {h : Hh} {Q : Fl → Fr → Hh → Prop} {E : Exn → Fr → Hh → Prop} : Wp (m_Term____rmul__ fr h) Q E = Wp ((
    (mRet (mMulL mt___mul____Term (mVar 0) (mVar 1)))) fr h) Q E := congrArg (fun m => Wp (m fr h) Q E) m_Term____rmul__.eq_1
theorem w__law_term_k5 {R : Fn} {fr : Fr} {h : Hh} {Q : Fl → Fr → Hh → Prop} {E : Exn → Fr → Hh → Prop} : Wp (m__law_term_k5 R fr h) Q E = Wp ((
    (mSeq (mIfS (mOp cEq (mLate 0 (mC (.int 0)) bIdx) (mC (.str "-")))
    (mRet (mDun mt___sub__ (mVar 3) (mVar 4)))
    (M.ret .nx))
    (mRet (mIf (mOp cEq (mLate 0 (mC (.int 0)) bIdx) (mC (.str "max"))) (mDun mt___or__ (mVar 3) (mVar 4)) (mDun mt___and__ (mVar 3) (mVar 4)))))) fr h) Q E := congrArg (fun m => Wp (m fr h) Q E) (m__law_term_k5.eq_1 R)
theorem w__law_term_k4 {R : Fn} {fr : Fr} {h : Hh} {Q : Fl → Fr → Hh → Prop} {E : Exn → Fr → Hh → Prop} : Wp (m__law_term_k4 R fr h) Q E = Wp ((
    (mSeq (mIfS (mOp cEq (mLate 0 (mC (.int 0)) bIdx) (mC (.str "+")))
    (mRet (mDun mt___add__ (mVar 3) (mVar 4)))
    (M.ret .nx))
    (m__law_term_k5 R))) fr h) Q E := congrArg (fun m => Wp (m fr h) Q E) (m__law_term_k4.eq_1 R)
theorem w__law_term_k3 {R : Fn} {fr : Fr} {h : Hh} {Q : Fl → Fr → Hh → Prop} {E : Exn → Fr → Hh → Prop} : Wp (m__law_term_k3 R fr h) Q E = Wp ((
    (mSeq (mPutE [3, 4] (mArgs [(mCall 2 0 R (gPos []) (mArgs [(mLate 0 (mC (.int 1)) bIdx), (mVar 1)]) (mArgs [])), (mCall 2 0 R (gPos []) (mArgs [(mLate 0 (mC (.int 2)) bIdx), (mVar 1)]) (mArgs []))]))
    (m__law_term_k4 R))) fr h) Q E := congrArg (fun m => Wp (m fr h) Q E) (m__law_term_k3.eq_1 R)
theorem w__law_term_k2 {R : Fn} {fr : Fr} {h : Hh} {Q : Fl → Fr → Hh → Prop} {E : Exn → Fr → Hh → Prop} : Wp (m__law_term_k2 R fr h) Q E = Wp ((
    (mSeq (mIfS (mOp cNin (mLate 0 (mC (.int 0)) bIdx) (mTup [(mC (.str "+")), (mC (.str "-")), (mC (.str "max")), (mC (.str "min"))]))
    (mRet (mCall 2 0 f__law_leaf_term (gPos []) (mArgs [(mVar 0), (mVar 1)]) (mArgs [])))
    (M.ret .nx))
    (m__law_term_k3 R))) fr h) Q E := congrArg (fun m => Wp (m fr h) Q E) (m__law_term_k2.eq_1 R)
theorem w__law_term_k1 {R : Fn} {fr : Fr} {h : Hh} {Q : Fl → Fr → Hh → Prop} {E : Exn → Fr → Hh → Prop} : Wp (m__law_term_k1 R fr h) Q E = Wp ((
    (mSeq (mIfS (mOp cEq (mLate 0 (mC (.int 0)) bIdx) (mC (.str "abs")))
    (mRet (mOne mt___abs____Term (mFz (mCall 2 0 R (gPos []) (mArgs [(mLate 0 (mC (.int 1)) bIdx), (mVar 1)]) (mArgs [])))))
    (M.ret .nx))
    (m__law_term_k2 R))) fr h) Q E := congrArg (fun m => Wp (m fr h) Q E) (m__law_term_k1.eq_1 R)
theorem w__law_term {R : Fn} {fr : Fr} {h : Hh} {Q : Fl → Fr → Hh → Prop} {E : Exn → Fr → Hh → Prop} : Wp (m__law_term R fr h) Q E = Wp ((
    (mSeq (mIfS (mOp cEq (mLate 0 (mC (.int 0)) bIdx) (mC (.str "*")))
    (mSeq (mPut 2 (mCall 2 0 R (gPos []) (mArgs [(mLate 0 (mC (.int 2)) bIdx), (mVar 1)]) (mArgs [])))
    (mRet (mIf (mOp cEq (mLate 0 (mC (.int 1)) bIdx) (mUn (fun _ => bNeg) (mC (.int 1)))) (mOne mt___neg____Term (mVar 2)) (mMulR mt___rmul____Term (mLate 0 (mC (.int 1)) bIdx) (mVar 2)))))
    (M.ret .nx))
    (m__law_term_k1 R))) fr h) Q E := congrArg (fun m => Wp (m fr h) Q E) (m__law_term.eq_1 R)
theorem w_Term____eq__ {fr : Fr} {h : Hh} {Q : Fl → Fr → Hh → Prop} {E : Exn → Fr → Hh → Prop} : Wp (m_Term____eq__ fr h) Q E = Wp ((
    (mSeq (mIfS (mNot (mUn D.tru (mOp (bIsi isiTab) (mVar 1) (mC (.cls 0)))))
    (mRet (mC (.bl false)))
    (M.ret .nx))
    (mRet (mAndV (mOp (fun h x y => (cEq h x y).map .bl) (mUn (bFld ix_readings) (mBor 0)) (mUn (bFld ix_readings) (mBor 1))) (mOp (fun h x y => (cEq h x y).map .bl) (mUn (bFld ix_node) (mBor 0)) (mUn (bFld ix_node) (mBor 1))))))) fr h) Q E := congrArg (fun m => Wp (m fr h) Q E) m_Term____eq__.eq_1
theorem w_write_leaf_k2 {fr : Fr} {h : Hh} {Q : Fl → Fr → Hh → Prop} {E : Exn → Fr → Hh → Prop} : Wp (m_write_leaf_k2 fr h) Q E = Wp ((
    (mSeq (mIfS (mOp cEq (mLate 0 (mC (.int 1)) bIdx) (mC (.str "each")))
    (mRet (mJoin [(mC (.str "sum(")), (mFmt (mLate 0 (mC (.int 2)) bIdx)), (mC (.str "(")), (mFmt (mVar 1)), (mC (.str "))"))]))
    (M.ret .nx))
    (mRet (mJoin [(mFmt (mLate 0 (mC (.int 2)) bIdx)), (mC (.str "(sum(")), (mFmt (mVar 1)), (mC (.str "))"))])))) fr h) Q E := congrArg (fun m => Wp (m fr h) Q E) m_write_leaf_k2.eq_1
theorem w_write_leaf_k1 {fr : Fr} {h : Hh} {Q : Fl → Fr → Hh → Prop} {E : Exn → Fr → Hh → Prop} : Wp (m_write_leaf_k1 fr h) Q E = Wp ((
    (mSeq (mPut 1 (mJoin [(mFmt (mLate 0 (mC (.int 3)) bIdx)), (mC (.str "[")), (mFmt (mLate 0 (mC (.int 4)) bIdx)), (mC (.str ":")), (mFmt (mLate 0 (mC (.int 5)) bIdx)), (mC (.str "]"))]))
    m_write_leaf_k2)) fr h) Q E := congrArg (fun m => Wp (m fr h) Q E) m_write_leaf_k1.eq_1
theorem w_write_leaf {fr : Fr} {h : Hh} {Q : Fl → Fr → Hh → Prop} {E : Exn → Fr → Hh → Prop} : Wp (m_write_leaf fr h) Q E = Wp ((
    (mSeq (mIfS (mOp cEq (mLate 0 (mC (.int 0)) bIdx) (mC (.str "events")))
    (mRet (mJoin [(mC (.str "events[")), (mFmt (mLate 0 (mC (.int 1)) bIdx)), (mC (.str ":")), (mFmt (mLate 0 (mC (.int 2)) bIdx)), (mC (.str "]"))]))
    (M.ret .nx))
    m_write_leaf_k1)) fr h) Q E := congrArg (fun m => Wp (m fr h) Q E) m_write_leaf.eq_1
theorem w_bracketed {R : Fn} {fr : Fr} {h : Hh} {Q : Fl → Fr → Hh → Prop} {E : Exn → Fr → Hh → Prop} : Wp (m_bracketed R fr h) Q E = Wp ((
    (mSeq (mPut 2 (mCall 1 0 R (gPos []) (mArgs [(mVar 0)]) (mArgs [])))
    (mRet (mIf (mOp cIn (mLate 0 (mC (.int 0)) bIdx) (mBor 1)) (mJoin [(mC (.str "(")), (mFmt (mVar 2)), (mC (.str ")"))]) (mVar 2))))) fr h) Q E := congrArg (fun m => Wp (m fr h) Q E) (m_bracketed.eq_1 R)
theorem w_write_k3 {R : Fn} {fr : Fr} {h : Hh} {Q : Fl → Fr → Hh → Prop} {E : Exn → Fr → Hh → Prop} : Wp (m_write_k3 R fr h) Q E = Wp ((
    (mSeq (mIfS (mAnd (mOp cEq (mOp bIdx (mLate 0 (mC (.int 2)) bIdx) (mC (.int 0))) (mC (.str "times"))) (mOp cLt (mOp bIdx (mLate 0 (mC (.int 2)) bIdx) (mC (.int 1))) (mC (.int 0))))
    (mPut 3 (mTup [(mC (.str "times"))]))
    (M.ret .nx))
    (mRet (mJoin [(mFmt (mFz (mCall 1 0 R (gPos []) (mArgs [(mLate 0 (mC (.int 1)) bIdx)]) (mArgs [])))), (mC (.str " ")), (mFmt (mVar 2)), (mC (.str " ")), (mFmt (mFz (mCall 2 0 (f_bracketed R) (gPos []) (mArgs [(mLate 0 (mC (.int 2)) bIdx), (mVar 3)]) (mArgs []))))])))) fr h) Q E := congrArg (fun m => Wp (m fr h) Q E) (m_write_k3.eq_1 R)
theorem w_write_k2 {R : Fn} {fr : Fr} {h : Hh} {Q : Fl → Fr → Hh → Prop} {E : Exn → Fr → Hh → Prop} : Wp (m_write_k2 R fr h) Q E = Wp ((
    (mSeq (mPut 3 (mTup [(mC (.str "plus")), (mC (.str "minus"))]))
    (m_write_k3 R))) fr h) Q E := congrArg (fun m => Wp (m fr h) Q E) (m_write_k2.eq_1 R)
theorem w_write_k1 {R : Fn} {fr : Fr} {h : Hh} {Q : Fl → Fr → Hh → Prop} {E : Exn → Fr → Hh → Prop} : Wp (m_write_k1 R fr h) Q E = Wp ((
    (mSeq (mPut 2 (mIf (mOp cEq (mLate 0 (mC (.int 0)) bIdx) (mC (.str "plus"))) (mC (.str "+")) (mC (.str "-"))))
    (m_write_k2 R))) fr h) Q E := congrArg (fun m => Wp (m fr h) Q E) (m_write_k1.eq_1 R)
theorem w_write {R : Fn} {fr : Fr} {h : Hh} {Q : Fl → Fr → Hh → Prop} {E : Exn → Fr → Hh → Prop} : Wp (m_write R fr h) Q E = Wp ((
    (mSeq (mMatch (mLate 0 (mC (.int 0)) bIdx) (mCases [(["events", "leaf"], (mRet (mCall 1 0 f_write_leaf (gPos []) (mArgs [(mVar 0)]) (mArgs [])))), (["abs"], (mRet (mJoin [(mC (.str "abs(")), (mFmt (mFz (mCall 1 0 R (gPos []) (mArgs [(mLate 0 (mC (.int 1)) bIdx)]) (mArgs [])))), (mC (.str ")"))]))), (["max", "min"], (mRet (mJoin [(mFmt (mLate 0 (mC (.int 0)) bIdx)), (mC (.str "(")), (mFmt (mFz (mCall 1 0 R (gPos []) (mArgs [(mLate 0 (mC (.int 1)) bIdx)]) (mArgs [])))), (mC (.str ", ")), (mFmt (mFz (mCall 1 0 R (gPos []) (mArgs [(mLate 0 (mC (.int 2)) bIdx)]) (mArgs [])))), (mC (.str ")"))]))), (["times"], (mSeq (mPut 1 (mCall 2 0 (f_bracketed R) (gPos []) (mArgs [(mLate 0 (mC (.int 2)) bIdx), (mTup [(mC (.str "plus")), (mC (.str "minus")), (mC (.str "times"))])]) (mArgs [])))
    (mRet (mIf (mOp cEq (mLate 0 (mC (.int 1)) bIdx) (mUn (fun _ => bNeg) (mC (.int 1)))) (mJoin [(mC (.str "-")), (mFmt (mVar 1))]) (mJoin [(mFmt (mLate 0 (mC (.int 1)) bIdx)), (mC (.str " * ")), (mFmt (mVar 1))])))))]))
    (m_write_k1 R))) fr h) Q E := congrArg (fun m => Wp (m fr h) Q E) (m_write.eq_1 R)
theorem w_Term__text {fr : Fr} {h : Hh} {Q : Fl → Fr → Hh → Prop} {E : Exn → Fr → Hh → Prop} : Wp (m_Term__text fr h) Q E = Wp ((
    (mRet (mCall 1 0 f_write (gPos []) (mArgs [(mUn (bFld ix_node) (mBor 0))]) (mArgs [])))) fr h) Q E := congrArg (fun m => Wp (m fr h) Q E) m_Term__text.eq_1
theorem w__law_leaf_text_k2 {fr : Fr} {h : Hh} {Q : Fl → Fr → Hh → Prop} {E : Exn → Fr → Hh → Prop} : Wp (m__law_leaf_text_k2 fr h) Q E = Wp ((
    (mSeq (mIfS (mOp cEq (mLate 0 (mC (.int 0)) bIdx) (mC (.str "each")))
    (mRet (mOp bAdd (mFz (mOp bAdd (mFz (mOp bAdd (mFz (mOp bAdd (mC (.str "sum(")) (mLate 0 (mC (.int 1)) bIdx))) (mC (.str "(")))) (mVar 1))) (mC (.str "))"))))
    (M.ret .nx))
    (mRet (mOp bAdd (mFz (mOp bAdd (mFz (mOp bAdd (mLate 0 (mC (.int 1)) bIdx) (mC (.str "(sum(")))) (mVar 1))) (mC (.str "))")))))) fr h) Q E := congrArg (fun m => Wp (m fr h) Q E) m__law_leaf_text_k2.eq_1
theorem w__law_leaf_text_k1 {fr : Fr} {h : Hh} {Q : Fl → Fr → Hh → Prop} {E : Exn → Fr → Hh → Prop} : Wp (m__law_leaf_text_k1 fr h) Q E = Wp ((
    (mSeq (mPut 1 (mOp bAdd (mFz (mOp bAdd (mFz (mOp bAdd (mFz (mOp bAdd (mFz (mOp bAdd (mLate 0 (mC (.int 2)) bIdx) (mC (.str "[")))) (mUn bStr1 (mLate 0 (mC (.int 3)) bIdx)))) (mC (.str ":")))) (mUn bStr1 (mLate 0 (mC (.int 4)) bIdx)))) (mC (.str "]"))))
    m__law_leaf_text_k2)) fr h) Q E := congrArg (fun m => Wp (m fr h) Q E) m__law_leaf_text_k1.eq_1
theorem w__law_leaf_text {fr : Fr} {h : Hh} {Q : Fl → Fr → Hh → Prop} {E : Exn → Fr → Hh → Prop} : Wp (m__law_leaf_text fr h) Q E = Wp ((
    (mSeq (mIfS (mOp cEq (mLate 0 (mC (.int 0)) bIdx) (mC (.str "true")))
    (mRet (mOp bAdd (mFz (mOp bAdd (mFz (mOp bAdd (mFz (mOp bAdd (mC (.str "events[")) (mUn bStr1 (mLate 0 (mC (.int 1)) bIdx)))) (mC (.str ":")))) (mUn bStr1 (mLate 0 (mC (.int 2)) bIdx)))) (mC (.str "]"))))
    (M.ret .nx))
    m__law_leaf_text_k1)) fr h) Q E := congrArg (fun m => Wp (m fr h) Q E) m__law_leaf_text.eq_1
theorem w__law_text_k5 {R : Fn} {fr : Fr} {h : Hh} {Q : Fl → Fr → Hh → Prop} {E : Exn → Fr → Hh → Prop} : Wp (m__law_text_k5 R fr h) Q E = Wp ((
    (mSeq (mIfS (mOr (mOp cIn (mOp bIdx (mLate 0 (mC (.int 2)) bIdx) (mC (.int 0))) (mTup [(mC (.str "+")), (mC (.str "-"))])) (mAnd (mOp cEq (mOp bIdx (mLate 0 (mC (.int 2)) bIdx) (mC (.int 0))) (mC (.str "*"))) (mOp cLt (mOp bIdx (mLate 0 (mC (.int 2)) bIdx) (mC (.int 1))) (mC (.int 0)))))
    (mPut 2 (mOp bAdd (mFz (mOp bAdd (mC (.str "(")) (mVar 2))) (mC (.str ")"))))
    (M.ret .nx))
    (mRet (mOp bAdd (mFz (mOp bAdd (mFz (mOp bAdd (mFz (mOp bAdd (mFz (mCall 1 0 R (gPos []) (mArgs [(mLate 0 (mC (.int 1)) bIdx)]) (mArgs []))) (mC (.str " ")))) (mLate 0 (mC (.int 0)) bIdx))) (mC (.str " ")))) (mVar 2))))) fr h) Q E := congrArg (fun m => Wp (m fr h) Q E) (m__law_text_k5.eq_1 R)
theorem w__law_text_k4 {R : Fn} {fr : Fr} {h : Hh} {Q : Fl → Fr → Hh → Prop} {E : Exn → Fr → Hh → Prop} : Wp (m__law_text_k4 R fr h) Q E = Wp ((
    (mSeq (mPut 2 (mCall 1 0 R (gPos []) (mArgs [(mLate 0 (mC (.int 2)) bIdx)]) (mArgs [])))
    (m__law_text_k5 R))) fr h) Q E := congrArg (fun m => Wp (m fr h) Q E) (m__law_text_k4.eq_1 R)
theorem w__law_text_k3 {R : Fn} {fr : Fr} {h : Hh} {Q : Fl → Fr → Hh → Prop} {E : Exn → Fr → Hh → Prop} : Wp (m__law_text_k3 R fr h) Q E = Wp ((
    (mSeq (mIfS (mOp cNin (mLate 0 (mC (.int 0)) bIdx) (mTup [(mC (.str "+")), (mC (.str "-"))]))
    (mRet (mCall 1 0 f__law_leaf_text (gPos []) (mArgs [(mVar 0)]) (mArgs [])))
    (M.ret .nx))
    (m__law_text_k4 R))) fr h) Q E := congrArg (fun m => Wp (m fr h) Q E) (m__law_text_k3.eq_1 R)
theorem w__law_text_k2 {R : Fn} {fr : Fr} {h : Hh} {Q : Fl → Fr → Hh → Prop} {E : Exn → Fr → Hh → Prop} : Wp (m__law_text_k2 R fr h) Q E = Wp ((
    (mSeq (mIfS (mOp cIn (mLate 0 (mC (.int 0)) bIdx) (mTup [(mC (.str "max")), (mC (.str "min"))]))
    (mRet (mOp bAdd (mFz (mOp bAdd (mFz (mOp bAdd (mFz (mOp bAdd (mFz (mOp bAdd (mLate 0 (mC (.int 0)) bIdx) (mC (.str "(")))) (mFz (mCall 1 0 R (gPos []) (mArgs [(mLate 0 (mC (.int 1)) bIdx)]) (mArgs []))))) (mC (.str ", ")))) (mFz (mCall 1 0 R (gPos []) (mArgs [(mLate 0 (mC (.int 2)) bIdx)]) (mArgs []))))) (mC (.str ")"))))
    (M.ret .nx))
    (m__law_text_k3 R))) fr h) Q E := congrArg (fun m => Wp (m fr h) Q E) (m__law_text_k2.eq_1 R)
theorem w__law_text_k1 {R : Fn} {fr : Fr} {h : Hh} {Q : Fl → Fr → Hh → Prop} {E : Exn → Fr → Hh → Prop} : Wp (m__law_text_k1 R fr h) Q E = Wp ((
    (mSeq (mIfS (mOp cEq (mLate 0 (mC (.int 0)) bIdx) (mC (.str "abs")))
    (mRet (mOp bAdd (mFz (mOp bAdd (mC (.str "abs(")) (mFz (mCall 1 0 R (gPos []) (mArgs [(mLate 0 (mC (.int 1)) bIdx)]) (mArgs []))))) (mC (.str ")"))))
    (M.ret .nx))
    (m__law_text_k2 R))) fr h) Q E := congrArg (fun m => Wp (m fr h) Q E) (m__law_text_k1.eq_1 R)
theorem w__law_text {R : Fn} {fr : Fr} {h : Hh} {Q : Fl → Fr → Hh → Prop} {E : Exn → Fr → Hh → Prop} : Wp (m__law_text R fr h) Q E = Wp ((
    (mSeq (mIfS (mOp cEq (mLate 0 (mC (.int 0)) bIdx) (mC (.str "*")))
    (mSeq (mPut 1 (mCall 1 0 R (gPos []) (mArgs [(mLate 0 (mC (.int 2)) bIdx)]) (mArgs [])))
    (mSeq (mIfS (mOp cIn (mOp bIdx (mLate 0 (mC (.int 2)) bIdx) (mC (.int 0))) (mTup [(mC (.str "*")), (mC (.str "+")), (mC (.str "-"))]))
    (mPut 1 (mOp bAdd (mFz (mOp bAdd (mC (.str "(")) (mVar 1))) (mC (.str ")"))))
    (M.ret .nx))
    (mRet (mIf (mOp cEq (mLate 0 (mC (.int 1)) bIdx) (mUn (fun _ => bNeg) (mC (.int 1)))) (mOp bAdd (mC (.str "-")) (mVar 1)) (mOp bAdd (mFz (mOp bAdd (mUn bStr1 (mLate 0 (mC (.int 1)) bIdx)) (mC (.str " * ")))) (mVar 1))))))
    (M.ret .nx))
    (m__law_text_k1 R))) fr h) Q E := congrArg (fun m => Wp (m fr h) Q E) (m__law_text.eq_1 R)
theorem w__law_is {fr : Fr} {h : Hh} {Q : Fl → Fr → Hh → Prop} {E : Exn → Fr → Hh → Prop} : Wp (m__law_is fr h) Q E = Wp ((
    (mRet (mAndV (mOp (bIsi isiTab) (mVar 0) (mC (.cls 0))) (mAndV (mOp (fun h x y => (cEq h x y).map .bl) (mFz (mProp pt_text (mVar 0))) (mCall 1 0 f__law_text (gPos []) (mArgs [(mVar 1)]) (mArgs []))) (mOp (fun h x y => (cEq h x y).map .bl) (mUn (bFld ix_readings) (mBor 0)) (mBor 2)))))) fr h) Q E := congrArg (fun m => Wp (m fr h) Q E) m__law_is.eq_1
theorem w_law_t1_k12 {fr : Fr} {h : Hh} {Q : Fl → Fr → Hh → Prop} {E : Exn → Fr → Hh → Prop} : Wp (m_law_t1_k12 fr h) Q E = Wp ((
    (mSeq (mPut 9 (mIf (mOp cLt (mVar 3) (mC (.int 4))) (mC (.int 4)) (mC (.int 3))))
    (mIfS (mAnd (mOp cEq (mLate 4 (mC (.int 0)) bIdx) (mC (.str "true"))) (mAnd (mOp cLe (mLate 4 (mUn (fun _ => bNeg) (mC (.int 1))) bIdx) (mVar 9)) (mOpM (gEq mt___eq____Term (fun b => b)) (mVar 6) (mFz (mCall 2 0 f__law_leaf_term (gPos []) (mArgs [(mVar 4), (mVar 9)]) (mArgs []))))))
    (mRet (mC (.bl false)))
    (M.ret .nx)))) fr h) Q E := congrArg (fun m => Wp (m fr h) Q E) m_law_t1_k12.eq_1
theorem w_law_t1_k11 {fr : Fr} {h : Hh} {Q : Fl → Fr → Hh → Prop} {E : Exn → Fr → Hh → Prop} : Wp (m_law_t1_k11 fr h) Q E = Wp ((
    (mSeq (mIfS (mOr (mOp cNe (mBl (mOpM (gEq mt___eq____Term (fun b => b)) (mVar 6) (mVar 7))) (mOp (fun h x y => (cEq h x y).map .bl) (mFz (mCall 1 0 f__law_text (gPos []) (mArgs [(mVar 4)]) (mArgs []))) (mCall 1 0 f__law_text (gPos []) (mArgs [(mVar 5)]) (mArgs [])))) (mNot (mOpM (gEq mt___eq____Term (fun b => b)) (mVar 6) (mFz (mCall 2 0 f__law_term (gPos []) (mArgs [(mVar 4), (mVar 3)]) (mArgs []))))))
    (mRet (mC (.bl false)))
    (M.ret .nx))
    m_law_t1_k12)) fr h) Q E := congrArg (fun m => Wp (m fr h) Q E) m_law_t1_k11.eq_1
theorem w_law_t1_k10 {fr : Fr} {h : Hh} {Q : Fl → Fr → Hh → Prop} {E : Exn → Fr → Hh → Prop} : Wp (m_law_t1_k10 fr h) Q E = Wp ((
    (mSeq (mIfS (mOr (mNot (mUn D.tru (mCall 3 0 f__law_is (gPos []) (mArgs [(mVar 6), (mVar 4), (mVar 3)]) (mArgs [])))) (mNot (mUn D.tru (mCall 3 0 f__law_is (gPos []) (mArgs [(mVar 7), (mVar 5), (mVar 3)]) (mArgs [])))))
    (mRet (mC (.bl false)))
    (M.ret .nx))
    m_law_t1_k11)) fr h) Q E := congrArg (fun m => Wp (m fr h) Q E) m_law_t1_k10.eq_1
theorem w_law_t1_k9 {fr : Fr} {h : Hh} {Q : Fl → Fr → Hh → Prop} {E : Exn → Fr → Hh → Prop} : Wp (m_law_t1_k9 fr h) Q E = Wp ((
    (mSeq (mIfS (mOr (mNot (mUn D.tru (mCall 3 0 f__law_is (gPos []) (mArgs [(mFz (mMulL mt___mul____Term (mVar 6) (mVar 8))), (mTup [(mC (.str "*")), (mVar 8), (mVar 4)]), (mVar 3)]) (mArgs [])))) (mNot (mUn D.tru (mCall 3 0 f__law_is (gPos []) (mArgs [(mFz (mMulR mt___rmul____Term (mVar 8) (mVar 7))), (mTup [(mC (.str "*")), (mVar 8), (mVar 5)]), (mVar 3)]) (mArgs [])))))
    (mRet (mC (.bl false)))
    (M.ret .nx))
    m_law_t1_k10)) fr h) Q E := congrArg (fun m => Wp (m fr h) Q E) m_law_t1_k9.eq_1
theorem w_law_t1_k8 {fr : Fr} {h : Hh} {Q : Fl → Fr → Hh → Prop} {E : Exn → Fr → Hh → Prop} : Wp (m_law_t1_k8 fr h) Q E = Wp ((
    (mSeq (mIfS (mOr (mNot (mUn D.tru (mCall 3 0 f__law_is (gPos []) (mArgs [(mFz (mOne mt___neg____Term (mVar 6))), (mTup [(mC (.str "*")), (mUn (fun _ => bNeg) (mC (.int 1))), (mVar 4)]), (mVar 3)]) (mArgs [])))) (mNot (mUn D.tru (mCall 3 0 f__law_is (gPos []) (mArgs [(mFz (mOne mt___abs____Term (mVar 7))), (mTup [(mC (.str "abs")), (mVar 5)]), (mVar 3)]) (mArgs [])))))
    (mRet (mC (.bl false)))
    (M.ret .nx))
    m_law_t1_k9)) fr h) Q E := congrArg (fun m => Wp (m fr h) Q E) m_law_t1_k8.eq_1
theorem w_law_t1_k7 {fr : Fr} {h : Hh} {Q : Fl → Fr → Hh → Prop} {E : Exn → Fr → Hh → Prop} : Wp (m_law_t1_k7 fr h) Q E = Wp ((
    (mSeq (mIfS (mOr (mNot (mUn D.tru (mCall 3 0 f__law_is (gPos []) (mArgs [(mFz (mDun mt___or__ (mVar 6) (mVar 7))), (mTup [(mC (.str "max")), (mVar 4), (mVar 5)]), (mVar 3)]) (mArgs [])))) (mNot (mUn D.tru (mCall 3 0 f__law_is (gPos []) (mArgs [(mFz (mDun mt___and__ (mVar 7) (mVar 6))), (mTup [(mC (.str "min")), (mVar 5), (mVar 4)]), (mVar 3)]) (mArgs [])))))
    (mRet (mC (.bl false)))
    (M.ret .nx))
    m_law_t1_k8)) fr h) Q E := congrArg (fun m => Wp (m fr h) Q E) m_law_t1_k7.eq_1
theorem w_law_t1_k6 {fr : Fr} {h : Hh} {Q : Fl → Fr → Hh → Prop} {E : Exn → Fr → Hh → Prop} : Wp (m_law_t1_k6 fr h) Q E = Wp ((
    (mSeq (mIfS (mOr (mNot (mUn D.tru (mCall 3 0 f__law_is (gPos []) (mArgs [(mFz (mDun mt___add__ (mVar 6) (mVar 7))), (mTup [(mC (.str "+")), (mVar 4), (mVar 5)]), (mVar 3)]) (mArgs [])))) (mNot (mUn D.tru (mCall 3 0 f__law_is (gPos []) (mArgs [(mFz (mDun mt___sub__ (mVar 7) (mVar 6))), (mTup [(mC (.str "-")), (mVar 5), (mVar 4)]), (mVar 3)]) (mArgs [])))))
    (mRet (mC (.bl false)))
    (M.ret .nx))
    m_law_t1_k7)) fr h) Q E := congrArg (fun m => Wp (m fr h) Q E) m_law_t1_k6.eq_1
theorem w_law_t1_k5 {fr : Fr} {h : Hh} {Q : Fl → Fr → Hh → Prop} {E : Exn → Fr → Hh → Prop} : Wp (m_law_t1_k5 fr h) Q E = Wp ((
    (mSeq (mPut 8 (mCall 2 0 f__law_of (gPos []) (mArgs [(mVar 2), (mFz (mLst [(mFz (mCall 2 0 f__law_draw (gPos []) (mArgs [(mVar 2), (mC (.int 1000001))]) (mArgs []))), (mC (.int 1000000)), (mUn (fun _ => bNeg) (mC (.int 1000000))), (mUn (fun _ => bNeg) (mC (.int 1))), (mC (.int 0)), (mC (.int 1)), (mUn (fun _ => bNeg) (mFz (mCall 2 0 f__law_draw (gPos []) (mArgs [(mVar 2), (mC (.int 1000))]) (mArgs []))))]))]) (mArgs [])))
    m_law_t1_k6)) fr h) Q E := congrArg (fun m => Wp (m fr h) Q E) m_law_t1_k5.eq_1
theorem w_law_t1_k4 {fr : Fr} {h : Hh} {Q : Fl → Fr → Hh → Prop} {E : Exn → Fr → Hh → Prop} : Wp (m_law_t1_k4 fr h) Q E = Wp ((
    (mSeq (mIfS (mOr (mNot (mUn D.tru (mCall 3 0 f__law_is (gPos []) (mArgs [(mVar 6), (mVar 4), (mVar 3)]) (mArgs [])))) (mOr (mNot (mUn D.tru (mCall 3 0 f__law_is (gPos []) (mArgs [(mVar 7), (mVar 5), (mVar 3)]) (mArgs [])))) (mOp cNe (mC (.int 1000000)) (mC (.int 1000000)))))
    (mRet (mC (.bl false)))
    (M.ret .nx))
    m_law_t1_k5)) fr h) Q E := congrArg (fun m => Wp (m fr h) Q E) m_law_t1_k4.eq_1
theorem w_law_t1_k3 {fr : Fr} {h : Hh} {Q : Fl → Fr → Hh → Prop} {E : Exn → Fr → Hh → Prop} : Wp (m_law_t1_k3 fr h) Q E = Wp ((
    (mSeq (mPutE [6, 7] (mArgs [(mCall 2 0 f__law_term (gPos []) (mArgs [(mVar 4), (mVar 3)]) (mArgs [])), (mCall 2 0 f__law_term (gPos []) (mArgs [(mVar 5), (mVar 3)]) (mArgs []))]))
    m_law_t1_k4)) fr h) Q E := congrArg (fun m => Wp (m fr h) Q E) m_law_t1_k3.eq_1
theorem w_law_t1_k2 {fr : Fr} {h : Hh} {Q : Fl → Fr → Hh → Prop} {E : Exn → Fr → Hh → Prop} : Wp (m_law_t1_k2 fr h) Q E = Wp ((
    (mSeq (mPutE [4, 5] (mArgs [(mCall 3 0 f__law_tree (gPos []) (mArgs [(mVar 2), (mVar 3), (mC (.int 4))]) (mArgs [])), (mCall 3 0 f__law_tree (gPos []) (mArgs [(mVar 2), (mVar 3), (mC (.int 3))]) (mArgs []))]))
    m_law_t1_k3)) fr h) Q E := congrArg (fun m => Wp (m fr h) Q E) m_law_t1_k2.eq_1
theorem w_law_t1_k1 {fr : Fr} {h : Hh} {Q : Fl → Fr → Hh → Prop} {E : Exn → Fr → Hh → Prop} : Wp (m_law_t1_k1 fr h) Q E = Wp ((
    (mSeq (mPut 3 (mOp bAdd (mC (.int 2)) (mFz (mCall 2 0 f__law_draw (gPos []) (mArgs [(mVar 2), (mC (.int 3))]) (mArgs [])))))
    m_law_t1_k2)) fr h) Q E := congrArg (fun m => Wp (m fr h) Q E) m_law_t1_k1.eq_1
theorem w_law_b13 {fr : Fr} {h : Hh} {Q : Fl → Fr → Hh → Prop} {E : Exn → Fr → Hh → Prop} : Wp (m_law_b13 fr h) Q E = Wp ((
    (mSeq (mPut 2 (mCell (mCall 2 0 f__law_source (gPos []) (mArgs [(mVar 0), (mVar 1)]) (mArgs []))))
    m_law_t1_k1)) fr h) Q E := congrArg (fun m => Wp (m fr h) Q E) m_law_b13.eq_1
theorem wf__law_leaf {ds : List D} {h : Hh} {Q : D → Fr → Hh → Prop} {E : Exn → Fr → Hh → Prop} : Wp (f__law_leaf ds h) Q E = Wp (runF 6 m__law_leaf ds h) Q E := congrArg (fun m => Wp (m ds h) Q E) f__law_leaf.eq_1
theorem wf_Term____init__ {ds : List D} {h : Hh} {Q : D → Fr → Hh → Prop} {E : Exn → Fr → Hh → Prop} : Wp (f_Term____init__ ds h) Q E = Wp (runI 0 3 m_Term____init__ ds h) Q E := congrArg (fun m => Wp (m ds h) Q E) f_Term____init__.eq_1
theorem wf_Term____abs__ {ds : List D} {h : Hh} {Q : D → Fr → Hh → Prop} {E : Exn → Fr → Hh → Prop} : Wp (f_Term____abs__ ds h) Q E = Wp (runF 1 m_Term____abs__ ds h) Q E := congrArg (fun m => Wp (m ds h) Q E) f_Term____abs__.eq_1
theorem wf_picked {ds : List D} {h : Hh} {Q : D → Fr → Hh → Prop} {E : Exn → Fr → Hh → Prop} : Wp (f_picked ds h) Q E = Wp (runF 5 m_picked ds h) Q E := congrArg (fun m => Wp (m ds h) Q E) f_picked.eq_1
theorem wf_Series____init__ {ds : List D} {h : Hh} {Q : D → Fr → Hh → Prop} {E : Exn → Fr → Hh → Prop} : Wp (f_Series____init__ ds h) Q E = Wp (runI 1 5 m_Series____init__ ds h) Q E := congrArg (fun m => Wp (m ds h) Q E) f_Series____init__.eq_1
theorem wf_Series____getitem__ {ds : List D} {h : Hh} {Q : D → Fr → Hh → Prop} {E : Exn → Fr → Hh → Prop} : Wp (f_Series____getitem__ ds h) Q E = Wp (runF 4 m_Series____getitem__ ds h) Q E := congrArg (fun m => Wp (m ds h) Q E) f_Series____getitem__.eq_1
theorem wf_Totals____init__ {ds : List D} {h : Hh} {Q : D → Fr → Hh → Prop} {E : Exn → Fr → Hh → Prop} : Wp (f_Totals____init__ ds h) Q E = Wp (runI 2 5 m_Totals____init__ ds h) Q E := congrArg (fun m => Wp (m ds h) Q E) f_Totals____init__.eq_1
theorem wf_Series__total {ds : List D} {h : Hh} {Q : D → Fr → Hh → Prop} {E : Exn → Fr → Hh → Prop} : Wp (f_Series__total ds h) Q E = Wp (runF 2 m_Series__total ds h) Q E := congrArg (fun m => Wp (m ds h) Q E) f_Series__total.eq_1
theorem wf_Series__true_events {ds : List D} {h : Hh} {Q : D → Fr → Hh → Prop} {E : Exn → Fr → Hh → Prop} : Wp (f_Series__true_events ds h) Q E = Wp (runF 1 m_Series__true_events ds h) Q E := congrArg (fun m => Wp (m ds h) Q E) f_Series__true_events.eq_1
theorem wf_Series__leaf {ds : List D} {h : Hh} {Q : D → Fr → Hh → Prop} {E : Exn → Fr → Hh → Prop} : Wp (f_Series__leaf ds h) Q E = Wp (runF 2 m_Series__leaf ds h) Q E := congrArg (fun m => Wp (m ds h) Q E) f_Series__leaf.eq_1
theorem wf_Totals__leaf {ds : List D} {h : Hh} {Q : D → Fr → Hh → Prop} {E : Exn → Fr → Hh → Prop} : Wp (f_Totals__leaf ds h) Q E = Wp (runF 2 m_Totals__leaf ds h) Q E := congrArg (fun m => Wp (m ds h) Q E) f_Totals__leaf.eq_1
theorem wf_Series__first {ds : List D} {h : Hh} {Q : D → Fr → Hh → Prop} {E : Exn → Fr → Hh → Prop} : Wp (f_Series__first ds h) Q E = Wp (runF 1 m_Series__first ds h) Q E := congrArg (fun m => Wp (m ds h) Q E) f_Series__first.eq_1
theorem wf_Totals__first {ds : List D} {h : Hh} {Q : D → Fr → Hh → Prop} {E : Exn → Fr → Hh → Prop} : Wp (f_Totals__first ds h) Q E = Wp (runF 1 m_Totals__first ds h) Q E := congrArg (fun m => Wp (m ds h) Q E) f_Totals__first.eq_1
theorem wf_Series__last {ds : List D} {h : Hh} {Q : D → Fr → Hh → Prop} {E : Exn → Fr → Hh → Prop} : Wp (f_Series__last ds h) Q E = Wp (runF 1 m_Series__last ds h) Q E := congrArg (fun m => Wp (m ds h) Q E) f_Series__last.eq_1
theorem wf_Totals__last {ds : List D} {h : Hh} {Q : D → Fr → Hh → Prop} {E : Exn → Fr → Hh → Prop} : Wp (f_Totals__last ds h) Q E = Wp (runF 1 m_Totals__last ds h) Q E := congrArg (fun m => Wp (m ds h) Q E) f_Totals__last.eq_1
theorem wf_Series__change {ds : List D} {h : Hh} {Q : D → Fr → Hh → Prop} {E : Exn → Fr → Hh → Prop} : Wp (f_Series__change ds h) Q E = Wp (runF 1 m_Series__change ds h) Q E := congrArg (fun m => Wp (m ds h) Q E) f_Series__change.eq_1
theorem wf_Totals__change {ds : List D} {h : Hh} {Q : D → Fr → Hh → Prop} {E : Exn → Fr → Hh → Prop} : Wp (f_Totals__change ds h) Q E = Wp (runF 1 m_Totals__change ds h) Q E := congrArg (fun m => Wp (m ds h) Q E) f_Totals__change.eq_1
theorem wf_Series__rises {ds : List D} {h : Hh} {Q : D → Fr → Hh → Prop} {E : Exn → Fr → Hh → Prop} : Wp (f_Series__rises ds h) Q E = Wp (runF 1 m_Series__rises ds h) Q E := congrArg (fun m => Wp (m ds h) Q E) f_Series__rises.eq_1
theorem wf_Totals__rises {ds : List D} {h : Hh} {Q : D → Fr → Hh → Prop} {E : Exn → Fr → Hh → Prop} : Wp (f_Totals__rises ds h) Q E = Wp (runF 1 m_Totals__rises ds h) Q E := congrArg (fun m => Wp (m ds h) Q E) f_Totals__rises.eq_1
theorem wf_Series__told {ds : List D} {h : Hh} {Q : D → Fr → Hh → Prop} {E : Exn → Fr → Hh → Prop} : Wp (f_Series__told ds h) Q E = Wp (runF 1 m_Series__told ds h) Q E := congrArg (fun m => Wp (m ds h) Q E) f_Series__told.eq_1
theorem wf_Series__top {ds : List D} {h : Hh} {Q : D → Fr → Hh → Prop} {E : Exn → Fr → Hh → Prop} : Wp (f_Series__top ds h) Q E = Wp (runF 1 m_Series__top ds h) Q E := congrArg (fun m => Wp (m ds h) Q E) f_Series__top.eq_1
theorem wf_Series__low {ds : List D} {h : Hh} {Q : D → Fr → Hh → Prop} {E : Exn → Fr → Hh → Prop} : Wp (f_Series__low ds h) Q E = Wp (runF 1 m_Series__low ds h) Q E := congrArg (fun m => Wp (m ds h) Q E) f_Series__low.eq_1
theorem wf__law_leaf_term {ds : List D} {h : Hh} {Q : D → Fr → Hh → Prop} {E : Exn → Fr → Hh → Prop} : Wp (f__law_leaf_term ds h) Q E = Wp (runF 4 m__law_leaf_term ds h) Q E := congrArg (fun m => Wp (m ds h) Q E) f__law_leaf_term.eq_1
theorem wf_Term__with_other {ds : List D} {h : Hh} {Q : D → Fr → Hh → Prop} {E : Exn → Fr → Hh → Prop} : Wp (f_Term__with_other ds h) Q E = Wp (runF 3 m_Term__with_other ds h) Q E := congrArg (fun m => Wp (m ds h) Q E) f_Term__with_other.eq_1
theorem wf_Term____add__ {ds : List D} {h : Hh} {Q : D → Fr → Hh → Prop} {E : Exn → Fr → Hh → Prop} : Wp (f_Term____add__ ds h) Q E = Wp (runF 2 m_Term____add__ ds h) Q E := congrArg (fun m => Wp (m ds h) Q E) f_Term____add__.eq_1
theorem wf_Term____sub__ {ds : List D} {h : Hh} {Q : D → Fr → Hh → Prop} {E : Exn → Fr → Hh → Prop} : Wp (f_Term____sub__ ds h) Q E = Wp (runF 2 m_Term____sub__ ds h) Q E := congrArg (fun m => Wp (m ds h) Q E) f_Term____sub__.eq_1
theorem wf_Term____or__ {ds : List D} {h : Hh} {Q : D → Fr → Hh → Prop} {E : Exn → Fr → Hh → Prop} : Wp (f_Term____or__ ds h) Q E = Wp (runF 2 m_Term____or__ ds h) Q E := congrArg (fun m => Wp (m ds h) Q E) f_Term____or__.eq_1
theorem wf_Term____and__ {ds : List D} {h : Hh} {Q : D → Fr → Hh → Prop} {E : Exn → Fr → Hh → Prop} : Wp (f_Term____and__ ds h) Q E = Wp (runF 2 m_Term____and__ ds h) Q E := congrArg (fun m => Wp (m ds h) Q E) f_Term____and__.eq_1
theorem wf_Term____neg__ {ds : List D} {h : Hh} {Q : D → Fr → Hh → Prop} {E : Exn → Fr → Hh → Prop} : Wp (f_Term____neg__ ds h) Q E = Wp (runF 1 m_Term____neg__ ds h) Q E := congrArg (fun m => Wp (m ds h) Q E) f_Term____neg__.eq_1
theorem wf_is_integer {ds : List D} {h : Hh} {Q : D → Fr → Hh → Prop} {E : Exn → Fr → Hh → Prop} : Wp (f_is_integer ds h) Q E = Wp (runF 1 m_is_integer ds h) Q E := congrArg (fun m => Wp (m ds h) Q E) f_is_integer.eq_1
theorem wf_Term____mul__ {ds : List D} {h : Hh} {Q : D → Fr → Hh → Prop} {E : Exn → Fr → Hh → Prop} : Wp (f_Term____mul__ ds h) Q E = Wp (runF 2 m_Term____mul__ ds h) Q E := congrArg (fun m => Wp (m ds h) Q E) f_Term____mul__.eq_1
theorem wf_Term____rmul__ {ds : List D} {h : Hh} {Q : D → Fr → Hh → Prop} {E : Exn → Fr → Hh → Prop} : Wp (f_Term____rmul__ ds h) Q E = Wp (runF 2 m_Term____rmul__ ds h) Q E := congrArg (fun m => Wp (m ds h) Q E) f_Term____rmul__.eq_1
theorem wf_Term____eq__ {ds : List D} {h : Hh} {Q : D → Fr → Hh → Prop} {E : Exn → Fr → Hh → Prop} : Wp (f_Term____eq__ ds h) Q E = Wp (runF 2 m_Term____eq__ ds h) Q E := congrArg (fun m => Wp (m ds h) Q E) f_Term____eq__.eq_1
theorem wf_write_leaf {ds : List D} {h : Hh} {Q : D → Fr → Hh → Prop} {E : Exn → Fr → Hh → Prop} : Wp (f_write_leaf ds h) Q E = Wp (runF 2 m_write_leaf ds h) Q E := congrArg (fun m => Wp (m ds h) Q E) f_write_leaf.eq_1
theorem wf_Term__text {ds : List D} {h : Hh} {Q : D → Fr → Hh → Prop} {E : Exn → Fr → Hh → Prop} : Wp (f_Term__text ds h) Q E = Wp (runF 1 m_Term__text ds h) Q E := congrArg (fun m => Wp (m ds h) Q E) f_Term__text.eq_1
theorem wf__law_leaf_text {ds : List D} {h : Hh} {Q : D → Fr → Hh → Prop} {E : Exn → Fr → Hh → Prop} : Wp (f__law_leaf_text ds h) Q E = Wp (runF 2 m__law_leaf_text ds h) Q E := congrArg (fun m => Wp (m ds h) Q E) f__law_leaf_text.eq_1
theorem wf__law_is {ds : List D} {h : Hh} {Q : D → Fr → Hh → Prop} {E : Exn → Fr → Hh → Prop} : Wp (f__law_is ds h) Q E = Wp (runF 3 m__law_is ds h) Q E := congrArg (fun m => Wp (m ds h) Q E) f__law_is.eq_1
theorem wfs_write {j : Nat} {ds : List D} {h : Hh} {Q : D → Fr → Hh → Prop} {E : Exn → Fr → Hh → Prop} : Wp (fr_write (j + 1) ds h) Q E = Wp (runF 4 (m_write (fr_write j)) ds h) Q E := congrArg (fun (m : Fn) => Wp (m ds h) Q E) (show fr_write (j + 1) = _ from rfl)
theorem v_ix_readings_0 : ix_readings 0 = some 0 := by unfold ix_readings; rfl
theorem v_ix_readings_1 : ix_readings 1 = some 0 := by unfold ix_readings; rfl
theorem v_ix_readings_2 : ix_readings 2 = some 0 := by unfold ix_readings; rfl
theorem v_ix_node_0 : ix_node 0 = some 1 := by unfold ix_node; rfl
theorem v_ix_filling_1 : ix_filling 1 = some 1 := by unfold ix_filling; rfl
theorem v_ix_filling_2 : ix_filling 2 = some 1 := by unfold ix_filling; rfl
theorem v_ix_start_1 : ix_start 1 = some 2 := by unfold ix_start; rfl
theorem v_ix_start_2 : ix_start 2 = some 2 := by unfold ix_start; rfl
theorem v_ix_stop_1 : ix_stop 1 = some 3 := by unfold ix_stop; rfl
theorem v_ix_stop_2 : ix_stop 2 = some 3 := by unfold ix_stop; rfl
theorem v_mt_leaf_1 : mt_leaf 1 = some f_Series__leaf := by unfold mt_leaf; rfl
theorem v_mt_leaf_2 : mt_leaf 2 = some f_Totals__leaf := by unfold mt_leaf; rfl
theorem v_pt_total_1 : pt_total 1 = some f_Series__total := by unfold pt_total; rfl
theorem v_mt_true_events_1 : mt_true_events 1 = some f_Series__true_events := by unfold mt_true_events; rfl
theorem v_mt___getitem____Series_1 : mt___getitem____Series 1 = some f_Series____getitem__ := by unfold mt___getitem____Series; rfl
theorem v_mt_first_1 : mt_first 1 = some f_Series__first := by unfold mt_first; rfl
theorem v_mt_first_2 : mt_first 2 = some f_Totals__first := by unfold mt_first; rfl
theorem v_mt_last_1 : mt_last 1 = some f_Series__last := by unfold mt_last; rfl
theorem v_mt_last_2 : mt_last 2 = some f_Totals__last := by unfold mt_last; rfl
theorem v_mt_change_1 : mt_change 1 = some f_Series__change := by unfold mt_change; rfl
theorem v_mt_change_2 : mt_change 2 = some f_Totals__change := by unfold mt_change; rfl
theorem v_mt_rises_1 : mt_rises 1 = some f_Series__rises := by unfold mt_rises; rfl
theorem v_mt_rises_2 : mt_rises 2 = some f_Totals__rises := by unfold mt_rises; rfl
theorem v_mt_told_1 : mt_told 1 = some f_Series__told := by unfold mt_told; rfl
theorem v_mt_top_1 : mt_top 1 = some f_Series__top := by unfold mt_top; rfl
theorem v_mt_low_1 : mt_low 1 = some f_Series__low := by unfold mt_low; rfl
theorem v_mt_with_other_0 : mt_with_other 0 = some f_Term__with_other := by unfold mt_with_other; rfl
theorem v_mt___mul____Term_0 : mt___mul____Term 0 = some f_Term____mul__ := by unfold mt___mul____Term; rfl
theorem v_mt___neg____Term_0 : mt___neg____Term 0 = some f_Term____neg__ := by unfold mt___neg____Term; rfl
theorem v_mt___abs____Term_0 : mt___abs____Term 0 = some f_Term____abs__ := by unfold mt___abs____Term; rfl
theorem v_mt___add___0 : mt___add__ 0 = some f_Term____add__ := by unfold mt___add__; rfl
theorem v_mt___sub___0 : mt___sub__ 0 = some f_Term____sub__ := by unfold mt___sub__; rfl
theorem v_mt___or___0 : mt___or__ 0 = some f_Term____or__ := by unfold mt___or__; rfl
theorem v_mt___and___0 : mt___and__ 0 = some f_Term____and__ := by unfold mt___and__; rfl
theorem v_mt___rmul____Term_0 : mt___rmul____Term 0 = some f_Term____rmul__ := by unfold mt___rmul____Term; rfl
theorem v_pt_text_0 : pt_text 0 = some f_Term__text := by unfold pt_text; rfl
end L

namespace L
open PySem PySem.Spec L2 Pk
/-- the source's cell -/
def Src (h : Hh) (n : Nat) (C : Int) : Prop := ∃ a b c : Int, h[n]? = some (.nl [.int a, .int b, .int c]) ∧ 0 ≤ b ∧ b < 2 ^ 33 ∧ 0 ≤ c ∧ c ≤ C
theorem log2_lt {i : Int} {k : Nat} (h : i.natAbs < 2 ^ k) (hk : 0 < k) : i.natAbs.log2 < k := by
  by_cases h0 : i.natAbs = 0
  · rw [h0]; simpa using hk
  · exact (Nat.log2_lt h0).mpr h
theorem cMod_pos {i j : Int} (h : 0 < j) : cMod i j = true := decide_eq_true h
theorem draw_spec {h : Hh} {n : Nat} {C m : Int} (S : Src h n C) (hC : C ≤ 100000) (hm : 0 < m) (hl : m < 2 ^ 200) :
    ∃ r h', f__law_draw [.ref n, .int m] h = .ok (.int r) [] h' ∧ Src h' n (C + 1) ∧ 0 ≤ r ∧ r < m := by
  obtain ⟨a, b, c, e, b0, b1, c0, c1⟩ := S
  have hn : n < h.length := (List.getElem?_eq_some_iff.mp e).1
  have hml : m.natAbs.log2 < 9000 := by
    refine Nat.lt_of_lt_of_le (log2_lt (k := 200) ?_ (by decide)) (by decide)
    omega
  by_cases ha : 0 < a
  · refine ⟨a % m, h.set n (.nl [.int (a / m), .int b, .int c]), ?_, ⟨a / m, b, c, by rw [List.getElem?_set_self hn], b0, b1, c0, by omega⟩, Int.emod_nonneg _ (by omega), Int.emod_lt_of_pos _ hm⟩
    simp [f__law_draw, runF, m__law_draw, m__law_draw_k1, m__law_draw_k2, m__law_draw_k3, startF, mSeq, mIfS, M.bind, M.ret, M.opt, mOp, mLate, mHas, mBor, mC, bIdx, D.its, D.der, e, atI, ixN, cInt, ha, mPut, mUn, bInt1, mVar, D.own, bInt, cMod, hm, mSetS, mutSlot, setF, cDiv, hml, mRet, mMove]
  · have z1 : (b + 32452843 * (c + 1)).natAbs < 2 ^ 64 := by omega
    generalize hx : (b + 32452843 * (c + 1)) ^ 3 % 2305843009213693921 = x
    have hx0 : 0 ≤ x := by rw [← hx]; exact Int.emod_nonneg _ (by decide)
    have hx1 : x < 2305843009213693921 := by rw [← hx]; exact Int.emod_lt_of_pos _ (by decide)
    have z2 : (x + 49979687 * (c + 1)).natAbs < 2 ^ 64 := by omega
    have l1 : (c + 1).natAbs.log2 < 64 := log2_lt (by omega) (by decide)
    have l2 : ((32452843 : Int)).natAbs.log2 < 64 := log2_lt (by decide) (by decide)
    have l3 : ((49979687 : Int)).natAbs.log2 < 64 := log2_lt (by decide) (by decide)
    have l4 : ((4096 : Int)).natAbs.log2 < 9000 := Nat.lt_trans (log2_lt (k := 64) (by decide) (by decide)) (by decide)
    have c1' : cMul 32452843 (c + 1) = true := decide_eq_true (by omega)
    have c2' : cMul 49979687 (c + 1) = true := decide_eq_true (by omega)
    have c3' : cPow (b + 32452843 * (c + 1)) 3 = true := by
      unfold cPow
      rw [decide_eq_true z1]
      rfl
    have c4' : cPow (x + 49979687 * (c + 1)) 2 = true := by
      unfold cPow
      rw [decide_eq_true z2]
      rfl
    have c5' : cDiv ((x + 49979687 * (c + 1)) ^ 2 % 2305843009213693951) 4096 = true := by
      unfold cDiv
      rw [decide_eq_true l4]
      rfl
    refine ⟨((x + 49979687 * (c + 1)) ^ 2 % 2305843009213693951) / 4096 % m, h.set n (.nl [.int a, .int b, .int (c + 1)]), ?_, ⟨a, b, c + 1, by rw [List.getElem?_set_self hn], b0, b1, by omega, by omega⟩, Int.emod_nonneg _ (by omega), Int.emod_lt_of_pos _ hm⟩
    have ha' : decide (0 < a) = false := decide_eq_false ha
    have e2 : ∀ v : D, (h.set n v)[n]? = some v := fun v => List.getElem?_set_self hn
    simp [f__law_draw, runF, m__law_draw, m__law_draw_k1, m__law_draw_k2, m__law_draw_k3, startF, mSeq, mIfS, M.bind, M.ret, M.opt, mOp, mLate, mHas, mBor, mC, bIdx, D.its, D.der, e, atI, ixN, cInt, ha', mPut, mUn, bInt1, mVar, D.own, bInt, mSetS, mutSlot, setF, mRet, mMove, mFz, D.fz, bAdd, e2, c1', c2', c3', c4', c5', cMod_pos, hm, hx]
end L

/-! draws for laws without instances -/
namespace L
open PySem PySem.Spec L2 Pk
theorem of_spec {h : Hh} {n : Nat} {C : Int} {l : List D} (S : Src h n C) (hC : C ≤ 100000) (h0 : 0 < l.length) (hl : l.length ≤ 1000) :
    ∃ i d h', i < l.length ∧ l[i]? = some d ∧ f__law_of [.ref n, .fl l] h = .ok d [] h' ∧ Src h' n (C + 1) := by
  obtain ⟨r, h', e, S', r0, r1⟩ := draw_spec (m := (l.length : Int)) S hC (by omega) (by omega)
  have hi : r.toNat < l.length := by omega
  refine ⟨r.toNat, l[r.toNat], h', hi, List.getElem?_eq_getElem hi, ?_, S'⟩
  have er : ((r.toNat : Nat) : Int) = r := Int.toNat_of_nonneg r0
  simp [f__law_of, runF, m__law_of, startF, mRet, mLate, mHas, mBor, mFz, mCall, mArgs, M.bind, M.ret, M.opt, mVar, D.own, D.fz, mUn, bLen, D.its, D.der, gPos, e, liftR, bIdx, atI, ixN, r0, r1, hi]
theorem Src.up {h : Hh} {n : Nat} {C C' : Int} (S : Src h n C) (hC : C ≤ C') : Src h n C' := by
  obtain ⟨a, b, c, q1, q2, q3, q4, q5⟩ := S
  exact ⟨a, b, c, q1, q2, q3, q4, by omega⟩
theorem bIdx_fl {h : Hh} {l : List Int} {i : Nat} {t : Int} {j : Int} (hj : j = (i : Int)) (e : l[i]? = some t) : bIdx h (.fl (l.map .int)) (.int j) = some (.int t) := by
  subst hj
  have hl := (List.getElem?_eq_some_iff.mp e).1
  show atI (l.map D.int) i = _
  unfold atI
  have : ixN (l.map D.int).length (i : Int) = some i := by
    unfold ixN
    rw [List.length_map, if_pos (by omega), if_pos (by omega)]
    congr 1
  rw [this]
  simp [e]
theorem source_spec {h : Hh} {ns : List Int} {k : Nat} (hk : k ≤ 62) : ∃ a b, f__law_source [.kl (ns.map .int), .int k] h = .ok (.nl [.int a, .int b, .int 0]) [] h ∧ 0 ≤ b ∧ b < 2 ^ 33 := by
  have p18 : cPow 10 18 = true := by decide
  have b3 : 3 ≤ big := by decide
  have c1 : cMul 15485863 (k : Int) = true := by
    have l2 : ((15485863 : Int)).natAbs.log2 < 64 := log2_lt (by decide) (by decide)
    have l1 : ((k : Int)).natAbs.log2 < 64 := log2_lt (by omega) (by decide)
    exact decide_eq_true (by omega)
  have main : ∀ v : Int, (if (k : Int) < ns.length then bIdx h (.kl (ns.map .int)) (.int k) = some (.int v) else v = 0) → ∃ a b, f__law_source [.kl (ns.map .int), .int k] h = .ok (.nl [.int a, .int b, .int 0]) [] h ∧ 0 ≤ b ∧ b < 2 ^ 33 := fun v hv => by
    have hb0 : 0 ≤ v % 2147483629 := Int.emod_nonneg _ (by decide)
    have hb1 : v % 2147483629 < 2147483629 := Int.emod_lt_of_pos _ (by decide)
    refine ⟨if (1000000000000000000 : Int) ≤ (if v < 0 then -v else v) then (if v < 0 then -v else v) else 0, v % 2147483629 + 15485863 * (k : Int) + 7919, ?_, by omega, by omega⟩
    by_cases hl : (k : Int) < ns.length
    · rw [if_pos hl] at hv
      have hl' : k < ns.length := by omega
      by_cases hbig : (1000000000000000000 : Int) ≤ (if v < 0 then -v else v)
      · simp [f__law_source, runF, m__law_source, m__law_source_k1, startF, mSeq, mPut, mIf, mOp, mVar, D.own, M.bind, M.ret, M.opt, mUn, bLen, mBor, D.its, D.der, cInt, hl, hl', mLate, mHas, hv, mC, bAbs, bInt, p18, hbig, mRet, mLst, mArgs, mFz, bAdd, D.fz, bInt1, cMod_pos, c1, b3]
      · simp [f__law_source, runF, m__law_source, m__law_source_k1, startF, mSeq, mPut, mIf, mOp, mVar, D.own, M.bind, M.ret, M.opt, mUn, bLen, mBor, D.its, D.der, cInt, hl, hl', mLate, mHas, hv, mC, bAbs, bInt, p18, hbig, mRet, mLst, mArgs, mFz, bAdd, D.fz, bInt1, cMod_pos, c1, b3]
    · rw [if_neg hl] at hv
      subst hv
      have hl' : ¬ k < ns.length := by omega
      simp [f__law_source, runF, m__law_source, m__law_source_k1, startF, mSeq, mPut, mIf, mOp, mVar, D.own, M.bind, M.ret, M.opt, mUn, bLen, mBor, D.its, D.der, cInt, hl, hl', mC, bAbs, bInt, p18, mRet, mLst, mArgs, mFz, bAdd, D.fz, bInt1, cMod_pos, c1, b3]
  by_cases hl : (k : Int) < ns.length
  · have e : ns[k]? = some (ns[k]'(by omega)) := List.getElem?_eq_getElem _
    exact main _ (by rw [if_pos hl]; exact bIdx_fl (h := h) rfl e)
  · exact main 0 (by rw [if_neg hl])
end L

/-! k17: moments, rows -/
namespace L
open PySem PySem.Spec L2 Pk
def moI (a b : Nat) : List Int := (List.range (b - a)).map fun i => (a : Int) + (i : Nat)
def mo (a b : Nat) : List D := (moI a b).map .int
theorem mo_len {a b : Nat} : (mo a b).length = b - a := by unfold mo moI; simp
theorem mo_get {a b i : Nat} (h : i < b - a) : (mo a b)[i]? = some (.int ((a : Int) + (i : Nat))) := by
  unfold mo moI
  simp [h]
theorem mo_no {a b i : Nat} (h : b - a ≤ i) : (mo a b)[i]? = none := by
  rw [List.getElem?_eq_none]
  rw [mo_len]
  exact h
theorem rgD_mo {a b : Nat} : rgD (a : Int) (b : Int) = mo a b := by
  unfold rgD mo moI
  rw [List.map_map, show ((b : Int) - (a : Int)).toNat = b - a from by omega]
  rfl
theorem sIx_le {n d : Nat} (hd : d ≤ n) (o : Option Int) : HT.sIx n d o ≤ n := by
  unfold HT.sIx
  split <;> (try split) <;> omega
theorem cut_mo {a b : Nat} (lo hi : Option Int) : cutD (mo a b) lo hi = mo (a + HT.sIx (b - a) 0 lo) (a + HT.sIx (b - a) (b - a) hi) := by
  unfold cutD
  rw [mo_len]
  have hq := sIx_le (Nat.le_refl (b - a)) hi
  generalize HT.sIx (b - a) 0 lo = p
  generalize HT.sIx (b - a) (b - a) hi = q at hq
  refine List.ext_getElem? fun i => ?_
  by_cases hi : i < q - p
  · rw [List.getElem?_take_of_lt hi, List.getElem?_drop, mo_get (by omega), mo_get (by omega)]
    push_cast
    rw [Int.add_assoc]
  · rw [List.getElem?_eq_none (by rw [List.length_take]; omega), mo_no (by omega)]
/-- a series or totals -/
def row (c n : Nat) (w : Str) (a b : Nat) : D := .obj c [.int (n : Int), .str w, .int (a : Int), .int (b : Int)]
def nrow (c n : Nat) (w : Str) (a b : Nat) : D := .no c [.int (n : Int), .str w, .int (a : Int), .int (b : Int)]
def Way (c : Nat) (w : Str) : Prop := (c = 1 ∧ w = "raw") ∨ ((c = 1 ∨ c = 2) ∧ (w = "zero" ∨ w = "held"))
theorem rgok {a b : Nat} (hb : b ≤ 4) (ha : a ≤ 4) : rgOk (a : Int) (b : Int) = true := by
  unfold rgOk
  simp only [Bool.and_eq_true, decide_eq_true_eq]
  omega
/-- the moment at an index -/
def at_ (a b : Nat) (i : Int) : Nat := if i < 0 then ((b : Int) + i).toNat else ((a : Int) + i).toNat
theorem atI_mo {a b : Nat} {i : Int} (hab : a < b) (h1 : -((b - a : Nat) : Int) ≤ i) (h2 : i < ((b - a : Nat) : Int)) : atI (mo a b) i = some (.int (at_ a b i : Nat)) ∧ a ≤ at_ a b i ∧ at_ a b i < b := by
  unfold atI ixN at_
  rw [mo_len]
  by_cases h0 : i < 0
  · have e1 : ¬ (0 ≤ i) := by omega
    simp only [e1, if_false, h1, if_true, h0]
    refine ⟨?_, by omega, by omega⟩
    show (mo a b)[(i + ((b - a : Nat) : Int)).toNat]? = _
    rw [mo_get (by omega)]
    congr 2
    omega
  · have e1 : 0 ≤ i := by omega
    simp only [e1, if_true, h2, h0, if_false]
    refine ⟨?_, by omega, by omega⟩
    show (mo a b)[i.toNat]? = _
    rw [mo_get (by omega)]
    congr 2
    omega
theorem ixf {h : Hh} {a b : Nat} {i : Int} (hab : a < b) (h1 : -((b - a : Nat) : Int) ≤ i) (h2 : i < ((b - a : Nat) : Int)) : bIdx h (.fl (mo a b)) (.int i) = some (.int (at_ a b i : Nat)) := (atI_mo hab h1 h2).1
theorem ix0 {h : Hh} {a b : Nat} (hab : a < b) : bIdx h (.fl (mo a b)) (.int 0) = some (.int (a : Int)) := by
  rw [ixf hab (by omega) (by omega)]
  unfold at_
  simp
theorem ixm {h : Hh} {a b : Nat} (hab : a < b) : bIdx h (.fl (mo a b)) (.int (-1)) = some (.int ((b : Int) - 1)) := by
  rw [ixf hab (by omega) (by omega)]
  unfold at_
  rw [if_pos (by omega)]
  congr 2
  omega
end L

/-! k17: defs of the program -/
namespace L
open PySem PySem.Spec L2 Pk
theorem fin_f {h : Hh} {w : Str} : w = "raw" ∨ w = "zero" ∨ w = "held" → cIn h (.str w) (.tup kon_FILLINGS) = some true ∧ bIsi isiTab h (.str w) (.ty "str") = some (.bl true) := by
  rintro (rfl | rfl | rfl) <;> exact ⟨by kernel_rfl, by kernel_rfl⟩
theorem fin_t {h : Hh} {w : Str} : w = "zero" ∨ w = "held" → cIn h (.str w) (.tup [.str "zero", .str "held"]) = some true ∧ bIsi isiTab h (.str w) (.ty "str") = some (.bl true) := by
  rintro (rfl | rfl) <;> exact ⟨by kernel_rfl, by kernel_rfl⟩
theorem fcut : List.drop 1 kon_FILLINGS = [.str "zero", .str "held"] := rfl
theorem pu0 {x : D} : putFs 0 x [] = some [x] := rfl
theorem pu1 {x a : D} : putFs 1 x [a] = some [a, x] := rfl
theorem pu2 {x a b : D} : putFs 2 x [a, b] = some [a, b, x] := rfl
theorem pu3 {x a b c : D} : putFs 3 x [a, b, c] = some [a, b, c, x] := rfl
section
variable {h : Hh} {n a b c : Nat} {w : Str}
theorem ser_init (hw : w = "raw" ∨ w = "zero" ∨ w = "held") {x : D} {s : Int} (hx : x = .non ∧ s = (n : Int) ∨ x = .int s) : f_Series____init__ [.int (n : Int), .str w, .int (a : Int), x] h = .ok (.no 1 [.int (n : Int), .str w, .int (a : Int), .int s]) [] h := by
  obtain ⟨h1, h2⟩ := fin_f (h := h) hw
  apply Wp.eq
  rcases hx with ⟨rfl, rfl⟩ | rfl
  · simp only [↓wf_Series____init__, ↓wp_runI, startF, List.map_cons, List.map_nil, List.length_cons, List.length_nil, Nat.zero_add, Nat.reduceAdd, Nat.reduceSub, List.replicate_zero, List.append_nil, bx_cons, ↓w_Series____init__, ↓wp_Seq, ↓wp_IfS, ↓wp_Or, ↓wp_Not, ↓wp_Un, ↓wp_Op, ↓wp_Var, List.getElem?_cons_succ, List.getElem?_cons_zero, List.set_cons_succ, List.set_cons_zero, sl_some, own_str, cd_f, ↓wp_C, h2, op_some, tru_bl, Bool.not_true, cNin_eq, h1, Option.map_some, ↓wp_ret, flk_nx, ↓w_Series____init___k1, ↓wp_PutFld, own_int, ↓wp_mutF, v_ix_readings_1, pu0, ↓w_Series____init___k2, v_ix_filling_1, pu1, ↓w_Series____init___k3, v_ix_start_1, pu2, ↓wp_If, own_non, cIs_non, isNon_non, cd_t, v_ix_stop_1, pu3, nok_some, and_self]
  · simp only [↓wf_Series____init__, ↓wp_runI, startF, List.map_cons, List.map_nil, List.length_cons, List.length_nil, Nat.zero_add, Nat.reduceAdd, Nat.reduceSub, List.replicate_zero, List.append_nil, bx_cons, ↓w_Series____init__, ↓wp_Seq, ↓wp_IfS, ↓wp_Or, ↓wp_Not, ↓wp_Un, ↓wp_Op, ↓wp_Var, List.getElem?_cons_succ, List.getElem?_cons_zero, List.set_cons_succ, List.set_cons_zero, sl_some, own_str, cd_f, ↓wp_C, h2, op_some, tru_bl, Bool.not_true, cNin_eq, h1, Option.map_some, ↓wp_ret, flk_nx, ↓w_Series____init___k1, ↓wp_PutFld, own_int, ↓wp_mutF, v_ix_readings_1, pu0, ↓w_Series____init___k2, v_ix_filling_1, pu1, ↓w_Series____init___k3, v_ix_start_1, pu2, ↓wp_If, cIs_non, isNon_int, v_ix_stop_1, pu3, nok_some, and_self]
theorem tot_init (hw : w = "zero" ∨ w = "held") {x : D} {s : Int} (hx : x = .non ∧ s = (n : Int) ∨ x = .int s) : f_Totals____init__ [.int (n : Int), .str w, .int (a : Int), x] h = .ok (.no 2 [.int (n : Int), .str w, .int (a : Int), .int s]) [] h := by
  obtain ⟨h1, h2⟩ := fin_t (h := h) hw
  apply Wp.eq
  rcases hx with ⟨rfl, rfl⟩ | rfl
  · simp only [↓wf_Totals____init__, ↓wp_runI, startF, List.map_cons, List.map_nil, List.length_cons, List.length_nil, Nat.zero_add, Nat.reduceAdd, Nat.reduceSub, List.replicate_zero, List.append_nil, bx_cons, ↓w_Totals____init__, ↓wp_Seq, ↓wp_IfS, ↓wp_Or, ↓wp_Not, ↓wp_Un, ↓wp_Op, ↓wp_Var, List.getElem?_cons_succ, List.getElem?_cons_zero, List.set_cons_succ, List.set_cons_zero, sl_some, own_str, cd_f, ↓wp_C, h2, op_some, tru_bl, Bool.not_true, ↓wp_Cut, ↓wp_Psi, psI_int, ↓wp_Pn, bCut_tup, Int.reduceLE, cut_lo, Int.reduceToNat, fcut, cNin_eq, h1, Option.map_some, ↓wp_ret, flk_nx, ↓w_Totals____init___k1, ↓wp_PutFld, own_int, ↓wp_mutF, v_ix_readings_2, pu0, ↓w_Totals____init___k2, v_ix_filling_2, pu1, ↓w_Totals____init___k3, v_ix_start_2, pu2, ↓wp_If, own_non, cIs_non, isNon_non, cd_t, v_ix_stop_2, pu3, nok_some, and_self]
  · simp only [↓wf_Totals____init__, ↓wp_runI, startF, List.map_cons, List.map_nil, List.length_cons, List.length_nil, Nat.zero_add, Nat.reduceAdd, Nat.reduceSub, List.replicate_zero, List.append_nil, bx_cons, ↓w_Totals____init__, ↓wp_Seq, ↓wp_IfS, ↓wp_Or, ↓wp_Not, ↓wp_Un, ↓wp_Op, ↓wp_Var, List.getElem?_cons_succ, List.getElem?_cons_zero, List.set_cons_succ, List.set_cons_zero, sl_some, own_str, cd_f, ↓wp_C, h2, op_some, tru_bl, Bool.not_true, ↓wp_Cut, ↓wp_Psi, psI_int, ↓wp_Pn, bCut_tup, Int.reduceLE, cut_lo, Int.reduceToNat, fcut, cNin_eq, h1, Option.map_some, ↓wp_ret, flk_nx, ↓w_Totals____init___k1, ↓wp_PutFld, own_int, ↓wp_mutF, v_ix_readings_2, pu0, ↓w_Totals____init___k2, v_ix_filling_2, pu1, ↓w_Totals____init___k3, v_ix_start_2, pu2, ↓wp_If, cIs_non, isNon_int, v_ix_stop_2, pu3, nok_some, and_self]
theorem cEq_mo {l : List Int} : cEq h (.fl (l.map .int)) (.nl []) = some (decide (l = [])) := cEq_fnI (h := h) (l := l) (m := [])
theorem cEq_mo' {a b : Nat} : cEq h (.fl (mo a b)) (.nl []) = some (decide (b ≤ a)) := by
  have e := cEq_mo (h := h) (l := moI a b)
  have ed : decide (moI a b = []) = decide (b ≤ a) := by
    congr 1
    refine propext ⟨fun z => ?_, fun z => ?_⟩
    · have := congrArg List.length z
      unfold moI at this
      simp at this
      omega
    · unfold moI
      rw [show b - a = 0 from by omega]
      rfl
  rw [ed] at e
  exact e
/-- picked by a slice -/
theorem picked_sl (hab : a < b) (hb : b ≤ 4) {lo hi : Option Int} {a' b' : Nat} (ha' : a' = a + HT.sIx (b - a) 0 lo) (hb' : b' = a + HT.sIx (b - a) (b - a) hi) (hlt : a' < b') :
    f_picked [.int (a : Int), .int (b : Int), .sl lo hi] h = .ok (.tup [.int (a' : Int), .int ((b' : Int) - 1 + 1)]) [] h := by
  have r1 := rgok (a := a) (b := b) hb (by omega)
  have e1 := cut_mo (a := a) (b := b) lo hi
  rw [← ha', ← hb'] at e1
  have e2 : decide (b' ≤ a') = false := decide_eq_false (by omega)
  have e3 := ix0 (h := h) hlt
  have e4 := ixm (h := h) hlt
  apply Wp.eq
  simp only [↓wf_picked, ↓wp_runF, startF, List.map_cons, List.map_nil, List.length_cons, List.length_nil, Nat.zero_add, Nat.reduceAdd, Nat.reduceSub, List.replicate_succ, List.replicate_zero, List.cons_append, List.nil_append, bx_cons, ↓w_picked, ↓wp_Seq, ↓wp_Put, ↓wp_LstR2, ↓wp_Var, List.getElem?_cons_zero, List.set_cons_zero, sl_some, own_int, cd_f, List.getElem?_cons_succ, List.set_cons_succ, bRg_ok r1, rgD_mo, op_some, flk_nx, ↓w_picked_k1, ↓wp_IfS, ↓wp_Un, ↓wp_Op, own_sl, fz_sl, ↓wp_C, isiS_sl, tru_bl, ↓wp_ret, ↓w_picked_k2, ↓wp_Late, bIdxS_sl, e1, ↓w_picked_k3, own_nl, cd_t, fz_nl, ↓wp_Lst, ↓wp_Args0, big_eq, Nat.reduceLeDiff, cEq_mo', e2, ↓wp_Ret, ↓wp_Tup, ↓wp_Args1, e3, ↓wp_Fz, bNeg_int, Int.reduceNeg, e4, bAdd_int, fz_int, rtk_rt, and_self]
theorem picked_no (hab : a < b) (hb : b ≤ 4) {lo hi : Option Int} {a' b' : Nat} (ha' : a' = a + HT.sIx (b - a) 0 lo) (hb' : b' = a + HT.sIx (b - a) (b - a) hi) (hlt : b' ≤ a') :
    f_picked [.int (a : Int), .int (b : Int), .sl lo hi] h = .exc ⟨3, []⟩ [] h := by
  have r1 := rgok (a := a) (b := b) hb (by omega)
  have e1 := cut_mo (a := a) (b := b) lo hi
  rw [← ha', ← hb'] at e1
  have e2 : decide (b' ≤ a') = true := decide_eq_true hlt
  apply Wp.eqx
  simp only [↓wf_picked, ↓wp_runF, startF, List.map_cons, List.map_nil, List.length_cons, List.length_nil, Nat.zero_add, Nat.reduceAdd, Nat.reduceSub, List.replicate_succ, List.replicate_zero, List.cons_append, List.nil_append, bx_cons, ↓w_picked, ↓wp_Seq, ↓wp_Put, ↓wp_LstR2, ↓wp_Var, List.getElem?_cons_zero, List.set_cons_zero, sl_some, own_int, cd_f, List.getElem?_cons_succ, List.set_cons_succ, bRg_ok r1, rgD_mo, op_some, flk_nx, ↓w_picked_k1, ↓wp_IfS, ↓wp_Un, ↓wp_Op, own_sl, fz_sl, ↓wp_C, isiS_sl, tru_bl, ↓wp_ret, ↓w_picked_k2, ↓wp_Late, bIdxS_sl, e1, ↓w_picked_k3, own_nl, cd_t, fz_nl, ↓wp_Lst, ↓wp_Args0, big_eq, Nat.reduceLeDiff, cEq_mo', e2, ↓wp_exc, and_self]
end
end L

/-! series and totals: their slices, their total -/
namespace L
open PySem PySem.Spec L2 Pk
theorem way_s {c : Nat} {w : Str} (v : Way c w) : w = "raw" ∨ w = "zero" ∨ w = "held" := by
  rcases v with ⟨_, rfl⟩ | ⟨_, rfl | rfl⟩ <;> simp
theorem cEq_ss {h : Hh} {w : Str} (hw : w = "raw" ∨ w = "zero" ∨ w = "held") : cEq h (.str w) (.str w) = some true := by
  rcases hw with rfl | rfl | rfl <;> kernel_rfl
/-- what picked answers -/
def Picks (h : Hh) (a b : Nat) (at_ : D) (p : Nat × Nat) : Prop := at_.own = false ∧ a ≤ p.1 ∧ p.2 ≤ b ∧ ((p.1 < p.2 ∧ f_picked [.int (a : Int), .int (b : Int), at_] h = .ok (.tup [.int (p.1 : Int), .int (p.2 : Int)]) [] h) ∨
  (p.2 ≤ p.1 ∧ f_picked [.int (a : Int), .int (b : Int), at_] h = .exc ⟨3, []⟩ [] h))
section
variable {h : Hh} {n a b c : Nat} {w : Str}
def slP (a b : Nat) (lo hi : Option Int) : Nat × Nat := (a + HT.sIx (b - a) 0 lo, a + HT.sIx (b - a) (b - a) hi)
theorem picks_sl (hab : a < b) (hb : b ≤ 4) (lo hi : Option Int) : Picks h a b (.sl lo hi) (slP a b lo hi) := by
  have s1 := sIx_le (n := b - a) (d := b - a) (Nat.le_refl _) hi
  refine ⟨rfl, ?_, ?_, ?_⟩
  · show a ≤ a + _
    omega
  · show a + HT.sIx (b - a) (b - a) hi ≤ b
    omega
  · by_cases hlt : (slP a b lo hi).1 < (slP a b lo hi).2
    · have e := picked_sl (h := h) hab hb (lo := lo) (hi := hi) rfl rfl hlt
      rw [show ((a + HT.sIx (b - a) (b - a) hi : Nat) : Int) - 1 + 1 = ((slP a b lo hi).2 : Int) from by unfold slP; omega] at e
      exact .inl ⟨hlt, e⟩
    · exact .inr ⟨by omega, picked_no hab hb (lo := lo) (hi := hi) rfl rfl (by unfold slP at hlt; dsimp only at hlt; omega)⟩
def inP (a b : Nat) (i : Int) : Nat × Nat := if -((b - a : Nat) : Int) ≤ i ∧ i < ((b - a : Nat) : Int) then (at_ a b i, at_ a b i + 1) else (a, a)
theorem get_ok0 (v : Way 1 w) {at_ : D} {p : Nat × Nat} (k : Picks h a b at_ p) (hp : p.1 < p.2) : f_Series____getitem__ [row 1 n w a b, at_] h = .ok (nrow 1 n w p.1 p.2) [] h := by
  obtain ⟨ho, _, _, ⟨_, e⟩ | ⟨z, _⟩⟩ := k
  · have e2 := ser_init (h := h) (n := n) (a := p.1) (way_s v) (x := .int (p.2 : Int)) (s := (p.2 : Int)) (.inr rfl)
    unfold row nrow
    apply Wp.eq
    simp only [↓wf_Series____getitem__, ↓wp_runF, startF, List.map_cons, List.map_nil, List.length_cons, List.length_nil, Nat.zero_add, Nat.reduceAdd, Nat.reduceSub, List.replicate_succ, List.replicate_zero, List.cons_append, List.nil_append, bx_cons, ↓w_Series____getitem__, ↓wp_Seq, ↓wp_Asg, ↓wp_Fz, ↓wp_Call, ↓wp_Args1, ↓wp_Un, ↓wp_Bor, List.getElem?_cons_zero, sl_some, fld_obj, v_ix_start_1, op_some, List.getElem?_cons_succ, v_ix_stop_1, ↓wp_Var, List.set_cons_succ, List.set_cons_zero, ho, cd_f, ↓wp_Args0, gPos_eq, List.append_nil, e, ↓wp_ok, fz_tup, ↓wp_tgTup, ↓wp_tgCons, ↓wp_tgNm, ↓wp_tgNil, flk_nx, ↓wp_Ret, gKwD, v_ix_readings_1, v_ix_filling_1, own_int, pick_cons, toL_some, pick_nil, e2, rtk_rt, and_self]
  · omega
theorem total_spec (hw : w = "raw" ∨ w = "zero" ∨ w = "held") : f_Series__total [row 1 n w a b] h = .ok (nrow 2 n (if w = "held" then "held" else "zero") a b) [] h := by
  have g : ∀ u : Str, u = "zero" ∨ u = "held" → f_Totals____init__ [.int (n : Int), .str u, .int (a : Int), .int (b : Int)] h = .ok (.no 2 [.int (n : Int), .str u, .int (a : Int), .int (b : Int)]) [] h := fun u hu => tot_init hu (.inr rfl)
  have g1 := g "zero" (.inl rfl)
  have g2 := g "held" (.inr rfl)
  have c0 : cEq h (.str "raw") (.str "held") = some false := by kernel_rfl
  have c1 : cEq h (.str "zero") (.str "held") = some false := by kernel_rfl
  have c2 : cEq h (.str "held") (.str "held") = some true := by kernel_rfl
  have n0 : ¬ (("raw" : Str) = "held") := by decide
  have n1 : ¬ (("zero" : Str) = "held") := by decide
  unfold row nrow
  apply Wp.eq
  rcases hw with rfl | rfl | rfl
  · simp only [↓wf_Series__total, ↓wp_runF, startF, List.map_cons, List.map_nil, List.length_cons, List.length_nil, Nat.zero_add, Nat.reduceSub, List.replicate_succ, List.replicate_zero, List.cons_append, List.nil_append, bx_cons, ↓w_Series__total, ↓wp_Seq, ↓wp_Put, ↓wp_If, ↓wp_Op, ↓wp_Un, ↓wp_Bor, List.getElem?_cons_zero, sl_some, fld_obj, v_ix_filling_1, op_some, List.getElem?_cons_succ, ↓wp_C, c0, cd_f, List.set_cons_succ, List.set_cons_zero, flk_nx, ↓wp_Ret, ↓wp_Call, ↓wp_Args1, gKwD, v_ix_readings_1, ↓wp_Args0, ↓wp_Var, Nat.reduceAdd, own_str, v_ix_start_1, v_ix_stop_1, List.append_nil, pick_cons, toL_some, pick_nil, g1, ↓wp_ok, rtk_rt, n0, ↓reduceIte, and_self]
  · simp only [↓wf_Series__total, ↓wp_runF, startF, List.map_cons, List.map_nil, List.length_cons, List.length_nil, Nat.zero_add, Nat.reduceSub, List.replicate_succ, List.replicate_zero, List.cons_append, List.nil_append, bx_cons, ↓w_Series__total, ↓wp_Seq, ↓wp_Put, ↓wp_If, ↓wp_Op, ↓wp_Un, ↓wp_Bor, List.getElem?_cons_zero, sl_some, fld_obj, v_ix_filling_1, op_some, List.getElem?_cons_succ, ↓wp_C, c1, cd_f, List.set_cons_succ, List.set_cons_zero, flk_nx, ↓wp_Ret, ↓wp_Call, ↓wp_Args1, gKwD, v_ix_readings_1, ↓wp_Args0, ↓wp_Var, Nat.reduceAdd, own_str, v_ix_start_1, v_ix_stop_1, List.append_nil, pick_cons, toL_some, pick_nil, g1, ↓wp_ok, rtk_rt, n1, ↓reduceIte, and_self]
  · simp only [↓wf_Series__total, ↓wp_runF, startF, List.map_cons, List.map_nil, List.length_cons, List.length_nil, Nat.zero_add, Nat.reduceSub, List.replicate_succ, List.replicate_zero, List.cons_append, List.nil_append, bx_cons, ↓w_Series__total, ↓wp_Seq, ↓wp_Put, ↓wp_If, ↓wp_Op, ↓wp_Un, ↓wp_Bor, List.getElem?_cons_zero, sl_some, fld_obj, v_ix_filling_1, op_some, List.getElem?_cons_succ, ↓wp_C, c2, cd_t, List.set_cons_succ, List.set_cons_zero, flk_nx, ↓wp_Ret, ↓wp_Call, ↓wp_Args1, gKwD, v_ix_readings_1, ↓wp_Args0, ↓wp_Var, Nat.reduceAdd, own_str, cd_f, v_ix_start_1, v_ix_stop_1, List.append_nil, pick_cons, toL_some, pick_nil, g2, ↓wp_ok, rtk_rt, ↓reduceIte, and_self]
end
end L

/-! leaves as data: the law's tuple, the program's node, the text -/
namespace L
open PySem PySem.Spec L2 Pk
inductive Lf where
  | ev (a b : Nat)
  | all (m f : Str) (a b : Nat)
  | each (m f : Str) (a b : Nat)
  deriving DecidableEq
abbrev SI := Sum Str Int
def siD : SI → D
  | .inl s => .str s
  | .inr i => .int i
def Em.si : Em SI where
  f := fun x => match x with
    | .inl s => .str s
    | .inr i => .int i
  n := 0
  ok := fun x => match x with
    | .inl s => strG s = true
    | .inr _ => True
  lay := fun x h => by
    cases x with
    | inl s => exact h
    | inr i => rfl
  dep := fun x => by cases x <;> exact Nat.le_refl 0
  eq := fun x y => by
    cases x with
    | inl s => cases y with
      | inl t => exact (Em.str.eq s t).trans (by simp)
      | inr j => rfl
    | inr i => cases y with
      | inl t => rfl
      | inr j => exact (Em.int.eq i j).trans (by simp)
theorem toP_si (x : SI) : (siD x).toP = some (Em.si.f x) := by cases x <;> (unfold siD D.toP; rfl)
def Lf.ld : Lf → List SI
  | .ev a b => [.inl "true", .inr a, .inr b]
  | .all m f a b => [.inl "all", .inl m, .inl f, .inr a, .inr b]
  | .each m f a b => [.inl "each", .inl m, .inl f, .inr a, .inr b]
def Lf.nd : Lf → List SI
  | .ev a b => [.inl "events", .inr a, .inr b]
  | .all m f a b => [.inl "leaf", .inl "all", .inl m, .inl f, .inr a, .inr b]
  | .each m f a b => [.inl "leaf", .inl "each", .inl m, .inl f, .inr a, .inr b]
def Lf.ldD (l : Lf) : D := .tup (l.ld.map siD)
def Lf.ndD (l : Lf) : D := .tup (l.nd.map siD)
theorem Lf.nd_inj {l m : Lf} : l.nd = m.nd ↔ l = m := by
  have d1 : ¬ (("all" : Str) = "each") := by decide
  have d2 : ¬ (("each" : Str) = "all") := by decide
  cases l <;> cases m <;> simp [Lf.nd, d1, d2, Int.natCast_inj]
def okAll (m f : Str) : Prop := (m = "first" ∨ m = "last" ∨ m = "change" ∨ m = "rises") ∧ (f = "zero" ∨ f = "held")
def okEach (m f : Str) : Prop := (m = "told" ∧ f = "raw") ∨ ((m = "first" ∨ m = "last" ∨ m = "change" ∨ m = "rises" ∨ m = "top" ∨ m = "low") ∧ (f = "raw" ∨ f = "zero" ∨ f = "held"))
def Lf.Ok (n : Nat) : Lf → Prop
  | .ev a b => a < b ∧ b ≤ n
  | .all m f a b => okAll m f ∧ a < b ∧ b ≤ n
  | .each m f a b => okEach m f ∧ a < b ∧ b ≤ n
theorem strG_iff {a : Str} : strG a = a.cps.all (· < 0x110000) := rfl
theorem strG_app {a b : Str} (ha : strG a = true) (hb : strG b = true) : strG (a ++ b) = true := by
  rw [strG_iff] at *
  rw [Str.cps_append, Array.all_append, ha, hb]
  rfl
def dg (a : Nat) : Str := toString (a : Int)
theorem dg_ok {a : Nat} (ha : a ≤ 9) : strG (dg a) = true ∧ (dg a).length ≤ 1 ∧ ((a : Int)).natAbs.log2 < 1920 := by
  match a, ha with
  | 0, _ | 1, _ | 2, _ | 3, _ | 4, _ | 5, _ | 6, _ | 7, _ | 8, _ | 9, _ => exact ⟨by decide +kernel, by decide +kernel, by decide +kernel⟩
def Lf.txt : Lf → Str
  | .ev a b => "events[" ++ dg a ++ ":" ++ dg b ++ "]"
  | .all m f a b => m ++ "(sum(" ++ (f ++ "[" ++ dg a ++ ":" ++ dg b ++ "]") ++ "))"
  | .each m f a b => "sum(" ++ m ++ "(" ++ (f ++ "[" ++ dg a ++ ":" ++ dg b ++ "]") ++ "))"
def mW : List Str := ["first", "last", "change", "rises", "top", "low", "told"]
def fW : List Str := ["raw", "zero", "held"]
theorem mW_ok : ∀ m ∈ mW, strG m = true ∧ m.length ≤ 6 := fun m hm => by
  simp only [mW, List.mem_cons, List.not_mem_nil, or_false] at hm
  rcases hm with rfl | rfl | rfl | rfl | rfl | rfl | rfl <;> decide +kernel
theorem fW_ok : ∀ m ∈ fW, strG m = true ∧ m.length ≤ 6 := fun m hm => by
  simp only [fW, List.mem_cons, List.not_mem_nil, or_false] at hm
  rcases hm with rfl | rfl | rfl <;> decide +kernel
theorem okAll_in {m f : Str} (h : okAll m f) : m ∈ mW ∧ f ∈ fW := by
  rcases h with ⟨rfl | rfl | rfl | rfl, rfl | rfl⟩ <;> decide
theorem okEach_in {m f : Str} (h : okEach m f) : m ∈ mW ∧ f ∈ fW := by
  rcases h with ⟨rfl, rfl⟩ | ⟨rfl | rfl | rfl | rfl | rfl | rfl, rfl | rfl | rfl⟩ <;> decide
theorem Lf.nd_ok {n : Nat} {l : Lf} (o : l.Ok n) : Em.si.tup.ok l.nd := by
  have g1 : strG "events" = true := by decide +kernel
  have g2 : strG "all" = true := by decide +kernel
  have g3 : strG "each" = true := by decide +kernel
  have g4 : strG "leaf" = true := by decide +kernel
  cases l with
  | ev a b =>
    intro x hx
    simp only [Lf.nd, List.mem_cons, List.not_mem_nil, or_false] at hx
    rcases hx with rfl | rfl | rfl
    · exact g1
    · trivial
    · trivial
  | all m f a b =>
    obtain ⟨hm, hf⟩ := okAll_in o.1
    intro x hx
    simp only [Lf.nd, List.mem_cons, List.not_mem_nil, or_false] at hx
    rcases hx with rfl | rfl | rfl | rfl | rfl | rfl
    · exact g4
    · exact g2
    · exact (mW_ok m hm).1
    · exact (fW_ok f hf).1
    · trivial
    · trivial
  | each m f a b =>
    obtain ⟨hm, hf⟩ := okEach_in o.1
    intro x hx
    simp only [Lf.nd, List.mem_cons, List.not_mem_nil, or_false] at hx
    rcases hx with rfl | rfl | rfl | rfl | rfl | rfl
    · exact g4
    · exact g3
    · exact (mW_ok m hm).1
    · exact (fW_ok f hf).1
    · trivial
    · trivial
theorem txt_ok {n : Nat} (hn : n ≤ 9) {l : Lf} (o : l.Ok n) : strG l.txt = true := by
  have w1 : strG "events[" = true := by decide +kernel
  have w2 : strG ":" = true := by decide +kernel
  have w3 : strG "]" = true := by decide +kernel
  have w4 : strG "(sum(" = true := by decide +kernel
  have w5 : strG "sum(" = true := by decide +kernel
  have w6 : strG "(" = true := by decide +kernel
  have w7 : strG "[" = true := by decide +kernel
  have w8 : strG "))" = true := by decide +kernel
  cases l with
  | ev a b =>
    have ga := (dg_ok (a := a) (by have := o.1; have := o.2; omega)).1
    have gb := (dg_ok (a := b) (by have := o.2; omega)).1
    exact strG_app (strG_app (strG_app (strG_app w1 ga) w2) gb) w3
  | all m f a b =>
    obtain ⟨hm, hf⟩ := okAll_in o.1
    have ga := (dg_ok (a := a) (by have := o.2.1; have := o.2.2; omega)).1
    have gb := (dg_ok (a := b) (by have := o.2.2; omega)).1
    exact strG_app (strG_app (strG_app (mW_ok m hm).1 w4) (strG_app (strG_app (strG_app (strG_app (strG_app (fW_ok f hf).1 w7) ga) w2) gb) w3)) w8
  | each m f a b =>
    obtain ⟨hm, hf⟩ := okEach_in o.1
    have ga := (dg_ok (a := a) (by have := o.2.1; have := o.2.2; omega)).1
    have gb := (dg_ok (a := b) (by have := o.2.2; omega)).1
    exact strG_app (strG_app (strG_app (strG_app w5 (mW_ok m hm).1) w6) (strG_app (strG_app (strG_app (strG_app (strG_app (fW_ok f hf).1 w7) ga) w2) gb) w3)) w8
end L

/-! terms of leaves, by the program -/
namespace L
open PySem PySem.Spec L2 Pk
theorem Lf.nd_own (l : Lf) : l.ndD.own = false := rfl
theorem Lf.nd_fz (l : Lf) : l.ndD.fz = l.ndD := rfl
theorem Lf.ld_own (l : Lf) : l.ldD.own = false := rfl
theorem Lf.ld_fz (l : Lf) : l.ldD.fz = l.ldD := rfl
/-- a term of a leaf -/
def tm (n : Nat) (x : D) : D := .obj 0 [.int (n : Int), x]
def ntm (n : Nat) (x : D) : D := .no 0 [.int (n : Int), x]
section
variable {h : Hh} {n a b : Nat} {f m : Str}
theorem tm_init {x : D} (ho : x.own = false) : f_Term____init__ [.int (n : Int), x] h = .ok (ntm n x) [] h := by
  unfold ntm
  apply Wp.eq
  simp only [↓wf_Term____init__, ↓wp_runI, startF, List.map_cons, List.map_nil, List.length_cons, List.length_nil, Nat.zero_add, Nat.reduceAdd, Nat.reduceSub, List.replicate_zero, List.append_nil, bx_cons, ↓w_Term____init__, ↓wp_Seq, ↓wp_PutFld, ↓wp_Var, List.getElem?_cons_succ, List.getElem?_cons_zero, List.set_cons_succ, List.set_cons_zero, sl_some, own_int, cd_f, ↓wp_mutF, v_ix_readings_0, op_some, pu0, flk_nx, ho, v_ix_node_0, pu1, nok_some, and_self]
theorem ser_leaf : f_Series__leaf [row 1 n f a b, .str m] h = .ok (ntm n (Lf.each m f a b).ndD) [] h := by
  have e := tm_init (h := h) (n := n) (x := .tup [.str "leaf", .str "each", .str m, .str f, .int (a : Int), .int (b : Int)]) rfl
  unfold row ntm at *
  apply Wp.eq
  simp only [↓wf_Series__leaf, ↓wp_runF, startF, List.map_cons, List.map_nil, List.length_cons, List.length_nil, Nat.zero_add, Nat.reduceAdd, Nat.reduceSub, List.replicate_zero, List.append_nil, bx_cons, ↓w_Series__leaf, ↓wp_Ret, ↓wp_Call, ↓wp_Args1, ↓wp_Un, ↓wp_Bor, List.getElem?_cons_zero, sl_some, fld_obj, v_ix_readings_1, op_some, ↓wp_Tup, ↓wp_C, ↓wp_Var, List.getElem?_cons_succ, List.set_cons_succ, List.set_cons_zero, own_str, cd_f, v_ix_filling_1, v_ix_start_1, v_ix_stop_1, ↓wp_Args0, big_eq, Nat.reduceLeDiff, gPos_eq, e, ↓wp_ok, rtk_rt, and_self, and_true, true_and]
  rfl
theorem tot_leaf : f_Totals__leaf [row 2 n f a b, .str m] h = .ok (ntm n (Lf.all m f a b).ndD) [] h := by
  have e := tm_init (h := h) (n := n) (x := .tup [.str "leaf", .str "all", .str m, .str f, .int (a : Int), .int (b : Int)]) rfl
  unfold row ntm at *
  apply Wp.eq
  simp only [↓wf_Totals__leaf, ↓wp_runF, startF, List.map_cons, List.map_nil, List.length_cons, List.length_nil, Nat.zero_add, Nat.reduceAdd, Nat.reduceSub, List.replicate_zero, List.append_nil, bx_cons, ↓w_Totals__leaf, ↓wp_Ret, ↓wp_Call, ↓wp_Args1, ↓wp_Un, ↓wp_Bor, List.getElem?_cons_zero, sl_some, fld_obj, v_ix_readings_2, op_some, ↓wp_Tup, ↓wp_C, ↓wp_Var, List.getElem?_cons_succ, List.set_cons_succ, List.set_cons_zero, own_str, cd_f, v_ix_filling_2, v_ix_start_2, v_ix_stop_2, ↓wp_Args0, big_eq, Nat.reduceLeDiff, gPos_eq, e, ↓wp_ok, rtk_rt, and_self, and_true, true_and]
  rfl
theorem ser_ev : f_Series__true_events [row 1 n f a b] h = .ok (ntm n (Lf.ev a b).ndD) [] h := by
  have e := tm_init (h := h) (n := n) (x := .tup [.str "events", .int (a : Int), .int (b : Int)]) rfl
  unfold row ntm at *
  apply Wp.eq
  simp only [↓wf_Series__true_events, ↓wp_runF, startF, List.map_cons, List.map_nil, List.length_cons, List.length_nil, Nat.zero_add, Nat.reduceSub, List.replicate_zero, List.append_nil, bx_cons, ↓w_Series__true_events, ↓wp_Ret, ↓wp_Call, ↓wp_Args1, ↓wp_Un, ↓wp_Bor, List.getElem?_cons_zero, sl_some, fld_obj, v_ix_readings_1, op_some, ↓wp_Tup, ↓wp_C, v_ix_start_1, List.getElem?_cons_succ, v_ix_stop_1, ↓wp_Args0, Nat.reduceAdd, big_eq, Nat.reduceLeDiff, gPos_eq, e, ↓wp_ok, rtk_rt, and_self, and_true, true_and]
  rfl
theorem ser_first : f_Series__first [row 1 n f a b] h = .ok (ntm n (Lf.each "first" f a b).ndD) [] h := by
  have e := ser_leaf (h := h) (n := n) (f := f) (a := a) (b := b) (m := "first")
  unfold row ntm at *
  apply Wp.eq
  generalize (Lf.each "first" f a b).ndD = z at *
  simp only [↓wf_Series__first, ↓wp_runF, startF, List.map_cons, List.map_nil, List.length_cons, List.length_nil, Nat.zero_add, Nat.reduceSub, List.replicate_zero, List.append_nil, bx_cons, ↓w_Series__first, ↓wp_Ret, ↓wp_Meth, ↓wp_Var, List.getElem?_cons_zero, List.set_cons_zero, sl_some, own_obj, cd_f, fnOf_obj, v_mt_leaf_1, op_some, ↓wp_Args1, ↓wp_C, ↓wp_Args0, gPos_eq, e, ↓wp_ok, rtk_rt, and_self]
theorem ser_last : f_Series__last [row 1 n f a b] h = .ok (ntm n (Lf.each "last" f a b).ndD) [] h := by
  have e := ser_leaf (h := h) (n := n) (f := f) (a := a) (b := b) (m := "last")
  unfold row ntm at *
  apply Wp.eq
  generalize (Lf.each "last" f a b).ndD = z at *
  simp only [↓wf_Series__last, ↓wp_runF, startF, List.map_cons, List.map_nil, List.length_cons, List.length_nil, Nat.zero_add, Nat.reduceSub, List.replicate_zero, List.append_nil, bx_cons, ↓w_Series__last, ↓wp_Ret, ↓wp_Meth, ↓wp_Var, List.getElem?_cons_zero, List.set_cons_zero, sl_some, own_obj, cd_f, fnOf_obj, v_mt_leaf_1, op_some, ↓wp_Args1, ↓wp_C, ↓wp_Args0, gPos_eq, e, ↓wp_ok, rtk_rt, and_self]
theorem ser_top : f_Series__top [row 1 n f a b] h = .ok (ntm n (Lf.each "top" f a b).ndD) [] h := by
  have e := ser_leaf (h := h) (n := n) (f := f) (a := a) (b := b) (m := "top")
  unfold row ntm at *
  apply Wp.eq
  generalize (Lf.each "top" f a b).ndD = z at *
  simp only [↓wf_Series__top, ↓wp_runF, startF, List.map_cons, List.map_nil, List.length_cons, List.length_nil, Nat.zero_add, Nat.reduceSub, List.replicate_zero, List.append_nil, bx_cons, ↓w_Series__top, ↓wp_Ret, ↓wp_Meth, ↓wp_Var, List.getElem?_cons_zero, List.set_cons_zero, sl_some, own_obj, cd_f, fnOf_obj, v_mt_leaf_1, op_some, ↓wp_Args1, ↓wp_C, ↓wp_Args0, gPos_eq, e, ↓wp_ok, rtk_rt, and_self]
theorem ser_low : f_Series__low [row 1 n f a b] h = .ok (ntm n (Lf.each "low" f a b).ndD) [] h := by
  have e := ser_leaf (h := h) (n := n) (f := f) (a := a) (b := b) (m := "low")
  unfold row ntm at *
  apply Wp.eq
  generalize (Lf.each "low" f a b).ndD = z at *
  simp only [↓wf_Series__low, ↓wp_runF, startF, List.map_cons, List.map_nil, List.length_cons, List.length_nil, Nat.zero_add, Nat.reduceSub, List.replicate_zero, List.append_nil, bx_cons, ↓w_Series__low, ↓wp_Ret, ↓wp_Meth, ↓wp_Var, List.getElem?_cons_zero, List.set_cons_zero, sl_some, own_obj, cd_f, fnOf_obj, v_mt_leaf_1, op_some, ↓wp_Args1, ↓wp_C, ↓wp_Args0, gPos_eq, e, ↓wp_ok, rtk_rt, and_self]
theorem ser_change : f_Series__change [row 1 n f a b] h = .ok (ntm n (Lf.each "change" f a b).ndD) [] h := by
  have e := ser_leaf (h := h) (n := n) (f := f) (a := a) (b := b) (m := "change")
  unfold row ntm at *
  apply Wp.eq
  generalize (Lf.each "change" f a b).ndD = z at *
  simp only [↓wf_Series__change, ↓wp_runF, startF, List.map_cons, List.map_nil, List.length_cons, List.length_nil, Nat.zero_add, Nat.reduceSub, List.replicate_zero, List.append_nil, bx_cons, ↓w_Series__change, ↓wp_Ret, ↓wp_Meth, ↓wp_Var, List.getElem?_cons_zero, List.set_cons_zero, sl_some, own_obj, cd_f, fnOf_obj, v_mt_leaf_1, op_some, ↓wp_Args1, ↓wp_C, ↓wp_Args0, gPos_eq, e, ↓wp_ok, rtk_rt, and_self]
theorem ser_rises : f_Series__rises [row 1 n f a b] h = .ok (ntm n (Lf.each "rises" f a b).ndD) [] h := by
  have e := ser_leaf (h := h) (n := n) (f := f) (a := a) (b := b) (m := "rises")
  unfold row ntm at *
  apply Wp.eq
  generalize (Lf.each "rises" f a b).ndD = z at *
  simp only [↓wf_Series__rises, ↓wp_runF, startF, List.map_cons, List.map_nil, List.length_cons, List.length_nil, Nat.zero_add, Nat.reduceSub, List.replicate_zero, List.append_nil, bx_cons, ↓w_Series__rises, ↓wp_Ret, ↓wp_Meth, ↓wp_Var, List.getElem?_cons_zero, List.set_cons_zero, sl_some, own_obj, cd_f, fnOf_obj, v_mt_leaf_1, op_some, ↓wp_Args1, ↓wp_C, ↓wp_Args0, gPos_eq, e, ↓wp_ok, rtk_rt, and_self]
theorem tot_first : f_Totals__first [row 2 n f a b] h = .ok (ntm n (Lf.all "first" f a b).ndD) [] h := by
  have e := tot_leaf (h := h) (n := n) (f := f) (a := a) (b := b) (m := "first")
  unfold row ntm at *
  apply Wp.eq
  generalize (Lf.all "first" f a b).ndD = z at *
  simp only [↓wf_Totals__first, ↓wp_runF, startF, List.map_cons, List.map_nil, List.length_cons, List.length_nil, Nat.zero_add, Nat.reduceSub, List.replicate_zero, List.append_nil, bx_cons, ↓w_Totals__first, ↓wp_Ret, ↓wp_Meth, ↓wp_Var, List.getElem?_cons_zero, List.set_cons_zero, sl_some, own_obj, cd_f, fnOf_obj, v_mt_leaf_2, op_some, ↓wp_Args1, ↓wp_C, ↓wp_Args0, gPos_eq, e, ↓wp_ok, rtk_rt, and_self]
theorem tot_last : f_Totals__last [row 2 n f a b] h = .ok (ntm n (Lf.all "last" f a b).ndD) [] h := by
  have e := tot_leaf (h := h) (n := n) (f := f) (a := a) (b := b) (m := "last")
  unfold row ntm at *
  apply Wp.eq
  generalize (Lf.all "last" f a b).ndD = z at *
  simp only [↓wf_Totals__last, ↓wp_runF, startF, List.map_cons, List.map_nil, List.length_cons, List.length_nil, Nat.zero_add, Nat.reduceSub, List.replicate_zero, List.append_nil, bx_cons, ↓w_Totals__last, ↓wp_Ret, ↓wp_Meth, ↓wp_Var, List.getElem?_cons_zero, List.set_cons_zero, sl_some, own_obj, cd_f, fnOf_obj, v_mt_leaf_2, op_some, ↓wp_Args1, ↓wp_C, ↓wp_Args0, gPos_eq, e, ↓wp_ok, rtk_rt, and_self]
theorem tot_change : f_Totals__change [row 2 n f a b] h = .ok (ntm n (Lf.all "change" f a b).ndD) [] h := by
  have e := tot_leaf (h := h) (n := n) (f := f) (a := a) (b := b) (m := "change")
  unfold row ntm at *
  apply Wp.eq
  generalize (Lf.all "change" f a b).ndD = z at *
  simp only [↓wf_Totals__change, ↓wp_runF, startF, List.map_cons, List.map_nil, List.length_cons, List.length_nil, Nat.zero_add, Nat.reduceSub, List.replicate_zero, List.append_nil, bx_cons, ↓w_Totals__change, ↓wp_Ret, ↓wp_Meth, ↓wp_Var, List.getElem?_cons_zero, List.set_cons_zero, sl_some, own_obj, cd_f, fnOf_obj, v_mt_leaf_2, op_some, ↓wp_Args1, ↓wp_C, ↓wp_Args0, gPos_eq, e, ↓wp_ok, rtk_rt, and_self]
theorem tot_rises : f_Totals__rises [row 2 n f a b] h = .ok (ntm n (Lf.all "rises" f a b).ndD) [] h := by
  have e := tot_leaf (h := h) (n := n) (f := f) (a := a) (b := b) (m := "rises")
  unfold row ntm at *
  apply Wp.eq
  generalize (Lf.all "rises" f a b).ndD = z at *
  simp only [↓wf_Totals__rises, ↓wp_runF, startF, List.map_cons, List.map_nil, List.length_cons, List.length_nil, Nat.zero_add, Nat.reduceSub, List.replicate_zero, List.append_nil, bx_cons, ↓w_Totals__rises, ↓wp_Ret, ↓wp_Meth, ↓wp_Var, List.getElem?_cons_zero, List.set_cons_zero, sl_some, own_obj, cd_f, fnOf_obj, v_mt_leaf_2, op_some, ↓wp_Args1, ↓wp_C, ↓wp_Args0, gPos_eq, e, ↓wp_ok, rtk_rt, and_self]
theorem ser_told : f_Series__told [row 1 n "raw" a b] h = .ok (ntm n (Lf.each "told" "raw" a b).ndD) [] h := by
  have e := ser_leaf (h := h) (n := n) (f := "raw") (a := a) (b := b) (m := "told")
  have c : cEq h (.str "raw") (.str "raw") = some true := by kernel_rfl
  unfold row ntm at *
  apply Wp.eq
  generalize (Lf.each "told" "raw" a b).ndD = z at *
  simp only [↓wf_Series__told, ↓wp_runF, startF, List.map_cons, List.map_nil, List.length_cons, List.length_nil, Nat.zero_add, Nat.reduceSub, List.replicate_zero, List.append_nil, bx_cons, ↓w_Series__told, ↓wp_Seq, ↓wp_IfS, ↓wp_Op, ↓wp_Un, ↓wp_Bor, List.getElem?_cons_zero, sl_some, fld_obj, v_ix_filling_1, op_some, List.getElem?_cons_succ, ↓wp_C, cNe_eq, c, Option.map_some, Bool.not_true, cd_f, ↓wp_ret, flk_nx, ↓wp_Ret, ↓wp_Meth, ↓wp_Var, List.set_cons_zero, own_obj, fnOf_obj, v_mt_leaf_1, ↓wp_Args1, ↓wp_Args0, gPos_eq, e, ↓wp_ok, rtk_rt, and_self]
/-- a slice by two moments -/
theorem slP_nat (hab : a < b) (hb : b ≤ n) : slP 0 n (some (a : Int)) (some (b : Int)) = (a, b) := by
  unfold slP
  rw [HT.sIx_nat, HT.sIx_nat]
  simp only [Nat.zero_add, Nat.sub_zero, Prod.mk.injEq]
  omega
theorem ser_new (hf : f = "raw" ∨ f = "zero" ∨ f = "held") : f_Series____init__ [.int (n : Int), .str f, .int 0, .non] h = .ok (nrow 1 n f 0 n) [] h := by
  have e := ser_init (h := h) (n := n) (a := 0) hf (x := .non) (s := (n : Int)) (.inl ⟨rfl, rfl⟩)
  exact e
theorem way_ser (hf : f = "raw" ∨ f = "zero" ∨ f = "held") : Way 1 f := by
  rcases hf with rfl | rfl | rfl
  · exact .inl ⟨rfl, rfl⟩
  · exact .inr ⟨.inl rfl, .inl rfl⟩
  · exact .inr ⟨.inl rfl, .inr rfl⟩
theorem ser_part (hf : f = "raw" ∨ f = "zero" ∨ f = "held") (hab : a < b) (hb : b ≤ n) (hn : n ≤ 4) : f_Series____getitem__ [row 1 n f 0 n, .sl (some (a : Int)) (some (b : Int))] h = .ok (nrow 1 n f a b) [] h := by
  have k := picks_sl (h := h) (a := 0) (b := n) (by omega) hn (some (a : Int)) (some (b : Int))
  rw [slP_nat hab hb] at k
  exact get_ok0 (way_ser hf) k hab
end
end L

/-! words compared; the law's terms of leaves -/
namespace L
open PySem PySem.Spec L2 Pk
section
variable {h : Hh} {n a b : Nat}
theorem ce_first_first : cEq h (.str "first") (.str "first") = some true := by kernel_rfl
theorem ce_last_first : cEq h (.str "last") (.str "first") = some false := by kernel_rfl
theorem ce_last_last : cEq h (.str "last") (.str "last") = some true := by kernel_rfl
theorem ce_change_first : cEq h (.str "change") (.str "first") = some false := by kernel_rfl
theorem ce_change_last : cEq h (.str "change") (.str "last") = some false := by kernel_rfl
theorem ce_change_change : cEq h (.str "change") (.str "change") = some true := by kernel_rfl
theorem ce_rises_first : cEq h (.str "rises") (.str "first") = some false := by kernel_rfl
theorem ce_rises_last : cEq h (.str "rises") (.str "last") = some false := by kernel_rfl
theorem ce_rises_change : cEq h (.str "rises") (.str "change") = some false := by kernel_rfl
theorem ce_rises_rises : cEq h (.str "rises") (.str "rises") = some true := by kernel_rfl
theorem ce_top_first : cEq h (.str "top") (.str "first") = some false := by kernel_rfl
theorem ce_top_last : cEq h (.str "top") (.str "last") = some false := by kernel_rfl
theorem ce_top_change : cEq h (.str "top") (.str "change") = some false := by kernel_rfl
theorem ce_top_rises : cEq h (.str "top") (.str "rises") = some false := by kernel_rfl
theorem ce_top_told : cEq h (.str "top") (.str "told") = some false := by kernel_rfl
theorem ce_top_top : cEq h (.str "top") (.str "top") = some true := by kernel_rfl
theorem ce_low_first : cEq h (.str "low") (.str "first") = some false := by kernel_rfl
theorem ce_low_last : cEq h (.str "low") (.str "last") = some false := by kernel_rfl
theorem ce_low_change : cEq h (.str "low") (.str "change") = some false := by kernel_rfl
theorem ce_low_rises : cEq h (.str "low") (.str "rises") = some false := by kernel_rfl
theorem ce_low_told : cEq h (.str "low") (.str "told") = some false := by kernel_rfl
theorem ce_low_top : cEq h (.str "low") (.str "top") = some false := by kernel_rfl
theorem ce_told_first : cEq h (.str "told") (.str "first") = some false := by kernel_rfl
theorem ce_told_last : cEq h (.str "told") (.str "last") = some false := by kernel_rfl
theorem ce_told_change : cEq h (.str "told") (.str "change") = some false := by kernel_rfl
theorem ce_told_rises : cEq h (.str "told") (.str "rises") = some false := by kernel_rfl
theorem ce_told_told : cEq h (.str "told") (.str "told") = some true := by kernel_rfl
theorem ce_true_true : cEq h (.str "true") (.str "true") = some true := by kernel_rfl
theorem ce_all_true : cEq h (.str "all") (.str "true") = some false := by kernel_rfl
theorem ce_all_all : cEq h (.str "all") (.str "all") = some true := by kernel_rfl
theorem ce_all_each : cEq h (.str "all") (.str "each") = some false := by kernel_rfl
theorem ce_each_true : cEq h (.str "each") (.str "true") = some false := by kernel_rfl
theorem ce_each_all : cEq h (.str "each") (.str "all") = some false := by kernel_rfl
theorem ce_each_each : cEq h (.str "each") (.str "each") = some true := by kernel_rfl
theorem leaf_ev (hab : a < b) (hb : b ≤ n) (hn : n ≤ 4) : f__law_leaf_term [(Lf.ev a b).ldD, .int (n : Int)] h = .ok (ntm n (Lf.ev a b).ndD) [] h := by
  have e1 := ser_new (h := h) (n := n) (f := "raw") (.inl rfl)
  have e2 := ser_part (h := h) (n := n) (f := "raw") (.inl rfl) hab hb hn
  have e3 := ser_ev (h := h) (n := n) (f := "raw") (a := a) (b := b)
  show f__law_leaf_term [.tup [.str "true", .int (a : Int), .int (b : Int)], .int (n : Int)] h = _
  unfold row nrow ntm at *
  simp only [Int.natCast_zero] at e1 e2
  generalize (Lf.ev a b).ndD = z at *
  apply Wp.eq
  simp only [↓wf__law_leaf_term, ↓wp_runF, startF, List.map_cons, List.map_nil, List.length_cons, List.length_nil, Nat.zero_add, Nat.reduceAdd, Nat.reduceSub, List.replicate_succ, List.replicate_zero, List.cons_append, List.nil_append, bx_cons, ↓w__law_leaf_term, ↓wp_Seq, ↓wp_IfS, ↓wp_Op, ↓wp_Late, List.getElem?_cons_zero, sl_some, ↓wp_C, bIdx_tup, at_0, op_some, ce_true_true, cd_t, ↓wp_Ret, ↓wp_Meth, ↓wp_Fz, ↓wp_GetSl, ↓wp_Call, ↓wp_Args1, ↓wp_Var, List.getElem?_cons_succ, List.set_cons_succ, List.set_cons_zero, gKwD, own_int, cd_f, ↓wp_Args0, pick_cons, toL_some, pick_nil, List.append_nil, e1, ↓wp_ok, ↓wp_Psi, at_1, psI_int, at_2, fz_no, fnOf_obj, v_mt___getitem____Series_1, e2, v_mt_true_events_1, gPos_eq, e3, flk_rt, rtk_rt, and_self]
theorem leaf_all_first_zero (hab : a < b) (hb : b ≤ n) (hn : n ≤ 4) : f__law_leaf_term [(Lf.all "first" "zero" a b).ldD, .int (n : Int)] h = .ok (ntm n (Lf.all "first" "zero" a b).ndD) [] h := by
  have e1 := ser_new (h := h) (n := n) (f := "zero") (by simp)
  have e2 := ser_part (h := h) (n := n) (f := "zero") (by simp) hab hb hn
  have e4 := total_spec (h := h) (n := n) (a := a) (b := b) (w := "zero") (by simp)
  rw [show (if ("zero" : Str) = "held" then ("held" : Str) else "zero") = "zero" from by decide] at e4
  have e3 := tot_first (h := h) (n := n) (f := "zero") (a := a) (b := b)
  show f__law_leaf_term [.tup [.str "all", .str "first", .str "zero", .int (a : Int), .int (b : Int)], .int (n : Int)] h = _
  unfold row nrow ntm at *
  simp only [Int.natCast_zero] at e1 e2
  generalize (Lf.all "first" "zero" a b).ndD = z at *
  apply Wp.eq
  simp only [↓wf__law_leaf_term, ↓wp_runF, startF, List.map_cons, List.map_nil, List.length_cons, List.length_nil, Nat.zero_add, Nat.reduceAdd, Nat.reduceSub, List.replicate_succ, List.replicate_zero, List.cons_append, List.nil_append, bx_cons, ↓w__law_leaf_term, ↓wp_Seq, ↓wp_IfS, ↓wp_Op, ↓wp_Late, List.getElem?_cons_zero, sl_some, ↓wp_C, bIdx_tup, at_0, op_some, ce_all_true, cd_f, ↓wp_ret, flk_nx, ↓w__law_leaf_term_k1, ↓wp_Put, ↓wp_GetSl, ↓wp_Fz, ↓wp_Call, ↓wp_Args1, ↓wp_Var, List.getElem?_cons_succ, List.set_cons_succ, List.set_cons_zero, gKwD, own_int, ↓wp_Args0, at_2, pick_cons, toL_some, pick_nil, List.append_nil, e1, ↓wp_ok, ↓wp_Psi, at_3, psI_int, at_4, fz_no, fnOf_obj, v_mt___getitem____Series_1, e2, ↓w__law_leaf_term_k2, ce_all_all, cd_t, ↓wp_Prop, own_no, v_pt_total_1, e4, ↓w__law_leaf_term_k3, at_1, ↓w__law_leaf_term_k4, own_str, ce_first_first, ↓wp_Ret, ↓wp_Meth, v_mt_first_2, gPos_eq, e3, flk_rt, rtk_rt, and_self]
theorem leaf_all_first_held (hab : a < b) (hb : b ≤ n) (hn : n ≤ 4) : f__law_leaf_term [(Lf.all "first" "held" a b).ldD, .int (n : Int)] h = .ok (ntm n (Lf.all "first" "held" a b).ndD) [] h := by
  have e1 := ser_new (h := h) (n := n) (f := "held") (by simp)
  have e2 := ser_part (h := h) (n := n) (f := "held") (by simp) hab hb hn
  have e4 := total_spec (h := h) (n := n) (a := a) (b := b) (w := "held") (by simp)
  rw [show (if ("held" : Str) = "held" then ("held" : Str) else "zero") = "held" from by decide] at e4
  have e3 := tot_first (h := h) (n := n) (f := "held") (a := a) (b := b)
  show f__law_leaf_term [.tup [.str "all", .str "first", .str "held", .int (a : Int), .int (b : Int)], .int (n : Int)] h = _
  unfold row nrow ntm at *
  simp only [Int.natCast_zero] at e1 e2
  generalize (Lf.all "first" "held" a b).ndD = z at *
  apply Wp.eq
  simp only [↓wf__law_leaf_term, ↓wp_runF, startF, List.map_cons, List.map_nil, List.length_cons, List.length_nil, Nat.zero_add, Nat.reduceAdd, Nat.reduceSub, List.replicate_succ, List.replicate_zero, List.cons_append, List.nil_append, bx_cons, ↓w__law_leaf_term, ↓wp_Seq, ↓wp_IfS, ↓wp_Op, ↓wp_Late, List.getElem?_cons_zero, sl_some, ↓wp_C, bIdx_tup, at_0, op_some, ce_all_true, cd_f, ↓wp_ret, flk_nx, ↓w__law_leaf_term_k1, ↓wp_Put, ↓wp_GetSl, ↓wp_Fz, ↓wp_Call, ↓wp_Args1, ↓wp_Var, List.getElem?_cons_succ, List.set_cons_succ, List.set_cons_zero, gKwD, own_int, ↓wp_Args0, at_2, pick_cons, toL_some, pick_nil, List.append_nil, e1, ↓wp_ok, ↓wp_Psi, at_3, psI_int, at_4, fz_no, fnOf_obj, v_mt___getitem____Series_1, e2, ↓w__law_leaf_term_k2, ce_all_all, cd_t, ↓wp_Prop, own_no, v_pt_total_1, e4, ↓w__law_leaf_term_k3, at_1, ↓w__law_leaf_term_k4, own_str, ce_first_first, ↓wp_Ret, ↓wp_Meth, v_mt_first_2, gPos_eq, e3, flk_rt, rtk_rt, and_self]
theorem leaf_all_last_zero (hab : a < b) (hb : b ≤ n) (hn : n ≤ 4) : f__law_leaf_term [(Lf.all "last" "zero" a b).ldD, .int (n : Int)] h = .ok (ntm n (Lf.all "last" "zero" a b).ndD) [] h := by
  have e1 := ser_new (h := h) (n := n) (f := "zero") (by simp)
  have e2 := ser_part (h := h) (n := n) (f := "zero") (by simp) hab hb hn
  have e4 := total_spec (h := h) (n := n) (a := a) (b := b) (w := "zero") (by simp)
  rw [show (if ("zero" : Str) = "held" then ("held" : Str) else "zero") = "zero" from by decide] at e4
  have e3 := tot_last (h := h) (n := n) (f := "zero") (a := a) (b := b)
  show f__law_leaf_term [.tup [.str "all", .str "last", .str "zero", .int (a : Int), .int (b : Int)], .int (n : Int)] h = _
  unfold row nrow ntm at *
  simp only [Int.natCast_zero] at e1 e2
  generalize (Lf.all "last" "zero" a b).ndD = z at *
  apply Wp.eq
  simp only [↓wf__law_leaf_term, ↓wp_runF, startF, List.map_cons, List.map_nil, List.length_cons, List.length_nil, Nat.zero_add, Nat.reduceAdd, Nat.reduceSub, List.replicate_succ, List.replicate_zero, List.cons_append, List.nil_append, bx_cons, ↓w__law_leaf_term, ↓wp_Seq, ↓wp_IfS, ↓wp_Op, ↓wp_Late, List.getElem?_cons_zero, sl_some, ↓wp_C, bIdx_tup, at_0, op_some, ce_all_true, cd_f, ↓wp_ret, flk_nx, ↓w__law_leaf_term_k1, ↓wp_Put, ↓wp_GetSl, ↓wp_Fz, ↓wp_Call, ↓wp_Args1, ↓wp_Var, List.getElem?_cons_succ, List.set_cons_succ, List.set_cons_zero, gKwD, own_int, ↓wp_Args0, at_2, pick_cons, toL_some, pick_nil, List.append_nil, e1, ↓wp_ok, ↓wp_Psi, at_3, psI_int, at_4, fz_no, fnOf_obj, v_mt___getitem____Series_1, e2, ↓w__law_leaf_term_k2, ce_all_all, cd_t, ↓wp_Prop, own_no, v_pt_total_1, e4, ↓w__law_leaf_term_k3, at_1, ↓w__law_leaf_term_k4, own_str, ce_last_first, ↓w__law_leaf_term_k5, ce_last_last, ↓wp_Ret, ↓wp_Meth, v_mt_last_2, gPos_eq, e3, flk_rt, rtk_rt, and_self]
theorem leaf_all_last_held (hab : a < b) (hb : b ≤ n) (hn : n ≤ 4) : f__law_leaf_term [(Lf.all "last" "held" a b).ldD, .int (n : Int)] h = .ok (ntm n (Lf.all "last" "held" a b).ndD) [] h := by
  have e1 := ser_new (h := h) (n := n) (f := "held") (by simp)
  have e2 := ser_part (h := h) (n := n) (f := "held") (by simp) hab hb hn
  have e4 := total_spec (h := h) (n := n) (a := a) (b := b) (w := "held") (by simp)
  rw [show (if ("held" : Str) = "held" then ("held" : Str) else "zero") = "held" from by decide] at e4
  have e3 := tot_last (h := h) (n := n) (f := "held") (a := a) (b := b)
  show f__law_leaf_term [.tup [.str "all", .str "last", .str "held", .int (a : Int), .int (b : Int)], .int (n : Int)] h = _
  unfold row nrow ntm at *
  simp only [Int.natCast_zero] at e1 e2
  generalize (Lf.all "last" "held" a b).ndD = z at *
  apply Wp.eq
  simp only [↓wf__law_leaf_term, ↓wp_runF, startF, List.map_cons, List.map_nil, List.length_cons, List.length_nil, Nat.zero_add, Nat.reduceAdd, Nat.reduceSub, List.replicate_succ, List.replicate_zero, List.cons_append, List.nil_append, bx_cons, ↓w__law_leaf_term, ↓wp_Seq, ↓wp_IfS, ↓wp_Op, ↓wp_Late, List.getElem?_cons_zero, sl_some, ↓wp_C, bIdx_tup, at_0, op_some, ce_all_true, cd_f, ↓wp_ret, flk_nx, ↓w__law_leaf_term_k1, ↓wp_Put, ↓wp_GetSl, ↓wp_Fz, ↓wp_Call, ↓wp_Args1, ↓wp_Var, List.getElem?_cons_succ, List.set_cons_succ, List.set_cons_zero, gKwD, own_int, ↓wp_Args0, at_2, pick_cons, toL_some, pick_nil, List.append_nil, e1, ↓wp_ok, ↓wp_Psi, at_3, psI_int, at_4, fz_no, fnOf_obj, v_mt___getitem____Series_1, e2, ↓w__law_leaf_term_k2, ce_all_all, cd_t, ↓wp_Prop, own_no, v_pt_total_1, e4, ↓w__law_leaf_term_k3, at_1, ↓w__law_leaf_term_k4, own_str, ce_last_first, ↓w__law_leaf_term_k5, ce_last_last, ↓wp_Ret, ↓wp_Meth, v_mt_last_2, gPos_eq, e3, flk_rt, rtk_rt, and_self]
theorem leaf_all_change_zero (hab : a < b) (hb : b ≤ n) (hn : n ≤ 4) : f__law_leaf_term [(Lf.all "change" "zero" a b).ldD, .int (n : Int)] h = .ok (ntm n (Lf.all "change" "zero" a b).ndD) [] h := by
  have e1 := ser_new (h := h) (n := n) (f := "zero") (by simp)
  have e2 := ser_part (h := h) (n := n) (f := "zero") (by simp) hab hb hn
  have e4 := total_spec (h := h) (n := n) (a := a) (b := b) (w := "zero") (by simp)
  rw [show (if ("zero" : Str) = "held" then ("held" : Str) else "zero") = "zero" from by decide] at e4
  have e3 := tot_change (h := h) (n := n) (f := "zero") (a := a) (b := b)
  show f__law_leaf_term [.tup [.str "all", .str "change", .str "zero", .int (a : Int), .int (b : Int)], .int (n : Int)] h = _
  unfold row nrow ntm at *
  simp only [Int.natCast_zero] at e1 e2
  generalize (Lf.all "change" "zero" a b).ndD = z at *
  apply Wp.eq
  simp only [↓wf__law_leaf_term, ↓wp_runF, startF, List.map_cons, List.map_nil, List.length_cons, List.length_nil, Nat.zero_add, Nat.reduceAdd, Nat.reduceSub, List.replicate_succ, List.replicate_zero, List.cons_append, List.nil_append, bx_cons, ↓w__law_leaf_term, ↓wp_Seq, ↓wp_IfS, ↓wp_Op, ↓wp_Late, List.getElem?_cons_zero, sl_some, ↓wp_C, bIdx_tup, at_0, op_some, ce_all_true, cd_f, ↓wp_ret, flk_nx, ↓w__law_leaf_term_k1, ↓wp_Put, ↓wp_GetSl, ↓wp_Fz, ↓wp_Call, ↓wp_Args1, ↓wp_Var, List.getElem?_cons_succ, List.set_cons_succ, List.set_cons_zero, gKwD, own_int, ↓wp_Args0, at_2, pick_cons, toL_some, pick_nil, List.append_nil, e1, ↓wp_ok, ↓wp_Psi, at_3, psI_int, at_4, fz_no, fnOf_obj, v_mt___getitem____Series_1, e2, ↓w__law_leaf_term_k2, ce_all_all, cd_t, ↓wp_Prop, own_no, v_pt_total_1, e4, ↓w__law_leaf_term_k3, at_1, ↓w__law_leaf_term_k4, own_str, ce_change_first, ↓w__law_leaf_term_k5, ce_change_last, ↓w__law_leaf_term_k6, ce_change_change, ↓wp_Ret, ↓wp_Meth, v_mt_change_2, gPos_eq, e3, flk_rt, rtk_rt, and_self]
theorem leaf_all_change_held (hab : a < b) (hb : b ≤ n) (hn : n ≤ 4) : f__law_leaf_term [(Lf.all "change" "held" a b).ldD, .int (n : Int)] h = .ok (ntm n (Lf.all "change" "held" a b).ndD) [] h := by
  have e1 := ser_new (h := h) (n := n) (f := "held") (by simp)
  have e2 := ser_part (h := h) (n := n) (f := "held") (by simp) hab hb hn
  have e4 := total_spec (h := h) (n := n) (a := a) (b := b) (w := "held") (by simp)
  rw [show (if ("held" : Str) = "held" then ("held" : Str) else "zero") = "held" from by decide] at e4
  have e3 := tot_change (h := h) (n := n) (f := "held") (a := a) (b := b)
  show f__law_leaf_term [.tup [.str "all", .str "change", .str "held", .int (a : Int), .int (b : Int)], .int (n : Int)] h = _
  unfold row nrow ntm at *
  simp only [Int.natCast_zero] at e1 e2
  generalize (Lf.all "change" "held" a b).ndD = z at *
  apply Wp.eq
  simp only [↓wf__law_leaf_term, ↓wp_runF, startF, List.map_cons, List.map_nil, List.length_cons, List.length_nil, Nat.zero_add, Nat.reduceAdd, Nat.reduceSub, List.replicate_succ, List.replicate_zero, List.cons_append, List.nil_append, bx_cons, ↓w__law_leaf_term, ↓wp_Seq, ↓wp_IfS, ↓wp_Op, ↓wp_Late, List.getElem?_cons_zero, sl_some, ↓wp_C, bIdx_tup, at_0, op_some, ce_all_true, cd_f, ↓wp_ret, flk_nx, ↓w__law_leaf_term_k1, ↓wp_Put, ↓wp_GetSl, ↓wp_Fz, ↓wp_Call, ↓wp_Args1, ↓wp_Var, List.getElem?_cons_succ, List.set_cons_succ, List.set_cons_zero, gKwD, own_int, ↓wp_Args0, at_2, pick_cons, toL_some, pick_nil, List.append_nil, e1, ↓wp_ok, ↓wp_Psi, at_3, psI_int, at_4, fz_no, fnOf_obj, v_mt___getitem____Series_1, e2, ↓w__law_leaf_term_k2, ce_all_all, cd_t, ↓wp_Prop, own_no, v_pt_total_1, e4, ↓w__law_leaf_term_k3, at_1, ↓w__law_leaf_term_k4, own_str, ce_change_first, ↓w__law_leaf_term_k5, ce_change_last, ↓w__law_leaf_term_k6, ce_change_change, ↓wp_Ret, ↓wp_Meth, v_mt_change_2, gPos_eq, e3, flk_rt, rtk_rt, and_self]
theorem leaf_all_rises_zero (hab : a < b) (hb : b ≤ n) (hn : n ≤ 4) : f__law_leaf_term [(Lf.all "rises" "zero" a b).ldD, .int (n : Int)] h = .ok (ntm n (Lf.all "rises" "zero" a b).ndD) [] h := by
  have e1 := ser_new (h := h) (n := n) (f := "zero") (by simp)
  have e2 := ser_part (h := h) (n := n) (f := "zero") (by simp) hab hb hn
  have e4 := total_spec (h := h) (n := n) (a := a) (b := b) (w := "zero") (by simp)
  rw [show (if ("zero" : Str) = "held" then ("held" : Str) else "zero") = "zero" from by decide] at e4
  have e3 := tot_rises (h := h) (n := n) (f := "zero") (a := a) (b := b)
  show f__law_leaf_term [.tup [.str "all", .str "rises", .str "zero", .int (a : Int), .int (b : Int)], .int (n : Int)] h = _
  unfold row nrow ntm at *
  simp only [Int.natCast_zero] at e1 e2
  generalize (Lf.all "rises" "zero" a b).ndD = z at *
  apply Wp.eq
  simp only [↓wf__law_leaf_term, ↓wp_runF, startF, List.map_cons, List.map_nil, List.length_cons, List.length_nil, Nat.zero_add, Nat.reduceAdd, Nat.reduceSub, List.replicate_succ, List.replicate_zero, List.cons_append, List.nil_append, bx_cons, ↓w__law_leaf_term, ↓wp_Seq, ↓wp_IfS, ↓wp_Op, ↓wp_Late, List.getElem?_cons_zero, sl_some, ↓wp_C, bIdx_tup, at_0, op_some, ce_all_true, cd_f, ↓wp_ret, flk_nx, ↓w__law_leaf_term_k1, ↓wp_Put, ↓wp_GetSl, ↓wp_Fz, ↓wp_Call, ↓wp_Args1, ↓wp_Var, List.getElem?_cons_succ, List.set_cons_succ, List.set_cons_zero, gKwD, own_int, ↓wp_Args0, at_2, pick_cons, toL_some, pick_nil, List.append_nil, e1, ↓wp_ok, ↓wp_Psi, at_3, psI_int, at_4, fz_no, fnOf_obj, v_mt___getitem____Series_1, e2, ↓w__law_leaf_term_k2, ce_all_all, cd_t, ↓wp_Prop, own_no, v_pt_total_1, e4, ↓w__law_leaf_term_k3, at_1, ↓w__law_leaf_term_k4, own_str, ce_rises_first, ↓w__law_leaf_term_k5, ce_rises_last, ↓w__law_leaf_term_k6, ce_rises_change, ↓w__law_leaf_term_k7, ce_rises_rises, ↓wp_Ret, ↓wp_Meth, v_mt_rises_2, gPos_eq, e3, flk_rt, rtk_rt, and_self]
theorem leaf_all_rises_held (hab : a < b) (hb : b ≤ n) (hn : n ≤ 4) : f__law_leaf_term [(Lf.all "rises" "held" a b).ldD, .int (n : Int)] h = .ok (ntm n (Lf.all "rises" "held" a b).ndD) [] h := by
  have e1 := ser_new (h := h) (n := n) (f := "held") (by simp)
  have e2 := ser_part (h := h) (n := n) (f := "held") (by simp) hab hb hn
  have e4 := total_spec (h := h) (n := n) (a := a) (b := b) (w := "held") (by simp)
  rw [show (if ("held" : Str) = "held" then ("held" : Str) else "zero") = "held" from by decide] at e4
  have e3 := tot_rises (h := h) (n := n) (f := "held") (a := a) (b := b)
  show f__law_leaf_term [.tup [.str "all", .str "rises", .str "held", .int (a : Int), .int (b : Int)], .int (n : Int)] h = _
  unfold row nrow ntm at *
  simp only [Int.natCast_zero] at e1 e2
  generalize (Lf.all "rises" "held" a b).ndD = z at *
  apply Wp.eq
  simp only [↓wf__law_leaf_term, ↓wp_runF, startF, List.map_cons, List.map_nil, List.length_cons, List.length_nil, Nat.zero_add, Nat.reduceAdd, Nat.reduceSub, List.replicate_succ, List.replicate_zero, List.cons_append, List.nil_append, bx_cons, ↓w__law_leaf_term, ↓wp_Seq, ↓wp_IfS, ↓wp_Op, ↓wp_Late, List.getElem?_cons_zero, sl_some, ↓wp_C, bIdx_tup, at_0, op_some, ce_all_true, cd_f, ↓wp_ret, flk_nx, ↓w__law_leaf_term_k1, ↓wp_Put, ↓wp_GetSl, ↓wp_Fz, ↓wp_Call, ↓wp_Args1, ↓wp_Var, List.getElem?_cons_succ, List.set_cons_succ, List.set_cons_zero, gKwD, own_int, ↓wp_Args0, at_2, pick_cons, toL_some, pick_nil, List.append_nil, e1, ↓wp_ok, ↓wp_Psi, at_3, psI_int, at_4, fz_no, fnOf_obj, v_mt___getitem____Series_1, e2, ↓w__law_leaf_term_k2, ce_all_all, cd_t, ↓wp_Prop, own_no, v_pt_total_1, e4, ↓w__law_leaf_term_k3, at_1, ↓w__law_leaf_term_k4, own_str, ce_rises_first, ↓w__law_leaf_term_k5, ce_rises_last, ↓w__law_leaf_term_k6, ce_rises_change, ↓w__law_leaf_term_k7, ce_rises_rises, ↓wp_Ret, ↓wp_Meth, v_mt_rises_2, gPos_eq, e3, flk_rt, rtk_rt, and_self]
theorem leaf_each_told_raw (hab : a < b) (hb : b ≤ n) (hn : n ≤ 4) : f__law_leaf_term [(Lf.each "told" "raw" a b).ldD, .int (n : Int)] h = .ok (ntm n (Lf.each "told" "raw" a b).ndD) [] h := by
  have e1 := ser_new (h := h) (n := n) (f := "raw") (by simp)
  have e2 := ser_part (h := h) (n := n) (f := "raw") (by simp) hab hb hn
  have e3 := ser_told (h := h) (n := n) (a := a) (b := b)
  show f__law_leaf_term [.tup [.str "each", .str "told", .str "raw", .int (a : Int), .int (b : Int)], .int (n : Int)] h = _
  unfold row nrow ntm at *
  simp only [Int.natCast_zero] at e1 e2
  generalize (Lf.each "told" "raw" a b).ndD = z at *
  apply Wp.eq
  simp only [↓wf__law_leaf_term, ↓wp_runF, startF, List.map_cons, List.map_nil, List.length_cons, List.length_nil, Nat.zero_add, Nat.reduceAdd, Nat.reduceSub, List.replicate_succ, List.replicate_zero, List.cons_append, List.nil_append, bx_cons, ↓w__law_leaf_term, ↓wp_Seq, ↓wp_IfS, ↓wp_Op, ↓wp_Late, List.getElem?_cons_zero, sl_some, ↓wp_C, bIdx_tup, at_0, op_some, ce_each_true, cd_f, ↓wp_ret, flk_nx, ↓w__law_leaf_term_k1, ↓wp_Put, ↓wp_GetSl, ↓wp_Fz, ↓wp_Call, ↓wp_Args1, ↓wp_Var, List.getElem?_cons_succ, List.set_cons_succ, List.set_cons_zero, gKwD, own_int, ↓wp_Args0, at_2, pick_cons, toL_some, pick_nil, List.append_nil, e1, ↓wp_ok, ↓wp_Psi, at_3, psI_int, at_4, fz_no, fnOf_obj, v_mt___getitem____Series_1, e2, ↓w__law_leaf_term_k2, ce_each_all, ↓w__law_leaf_term_k3, at_1, ↓w__law_leaf_term_k4, own_str, ce_told_first, ↓w__law_leaf_term_k5, ce_told_last, ↓w__law_leaf_term_k6, ce_told_change, ↓w__law_leaf_term_k7, ce_told_rises, ↓w__law_leaf_term_k8, ce_told_told, cd_t, ↓wp_Ret, ↓wp_Meth, own_no, v_mt_told_1, gPos_eq, e3, flk_rt, rtk_rt, and_self]
theorem leaf_each_first_raw (hab : a < b) (hb : b ≤ n) (hn : n ≤ 4) : f__law_leaf_term [(Lf.each "first" "raw" a b).ldD, .int (n : Int)] h = .ok (ntm n (Lf.each "first" "raw" a b).ndD) [] h := by
  have e1 := ser_new (h := h) (n := n) (f := "raw") (by simp)
  have e2 := ser_part (h := h) (n := n) (f := "raw") (by simp) hab hb hn
  have e3 := ser_first (h := h) (n := n) (f := "raw") (a := a) (b := b)
  show f__law_leaf_term [.tup [.str "each", .str "first", .str "raw", .int (a : Int), .int (b : Int)], .int (n : Int)] h = _
  unfold row nrow ntm at *
  simp only [Int.natCast_zero] at e1 e2
  generalize (Lf.each "first" "raw" a b).ndD = z at *
  apply Wp.eq
  simp only [↓wf__law_leaf_term, ↓wp_runF, startF, List.map_cons, List.map_nil, List.length_cons, List.length_nil, Nat.zero_add, Nat.reduceAdd, Nat.reduceSub, List.replicate_succ, List.replicate_zero, List.cons_append, List.nil_append, bx_cons, ↓w__law_leaf_term, ↓wp_Seq, ↓wp_IfS, ↓wp_Op, ↓wp_Late, List.getElem?_cons_zero, sl_some, ↓wp_C, bIdx_tup, at_0, op_some, ce_each_true, cd_f, ↓wp_ret, flk_nx, ↓w__law_leaf_term_k1, ↓wp_Put, ↓wp_GetSl, ↓wp_Fz, ↓wp_Call, ↓wp_Args1, ↓wp_Var, List.getElem?_cons_succ, List.set_cons_succ, List.set_cons_zero, gKwD, own_int, ↓wp_Args0, at_2, pick_cons, toL_some, pick_nil, List.append_nil, e1, ↓wp_ok, ↓wp_Psi, at_3, psI_int, at_4, fz_no, fnOf_obj, v_mt___getitem____Series_1, e2, ↓w__law_leaf_term_k2, ce_each_all, ↓w__law_leaf_term_k3, at_1, ↓w__law_leaf_term_k4, own_str, ce_first_first, cd_t, ↓wp_Ret, ↓wp_Meth, own_no, v_mt_first_1, gPos_eq, e3, flk_rt, rtk_rt, and_self]
theorem leaf_each_first_zero (hab : a < b) (hb : b ≤ n) (hn : n ≤ 4) : f__law_leaf_term [(Lf.each "first" "zero" a b).ldD, .int (n : Int)] h = .ok (ntm n (Lf.each "first" "zero" a b).ndD) [] h := by
  have e1 := ser_new (h := h) (n := n) (f := "zero") (by simp)
  have e2 := ser_part (h := h) (n := n) (f := "zero") (by simp) hab hb hn
  have e3 := ser_first (h := h) (n := n) (f := "zero") (a := a) (b := b)
  show f__law_leaf_term [.tup [.str "each", .str "first", .str "zero", .int (a : Int), .int (b : Int)], .int (n : Int)] h = _
  unfold row nrow ntm at *
  simp only [Int.natCast_zero] at e1 e2
  generalize (Lf.each "first" "zero" a b).ndD = z at *
  apply Wp.eq
  simp only [↓wf__law_leaf_term, ↓wp_runF, startF, List.map_cons, List.map_nil, List.length_cons, List.length_nil, Nat.zero_add, Nat.reduceAdd, Nat.reduceSub, List.replicate_succ, List.replicate_zero, List.cons_append, List.nil_append, bx_cons, ↓w__law_leaf_term, ↓wp_Seq, ↓wp_IfS, ↓wp_Op, ↓wp_Late, List.getElem?_cons_zero, sl_some, ↓wp_C, bIdx_tup, at_0, op_some, ce_each_true, cd_f, ↓wp_ret, flk_nx, ↓w__law_leaf_term_k1, ↓wp_Put, ↓wp_GetSl, ↓wp_Fz, ↓wp_Call, ↓wp_Args1, ↓wp_Var, List.getElem?_cons_succ, List.set_cons_succ, List.set_cons_zero, gKwD, own_int, ↓wp_Args0, at_2, pick_cons, toL_some, pick_nil, List.append_nil, e1, ↓wp_ok, ↓wp_Psi, at_3, psI_int, at_4, fz_no, fnOf_obj, v_mt___getitem____Series_1, e2, ↓w__law_leaf_term_k2, ce_each_all, ↓w__law_leaf_term_k3, at_1, ↓w__law_leaf_term_k4, own_str, ce_first_first, cd_t, ↓wp_Ret, ↓wp_Meth, own_no, v_mt_first_1, gPos_eq, e3, flk_rt, rtk_rt, and_self]
theorem leaf_each_first_held (hab : a < b) (hb : b ≤ n) (hn : n ≤ 4) : f__law_leaf_term [(Lf.each "first" "held" a b).ldD, .int (n : Int)] h = .ok (ntm n (Lf.each "first" "held" a b).ndD) [] h := by
  have e1 := ser_new (h := h) (n := n) (f := "held") (by simp)
  have e2 := ser_part (h := h) (n := n) (f := "held") (by simp) hab hb hn
  have e3 := ser_first (h := h) (n := n) (f := "held") (a := a) (b := b)
  show f__law_leaf_term [.tup [.str "each", .str "first", .str "held", .int (a : Int), .int (b : Int)], .int (n : Int)] h = _
  unfold row nrow ntm at *
  simp only [Int.natCast_zero] at e1 e2
  generalize (Lf.each "first" "held" a b).ndD = z at *
  apply Wp.eq
  simp only [↓wf__law_leaf_term, ↓wp_runF, startF, List.map_cons, List.map_nil, List.length_cons, List.length_nil, Nat.zero_add, Nat.reduceAdd, Nat.reduceSub, List.replicate_succ, List.replicate_zero, List.cons_append, List.nil_append, bx_cons, ↓w__law_leaf_term, ↓wp_Seq, ↓wp_IfS, ↓wp_Op, ↓wp_Late, List.getElem?_cons_zero, sl_some, ↓wp_C, bIdx_tup, at_0, op_some, ce_each_true, cd_f, ↓wp_ret, flk_nx, ↓w__law_leaf_term_k1, ↓wp_Put, ↓wp_GetSl, ↓wp_Fz, ↓wp_Call, ↓wp_Args1, ↓wp_Var, List.getElem?_cons_succ, List.set_cons_succ, List.set_cons_zero, gKwD, own_int, ↓wp_Args0, at_2, pick_cons, toL_some, pick_nil, List.append_nil, e1, ↓wp_ok, ↓wp_Psi, at_3, psI_int, at_4, fz_no, fnOf_obj, v_mt___getitem____Series_1, e2, ↓w__law_leaf_term_k2, ce_each_all, ↓w__law_leaf_term_k3, at_1, ↓w__law_leaf_term_k4, own_str, ce_first_first, cd_t, ↓wp_Ret, ↓wp_Meth, own_no, v_mt_first_1, gPos_eq, e3, flk_rt, rtk_rt, and_self]
theorem leaf_each_last_raw (hab : a < b) (hb : b ≤ n) (hn : n ≤ 4) : f__law_leaf_term [(Lf.each "last" "raw" a b).ldD, .int (n : Int)] h = .ok (ntm n (Lf.each "last" "raw" a b).ndD) [] h := by
  have e1 := ser_new (h := h) (n := n) (f := "raw") (by simp)
  have e2 := ser_part (h := h) (n := n) (f := "raw") (by simp) hab hb hn
  have e3 := ser_last (h := h) (n := n) (f := "raw") (a := a) (b := b)
  show f__law_leaf_term [.tup [.str "each", .str "last", .str "raw", .int (a : Int), .int (b : Int)], .int (n : Int)] h = _
  unfold row nrow ntm at *
  simp only [Int.natCast_zero] at e1 e2
  generalize (Lf.each "last" "raw" a b).ndD = z at *
  apply Wp.eq
  simp only [↓wf__law_leaf_term, ↓wp_runF, startF, List.map_cons, List.map_nil, List.length_cons, List.length_nil, Nat.zero_add, Nat.reduceAdd, Nat.reduceSub, List.replicate_succ, List.replicate_zero, List.cons_append, List.nil_append, bx_cons, ↓w__law_leaf_term, ↓wp_Seq, ↓wp_IfS, ↓wp_Op, ↓wp_Late, List.getElem?_cons_zero, sl_some, ↓wp_C, bIdx_tup, at_0, op_some, ce_each_true, cd_f, ↓wp_ret, flk_nx, ↓w__law_leaf_term_k1, ↓wp_Put, ↓wp_GetSl, ↓wp_Fz, ↓wp_Call, ↓wp_Args1, ↓wp_Var, List.getElem?_cons_succ, List.set_cons_succ, List.set_cons_zero, gKwD, own_int, ↓wp_Args0, at_2, pick_cons, toL_some, pick_nil, List.append_nil, e1, ↓wp_ok, ↓wp_Psi, at_3, psI_int, at_4, fz_no, fnOf_obj, v_mt___getitem____Series_1, e2, ↓w__law_leaf_term_k2, ce_each_all, ↓w__law_leaf_term_k3, at_1, ↓w__law_leaf_term_k4, own_str, ce_last_first, ↓w__law_leaf_term_k5, ce_last_last, cd_t, ↓wp_Ret, ↓wp_Meth, own_no, v_mt_last_1, gPos_eq, e3, flk_rt, rtk_rt, and_self]
theorem leaf_each_last_zero (hab : a < b) (hb : b ≤ n) (hn : n ≤ 4) : f__law_leaf_term [(Lf.each "last" "zero" a b).ldD, .int (n : Int)] h = .ok (ntm n (Lf.each "last" "zero" a b).ndD) [] h := by
  have e1 := ser_new (h := h) (n := n) (f := "zero") (by simp)
  have e2 := ser_part (h := h) (n := n) (f := "zero") (by simp) hab hb hn
  have e3 := ser_last (h := h) (n := n) (f := "zero") (a := a) (b := b)
  show f__law_leaf_term [.tup [.str "each", .str "last", .str "zero", .int (a : Int), .int (b : Int)], .int (n : Int)] h = _
  unfold row nrow ntm at *
  simp only [Int.natCast_zero] at e1 e2
  generalize (Lf.each "last" "zero" a b).ndD = z at *
  apply Wp.eq
  simp only [↓wf__law_leaf_term, ↓wp_runF, startF, List.map_cons, List.map_nil, List.length_cons, List.length_nil, Nat.zero_add, Nat.reduceAdd, Nat.reduceSub, List.replicate_succ, List.replicate_zero, List.cons_append, List.nil_append, bx_cons, ↓w__law_leaf_term, ↓wp_Seq, ↓wp_IfS, ↓wp_Op, ↓wp_Late, List.getElem?_cons_zero, sl_some, ↓wp_C, bIdx_tup, at_0, op_some, ce_each_true, cd_f, ↓wp_ret, flk_nx, ↓w__law_leaf_term_k1, ↓wp_Put, ↓wp_GetSl, ↓wp_Fz, ↓wp_Call, ↓wp_Args1, ↓wp_Var, List.getElem?_cons_succ, List.set_cons_succ, List.set_cons_zero, gKwD, own_int, ↓wp_Args0, at_2, pick_cons, toL_some, pick_nil, List.append_nil, e1, ↓wp_ok, ↓wp_Psi, at_3, psI_int, at_4, fz_no, fnOf_obj, v_mt___getitem____Series_1, e2, ↓w__law_leaf_term_k2, ce_each_all, ↓w__law_leaf_term_k3, at_1, ↓w__law_leaf_term_k4, own_str, ce_last_first, ↓w__law_leaf_term_k5, ce_last_last, cd_t, ↓wp_Ret, ↓wp_Meth, own_no, v_mt_last_1, gPos_eq, e3, flk_rt, rtk_rt, and_self]
theorem leaf_each_last_held (hab : a < b) (hb : b ≤ n) (hn : n ≤ 4) : f__law_leaf_term [(Lf.each "last" "held" a b).ldD, .int (n : Int)] h = .ok (ntm n (Lf.each "last" "held" a b).ndD) [] h := by
  have e1 := ser_new (h := h) (n := n) (f := "held") (by simp)
  have e2 := ser_part (h := h) (n := n) (f := "held") (by simp) hab hb hn
  have e3 := ser_last (h := h) (n := n) (f := "held") (a := a) (b := b)
  show f__law_leaf_term [.tup [.str "each", .str "last", .str "held", .int (a : Int), .int (b : Int)], .int (n : Int)] h = _
  unfold row nrow ntm at *
  simp only [Int.natCast_zero] at e1 e2
  generalize (Lf.each "last" "held" a b).ndD = z at *
  apply Wp.eq
  simp only [↓wf__law_leaf_term, ↓wp_runF, startF, List.map_cons, List.map_nil, List.length_cons, List.length_nil, Nat.zero_add, Nat.reduceAdd, Nat.reduceSub, List.replicate_succ, List.replicate_zero, List.cons_append, List.nil_append, bx_cons, ↓w__law_leaf_term, ↓wp_Seq, ↓wp_IfS, ↓wp_Op, ↓wp_Late, List.getElem?_cons_zero, sl_some, ↓wp_C, bIdx_tup, at_0, op_some, ce_each_true, cd_f, ↓wp_ret, flk_nx, ↓w__law_leaf_term_k1, ↓wp_Put, ↓wp_GetSl, ↓wp_Fz, ↓wp_Call, ↓wp_Args1, ↓wp_Var, List.getElem?_cons_succ, List.set_cons_succ, List.set_cons_zero, gKwD, own_int, ↓wp_Args0, at_2, pick_cons, toL_some, pick_nil, List.append_nil, e1, ↓wp_ok, ↓wp_Psi, at_3, psI_int, at_4, fz_no, fnOf_obj, v_mt___getitem____Series_1, e2, ↓w__law_leaf_term_k2, ce_each_all, ↓w__law_leaf_term_k3, at_1, ↓w__law_leaf_term_k4, own_str, ce_last_first, ↓w__law_leaf_term_k5, ce_last_last, cd_t, ↓wp_Ret, ↓wp_Meth, own_no, v_mt_last_1, gPos_eq, e3, flk_rt, rtk_rt, and_self]
theorem leaf_each_change_raw (hab : a < b) (hb : b ≤ n) (hn : n ≤ 4) : f__law_leaf_term [(Lf.each "change" "raw" a b).ldD, .int (n : Int)] h = .ok (ntm n (Lf.each "change" "raw" a b).ndD) [] h := by
  have e1 := ser_new (h := h) (n := n) (f := "raw") (by simp)
  have e2 := ser_part (h := h) (n := n) (f := "raw") (by simp) hab hb hn
  have e3 := ser_change (h := h) (n := n) (f := "raw") (a := a) (b := b)
  show f__law_leaf_term [.tup [.str "each", .str "change", .str "raw", .int (a : Int), .int (b : Int)], .int (n : Int)] h = _
  unfold row nrow ntm at *
  simp only [Int.natCast_zero] at e1 e2
  generalize (Lf.each "change" "raw" a b).ndD = z at *
  apply Wp.eq
  simp only [↓wf__law_leaf_term, ↓wp_runF, startF, List.map_cons, List.map_nil, List.length_cons, List.length_nil, Nat.zero_add, Nat.reduceAdd, Nat.reduceSub, List.replicate_succ, List.replicate_zero, List.cons_append, List.nil_append, bx_cons, ↓w__law_leaf_term, ↓wp_Seq, ↓wp_IfS, ↓wp_Op, ↓wp_Late, List.getElem?_cons_zero, sl_some, ↓wp_C, bIdx_tup, at_0, op_some, ce_each_true, cd_f, ↓wp_ret, flk_nx, ↓w__law_leaf_term_k1, ↓wp_Put, ↓wp_GetSl, ↓wp_Fz, ↓wp_Call, ↓wp_Args1, ↓wp_Var, List.getElem?_cons_succ, List.set_cons_succ, List.set_cons_zero, gKwD, own_int, ↓wp_Args0, at_2, pick_cons, toL_some, pick_nil, List.append_nil, e1, ↓wp_ok, ↓wp_Psi, at_3, psI_int, at_4, fz_no, fnOf_obj, v_mt___getitem____Series_1, e2, ↓w__law_leaf_term_k2, ce_each_all, ↓w__law_leaf_term_k3, at_1, ↓w__law_leaf_term_k4, own_str, ce_change_first, ↓w__law_leaf_term_k5, ce_change_last, ↓w__law_leaf_term_k6, ce_change_change, cd_t, ↓wp_Ret, ↓wp_Meth, own_no, v_mt_change_1, gPos_eq, e3, flk_rt, rtk_rt, and_self]
theorem leaf_each_change_zero (hab : a < b) (hb : b ≤ n) (hn : n ≤ 4) : f__law_leaf_term [(Lf.each "change" "zero" a b).ldD, .int (n : Int)] h = .ok (ntm n (Lf.each "change" "zero" a b).ndD) [] h := by
  have e1 := ser_new (h := h) (n := n) (f := "zero") (by simp)
  have e2 := ser_part (h := h) (n := n) (f := "zero") (by simp) hab hb hn
  have e3 := ser_change (h := h) (n := n) (f := "zero") (a := a) (b := b)
  show f__law_leaf_term [.tup [.str "each", .str "change", .str "zero", .int (a : Int), .int (b : Int)], .int (n : Int)] h = _
  unfold row nrow ntm at *
  simp only [Int.natCast_zero] at e1 e2
  generalize (Lf.each "change" "zero" a b).ndD = z at *
  apply Wp.eq
  simp only [↓wf__law_leaf_term, ↓wp_runF, startF, List.map_cons, List.map_nil, List.length_cons, List.length_nil, Nat.zero_add, Nat.reduceAdd, Nat.reduceSub, List.replicate_succ, List.replicate_zero, List.cons_append, List.nil_append, bx_cons, ↓w__law_leaf_term, ↓wp_Seq, ↓wp_IfS, ↓wp_Op, ↓wp_Late, List.getElem?_cons_zero, sl_some, ↓wp_C, bIdx_tup, at_0, op_some, ce_each_true, cd_f, ↓wp_ret, flk_nx, ↓w__law_leaf_term_k1, ↓wp_Put, ↓wp_GetSl, ↓wp_Fz, ↓wp_Call, ↓wp_Args1, ↓wp_Var, List.getElem?_cons_succ, List.set_cons_succ, List.set_cons_zero, gKwD, own_int, ↓wp_Args0, at_2, pick_cons, toL_some, pick_nil, List.append_nil, e1, ↓wp_ok, ↓wp_Psi, at_3, psI_int, at_4, fz_no, fnOf_obj, v_mt___getitem____Series_1, e2, ↓w__law_leaf_term_k2, ce_each_all, ↓w__law_leaf_term_k3, at_1, ↓w__law_leaf_term_k4, own_str, ce_change_first, ↓w__law_leaf_term_k5, ce_change_last, ↓w__law_leaf_term_k6, ce_change_change, cd_t, ↓wp_Ret, ↓wp_Meth, own_no, v_mt_change_1, gPos_eq, e3, flk_rt, rtk_rt, and_self]
theorem leaf_each_change_held (hab : a < b) (hb : b ≤ n) (hn : n ≤ 4) : f__law_leaf_term [(Lf.each "change" "held" a b).ldD, .int (n : Int)] h = .ok (ntm n (Lf.each "change" "held" a b).ndD) [] h := by
  have e1 := ser_new (h := h) (n := n) (f := "held") (by simp)
  have e2 := ser_part (h := h) (n := n) (f := "held") (by simp) hab hb hn
  have e3 := ser_change (h := h) (n := n) (f := "held") (a := a) (b := b)
  show f__law_leaf_term [.tup [.str "each", .str "change", .str "held", .int (a : Int), .int (b : Int)], .int (n : Int)] h = _
  unfold row nrow ntm at *
  simp only [Int.natCast_zero] at e1 e2
  generalize (Lf.each "change" "held" a b).ndD = z at *
  apply Wp.eq
  simp only [↓wf__law_leaf_term, ↓wp_runF, startF, List.map_cons, List.map_nil, List.length_cons, List.length_nil, Nat.zero_add, Nat.reduceAdd, Nat.reduceSub, List.replicate_succ, List.replicate_zero, List.cons_append, List.nil_append, bx_cons, ↓w__law_leaf_term, ↓wp_Seq, ↓wp_IfS, ↓wp_Op, ↓wp_Late, List.getElem?_cons_zero, sl_some, ↓wp_C, bIdx_tup, at_0, op_some, ce_each_true, cd_f, ↓wp_ret, flk_nx, ↓w__law_leaf_term_k1, ↓wp_Put, ↓wp_GetSl, ↓wp_Fz, ↓wp_Call, ↓wp_Args1, ↓wp_Var, List.getElem?_cons_succ, List.set_cons_succ, List.set_cons_zero, gKwD, own_int, ↓wp_Args0, at_2, pick_cons, toL_some, pick_nil, List.append_nil, e1, ↓wp_ok, ↓wp_Psi, at_3, psI_int, at_4, fz_no, fnOf_obj, v_mt___getitem____Series_1, e2, ↓w__law_leaf_term_k2, ce_each_all, ↓w__law_leaf_term_k3, at_1, ↓w__law_leaf_term_k4, own_str, ce_change_first, ↓w__law_leaf_term_k5, ce_change_last, ↓w__law_leaf_term_k6, ce_change_change, cd_t, ↓wp_Ret, ↓wp_Meth, own_no, v_mt_change_1, gPos_eq, e3, flk_rt, rtk_rt, and_self]
theorem leaf_each_rises_raw (hab : a < b) (hb : b ≤ n) (hn : n ≤ 4) : f__law_leaf_term [(Lf.each "rises" "raw" a b).ldD, .int (n : Int)] h = .ok (ntm n (Lf.each "rises" "raw" a b).ndD) [] h := by
  have e1 := ser_new (h := h) (n := n) (f := "raw") (by simp)
  have e2 := ser_part (h := h) (n := n) (f := "raw") (by simp) hab hb hn
  have e3 := ser_rises (h := h) (n := n) (f := "raw") (a := a) (b := b)
  show f__law_leaf_term [.tup [.str "each", .str "rises", .str "raw", .int (a : Int), .int (b : Int)], .int (n : Int)] h = _
  unfold row nrow ntm at *
  simp only [Int.natCast_zero] at e1 e2
  generalize (Lf.each "rises" "raw" a b).ndD = z at *
  apply Wp.eq
  simp only [↓wf__law_leaf_term, ↓wp_runF, startF, List.map_cons, List.map_nil, List.length_cons, List.length_nil, Nat.zero_add, Nat.reduceAdd, Nat.reduceSub, List.replicate_succ, List.replicate_zero, List.cons_append, List.nil_append, bx_cons, ↓w__law_leaf_term, ↓wp_Seq, ↓wp_IfS, ↓wp_Op, ↓wp_Late, List.getElem?_cons_zero, sl_some, ↓wp_C, bIdx_tup, at_0, op_some, ce_each_true, cd_f, ↓wp_ret, flk_nx, ↓w__law_leaf_term_k1, ↓wp_Put, ↓wp_GetSl, ↓wp_Fz, ↓wp_Call, ↓wp_Args1, ↓wp_Var, List.getElem?_cons_succ, List.set_cons_succ, List.set_cons_zero, gKwD, own_int, ↓wp_Args0, at_2, pick_cons, toL_some, pick_nil, List.append_nil, e1, ↓wp_ok, ↓wp_Psi, at_3, psI_int, at_4, fz_no, fnOf_obj, v_mt___getitem____Series_1, e2, ↓w__law_leaf_term_k2, ce_each_all, ↓w__law_leaf_term_k3, at_1, ↓w__law_leaf_term_k4, own_str, ce_rises_first, ↓w__law_leaf_term_k5, ce_rises_last, ↓w__law_leaf_term_k6, ce_rises_change, ↓w__law_leaf_term_k7, ce_rises_rises, cd_t, ↓wp_Ret, ↓wp_Meth, own_no, v_mt_rises_1, gPos_eq, e3, flk_rt, rtk_rt, and_self]
theorem leaf_each_rises_zero (hab : a < b) (hb : b ≤ n) (hn : n ≤ 4) : f__law_leaf_term [(Lf.each "rises" "zero" a b).ldD, .int (n : Int)] h = .ok (ntm n (Lf.each "rises" "zero" a b).ndD) [] h := by
  have e1 := ser_new (h := h) (n := n) (f := "zero") (by simp)
  have e2 := ser_part (h := h) (n := n) (f := "zero") (by simp) hab hb hn
  have e3 := ser_rises (h := h) (n := n) (f := "zero") (a := a) (b := b)
  show f__law_leaf_term [.tup [.str "each", .str "rises", .str "zero", .int (a : Int), .int (b : Int)], .int (n : Int)] h = _
  unfold row nrow ntm at *
  simp only [Int.natCast_zero] at e1 e2
  generalize (Lf.each "rises" "zero" a b).ndD = z at *
  apply Wp.eq
  simp only [↓wf__law_leaf_term, ↓wp_runF, startF, List.map_cons, List.map_nil, List.length_cons, List.length_nil, Nat.zero_add, Nat.reduceAdd, Nat.reduceSub, List.replicate_succ, List.replicate_zero, List.cons_append, List.nil_append, bx_cons, ↓w__law_leaf_term, ↓wp_Seq, ↓wp_IfS, ↓wp_Op, ↓wp_Late, List.getElem?_cons_zero, sl_some, ↓wp_C, bIdx_tup, at_0, op_some, ce_each_true, cd_f, ↓wp_ret, flk_nx, ↓w__law_leaf_term_k1, ↓wp_Put, ↓wp_GetSl, ↓wp_Fz, ↓wp_Call, ↓wp_Args1, ↓wp_Var, List.getElem?_cons_succ, List.set_cons_succ, List.set_cons_zero, gKwD, own_int, ↓wp_Args0, at_2, pick_cons, toL_some, pick_nil, List.append_nil, e1, ↓wp_ok, ↓wp_Psi, at_3, psI_int, at_4, fz_no, fnOf_obj, v_mt___getitem____Series_1, e2, ↓w__law_leaf_term_k2, ce_each_all, ↓w__law_leaf_term_k3, at_1, ↓w__law_leaf_term_k4, own_str, ce_rises_first, ↓w__law_leaf_term_k5, ce_rises_last, ↓w__law_leaf_term_k6, ce_rises_change, ↓w__law_leaf_term_k7, ce_rises_rises, cd_t, ↓wp_Ret, ↓wp_Meth, own_no, v_mt_rises_1, gPos_eq, e3, flk_rt, rtk_rt, and_self]
theorem leaf_each_rises_held (hab : a < b) (hb : b ≤ n) (hn : n ≤ 4) : f__law_leaf_term [(Lf.each "rises" "held" a b).ldD, .int (n : Int)] h = .ok (ntm n (Lf.each "rises" "held" a b).ndD) [] h := by
  have e1 := ser_new (h := h) (n := n) (f := "held") (by simp)
  have e2 := ser_part (h := h) (n := n) (f := "held") (by simp) hab hb hn
  have e3 := ser_rises (h := h) (n := n) (f := "held") (a := a) (b := b)
  show f__law_leaf_term [.tup [.str "each", .str "rises", .str "held", .int (a : Int), .int (b : Int)], .int (n : Int)] h = _
  unfold row nrow ntm at *
  simp only [Int.natCast_zero] at e1 e2
  generalize (Lf.each "rises" "held" a b).ndD = z at *
  apply Wp.eq
  simp only [↓wf__law_leaf_term, ↓wp_runF, startF, List.map_cons, List.map_nil, List.length_cons, List.length_nil, Nat.zero_add, Nat.reduceAdd, Nat.reduceSub, List.replicate_succ, List.replicate_zero, List.cons_append, List.nil_append, bx_cons, ↓w__law_leaf_term, ↓wp_Seq, ↓wp_IfS, ↓wp_Op, ↓wp_Late, List.getElem?_cons_zero, sl_some, ↓wp_C, bIdx_tup, at_0, op_some, ce_each_true, cd_f, ↓wp_ret, flk_nx, ↓w__law_leaf_term_k1, ↓wp_Put, ↓wp_GetSl, ↓wp_Fz, ↓wp_Call, ↓wp_Args1, ↓wp_Var, List.getElem?_cons_succ, List.set_cons_succ, List.set_cons_zero, gKwD, own_int, ↓wp_Args0, at_2, pick_cons, toL_some, pick_nil, List.append_nil, e1, ↓wp_ok, ↓wp_Psi, at_3, psI_int, at_4, fz_no, fnOf_obj, v_mt___getitem____Series_1, e2, ↓w__law_leaf_term_k2, ce_each_all, ↓w__law_leaf_term_k3, at_1, ↓w__law_leaf_term_k4, own_str, ce_rises_first, ↓w__law_leaf_term_k5, ce_rises_last, ↓w__law_leaf_term_k6, ce_rises_change, ↓w__law_leaf_term_k7, ce_rises_rises, cd_t, ↓wp_Ret, ↓wp_Meth, own_no, v_mt_rises_1, gPos_eq, e3, flk_rt, rtk_rt, and_self]
theorem leaf_each_top_raw (hab : a < b) (hb : b ≤ n) (hn : n ≤ 4) : f__law_leaf_term [(Lf.each "top" "raw" a b).ldD, .int (n : Int)] h = .ok (ntm n (Lf.each "top" "raw" a b).ndD) [] h := by
  have e1 := ser_new (h := h) (n := n) (f := "raw") (by simp)
  have e2 := ser_part (h := h) (n := n) (f := "raw") (by simp) hab hb hn
  have e3 := ser_top (h := h) (n := n) (f := "raw") (a := a) (b := b)
  show f__law_leaf_term [.tup [.str "each", .str "top", .str "raw", .int (a : Int), .int (b : Int)], .int (n : Int)] h = _
  unfold row nrow ntm at *
  simp only [Int.natCast_zero] at e1 e2
  generalize (Lf.each "top" "raw" a b).ndD = z at *
  apply Wp.eq
  simp only [↓wf__law_leaf_term, ↓wp_runF, startF, List.map_cons, List.map_nil, List.length_cons, List.length_nil, Nat.zero_add, Nat.reduceAdd, Nat.reduceSub, List.replicate_succ, List.replicate_zero, List.cons_append, List.nil_append, bx_cons, ↓w__law_leaf_term, ↓wp_Seq, ↓wp_IfS, ↓wp_Op, ↓wp_Late, List.getElem?_cons_zero, sl_some, ↓wp_C, bIdx_tup, at_0, op_some, ce_each_true, cd_f, ↓wp_ret, flk_nx, ↓w__law_leaf_term_k1, ↓wp_Put, ↓wp_GetSl, ↓wp_Fz, ↓wp_Call, ↓wp_Args1, ↓wp_Var, List.getElem?_cons_succ, List.set_cons_succ, List.set_cons_zero, gKwD, own_int, ↓wp_Args0, at_2, pick_cons, toL_some, pick_nil, List.append_nil, e1, ↓wp_ok, ↓wp_Psi, at_3, psI_int, at_4, fz_no, fnOf_obj, v_mt___getitem____Series_1, e2, ↓w__law_leaf_term_k2, ce_each_all, ↓w__law_leaf_term_k3, at_1, ↓w__law_leaf_term_k4, own_str, ce_top_first, ↓w__law_leaf_term_k5, ce_top_last, ↓w__law_leaf_term_k6, ce_top_change, ↓w__law_leaf_term_k7, ce_top_rises, ↓w__law_leaf_term_k8, ce_top_told, ↓wp_Ret, ↓wp_If, ce_top_top, cd_t, ↓wp_Meth, own_no, v_mt_top_1, gPos_eq, e3, rtk_rt, and_self]
theorem leaf_each_top_zero (hab : a < b) (hb : b ≤ n) (hn : n ≤ 4) : f__law_leaf_term [(Lf.each "top" "zero" a b).ldD, .int (n : Int)] h = .ok (ntm n (Lf.each "top" "zero" a b).ndD) [] h := by
  have e1 := ser_new (h := h) (n := n) (f := "zero") (by simp)
  have e2 := ser_part (h := h) (n := n) (f := "zero") (by simp) hab hb hn
  have e3 := ser_top (h := h) (n := n) (f := "zero") (a := a) (b := b)
  show f__law_leaf_term [.tup [.str "each", .str "top", .str "zero", .int (a : Int), .int (b : Int)], .int (n : Int)] h = _
  unfold row nrow ntm at *
  simp only [Int.natCast_zero] at e1 e2
  generalize (Lf.each "top" "zero" a b).ndD = z at *
  apply Wp.eq
  simp only [↓wf__law_leaf_term, ↓wp_runF, startF, List.map_cons, List.map_nil, List.length_cons, List.length_nil, Nat.zero_add, Nat.reduceAdd, Nat.reduceSub, List.replicate_succ, List.replicate_zero, List.cons_append, List.nil_append, bx_cons, ↓w__law_leaf_term, ↓wp_Seq, ↓wp_IfS, ↓wp_Op, ↓wp_Late, List.getElem?_cons_zero, sl_some, ↓wp_C, bIdx_tup, at_0, op_some, ce_each_true, cd_f, ↓wp_ret, flk_nx, ↓w__law_leaf_term_k1, ↓wp_Put, ↓wp_GetSl, ↓wp_Fz, ↓wp_Call, ↓wp_Args1, ↓wp_Var, List.getElem?_cons_succ, List.set_cons_succ, List.set_cons_zero, gKwD, own_int, ↓wp_Args0, at_2, pick_cons, toL_some, pick_nil, List.append_nil, e1, ↓wp_ok, ↓wp_Psi, at_3, psI_int, at_4, fz_no, fnOf_obj, v_mt___getitem____Series_1, e2, ↓w__law_leaf_term_k2, ce_each_all, ↓w__law_leaf_term_k3, at_1, ↓w__law_leaf_term_k4, own_str, ce_top_first, ↓w__law_leaf_term_k5, ce_top_last, ↓w__law_leaf_term_k6, ce_top_change, ↓w__law_leaf_term_k7, ce_top_rises, ↓w__law_leaf_term_k8, ce_top_told, ↓wp_Ret, ↓wp_If, ce_top_top, cd_t, ↓wp_Meth, own_no, v_mt_top_1, gPos_eq, e3, rtk_rt, and_self]
theorem leaf_each_top_held (hab : a < b) (hb : b ≤ n) (hn : n ≤ 4) : f__law_leaf_term [(Lf.each "top" "held" a b).ldD, .int (n : Int)] h = .ok (ntm n (Lf.each "top" "held" a b).ndD) [] h := by
  have e1 := ser_new (h := h) (n := n) (f := "held") (by simp)
  have e2 := ser_part (h := h) (n := n) (f := "held") (by simp) hab hb hn
  have e3 := ser_top (h := h) (n := n) (f := "held") (a := a) (b := b)
  show f__law_leaf_term [.tup [.str "each", .str "top", .str "held", .int (a : Int), .int (b : Int)], .int (n : Int)] h = _
  unfold row nrow ntm at *
  simp only [Int.natCast_zero] at e1 e2
  generalize (Lf.each "top" "held" a b).ndD = z at *
  apply Wp.eq
  simp only [↓wf__law_leaf_term, ↓wp_runF, startF, List.map_cons, List.map_nil, List.length_cons, List.length_nil, Nat.zero_add, Nat.reduceAdd, Nat.reduceSub, List.replicate_succ, List.replicate_zero, List.cons_append, List.nil_append, bx_cons, ↓w__law_leaf_term, ↓wp_Seq, ↓wp_IfS, ↓wp_Op, ↓wp_Late, List.getElem?_cons_zero, sl_some, ↓wp_C, bIdx_tup, at_0, op_some, ce_each_true, cd_f, ↓wp_ret, flk_nx, ↓w__law_leaf_term_k1, ↓wp_Put, ↓wp_GetSl, ↓wp_Fz, ↓wp_Call, ↓wp_Args1, ↓wp_Var, List.getElem?_cons_succ, List.set_cons_succ, List.set_cons_zero, gKwD, own_int, ↓wp_Args0, at_2, pick_cons, toL_some, pick_nil, List.append_nil, e1, ↓wp_ok, ↓wp_Psi, at_3, psI_int, at_4, fz_no, fnOf_obj, v_mt___getitem____Series_1, e2, ↓w__law_leaf_term_k2, ce_each_all, ↓w__law_leaf_term_k3, at_1, ↓w__law_leaf_term_k4, own_str, ce_top_first, ↓w__law_leaf_term_k5, ce_top_last, ↓w__law_leaf_term_k6, ce_top_change, ↓w__law_leaf_term_k7, ce_top_rises, ↓w__law_leaf_term_k8, ce_top_told, ↓wp_Ret, ↓wp_If, ce_top_top, cd_t, ↓wp_Meth, own_no, v_mt_top_1, gPos_eq, e3, rtk_rt, and_self]
theorem leaf_each_low_raw (hab : a < b) (hb : b ≤ n) (hn : n ≤ 4) : f__law_leaf_term [(Lf.each "low" "raw" a b).ldD, .int (n : Int)] h = .ok (ntm n (Lf.each "low" "raw" a b).ndD) [] h := by
  have e1 := ser_new (h := h) (n := n) (f := "raw") (by simp)
  have e2 := ser_part (h := h) (n := n) (f := "raw") (by simp) hab hb hn
  have e3 := ser_low (h := h) (n := n) (f := "raw") (a := a) (b := b)
  show f__law_leaf_term [.tup [.str "each", .str "low", .str "raw", .int (a : Int), .int (b : Int)], .int (n : Int)] h = _
  unfold row nrow ntm at *
  simp only [Int.natCast_zero] at e1 e2
  generalize (Lf.each "low" "raw" a b).ndD = z at *
  apply Wp.eq
  simp only [↓wf__law_leaf_term, ↓wp_runF, startF, List.map_cons, List.map_nil, List.length_cons, List.length_nil, Nat.zero_add, Nat.reduceAdd, Nat.reduceSub, List.replicate_succ, List.replicate_zero, List.cons_append, List.nil_append, bx_cons, ↓w__law_leaf_term, ↓wp_Seq, ↓wp_IfS, ↓wp_Op, ↓wp_Late, List.getElem?_cons_zero, sl_some, ↓wp_C, bIdx_tup, at_0, op_some, ce_each_true, cd_f, ↓wp_ret, flk_nx, ↓w__law_leaf_term_k1, ↓wp_Put, ↓wp_GetSl, ↓wp_Fz, ↓wp_Call, ↓wp_Args1, ↓wp_Var, List.getElem?_cons_succ, List.set_cons_succ, List.set_cons_zero, gKwD, own_int, ↓wp_Args0, at_2, pick_cons, toL_some, pick_nil, List.append_nil, e1, ↓wp_ok, ↓wp_Psi, at_3, psI_int, at_4, fz_no, fnOf_obj, v_mt___getitem____Series_1, e2, ↓w__law_leaf_term_k2, ce_each_all, ↓w__law_leaf_term_k3, at_1, ↓w__law_leaf_term_k4, own_str, ce_low_first, ↓w__law_leaf_term_k5, ce_low_last, ↓w__law_leaf_term_k6, ce_low_change, ↓w__law_leaf_term_k7, ce_low_rises, ↓w__law_leaf_term_k8, ce_low_told, ↓wp_Ret, ↓wp_If, ce_low_top, ↓wp_Meth, own_no, cd_t, v_mt_low_1, gPos_eq, e3, rtk_rt, and_self]
theorem leaf_each_low_zero (hab : a < b) (hb : b ≤ n) (hn : n ≤ 4) : f__law_leaf_term [(Lf.each "low" "zero" a b).ldD, .int (n : Int)] h = .ok (ntm n (Lf.each "low" "zero" a b).ndD) [] h := by
  have e1 := ser_new (h := h) (n := n) (f := "zero") (by simp)
  have e2 := ser_part (h := h) (n := n) (f := "zero") (by simp) hab hb hn
  have e3 := ser_low (h := h) (n := n) (f := "zero") (a := a) (b := b)
  show f__law_leaf_term [.tup [.str "each", .str "low", .str "zero", .int (a : Int), .int (b : Int)], .int (n : Int)] h = _
  unfold row nrow ntm at *
  simp only [Int.natCast_zero] at e1 e2
  generalize (Lf.each "low" "zero" a b).ndD = z at *
  apply Wp.eq
  simp only [↓wf__law_leaf_term, ↓wp_runF, startF, List.map_cons, List.map_nil, List.length_cons, List.length_nil, Nat.zero_add, Nat.reduceAdd, Nat.reduceSub, List.replicate_succ, List.replicate_zero, List.cons_append, List.nil_append, bx_cons, ↓w__law_leaf_term, ↓wp_Seq, ↓wp_IfS, ↓wp_Op, ↓wp_Late, List.getElem?_cons_zero, sl_some, ↓wp_C, bIdx_tup, at_0, op_some, ce_each_true, cd_f, ↓wp_ret, flk_nx, ↓w__law_leaf_term_k1, ↓wp_Put, ↓wp_GetSl, ↓wp_Fz, ↓wp_Call, ↓wp_Args1, ↓wp_Var, List.getElem?_cons_succ, List.set_cons_succ, List.set_cons_zero, gKwD, own_int, ↓wp_Args0, at_2, pick_cons, toL_some, pick_nil, List.append_nil, e1, ↓wp_ok, ↓wp_Psi, at_3, psI_int, at_4, fz_no, fnOf_obj, v_mt___getitem____Series_1, e2, ↓w__law_leaf_term_k2, ce_each_all, ↓w__law_leaf_term_k3, at_1, ↓w__law_leaf_term_k4, own_str, ce_low_first, ↓w__law_leaf_term_k5, ce_low_last, ↓w__law_leaf_term_k6, ce_low_change, ↓w__law_leaf_term_k7, ce_low_rises, ↓w__law_leaf_term_k8, ce_low_told, ↓wp_Ret, ↓wp_If, ce_low_top, ↓wp_Meth, own_no, cd_t, v_mt_low_1, gPos_eq, e3, rtk_rt, and_self]
theorem leaf_each_low_held (hab : a < b) (hb : b ≤ n) (hn : n ≤ 4) : f__law_leaf_term [(Lf.each "low" "held" a b).ldD, .int (n : Int)] h = .ok (ntm n (Lf.each "low" "held" a b).ndD) [] h := by
  have e1 := ser_new (h := h) (n := n) (f := "held") (by simp)
  have e2 := ser_part (h := h) (n := n) (f := "held") (by simp) hab hb hn
  have e3 := ser_low (h := h) (n := n) (f := "held") (a := a) (b := b)
  show f__law_leaf_term [.tup [.str "each", .str "low", .str "held", .int (a : Int), .int (b : Int)], .int (n : Int)] h = _
  unfold row nrow ntm at *
  simp only [Int.natCast_zero] at e1 e2
  generalize (Lf.each "low" "held" a b).ndD = z at *
  apply Wp.eq
  simp only [↓wf__law_leaf_term, ↓wp_runF, startF, List.map_cons, List.map_nil, List.length_cons, List.length_nil, Nat.zero_add, Nat.reduceAdd, Nat.reduceSub, List.replicate_succ, List.replicate_zero, List.cons_append, List.nil_append, bx_cons, ↓w__law_leaf_term, ↓wp_Seq, ↓wp_IfS, ↓wp_Op, ↓wp_Late, List.getElem?_cons_zero, sl_some, ↓wp_C, bIdx_tup, at_0, op_some, ce_each_true, cd_f, ↓wp_ret, flk_nx, ↓w__law_leaf_term_k1, ↓wp_Put, ↓wp_GetSl, ↓wp_Fz, ↓wp_Call, ↓wp_Args1, ↓wp_Var, List.getElem?_cons_succ, List.set_cons_succ, List.set_cons_zero, gKwD, own_int, ↓wp_Args0, at_2, pick_cons, toL_some, pick_nil, List.append_nil, e1, ↓wp_ok, ↓wp_Psi, at_3, psI_int, at_4, fz_no, fnOf_obj, v_mt___getitem____Series_1, e2, ↓w__law_leaf_term_k2, ce_each_all, ↓w__law_leaf_term_k3, at_1, ↓w__law_leaf_term_k4, own_str, ce_low_first, ↓w__law_leaf_term_k5, ce_low_last, ↓w__law_leaf_term_k6, ce_low_change, ↓w__law_leaf_term_k7, ce_low_rises, ↓w__law_leaf_term_k8, ce_low_told, ↓wp_Ret, ↓wp_If, ce_low_top, ↓wp_Meth, own_no, cd_t, v_mt_low_1, gPos_eq, e3, rtk_rt, and_self]
theorem leaf_term {l : Lf} (hn : n ≤ 4) (ok : l.Ok n) : f__law_leaf_term [l.ldD, .int (n : Int)] h = .ok (ntm n l.ndD) [] h := by
  cases l with
  | ev a b => exact leaf_ev ok.1 ok.2 hn
  | all m f a b =>
    obtain ⟨⟨hm, hf⟩, hab, hb⟩ := ok
    rcases hm with rfl | rfl | rfl | rfl <;> rcases hf with rfl | rfl
    · exact leaf_all_first_zero hab hb hn
    · exact leaf_all_first_held hab hb hn
    · exact leaf_all_last_zero hab hb hn
    · exact leaf_all_last_held hab hb hn
    · exact leaf_all_change_zero hab hb hn
    · exact leaf_all_change_held hab hb hn
    · exact leaf_all_rises_zero hab hb hn
    · exact leaf_all_rises_held hab hb hn
  | each m f a b =>
    obtain ⟨ho, hab, hb⟩ := ok
    rcases ho with ⟨rfl, rfl⟩ | ⟨hm, hf⟩
    · exact leaf_each_told_raw hab hb hn
    · rcases hm with rfl | rfl | rfl | rfl | rfl | rfl <;> rcases hf with rfl | rfl | rfl
      · exact leaf_each_first_raw hab hb hn
      · exact leaf_each_first_zero hab hb hn
      · exact leaf_each_first_held hab hb hn
      · exact leaf_each_last_raw hab hb hn
      · exact leaf_each_last_zero hab hb hn
      · exact leaf_each_last_held hab hb hn
      · exact leaf_each_change_raw hab hb hn
      · exact leaf_each_change_zero hab hb hn
      · exact leaf_each_change_held hab hb hn
      · exact leaf_each_rises_raw hab hb hn
      · exact leaf_each_rises_zero hab hb hn
      · exact leaf_each_rises_held hab hb hn
      · exact leaf_each_top_raw hab hb hn
      · exact leaf_each_top_zero hab hb hn
      · exact leaf_each_top_held hab hb hn
      · exact leaf_each_low_raw hab hb hn
      · exact leaf_each_low_zero hab hb hn
      · exact leaf_each_low_held hab hb hn
end
end L

/-! texts of leaves -/
namespace L
open PySem PySem.Spec L2 Pk
section
variable {h : Hh} {n a b : Nat} {f m : Str}
theorem bAdd_s {x y : Str} (hl : x.length + y.length ≤ 1000) : bAdd h (.str x) (.str y) = some (.str (x ++ y)) := by
  unfold bAdd
  dsimp only
  rw [if_pos (Nat.le_trans hl (by decide))]
theorem bFmt_s {x : Str} (hl : x.length ≤ 1000) : bFmt (.str x) = some (.str x) := bFmt_str (Nat.le_trans hl (by decide))
theorem bFmt_d (ha : a ≤ 9) : bFmt (.int (a : Int)) = some (.str (dg a)) := bFmt_int (dg_ok ha).2.2
theorem bStr_d (ha : a ≤ 9) : bStr1 h (.int (a : Int)) = some (.str (dg a)) := bStr1_int (dg_ok ha).2.2
theorem ln_0 : ("events[" : Str).length = 7 := by decide +kernel
theorem ln_1 : (":" : Str).length = 1 := by decide +kernel
theorem ln_2 : ("]" : Str).length = 1 := by decide +kernel
theorem ln_3 : ("(sum(" : Str).length = 5 := by decide +kernel
theorem ln_4 : ("sum(" : Str).length = 4 := by decide +kernel
theorem ln_5 : ("(" : Str).length = 1 := by decide +kernel
theorem ln_6 : ("[" : Str).length = 1 := by decide +kernel
theorem ln_7 : ("))" : Str).length = 2 := by decide +kernel
theorem part_len (hf : f ∈ fW) (ha : a ≤ 9) (hb : b ≤ 9) : (f ++ "[" ++ dg a ++ ":" ++ dg b ++ "]").length ≤ 11 := by
  have h1 := (fW_ok f hf).2
  have h2 := (dg_ok ha).2.1
  have h3 := (dg_ok hb).2.1
  simp only [Str.length_append, ln_0, ln_1, ln_2, ln_3, ln_4, ln_5, ln_6, ln_7]
  omega
theorem ltext_ev (ha : a ≤ 9) (hb : b ≤ 9) : f__law_leaf_text [(Lf.ev a b).ldD] h = .ok (.str (Lf.ev a b).txt) [] h := by
  have h2 := (dg_ok ha).2.1
  have h3 := (dg_ok hb).2.1
  have da := bStr_d (h := h) ha
  have db := bStr_d (h := h) hb
  have q0 := bAdd_s (h := h) (x := "events[") (y := dg a) (by simp only [Str.length_append, ln_0, ln_1, ln_2, ln_3, ln_4, ln_5, ln_6, ln_7]; omega)
  have q1 := bAdd_s (h := h) (x := ("events[" ++ dg a)) (y := ":") (by simp only [Str.length_append, ln_0, ln_1, ln_2, ln_3, ln_4, ln_5, ln_6, ln_7]; omega)
  have q2 := bAdd_s (h := h) (x := (("events[" ++ dg a) ++ ":")) (y := dg b) (by simp only [Str.length_append, ln_0, ln_1, ln_2, ln_3, ln_4, ln_5, ln_6, ln_7]; omega)
  have q3 := bAdd_s (h := h) (x := ((("events[" ++ dg a) ++ ":") ++ dg b)) (y := "]") (by simp only [Str.length_append, ln_0, ln_1, ln_2, ln_3, ln_4, ln_5, ln_6, ln_7]; omega)
  show f__law_leaf_text [.tup [.str "true", .int (a : Int), .int (b : Int)]] h = .ok (.str ("events[" ++ dg a ++ ":" ++ dg b ++ "]")) [] h
  apply Wp.eq
  simp only [↓wf__law_leaf_text, ↓wp_runF, startF, List.map_cons, List.map_nil, List.length_cons, List.length_nil, Nat.zero_add, Nat.reduceSub, List.replicate_succ, List.replicate_zero, List.cons_append, List.nil_append, bx_cons, ↓w__law_leaf_text, ↓wp_Seq, ↓wp_IfS, ↓wp_Op, ↓wp_Late, List.getElem?_cons_zero, sl_some, ↓wp_C, bIdx_tup, at_0, op_some, ce_true_true, cd_t, ↓wp_Ret, ↓wp_Fz, ↓wp_Un, at_1, List.getElem?_cons_succ, da, q0, fz_str, q1, at_2, db, q2, q3, flk_rt, rtk_rt, and_self]
theorem ltext_all (hm : m ∈ mW) (hf : f ∈ fW) (ha : a ≤ 9) (hb : b ≤ 9) : f__law_leaf_text [(Lf.all m f a b).ldD] h = .ok (.str (Lf.all m f a b).txt) [] h := by
  have h0 := (mW_ok m hm).2
  have h1 := (fW_ok f hf).2
  have h2 := (dg_ok ha).2.1
  have h3 := (dg_ok hb).2.1
  have da := bStr_d (h := h) ha
  have db := bStr_d (h := h) hb
  have p0 := bAdd_s (h := h) (x := f) (y := "[") (by simp only [Str.length_append, ln_0, ln_1, ln_2, ln_3, ln_4, ln_5, ln_6, ln_7]; omega)
  have p1 := bAdd_s (h := h) (x := (f ++ "[")) (y := dg a) (by simp only [Str.length_append, ln_0, ln_1, ln_2, ln_3, ln_4, ln_5, ln_6, ln_7]; omega)
  have p2 := bAdd_s (h := h) (x := ((f ++ "[") ++ dg a)) (y := ":") (by simp only [Str.length_append, ln_0, ln_1, ln_2, ln_3, ln_4, ln_5, ln_6, ln_7]; omega)
  have p3 := bAdd_s (h := h) (x := (((f ++ "[") ++ dg a) ++ ":")) (y := dg b) (by simp only [Str.length_append, ln_0, ln_1, ln_2, ln_3, ln_4, ln_5, ln_6, ln_7]; omega)
  have p4 := bAdd_s (h := h) (x := ((((f ++ "[") ++ dg a) ++ ":") ++ dg b)) (y := "]") (by simp only [Str.length_append, ln_0, ln_1, ln_2, ln_3, ln_4, ln_5, ln_6, ln_7]; omega)
  have hP := part_len hf ha hb
  show f__law_leaf_text [.tup [.str "all", .str m, .str f, .int (a : Int), .int (b : Int)]] h = .ok (.str (m ++ "(sum(" ++ (f ++ "[" ++ dg a ++ ":" ++ dg b ++ "]") ++ "))")) [] h
  generalize (f ++ "[" ++ dg a ++ ":" ++ dg b ++ "]") = P at *
  have q0 := bAdd_s (h := h) (x := m) (y := "(sum(") (by simp only [Str.length_append, ln_0, ln_1, ln_2, ln_3, ln_4, ln_5, ln_6, ln_7]; omega)
  have q1 := bAdd_s (h := h) (x := (m ++ "(sum(")) (y := P) (by simp only [Str.length_append, ln_0, ln_1, ln_2, ln_3, ln_4, ln_5, ln_6, ln_7]; omega)
  have q2 := bAdd_s (h := h) (x := ((m ++ "(sum(") ++ P)) (y := "))") (by simp only [Str.length_append, ln_0, ln_1, ln_2, ln_3, ln_4, ln_5, ln_6, ln_7]; omega)
  apply Wp.eq
  simp only [↓wf__law_leaf_text, ↓wp_runF, startF, List.map_cons, List.map_nil, List.length_cons, List.length_nil, Nat.zero_add, Nat.reduceSub, List.replicate_succ, List.replicate_zero, List.cons_append, List.nil_append, bx_cons, ↓w__law_leaf_text, ↓wp_Seq, ↓wp_IfS, ↓wp_Op, ↓wp_Late, List.getElem?_cons_zero, sl_some, ↓wp_C, bIdx_tup, at_0, op_some, ce_all_true, cd_f, ↓wp_ret, flk_nx, ↓w__law_leaf_text_k1, ↓wp_Put, ↓wp_Fz, at_2, List.getElem?_cons_succ, p0, ↓wp_Un, at_3, da, fz_str, p1, p2, at_4, db, p3, p4, List.set_cons_succ, List.set_cons_zero, ↓w__law_leaf_text_k2, ce_all_each, ↓wp_Ret, at_1, q0, ↓wp_Var, own_str, q1, q2, rtk_rt, and_self]
theorem ltext_each (hm : m ∈ mW) (hf : f ∈ fW) (ha : a ≤ 9) (hb : b ≤ 9) : f__law_leaf_text [(Lf.each m f a b).ldD] h = .ok (.str (Lf.each m f a b).txt) [] h := by
  have h0 := (mW_ok m hm).2
  have h1 := (fW_ok f hf).2
  have h2 := (dg_ok ha).2.1
  have h3 := (dg_ok hb).2.1
  have da := bStr_d (h := h) ha
  have db := bStr_d (h := h) hb
  have p0 := bAdd_s (h := h) (x := f) (y := "[") (by simp only [Str.length_append, ln_0, ln_1, ln_2, ln_3, ln_4, ln_5, ln_6, ln_7]; omega)
  have p1 := bAdd_s (h := h) (x := (f ++ "[")) (y := dg a) (by simp only [Str.length_append, ln_0, ln_1, ln_2, ln_3, ln_4, ln_5, ln_6, ln_7]; omega)
  have p2 := bAdd_s (h := h) (x := ((f ++ "[") ++ dg a)) (y := ":") (by simp only [Str.length_append, ln_0, ln_1, ln_2, ln_3, ln_4, ln_5, ln_6, ln_7]; omega)
  have p3 := bAdd_s (h := h) (x := (((f ++ "[") ++ dg a) ++ ":")) (y := dg b) (by simp only [Str.length_append, ln_0, ln_1, ln_2, ln_3, ln_4, ln_5, ln_6, ln_7]; omega)
  have p4 := bAdd_s (h := h) (x := ((((f ++ "[") ++ dg a) ++ ":") ++ dg b)) (y := "]") (by simp only [Str.length_append, ln_0, ln_1, ln_2, ln_3, ln_4, ln_5, ln_6, ln_7]; omega)
  have hP := part_len hf ha hb
  show f__law_leaf_text [.tup [.str "each", .str m, .str f, .int (a : Int), .int (b : Int)]] h = .ok (.str ("sum(" ++ m ++ "(" ++ (f ++ "[" ++ dg a ++ ":" ++ dg b ++ "]") ++ "))")) [] h
  generalize (f ++ "[" ++ dg a ++ ":" ++ dg b ++ "]") = P at *
  have q0 := bAdd_s (h := h) (x := "sum(") (y := m) (by simp only [Str.length_append, ln_0, ln_1, ln_2, ln_3, ln_4, ln_5, ln_6, ln_7]; omega)
  have q1 := bAdd_s (h := h) (x := ("sum(" ++ m)) (y := "(") (by simp only [Str.length_append, ln_0, ln_1, ln_2, ln_3, ln_4, ln_5, ln_6, ln_7]; omega)
  have q2 := bAdd_s (h := h) (x := (("sum(" ++ m) ++ "(")) (y := P) (by simp only [Str.length_append, ln_0, ln_1, ln_2, ln_3, ln_4, ln_5, ln_6, ln_7]; omega)
  have q3 := bAdd_s (h := h) (x := ((("sum(" ++ m) ++ "(") ++ P)) (y := "))") (by simp only [Str.length_append, ln_0, ln_1, ln_2, ln_3, ln_4, ln_5, ln_6, ln_7]; omega)
  apply Wp.eq
  simp only [↓wf__law_leaf_text, ↓wp_runF, startF, List.map_cons, List.map_nil, List.length_cons, List.length_nil, Nat.zero_add, Nat.reduceSub, List.replicate_succ, List.replicate_zero, List.cons_append, List.nil_append, bx_cons, ↓w__law_leaf_text, ↓wp_Seq, ↓wp_IfS, ↓wp_Op, ↓wp_Late, List.getElem?_cons_zero, sl_some, ↓wp_C, bIdx_tup, at_0, op_some, ce_each_true, cd_f, ↓wp_ret, flk_nx, ↓w__law_leaf_text_k1, ↓wp_Put, ↓wp_Fz, at_2, List.getElem?_cons_succ, p0, ↓wp_Un, at_3, da, fz_str, p1, p2, at_4, db, p3, p4, List.set_cons_succ, List.set_cons_zero, ↓w__law_leaf_text_k2, ce_each_each, cd_t, ↓wp_Ret, at_1, q0, q1, ↓wp_Var, own_str, q2, q3, flk_rt, rtk_rt, and_self]
theorem wl_ev (ha : a ≤ 9) (hb : b ≤ 9) : f_write_leaf [(Lf.ev a b).ndD] h = .ok (.str (Lf.ev a b).txt) [] h := by
  have h2 := (dg_ok ha).2.1
  have h3 := (dg_ok hb).2.1
  have da := bFmt_d ha
  have db := bFmt_d hb
  have q0 : ("events[" : Str).length ≤ 100000 := (by first | omega | (simp only [Str.length_append, ln_0, ln_1, ln_2, ln_3, ln_4, ln_5, ln_6, ln_7] <;> omega))
  have q1 : (("events[" ++ dg a) : Str).length ≤ 100000 := (by first | omega | (simp only [Str.length_append, ln_0, ln_1, ln_2, ln_3, ln_4, ln_5, ln_6, ln_7] <;> omega))
  have q2 : ((("events[" ++ dg a) ++ ":") : Str).length ≤ 100000 := (by first | omega | (simp only [Str.length_append, ln_0, ln_1, ln_2, ln_3, ln_4, ln_5, ln_6, ln_7] <;> omega))
  have q3 : (((("events[" ++ dg a) ++ ":") ++ dg b) : Str).length ≤ 100000 := (by first | omega | (simp only [Str.length_append, ln_0, ln_1, ln_2, ln_3, ln_4, ln_5, ln_6, ln_7] <;> omega))
  have q4 : ((((("events[" ++ dg a) ++ ":") ++ dg b) ++ "]") : Str).length ≤ 100000 := (by first | omega | (simp only [Str.length_append, ln_0, ln_1, ln_2, ln_3, ln_4, ln_5, ln_6, ln_7] <;> omega))
  have c0 : cEq h (.str "events") (.str "events") = some true := by kernel_rfl
  show f_write_leaf [.tup [.str "events", .int (a : Int), .int (b : Int)]] h = .ok (.str ("events[" ++ dg a ++ ":" ++ dg b ++ "]")) [] h
  apply Wp.eq
  simp only [↓wf_write_leaf, ↓wp_runF, startF, List.map_cons, List.map_nil, List.length_cons, List.length_nil, Nat.zero_add, Nat.reduceSub, List.replicate_succ, List.replicate_zero, List.cons_append, List.nil_append, bx_cons, ↓w_write_leaf, ↓wp_Seq, ↓wp_IfS, ↓wp_Op, ↓wp_Late, List.getElem?_cons_zero, sl_some, ↓wp_C, bIdx_tup, at_0, op_some, c0, cd_t, ↓wp_Ret, ↓wp_Join, ↓wp_js1, Str.empty_append, big_eq, ↓wp_Fmt, at_1, List.getElem?_cons_succ, da, at_2, db, ↓wp_js0, flk_rt, rtk_rt, and_self, and_true, jnk_str, q0, q1, q2, q3, q4]
theorem wl_all (hm : m ∈ mW) (hf : f ∈ fW) (ha : a ≤ 9) (hb : b ≤ 9) : f_write_leaf [(Lf.all m f a b).ndD] h = .ok (.str (Lf.all m f a b).txt) [] h := by
  have h0 := (mW_ok m hm).2
  have h1 := (fW_ok f hf).2
  have h2 := (dg_ok ha).2.1
  have h3 := (dg_ok hb).2.1
  have da := bFmt_d ha
  have db := bFmt_d hb
  have dm := bFmt_s (x := m) (by omega)
  have df := bFmt_s (x := f) (by omega)
  have p0 : (f : Str).length ≤ 100000 := (by first | omega | (simp only [Str.length_append, ln_0, ln_1, ln_2, ln_3, ln_4, ln_5, ln_6, ln_7] <;> omega))
  have p1 : ((f ++ "[") : Str).length ≤ 100000 := (by first | omega | (simp only [Str.length_append, ln_0, ln_1, ln_2, ln_3, ln_4, ln_5, ln_6, ln_7] <;> omega))
  have p2 : (((f ++ "[") ++ dg a) : Str).length ≤ 100000 := (by first | omega | (simp only [Str.length_append, ln_0, ln_1, ln_2, ln_3, ln_4, ln_5, ln_6, ln_7] <;> omega))
  have p3 : ((((f ++ "[") ++ dg a) ++ ":") : Str).length ≤ 100000 := (by first | omega | (simp only [Str.length_append, ln_0, ln_1, ln_2, ln_3, ln_4, ln_5, ln_6, ln_7] <;> omega))
  have p4 : (((((f ++ "[") ++ dg a) ++ ":") ++ dg b) : Str).length ≤ 100000 := (by first | omega | (simp only [Str.length_append, ln_0, ln_1, ln_2, ln_3, ln_4, ln_5, ln_6, ln_7] <;> omega))
  have p5 : ((((((f ++ "[") ++ dg a) ++ ":") ++ dg b) ++ "]") : Str).length ≤ 100000 := (by first | omega | (simp only [Str.length_append, ln_0, ln_1, ln_2, ln_3, ln_4, ln_5, ln_6, ln_7] <;> omega))
  have hP := part_len hf ha hb
  have c0 : cEq h (.str "leaf") (.str "events") = some false := by kernel_rfl
  have dP := bFmt_s (x := f ++ "[" ++ dg a ++ ":" ++ dg b ++ "]") (by omega)
  show f_write_leaf [.tup [.str "leaf", .str "all", .str m, .str f, .int (a : Int), .int (b : Int)]] h = .ok (.str (m ++ "(sum(" ++ (f ++ "[" ++ dg a ++ ":" ++ dg b ++ "]") ++ "))")) [] h
  generalize hE : (f ++ "[" ++ dg a ++ ":" ++ dg b ++ "]") = P at *
  have q0 : (m : Str).length ≤ 100000 := (by first | omega | (simp only [Str.length_append, ln_0, ln_1, ln_2, ln_3, ln_4, ln_5, ln_6, ln_7] <;> omega))
  have q1 : ((m ++ "(sum(") : Str).length ≤ 100000 := (by first | omega | (simp only [Str.length_append, ln_0, ln_1, ln_2, ln_3, ln_4, ln_5, ln_6, ln_7] <;> omega))
  have q2 : (((m ++ "(sum(") ++ P) : Str).length ≤ 100000 := (by first | omega | (simp only [Str.length_append, ln_0, ln_1, ln_2, ln_3, ln_4, ln_5, ln_6, ln_7] <;> omega))
  have q3 : ((((m ++ "(sum(") ++ P) ++ "))") : Str).length ≤ 100000 := (by first | omega | (simp only [Str.length_append, ln_0, ln_1, ln_2, ln_3, ln_4, ln_5, ln_6, ln_7] <;> omega))
  apply Wp.eq
  simp only [↓wf_write_leaf, ↓wp_runF, startF, List.map_cons, List.map_nil, List.length_cons, List.length_nil, Nat.zero_add, Nat.reduceSub, List.replicate_succ, List.replicate_zero, List.cons_append, List.nil_append, bx_cons, ↓w_write_leaf, ↓wp_Seq, ↓wp_IfS, ↓wp_Op, ↓wp_Late, List.getElem?_cons_zero, sl_some, ↓wp_C, bIdx_tup, at_0, op_some, c0, cd_f, ↓wp_ret, flk_nx, ↓w_write_leaf_k1, ↓wp_Put, ↓wp_Join, ↓wp_js1, ↓wp_Fmt, at_3, List.getElem?_cons_succ, df, Str.empty_append, big_eq, at_4, da, at_5, db, ↓wp_js0, List.set_cons_succ, List.set_cons_zero, ↓w_write_leaf_k2, at_1, ce_all_each, ↓wp_Ret, at_2, dm, ↓wp_Var, own_str, jnk_str, q0, q1, true_and, p0, p1, p2, p3, p4, hE, p5, dP, rtk_rt, and_self, and_true, q2, q3]
theorem wl_each (hm : m ∈ mW) (hf : f ∈ fW) (ha : a ≤ 9) (hb : b ≤ 9) : f_write_leaf [(Lf.each m f a b).ndD] h = .ok (.str (Lf.each m f a b).txt) [] h := by
  have h0 := (mW_ok m hm).2
  have h1 := (fW_ok f hf).2
  have h2 := (dg_ok ha).2.1
  have h3 := (dg_ok hb).2.1
  have da := bFmt_d ha
  have db := bFmt_d hb
  have dm := bFmt_s (x := m) (by omega)
  have df := bFmt_s (x := f) (by omega)
  have p0 : (f : Str).length ≤ 100000 := (by first | omega | (simp only [Str.length_append, ln_0, ln_1, ln_2, ln_3, ln_4, ln_5, ln_6, ln_7] <;> omega))
  have p1 : ((f ++ "[") : Str).length ≤ 100000 := (by first | omega | (simp only [Str.length_append, ln_0, ln_1, ln_2, ln_3, ln_4, ln_5, ln_6, ln_7] <;> omega))
  have p2 : (((f ++ "[") ++ dg a) : Str).length ≤ 100000 := (by first | omega | (simp only [Str.length_append, ln_0, ln_1, ln_2, ln_3, ln_4, ln_5, ln_6, ln_7] <;> omega))
  have p3 : ((((f ++ "[") ++ dg a) ++ ":") : Str).length ≤ 100000 := (by first | omega | (simp only [Str.length_append, ln_0, ln_1, ln_2, ln_3, ln_4, ln_5, ln_6, ln_7] <;> omega))
  have p4 : (((((f ++ "[") ++ dg a) ++ ":") ++ dg b) : Str).length ≤ 100000 := (by first | omega | (simp only [Str.length_append, ln_0, ln_1, ln_2, ln_3, ln_4, ln_5, ln_6, ln_7] <;> omega))
  have p5 : ((((((f ++ "[") ++ dg a) ++ ":") ++ dg b) ++ "]") : Str).length ≤ 100000 := (by first | omega | (simp only [Str.length_append, ln_0, ln_1, ln_2, ln_3, ln_4, ln_5, ln_6, ln_7] <;> omega))
  have hP := part_len hf ha hb
  have c0 : cEq h (.str "leaf") (.str "events") = some false := by kernel_rfl
  have dP := bFmt_s (x := f ++ "[" ++ dg a ++ ":" ++ dg b ++ "]") (by omega)
  show f_write_leaf [.tup [.str "leaf", .str "each", .str m, .str f, .int (a : Int), .int (b : Int)]] h = .ok (.str ("sum(" ++ m ++ "(" ++ (f ++ "[" ++ dg a ++ ":" ++ dg b ++ "]") ++ "))")) [] h
  generalize hE : (f ++ "[" ++ dg a ++ ":" ++ dg b ++ "]") = P at *
  have q0 : ("sum(" : Str).length ≤ 100000 := (by first | omega | (simp only [Str.length_append, ln_0, ln_1, ln_2, ln_3, ln_4, ln_5, ln_6, ln_7] <;> omega))
  have q1 : (("sum(" ++ m) : Str).length ≤ 100000 := (by first | omega | (simp only [Str.length_append, ln_0, ln_1, ln_2, ln_3, ln_4, ln_5, ln_6, ln_7] <;> omega))
  have q2 : ((("sum(" ++ m) ++ "(") : Str).length ≤ 100000 := (by first | omega | (simp only [Str.length_append, ln_0, ln_1, ln_2, ln_3, ln_4, ln_5, ln_6, ln_7] <;> omega))
  have q3 : (((("sum(" ++ m) ++ "(") ++ P) : Str).length ≤ 100000 := (by first | omega | (simp only [Str.length_append, ln_0, ln_1, ln_2, ln_3, ln_4, ln_5, ln_6, ln_7] <;> omega))
  have q4 : ((((("sum(" ++ m) ++ "(") ++ P) ++ "))") : Str).length ≤ 100000 := (by first | omega | (simp only [Str.length_append, ln_0, ln_1, ln_2, ln_3, ln_4, ln_5, ln_6, ln_7] <;> omega))
  apply Wp.eq
  simp only [↓wf_write_leaf, ↓wp_runF, startF, List.map_cons, List.map_nil, List.length_cons, List.length_nil, Nat.zero_add, Nat.reduceSub, List.replicate_succ, List.replicate_zero, List.cons_append, List.nil_append, bx_cons, ↓w_write_leaf, ↓wp_Seq, ↓wp_IfS, ↓wp_Op, ↓wp_Late, List.getElem?_cons_zero, sl_some, ↓wp_C, bIdx_tup, at_0, op_some, c0, cd_f, ↓wp_ret, flk_nx, ↓w_write_leaf_k1, ↓wp_Put, ↓wp_Join, ↓wp_js1, ↓wp_Fmt, at_3, List.getElem?_cons_succ, df, Str.empty_append, big_eq, at_4, da, at_5, db, ↓wp_js0, List.set_cons_succ, List.set_cons_zero, ↓w_write_leaf_k2, at_1, ce_each_each, cd_t, ↓wp_Ret, at_2, dm, ↓wp_Var, own_str, jnk_str, q0, q1, q2, true_and, p0, p1, p2, p3, p4, hE, p5, dP, flk_rt, rtk_rt, and_self, and_true, q3, q4]
theorem leaf_text {l : Lf} (hn : n ≤ 4) (ok : l.Ok n) : f__law_leaf_text [l.ldD] h = .ok (.str l.txt) [] h := by
  cases l with
  | ev a b => exact ltext_ev (by have := ok.1; have := ok.2; omega) (by have := ok.2; omega)
  | all m f a b =>
    obtain ⟨hm, hf⟩ := okAll_in ok.1
    exact ltext_all hm hf (by have := ok.2.1; have := ok.2.2; omega) (by have := ok.2.2; omega)
  | each m f a b =>
    obtain ⟨hm, hf⟩ := okEach_in ok.1
    exact ltext_each hm hf (by have := ok.2.1; have := ok.2.2; omega) (by have := ok.2.2; omega)
theorem write_leaf {l : Lf} (hn : n ≤ 4) (ok : l.Ok n) : f_write_leaf [l.ndD] h = .ok (.str l.txt) [] h := by
  cases l with
  | ev a b => exact wl_ev (by have := ok.1; have := ok.2; omega) (by have := ok.2; omega)
  | all m f a b =>
    obtain ⟨hm, hf⟩ := okAll_in ok.1
    exact wl_all hm hf (by have := ok.2.1; have := ok.2.2; omega) (by have := ok.2.2; omega)
  | each m f a b =>
    obtain ⟨hm, hf⟩ := okEach_in ok.1
    exact wl_each hm hf (by have := ok.2.1; have := ok.2.2; omega) (by have := ok.2.2; omega)
theorem nd_head (l : Lf) : bIdx h l.ndD (.int 0) = some (.str "events") ∨ bIdx h l.ndD (.int 0) = some (.str "leaf") := by
  cases l with
  | ev a b => exact .inl rfl
  | all m f a b => exact .inr rfl
  | each m f a b => exact .inr rfl
theorem write_lf {l : Lf} (hn : n ≤ 4) (ok : l.Ok n) {j : Nat} : fr_write (j + 1) [l.ndD] h = .ok (.str l.txt) [] h := by
  have e := write_leaf (h := h) hn ok
  have e0 := nd_head (h := h) l
  have c1 : (["events", "leaf"] : List Str).contains "events" = true := by decide +kernel
  have c2 : (["events", "leaf"] : List Str).contains "leaf" = true := by decide +kernel
  have o1 := Lf.nd_own l
  have o2 := Lf.nd_fz l
  generalize l.ndD = z at *
  apply Wp.eq
  rcases e0 with e0 | e0
  · simp only [↓wfs_write, ↓wp_runF, startF, List.map_cons, List.map_nil, List.length_cons, List.length_nil, Nat.zero_add, Nat.reduceSub, List.replicate_succ, List.replicate_zero, List.cons_append, List.nil_append, bx_cons, ↓w_write, ↓wp_Seq, ↓wp_Match, ↓wp_Late, List.getElem?_cons_zero, sl_some, ↓wp_C, e0, op_some, ↓wp_cases1, jnk_str, c1, cd_t, ↓wp_Ret, ↓wp_Call, ↓wp_Args1, ↓wp_Var, List.set_cons_zero, o1, cd_f, ↓wp_Args0, gPos_eq, List.append_nil, e, ↓wp_ok, flk_rt, rtk_rt, and_self]
  · simp only [↓wfs_write, ↓wp_runF, startF, List.map_cons, List.map_nil, List.length_cons, List.length_nil, Nat.zero_add, Nat.reduceSub, List.replicate_succ, List.replicate_zero, List.cons_append, List.nil_append, bx_cons, ↓w_write, ↓wp_Seq, ↓wp_Match, ↓wp_Late, List.getElem?_cons_zero, sl_some, ↓wp_C, e0, op_some, ↓wp_cases1, jnk_str, c2, cd_t, ↓wp_Ret, ↓wp_Call, ↓wp_Args1, ↓wp_Var, List.set_cons_zero, o1, cd_f, ↓wp_Args0, gPos_eq, List.append_nil, e, ↓wp_ok, flk_rt, rtk_rt, and_self]
end
end L

/-! k18: leaves drawn -/
namespace L
open PySem PySem.Spec L2 Pk
section
variable {h : Hh} {n a b s : Nat} {C : Int}
def LfPost (n s : Nat) (C : Int) (f : Fl) (h' : Hh) : Prop := ∃ l : Lf, l.Ok n ∧ f = .rt l.ldD ∧ Src h' s C
theorem lf_k2 (S : Src h s C) (hC : C ≤ 90000) (hab : a < b) (hb : b ≤ n) (x4 x5 : Option D) : Wp (m__law_leaf_k2 [some (.ref s), some (.int (n : Int)), some (.int (a : Int)), some (.int (b : Int)), x4, x5] h) (fun f fr h' => LfPost n s (C + 3) f h') NoE := by
  obtain ⟨r, h1, e1, S1, r0, r1⟩ := draw_spec (m := 8) S (by omega) (by decide) (by decide)
  by_cases z : r = 0
  · subst z
    have fin : LfPost n s (C + 3) (.rt (.tup [.str "true", .int (a : Int), .int (b : Int)])) h1 := ⟨.ev a b, ⟨hab, hb⟩, rfl, S1.up (by omega)⟩
    generalize LfPost n s (C + 3) = G at *
    simp only [↓w__law_leaf_k2, ↓wp_Seq, ↓wp_Put, ↓wp_Call, ↓wp_Args1, ↓wp_Var, List.getElem?_cons_zero, List.set_cons_zero, List.length_cons, sl_some, own_ref, cd_f, ↓wp_C, ↓wp_Args0, List.length_nil, Nat.zero_add, Nat.reduceAdd, gPos_eq, List.append_nil, e1, List.set_cons_succ, ↓wp_ok, bx_cons, flk_nx, ↓w__law_leaf_k3, ↓wp_IfS, ↓wp_Op, List.getElem?_cons_succ, own_int, cEq_ii, decide_true, op_some, cd_t, ↓wp_Ret, ↓wp_Tup, big_eq, Nat.reduceLeDiff, flk_rt, fin, and_self]
  · have dz : decide (r = 0) = false := decide_eq_false z
    by_cases z4 : r < 4
    · have d4 : decide (r < 4) = true := decide_eq_true z4
      obtain ⟨i, d, h2, hi, ed, e2, S2⟩ := of_spec (l := [.str "rises", .str "rises", .str "first", .str "last", .str "change"]) S1 (by omega) (by decide) (by decide)
      obtain ⟨i', d', h3, hi', ed', e3, S3⟩ := of_spec (l := [.str "zero", .str "held"]) S2 (by omega) (by decide) (by decide)
      have hm : ∃ m f : Str, d = .str m ∧ d' = .str f ∧ okAll m f := by
        have hm := List.mem_of_getElem? ed
        have hf := List.mem_of_getElem? ed'
        simp only [List.mem_cons, List.not_mem_nil, or_false] at hm hf
        rcases hm with rfl | rfl | rfl | rfl | rfl <;> rcases hf with rfl | rfl <;> exact ⟨_, _, rfl, rfl, by unfold okAll; simp⟩
      obtain ⟨m, f, rfl, rfl, ok⟩ := hm
      have fin : LfPost n s (C + 3) (.rt (.tup [.str "all", .str m, .str f, .int (a : Int), .int (b : Int)])) h3 := ⟨.all m f a b, ⟨ok, hab, hb⟩, rfl, S3.up (by omega)⟩
      generalize LfPost n s (C + 3) = G at *
      simp only [↓w__law_leaf_k2, ↓wp_Seq, ↓wp_Put, ↓wp_Call, ↓wp_Args1, ↓wp_Var, List.getElem?_cons_zero, List.set_cons_zero, List.length_cons, sl_some, own_ref, cd_f, ↓wp_C, ↓wp_Args0, List.length_nil, Nat.zero_add, Nat.reduceAdd, gPos_eq, List.append_nil, e1, List.set_cons_succ, ↓wp_ok, bx_cons, flk_nx, ↓w__law_leaf_k3, ↓wp_IfS, ↓wp_Op, List.getElem?_cons_succ, own_int, cEq_ii, dz, op_some, ↓wp_ret, ↓w__law_leaf_k4, cInt_int, d4, cd_t, ↓wp_Fz, ↓wp_Lst, big_eq, Nat.reduceLeDiff, fz_nl, e2, ↓wp_Ret, ↓wp_Tup, own_str, e3, fz_str, flk_rt, fin, and_self]
    · have d4 : decide (r < 4) = false := decide_eq_false z4
      obtain ⟨i, d, h2, hi, ed, e2, S2⟩ := of_spec (l := [.str "rises", .str "rises", .str "told", .str "first", .str "last", .str "top", .str "low", .str "change"]) S1 (by omega) (by decide) (by decide)
      obtain ⟨i', d', h3, hi', ed', e3, S3⟩ := of_spec (l := [.str "raw", .str "zero", .str "held"]) S2 (by omega) (by decide) (by decide)
      have hm : (d = .str "told") ∨ ∃ m f : Str, d = .str m ∧ d' = .str f ∧ cEq h2 (.str m) (.str "told") = some false ∧ okEach m f := by
        have hm := List.mem_of_getElem? ed
        have hf := List.mem_of_getElem? ed'
        simp only [List.mem_cons, List.not_mem_nil, or_false] at hm hf
        rcases hm with rfl | rfl | rfl | rfl | rfl | rfl | rfl | rfl
        · right; rcases hf with rfl | rfl | rfl <;> exact ⟨_, _, rfl, rfl, by kernel_rfl, by unfold okEach; simp⟩
        · right; rcases hf with rfl | rfl | rfl <;> exact ⟨_, _, rfl, rfl, by kernel_rfl, by unfold okEach; simp⟩
        · exact .inl rfl
        · right; rcases hf with rfl | rfl | rfl <;> exact ⟨_, _, rfl, rfl, by kernel_rfl, by unfold okEach; simp⟩
        · right; rcases hf with rfl | rfl | rfl <;> exact ⟨_, _, rfl, rfl, by kernel_rfl, by unfold okEach; simp⟩
        · right; rcases hf with rfl | rfl | rfl <;> exact ⟨_, _, rfl, rfl, by kernel_rfl, by unfold okEach; simp⟩
        · right; rcases hf with rfl | rfl | rfl <;> exact ⟨_, _, rfl, rfl, by kernel_rfl, by unfold okEach; simp⟩
        · right; rcases hf with rfl | rfl | rfl <;> exact ⟨_, _, rfl, rfl, by kernel_rfl, by unfold okEach; simp⟩
      rcases hm with rfl | ⟨m, f, rfl, rfl, ct, ok⟩
      · have fin : LfPost n s (C + 3) (.rt (.tup [.str "each", .str "told", .str "raw", .int (a : Int), .int (b : Int)])) h2 := ⟨.each "told" "raw" a b, ⟨.inl ⟨rfl, rfl⟩, hab, hb⟩, rfl, S2.up (by omega)⟩
        have ct : cEq h2 (.str "told") (.str "told") = some true := by kernel_rfl
        generalize LfPost n s (C + 3) = G at *
        simp only [↓w__law_leaf_k2, ↓wp_Seq, ↓wp_Put, ↓wp_Call, ↓wp_Args1, ↓wp_Var, List.getElem?_cons_zero, List.set_cons_zero, List.length_cons, sl_some, own_ref, cd_f, ↓wp_C, ↓wp_Args0, List.length_nil, Nat.zero_add, Nat.reduceAdd, gPos_eq, List.append_nil, e1, List.set_cons_succ, ↓wp_ok, bx_cons, flk_nx, ↓w__law_leaf_k3, ↓wp_IfS, ↓wp_Op, List.getElem?_cons_succ, own_int, cEq_ii, dz, op_some, ↓wp_ret, ↓w__law_leaf_k4, cInt_int, d4, ↓w__law_leaf_k5, ↓wp_Fz, ↓wp_Lst, big_eq, Nat.reduceLeDiff, fz_nl, e2, ↓wp_Ret, ↓wp_Tup, own_str, ↓wp_If, ct, cd_t, fz_str, fin, and_self]
      · have fin : LfPost n s (C + 3) (.rt (.tup [.str "each", .str m, .str f, .int (a : Int), .int (b : Int)])) h3 := ⟨.each m f a b, ⟨ok, hab, hb⟩, rfl, S3.up (by omega)⟩
        generalize LfPost n s (C + 3) = G at *
        simp only [↓w__law_leaf_k2, ↓wp_Seq, ↓wp_Put, ↓wp_Call, ↓wp_Args1, ↓wp_Var, List.getElem?_cons_zero, List.set_cons_zero, List.length_cons, sl_some, own_ref, cd_f, ↓wp_C, ↓wp_Args0, List.length_nil, Nat.zero_add, Nat.reduceAdd, gPos_eq, List.append_nil, e1, List.set_cons_succ, ↓wp_ok, bx_cons, flk_nx, ↓w__law_leaf_k3, ↓wp_IfS, ↓wp_Op, List.getElem?_cons_succ, own_int, cEq_ii, dz, op_some, ↓wp_ret, ↓w__law_leaf_k4, cInt_int, d4, ↓w__law_leaf_k5, ↓wp_Fz, ↓wp_Lst, big_eq, Nat.reduceLeDiff, fz_nl, e2, ↓wp_Ret, ↓wp_Tup, own_str, ↓wp_If, ct, e3, fz_str, fin, and_self]
theorem lf_k1 (S : Src h s C) (hC : C ≤ 80000) (ha : a < n) (hn : n ≤ 4) (x3 x4 x5 : Option D) : Wp (m__law_leaf_k1 [some (.ref s), some (.int (n : Int)), some (.int (a : Int)), x3, x4, x5] h) (fun f fr h' => LfPost n s (C + 5) f h') NoE := by
  obtain ⟨r, h1, e1, S1, r0, r1⟩ := draw_spec (m := 2) S (by omega) (by decide) (by decide)
  obtain ⟨q, h2, e2, S2, q0, q1⟩ := draw_spec (m := (n : Int) - (a : Int)) S1 (by omega) (by omega) (by omega)
  by_cases z : r = 1
  · subst z
    obtain ⟨b, hb⟩ : ∃ b : Nat, (a : Int) + 1 + q = (b : Int) := ⟨((a : Int) + 1 + q).toNat, by omega⟩
    have tl := lf_k2 (n := n) (a := a) (b := b) S2 (by omega) (by omega) (by omega) x4 x5
    simp only [↓w__law_leaf_k1, ↓wp_Seq, ↓wp_Put, ↓wp_If, ↓wp_Op, ↓wp_Fz, ↓wp_Call, ↓wp_Args1, ↓wp_Var, List.getElem?_cons_zero, List.set_cons_zero, List.length_cons, sl_some, own_ref, cd_f, ↓wp_C, ↓wp_Args0, List.length_nil, Nat.zero_add, Nat.reduceAdd, gPos_eq, List.append_nil, e1, ↓wp_ok, fz_int, cEq_ii, decide_true, op_some, cd_t, List.getElem?_cons_succ, List.set_cons_succ, own_int, bAdd_int, op_int, c_yes, e2, hb, bx_cons, flk_nx, true_and]
    generalize m__law_leaf_k2 = B at tl ⊢
    refine tl.mono ?_
    rintro f fr h' ⟨l, o, ef, S'⟩
    exact ⟨l, o, ef, S'.up (by omega)⟩
  · have dz : decide (r = 1) = false := decide_eq_false z
    have tl := lf_k2 (n := n) (a := a) (b := n) S1 (by omega) ha (Nat.le_refl _) x4 x5
    simp only [↓w__law_leaf_k1, ↓wp_Seq, ↓wp_Put, ↓wp_If, ↓wp_Op, ↓wp_Fz, ↓wp_Call, ↓wp_Args1, ↓wp_Var, List.getElem?_cons_zero, List.set_cons_zero, List.length_cons, sl_some, own_ref, cd_f, ↓wp_C, ↓wp_Args0, List.length_nil, Nat.zero_add, Nat.reduceAdd, gPos_eq, List.append_nil, e1, ↓wp_ok, fz_int, cEq_ii, dz, op_some, List.getElem?_cons_succ, List.set_cons_succ, own_int, bx_cons, flk_nx, true_and]
    generalize m__law_leaf_k2 = B at tl ⊢
    refine tl.mono ?_
    rintro f fr h' ⟨l, o, ef, S'⟩
    exact ⟨l, o, ef, S'.up (by omega)⟩
theorem leaf_drawn (S : Src h s C) (hC : C ≤ 70000) (h2 : 2 ≤ n) (hn : n ≤ 4) : ∃ (l : Lf) (h' : Hh), l.Ok n ∧ f__law_leaf [.ref s, .int (n : Int)] h = .ok l.ldD [] h' ∧ Src h' s (C + 7) := by
  have w : Wp (f__law_leaf [.ref s, .int (n : Int)] h) (fun d fr h' => fr = [] ∧ ∃ l : Lf, l.Ok n ∧ d = l.ldD ∧ Src h' s (C + 7)) NoE := by
    obtain ⟨r, h1, e1, S1, r0, r1⟩ := draw_spec (m := 2) S (by omega) (by decide) (by decide)
    obtain ⟨q, h2, e2, S2, q0, q1⟩ := draw_spec (m := (n : Int)) S1 (by omega) (by omega) (by omega)
    by_cases z : r = 1
    · subst z
      obtain ⟨a, ha⟩ : ∃ a : Nat, q = (a : Int) := ⟨q.toNat, by omega⟩
      subst ha
      have tl := lf_k1 (n := n) (a := a) S2 (by omega) (by omega) hn none none none
      simp only [↓wf__law_leaf, ↓wp_runF, startF, List.map_cons, List.map_nil, List.length_cons, List.length_nil, Nat.zero_add, Nat.reduceAdd, Nat.reduceSub, List.replicate_succ, List.replicate_zero, List.cons_append, List.nil_append, bx_cons, ↓w__law_leaf, ↓wp_Seq, ↓wp_Put, ↓wp_If, ↓wp_Op, ↓wp_Fz, ↓wp_Call, ↓wp_Args1, ↓wp_Var, List.getElem?_cons_zero, List.set_cons_zero, sl_some, own_ref, cd_f, ↓wp_C, ↓wp_Args0, gPos_eq, List.append_nil, e1, ↓wp_ok, fz_int, cEq_ii, decide_true, op_some, cd_t, List.getElem?_cons_succ, List.set_cons_succ, own_int, e2, flk_nx, true_and]
      generalize m__law_leaf_k1 = B at tl ⊢
      refine tl.mono ?_
      rintro f fr h' ⟨l, o, rfl, S'⟩
      simp only [rtk_rt, true_and]
      exact ⟨l, o, rfl, S'.up (by omega)⟩
    · have dz : decide (r = 1) = false := decide_eq_false z
      have tl := lf_k1 (n := n) (a := 0) S1 (by omega) (by omega) hn none none none
      simp only [Int.natCast_zero] at tl
      simp only [↓wf__law_leaf, ↓wp_runF, startF, List.map_cons, List.map_nil, List.length_cons, List.length_nil, Nat.zero_add, Nat.reduceAdd, Nat.reduceSub, List.replicate_succ, List.replicate_zero, List.cons_append, List.nil_append, bx_cons, ↓w__law_leaf, ↓wp_Seq, ↓wp_Put, ↓wp_If, ↓wp_Op, ↓wp_Fz, ↓wp_Call, ↓wp_Args1, ↓wp_Var, List.getElem?_cons_zero, List.set_cons_zero, sl_some, own_ref, cd_f, ↓wp_C, ↓wp_Args0, gPos_eq, List.append_nil, e1, ↓wp_ok, fz_int, cEq_ii, dz, op_some, List.set_cons_succ, flk_nx, true_and]
      generalize m__law_leaf_k1 = B at tl ⊢
      refine tl.mono ?_
      rintro f fr h' ⟨l, o, rfl, S'⟩
      simp only [rtk_rt, true_and]
      exact ⟨l, o, rfl, S'.up (by omega)⟩
  obtain ⟨d, fr, h', e, rfl, l, o, rfl, S'⟩ := w.ex
  exact ⟨l, h', o, e, S'⟩
end
end L

/-! trees of terms: drawn -/
namespace L
open PySem PySem.Spec L2 Pk
inductive Tr where
  | lf (l : Lf)
  | tm (k : Int) (t : Tr)
  | ab (t : Tr)
  | bi (o : Nat) (a b : Tr)
  deriving DecidableEq
def opL : Nat → Str
  | 0 => "+"
  | 1 => "-"
  | 2 => "max"
  | _ => "min"
def opN : Nat → Str
  | 0 => "plus"
  | 1 => "minus"
  | 2 => "max"
  | _ => "min"
def Tr.ld : Tr → D
  | .lf l => l.ldD
  | .tm k t => .tup [.str "*", .int k, t.ld]
  | .ab t => .tup [.str "abs", t.ld]
  | .bi o a b => .tup [.str (opL o), a.ld, b.ld]
def Tr.nd : Tr → D
  | .lf l => l.ndD
  | .tm k t => .tup [.str "times", .int k, t.nd]
  | .ab t => .tup [.str "abs", t.nd]
  | .bi o a b => .tup [.str (opN o), a.nd, b.nd]
def Tr.dep : Tr → Nat
  | .lf _ => 0
  | .tm _ t => t.dep + 1
  | .ab t => t.dep + 1
  | .bi _ a b => max a.dep b.dep + 1
def Tr.Ok (n : Nat) : Tr → Prop
  | .lf l => l.Ok n
  | .tm k t => (-10 ≤ k ∧ k ≤ 10) ∧ t.Ok n
  | .ab t => t.Ok n
  | .bi o a b => o < 4 ∧ a.Ok n ∧ b.Ok n
theorem Tr.ld_own (t : Tr) : t.ld.own = false := by cases t <;> rfl
theorem Tr.ld_fz (t : Tr) : t.ld.fz = t.ld := fz_of t.ld_own
theorem Tr.nd_own (t : Tr) : t.nd.own = false := by cases t <;> rfl
theorem Tr.nd_fz (t : Tr) : t.nd.fz = t.nd := fz_of t.nd_own
def cost : Nat → Int
  | 0 => 10
  | d + 1 => 2 + 2 * cost d
theorem cost_pos : ∀ d, 10 ≤ cost d
  | 0 => Int.le_refl _
  | d + 1 => by
    have := cost_pos d
    rw [cost]
    omega
section
variable {n s : Nat}
def Draws (n s d : Nat) (R : Fn) : Prop := ∀ (C : Int) (h : Hh), Src h s C → C + cost d ≤ 60000 → ∃ (t : Tr) (h' : Hh), t.Ok n ∧ t.dep ≤ d ∧ R [.ref s, .int (n : Int), .int (d : Int)] h = .ok t.ld [] h' ∧ Src h' s (C + cost d)
theorem tree0 (h2 : 2 ≤ n) (h4 : n ≤ 4) (R : Fn) : Draws n s 0 (runF 5 (m__law_tree R)) := fun C h S hC => by
  have c0 : cost 0 = 10 := rfl
  obtain ⟨l, h', ok, e, S'⟩ := leaf_drawn S (by omega) h2 h4
  refine ⟨.lf l, h', ok, Nat.le_refl _, ?_, S'.up (by omega)⟩
  have lo := Lf.ld_own l
  apply Wp.eq
  simp only [↓wp_runF, startF, Int.cast_ofNat_Int, List.map_cons, List.map_nil, List.length_cons, List.length_nil, Nat.zero_add, Nat.reduceAdd, Nat.reduceSub, List.replicate_succ, List.replicate_zero, List.cons_append, List.nil_append, Tr.ld, bx_cons, ↓w__law_tree, ↓wp_Seq, ↓wp_Put, ↓wp_If, ↓wp_Op, ↓wp_Var, List.getElem?_cons_succ, List.getElem?_cons_zero, List.set_cons_succ, List.set_cons_zero, sl_some, own_int, cd_f, ↓wp_C, cInt_int, Int.reduceLT, decide_false, op_some, flk_nx, ↓w__law_tree_k1, ↓wp_IfS, decide_true, cd_t, ↓wp_Ret, ↓wp_Call, ↓wp_Args1, own_ref, ↓wp_Args0, gPos_eq, List.append_nil, e, ↓wp_ok, flk_rt, rtk_rt, and_self]
theorem treeS (h2 : 2 ≤ n) (h4 : n ≤ 4) {d : Nat} {R : Fn} (hR : Draws n s d R) : Draws n s (d + 1) (runF 5 (m__law_tree R)) := fun C h S hC => by
  have cd : cost (d + 1) = 2 + 2 * cost d := rfl
  have cp := cost_pos d
  obtain ⟨r, h1, e1, S1, r0, r1⟩ := draw_spec (m := 9) S (by omega) (by decide) (by decide)
  have ed : (((d + 1 : Nat) : Int)) - 1 = (d : Int) := by omega
  have dp : decide (((d + 1 : Nat) : Int) > 0) = true := decide_eq_true (by omega)
  have dp' : (0 : Int) < ((d + 1 : Nat) : Int) := by omega
  by_cases z3 : r < 3
  · obtain ⟨l, h', ok, e, S'⟩ := leaf_drawn S1 (by omega) h2 h4
    refine ⟨.lf l, h', ok, Nat.zero_le _, ?_, S'.up (by omega)⟩
    have lo := Lf.ld_own l
    apply Wp.eq
    simp only [↓wp_runF, startF, List.map_cons, List.map_nil, List.length_cons, List.length_nil, Nat.zero_add, Nat.reduceAdd, Nat.reduceSub, List.replicate_succ, List.replicate_zero, List.cons_append, List.nil_append, Tr.ld, bx_cons, ↓w__law_tree, ↓wp_Seq, ↓wp_Put, ↓wp_If, ↓wp_Op, ↓wp_Var, List.getElem?_cons_succ, List.getElem?_cons_zero, List.set_cons_succ, List.set_cons_zero, sl_some, own_int, cd_f, ↓wp_C, cInt_int, dp', decide_true, op_some, cd_t, ↓wp_Call, ↓wp_Args1, own_ref, ↓wp_Args0, gPos_eq, List.append_nil, e1, ↓wp_ok, flk_nx, ↓w__law_tree_k1, ↓wp_IfS, z3, ↓wp_Ret, e, flk_rt, rtk_rt, and_self]
  · by_cases z4 : r = 3
    · subst z4
      obtain ⟨i, x, h3, hi, ex, e3, S3⟩ := of_spec (l := [.int (-1), .int (-1), .int 2, .int 3, .int (-3), .int 0, .int 1, .int (-7), .int 10]) S1 (by omega) (by decide) (by decide)
      obtain ⟨k, rfl, k0, k1⟩ : ∃ k : Int, x = .int k ∧ -10 ≤ k ∧ k ≤ 10 := by
        have hm := List.mem_of_getElem? ex
        simp only [List.mem_cons, List.not_mem_nil, or_false] at hm
        rcases hm with rfl | rfl | rfl | rfl | rfl | rfl | rfl | rfl | rfl <;> exact ⟨_, rfl, by decide, by decide⟩
      obtain ⟨t, h5, ok, dt, e5, S5⟩ := hR _ _ S3 (by omega)
      refine ⟨.tm k t, h5, ⟨⟨k0, k1⟩, ok⟩, Nat.succ_le_succ dt, ?_, S5.up (by omega)⟩
      have lo := t.ld_own
      have lf := t.ld_fz
      generalize hd : D.int ((d + 1 : Nat) : Int) = dd
      subst hd
      apply Wp.eq
      simp only [↓wp_runF, startF, List.map_cons, List.map_nil, List.length_cons, List.length_nil, Nat.zero_add, Nat.reduceAdd, Nat.reduceSub, List.replicate_succ, List.replicate_zero, List.cons_append, List.nil_append, Tr.ld, bx_cons, ↓w__law_tree, ↓wp_Seq, ↓wp_Put, ↓wp_If, ↓wp_Op, ↓wp_Var, List.getElem?_cons_succ, List.getElem?_cons_zero, List.set_cons_succ, List.set_cons_zero, sl_some, own_int, cd_f, ↓wp_C, cInt_int, dp', decide_true, op_some, cd_t, ↓wp_Call, ↓wp_Args1, own_ref, ↓wp_Args0, gPos_eq, List.append_nil, e1, ↓wp_ok, flk_nx, ↓w__law_tree_k1, ↓wp_IfS, Int.reduceLT, decide_false, ↓wp_ret, ↓w__law_tree_k2, cEq_ii, ↓wp_Ret, ↓wp_Tup, ↓wp_Fz, ↓wp_Lst, ↓wp_Un, bNeg_int, Int.reduceNeg, big_eq, Nat.reduceLeDiff, fz_nl, e3, op_int, c_yes, ed, e5, fz_int, lf, flk_rt, rtk_rt, and_self]
    · by_cases z5 : r = 4
      · subst z5
        obtain ⟨t, h5, ok, dt, e5, S5⟩ := hR _ _ S1 (by omega)
        refine ⟨.ab t, h5, ok, Nat.succ_le_succ dt, ?_, S5.up (by omega)⟩
        have lo := t.ld_own
        have lf := t.ld_fz
        apply Wp.eq
        simp only [↓wp_runF, startF, List.map_cons, List.map_nil, List.length_cons, List.length_nil, Nat.zero_add, Nat.reduceAdd, Nat.reduceSub, List.replicate_succ, List.replicate_zero, List.cons_append, List.nil_append, Tr.ld, bx_cons, ↓w__law_tree, ↓wp_Seq, ↓wp_Put, ↓wp_If, ↓wp_Op, ↓wp_Var, List.getElem?_cons_succ, List.getElem?_cons_zero, List.set_cons_succ, List.set_cons_zero, sl_some, own_int, cd_f, ↓wp_C, cInt_int, dp', decide_true, op_some, cd_t, ↓wp_Call, ↓wp_Args1, own_ref, ↓wp_Args0, gPos_eq, List.append_nil, e1, ↓wp_ok, flk_nx, ↓w__law_tree_k1, ↓wp_IfS, Int.reduceLT, decide_false, ↓wp_ret, ↓w__law_tree_k2, cEq_ii, Int.reduceEq, ↓w__law_tree_k3, ↓wp_Ret, ↓wp_Tup, ↓wp_Fz, op_int, c_yes, ed, e5, big_eq, Nat.reduceLeDiff, lf, flk_rt, rtk_rt, and_self]
      · obtain ⟨t, h5, ok, dt, e5, S5⟩ := hR _ _ S1 (by omega)
        obtain ⟨u, h6, oku, du, e6, S6⟩ := hR _ _ S5 (by omega)
        have lo := t.ld_own
        have lf := t.ld_fz
        have lo2 := u.ld_own
        have lf2 := u.ld_fz
        have hr : r = 5 ∨ r = 6 ∨ r = 7 ∨ r = 8 := by omega
        rcases hr with rfl | rfl | rfl | rfl
        · refine ⟨.bi 0 t u, h6, ⟨by decide, ok, oku⟩, Nat.succ_le_succ (Nat.max_le.mpr ⟨dt, du⟩), ?_, S6.up (by omega)⟩
          apply Wp.eq
          simp only [↓wp_runF, startF, List.map_cons, List.map_nil, List.length_cons, List.length_nil, Nat.zero_add, Nat.reduceAdd, Nat.reduceSub, List.replicate_succ, List.replicate_zero, List.cons_append, List.nil_append, Tr.ld, opL, bx_cons, ↓w__law_tree, ↓wp_Seq, ↓wp_Put, ↓wp_If, ↓wp_Op, ↓wp_Var, List.getElem?_cons_succ, List.getElem?_cons_zero, List.set_cons_succ, List.set_cons_zero, sl_some, own_int, cd_f, ↓wp_C, cInt_int, dp', decide_true, op_some, cd_t, ↓wp_Call, ↓wp_Args1, own_ref, ↓wp_Args0, gPos_eq, List.append_nil, e1, ↓wp_ok, flk_nx, ↓w__law_tree_k1, ↓wp_IfS, Int.reduceLT, decide_false, ↓wp_ret, ↓w__law_tree_k2, cEq_ii, Int.reduceEq, ↓w__law_tree_k3, ↓w__law_tree_k4, op_int, c_yes, ed, e5, ↓wp_Ret, ↓wp_Tup, ↓wp_Fz, ↓wp_Lst, big_eq, Nat.reduceLeDiff, fz_nl, Int.reduceSub, bIdx_f, at_0, lo, e6, lf2, rtk_rt, and_self]
        · refine ⟨.bi 1 t u, h6, ⟨by decide, ok, oku⟩, Nat.succ_le_succ (Nat.max_le.mpr ⟨dt, du⟩), ?_, S6.up (by omega)⟩
          apply Wp.eq
          simp only [↓wp_runF, startF, List.map_cons, List.map_nil, List.length_cons, List.length_nil, Nat.zero_add, Nat.reduceAdd, Nat.reduceSub, List.replicate_succ, List.replicate_zero, List.cons_append, List.nil_append, Tr.ld, opL, bx_cons, ↓w__law_tree, ↓wp_Seq, ↓wp_Put, ↓wp_If, ↓wp_Op, ↓wp_Var, List.getElem?_cons_succ, List.getElem?_cons_zero, List.set_cons_succ, List.set_cons_zero, sl_some, own_int, cd_f, ↓wp_C, cInt_int, dp', decide_true, op_some, cd_t, ↓wp_Call, ↓wp_Args1, own_ref, ↓wp_Args0, gPos_eq, List.append_nil, e1, ↓wp_ok, flk_nx, ↓w__law_tree_k1, ↓wp_IfS, Int.reduceLT, decide_false, ↓wp_ret, ↓w__law_tree_k2, cEq_ii, Int.reduceEq, ↓w__law_tree_k3, ↓w__law_tree_k4, op_int, c_yes, ed, e5, ↓wp_Ret, ↓wp_Tup, ↓wp_Fz, ↓wp_Lst, big_eq, Nat.reduceLeDiff, fz_nl, Int.reduceSub, bIdx_f, at_1, lo, e6, lf2, rtk_rt, and_self]
        · refine ⟨.bi 2 t u, h6, ⟨by decide, ok, oku⟩, Nat.succ_le_succ (Nat.max_le.mpr ⟨dt, du⟩), ?_, S6.up (by omega)⟩
          apply Wp.eq
          simp only [↓wp_runF, startF, List.map_cons, List.map_nil, List.length_cons, List.length_nil, Nat.zero_add, Nat.reduceAdd, Nat.reduceSub, List.replicate_succ, List.replicate_zero, List.cons_append, List.nil_append, Tr.ld, opL, bx_cons, ↓w__law_tree, ↓wp_Seq, ↓wp_Put, ↓wp_If, ↓wp_Op, ↓wp_Var, List.getElem?_cons_succ, List.getElem?_cons_zero, List.set_cons_succ, List.set_cons_zero, sl_some, own_int, cd_f, ↓wp_C, cInt_int, dp', decide_true, op_some, cd_t, ↓wp_Call, ↓wp_Args1, own_ref, ↓wp_Args0, gPos_eq, List.append_nil, e1, ↓wp_ok, flk_nx, ↓w__law_tree_k1, ↓wp_IfS, Int.reduceLT, decide_false, ↓wp_ret, ↓w__law_tree_k2, cEq_ii, Int.reduceEq, ↓w__law_tree_k3, ↓w__law_tree_k4, op_int, c_yes, ed, e5, ↓wp_Ret, ↓wp_Tup, ↓wp_Fz, ↓wp_Lst, big_eq, Nat.reduceLeDiff, fz_nl, Int.reduceSub, bIdx_f, at_2, lo, e6, lf2, rtk_rt, and_self]
        · refine ⟨.bi 3 t u, h6, ⟨by decide, ok, oku⟩, Nat.succ_le_succ (Nat.max_le.mpr ⟨dt, du⟩), ?_, S6.up (by omega)⟩
          apply Wp.eq
          simp only [↓wp_runF, startF, List.map_cons, List.map_nil, List.length_cons, List.length_nil, Nat.zero_add, Nat.reduceAdd, Nat.reduceSub, List.replicate_succ, List.replicate_zero, List.cons_append, List.nil_append, Tr.ld, opL, bx_cons, ↓w__law_tree, ↓wp_Seq, ↓wp_Put, ↓wp_If, ↓wp_Op, ↓wp_Var, List.getElem?_cons_succ, List.getElem?_cons_zero, List.set_cons_succ, List.set_cons_zero, sl_some, own_int, cd_f, ↓wp_C, cInt_int, dp', decide_true, op_some, cd_t, ↓wp_Call, ↓wp_Args1, own_ref, ↓wp_Args0, gPos_eq, List.append_nil, e1, ↓wp_ok, flk_nx, ↓w__law_tree_k1, ↓wp_IfS, Int.reduceLT, decide_false, ↓wp_ret, ↓w__law_tree_k2, cEq_ii, Int.reduceEq, ↓w__law_tree_k3, ↓w__law_tree_k4, op_int, c_yes, ed, e5, ↓wp_Ret, ↓wp_Tup, ↓wp_Fz, ↓wp_Lst, big_eq, Nat.reduceLeDiff, fz_nl, Int.reduceSub, bIdx_f, at_3, lo, e6, lf2, rtk_rt, and_self]
theorem tree_drawn (h2 : 2 ≤ n) (h4 : n ≤ 4) : ∀ (d j : Nat), d < j → Draws n s d (fr__law_tree j)
  | 0, j + 1, _ => tree0 h2 h4 (fr__law_tree j)
  | d + 1, j + 1, hj => treeS h2 h4 (tree_drawn h2 h4 d j (by omega))
end
end L

/-! trees of terms: the program's terms -/
namespace L
open PySem PySem.Spec L2 Pk
section
variable {h : Hh} {n : Nat} {x y : D}
theorem isi_term {q : List D} : bIsi isiTab h (.obj 0 q) (.cls 0) = some (.bl true) := by kernel_rfl
theorem join_spec {w : Str} (xo : x.own = false) (yo : y.own = false) : f_Term__with_other [tm n x, .str w, tm n y] h = .ok (ntm n (.tup [.str w, x, y])) [] h := by
  have xf := fz_of xo
  have yf := fz_of yo
  have e : f_Term____init__ [.int (n : Int), .tup [.str w, x, y]] h = .ok (ntm n (.tup [.str w, x, y])) [] h := tm_init rfl
  have i : ∀ q, bIsi isiTab h (.obj 0 q) (.cls 0) = some (.bl true) := fun q => isi_term
  unfold tm ntm at *
  apply Wp.eq
  simp only [↓wf_Term__with_other, ↓wp_runF, startF, List.map_cons, List.map_nil, List.length_cons, List.length_nil, Nat.zero_add, Nat.reduceAdd, Nat.reduceSub, List.replicate_zero, List.append_nil, bx_cons, ↓w_Term__with_other, ↓wp_Seq, ↓wp_IfS, ↓wp_Not, ↓wp_Un, ↓wp_Op, ↓wp_Var, List.getElem?_cons_succ, List.getElem?_cons_zero, List.set_cons_succ, List.set_cons_zero, sl_some, own_obj, cd_f, ↓wp_C, i, op_some, tru_bl, Bool.not_true, ↓wp_ret, flk_nx, ↓w_Term__with_other_k1, ↓wp_Bor, fld_obj, v_ix_readings_0, cNe_eq, cEq_ii, decide_true, Option.map_some, ↓wp_Ret, ↓wp_Call, ↓wp_Args1, ↓wp_Tup, own_str, v_ix_node_0, ↓wp_Args0, big_eq, Nat.reduceLeDiff, gPos_eq, e, ↓wp_ok, rtk_rt, and_self]
theorem add_spec (xo : x.own = false) (yo : y.own = false) : f_Term____add__ [tm n x, tm n y] h = .ok (ntm n (.tup [.str "plus", x, y])) [] h := by
  have e := join_spec (h := h) (n := n) (w := "plus") xo yo
  unfold tm ntm at *
  apply Wp.eq
  simp only [↓wf_Term____add__, ↓wp_runF, startF, List.map_cons, List.map_nil, List.length_cons, List.length_nil, Nat.zero_add, Nat.reduceAdd, Nat.reduceSub, List.replicate_zero, List.append_nil, bx_cons, ↓w_Term____add__, ↓wp_Ret, ↓wp_Meth, ↓wp_Var, List.getElem?_cons_zero, List.set_cons_zero, sl_some, own_obj, cd_f, fnOf_obj, v_mt_with_other_0, op_some, ↓wp_Args1, ↓wp_C, List.getElem?_cons_succ, List.set_cons_succ, ↓wp_Args0, gPos_eq, e, ↓wp_ok, rtk_rt, and_self]
theorem sub_spec (xo : x.own = false) (yo : y.own = false) : f_Term____sub__ [tm n x, tm n y] h = .ok (ntm n (.tup [.str "minus", x, y])) [] h := by
  have e := join_spec (h := h) (n := n) (w := "minus") xo yo
  unfold tm ntm at *
  apply Wp.eq
  simp only [↓wf_Term____sub__, ↓wp_runF, startF, List.map_cons, List.map_nil, List.length_cons, List.length_nil, Nat.zero_add, Nat.reduceAdd, Nat.reduceSub, List.replicate_zero, List.append_nil, bx_cons, ↓w_Term____sub__, ↓wp_Ret, ↓wp_Meth, ↓wp_Var, List.getElem?_cons_zero, List.set_cons_zero, sl_some, own_obj, cd_f, fnOf_obj, v_mt_with_other_0, op_some, ↓wp_Args1, ↓wp_C, List.getElem?_cons_succ, List.set_cons_succ, ↓wp_Args0, gPos_eq, e, ↓wp_ok, rtk_rt, and_self]
theorem or_spec (xo : x.own = false) (yo : y.own = false) : f_Term____or__ [tm n x, tm n y] h = .ok (ntm n (.tup [.str "max", x, y])) [] h := by
  have e := join_spec (h := h) (n := n) (w := "max") xo yo
  unfold tm ntm at *
  apply Wp.eq
  simp only [↓wf_Term____or__, ↓wp_runF, startF, List.map_cons, List.map_nil, List.length_cons, List.length_nil, Nat.zero_add, Nat.reduceAdd, Nat.reduceSub, List.replicate_zero, List.append_nil, bx_cons, ↓w_Term____or__, ↓wp_Ret, ↓wp_Meth, ↓wp_Var, List.getElem?_cons_zero, List.set_cons_zero, sl_some, own_obj, cd_f, fnOf_obj, v_mt_with_other_0, op_some, ↓wp_Args1, ↓wp_C, List.getElem?_cons_succ, List.set_cons_succ, ↓wp_Args0, gPos_eq, e, ↓wp_ok, rtk_rt, and_self]
theorem and_spec (xo : x.own = false) (yo : y.own = false) : f_Term____and__ [tm n x, tm n y] h = .ok (ntm n (.tup [.str "min", x, y])) [] h := by
  have e := join_spec (h := h) (n := n) (w := "min") xo yo
  unfold tm ntm at *
  apply Wp.eq
  simp only [↓wf_Term____and__, ↓wp_runF, startF, List.map_cons, List.map_nil, List.length_cons, List.length_nil, Nat.zero_add, Nat.reduceAdd, Nat.reduceSub, List.replicate_zero, List.append_nil, bx_cons, ↓w_Term____and__, ↓wp_Ret, ↓wp_Meth, ↓wp_Var, List.getElem?_cons_zero, List.set_cons_zero, sl_some, own_obj, cd_f, fnOf_obj, v_mt_with_other_0, op_some, ↓wp_Args1, ↓wp_C, List.getElem?_cons_succ, List.set_cons_succ, ↓wp_Args0, gPos_eq, e, ↓wp_ok, rtk_rt, and_self]
theorem neg_spec (xo : x.own = false) : f_Term____neg__ [tm n x] h = .ok (ntm n (.tup [.str "times", .int (-1), x])) [] h := by
  have xf := fz_of xo
  have e : f_Term____init__ [.int (n : Int), .tup [.str "times", .int (-1), x]] h = .ok (ntm n (.tup [.str "times", .int (-1), x])) [] h := tm_init rfl
  unfold tm ntm at *
  apply Wp.eq
  simp only [↓wf_Term____neg__, ↓wp_runF, startF, List.map_cons, List.map_nil, List.length_cons, List.length_nil, Nat.zero_add, Nat.reduceSub, List.replicate_zero, List.append_nil, Int.reduceNeg, bx_cons, ↓w_Term____neg__, ↓wp_Ret, ↓wp_Call, ↓wp_Args1, ↓wp_Un, ↓wp_Bor, List.getElem?_cons_zero, sl_some, fld_obj, v_ix_readings_0, op_some, ↓wp_Tup, ↓wp_C, bNeg_int, v_ix_node_0, List.getElem?_cons_succ, ↓wp_Args0, Nat.reduceAdd, big_eq, Nat.reduceLeDiff, gPos_eq, e, ↓wp_ok, rtk_rt, and_self]
theorem abs_spec (xo : x.own = false) : f_Term____abs__ [tm n x] h = .ok (ntm n (.tup [.str "abs", x])) [] h := by
  have xf := fz_of xo
  have e : f_Term____init__ [.int (n : Int), .tup [.str "abs", x]] h = .ok (ntm n (.tup [.str "abs", x])) [] h := tm_init rfl
  unfold tm ntm at *
  apply Wp.eq
  simp only [↓wf_Term____abs__, ↓wp_runF, startF, List.map_cons, List.map_nil, List.length_cons, List.length_nil, Nat.zero_add, Nat.reduceSub, List.replicate_zero, List.append_nil, bx_cons, ↓w_Term____abs__, ↓wp_Ret, ↓wp_Call, ↓wp_Args1, ↓wp_Un, ↓wp_Bor, List.getElem?_cons_zero, sl_some, fld_obj, v_ix_readings_0, op_some, ↓wp_Tup, ↓wp_C, v_ix_node_0, List.getElem?_cons_succ, ↓wp_Args0, Nat.reduceAdd, big_eq, Nat.reduceLeDiff, gPos_eq, e, ↓wp_ok, rtk_rt, and_self]
theorem isi_ii {k : Int} : bIsi isiTab h (.int k) (.ty "int") = some (.bl true) := by kernel_rfl
theorem isi_ib {k : Int} : bIsi isiTab h (.int k) (.ty "bool") = some (.bl false) := by kernel_rfl
theorem isint_prog {k : Int} : f_is_integer [.int k] h = .ok (.bl true) [] h := by
  apply Wp.eq
  simp only [↓wf_is_integer, ↓wp_runF, startF, List.map_cons, List.map_nil, List.length_cons, List.length_nil, Nat.zero_add, Nat.reduceSub, List.replicate_zero, List.append_nil, bx_cons, ↓w_is_integer, ↓wp_Ret, ↓wp_AndV, ↓wp_Op, ↓wp_Var, List.getElem?_cons_zero, List.set_cons_zero, sl_some, own_int, cd_f, ↓wp_C, isi_ii, op_some, tb_bl, cd_t, ↓wp_NotV, isi_ib, Bool.not_false, rtk_rt, and_self]
theorem mul_spec {k : Int} (k0 : -1000000 ≤ k) (k1 : k ≤ 1000000) (xo : x.own = false) : f_Term____mul__ [tm n x, .int k] h = .ok (ntm n (.tup [.str "times", .int k, x])) [] h := by
  have xf := fz_of xo
  have e : f_Term____init__ [.int (n : Int), .tup [.str "times", .int k, x]] h = .ok (ntm n (.tup [.str "times", .int k, x])) [] h := tm_init rfl
  have ii := isint_prog (h := h) (k := k)
  have kk : ¬ (1000000 : Int) < (if k < 0 then -k else k) := by split <;> omega
  unfold tm ntm at *
  apply Wp.eq
  simp only [↓wf_Term____mul__, ↓wp_runF, startF, List.map_cons, List.map_nil, List.length_cons, List.length_nil, Nat.zero_add, Nat.reduceAdd, Nat.reduceSub, List.replicate_zero, List.append_nil, bx_cons, ↓w_Term____mul__, ↓wp_Seq, ↓wp_IfS, ↓wp_Or, ↓wp_Not, ↓wp_Un, ↓wp_Call, ↓wp_Args1, ↓wp_Var, List.getElem?_cons_succ, List.getElem?_cons_zero, List.set_cons_succ, List.set_cons_zero, sl_some, own_int, cd_f, ↓wp_Args0, gPos_eq, ii, ↓wp_ok, tru_bl, op_some, Bool.not_true, ↓wp_Op, bInt1_int, bAbs_int, ↓wp_C, cInt_int, kk, decide_false, ↓wp_ret, flk_nx, ↓wp_Ret, ↓wp_Bor, fld_obj, v_ix_readings_0, ↓wp_Tup, v_ix_node_0, big_eq, Nat.reduceLeDiff, e, rtk_rt, and_self]
theorem rmul_spec {k : Int} (k0 : -1000000 ≤ k) (k1 : k ≤ 1000000) (xo : x.own = false) : f_Term____rmul__ [tm n x, .int k] h = .ok (ntm n (.tup [.str "times", .int k, x])) [] h := by
  have e := mul_spec (h := h) (n := n) k0 k1 xo
  unfold tm ntm at *
  apply Wp.eq
  simp only [↓wf_Term____rmul__, ↓wp_runF, startF, List.map_cons, List.map_nil, List.length_cons, List.length_nil, Nat.zero_add, Nat.reduceAdd, Nat.reduceSub, List.replicate_zero, List.append_nil, bx_cons, ↓w_Term____rmul__, ↓wp_Ret, ↓wp_MulL, ↓wp_Var, List.getElem?_cons_zero, List.set_cons_zero, sl_some, own_obj, cd_f, List.getElem?_cons_succ, List.set_cons_succ, own_int, bty_int, fnOf_obj, v_mt___mul____Term_0, op_some, e, ↓wp_ok, rtk_rt, and_self]
end
theorem Lf.head (l : Lf) : ∃ (w : Str) (r : List D), l.ldD = .tup (.str w :: r) ∧ (w = "true" ∨ w = "all" ∨ w = "each") := by
  cases l with
  | ev a b => exact ⟨_, _, rfl, .inl rfl⟩
  | all m f a b => exact ⟨_, _, rfl, .inr (.inl rfl)⟩
  | each m f a b => exact ⟨_, _, rfl, .inr (.inr rfl)⟩
section
variable {h : Hh} {n : Nat}
theorem hd_facts {w : Str} (hw : w = "true" ∨ w = "all" ∨ w = "each") : cEq h (.str w) (.str "*") = some false ∧ cEq h (.str w) (.str "abs") = some false ∧ cIn h (.str w) (.tup [.str "+", .str "-", .str "max", .str "min"]) = some false := by
  rcases hw with rfl | rfl | rfl <;> exact ⟨by kernel_rfl, by kernel_rfl, by kernel_rfl⟩
theorem ce_mm : cEq h (.str "*") (.str "*") = some true := by kernel_rfl
theorem ce_am : cEq h (.str "abs") (.str "*") = some false := by kernel_rfl
theorem ce_aa : cEq h (.str "abs") (.str "abs") = some true := by kernel_rfl
theorem op_facts {o : Nat} (ho : o < 4) : cEq h (.str (opL o)) (.str "*") = some false ∧ cEq h (.str (opL o)) (.str "abs") = some false ∧ cIn h (.str (opL o)) (.tup [.str "+", .str "-", .str "max", .str "min"]) = some true ∧
    cEq h (.str (opL o)) (.str "+") = some (decide (o = 0)) ∧ cEq h (.str (opL o)) (.str "-") = some (decide (o = 1)) ∧ cEq h (.str (opL o)) (.str "max") = some (decide (o = 2)) ∧ cIn h (.str (opL o)) (.tup [.str "+", .str "-"]) = some (decide (o < 2)) := by
  have : o = 0 ∨ o = 1 ∨ o = 2 ∨ o = 3 := by omega
  rcases this with rfl | rfl | rfl | rfl <;> exact ⟨by kernel_rfl, by kernel_rfl, by kernel_rfl, by kernel_rfl, by kernel_rfl, by kernel_rfl, by kernel_rfl⟩
theorem term_spec (hn : n ≤ 4) : ∀ (t : Tr) (j : Nat), t.Ok n → t.dep < j → fr__law_term j [t.ld, .int (n : Int)] h = .ok (ntm n t.nd) [] h
  | .lf l, j + 1, ok, _ => by
    obtain ⟨w, r, e, hw⟩ := l.head
    obtain ⟨f1, f2, f3⟩ := hd_facts (h := h) hw
    have lt := leaf_term (h := h) hn ok
    show runF 5 (m__law_term (fr__law_term j)) [l.ldD, .int (n : Int)] h = .ok (ntm n l.ndD) [] h
    rw [e] at lt ⊢
    generalize fr__law_term j = R
    generalize ntm n l.ndD = N at *
    apply Wp.eq
    simp only [↓wp_runF, startF, List.map_cons, List.map_nil, List.length_cons, List.length_nil, Nat.zero_add, Nat.reduceAdd, Nat.reduceSub, List.replicate_succ, List.replicate_zero, List.cons_append, List.nil_append, bx_cons, ↓w__law_term, ↓wp_Seq, ↓wp_IfS, ↓wp_Op, ↓wp_Late, List.getElem?_cons_zero, sl_some, ↓wp_C, bIdx_tup, at_0, op_some, f1, cd_f, ↓wp_ret, flk_nx, ↓w__law_term_k1, f2, ↓w__law_term_k2, ↓wp_Tup, ↓wp_Args1, ↓wp_Args0, big_eq, Nat.reduceLeDiff, cNin_eq, f3, Option.map_some, Bool.not_false, cd_t, ↓wp_Ret, ↓wp_Call, ↓wp_Var, List.set_cons_zero, own_tup, List.getElem?_cons_succ, List.set_cons_succ, own_int, gPos_eq, List.append_nil, lt, ↓wp_ok, flk_rt, rtk_rt, and_self]
  | .tm k t, j + 1, ok, hj => by
    obtain ⟨⟨k0, k1⟩, okt⟩ := ok
    have ih := term_spec hn t j okt (Nat.lt_of_succ_lt_succ hj)
    have rs := rmul_spec (h := h) (n := n) (k := k) (by omega) (by omega) t.nd_own
    have ns := neg_spec (h := h) (n := n) t.nd_own
    have lo := t.ld_own
    show runF 5 (m__law_term (fr__law_term j)) [.tup [.str "*", .int k, t.ld], .int (n : Int)] h = .ok (ntm n (.tup [.str "times", .int k, t.nd])) [] h
    generalize fr__law_term j = R at *
    have lf := t.ld_fz
    generalize t.ld = T at *
    generalize t.nd = N at *
    unfold tm ntm at *
    by_cases z : k = -1
    · subst z
      apply Wp.eq
      simp only [↓wp_runF, startF, Int.reduceNeg, List.map_cons, List.map_nil, List.length_cons, List.length_nil, Nat.zero_add, Nat.reduceAdd, Nat.reduceSub, List.replicate_succ, List.replicate_zero, List.cons_append, List.nil_append, bx_cons, ↓w__law_term, ↓wp_Seq, ↓wp_IfS, ↓wp_Op, ↓wp_Late, List.getElem?_cons_zero, sl_some, ↓wp_C, bIdx_tup, at_0, op_some, ce_mm, cd_t, ↓wp_Put, ↓wp_Call, ↓wp_Args1, at_2, List.getElem?_cons_succ, ↓wp_Var, List.set_cons_succ, List.set_cons_zero, own_int, cd_f, ↓wp_Args0, gPos_eq, List.append_nil, ih, ↓wp_ok, flk_nx, ↓wp_Ret, ↓wp_If, at_1, ↓wp_Un, bNeg_int, cEq_ii, decide_true, ↓wp_One, own_no, fz_no, fnOf_obj, v_mt___neg____Term_0, ns, flk_rt, rtk_rt, and_self]
    · apply Wp.eq
      simp only [↓wp_runF, startF, List.map_cons, List.map_nil, List.length_cons, List.length_nil, Nat.zero_add, Nat.reduceAdd, Nat.reduceSub, List.replicate_succ, List.replicate_zero, List.cons_append, List.nil_append, bx_cons, ↓w__law_term, ↓wp_Seq, ↓wp_IfS, ↓wp_Op, ↓wp_Late, List.getElem?_cons_zero, sl_some, ↓wp_C, bIdx_tup, at_0, op_some, ce_mm, cd_t, ↓wp_Put, ↓wp_Call, ↓wp_Args1, at_2, List.getElem?_cons_succ, ↓wp_Var, List.set_cons_succ, List.set_cons_zero, own_int, cd_f, ↓wp_Args0, gPos_eq, List.append_nil, ih, ↓wp_ok, flk_nx, ↓wp_Ret, ↓wp_If, at_1, ↓wp_Un, bNeg_int, Int.reduceNeg, cEq_ii, z, decide_false, ↓wp_MulR, smp_int, own_no, fz_no, fnOf_obj, v_mt___rmul____Term_0, rs, flk_rt, rtk_rt, and_self]
  | .ab t, j + 1, ok, hj => by
    have ih := term_spec hn t j ok (Nat.lt_of_succ_lt_succ hj)
    have as := abs_spec (h := h) (n := n) t.nd_own
    have lo := t.ld_own
    have lf := t.ld_fz
    show runF 5 (m__law_term (fr__law_term j)) [.tup [.str "abs", t.ld], .int (n : Int)] h = .ok (ntm n (.tup [.str "abs", t.nd])) [] h
    generalize fr__law_term j = R at *
    generalize t.ld = T at *
    generalize t.nd = N at *
    unfold tm ntm at *
    apply Wp.eq
    simp only [↓wp_runF, startF, List.map_cons, List.map_nil, List.length_cons, List.length_nil, Nat.zero_add, Nat.reduceAdd, Nat.reduceSub, List.replicate_succ, List.replicate_zero, List.cons_append, List.nil_append, bx_cons, ↓w__law_term, ↓wp_Seq, ↓wp_IfS, ↓wp_Op, ↓wp_Late, List.getElem?_cons_zero, sl_some, ↓wp_C, bIdx_tup, at_0, op_some, ce_am, cd_f, ↓wp_ret, flk_nx, ↓w__law_term_k1, ce_aa, cd_t, ↓wp_Ret, ↓wp_One, ↓wp_Fz, ↓wp_Call, ↓wp_Args1, at_1, List.getElem?_cons_succ, ↓wp_Var, List.set_cons_succ, List.set_cons_zero, own_int, ↓wp_Args0, gPos_eq, List.append_nil, ih, ↓wp_ok, fz_no, fnOf_obj, v_mt___abs____Term_0, as, flk_rt, rtk_rt, and_self]
  | .bi o a b, j + 1, ok, hj => by
    obtain ⟨ho, oka, okb⟩ := ok
    have hj' : max a.dep b.dep < j := Nat.lt_of_succ_lt_succ hj
    have ia := term_spec hn a j oka (by omega)
    have ib := term_spec hn b j okb (by omega)
    have s0 := add_spec (h := h) (n := n) a.nd_own b.nd_own
    have s1 := sub_spec (h := h) (n := n) a.nd_own b.nd_own
    have s2 := or_spec (h := h) (n := n) a.nd_own b.nd_own
    have s3 := and_spec (h := h) (n := n) a.nd_own b.nd_own
    obtain ⟨f1, f2, f3, f4, f5, f6, _⟩ := op_facts (h := h) ho
    have la := a.ld_own
    have lb := b.ld_own
    have fa := a.ld_fz
    have fb := b.ld_fz
    show runF 5 (m__law_term (fr__law_term j)) [.tup [.str (opL o), a.ld, b.ld], .int (n : Int)] h = .ok (ntm n (.tup [.str (opN o), a.nd, b.nd])) [] h
    generalize fr__law_term j = R at *
    generalize a.ld = A at *
    generalize b.ld = B at *
    generalize a.nd = NA at *
    generalize b.nd = NB at *
    unfold tm ntm at *
    have ho' : o = 0 ∨ o = 1 ∨ o = 2 ∨ o = 3 := by omega
    rcases ho' with rfl | rfl | rfl | rfl
    all_goals
      simp only [opL, opN] at *
      simp at f4 f5 f6
      apply Wp.eq
      simp only [↓wp_runF, startF, List.map_cons, List.map_nil, List.length_cons, List.length_nil, Nat.zero_add, Nat.reduceAdd, Nat.reduceSub, List.replicate_succ, List.replicate_zero, List.cons_append, List.nil_append, bx_cons, ↓w__law_term, ↓wp_Seq, ↓wp_IfS, ↓wp_Op, ↓wp_Late, List.getElem?_cons_zero, sl_some, ↓wp_C, bIdx_tup, at_0, op_some, f1, cd_f, ↓wp_ret, flk_nx, ↓w__law_term_k1, f2, ↓w__law_term_k2, ↓wp_Tup, ↓wp_Args1, ↓wp_Args0, big_eq, Nat.reduceLeDiff, cNin_eq, f3, Option.map_some, Bool.not_true, ↓w__law_term_k3, ↓wp_PutE, ↓wp_Call, at_1, List.getElem?_cons_succ, ↓wp_Var, List.set_cons_succ, List.set_cons_zero, own_int, gPos_eq, List.append_nil, ia, ↓wp_ok, at_2, ib, puts_cons, puts_nil, ↓w__law_term_k4, f4, cd_t, ↓wp_Ret, ↓wp_Dun, own_no, fz_no, dun_obj, v_mt___add___0, s0, flk_rt, rtk_rt, and_self, ↓w__law_term_k5, f5, v_mt___sub___0, s1, ↓wp_If, f6, v_mt___or___0, s2, v_mt___and___0, s3]
end
end L

/-! texts of trees; a text has one tree -/
namespace L
open PySem PySem.Spec L2 Pk
def cs (s : Str) : List Nat := s.cps.toList
theorem cs_app (a b : Str) : cs (a ++ b) = cs a ++ cs b := by
  unfold cs
  rw [Str.cps_append, Array.toList_append]
def Tr.isSum : Tr → Bool
  | .bi o _ _ => decide (o < 2)
  | _ => false
def Tr.isTm : Tr → Bool
  | .tm _ _ => true
  | _ => false
def Tr.isNeg : Tr → Bool
  | .tm k _ => decide (k < 0)
  | _ => false
def par (b : Bool) (s : Str) : Str := if b = true then "(" ++ s ++ ")" else s
def nS (k : Int) : Str := toString k
def Tr.txt : Tr → Str
  | .lf l => l.txt
  | .tm k t => if k = -1 then "-" ++ par (t.isSum || t.isTm) t.txt else nS k ++ " * " ++ par (t.isSum || t.isTm) t.txt
  | .ab t => "abs(" ++ t.txt ++ ")"
  | .bi o a b => if o < 2 then a.txt ++ " " ++ opL o ++ " " ++ par (b.isSum || b.isNeg) b.txt else opL o ++ "(" ++ a.txt ++ ", " ++ b.txt ++ ")"
def Tr.TOk (n : Nat) : Tr → Prop
  | .lf l => l.Ok n
  | .tm k t => (-1000000 ≤ k ∧ k ≤ 1000000) ∧ t.TOk n
  | .ab t => t.TOk n
  | .bi o a b => o < 4 ∧ a.TOk n ∧ b.TOk n
theorem Tr.Ok.t {n : Nat} : ∀ {t : Tr}, t.Ok n → t.TOk n
  | .lf l, o => o
  | .tm k t, o => ⟨by have := o.1; omega, Tr.Ok.t o.2⟩
  | .ab t, o => Tr.Ok.t (t := t) o
  | .bi q a b, o => ⟨o.1, Tr.Ok.t o.2.1, Tr.Ok.t o.2.2⟩
/-! ### reading back -/
def strip : List Nat → List Nat → Option (List Nat)
  | [], l => some l
  | a :: p, c :: l => if a = c then strip p l else none
  | _ :: _, [] => none
theorem strip_app : ∀ p r : List Nat, strip p (p ++ r) = some r
  | [], r => rfl
  | a :: p, r => by
    show (if a = a then strip p (p ++ r) else none) = _
    rw [if_pos rfl, strip_app p r]
theorem strip_none : ∀ {p q : List Nat} (r : List Nat), strip p q = none → strip q p = none → strip p (q ++ r) = none
  | [], q, r, h, _ => by cases h
  | a :: p, [], r, _, h => by cases h
  | a :: p, c :: q, r, h1, h2 => by
    show (if a = c then strip p (q ++ r) else none) = none
    by_cases e : a = c
    · subst e
      rw [if_pos rfl]
      have h1' : (if a = a then strip p q else none) = none := h1
      have h2' : (if a = a then strip q p else none) = none := h2
      rw [if_pos rfl] at h1' h2'
      exact strip_none r h1' h2'
    · rw [if_neg e]
def Lf.sh : Lf → Lf
  | .ev _ _ => .ev 0 0
  | .all m f _ _ => .all m f 0 0
  | .each m f _ _ => .each m f 0 0
def Lf.set (a b : Nat) : Lf → Lf
  | .ev _ _ => .ev a b
  | .all m f _ _ => .all m f a b
  | .each m f _ _ => .each m f a b
def Lf.hd : Lf → Str
  | .ev _ _ => "events["
  | .all m f _ _ => m ++ "(sum(" ++ f ++ "["
  | .each m f _ _ => "sum(" ++ m ++ "(" ++ f ++ "["
def Lf.tl : Lf → Str
  | .ev _ _ => "]"
  | _ => "]))"
def Lf.lo : Lf → Nat
  | .ev a _ => a
  | .all _ _ a _ => a
  | .each _ _ a _ => a
def Lf.up : Lf → Nat
  | .ev _ b => b
  | .all _ _ _ b => b
  | .each _ _ _ b => b
def allK : List Lf := .ev 0 0 :: .each "told" "raw" 0 0 ::
  ((["first", "last", "change", "rises"] : List Str).flatMap fun m => (["zero", "held"] : List Str).map fun f => .all m f 0 0) ++
  ((["first", "last", "change", "rises", "top", "low"] : List Str).flatMap fun m => (["raw", "zero", "held"] : List Str).map fun f => .each m f 0 0)
theorem sh_in {n : Nat} {l : Lf} (o : l.Ok n) : l.sh ∈ allK := by
  cases l with
  | ev a b => exact List.mem_cons_self
  | all m f a b =>
    obtain ⟨⟨hm, hf⟩, _⟩ := o
    show Lf.all m f 0 0 ∈ allK
    rcases hm with rfl | rfl | rfl | rfl <;> rcases hf with rfl | rfl <;> simp [allK]
  | each m f a b =>
    obtain ⟨h, _⟩ := o
    show Lf.each m f 0 0 ∈ allK
    rcases h with ⟨rfl, rfl⟩ | ⟨rfl | rfl | rfl | rfl | rfl | rfl, rfl | rfl | rfl⟩ <;> simp [allK]
theorem dg_cs {a : Nat} (ha : a ≤ 9) : cs (dg a) = [48 + a] := by
  match a, ha with
  | 0, _ | 1, _ | 2, _ | 3, _ | 4, _ | 5, _ | 6, _ | 7, _ | 8, _ | 9, _ => decide +kernel
theorem lf_cs {l : Lf} (h1 : l.lo ≤ 9) (h2 : l.up ≤ 9) : cs l.txt = cs l.hd ++ (48 + l.lo) :: 58 :: (48 + l.up) :: cs l.tl := by
  have e1 : cs ":" = [58] := by decide +kernel
  have e2 : cs "]" ++ cs "))" = cs "]))" := by decide +kernel
  cases l with
  | ev a b =>
    simp only [Lf.txt, Lf.hd, Lf.tl, Lf.lo, Lf.up, cs_app] at *
    rw [dg_cs h1, dg_cs h2, e1]
    simp only [List.append_assoc, List.cons_append, List.nil_append]
  | all m f a b =>
    simp only [Lf.txt, Lf.hd, Lf.tl, Lf.lo, Lf.up, cs_app] at *
    rw [dg_cs h1, dg_cs h2, e1, ← e2]
    simp only [List.append_assoc, List.cons_append, List.nil_append]
  | each m f a b =>
    simp only [Lf.txt, Lf.hd, Lf.tl, Lf.lo, Lf.up, cs_app] at *
    rw [dg_cs h1, dg_cs h2, e1, ← e2]
    simp only [List.append_assoc, List.cons_append, List.nil_append]
theorem lf_lo {n : Nat} {l : Lf} (o : l.Ok n) (h4 : n ≤ 4) : l.lo ≤ 9 ∧ l.up ≤ 9 := by
  cases l with
  | ev a b => have h : a < b ∧ b ≤ n := o; exact ⟨by show a ≤ 9; omega, by show b ≤ 9; omega⟩
  | all m f a b => have h := o.2; exact ⟨by show a ≤ 9; omega, by show b ≤ 9; omega⟩
  | each m f a b => have h := o.2; exact ⟨by show a ≤ 9; omega, by show b ≤ 9; omega⟩
def rdK (k : Lf) (l : List Nat) : Option (Lf × List Nat) := (strip (cs k.hd) l).bind fun r => match r with
  | a :: 58 :: b :: r => (strip (cs k.tl) r).map fun r => (k.set (a - 48) (b - 48), r)
  | _ => none
def rdLf (l : List Nat) : Option (Lf × List Nat) := allK.findSome? fun k => rdK k l
def apart : List Lf → Bool
  | [] => true
  | k :: ks => ks.all (fun j => (strip (cs k.hd) (cs j.hd)).isNone && (strip (cs j.hd) (cs k.hd)).isNone) && apart ks
theorem apart_K : apart allK = true := by decide +kernel
theorem hd_sh (l : Lf) : l.sh.hd = l.hd := by cases l <;> rfl
theorem tl_sh (l : Lf) : l.sh.tl = l.tl := by cases l <;> rfl
theorem set_sh (l : Lf) : l.sh.set l.lo l.up = l := by cases l <;> rfl
theorem find_K {l : Lf} (h1 : l.lo ≤ 9) (h2 : l.up ≤ 9) (r : List Nat) : ∀ {ks : List Lf}, apart ks = true → l.sh ∈ ks → (ks.findSome? fun k => rdK k (cs l.txt ++ r)) = some (l, r)
  | [], _, hm => by cases hm
  | k :: ks, ha, hm => by
    have ha' : (ks.all (fun j => (strip (cs k.hd) (cs j.hd)).isNone && (strip (cs j.hd) (cs k.hd)).isNone) && apart ks) = true := ha
    rw [Bool.and_eq_true, List.all_eq_true] at ha'
    rw [List.findSome?_cons, lf_cs h1 h2, List.append_assoc]
    rcases List.mem_cons.mp hm with rfl | hm
    · have e : rdK l.sh (cs l.hd ++ ((48 + l.lo) :: 58 :: (48 + l.up) :: cs l.tl ++ r)) = some (l, r) := by
        unfold rdK
        rw [hd_sh, strip_app, tl_sh]
        show (strip (cs l.tl) (cs l.tl ++ r)).map (fun r => (l.sh.set (48 + l.lo - 48) (48 + l.up - 48), r)) = _
        rw [strip_app, Nat.add_sub_cancel_left, Nat.add_sub_cancel_left, set_sh]
        rfl
      rw [e]
    · have z := ha'.1 l.sh hm
      rw [Bool.and_eq_true, Option.isNone_iff_eq_none, Option.isNone_iff_eq_none, hd_sh] at z
      have e : rdK k (cs l.hd ++ ((48 + l.lo) :: 58 :: (48 + l.up) :: cs l.tl ++ r)) = none := by
        unfold rdK
        rw [strip_none _ z.1 z.2]
        rfl
      rw [e]
      have ih := find_K h1 h2 r ha'.2 hm
      rw [lf_cs h1 h2, List.append_assoc] at ih
      exact ih
theorem rdLf_ok {n : Nat} {l : Lf} (o : l.Ok n) (h4 : n ≤ 4) (r : List Nat) : rdLf (cs l.txt ++ r) = some (l, r) :=
  find_K (lf_lo o h4).1 (lf_lo o h4).2 r apart_K (sh_in o)
theorem heads : (allK.all fun k => [[97, 98, 115, 40], [109, 97, 120, 40], [109, 105, 110, 40]].all (fun p => (strip p (cs k.hd)).isNone && (strip (cs k.hd) p).isNone)) = true := by decide +kernel
def hd0 (l : List Nat) : Bool := match l with
  | c :: _ => !decide (48 ≤ c ∧ c ≤ 57) && c != 40 && c != 45
  | [] => false
theorem heads0 : (allK.all fun k => hd0 (cs k.hd)) = true := by decide +kernel
theorem hd0_app : ∀ {l : List Nat} (r : List Nat), hd0 l = true → hd0 (l ++ r) = true
  | c :: l, r, h => h
  | [], r, h => by cases h
theorem lf_head {n : Nat} {l : Lf} (o : l.Ok n) (h4 : n ≤ 4) (r : List Nat) : hd0 (cs l.txt ++ r) = true ∧ ∀ p ∈ [[97, 98, 115, 40], [109, 97, 120, 40], [109, 105, 110, 40]], strip p (cs l.txt ++ r) = none := by
  have hm := sh_in o
  rw [lf_cs (lf_lo o h4).1 (lf_lo o h4).2, List.append_assoc]
  constructor
  · have z := List.all_eq_true.mp heads0 _ hm
    rw [hd_sh] at z
    exact hd0_app _ z
  · intro p hp
    have z := List.all_eq_true.mp (List.all_eq_true.mp heads _ hm) p hp
    rw [hd_sh, Bool.and_eq_true, Option.isNone_iff_eq_none, Option.isNone_iff_eq_none] at z
    exact strip_none _ z.1 z.2
/-! ### numbers -/
def dgt (c : Nat) : Bool := decide (48 ≤ c ∧ c ≤ 57)
def isD : Option Nat → Bool
  | some c => dgt c
  | none => false
def dN (m : Nat) : List Nat := (Nat.toDigits 10 m).map Char.toNat
theorem dN_all (m : Nat) : ∀ c ∈ dN m, dgt c = true := fun c hc => by
  obtain ⟨ch, hch, e⟩ := List.mem_map.mp hc
  have r := PyProof.Rows.digit_range (Nat.isDigit_of_mem_toDigits (by decide) (by decide) hch)
  rw [← e]
  exact decide_eq_true r
theorem dN_ne (m : Nat) : ∃ c q, dN m = c :: q := by
  cases e : dN m with
  | nil =>
    have h := PySem.toDigits_len_ge 10 m
    unfold dN at e
    rw [List.map_eq_nil_iff.mp e] at h
    exact absurd h (by decide)
  | cons c q => exact ⟨c, q, rfl⟩
theorem dN_val (m : Nat) : PySem.NumText.digitsVal (dN m) = m := PySem.W.KIN.val_back m
theorem nS_pos (m : Nat) : cs (nS (m : Int)) = dN m := PySem.W.KIN.signs_num m
theorem nS_neg (m : Nat) : cs (nS (Int.negSucc m)) = 45 :: dN (m + 1) := by
  unfold cs nS
  rw [PyProof.Rows.signs_ofString]
  show (("-" ++ Nat.repr (m + 1) : String)).toList.map Char.toNat = _
  rw [String.toList_append, List.map_append, Nat.toList_repr]
  rfl
theorem take_dg : ∀ {l : List Nat} (c : Nat) (r : List Nat), (∀ c ∈ l, dgt c = true) → dgt c = false → (l ++ c :: r).takeWhile dgt = l ∧ (l ++ c :: r).dropWhile dgt = c :: r
  | [], c, r, _, h => by simp [h]
  | a :: l, c, r, hl, h => by
    have z := take_dg c r (fun x hx => hl x (List.mem_cons_of_mem _ hx)) h
    have a1 := hl a List.mem_cons_self
    rw [List.cons_append, List.takeWhile_cons, List.dropWhile_cons, a1, z.1, z.2]
    exact ⟨rfl, rfl⟩
/-! ### terms read -/
def rdA (R : List Nat → Option (Tr × List Nat)) (l : List Nat) : Option (Tr × List Nat) :=
  match strip [97, 98, 115, 40] l with
  | some r => (R r).bind fun p => (strip [41] p.2).map fun r => (.ab p.1, r)
  | none => match strip [109, 97, 120, 40] l with
    | some r => (R r).bind fun p => (strip [44, 32] p.2).bind fun r => (R r).bind fun q => (strip [41] q.2).map fun r => (.bi 2 p.1 q.1, r)
    | none => match strip [109, 105, 110, 40] l with
      | some r => (R r).bind fun p => (strip [44, 32] p.2).bind fun r => (R r).bind fun q => (strip [41] q.2).map fun r => (.bi 3 p.1 q.1, r)
      | none => (rdLf l).map fun p => (.lf p.1, p.2)
def rdI (R : List Nat → Option (Tr × List Nat)) (l : List Nat) : Option (Tr × List Nat) := (R l.tail).bind fun p => (strip [41] p.2).map fun r => (p.1, r)
def rdB (R : List Nat → Option (Tr × List Nat)) (l : List Nat) : Option (Tr × List Nat) := if l.head? = some 40 then rdI R l else rdA R l
def rdF (R : List Nat → Option (Tr × List Nat)) (g : Int) (l : List Nat) : Option (Tr × List Nat) :=
  (strip [32, 42, 32] (l.dropWhile dgt)).bind fun r => (rdB R r).map fun p => (.tm (g * (PySem.NumText.digitsVal (l.takeWhile dgt) : Nat)) p.1, p.2)
def rdP (R : List Nat → Option (Tr × List Nat)) (l : List Nat) : Option (Tr × List Nat) :=
  if l.head? = some 45 then (if isD l.tail.head? = true then rdF R (-1) l.tail else (rdB R l.tail).map fun p => (.tm (-1) p.1, p.2))
  else if isD l.head? = true then rdF R 1 l else rdA R l
def rdR (R : List Nat → Option (Tr × List Nat)) (l : List Nat) : Option (Tr × List Nat) := if l.head? = some 40 then rdI R l else rdP R l
def rdL (R : List Nat → Option (Tr × List Nat)) : Nat → Tr → List Nat → Option (Tr × List Nat)
  | 0, t, l => some (t, l)
  | m + 1, t, l => match strip [32, 43, 32] l with
    | some r => (rdR R r).bind fun p => rdL R m (.bi 0 t p.1) p.2
    | none => match strip [32, 45, 32] l with
      | some r => (rdR R r).bind fun p => rdL R m (.bi 1 t p.1) p.2
      | none => some (t, l)
def rdT : Nat → List Nat → Option (Tr × List Nat)
  | 0 => fun _ => none
  | n + 1 => fun l => (rdP (rdT n) l).bind fun p => rdL (rdT n) 64 p.1 p.2
def Stop (r : List Nat) : Prop := r = [] ∨ (∃ q, r = 41 :: q) ∨ ∃ q, r = 44 :: q
section
variable {n N : Nat} {R : List Nat → Option (Tr × List Nat)}
def Good (R : List Nat → Option (Tr × List Nat)) (n N : Nat) : Prop := ∀ t : Tr, t.TOk n → t.dep < N → ∀ r, Stop r → R (cs t.txt ++ r) = some (t, r)
theorem c_abs : cs "abs(" = [97, 98, 115, 40] := by decide +kernel
theorem c_max : cs "max" = [109, 97, 120] := by decide +kernel
theorem c_min : cs "min" = [109, 105, 110] := by decide +kernel
theorem c_op : cs "(" = [40] := by decide +kernel
theorem c_cl : cs ")" = [41] := by decide +kernel
theorem c_co : cs ", " = [44, 32] := by decide +kernel
theorem c_sp : cs " " = [32] := by decide +kernel
theorem c_pl : cs "+" = [43] := by decide +kernel
theorem c_mi : cs "-" = [45] := by decide +kernel
theorem c_st : cs " * " = [32, 42, 32] := by decide +kernel
theorem rdA_ok (h4 : n ≤ 4) (hR : Good R n N) : ∀ t : Tr, t.TOk n → t.isSum = false → t.isTm = false → t.dep < N + 1 → ∀ r, rdA R (cs t.txt ++ r) = some (t, r) := by
  intro t ok hs ht hd r
  cases t with
  | lf l =>
    obtain ⟨_, h⟩ := lf_head ok h4 r
    have e := rdLf_ok ok h4 r
    show rdA R (cs l.txt ++ r) = some (.lf l, r)
    unfold rdA
    rw [h [97, 98, 115, 40] (by simp), h [109, 97, 120, 40] (by simp), h [109, 105, 110, 40] (by simp), e]
    rfl
  | ab t =>
    have e := hR t ok (Nat.lt_of_succ_lt_succ hd) (41 :: r) (.inr (.inl ⟨_, rfl⟩))
    show rdA R (cs ("abs(" ++ t.txt ++ ")") ++ r) = some (.ab t, r)
    rw [cs_app, cs_app, c_abs, c_cl, List.append_assoc, List.append_assoc]
    unfold rdA
    rw [strip_app]
    show (R (cs t.txt ++ 41 :: r)).bind _ = _
    rw [e]
    rfl
  | tm k t => cases ht
  | bi o a b =>
    have hs' : ¬ o < 2 := of_decide_eq_false hs
    have hd' : max a.dep b.dep < N := Nat.lt_of_succ_lt_succ hd
    have ea := fun r => hR a ok.2.1 (by omega) (44 :: r) (.inr (.inr ⟨_, rfl⟩))
    have eb := hR b ok.2.2 (by omega) (41 :: r) (.inr (.inl ⟨_, rfl⟩))
    show rdA R (cs (if o < 2 then a.txt ++ " " ++ opL o ++ " " ++ par (b.isSum || b.isNeg) b.txt else opL o ++ "(" ++ a.txt ++ ", " ++ b.txt ++ ")") ++ r) = some (.bi o a b, r)
    rw [if_neg hs']
    have ho := ok.1
    have ho' : o = 2 ∨ o = 3 := by omega
    rcases ho' with rfl | rfl
    · show rdA R (cs ("max" ++ "(" ++ a.txt ++ ", " ++ b.txt ++ ")") ++ r) = _
      have e : cs ("max" ++ "(" ++ a.txt ++ ", " ++ b.txt ++ ")") ++ r = [109, 97, 120, 40] ++ (cs a.txt ++ 44 :: 32 :: (cs b.txt ++ 41 :: r)) := by
        simp only [cs_app, c_max, c_op, c_co, c_cl, List.append_assoc, List.cons_append, List.nil_append]
      rw [e]
      unfold rdA
      rw [show strip [97, 98, 115, 40] ([109, 97, 120, 40] ++ (cs a.txt ++ 44 :: 32 :: (cs b.txt ++ 41 :: r))) = none from rfl, strip_app]
      show (R (cs a.txt ++ 44 :: 32 :: (cs b.txt ++ 41 :: r))).bind _ = _
      rw [ea]
      show (R (cs b.txt ++ 41 :: r)).bind _ = _
      rw [eb]
      rfl
    · show rdA R (cs ("min" ++ "(" ++ a.txt ++ ", " ++ b.txt ++ ")") ++ r) = _
      have e : cs ("min" ++ "(" ++ a.txt ++ ", " ++ b.txt ++ ")") ++ r = [109, 105, 110, 40] ++ (cs a.txt ++ 44 :: 32 :: (cs b.txt ++ 41 :: r)) := by
        simp only [cs_app, c_min, c_op, c_co, c_cl, List.append_assoc, List.cons_append, List.nil_append]
      rw [e]
      unfold rdA
      rw [show strip [97, 98, 115, 40] ([109, 105, 110, 40] ++ (cs a.txt ++ 44 :: 32 :: (cs b.txt ++ 41 :: r))) = none from rfl, show strip [109, 97, 120, 40] ([109, 105, 110, 40] ++ (cs a.txt ++ 44 :: 32 :: (cs b.txt ++ 41 :: r))) = none from rfl, strip_app]
      show (R (cs a.txt ++ 44 :: 32 :: (cs b.txt ++ 41 :: r))).bind _ = _
      rw [ea]
      show (R (cs b.txt ++ 41 :: r)).bind _ = _
      rw [eb]
      rfl
/-- how an atom's text begins -/
theorem atom_hd (h4 : n ≤ 4) : ∀ t : Tr, t.TOk n → t.isSum = false → t.isTm = false → ∀ r, hd0 (cs t.txt ++ r) = true := by
  intro t ok hs ht r
  cases t with
  | lf l => exact (lf_head ok h4 r).1
  | ab t =>
    show hd0 (cs ("abs(" ++ t.txt ++ ")") ++ r) = true
    rw [cs_app, cs_app, c_abs]
    rfl
  | tm k t => cases ht
  | bi o a b =>
    have hs' : ¬ o < 2 := of_decide_eq_false hs
    show hd0 (cs (if o < 2 then a.txt ++ " " ++ opL o ++ " " ++ par (b.isSum || b.isNeg) b.txt else opL o ++ "(" ++ a.txt ++ ", " ++ b.txt ++ ")") ++ r) = true
    rw [if_neg hs']
    have ho := ok.1
    have ho' : o = 2 ∨ o = 3 := by omega
    rcases ho' with rfl | rfl
    · show hd0 (cs ("max" ++ "(" ++ a.txt ++ ", " ++ b.txt ++ ")") ++ r) = true
      simp only [cs_app, c_max]
      rfl
    · show hd0 (cs ("min" ++ "(" ++ a.txt ++ ", " ++ b.txt ++ ")") ++ r) = true
      simp only [cs_app, c_min]
      rfl
theorem hd0_ne : ∀ {l : List Nat}, hd0 l = true → l.head? ≠ some 40 ∧ l.head? ≠ some 45 ∧ isD l.head? = false
  | [], h => by cases h
  | c :: l, h => by
    have h' : (!decide (48 ≤ c ∧ c ≤ 57) && c != 40 && c != 45) = true := h
    simp only [Bool.and_eq_true, Bool.not_eq_true', bne_iff_ne, ne_eq] at h'
    refine ⟨fun e => h'.1.2 ?_, fun e => h'.2 ?_, h'.1.1⟩
    · simpa using e
    · simpa using e
theorem rdI_ok (hR : Good R n N) {t : Tr} (ok : t.TOk n) (hd : t.dep < N) (r : List Nat) : rdI R (cs ("(" ++ t.txt ++ ")") ++ r) = some (t, r) := by
  have e := hR t ok hd (41 :: r) (.inr (.inl ⟨_, rfl⟩))
  rw [cs_app, cs_app, c_op, c_cl, List.append_assoc, List.append_assoc]
  unfold rdI
  show (R (cs t.txt ++ 41 :: r)).bind _ = _
  rw [e]
  rfl
theorem par_hd (s : Str) (r : List Nat) : (cs ("(" ++ s ++ ")") ++ r).head? = some 40 := by
  rw [cs_app, cs_app, c_op]
  rfl
theorem rdB_ok (h4 : n ≤ 4) (hR : Good R n N) {t : Tr} (ok : t.TOk n) (hd : t.dep < N) (r : List Nat) : rdB R (cs (par (t.isSum || t.isTm) t.txt) ++ r) = some (t, r) := by
  unfold par
  by_cases z : (t.isSum || t.isTm) = true
  · rw [if_pos z]
    unfold rdB
    rw [if_pos (par_hd _ _)]
    exact rdI_ok hR ok hd r
  · rw [if_neg z]
    simp only [Bool.or_eq_true, not_or, Bool.not_eq_true] at z
    unfold rdB
    rw [if_neg (hd0_ne (atom_hd h4 t ok z.1 z.2 r)).1]
    exact rdA_ok h4 hR t ok z.1 z.2 (by omega) r
theorem inner_hd (h4 : n ≤ 4) {t : Tr} (ok : t.TOk n) (r : List Nat) : isD (cs (par (t.isSum || t.isTm) t.txt) ++ r).head? = false := by
  unfold par
  by_cases z : (t.isSum || t.isTm) = true
  · rw [if_pos z, par_hd]
    rfl
  · rw [if_neg z]
    simp only [Bool.or_eq_true, not_or, Bool.not_eq_true] at z
    exact (hd0_ne (atom_hd h4 t ok z.1 z.2 r)).2.2
theorem rdF_ok (h4 : n ≤ 4) (hR : Good R n N) {t : Tr} (ok : t.TOk n) (hd : t.dep < N) (g : Int) (m : Nat) (r : List Nat) : rdF R g (dN m ++ [32, 42, 32] ++ (cs (par (t.isSum || t.isTm) t.txt) ++ r)) = some (.tm (g * (m : Int)) t, r) := by
  have e := rdB_ok h4 hR ok hd r
  generalize cs (par (t.isSum || t.isTm) t.txt) ++ r = L at *
  have z := take_dg (l := dN m) 32 (42 :: 32 :: L) (dN_all m) (by decide)
  rw [List.append_assoc]
  show rdF R g (dN m ++ 32 :: 42 :: 32 :: L) = _
  unfold rdF
  rw [z.1, z.2, dN_val]
  show (rdB R L).map _ = _
  rw [e]
  rfl
theorem rdP_ok (h4 : n ≤ 4) (hR : Good R n N) : ∀ t : Tr, t.TOk n → t.isSum = false → t.dep < N + 1 → ∀ r, rdP R (cs t.txt ++ r) = some (t, r)
  | .tm k t, ok, _, hd, r => by
    have hd' : t.dep < N := Nat.lt_of_succ_lt_succ hd
    show rdP R (cs (if k = -1 then "-" ++ par (t.isSum || t.isTm) t.txt else nS k ++ " * " ++ par (t.isSum || t.isTm) t.txt) ++ r) = _
    by_cases z : k = -1
    · subst z
      have e := rdB_ok h4 hR ok.2 hd' r
      have hi := inner_hd h4 ok.2 r
      rw [if_pos rfl, cs_app, c_mi, List.append_assoc]
      generalize cs (par (t.isSum || t.isTm) t.txt) ++ r = L at *
      show rdP R (45 :: L) = _
      unfold rdP
      rw [if_pos (show (45 :: L).head? = some 45 from rfl)]
      show (if isD L.head? = true then _ else (rdB R L).map _) = _
      rw [hi, if_neg (by decide), e]
      rfl
    · rw [if_neg z, cs_app, cs_app, c_st, List.append_assoc]
      cases k with
      | ofNat m =>
        have e := rdF_ok h4 hR ok.2 hd' 1 m r
        rw [show cs (nS (Int.ofNat m)) = dN m from nS_pos m]
        obtain ⟨c, q, hc⟩ := dN_ne m
        have hcd : dgt c = true := dN_all m c (by rw [hc]; exact List.mem_cons_self)
        have hh : (dN m ++ [32, 42, 32] ++ (cs (par (t.isSum || t.isTm) t.txt) ++ r)).head? = some c := by rw [hc]; rfl
        unfold rdP
        rw [hh, if_neg (by
          intro e
          have : c = 45 := by simpa using e
          subst this
          exact absurd hcd (by decide)), if_pos (show isD (some c) = true from hcd), e, Int.one_mul]
        rfl
      | negSucc m =>
        have e := rdF_ok h4 hR ok.2 hd' (-1) (m + 1) r
        rw [nS_neg]
        obtain ⟨c, q, hc⟩ := dN_ne (m + 1)
        have hcd : dgt c = true := dN_all (m + 1) c (by rw [hc]; exact List.mem_cons_self)
        show rdP R (45 :: (dN (m + 1) ++ [32, 42, 32] ++ (cs (par (t.isSum || t.isTm) t.txt) ++ r))) = _
        generalize hL : dN (m + 1) ++ [32, 42, 32] ++ (cs (par (t.isSum || t.isTm) t.txt) ++ r) = L at *
        have hh : L.head? = some c := by rw [← hL, hc]; rfl
        unfold rdP
        rw [if_pos (show (45 :: L).head? = some 45 from rfl)]
        show (if isD L.head? = true then rdF R (-1) L else _) = _
        rw [hh, if_pos (show isD (some c) = true from hcd), e]
        have : (-1 : Int) * ((m + 1 : Nat) : Int) = Int.negSucc m := by omega
        rw [this]
  | .lf l, ok, hs, hd, r => by
    have z := hd0_ne (atom_hd h4 (.lf l) ok rfl rfl r)
    unfold rdP
    rw [if_neg z.2.1, z.2.2, if_neg (by decide)]
    exact rdA_ok h4 hR (.lf l) ok rfl rfl hd r
  | .ab t, ok, hs, hd, r => by
    have z := hd0_ne (atom_hd h4 (.ab t) ok rfl rfl r)
    unfold rdP
    rw [if_neg z.2.1, z.2.2, if_neg (by decide)]
    exact rdA_ok h4 hR (.ab t) ok rfl rfl hd r
  | .bi o a b, ok, hs, hd, r => by
    have z := hd0_ne (atom_hd h4 (.bi o a b) ok hs rfl r)
    unfold rdP
    rw [if_neg z.2.1, z.2.2, if_neg (by decide)]
    exact rdA_ok h4 hR (.bi o a b) ok hs rfl hd r
theorem prod_hd (h4 : n ≤ 4) : ∀ t : Tr, t.TOk n → t.isSum = false → t.isNeg = false → ∀ r, (cs t.txt ++ r).head? ≠ some 40
  | .tm k t, ok, _, hn, r => by
    have hk : ¬ k < 0 := of_decide_eq_false hn
    obtain ⟨m, rfl⟩ := Int.eq_ofNat_of_zero_le (by omega : 0 ≤ k)
    show (cs (if ((m : Nat) : Int) = -1 then "-" ++ par (t.isSum || t.isTm) t.txt else nS ((m : Nat) : Int) ++ " * " ++ par (t.isSum || t.isTm) t.txt) ++ r).head? ≠ some 40
    rw [if_neg (by omega), cs_app, cs_app, nS_pos]
    obtain ⟨c, q, hc⟩ := dN_ne m
    have hcd : dgt c = true := dN_all m c (by rw [hc]; exact List.mem_cons_self)
    rw [hc]
    intro e
    have : c = 40 := by simpa using e
    subst this
    exact absurd hcd (by decide)
  | .lf l, ok, _, _, r => (hd0_ne (atom_hd h4 (.lf l) ok rfl rfl r)).1
  | .ab t, ok, _, _, r => (hd0_ne (atom_hd h4 (.ab t) ok rfl rfl r)).1
  | .bi o a b, ok, hs, _, r => (hd0_ne (atom_hd h4 (.bi o a b) ok hs rfl r)).1
theorem rdR_ok (h4 : n ≤ 4) (hR : Good R n N) {t : Tr} (ok : t.TOk n) (hd : t.dep < N) (r : List Nat) : rdR R (cs (par (t.isSum || t.isNeg) t.txt) ++ r) = some (t, r) := by
  unfold par
  by_cases z : (t.isSum || t.isNeg) = true
  · rw [if_pos z]
    unfold rdR
    rw [if_pos (par_hd _ _)]
    exact rdI_ok hR ok hd r
  · rw [if_neg z]
    simp only [Bool.or_eq_true, not_or, Bool.not_eq_true] at z
    unfold rdR
    rw [if_neg (prod_hd h4 t ok z.1 z.2 r)]
    exact rdP_ok h4 hR t ok z.1 (by omega) r
theorem rdL_stop (m : Nat) (t : Tr) {r : List Nat} (s : Stop r) : rdL R m t r = some (t, r) := by
  cases m with
  | zero => rfl
  | succ m => rcases s with rfl | ⟨q, rfl⟩ | ⟨q, rfl⟩ <;> rfl
def Tr.spn : Tr → Nat
  | .bi o a _ => if o < 2 then a.spn + 1 else 0
  | _ => 0
theorem spn_le : ∀ t : Tr, t.spn ≤ t.dep
  | .lf _ => Nat.le_refl _
  | .tm _ _ => Nat.zero_le _
  | .ab _ => Nat.zero_le _
  | .bi o a b => by
    have := spn_le a
    show (if o < 2 then a.spn + 1 else 0) ≤ max a.dep b.dep + 1
    split <;> omega
theorem rdL_sp (h4 : n ≤ 4) (hR : Good R n N) : ∀ t : Tr, t.TOk n → t.dep < N + 1 → ∀ m, t.dep ≤ m → ∀ r, (rdP R (cs t.txt ++ r)).bind (fun p => rdL R m p.1 p.2) = rdL R (m - t.spn) t r
  | .lf l, ok, hd, m, hm, r => by rw [rdP_ok h4 hR (.lf l) ok rfl hd r]; rfl
  | .tm k t, ok, hd, m, hm, r => by rw [rdP_ok h4 hR (.tm k t) ok rfl hd r]; rfl
  | .ab t, ok, hd, m, hm, r => by rw [rdP_ok h4 hR (.ab t) ok rfl hd r]; rfl
  | .bi o a b, ok, hd, m, hm, r => by
    by_cases z : o < 2
    · have hd' : max a.dep b.dep < N := Nat.lt_of_succ_lt_succ hd
      have hm' : max a.dep b.dep + 1 ≤ m := hm
      have sa := spn_le a
      have er := rdR_ok h4 hR ok.2.2 (by omega : b.dep < N) r
      have es : (Tr.bi o a b).spn = a.spn + 1 := if_pos z
      obtain ⟨k, hk⟩ : ∃ k, m - a.spn = k + 1 := ⟨m - a.spn - 1, by omega⟩
      have hk' : m - (a.spn + 1) = k := by omega
      show (rdP R (cs (if o < 2 then a.txt ++ " " ++ opL o ++ " " ++ par (b.isSum || b.isNeg) b.txt else opL o ++ "(" ++ a.txt ++ ", " ++ b.txt ++ ")") ++ r)).bind (fun p => rdL R m p.1 p.2) = _
      rw [if_pos z, es, hk']
      have ho' : o = 0 ∨ o = 1 := by omega
      rcases ho' with rfl | rfl
      · have e : cs (a.txt ++ " " ++ opL 0 ++ " " ++ par (b.isSum || b.isNeg) b.txt) ++ r = cs a.txt ++ 32 :: 43 :: 32 :: (cs (par (b.isSum || b.isNeg) b.txt) ++ r) := by
          simp only [cs_app, c_sp, opL, c_pl, List.append_assoc, List.cons_append, List.nil_append]
        rw [e, rdL_sp h4 hR a ok.2.1 (by omega) m (by omega), hk]
        show (rdR R (cs (par (b.isSum || b.isNeg) b.txt) ++ r)).bind _ = _
        rw [er]
        rfl
      · have e : cs (a.txt ++ " " ++ opL 1 ++ " " ++ par (b.isSum || b.isNeg) b.txt) ++ r = cs a.txt ++ 32 :: 45 :: 32 :: (cs (par (b.isSum || b.isNeg) b.txt) ++ r) := by
          simp only [cs_app, c_sp, opL, c_mi, List.append_assoc, List.cons_append, List.nil_append]
        rw [e, rdL_sp h4 hR a ok.2.1 (by omega) m (by omega), hk]
        show (rdR R (cs (par (b.isSum || b.isNeg) b.txt) ++ r)).bind _ = _
        rw [er]
        rfl
    · have hs : (Tr.bi o a b).isSum = false := decide_eq_false z
      have es : (Tr.bi o a b).spn = 0 := if_neg z
      rw [rdP_ok h4 hR (.bi o a b) ok hs hd r, es]
      rfl
theorem rdT_ok (h4 : n ≤ 4) : ∀ N, N ≤ 60 → Good (rdT N) n N
  | 0, _ => fun t _ h => absurd h (Nat.not_lt_zero _)
  | N + 1, hN => fun t ok hd r s => by
    have ih := rdT_ok h4 N (by omega)
    show (rdP (rdT N) (cs t.txt ++ r)).bind (fun p => rdL (rdT N) 64 p.1 p.2) = _
    rw [rdL_sp h4 ih t ok hd 64 (by omega) r, rdL_stop _ _ s]
theorem txt_inj (h4 : n ≤ 4) {t u : Tr} (ht : t.TOk n) (hu : u.TOk n) (dt : t.dep < 60) (du : u.dep < 60) (e : t.txt = u.txt) : t = u := by
  have g := rdT_ok h4 60 (Nat.le_refl _)
  have e1 := g t ht dt [] (.inl rfl)
  have e2 := g u hu du [] (.inl rfl)
  rw [e, e2] at e1
  injection e1 with e1
  injection e1 with e1 _
  exact e1.symm
end
end L

/-! texts of trees, by the law and by the program (printed by i2gen.py) -/
namespace L
open PySem PySem.Spec L2 Pk
section
variable {h : Hh} {n : Nat}
theorem ln_a : ("abs(" : Str).length = 4 := by decide +kernel
theorem ln_b : (")" : Str).length = 1 := by decide +kernel
theorem ln_c : (", " : Str).length = 2 := by decide +kernel
theorem ln_d : ("-" : Str).length = 1 := by decide +kernel
theorem ln_e : (" * " : Str).length = 3 := by decide +kernel
theorem ln_f : (" " : Str).length = 1 := by decide +kernel
theorem ln_g : ("max" : Str).length = 3 := by decide +kernel
theorem ln_h : ("min" : Str).length = 3 := by decide +kernel
theorem ln_p : ("+" : Str).length = 1 := by decide +kernel
theorem bAdd_w {x y : Str} (hl : x.length + y.length ≤ 100000) : bAdd h (.str x) (.str y) = some (.str (x ++ y)) := by
  unfold bAdd
  dsimp only
  rw [if_pos (Nat.le_trans hl (by decide))]
theorem len_cs (s : Str) : (cs s).length = s.length := by
  unfold cs Str.length
  rw [Array.length_toList]
theorem nS_len {k : Int} (k0 : -1000000 ≤ k) (k1 : k ≤ 1000000) : (nS k).length ≤ 8 := by
  rw [← len_cs]
  cases k with
  | ofNat m =>
    rw [show cs (nS (Int.ofNat m)) = dN m from nS_pos m]
    have := PyProof.Rows.digits10_le (k := 7) (n := m) (by decide) (by
      have : (m : Int) ≤ 1000000 := k1
      omega)
    unfold dN
    rw [List.length_map]
    omega
  | negSucc m =>
    rw [nS_neg]
    have := PyProof.Rows.digits10_le (k := 7) (n := m + 1) (by decide) (by omega)
    unfold dN
    rw [List.length_cons, List.length_map]
    omega
theorem nS_log {k : Int} (k0 : -1000000 ≤ k) (k1 : k ≤ 1000000) : k.natAbs.log2 < 1920 := log2_lt (by
  have : (2 : Nat) ^ 20 ≤ 2 ^ 1920 := Nat.pow_le_pow_right (by decide) (by decide)
  omega) (by decide)
theorem lf_len {l : Lf} (o : l.Ok n) (h4 : n ≤ 4) : l.txt.length ≤ 40 := by
  obtain ⟨a1, a2⟩ := lf_lo o h4
  cases l with
  | ev a b =>
    have h2 := (dg_ok (a := a) a1).2.1
    have h3 := (dg_ok (a := b) a2).2.1
    simp only [Lf.txt, Str.length_append, ln_0, ln_1, ln_2]
    omega
  | all m f a b =>
    obtain ⟨hm, hf⟩ := okAll_in o.1
    have hP := part_len hf a1 a2
    have h0 := (mW_ok m hm).2
    have e : (Lf.all m f a b).txt.length = m.length + 5 + (f ++ "[" ++ dg a ++ ":" ++ dg b ++ "]").length + 2 := by
      show (m ++ "(sum(" ++ (f ++ "[" ++ dg a ++ ":" ++ dg b ++ "]") ++ "))").length = _
      rw [Str.length_append, Str.length_append, Str.length_append, ln_3, ln_7]
    simp only [Lf.lo, Lf.up] at hP
    omega
  | each m f a b =>
    obtain ⟨hm, hf⟩ := okEach_in o.1
    have hP := part_len hf a1 a2
    have h0 := (mW_ok m hm).2
    have e : (Lf.each m f a b).txt.length = 4 + m.length + 1 + (f ++ "[" ++ dg a ++ ":" ++ dg b ++ "]").length + 2 := by
      show ("sum(" ++ m ++ "(" ++ (f ++ "[" ++ dg a ++ ":" ++ dg b ++ "]") ++ "))").length = _
      rw [Str.length_append, Str.length_append, Str.length_append, Str.length_append, ln_4, ln_5, ln_7]
    simp only [Lf.lo, Lf.up] at hP
    omega
theorem par_len (b : Bool) (s : Str) : (par b s).length ≤ s.length + 2 := by
  unfold par
  split
  · simp only [Str.length_append, ln_5, ln_b]
    omega
  · omega
theorem tr_len (h4 : n ≤ 4) : ∀ t : Tr, t.TOk n → t.txt.length + 20 ≤ 64 * 2 ^ t.dep
  | .lf l, ok => by
    have := lf_len ok h4
    show l.txt.length + 20 ≤ 64 * 2 ^ 0
    omega
  | .tm k t, ok => by
    have ih := tr_len h4 t ok.2
    have hp := par_len (t.isSum || t.isTm) t.txt
    have hn := nS_len ok.1.1 ok.1.2
    show (if k = -1 then "-" ++ par (t.isSum || t.isTm) t.txt else nS k ++ " * " ++ par (t.isSum || t.isTm) t.txt).length + 20 ≤ 64 * 2 ^ (t.dep + 1)
    rw [Nat.pow_succ]
    split
    · simp only [Str.length_append, ln_d]
      omega
    · simp only [Str.length_append, ln_e]
      omega
  | .ab t, ok => by
    have ih := tr_len h4 t ok
    show ("abs(" ++ t.txt ++ ")").length + 20 ≤ 64 * 2 ^ (t.dep + 1)
    rw [Nat.pow_succ]
    simp only [Str.length_append, ln_a, ln_b]
    omega
  | .bi o a b, ok => by
    have ia := tr_len h4 a ok.2.1
    have ib := tr_len h4 b ok.2.2
    have hp := par_len (b.isSum || b.isNeg) b.txt
    have pa : 64 * 2 ^ a.dep ≤ 64 * 2 ^ max a.dep b.dep := Nat.mul_le_mul_left _ (Nat.pow_le_pow_right (by decide) (Nat.le_max_left _ _))
    have pb : 64 * 2 ^ b.dep ≤ 64 * 2 ^ max a.dep b.dep := Nat.mul_le_mul_left _ (Nat.pow_le_pow_right (by decide) (Nat.le_max_right _ _))
    show (if o < 2 then a.txt ++ " " ++ opL o ++ " " ++ par (b.isSum || b.isNeg) b.txt else opL o ++ "(" ++ a.txt ++ ", " ++ b.txt ++ ")").length + 20 ≤ 64 * 2 ^ (max a.dep b.dep + 1)
    rw [Nat.pow_succ]
    have ho := ok.1
    have ho' : o = 0 ∨ o = 1 ∨ o = 2 ∨ o = 3 := by omega
    rcases ho' with rfl | rfl | rfl | rfl
    · rw [if_pos (by decide)]
      simp only [opL, Str.length_append, ln_f, ln_p]
      omega
    · rw [if_pos (by decide)]
      simp only [opL, Str.length_append, ln_f, ln_d]
      omega
    · rw [if_neg (by decide)]
      simp only [opL, Str.length_append, ln_5, ln_c, ln_b, ln_g]
      omega
    · rw [if_neg (by decide)]
      simp only [opL, Str.length_append, ln_5, ln_c, ln_b, ln_h]
      omega
theorem tr_len8 (h4 : n ≤ 4) {t : Tr} (ok : t.TOk n) (hd : t.dep ≤ 8) : t.txt.length ≤ 17000 := by
  have h1 := tr_len h4 t ok
  have h2 : 64 * 2 ^ t.dep ≤ 64 * 2 ^ 8 := Nat.mul_le_mul_left _ (Nat.pow_le_pow_right (by decide) hd)
  omega
theorem strG_nS {k : Int} : strG (nS k) = true := by
  have key : ∀ s : Str, (∀ c ∈ cs s, c < 0x110000) → strG s = true := fun s hs => by
    rw [strG_iff, Array.all_eq_true_iff_forall_mem]
    intro c hc
    exact decide_eq_true (hs c (by unfold cs; exact Array.mem_toList_iff.mpr hc))
  have dlt : ∀ m c, c ∈ dN m → c < 0x110000 := fun m c hc => by
    have := of_decide_eq_true (show decide (48 ≤ c ∧ c ≤ 57) = true from dN_all m c hc)
    omega
  apply key
  cases k with
  | ofNat m =>
    rw [show cs (nS (Int.ofNat m)) = dN m from nS_pos m]
    exact dlt m
  | negSucc m =>
    rw [nS_neg]
    intro c hc
    rcases List.mem_cons.mp hc with rfl | hc
    · decide
    · exact dlt _ c hc
theorem strG_par (b : Bool) {s : Str} (hs : strG s = true) : strG (par b s) = true := by
  unfold par
  split
  · exact strG_app (strG_app (by decide +kernel) hs) (by decide +kernel)
  · exact hs
theorem tr_strG (h4 : n ≤ 4) : ∀ t : Tr, t.TOk n → strG t.txt = true
  | .lf l, ok => txt_ok (by omega) ok
  | .tm k t, ok => by
    have ih := tr_strG h4 t ok.2
    show strG (if k = -1 then "-" ++ par (t.isSum || t.isTm) t.txt else nS k ++ " * " ++ par (t.isSum || t.isTm) t.txt) = true
    split
    · exact strG_app (by decide +kernel) (strG_par _ ih)
    · exact strG_app (strG_app strG_nS (by decide +kernel)) (strG_par _ ih)
  | .ab t, ok => strG_app (strG_app (by decide +kernel) (tr_strG h4 t ok)) (by decide +kernel)
  | .bi o a b, ok => by
    have ia := tr_strG h4 a ok.2.1
    have ib := tr_strG h4 b ok.2.2
    have go : strG (opL o) = true := by
      have ho := ok.1
      have ho' : o = 0 ∨ o = 1 ∨ o = 2 ∨ o = 3 := by omega
      rcases ho' with rfl | rfl | rfl | rfl <;> decide +kernel
    show strG (if o < 2 then a.txt ++ " " ++ opL o ++ " " ++ par (b.isSum || b.isNeg) b.txt else opL o ++ "(" ++ a.txt ++ ", " ++ b.txt ++ ")") = true
    split
    · exact strG_app (strG_app (strG_app (strG_app ia (by decide +kernel)) go) (by decide +kernel)) (strG_par _ ib)
    · exact strG_app (strG_app (strG_app (strG_app (strG_app go (by decide +kernel)) ia) (by decide +kernel)) ib) (by decide +kernel)
/-! ### heads of nodes -/
structure LdH (t : Tr) (w : Str) (r : List D) : Prop where
  e : t.ld = .tup (.str w :: r)
  c3 : ∀ h, cIn h (.str w) (.tup [.str "*", .str "+", .str "-"]) = some (t.isSum || t.isTm)
  c2 : ∀ h, cIn h (.str w) (.tup [.str "+", .str "-"]) = some t.isSum
  c1 : ∀ h, cEq h (.str w) (.str "*") = some t.isTm
  k : t.isTm = true → ∃ k q, r = .int k :: q ∧ t.isNeg = decide (k < 0)
structure NdH (t : Tr) (w : Str) (r : List D) : Prop where
  e : t.nd = .tup (.str w :: r)
  c3 : ∀ h, cIn h (.str w) (.tup [.str "plus", .str "minus", .str "times"]) = some (t.isSum || t.isTm)
  c2 : ∀ h, cIn h (.str w) (.tup [.str "plus", .str "minus"]) = some t.isSum
  c0 : ∀ h, cIn h (.str w) (.tup [.str "times"]) = some t.isTm
  c1 : ∀ h, cEq h (.str w) (.str "times") = some t.isTm
  k : t.isTm = true → ∃ k q, r = .int k :: q ∧ t.isNeg = decide (k < 0)
theorem ld_hd {t : Tr} (ok : t.TOk n) : ∃ w r, LdH t w r := by
  cases t with
  | lf l =>
    obtain ⟨w, r, e, hw⟩ := l.head
    refine ⟨w, r, e, ?_, ?_, ?_, fun z => by cases z⟩ <;> intro h <;> rcases hw with rfl | rfl | rfl <;> kernel_rfl
  | tm k t => exact ⟨_, _, rfl, fun h => by kernel_rfl, fun h => by kernel_rfl, fun h => by kernel_rfl, fun _ => ⟨_, _, rfl, rfl⟩⟩
  | ab t => exact ⟨_, _, rfl, fun h => by kernel_rfl, fun h => by kernel_rfl, fun h => by kernel_rfl, fun z => by cases z⟩
  | bi o a b =>
    have ho := ok.1
    have ho' : o = 0 ∨ o = 1 ∨ o = 2 ∨ o = 3 := by omega
    rcases ho' with rfl | rfl | rfl | rfl <;> exact ⟨_, _, rfl, fun h => by kernel_rfl, fun h => by kernel_rfl, fun h => by kernel_rfl, fun z => by cases z⟩
theorem nd_hd {t : Tr} (ok : t.TOk n) : ∃ w r, NdH t w r := by
  cases t with
  | lf l => cases l <;> exact ⟨_, _, rfl, fun h => by kernel_rfl, fun h => by kernel_rfl, fun h => by kernel_rfl, fun h => by kernel_rfl, fun z => by cases z⟩
  | tm k t => exact ⟨_, _, rfl, fun h => by kernel_rfl, fun h => by kernel_rfl, fun h => by kernel_rfl, fun h => by kernel_rfl, fun _ => ⟨_, _, rfl, rfl⟩⟩
  | ab t => exact ⟨_, _, rfl, fun h => by kernel_rfl, fun h => by kernel_rfl, fun h => by kernel_rfl, fun h => by kernel_rfl, fun z => by cases z⟩
  | bi o a b =>
    have ho := ok.1
    have ho' : o = 0 ∨ o = 1 ∨ o = 2 ∨ o = 3 := by omega
    rcases ho' with rfl | rfl | rfl | rfl <;> exact ⟨_, _, rfl, fun h => by kernel_rfl, fun h => by kernel_rfl, fun h => by kernel_rfl, fun h => by kernel_rfl, fun z => by cases z⟩
/-! ### the law -/
theorem lw_tm {w : Str} (hw : w = "true" ∨ w = "all" ∨ w = "each") : cEq h (.str w) (.str "*") = some false ∧ cEq h (.str w) (.str "abs") = some false ∧ cIn h (.str w) (.tup [.str "max", .str "min"]) = some false ∧ cIn h (.str w) (.tup [.str "+", .str "-"]) = some false := by
  rcases hw with rfl | rfl | rfl <;> exact ⟨by kernel_rfl, by kernel_rfl, by kernel_rfl, by kernel_rfl⟩
theorem lt_par {T : Str} (hT : T.length ≤ 17000) : bAdd h (.str "(") (.str T) = some (.str ("(" ++ T)) ∧ bAdd h (.str ("(" ++ T)) (.str ")") = some (.str (("(" ++ T) ++ ")")) :=
  ⟨bAdd_w (by simp only [Str.length_append, ln_5]; omega), bAdd_w (by simp only [Str.length_append, ln_5, ln_b]; omega)⟩
theorem ltr_tm {R : Fn} {k : Int} {t : Tr} {x : Str} (k0 : -1000000 ≤ k) (k1 : k ≤ 1000000) (ok : t.TOk n) (hT : x.length ≤ 17000) (e : R [t.ld] h = .ok (.str x) [] h) :
    runF 3 (m__law_text R) [.tup [.str "*", .int k, t.ld]] h = .ok (.str (if k = -1 then "-" ++ par (t.isSum || t.isTm) x else nS k ++ " * " ++ par (t.isSum || t.isTm) x)) [] h := by
  obtain ⟨w, r, H⟩ := ld_hd ok
  have c3 := H.c3 h
  have lo := t.ld_own
  rw [H.e] at *
  have hP := par_len (t.isSum || t.isTm) x
  have hn := nS_len k0 k1
  have hs : bStr1 h (.int k) = some (.str (nS k)) := bStr1_int (nS_log k0 k1)
  obtain ⟨u1, u2⟩ := lt_par (h := h) hT
  obtain ⟨Z, hZ⟩ : ∃ Z, Z = par (t.isSum || t.isTm) x := ⟨_, rfl⟩
  rw [← hZ] at hP ⊢
  have q1 : bAdd h (.str "-") (.str Z) = some (.str ("-" ++ Z)) := bAdd_w (by simp only [ln_d]; omega)
  have q2 : bAdd h (.str (nS k)) (.str " * ") = some (.str (nS k ++ " * ")) := bAdd_w (by simp only [ln_e]; omega)
  have q3 : bAdd h (.str (nS k ++ " * ")) (.str Z) = some (.str (nS k ++ " * " ++ Z)) := bAdd_w (by simp only [Str.length_append, ln_e]; omega)
  generalize (t.isSum || t.isTm) = b at *
  clear H
  cases b with
  | true =>
    have hZ' : Z = "(" ++ x ++ ")" := hZ
    clear hZ
    subst hZ'
    by_cases z : k = -1
    · subst z
      rw [if_pos rfl]
      apply Wp.eq
      simp only [↓wp_runF, startF, Int.reduceNeg, List.map_cons, List.map_nil, List.length_cons, List.length_nil, Nat.zero_add, Nat.reduceSub, List.replicate_succ, List.replicate_zero, List.cons_append, List.nil_append, bx_cons, ↓w__law_text, ↓wp_Seq, ↓wp_IfS, ↓wp_Op, ↓wp_Late, List.getElem?_cons_zero, sl_some, ↓wp_C, bIdx_tup, at_0, op_some, ce_mm, cd_t, ↓wp_Put, ↓wp_Call, ↓wp_Args1, at_2, List.getElem?_cons_succ, ↓wp_Args0, gPos_eq, List.append_nil, e, List.set_cons_succ, List.set_cons_zero, ↓wp_ok, flk_nx, ↓wp_Tup, Nat.reduceAdd, big_eq, Nat.reduceLeDiff, c3, ↓wp_Fz, ↓wp_Var, own_str, cd_f, u1, fz_str, u2, ↓wp_Ret, ↓wp_If, at_1, ↓wp_Un, bNeg_int, cEq_ii, decide_true, q1, flk_rt, rtk_rt, and_self]
    · rw [if_neg z]
      apply Wp.eq
      simp only [↓wp_runF, startF, List.map_cons, List.map_nil, List.length_cons, List.length_nil, Nat.zero_add, Nat.reduceSub, List.replicate_succ, List.replicate_zero, List.cons_append, List.nil_append, bx_cons, ↓w__law_text, ↓wp_Seq, ↓wp_IfS, ↓wp_Op, ↓wp_Late, List.getElem?_cons_zero, sl_some, ↓wp_C, bIdx_tup, at_0, op_some, ce_mm, cd_t, ↓wp_Put, ↓wp_Call, ↓wp_Args1, at_2, List.getElem?_cons_succ, ↓wp_Args0, gPos_eq, List.append_nil, e, List.set_cons_succ, List.set_cons_zero, ↓wp_ok, flk_nx, ↓wp_Tup, Nat.reduceAdd, big_eq, Nat.reduceLeDiff, c3, ↓wp_Fz, ↓wp_Var, own_str, cd_f, u1, fz_str, u2, ↓wp_Ret, ↓wp_If, at_1, ↓wp_Un, bNeg_int, Int.reduceNeg, cEq_ii, z, decide_false, hs, q2, q3, flk_rt, rtk_rt, and_self]
  | false =>
    have hZ' : Z = x := hZ
    clear hZ
    subst hZ'
    by_cases z : k = -1
    · subst z
      rw [if_pos rfl]
      apply Wp.eq
      simp only [↓wp_runF, startF, Int.reduceNeg, List.map_cons, List.map_nil, List.length_cons, List.length_nil, Nat.zero_add, Nat.reduceSub, List.replicate_succ, List.replicate_zero, List.cons_append, List.nil_append, bx_cons, ↓w__law_text, ↓wp_Seq, ↓wp_IfS, ↓wp_Op, ↓wp_Late, List.getElem?_cons_zero, sl_some, ↓wp_C, bIdx_tup, at_0, op_some, ce_mm, cd_t, ↓wp_Put, ↓wp_Call, ↓wp_Args1, at_2, List.getElem?_cons_succ, ↓wp_Args0, gPos_eq, List.append_nil, e, List.set_cons_succ, List.set_cons_zero, ↓wp_ok, flk_nx, ↓wp_Tup, Nat.reduceAdd, big_eq, Nat.reduceLeDiff, c3, cd_f, ↓wp_ret, ↓wp_Ret, ↓wp_If, at_1, ↓wp_Un, bNeg_int, cEq_ii, decide_true, ↓wp_Var, own_str, q1, flk_rt, rtk_rt, and_self]
    · rw [if_neg z]
      apply Wp.eq
      simp only [↓wp_runF, startF, List.map_cons, List.map_nil, List.length_cons, List.length_nil, Nat.zero_add, Nat.reduceSub, List.replicate_succ, List.replicate_zero, List.cons_append, List.nil_append, bx_cons, ↓w__law_text, ↓wp_Seq, ↓wp_IfS, ↓wp_Op, ↓wp_Late, List.getElem?_cons_zero, sl_some, ↓wp_C, bIdx_tup, at_0, op_some, ce_mm, cd_t, ↓wp_Put, ↓wp_Call, ↓wp_Args1, at_2, List.getElem?_cons_succ, ↓wp_Args0, gPos_eq, List.append_nil, e, List.set_cons_succ, List.set_cons_zero, ↓wp_ok, flk_nx, ↓wp_Tup, Nat.reduceAdd, big_eq, Nat.reduceLeDiff, c3, cd_f, ↓wp_ret, ↓wp_Ret, ↓wp_If, at_1, ↓wp_Un, bNeg_int, Int.reduceNeg, cEq_ii, z, decide_false, ↓wp_Fz, hs, q2, ↓wp_Var, own_str, fz_str, q3, flk_rt, rtk_rt, and_self]
theorem ltr_ab {R : Fn} {T : D} {X : Str} (lo : T.own = false) (hT : X.length ≤ 17000) (e : R [T] h = .ok (.str X) [] h) : runF 3 (m__law_text R) [.tup [.str "abs", T]] h = .ok (.str ("abs(" ++ X ++ ")")) [] h := by
  have q0 := bAdd_w (h := h) (x := "abs(") (y := X) (by simp only [Str.length_append, ln_0, ln_1, ln_2, ln_3, ln_4, ln_5, ln_6, ln_7, ln_a, ln_b, ln_c, ln_d, ln_e, ln_f, ln_g, ln_h]; omega)
  have q1 := bAdd_w (h := h) (x := ("abs(" ++ X)) (y := ")") (by simp only [Str.length_append, ln_0, ln_1, ln_2, ln_3, ln_4, ln_5, ln_6, ln_7, ln_a, ln_b, ln_c, ln_d, ln_e, ln_f, ln_g, ln_h]; omega)
  apply Wp.eq
  simp only [↓wp_runF, startF, List.map_cons, List.map_nil, List.length_cons, List.length_nil, Nat.zero_add, Nat.reduceSub, List.replicate_succ, List.replicate_zero, List.cons_append, List.nil_append, bx_cons, ↓w__law_text, ↓wp_Seq, ↓wp_IfS, ↓wp_Op, ↓wp_Late, List.getElem?_cons_zero, sl_some, ↓wp_C, bIdx_tup, at_0, op_some, ce_am, cd_f, ↓wp_ret, flk_nx, ↓w__law_text_k1, ce_aa, cd_t, ↓wp_Ret, ↓wp_Fz, ↓wp_Call, ↓wp_Args1, at_1, List.getElem?_cons_succ, ↓wp_Args0, gPos_eq, List.append_nil, e, ↓wp_ok, fz_str, q0, q1, flk_rt, rtk_rt, and_self]
theorem ltr_max {R : Fn} {A B : D} {X Y : Str} (la : A.own = false) (lb : B.own = false) (hX : X.length ≤ 17000) (hY : Y.length ≤ 17000) (ea : R [A] h = .ok (.str X) [] h) (eb : R [B] h = .ok (.str Y) [] h) : runF 3 (m__law_text R) [.tup [.str "max", A, B]] h = .ok (.str ("max" ++ "(" ++ X ++ ", " ++ Y ++ ")")) [] h := by
  have q0 := bAdd_w (h := h) (x := "max") (y := "(") (by simp only [Str.length_append, ln_0, ln_1, ln_2, ln_3, ln_4, ln_5, ln_6, ln_7, ln_a, ln_b, ln_c, ln_d, ln_e, ln_f, ln_g, ln_h]; omega)
  have q1 := bAdd_w (h := h) (x := ("max" ++ "(")) (y := X) (by simp only [Str.length_append, ln_0, ln_1, ln_2, ln_3, ln_4, ln_5, ln_6, ln_7, ln_a, ln_b, ln_c, ln_d, ln_e, ln_f, ln_g, ln_h]; omega)
  have q2 := bAdd_w (h := h) (x := (("max" ++ "(") ++ X)) (y := ", ") (by simp only [Str.length_append, ln_0, ln_1, ln_2, ln_3, ln_4, ln_5, ln_6, ln_7, ln_a, ln_b, ln_c, ln_d, ln_e, ln_f, ln_g, ln_h]; omega)
  have q3 := bAdd_w (h := h) (x := ((("max" ++ "(") ++ X) ++ ", ")) (y := Y) (by simp only [Str.length_append, ln_0, ln_1, ln_2, ln_3, ln_4, ln_5, ln_6, ln_7, ln_a, ln_b, ln_c, ln_d, ln_e, ln_f, ln_g, ln_h]; omega)
  have q4 := bAdd_w (h := h) (x := (((("max" ++ "(") ++ X) ++ ", ") ++ Y)) (y := ")") (by simp only [Str.length_append, ln_0, ln_1, ln_2, ln_3, ln_4, ln_5, ln_6, ln_7, ln_a, ln_b, ln_c, ln_d, ln_e, ln_f, ln_g, ln_h]; omega)
  have f1 : cEq h (.str "max") (.str "*") = some false := by kernel_rfl
  have f2 : cEq h (.str "max") (.str "abs") = some false := by kernel_rfl
  have f3 : cIn h (.str "max") (.tup [.str "max", .str "min"]) = some true := by kernel_rfl
  apply Wp.eq
  simp only [↓wp_runF, startF, List.map_cons, List.map_nil, List.length_cons, List.length_nil, Nat.zero_add, Nat.reduceSub, List.replicate_succ, List.replicate_zero, List.cons_append, List.nil_append, bx_cons, ↓w__law_text, ↓wp_Seq, ↓wp_IfS, ↓wp_Op, ↓wp_Late, List.getElem?_cons_zero, sl_some, ↓wp_C, bIdx_tup, at_0, op_some, f1, cd_f, ↓wp_ret, flk_nx, ↓w__law_text_k1, f2, ↓w__law_text_k2, ↓wp_Tup, ↓wp_Args1, ↓wp_Args0, Nat.reduceAdd, big_eq, Nat.reduceLeDiff, f3, cd_t, ↓wp_Ret, ↓wp_Fz, q0, ↓wp_Call, at_1, List.getElem?_cons_succ, gPos_eq, List.append_nil, ea, ↓wp_ok, fz_str, q1, q2, at_2, eb, q3, q4, flk_rt, rtk_rt, and_self]
theorem ltr_min {R : Fn} {A B : D} {X Y : Str} (la : A.own = false) (lb : B.own = false) (hX : X.length ≤ 17000) (hY : Y.length ≤ 17000) (ea : R [A] h = .ok (.str X) [] h) (eb : R [B] h = .ok (.str Y) [] h) : runF 3 (m__law_text R) [.tup [.str "min", A, B]] h = .ok (.str ("min" ++ "(" ++ X ++ ", " ++ Y ++ ")")) [] h := by
  have q0 := bAdd_w (h := h) (x := "min") (y := "(") (by simp only [Str.length_append, ln_0, ln_1, ln_2, ln_3, ln_4, ln_5, ln_6, ln_7, ln_a, ln_b, ln_c, ln_d, ln_e, ln_f, ln_g, ln_h]; omega)
  have q1 := bAdd_w (h := h) (x := ("min" ++ "(")) (y := X) (by simp only [Str.length_append, ln_0, ln_1, ln_2, ln_3, ln_4, ln_5, ln_6, ln_7, ln_a, ln_b, ln_c, ln_d, ln_e, ln_f, ln_g, ln_h]; omega)
  have q2 := bAdd_w (h := h) (x := (("min" ++ "(") ++ X)) (y := ", ") (by simp only [Str.length_append, ln_0, ln_1, ln_2, ln_3, ln_4, ln_5, ln_6, ln_7, ln_a, ln_b, ln_c, ln_d, ln_e, ln_f, ln_g, ln_h]; omega)
  have q3 := bAdd_w (h := h) (x := ((("min" ++ "(") ++ X) ++ ", ")) (y := Y) (by simp only [Str.length_append, ln_0, ln_1, ln_2, ln_3, ln_4, ln_5, ln_6, ln_7, ln_a, ln_b, ln_c, ln_d, ln_e, ln_f, ln_g, ln_h]; omega)
  have q4 := bAdd_w (h := h) (x := (((("min" ++ "(") ++ X) ++ ", ") ++ Y)) (y := ")") (by simp only [Str.length_append, ln_0, ln_1, ln_2, ln_3, ln_4, ln_5, ln_6, ln_7, ln_a, ln_b, ln_c, ln_d, ln_e, ln_f, ln_g, ln_h]; omega)
  have f1 : cEq h (.str "min") (.str "*") = some false := by kernel_rfl
  have f2 : cEq h (.str "min") (.str "abs") = some false := by kernel_rfl
  have f3 : cIn h (.str "min") (.tup [.str "max", .str "min"]) = some true := by kernel_rfl
  apply Wp.eq
  simp only [↓wp_runF, startF, List.map_cons, List.map_nil, List.length_cons, List.length_nil, Nat.zero_add, Nat.reduceSub, List.replicate_succ, List.replicate_zero, List.cons_append, List.nil_append, bx_cons, ↓w__law_text, ↓wp_Seq, ↓wp_IfS, ↓wp_Op, ↓wp_Late, List.getElem?_cons_zero, sl_some, ↓wp_C, bIdx_tup, at_0, op_some, f1, cd_f, ↓wp_ret, flk_nx, ↓w__law_text_k1, f2, ↓w__law_text_k2, ↓wp_Tup, ↓wp_Args1, ↓wp_Args0, Nat.reduceAdd, big_eq, Nat.reduceLeDiff, f3, cd_t, ↓wp_Ret, ↓wp_Fz, q0, ↓wp_Call, at_1, List.getElem?_cons_succ, gPos_eq, List.append_nil, ea, ↓wp_ok, fz_str, q1, q2, at_2, eb, q3, q4, flk_rt, rtk_rt, and_self]
theorem ltr_add {R : Fn} {A : D} {b : Tr} {X Y : Str} (la : A.own = false) (ok : b.TOk n) (hX : X.length ≤ 17000) (hY : Y.length ≤ 17000) (ea : R [A] h = .ok (.str X) [] h) (eb : R [b.ld] h = .ok (.str Y) [] h) : runF 3 (m__law_text R) [.tup [.str "+", A, b.ld]] h = .ok (.str (X ++ " " ++ "+" ++ " " ++ par (b.isSum || b.isNeg) Y)) [] h := by
  obtain ⟨w, r, H⟩ := ld_hd ok
  have c2 := H.c2 h
  have c1 := H.c1 h
  have hk := H.k
  have lb := b.ld_own
  rw [H.e] at *
  clear H
  have f1 : cEq h (.str "+") (.str "*") = some false := by kernel_rfl
  have f2 : cEq h (.str "+") (.str "abs") = some false := by kernel_rfl
  have f3 : cIn h (.str "+") (.tup [.str "max", .str "min"]) = some false := by kernel_rfl
  have f4 : cIn h (.str "+") (.tup [.str "+", .str "-"]) = some true := by kernel_rfl
  obtain ⟨u1, u2⟩ := lt_par (h := h) hY
  have hP := par_len (b.isSum || b.isNeg) Y
  obtain ⟨Z, hZ⟩ : ∃ Z, Z = par (b.isSum || b.isNeg) Y := ⟨_, rfl⟩
  rw [← hZ] at hP ⊢
  have q0 := bAdd_w (h := h) (x := X) (y := " ") (by simp only [Str.length_append, ln_0, ln_1, ln_2, ln_3, ln_4, ln_5, ln_6, ln_7, ln_a, ln_b, ln_c, ln_d, ln_e, ln_f, ln_g, ln_h, ln_p]; omega)
  have q1 := bAdd_w (h := h) (x := (X ++ " ")) (y := "+") (by simp only [Str.length_append, ln_0, ln_1, ln_2, ln_3, ln_4, ln_5, ln_6, ln_7, ln_a, ln_b, ln_c, ln_d, ln_e, ln_f, ln_g, ln_h, ln_p]; omega)
  have q2 := bAdd_w (h := h) (x := ((X ++ " ") ++ "+")) (y := " ") (by simp only [Str.length_append, ln_0, ln_1, ln_2, ln_3, ln_4, ln_5, ln_6, ln_7, ln_a, ln_b, ln_c, ln_d, ln_e, ln_f, ln_g, ln_h, ln_p]; omega)
  have q3 := bAdd_w (h := h) (x := (((X ++ " ") ++ "+") ++ " ")) (y := Z) (by simp only [Str.length_append, ln_0, ln_1, ln_2, ln_3, ln_4, ln_5, ln_6, ln_7, ln_a, ln_b, ln_c, ln_d, ln_e, ln_f, ln_g, ln_h, ln_p]; omega)
  by_cases s : b.isSum = true
  · rw [s] at c2 hZ
    have hZ' : Z = "(" ++ Y ++ ")" := hZ
    clear hZ
    subst hZ'
    apply Wp.eq
    simp only [↓wp_runF, startF, List.map_cons, List.map_nil, List.length_cons, List.length_nil, Nat.zero_add, Nat.reduceSub, List.replicate_succ, List.replicate_zero, List.cons_append, List.nil_append, bx_cons, ↓w__law_text, ↓wp_Seq, ↓wp_IfS, ↓wp_Op, ↓wp_Late, List.getElem?_cons_zero, sl_some, ↓wp_C, bIdx_tup, at_0, op_some, f1, cd_f, ↓wp_ret, flk_nx, ↓w__law_text_k1, f2, ↓w__law_text_k2, ↓wp_Tup, ↓wp_Args1, ↓wp_Args0, Nat.reduceAdd, big_eq, Nat.reduceLeDiff, f3, ↓w__law_text_k3, cNin_eq, f4, Option.map_some, Bool.not_true, ↓w__law_text_k4, ↓wp_Put, ↓wp_Call, at_2, List.getElem?_cons_succ, gPos_eq, List.append_nil, eb, List.set_cons_succ, List.set_cons_zero, ↓wp_ok, ↓w__law_text_k5, ↓wp_Or, c2, cd_t, ↓wp_Fz, ↓wp_Var, own_str, u1, fz_str, u2, ↓wp_Ret, at_1, ea, q0, q1, q2, q3, rtk_rt, and_self]
  · rw [Bool.not_eq_true] at s
    rw [s] at c2 hZ
    by_cases tm : b.isTm = true
    · obtain ⟨k, r', rfl, hn⟩ := hk tm
      rw [tm] at c1
      by_cases z : k < 0
      · rw [hn, decide_eq_true z] at hZ
        have hZ' : Z = "(" ++ Y ++ ")" := hZ
        clear hZ
        subst hZ'
        apply Wp.eq
        simp only [↓wp_runF, startF, List.map_cons, List.map_nil, List.length_cons, List.length_nil, Nat.zero_add, Nat.reduceSub, List.replicate_succ, List.replicate_zero, List.cons_append, List.nil_append, bx_cons, ↓w__law_text, ↓wp_Seq, ↓wp_IfS, ↓wp_Op, ↓wp_Late, List.getElem?_cons_zero, sl_some, ↓wp_C, bIdx_tup, at_0, op_some, f1, cd_f, ↓wp_ret, flk_nx, ↓w__law_text_k1, f2, ↓w__law_text_k2, ↓wp_Tup, ↓wp_Args1, ↓wp_Args0, Nat.reduceAdd, big_eq, Nat.reduceLeDiff, f3, ↓w__law_text_k3, cNin_eq, f4, Option.map_some, Bool.not_true, ↓w__law_text_k4, ↓wp_Put, ↓wp_Call, at_2, List.getElem?_cons_succ, gPos_eq, List.append_nil, eb, List.set_cons_succ, List.set_cons_zero, ↓wp_ok, ↓w__law_text_k5, ↓wp_Or, c2, ↓wp_And, c1, cd_t, at_1, cInt_int, z, decide_true, ↓wp_Fz, ↓wp_Var, own_str, u1, fz_str, u2, ↓wp_Ret, ea, q0, q1, q2, q3, rtk_rt, and_self]
      · rw [hn, decide_eq_false z] at hZ
        have hZ' : Z = Y := hZ
        clear hZ
        subst hZ'
        apply Wp.eq
        simp only [↓wp_runF, startF, List.map_cons, List.map_nil, List.length_cons, List.length_nil, Nat.zero_add, Nat.reduceSub, List.replicate_succ, List.replicate_zero, List.cons_append, List.nil_append, bx_cons, ↓w__law_text, ↓wp_Seq, ↓wp_IfS, ↓wp_Op, ↓wp_Late, List.getElem?_cons_zero, sl_some, ↓wp_C, bIdx_tup, at_0, op_some, f1, cd_f, ↓wp_ret, flk_nx, ↓w__law_text_k1, f2, ↓w__law_text_k2, ↓wp_Tup, ↓wp_Args1, ↓wp_Args0, Nat.reduceAdd, big_eq, Nat.reduceLeDiff, f3, ↓w__law_text_k3, cNin_eq, f4, Option.map_some, Bool.not_true, ↓w__law_text_k4, ↓wp_Put, ↓wp_Call, at_2, List.getElem?_cons_succ, gPos_eq, List.append_nil, eb, List.set_cons_succ, List.set_cons_zero, ↓wp_ok, ↓w__law_text_k5, ↓wp_Or, c2, ↓wp_And, c1, cd_t, at_1, cInt_int, z, decide_false, ↓wp_Ret, ↓wp_Fz, ea, fz_str, q0, q1, q2, ↓wp_Var, own_str, q3, rtk_rt, and_self]
    · rw [Bool.not_eq_true] at tm
      rw [tm] at c1
      have hn : b.isNeg = false := by cases b <;> first | rfl | cases tm
      rw [hn] at hZ
      have hZ' : Z = Y := hZ
      clear hZ
      subst hZ'
      apply Wp.eq
      simp only [↓wp_runF, startF, List.map_cons, List.map_nil, List.length_cons, List.length_nil, Nat.zero_add, Nat.reduceSub, List.replicate_succ, List.replicate_zero, List.cons_append, List.nil_append, bx_cons, ↓w__law_text, ↓wp_Seq, ↓wp_IfS, ↓wp_Op, ↓wp_Late, List.getElem?_cons_zero, sl_some, ↓wp_C, bIdx_tup, at_0, op_some, f1, cd_f, ↓wp_ret, flk_nx, ↓w__law_text_k1, f2, ↓w__law_text_k2, ↓wp_Tup, ↓wp_Args1, ↓wp_Args0, Nat.reduceAdd, big_eq, Nat.reduceLeDiff, f3, ↓w__law_text_k3, cNin_eq, f4, Option.map_some, Bool.not_true, ↓w__law_text_k4, ↓wp_Put, ↓wp_Call, at_2, List.getElem?_cons_succ, gPos_eq, List.append_nil, eb, List.set_cons_succ, List.set_cons_zero, ↓wp_ok, ↓w__law_text_k5, ↓wp_Or, c2, ↓wp_And, c1, ↓wp_Ret, ↓wp_Fz, at_1, ea, fz_str, q0, q1, q2, ↓wp_Var, own_str, q3, rtk_rt, and_self]
theorem ltr_sub {R : Fn} {A : D} {b : Tr} {X Y : Str} (la : A.own = false) (ok : b.TOk n) (hX : X.length ≤ 17000) (hY : Y.length ≤ 17000) (ea : R [A] h = .ok (.str X) [] h) (eb : R [b.ld] h = .ok (.str Y) [] h) : runF 3 (m__law_text R) [.tup [.str "-", A, b.ld]] h = .ok (.str (X ++ " " ++ "-" ++ " " ++ par (b.isSum || b.isNeg) Y)) [] h := by
  obtain ⟨w, r, H⟩ := ld_hd ok
  have c2 := H.c2 h
  have c1 := H.c1 h
  have hk := H.k
  have lb := b.ld_own
  rw [H.e] at *
  clear H
  have f1 : cEq h (.str "-") (.str "*") = some false := by kernel_rfl
  have f2 : cEq h (.str "-") (.str "abs") = some false := by kernel_rfl
  have f3 : cIn h (.str "-") (.tup [.str "max", .str "min"]) = some false := by kernel_rfl
  have f4 : cIn h (.str "-") (.tup [.str "+", .str "-"]) = some true := by kernel_rfl
  obtain ⟨u1, u2⟩ := lt_par (h := h) hY
  have hP := par_len (b.isSum || b.isNeg) Y
  obtain ⟨Z, hZ⟩ : ∃ Z, Z = par (b.isSum || b.isNeg) Y := ⟨_, rfl⟩
  rw [← hZ] at hP ⊢
  have q0 := bAdd_w (h := h) (x := X) (y := " ") (by simp only [Str.length_append, ln_0, ln_1, ln_2, ln_3, ln_4, ln_5, ln_6, ln_7, ln_a, ln_b, ln_c, ln_d, ln_e, ln_f, ln_g, ln_h, ln_p]; omega)
  have q1 := bAdd_w (h := h) (x := (X ++ " ")) (y := "-") (by simp only [Str.length_append, ln_0, ln_1, ln_2, ln_3, ln_4, ln_5, ln_6, ln_7, ln_a, ln_b, ln_c, ln_d, ln_e, ln_f, ln_g, ln_h, ln_p]; omega)
  have q2 := bAdd_w (h := h) (x := ((X ++ " ") ++ "-")) (y := " ") (by simp only [Str.length_append, ln_0, ln_1, ln_2, ln_3, ln_4, ln_5, ln_6, ln_7, ln_a, ln_b, ln_c, ln_d, ln_e, ln_f, ln_g, ln_h, ln_p]; omega)
  have q3 := bAdd_w (h := h) (x := (((X ++ " ") ++ "-") ++ " ")) (y := Z) (by simp only [Str.length_append, ln_0, ln_1, ln_2, ln_3, ln_4, ln_5, ln_6, ln_7, ln_a, ln_b, ln_c, ln_d, ln_e, ln_f, ln_g, ln_h, ln_p]; omega)
  by_cases s : b.isSum = true
  · rw [s] at c2 hZ
    have hZ' : Z = "(" ++ Y ++ ")" := hZ
    clear hZ
    subst hZ'
    apply Wp.eq
    simp only [↓wp_runF, startF, List.map_cons, List.map_nil, List.length_cons, List.length_nil, Nat.zero_add, Nat.reduceSub, List.replicate_succ, List.replicate_zero, List.cons_append, List.nil_append, bx_cons, ↓w__law_text, ↓wp_Seq, ↓wp_IfS, ↓wp_Op, ↓wp_Late, List.getElem?_cons_zero, sl_some, ↓wp_C, bIdx_tup, at_0, op_some, f1, cd_f, ↓wp_ret, flk_nx, ↓w__law_text_k1, f2, ↓w__law_text_k2, ↓wp_Tup, ↓wp_Args1, ↓wp_Args0, Nat.reduceAdd, big_eq, Nat.reduceLeDiff, f3, ↓w__law_text_k3, cNin_eq, f4, Option.map_some, Bool.not_true, ↓w__law_text_k4, ↓wp_Put, ↓wp_Call, at_2, List.getElem?_cons_succ, gPos_eq, List.append_nil, eb, List.set_cons_succ, List.set_cons_zero, ↓wp_ok, ↓w__law_text_k5, ↓wp_Or, c2, cd_t, ↓wp_Fz, ↓wp_Var, own_str, u1, fz_str, u2, ↓wp_Ret, at_1, ea, q0, q1, q2, q3, rtk_rt, and_self]
  · rw [Bool.not_eq_true] at s
    rw [s] at c2 hZ
    by_cases tm : b.isTm = true
    · obtain ⟨k, r', rfl, hn⟩ := hk tm
      rw [tm] at c1
      by_cases z : k < 0
      · rw [hn, decide_eq_true z] at hZ
        have hZ' : Z = "(" ++ Y ++ ")" := hZ
        clear hZ
        subst hZ'
        apply Wp.eq
        simp only [↓wp_runF, startF, List.map_cons, List.map_nil, List.length_cons, List.length_nil, Nat.zero_add, Nat.reduceSub, List.replicate_succ, List.replicate_zero, List.cons_append, List.nil_append, bx_cons, ↓w__law_text, ↓wp_Seq, ↓wp_IfS, ↓wp_Op, ↓wp_Late, List.getElem?_cons_zero, sl_some, ↓wp_C, bIdx_tup, at_0, op_some, f1, cd_f, ↓wp_ret, flk_nx, ↓w__law_text_k1, f2, ↓w__law_text_k2, ↓wp_Tup, ↓wp_Args1, ↓wp_Args0, Nat.reduceAdd, big_eq, Nat.reduceLeDiff, f3, ↓w__law_text_k3, cNin_eq, f4, Option.map_some, Bool.not_true, ↓w__law_text_k4, ↓wp_Put, ↓wp_Call, at_2, List.getElem?_cons_succ, gPos_eq, List.append_nil, eb, List.set_cons_succ, List.set_cons_zero, ↓wp_ok, ↓w__law_text_k5, ↓wp_Or, c2, ↓wp_And, c1, cd_t, at_1, cInt_int, z, decide_true, ↓wp_Fz, ↓wp_Var, own_str, u1, fz_str, u2, ↓wp_Ret, ea, q0, q1, q2, q3, rtk_rt, and_self]
      · rw [hn, decide_eq_false z] at hZ
        have hZ' : Z = Y := hZ
        clear hZ
        subst hZ'
        apply Wp.eq
        simp only [↓wp_runF, startF, List.map_cons, List.map_nil, List.length_cons, List.length_nil, Nat.zero_add, Nat.reduceSub, List.replicate_succ, List.replicate_zero, List.cons_append, List.nil_append, bx_cons, ↓w__law_text, ↓wp_Seq, ↓wp_IfS, ↓wp_Op, ↓wp_Late, List.getElem?_cons_zero, sl_some, ↓wp_C, bIdx_tup, at_0, op_some, f1, cd_f, ↓wp_ret, flk_nx, ↓w__law_text_k1, f2, ↓w__law_text_k2, ↓wp_Tup, ↓wp_Args1, ↓wp_Args0, Nat.reduceAdd, big_eq, Nat.reduceLeDiff, f3, ↓w__law_text_k3, cNin_eq, f4, Option.map_some, Bool.not_true, ↓w__law_text_k4, ↓wp_Put, ↓wp_Call, at_2, List.getElem?_cons_succ, gPos_eq, List.append_nil, eb, List.set_cons_succ, List.set_cons_zero, ↓wp_ok, ↓w__law_text_k5, ↓wp_Or, c2, ↓wp_And, c1, cd_t, at_1, cInt_int, z, decide_false, ↓wp_Ret, ↓wp_Fz, ea, fz_str, q0, q1, q2, ↓wp_Var, own_str, q3, rtk_rt, and_self]
    · rw [Bool.not_eq_true] at tm
      rw [tm] at c1
      have hn : b.isNeg = false := by cases b <;> first | rfl | cases tm
      rw [hn] at hZ
      have hZ' : Z = Y := hZ
      clear hZ
      subst hZ'
      apply Wp.eq
      simp only [↓wp_runF, startF, List.map_cons, List.map_nil, List.length_cons, List.length_nil, Nat.zero_add, Nat.reduceSub, List.replicate_succ, List.replicate_zero, List.cons_append, List.nil_append, bx_cons, ↓w__law_text, ↓wp_Seq, ↓wp_IfS, ↓wp_Op, ↓wp_Late, List.getElem?_cons_zero, sl_some, ↓wp_C, bIdx_tup, at_0, op_some, f1, cd_f, ↓wp_ret, flk_nx, ↓w__law_text_k1, f2, ↓w__law_text_k2, ↓wp_Tup, ↓wp_Args1, ↓wp_Args0, Nat.reduceAdd, big_eq, Nat.reduceLeDiff, f3, ↓w__law_text_k3, cNin_eq, f4, Option.map_some, Bool.not_true, ↓w__law_text_k4, ↓wp_Put, ↓wp_Call, at_2, List.getElem?_cons_succ, gPos_eq, List.append_nil, eb, List.set_cons_succ, List.set_cons_zero, ↓wp_ok, ↓w__law_text_k5, ↓wp_Or, c2, ↓wp_And, c1, ↓wp_Ret, ↓wp_Fz, at_1, ea, fz_str, q0, q1, q2, ↓wp_Var, own_str, q3, rtk_rt, and_self]
theorem ltext_tr (h4 : n ≤ 4) : ∀ (t : Tr) (j : Nat), t.TOk n → t.dep ≤ 8 → t.dep < j → fr__law_text j [t.ld] h = .ok (.str t.txt) [] h
  | .lf l, j + 1, ok, _, _ => by
    obtain ⟨w, r, e, hw⟩ := l.head
    obtain ⟨f1, f2, f3, f4⟩ := lw_tm (h := h) hw
    have lt := leaf_text (h := h) h4 ok
    show runF 3 (m__law_text (fr__law_text j)) [l.ldD] h = .ok (.str l.txt) [] h
    rw [e] at lt ⊢
    generalize fr__law_text j = R
    generalize l.txt = X at *
    apply Wp.eq
    simp only [↓wp_runF, startF, List.map_cons, List.map_nil, List.length_cons, List.length_nil, Nat.zero_add, Nat.reduceSub, List.replicate_succ, List.replicate_zero, List.cons_append, List.nil_append, bx_cons, ↓w__law_text, ↓wp_Seq, ↓wp_IfS, ↓wp_Op, ↓wp_Late, List.getElem?_cons_zero, sl_some, ↓wp_C, bIdx_tup, at_0, op_some, f1, cd_f, ↓wp_ret, flk_nx, ↓w__law_text_k1, f2, ↓w__law_text_k2, ↓wp_Tup, ↓wp_Args1, ↓wp_Args0, Nat.reduceAdd, big_eq, Nat.reduceLeDiff, f3, ↓w__law_text_k3, cNin_eq, f4, Option.map_some, Bool.not_false, cd_t, ↓wp_Ret, ↓wp_Call, ↓wp_Var, List.set_cons_zero, own_tup, gPos_eq, List.append_nil, lt, ↓wp_ok, flk_rt, rtk_rt, and_self]
  | .tm k t, j + 1, ok, hd, hj => by
    have hd' : t.dep + 1 ≤ 8 := hd
    exact ltr_tm ok.1.1 ok.1.2 ok.2 (tr_len8 h4 ok.2 (by omega)) (ltext_tr h4 t j ok.2 (by omega) (Nat.lt_of_succ_lt_succ hj))
  | .ab t, j + 1, ok, hd, hj => by
    have hd' : t.dep + 1 ≤ 8 := hd
    exact ltr_ab t.ld_own (tr_len8 h4 (t := t) ok (by omega)) (ltext_tr h4 t j ok (by omega) (Nat.lt_of_succ_lt_succ hj))
  | .bi o a b, j + 1, ok, hd, hj => by
    have hd' : max a.dep b.dep + 1 ≤ 8 := hd
    have hj' : max a.dep b.dep < j := Nat.lt_of_succ_lt_succ hj
    have ia := ltext_tr h4 a j ok.2.1 (by omega) (by omega)
    have ib := ltext_tr h4 b j ok.2.2 (by omega) (by omega)
    have la := tr_len8 h4 (t := a) ok.2.1 (by omega)
    have lb := tr_len8 h4 (t := b) ok.2.2 (by omega)
    have ho := ok.1
    have ho' : o = 0 ∨ o = 1 ∨ o = 2 ∨ o = 3 := by omega
    rcases ho' with rfl | rfl | rfl | rfl
    · exact ltr_add a.ld_own ok.2.2 la lb ia ib
    · exact ltr_sub a.ld_own ok.2.2 la lb ia ib
    · exact ltr_max a.ld_own b.ld_own la lb ia ib
    · exact ltr_min a.ld_own b.ld_own la lb ia ib
/-! ### the program -/
theorem bFmt_w {x : Str} (hl : x.length ≤ 100000) : bFmt (.str x) = some (.str x) := bFmt_str (Nat.le_trans hl (by decide))
theorem brk {R : Fn} {w : Str} {r ks : List D} {b : Bool} {X : Str} (c : cIn h (.str w) (.tup ks) = some b) (hX : X.length ≤ 17000) (e : R [.tup (.str w :: r)] h = .ok (.str X) [] h) : f_bracketed R [.tup (.str w :: r), .tup ks] h = .ok (.str (par b X)) [] h := by
  have p0 : ("(" : Str).length ≤ 100000 := by rw [ln_5]; decide
  have p1 : ("(" ++ X).length ≤ 100000 := by rw [Str.length_append, ln_5]; omega
  have p2 : ("(" ++ X ++ ")").length ≤ 100000 := by rw [Str.length_append, Str.length_append, ln_5, ln_b]; omega
  have fx := bFmt_w (x := X) (by omega)
  unfold f_bracketed par
  cases b
  · rw [if_neg (by decide)]
    apply Wp.eq
    simp only [↓wp_runF, startF, List.map_cons, List.map_nil, List.length_cons, List.length_nil, Nat.zero_add, Nat.reduceAdd, Nat.reduceSub, List.replicate_succ, List.replicate_zero, List.cons_append, List.nil_append, bx_cons, ↓w_bracketed, ↓wp_Seq, ↓wp_Put, ↓wp_Call, ↓wp_Args1, ↓wp_Var, List.getElem?_cons_zero, List.set_cons_zero, sl_some, own_tup, cd_f, ↓wp_Args0, gPos_eq, List.append_nil, e, List.set_cons_succ, ↓wp_ok, flk_nx, ↓wp_Ret, ↓wp_If, ↓wp_Op, ↓wp_Late, ↓wp_C, bIdx_tup, at_0, op_some, ↓wp_Bor, List.getElem?_cons_succ, c, own_str, rtk_rt, and_self]
  · rw [if_pos rfl]
    apply Wp.eq
    simp only [↓wp_runF, startF, List.map_cons, List.map_nil, List.length_cons, List.length_nil, Nat.zero_add, Nat.reduceAdd, Nat.reduceSub, List.replicate_succ, List.replicate_zero, List.cons_append, List.nil_append, bx_cons, ↓w_bracketed, ↓wp_Seq, ↓wp_Put, ↓wp_Call, ↓wp_Args1, ↓wp_Var, List.getElem?_cons_zero, List.set_cons_zero, sl_some, own_tup, cd_f, ↓wp_Args0, gPos_eq, List.append_nil, e, List.set_cons_succ, ↓wp_ok, flk_nx, ↓wp_Ret, ↓wp_If, ↓wp_Op, ↓wp_Late, ↓wp_C, bIdx_tup, at_0, op_some, ↓wp_Bor, List.getElem?_cons_succ, c, cd_t, ↓wp_Join, ↓wp_js1, Str.empty_append, big_eq, ↓wp_Fmt, own_str, fx, ↓wp_js0, rtk_rt, and_self, and_true, jnk_str, p0, p1, p2]
theorem wtr_tm {R : Fn} {k : Int} {t : Tr} {x : Str} (k0 : -1000000 ≤ k) (k1 : k ≤ 1000000) (ok : t.TOk n) (hT : x.length ≤ 17000) (e : R [t.nd] h = .ok (.str x) [] h) :
    runF 4 (m_write R) [.tup [.str "times", .int k, t.nd]] h = .ok (.str (if k = -1 then "-" ++ par (t.isSum || t.isTm) x else nS k ++ " * " ++ par (t.isSum || t.isTm) x)) [] h := by
  obtain ⟨w, r, H⟩ := nd_hd ok
  have lo := t.nd_own
  rw [H.e] at *
  have bk := brk (h := h) (H.c3 h) hT e
  have hP := par_len (t.isSum || t.isTm) x
  have hn := nS_len k0 k1
  have fk : bFmt (.int k) = some (.str (nS k)) := bFmt_int (nS_log k0 k1)
  generalize par (t.isSum || t.isTm) x = Z at *
  have fz := bFmt_w (x := Z) (by omega)
  have mf0 : [("events" : Str), ("leaf" : Str)].contains ("times" : Str) = false := by kernel_rfl
  have mf1 : [("abs" : Str)].contains ("times" : Str) = false := by kernel_rfl
  have mf2 : [("max" : Str), ("min" : Str)].contains ("times" : Str) = false := by kernel_rfl
  have mf3 : [("times" : Str)].contains ("times" : Str) = true := by kernel_rfl
  have p0 : ("-" : Str).length ≤ 100000 := by first | omega | (simp only [Str.length_append, ln_0, ln_1, ln_2, ln_3, ln_4, ln_5, ln_6, ln_7, ln_a, ln_b, ln_c, ln_d, ln_e, ln_f, ln_g, ln_h] <;> omega)
  have p1 : (("-" ++ Z) : Str).length ≤ 100000 := by first | omega | (simp only [Str.length_append, ln_0, ln_1, ln_2, ln_3, ln_4, ln_5, ln_6, ln_7, ln_a, ln_b, ln_c, ln_d, ln_e, ln_f, ln_g, ln_h] <;> omega)
  have r0 : (nS k : Str).length ≤ 100000 := by first | omega | (simp only [Str.length_append, ln_0, ln_1, ln_2, ln_3, ln_4, ln_5, ln_6, ln_7, ln_a, ln_b, ln_c, ln_d, ln_e, ln_f, ln_g, ln_h] <;> omega)
  have r1 : ((nS k ++ " * ") : Str).length ≤ 100000 := by first | omega | (simp only [Str.length_append, ln_0, ln_1, ln_2, ln_3, ln_4, ln_5, ln_6, ln_7, ln_a, ln_b, ln_c, ln_d, ln_e, ln_f, ln_g, ln_h] <;> omega)
  have r2 : (((nS k ++ " * ") ++ Z) : Str).length ≤ 100000 := by first | omega | (simp only [Str.length_append, ln_0, ln_1, ln_2, ln_3, ln_4, ln_5, ln_6, ln_7, ln_a, ln_b, ln_c, ln_d, ln_e, ln_f, ln_g, ln_h] <;> omega)
  by_cases z : k = -1
  · subst z
    rw [if_pos rfl]
    apply Wp.eq
    simp only [↓wp_runF, startF, Int.reduceNeg, List.map_cons, List.map_nil, List.length_cons, List.length_nil, Nat.zero_add, Nat.reduceSub, List.replicate_succ, List.replicate_zero, List.cons_append, List.nil_append, bx_cons, ↓w_write, ↓wp_Seq, ↓wp_Match, ↓wp_Late, List.getElem?_cons_zero, sl_some, ↓wp_C, bIdx_tup, at_0, op_some, ↓wp_cases1, jnk_str, mf0, cd_f, mf1, mf2, mf3, cd_t, ↓wp_Put, ↓wp_Call, ↓wp_Args1, at_2, List.getElem?_cons_succ, ↓wp_Tup, ↓wp_Args0, Nat.reduceAdd, big_eq, Nat.reduceLeDiff, gPos_eq, List.append_nil, bk, List.set_cons_succ, List.set_cons_zero, ↓wp_ok, flk_nx, ↓wp_Ret, ↓wp_If, ↓wp_Op, at_1, ↓wp_Un, bNeg_int, cEq_ii, decide_true, ↓wp_Join, ↓wp_js1, Str.empty_append, ↓wp_Fmt, ↓wp_Var, own_str, fz, ↓wp_js0, flk_rt, rtk_rt, and_self, and_true, p0, p1]
  · rw [if_neg z]
    apply Wp.eq
    simp only [↓wp_runF, startF, List.map_cons, List.map_nil, List.length_cons, List.length_nil, Nat.zero_add, Nat.reduceSub, List.replicate_succ, List.replicate_zero, List.cons_append, List.nil_append, bx_cons, ↓w_write, ↓wp_Seq, ↓wp_Match, ↓wp_Late, List.getElem?_cons_zero, sl_some, ↓wp_C, bIdx_tup, at_0, op_some, ↓wp_cases1, jnk_str, mf0, cd_f, mf1, mf2, mf3, cd_t, ↓wp_Put, ↓wp_Call, ↓wp_Args1, at_2, List.getElem?_cons_succ, ↓wp_Tup, ↓wp_Args0, Nat.reduceAdd, big_eq, Nat.reduceLeDiff, gPos_eq, List.append_nil, bk, List.set_cons_succ, List.set_cons_zero, ↓wp_ok, flk_nx, ↓wp_Ret, ↓wp_If, ↓wp_Op, at_1, ↓wp_Un, bNeg_int, Int.reduceNeg, cEq_ii, z, decide_false, ↓wp_Join, ↓wp_js1, ↓wp_Fmt, fk, Str.empty_append, ↓wp_Var, own_str, fz, ↓wp_js0, flk_rt, rtk_rt, and_self, and_true, r0, r1, r2]
theorem wtr_ab {R : Fn} {T : D} {X : Str} (lo : T.own = false) (hT : X.length ≤ 17000) (e : R [T] h = .ok (.str X) [] h) : runF 4 (m_write R) [.tup [.str "abs", T]] h = .ok (.str ("abs(" ++ X ++ ")")) [] h := by
  have fx := bFmt_w (x := X) (by omega)
  have mf0 : [("events" : Str), ("leaf" : Str)].contains ("abs" : Str) = false := by kernel_rfl
  have mf1 : [("abs" : Str)].contains ("abs" : Str) = true := by kernel_rfl
  have p0 : ("abs(" : Str).length ≤ 100000 := by first | omega | (simp only [Str.length_append, ln_0, ln_1, ln_2, ln_3, ln_4, ln_5, ln_6, ln_7, ln_a, ln_b, ln_c, ln_d, ln_e, ln_f, ln_g, ln_h] <;> omega)
  have p1 : (("abs(" ++ X) : Str).length ≤ 100000 := by first | omega | (simp only [Str.length_append, ln_0, ln_1, ln_2, ln_3, ln_4, ln_5, ln_6, ln_7, ln_a, ln_b, ln_c, ln_d, ln_e, ln_f, ln_g, ln_h] <;> omega)
  have p2 : ((("abs(" ++ X) ++ ")") : Str).length ≤ 100000 := by first | omega | (simp only [Str.length_append, ln_0, ln_1, ln_2, ln_3, ln_4, ln_5, ln_6, ln_7, ln_a, ln_b, ln_c, ln_d, ln_e, ln_f, ln_g, ln_h] <;> omega)
  apply Wp.eq
  simp only [↓wp_runF, startF, List.map_cons, List.map_nil, List.length_cons, List.length_nil, Nat.zero_add, Nat.reduceSub, List.replicate_succ, List.replicate_zero, List.cons_append, List.nil_append, bx_cons, ↓w_write, ↓wp_Seq, ↓wp_Match, ↓wp_Late, List.getElem?_cons_zero, sl_some, ↓wp_C, bIdx_tup, at_0, op_some, ↓wp_cases1, jnk_str, mf0, cd_f, mf1, cd_t, ↓wp_Ret, ↓wp_Join, ↓wp_js1, Str.empty_append, big_eq, ↓wp_Fmt, ↓wp_Fz, ↓wp_Call, ↓wp_Args1, at_1, List.getElem?_cons_succ, ↓wp_Args0, gPos_eq, List.append_nil, e, ↓wp_ok, fz_str, fx, ↓wp_js0, flk_rt, rtk_rt, and_self, and_true, true_and, p0, p1, p2]
theorem wtr_max {R : Fn} {A B : D} {X Y : Str} (la : A.own = false) (lb : B.own = false) (hX : X.length ≤ 17000) (hY : Y.length ≤ 17000) (ea : R [A] h = .ok (.str X) [] h) (eb : R [B] h = .ok (.str Y) [] h) : runF 4 (m_write R) [.tup [.str "max", A, B]] h = .ok (.str ("max" ++ "(" ++ X ++ ", " ++ Y ++ ")")) [] h := by
  have fx := bFmt_w (x := X) (by omega)
  have fy := bFmt_w (x := Y) (by omega)
  have fm := bFmt_w (x := "max") (by rw [ln_g]; decide)
  have mf0 : [("events" : Str), ("leaf" : Str)].contains ("max" : Str) = false := by kernel_rfl
  have mf1 : [("abs" : Str)].contains ("max" : Str) = false := by kernel_rfl
  have mf2 : [("max" : Str), ("min" : Str)].contains ("max" : Str) = true := by kernel_rfl
  have p0 : ("max" : Str).length ≤ 100000 := by first | omega | (simp only [Str.length_append, ln_0, ln_1, ln_2, ln_3, ln_4, ln_5, ln_6, ln_7, ln_a, ln_b, ln_c, ln_d, ln_e, ln_f, ln_g, ln_h] <;> omega)
  have p1 : (("max" ++ "(") : Str).length ≤ 100000 := by first | omega | (simp only [Str.length_append, ln_0, ln_1, ln_2, ln_3, ln_4, ln_5, ln_6, ln_7, ln_a, ln_b, ln_c, ln_d, ln_e, ln_f, ln_g, ln_h] <;> omega)
  have p2 : ((("max" ++ "(") ++ X) : Str).length ≤ 100000 := by first | omega | (simp only [Str.length_append, ln_0, ln_1, ln_2, ln_3, ln_4, ln_5, ln_6, ln_7, ln_a, ln_b, ln_c, ln_d, ln_e, ln_f, ln_g, ln_h] <;> omega)
  have p3 : (((("max" ++ "(") ++ X) ++ ", ") : Str).length ≤ 100000 := by first | omega | (simp only [Str.length_append, ln_0, ln_1, ln_2, ln_3, ln_4, ln_5, ln_6, ln_7, ln_a, ln_b, ln_c, ln_d, ln_e, ln_f, ln_g, ln_h] <;> omega)
  have p4 : ((((("max" ++ "(") ++ X) ++ ", ") ++ Y) : Str).length ≤ 100000 := by first | omega | (simp only [Str.length_append, ln_0, ln_1, ln_2, ln_3, ln_4, ln_5, ln_6, ln_7, ln_a, ln_b, ln_c, ln_d, ln_e, ln_f, ln_g, ln_h] <;> omega)
  have p5 : (((((("max" ++ "(") ++ X) ++ ", ") ++ Y) ++ ")") : Str).length ≤ 100000 := by first | omega | (simp only [Str.length_append, ln_0, ln_1, ln_2, ln_3, ln_4, ln_5, ln_6, ln_7, ln_a, ln_b, ln_c, ln_d, ln_e, ln_f, ln_g, ln_h] <;> omega)
  apply Wp.eq
  simp only [↓wp_runF, startF, List.map_cons, List.map_nil, List.length_cons, List.length_nil, Nat.zero_add, Nat.reduceSub, List.replicate_succ, List.replicate_zero, List.cons_append, List.nil_append, bx_cons, ↓w_write, ↓wp_Seq, ↓wp_Match, ↓wp_Late, List.getElem?_cons_zero, sl_some, ↓wp_C, bIdx_tup, at_0, op_some, ↓wp_cases1, jnk_str, mf0, cd_f, mf1, mf2, cd_t, ↓wp_Ret, ↓wp_Join, ↓wp_js1, ↓wp_Fmt, fm, Str.empty_append, big_eq, ↓wp_Fz, ↓wp_Call, ↓wp_Args1, at_1, List.getElem?_cons_succ, ↓wp_Args0, gPos_eq, List.append_nil, ea, ↓wp_ok, fz_str, fx, at_2, eb, fy, ↓wp_js0, flk_rt, rtk_rt, and_self, and_true, true_and, p0, p1, p2, p3, p4, p5]
theorem wtr_min {R : Fn} {A B : D} {X Y : Str} (la : A.own = false) (lb : B.own = false) (hX : X.length ≤ 17000) (hY : Y.length ≤ 17000) (ea : R [A] h = .ok (.str X) [] h) (eb : R [B] h = .ok (.str Y) [] h) : runF 4 (m_write R) [.tup [.str "min", A, B]] h = .ok (.str ("min" ++ "(" ++ X ++ ", " ++ Y ++ ")")) [] h := by
  have fx := bFmt_w (x := X) (by omega)
  have fy := bFmt_w (x := Y) (by omega)
  have fm := bFmt_w (x := "min") (by rw [ln_h]; decide)
  have mf0 : [("events" : Str), ("leaf" : Str)].contains ("min" : Str) = false := by kernel_rfl
  have mf1 : [("abs" : Str)].contains ("min" : Str) = false := by kernel_rfl
  have mf2 : [("max" : Str), ("min" : Str)].contains ("min" : Str) = true := by kernel_rfl
  have p0 : ("min" : Str).length ≤ 100000 := by first | omega | (simp only [Str.length_append, ln_0, ln_1, ln_2, ln_3, ln_4, ln_5, ln_6, ln_7, ln_a, ln_b, ln_c, ln_d, ln_e, ln_f, ln_g, ln_h] <;> omega)
  have p1 : (("min" ++ "(") : Str).length ≤ 100000 := by first | omega | (simp only [Str.length_append, ln_0, ln_1, ln_2, ln_3, ln_4, ln_5, ln_6, ln_7, ln_a, ln_b, ln_c, ln_d, ln_e, ln_f, ln_g, ln_h] <;> omega)
  have p2 : ((("min" ++ "(") ++ X) : Str).length ≤ 100000 := by first | omega | (simp only [Str.length_append, ln_0, ln_1, ln_2, ln_3, ln_4, ln_5, ln_6, ln_7, ln_a, ln_b, ln_c, ln_d, ln_e, ln_f, ln_g, ln_h] <;> omega)
  have p3 : (((("min" ++ "(") ++ X) ++ ", ") : Str).length ≤ 100000 := by first | omega | (simp only [Str.length_append, ln_0, ln_1, ln_2, ln_3, ln_4, ln_5, ln_6, ln_7, ln_a, ln_b, ln_c, ln_d, ln_e, ln_f, ln_g, ln_h] <;> omega)
  have p4 : ((((("min" ++ "(") ++ X) ++ ", ") ++ Y) : Str).length ≤ 100000 := by first | omega | (simp only [Str.length_append, ln_0, ln_1, ln_2, ln_3, ln_4, ln_5, ln_6, ln_7, ln_a, ln_b, ln_c, ln_d, ln_e, ln_f, ln_g, ln_h] <;> omega)
  have p5 : (((((("min" ++ "(") ++ X) ++ ", ") ++ Y) ++ ")") : Str).length ≤ 100000 := by first | omega | (simp only [Str.length_append, ln_0, ln_1, ln_2, ln_3, ln_4, ln_5, ln_6, ln_7, ln_a, ln_b, ln_c, ln_d, ln_e, ln_f, ln_g, ln_h] <;> omega)
  apply Wp.eq
  simp only [↓wp_runF, startF, List.map_cons, List.map_nil, List.length_cons, List.length_nil, Nat.zero_add, Nat.reduceSub, List.replicate_succ, List.replicate_zero, List.cons_append, List.nil_append, bx_cons, ↓w_write, ↓wp_Seq, ↓wp_Match, ↓wp_Late, List.getElem?_cons_zero, sl_some, ↓wp_C, bIdx_tup, at_0, op_some, ↓wp_cases1, jnk_str, mf0, cd_f, mf1, mf2, cd_t, ↓wp_Ret, ↓wp_Join, ↓wp_js1, ↓wp_Fmt, fm, Str.empty_append, big_eq, ↓wp_Fz, ↓wp_Call, ↓wp_Args1, at_1, List.getElem?_cons_succ, ↓wp_Args0, gPos_eq, List.append_nil, ea, ↓wp_ok, fz_str, fx, at_2, eb, fy, ↓wp_js0, flk_rt, rtk_rt, and_self, and_true, true_and, p0, p1, p2, p3, p4, p5]
theorem wtr_plus {R : Fn} {A : D} {b : Tr} {X Y : Str} (la : A.own = false) (ok : b.TOk n) (hX : X.length ≤ 17000) (hY : Y.length ≤ 17000) (ea : R [A] h = .ok (.str X) [] h) (eb : R [b.nd] h = .ok (.str Y) [] h) : runF 4 (m_write R) [.tup [.str "plus", A, b.nd]] h = .ok (.str (X ++ " " ++ "+" ++ " " ++ par (b.isSum || b.isNeg) Y)) [] h := by
  obtain ⟨w, r, H⟩ := nd_hd ok
  have c1 := H.c1 h
  have hk := H.k
  have lb := b.nd_own
  rw [H.e] at *
  have b2 := brk (h := h) (H.c2 h) hY eb
  have b0 := brk (h := h) (H.c0 h) hY eb
  clear H
  have f1 : cEq h (.str "plus") (.str "plus") = some true := by kernel_rfl
  have hP := par_len (b.isSum || b.isNeg) Y
  obtain ⟨Z, hZ⟩ : ∃ Z, Z = par (b.isSum || b.isNeg) Y := ⟨_, rfl⟩
  rw [← hZ] at hP ⊢
  have fx := bFmt_w (x := X) (by omega)
  have fz := bFmt_w (x := Z) (by omega)
  have fs := bFmt_w (x := "+") (by first | (rw [ln_p]; decide) | (rw [ln_d]; decide))
  have mf0 : [("events" : Str), ("leaf" : Str)].contains ("plus" : Str) = false := by kernel_rfl
  have mf1 : [("abs" : Str)].contains ("plus" : Str) = false := by kernel_rfl
  have mf2 : [("max" : Str), ("min" : Str)].contains ("plus" : Str) = false := by kernel_rfl
  have mf3 : [("times" : Str)].contains ("plus" : Str) = false := by kernel_rfl
  have p0 : (X : Str).length ≤ 100000 := by first | omega | (simp only [Str.length_append, ln_0, ln_1, ln_2, ln_3, ln_4, ln_5, ln_6, ln_7, ln_a, ln_b, ln_c, ln_d, ln_e, ln_f, ln_g, ln_h, ln_p] <;> omega)
  have p1 : ((X ++ " ") : Str).length ≤ 100000 := by first | omega | (simp only [Str.length_append, ln_0, ln_1, ln_2, ln_3, ln_4, ln_5, ln_6, ln_7, ln_a, ln_b, ln_c, ln_d, ln_e, ln_f, ln_g, ln_h, ln_p] <;> omega)
  have p2 : (((X ++ " ") ++ "+") : Str).length ≤ 100000 := by first | omega | (simp only [Str.length_append, ln_0, ln_1, ln_2, ln_3, ln_4, ln_5, ln_6, ln_7, ln_a, ln_b, ln_c, ln_d, ln_e, ln_f, ln_g, ln_h, ln_p] <;> omega)
  have p3 : ((((X ++ " ") ++ "+") ++ " ") : Str).length ≤ 100000 := by first | omega | (simp only [Str.length_append, ln_0, ln_1, ln_2, ln_3, ln_4, ln_5, ln_6, ln_7, ln_a, ln_b, ln_c, ln_d, ln_e, ln_f, ln_g, ln_h, ln_p] <;> omega)
  have p4 : (((((X ++ " ") ++ "+") ++ " ") ++ Z) : Str).length ≤ 100000 := by first | omega | (simp only [Str.length_append, ln_0, ln_1, ln_2, ln_3, ln_4, ln_5, ln_6, ln_7, ln_a, ln_b, ln_c, ln_d, ln_e, ln_f, ln_g, ln_h, ln_p] <;> omega)
  by_cases tm : b.isTm = true
  · obtain ⟨k, r', rfl, hn⟩ := hk tm
    have hs : b.isSum = false := by cases b <;> first | rfl | cases tm
    rw [tm] at c1 b0
    rw [hs] at b2 hZ
    by_cases z : k < 0
    · rw [hn, decide_eq_true z] at hZ
      rw [show par true Y = Z from hZ.symm] at b0
      apply Wp.eq
      simp only [↓wp_runF, startF, List.map_cons, List.map_nil, List.length_cons, List.length_nil, Nat.zero_add, Nat.reduceSub, List.replicate_succ, List.replicate_zero, List.cons_append, List.nil_append, bx_cons, ↓w_write, ↓wp_Seq, ↓wp_Match, ↓wp_Late, List.getElem?_cons_zero, sl_some, ↓wp_C, bIdx_tup, at_0, op_some, ↓wp_cases1, jnk_str, mf0, cd_f, mf1, mf2, mf3, ↓wp_cases0, flk_nx, ↓w_write_k1, ↓wp_Put, ↓wp_If, ↓wp_Op, f1, cd_t, List.set_cons_succ, List.set_cons_zero, ↓w_write_k2, ↓wp_Tup, ↓wp_Args1, ↓wp_Args0, Nat.reduceAdd, big_eq, Nat.reduceLeDiff, ↓w_write_k3, ↓wp_IfS, ↓wp_And, at_2, List.getElem?_cons_succ, c1, at_1, cInt_int, z, decide_true, ↓wp_Ret, ↓wp_Join, ↓wp_js1, ↓wp_Fmt, ↓wp_Fz, ↓wp_Call, gPos_eq, List.append_nil, ea, ↓wp_ok, fz_str, fx, Str.empty_append, ↓wp_Var, own_str, fs, own_tup, b0, fz, ↓wp_js0, rtk_rt, and_self, and_true, true_and, p0, p1, p2, p3, p4]
    · rw [hn, decide_eq_false z] at hZ
      rw [show par false Y = Z from hZ.symm] at b2
      apply Wp.eq
      simp only [↓wp_runF, startF, List.map_cons, List.map_nil, List.length_cons, List.length_nil, Nat.zero_add, Nat.reduceSub, List.replicate_succ, List.replicate_zero, List.cons_append, List.nil_append, bx_cons, ↓w_write, ↓wp_Seq, ↓wp_Match, ↓wp_Late, List.getElem?_cons_zero, sl_some, ↓wp_C, bIdx_tup, at_0, op_some, ↓wp_cases1, jnk_str, mf0, cd_f, mf1, mf2, mf3, ↓wp_cases0, flk_nx, ↓w_write_k1, ↓wp_Put, ↓wp_If, ↓wp_Op, f1, cd_t, List.set_cons_succ, List.set_cons_zero, ↓w_write_k2, ↓wp_Tup, ↓wp_Args1, ↓wp_Args0, Nat.reduceAdd, big_eq, Nat.reduceLeDiff, ↓w_write_k3, ↓wp_IfS, ↓wp_And, at_2, List.getElem?_cons_succ, c1, at_1, cInt_int, z, decide_false, ↓wp_ret, ↓wp_Ret, ↓wp_Join, ↓wp_js1, ↓wp_Fmt, ↓wp_Fz, ↓wp_Call, gPos_eq, List.append_nil, ea, ↓wp_ok, fz_str, fx, Str.empty_append, ↓wp_Var, own_str, fs, own_tup, b2, fz, ↓wp_js0, rtk_rt, and_self, and_true, true_and, p0, p1, p2, p3, p4]
  · rw [Bool.not_eq_true] at tm
    rw [tm] at c1
    have hn : b.isNeg = false := by cases b <;> first | rfl | cases tm
    rw [hn, Bool.or_false] at hZ
    rw [← hZ] at b2
    apply Wp.eq
    simp only [↓wp_runF, startF, List.map_cons, List.map_nil, List.length_cons, List.length_nil, Nat.zero_add, Nat.reduceSub, List.replicate_succ, List.replicate_zero, List.cons_append, List.nil_append, bx_cons, ↓w_write, ↓wp_Seq, ↓wp_Match, ↓wp_Late, List.getElem?_cons_zero, sl_some, ↓wp_C, bIdx_tup, at_0, op_some, ↓wp_cases1, jnk_str, mf0, cd_f, mf1, mf2, mf3, ↓wp_cases0, flk_nx, ↓w_write_k1, ↓wp_Put, ↓wp_If, ↓wp_Op, f1, cd_t, List.set_cons_succ, List.set_cons_zero, ↓w_write_k2, ↓wp_Tup, ↓wp_Args1, ↓wp_Args0, Nat.reduceAdd, big_eq, Nat.reduceLeDiff, ↓w_write_k3, ↓wp_IfS, ↓wp_And, at_2, List.getElem?_cons_succ, c1, ↓wp_ret, ↓wp_Ret, ↓wp_Join, ↓wp_js1, ↓wp_Fmt, ↓wp_Fz, ↓wp_Call, at_1, gPos_eq, List.append_nil, ea, ↓wp_ok, fz_str, fx, Str.empty_append, ↓wp_Var, own_str, fs, own_tup, b2, fz, ↓wp_js0, rtk_rt, and_self, and_true, true_and, p0, p1, p2, p3, p4]
theorem wtr_minus {R : Fn} {A : D} {b : Tr} {X Y : Str} (la : A.own = false) (ok : b.TOk n) (hX : X.length ≤ 17000) (hY : Y.length ≤ 17000) (ea : R [A] h = .ok (.str X) [] h) (eb : R [b.nd] h = .ok (.str Y) [] h) : runF 4 (m_write R) [.tup [.str "minus", A, b.nd]] h = .ok (.str (X ++ " " ++ "-" ++ " " ++ par (b.isSum || b.isNeg) Y)) [] h := by
  obtain ⟨w, r, H⟩ := nd_hd ok
  have c1 := H.c1 h
  have hk := H.k
  have lb := b.nd_own
  rw [H.e] at *
  have b2 := brk (h := h) (H.c2 h) hY eb
  have b0 := brk (h := h) (H.c0 h) hY eb
  clear H
  have f1 : cEq h (.str "minus") (.str "plus") = some false := by kernel_rfl
  have hP := par_len (b.isSum || b.isNeg) Y
  obtain ⟨Z, hZ⟩ : ∃ Z, Z = par (b.isSum || b.isNeg) Y := ⟨_, rfl⟩
  rw [← hZ] at hP ⊢
  have fx := bFmt_w (x := X) (by omega)
  have fz := bFmt_w (x := Z) (by omega)
  have fs := bFmt_w (x := "-") (by first | (rw [ln_p]; decide) | (rw [ln_d]; decide))
  have mf0 : [("events" : Str), ("leaf" : Str)].contains ("minus" : Str) = false := by kernel_rfl
  have mf1 : [("abs" : Str)].contains ("minus" : Str) = false := by kernel_rfl
  have mf2 : [("max" : Str), ("min" : Str)].contains ("minus" : Str) = false := by kernel_rfl
  have mf3 : [("times" : Str)].contains ("minus" : Str) = false := by kernel_rfl
  have p0 : (X : Str).length ≤ 100000 := by first | omega | (simp only [Str.length_append, ln_0, ln_1, ln_2, ln_3, ln_4, ln_5, ln_6, ln_7, ln_a, ln_b, ln_c, ln_d, ln_e, ln_f, ln_g, ln_h, ln_p] <;> omega)
  have p1 : ((X ++ " ") : Str).length ≤ 100000 := by first | omega | (simp only [Str.length_append, ln_0, ln_1, ln_2, ln_3, ln_4, ln_5, ln_6, ln_7, ln_a, ln_b, ln_c, ln_d, ln_e, ln_f, ln_g, ln_h, ln_p] <;> omega)
  have p2 : (((X ++ " ") ++ "-") : Str).length ≤ 100000 := by first | omega | (simp only [Str.length_append, ln_0, ln_1, ln_2, ln_3, ln_4, ln_5, ln_6, ln_7, ln_a, ln_b, ln_c, ln_d, ln_e, ln_f, ln_g, ln_h, ln_p] <;> omega)
  have p3 : ((((X ++ " ") ++ "-") ++ " ") : Str).length ≤ 100000 := by first | omega | (simp only [Str.length_append, ln_0, ln_1, ln_2, ln_3, ln_4, ln_5, ln_6, ln_7, ln_a, ln_b, ln_c, ln_d, ln_e, ln_f, ln_g, ln_h, ln_p] <;> omega)
  have p4 : (((((X ++ " ") ++ "-") ++ " ") ++ Z) : Str).length ≤ 100000 := by first | omega | (simp only [Str.length_append, ln_0, ln_1, ln_2, ln_3, ln_4, ln_5, ln_6, ln_7, ln_a, ln_b, ln_c, ln_d, ln_e, ln_f, ln_g, ln_h, ln_p] <;> omega)
  by_cases tm : b.isTm = true
  · obtain ⟨k, r', rfl, hn⟩ := hk tm
    have hs : b.isSum = false := by cases b <;> first | rfl | cases tm
    rw [tm] at c1 b0
    rw [hs] at b2 hZ
    by_cases z : k < 0
    · rw [hn, decide_eq_true z] at hZ
      rw [show par true Y = Z from hZ.symm] at b0
      apply Wp.eq
      simp only [↓wp_runF, startF, List.map_cons, List.map_nil, List.length_cons, List.length_nil, Nat.zero_add, Nat.reduceSub, List.replicate_succ, List.replicate_zero, List.cons_append, List.nil_append, bx_cons, ↓w_write, ↓wp_Seq, ↓wp_Match, ↓wp_Late, List.getElem?_cons_zero, sl_some, ↓wp_C, bIdx_tup, at_0, op_some, ↓wp_cases1, jnk_str, mf0, cd_f, mf1, mf2, mf3, ↓wp_cases0, flk_nx, ↓w_write_k1, ↓wp_Put, ↓wp_If, ↓wp_Op, f1, List.set_cons_succ, List.set_cons_zero, ↓w_write_k2, ↓wp_Tup, ↓wp_Args1, ↓wp_Args0, Nat.reduceAdd, big_eq, Nat.reduceLeDiff, ↓w_write_k3, ↓wp_IfS, ↓wp_And, at_2, List.getElem?_cons_succ, c1, cd_t, at_1, cInt_int, z, decide_true, ↓wp_Ret, ↓wp_Join, ↓wp_js1, ↓wp_Fmt, ↓wp_Fz, ↓wp_Call, gPos_eq, List.append_nil, ea, ↓wp_ok, fz_str, fx, Str.empty_append, ↓wp_Var, own_str, fs, own_tup, b0, fz, ↓wp_js0, rtk_rt, and_self, and_true, true_and, p0, p1, p2, p3, p4]
    · rw [hn, decide_eq_false z] at hZ
      rw [show par false Y = Z from hZ.symm] at b2
      apply Wp.eq
      simp only [↓wp_runF, startF, List.map_cons, List.map_nil, List.length_cons, List.length_nil, Nat.zero_add, Nat.reduceSub, List.replicate_succ, List.replicate_zero, List.cons_append, List.nil_append, bx_cons, ↓w_write, ↓wp_Seq, ↓wp_Match, ↓wp_Late, List.getElem?_cons_zero, sl_some, ↓wp_C, bIdx_tup, at_0, op_some, ↓wp_cases1, jnk_str, mf0, cd_f, mf1, mf2, mf3, ↓wp_cases0, flk_nx, ↓w_write_k1, ↓wp_Put, ↓wp_If, ↓wp_Op, f1, List.set_cons_succ, List.set_cons_zero, ↓w_write_k2, ↓wp_Tup, ↓wp_Args1, ↓wp_Args0, Nat.reduceAdd, big_eq, Nat.reduceLeDiff, ↓w_write_k3, ↓wp_IfS, ↓wp_And, at_2, List.getElem?_cons_succ, c1, cd_t, at_1, cInt_int, z, decide_false, ↓wp_ret, ↓wp_Ret, ↓wp_Join, ↓wp_js1, ↓wp_Fmt, ↓wp_Fz, ↓wp_Call, gPos_eq, List.append_nil, ea, ↓wp_ok, fz_str, fx, Str.empty_append, ↓wp_Var, own_str, fs, own_tup, b2, fz, ↓wp_js0, rtk_rt, and_self, and_true, true_and, p0, p1, p2, p3, p4]
  · rw [Bool.not_eq_true] at tm
    rw [tm] at c1
    have hn : b.isNeg = false := by cases b <;> first | rfl | cases tm
    rw [hn, Bool.or_false] at hZ
    rw [← hZ] at b2
    apply Wp.eq
    simp only [↓wp_runF, startF, List.map_cons, List.map_nil, List.length_cons, List.length_nil, Nat.zero_add, Nat.reduceSub, List.replicate_succ, List.replicate_zero, List.cons_append, List.nil_append, bx_cons, ↓w_write, ↓wp_Seq, ↓wp_Match, ↓wp_Late, List.getElem?_cons_zero, sl_some, ↓wp_C, bIdx_tup, at_0, op_some, ↓wp_cases1, jnk_str, mf0, cd_f, mf1, mf2, mf3, ↓wp_cases0, flk_nx, ↓w_write_k1, ↓wp_Put, ↓wp_If, ↓wp_Op, f1, List.set_cons_succ, List.set_cons_zero, ↓w_write_k2, ↓wp_Tup, ↓wp_Args1, ↓wp_Args0, Nat.reduceAdd, big_eq, Nat.reduceLeDiff, ↓w_write_k3, ↓wp_IfS, ↓wp_And, at_2, List.getElem?_cons_succ, c1, ↓wp_ret, ↓wp_Ret, ↓wp_Join, ↓wp_js1, ↓wp_Fmt, ↓wp_Fz, ↓wp_Call, at_1, gPos_eq, List.append_nil, ea, ↓wp_ok, fz_str, fx, Str.empty_append, ↓wp_Var, own_str, fs, own_tup, b2, fz, ↓wp_js0, rtk_rt, and_self, and_true, true_and, p0, p1, p2, p3, p4]
theorem write_tr (h4 : n ≤ 4) : ∀ (t : Tr) (j : Nat), t.TOk n → t.dep ≤ 8 → t.dep < j → fr_write j [t.nd] h = .ok (.str t.txt) [] h
  | .lf l, j + 1, ok, _, _ => write_lf h4 ok
  | .tm k t, j + 1, ok, hd, hj => by
    have hd' : t.dep + 1 ≤ 8 := hd
    exact wtr_tm ok.1.1 ok.1.2 ok.2 (tr_len8 h4 ok.2 (by omega)) (write_tr h4 t j ok.2 (by omega) (Nat.lt_of_succ_lt_succ hj))
  | .ab t, j + 1, ok, hd, hj => by
    have hd' : t.dep + 1 ≤ 8 := hd
    exact wtr_ab t.nd_own (tr_len8 h4 (t := t) ok (by omega)) (write_tr h4 t j ok (by omega) (Nat.lt_of_succ_lt_succ hj))
  | .bi o a b, j + 1, ok, hd, hj => by
    have hd' : max a.dep b.dep + 1 ≤ 8 := hd
    have hj' : max a.dep b.dep < j := Nat.lt_of_succ_lt_succ hj
    have ia := write_tr h4 a j ok.2.1 (by omega) (by omega)
    have ib := write_tr h4 b j ok.2.2 (by omega) (by omega)
    have la := tr_len8 h4 (t := a) ok.2.1 (by omega)
    have lb := tr_len8 h4 (t := b) ok.2.2 (by omega)
    have ho := ok.1
    have ho' : o = 0 ∨ o = 1 ∨ o = 2 ∨ o = 3 := by omega
    rcases ho' with rfl | rfl | rfl | rfl
    · exact wtr_plus a.nd_own ok.2.2 la lb ia ib
    · exact wtr_minus a.nd_own ok.2.2 la lb ia ib
    · exact wtr_max a.nd_own b.nd_own la lb ia ib
    · exact wtr_min a.nd_own b.nd_own la lb ia ib
end
end L

/-! nodes compared; terms equal just if their texts are the same -/
namespace L
open PySem PySem.Spec L2 Pk
def Tr.P : Tr → PyData
  | .lf l => Em.si.tup.f l.nd
  | .tm k t => .tuple [.str "times", .int k, t.P]
  | .ab t => .tuple [.str "abs", t.P]
  | .bi o a b => .tuple [.str (opN o), a.P, b.P]
theorem toP_tr : ∀ t : Tr, t.nd.toP = some t.P
  | .lf l => toP_tup Em.si toP_si l.nd
  | .tm k t => by
    show (D.tup [.str "times", .int k, t.nd]).toP = _
    simp only [D.toP, D.toPs, toP_tr t, Option.map_some]
    rfl
  | .ab t => by
    show (D.tup [.str "abs", t.nd]).toP = _
    simp only [D.toP, D.toPs, toP_tr t, Option.map_some]
    rfl
  | .bi o a b => by
    show (D.tup [.str (opN o), a.nd, b.nd]).toP = _
    simp only [D.toP, D.toPs, toP_tr a, toP_tr b, Option.map_some]
    rfl
theorem P_dep : ∀ t : Tr, t.P.depth ≤ t.dep + 1
  | .lf l => Em.si.tup.dep l.nd
  | .tm k t => by
    have := P_dep t
    show PyData.depth (.tuple [.str "times", .int k, t.P]) ≤ t.dep + 1 + 1
    simp only [PyData.depth, PyData.depthAll]
    omega
  | .ab t => by
    have := P_dep t
    show PyData.depth (.tuple [.str "abs", t.P]) ≤ t.dep + 1 + 1
    simp only [PyData.depth, PyData.depthAll]
    omega
  | .bi o a b => by
    have := P_dep a
    have := P_dep b
    show PyData.depth (.tuple [.str (opN o), a.P, b.P]) ≤ max a.dep b.dep + 1 + 1
    simp only [PyData.depth, PyData.depthAll]
    omega
theorem opN_G (o : Nat) : PyData.canLay0 (.str (opN o)) = true := by
  match o with
  | 0 => kernel_rfl
  | 1 => kernel_rfl
  | 2 => kernel_rfl
  | _ + 3 => show PyData.canLay0 (.str "min") = true; kernel_rfl
theorem P_lay {n : Nat} : ∀ t : Tr, t.TOk n → t.P.canLay0 = true
  | .lf l, ok => Em.si.tup.lay l.nd (Lf.nd_ok ok)
  | .tm k t, ok => by
    have ih := P_lay t ok.2
    have g : PyData.canLay0 (.str "times") = true := by kernel_rfl
    have gi : PyData.canLay0 (.int k) = true := rfl
    show PyData.canLayAll0 [.str "times", .int k, t.P] = true
    simp only [PyData.canLayAll0, g, gi, ih, Bool.and_self]
  | .ab t, ok => by
    have ih := P_lay t ok
    have g : PyData.canLay0 (.str "abs") = true := by kernel_rfl
    show PyData.canLayAll0 [.str "abs", t.P] = true
    simp only [PyData.canLayAll0, g, ih, Bool.and_self]
  | .bi o a b, ok => by
    have ia := P_lay a ok.2.1
    have ib := P_lay b ok.2.2
    show PyData.canLayAll0 [.str (opN o), a.P, b.P] = true
    simp only [PyData.canLayAll0, opN_G o, ia, ib, Bool.and_self]
theorem se (a b : Str) : PyData.eqv (.str a) (.str b) = decide (a = b) := Em.str.eq a b
theorem ie (a b : Int) : PyData.eqv (.int a) (.int b) = decide (a = b) := Em.int.eq a b
/-- the head of a node -/
def hdP (p : PyData) : Str := match p with
  | .tuple (.str s :: _) => s
  | _ => ""
theorem hd_ne : ∀ {p q : PyData}, hdP p ≠ "" → hdP q ≠ "" → hdP p ≠ hdP q → PyData.eqv p q = false := by
  intro p q hp hq hne
  unfold hdP at hp hq hne
  split at hp
  · split at hq
    · rw [PyData.eqv, PyData.eqvAll, se]
      have : decide (_ = _) = false := decide_eq_false hne
      rw [this, Bool.false_and]
    · exact absurd rfl hq
  · exact absurd rfl hp
def Tr.hw : Tr → Str
  | .lf (.ev _ _) => "events"
  | .lf _ => "leaf"
  | .tm _ _ => "times"
  | .ab _ => "abs"
  | .bi o _ _ => opN o
theorem hdP_tr (t : Tr) : hdP t.P = t.hw := by
  cases t with
  | lf l => cases l <;> rfl
  | tm k t => rfl
  | ab t => rfl
  | bi o a b => rfl
theorem w_ne : ("events" : Str) ≠ "" ∧ ("leaf" : Str) ≠ "" ∧ ("times" : Str) ≠ "" ∧ ("abs" : Str) ≠ "" ∧ ("plus" : Str) ≠ "" ∧ ("minus" : Str) ≠ "" ∧ ("max" : Str) ≠ "" ∧ ("min" : Str) ≠ "" := by decide +kernel
theorem opN_or (o : Nat) : opN o = "plus" ∨ opN o = "minus" ∨ opN o = "max" ∨ opN o = "min" := by
  match o with
  | 0 => exact .inl rfl
  | 1 => exact .inr (.inl rfl)
  | 2 => exact .inr (.inr (.inl rfl))
  | _ + 3 => exact .inr (.inr (.inr rfl))
theorem hw_ne (t : Tr) : t.hw ≠ "" := by
  obtain ⟨a1, a2, a3, a4, a5, a6, a7, a8⟩ := w_ne
  cases t with
  | lf l => cases l <;> assumption
  | tm k t => exact a3
  | ab t => exact a4
  | bi o a b =>
    show opN o ≠ ""
    rcases opN_or o with e | e | e | e <;> rw [e] <;> assumption
def Tr.kd : Tr → Nat
  | .lf _ => 0
  | .tm _ _ => 1
  | .ab _ => 2
  | .bi _ _ _ => 3
theorem kd_ne {t u : Tr} (h : t.kd ≠ u.kd) : t.hw ≠ u.hw := by
  have o1 : ∀ o, opN o ≠ "events" ∧ opN o ≠ "leaf" ∧ opN o ≠ "times" ∧ opN o ≠ "abs" := fun o => by
    rcases opN_or o with e | e | e | e <;> rw [e] <;> decide +kernel
  have d1 : ("events" : Str) ≠ "times" ∧ ("events" : Str) ≠ "abs" ∧ ("leaf" : Str) ≠ "times" ∧ ("leaf" : Str) ≠ "abs" ∧ ("times" : Str) ≠ "abs" := by decide +kernel
  obtain ⟨d1, d2, d3, d4, d5⟩ := d1
  cases t with
  | lf l => cases u with
    | lf m => exact absurd rfl h
    | tm k u => cases l <;> assumption
    | ab u => cases l <;> assumption
    | bi o a b => cases l <;> first | exact (o1 o).1.symm | exact (o1 o).2.1.symm
  | tm k t => cases u with
    | lf m => cases m <;> first | exact d1.symm | exact d3.symm
    | tm k u => exact absurd rfl h
    | ab u => exact d5
    | bi o a b => exact (o1 o).2.2.1.symm
  | ab t => cases u with
    | lf m => cases m <;> first | exact d2.symm | exact d4.symm
    | tm k u => exact d5.symm
    | ab u => exact absurd rfl h
    | bi o a b => exact (o1 o).2.2.2.symm
  | bi o a b => cases u with
    | lf m => cases m <;> first | exact (o1 o).1 | exact (o1 o).2.1
    | tm k u => exact (o1 o).2.2.1
    | ab u => exact (o1 o).2.2.2
    | bi o a b => exact absurd rfl h
theorem kd_eqv {t u : Tr} (h : t.kd ≠ u.kd) : PyData.eqv t.P u.P = decide (t = u) := by
  rw [decide_eq_false (fun e => h (by rw [e]))]
  exact hd_ne (by rw [hdP_tr]; exact hw_ne t) (by rw [hdP_tr]; exact hw_ne u) (by rw [hdP_tr, hdP_tr]; exact kd_ne h)
theorem opN_inj {o q : Nat} (ho : o < 4) (hq : q < 4) : opN o = opN q ↔ o = q := by
  have h1 : o = 0 ∨ o = 1 ∨ o = 2 ∨ o = 3 := by omega
  have h2 : q = 0 ∨ q = 1 ∨ q = 2 ∨ q = 3 := by omega
  rcases h1 with rfl | rfl | rfl | rfl <;> rcases h2 with rfl | rfl | rfl | rfl <;> decide +kernel
theorem P_eq {n : Nat} : ∀ t u : Tr, t.TOk n → u.TOk n → PyData.eqv t.P u.P = decide (t = u)
  | .lf l, .lf m, _, _ => by
    show PyData.eqv (Em.si.tup.f l.nd) (Em.si.tup.f m.nd) = _
    rw [Em.si.tup.eq]
    by_cases e : l = m
    · subst e
      rw [decide_eq_true rfl, decide_eq_true rfl]
    · rw [decide_eq_false (fun z => e (Lf.nd_inj.mp z)), decide_eq_false (fun z => e (by injection z))]
  | .tm k t, .tm j u, o1, o2 => by
    have ih := P_eq t u o1.2 o2.2
    show PyData.eqvAll [.str "times", .int k, t.P] [.str "times", .int j, u.P] = _
    simp only [PyData.eqvAll, se, ie, ih]
    by_cases e1 : k = j <;> by_cases e2 : t = u <;> simp [e1, e2]
  | .ab t, .ab u, o1, o2 => by
    have ih := P_eq t u o1 o2
    show PyData.eqvAll [.str "abs", t.P] [.str "abs", u.P] = _
    simp only [PyData.eqvAll, se, ih]
    by_cases e2 : t = u <;> simp [e2]
  | .bi o a b, .bi q c d, o1, o2 => by
    have ia := P_eq a c o1.2.1 o2.2.1
    have ib := P_eq b d o1.2.2 o2.2.2
    have io := opN_inj o1.1 o2.1
    show PyData.eqvAll [.str (opN o), a.P, b.P] [.str (opN q), c.P, d.P] = _
    simp only [PyData.eqvAll, se, ia, ib]
    by_cases e1 : o = q <;> by_cases e2 : a = c <;> by_cases e3 : b = d <;> simp [io, e1, e2, e3]
  | .lf l, .tm j u, _, _ => kd_eqv (by simp [Tr.kd])
  | .lf l, .ab u, _, _ => kd_eqv (by simp [Tr.kd])
  | .lf l, .bi o a b, _, _ => kd_eqv (by simp [Tr.kd])
  | .tm k t, .lf m, _, _ => kd_eqv (by simp [Tr.kd])
  | .tm k t, .ab u, _, _ => kd_eqv (by simp [Tr.kd])
  | .tm k t, .bi o a b, _, _ => kd_eqv (by simp [Tr.kd])
  | .ab t, .lf m, _, _ => kd_eqv (by simp [Tr.kd])
  | .ab t, .tm j u, _, _ => kd_eqv (by simp [Tr.kd])
  | .ab t, .bi o a b, _, _ => kd_eqv (by simp [Tr.kd])
  | .bi o a b, .lf m, _, _ => kd_eqv (by simp [Tr.kd])
  | .bi o a b, .tm j u, _, _ => kd_eqv (by simp [Tr.kd])
  | .bi o a b, .ab u, _, _ => kd_eqv (by simp [Tr.kd])
section
variable {h : Hh} {n : Nat}
theorem P_shaped {t : Tr} (ok : t.TOk n) (hd : t.dep ≤ 20) : SeqAt.shaped t.P = true := by
  have := P_dep t
  unfold SeqAt.shaped
  rw [P_lay t ok, decide_eq_true (by omega)]
  rfl
theorem cEq_tr {t u : Tr} (o1 : t.TOk n) (o2 : u.TOk n) (d1 : t.dep ≤ 20) (d2 : u.dep ≤ 20) : cEq h t.nd u.nd = some (decide (t = u)) := by
  unfold cEq
  rw [toP_tr, toP_tr]
  dsimp only
  rw [P_shaped o1 d1, P_shaped o2 d2, P_eq t u o1 o2]
  rfl
theorem term_eq {t u : Tr} (o1 : t.TOk n) (o2 : u.TOk n) (d1 : t.dep ≤ 20) (d2 : u.dep ≤ 20) : f_Term____eq__ [tm n t.nd, tm n u.nd] h = .ok (.bl (decide (t = u))) [] h := by
  have e := cEq_tr (h := h) o1 o2 d1 d2
  have a1 := t.nd_own
  have a2 := u.nd_own
  unfold tm
  generalize decide (t = u) = z at *
  generalize t.nd = x at *
  generalize u.nd = y at *
  apply Wp.eq
  cases z
  · simp only [↓wf_Term____eq__, ↓wp_runF, startF, List.map_cons, List.map_nil, List.length_cons, List.length_nil, Nat.zero_add, Nat.reduceAdd, Nat.reduceSub, List.replicate_zero, List.append_nil, bx_cons, ↓w_Term____eq__, ↓wp_Seq, ↓wp_IfS, ↓wp_Not, ↓wp_Un, ↓wp_Op, ↓wp_Var, List.getElem?_cons_succ, List.getElem?_cons_zero, List.set_cons_succ, List.set_cons_zero, sl_some, own_obj, cd_f, ↓wp_C, isi_term, op_some, tru_bl, Bool.not_true, ↓wp_ret, flk_nx, ↓wp_Ret, ↓wp_AndV, ↓wp_Bor, fld_obj, v_ix_readings_0, cEq_ii, decide_true, Option.map_some, tb_bl, cd_t, v_ix_node_0, e, rtk_rt, and_self]
  · simp only [↓wf_Term____eq__, ↓wp_runF, startF, List.map_cons, List.map_nil, List.length_cons, List.length_nil, Nat.zero_add, Nat.reduceAdd, Nat.reduceSub, List.replicate_zero, List.append_nil, bx_cons, ↓w_Term____eq__, ↓wp_Seq, ↓wp_IfS, ↓wp_Not, ↓wp_Un, ↓wp_Op, ↓wp_Var, List.getElem?_cons_succ, List.getElem?_cons_zero, List.set_cons_succ, List.set_cons_zero, sl_some, own_obj, cd_f, ↓wp_C, isi_term, op_some, tru_bl, Bool.not_true, ↓wp_ret, flk_nx, ↓wp_Ret, ↓wp_AndV, ↓wp_Bor, fld_obj, v_ix_readings_0, cEq_ii, decide_true, Option.map_some, tb_bl, cd_t, v_ix_node_0, e, rtk_rt, and_self]
theorem term_other {m : Nat} {x y : D} (hm : n ≠ m) (xo : x.own = false) (yo : y.own = false) : f_Term____eq__ [tm n x, tm m y] h = .ok (.bl false) [] h := by
  have e : ¬ ((n : Int) = (m : Int)) := by omega
  unfold tm
  apply Wp.eq
  simp only [↓wf_Term____eq__, ↓wp_runF, startF, List.map_cons, List.map_nil, List.length_cons, List.length_nil, Nat.zero_add, Nat.reduceAdd, Nat.reduceSub, List.replicate_zero, List.append_nil, bx_cons, ↓w_Term____eq__, ↓wp_Seq, ↓wp_IfS, ↓wp_Not, ↓wp_Un, ↓wp_Op, ↓wp_Var, List.getElem?_cons_succ, List.getElem?_cons_zero, List.set_cons_succ, List.set_cons_zero, sl_some, own_obj, cd_f, ↓wp_C, isi_term, op_some, tru_bl, Bool.not_true, ↓wp_ret, flk_nx, ↓wp_Ret, ↓wp_AndV, ↓wp_Bor, fld_obj, v_ix_readings_0, cEq_ii, e, decide_false, Option.map_some, tb_bl, rtk_rt, and_self]
theorem text_tr (h4 : n ≤ 4) {t : Tr} (ok : t.TOk n) (hd : t.dep ≤ 5) : f_Term__text [tm n t.nd] h = .ok (.str t.txt) [] h := by
  have e : f_write [t.nd] h = .ok (.str t.txt) [] h := write_tr h4 t 6 ok (by omega) (by omega)
  have o := t.nd_own
  unfold tm
  generalize t.nd = z at *
  apply Wp.eq
  simp only [↓wf_Term__text, ↓wp_runF, startF, List.map_cons, List.map_nil, List.length_cons, List.length_nil, Nat.zero_add, Nat.reduceSub, List.replicate_zero, List.append_nil, bx_cons, ↓w_Term__text, ↓wp_Ret, ↓wp_Call, ↓wp_Args1, ↓wp_Un, ↓wp_Bor, List.getElem?_cons_zero, sl_some, fld_obj, v_ix_node_0, op_some, List.getElem?_cons_succ, ↓wp_Args0, gPos_eq, e, ↓wp_ok, rtk_rt, and_self]
theorem is_spec (h4 : n ≤ 4) {t : Tr} (ok : t.TOk n) (hd : t.dep ≤ 5) : f__law_is [tm n t.nd, t.ld, .int (n : Int)] h = .ok (.bl true) [] h := by
  have e1 := text_tr (h := h) h4 ok hd
  have e2 : f__law_text [t.ld] h = .ok (.str t.txt) [] h := ltext_tr h4 t 6 ok (by omega) (by omega)
  have c := Pk.cEq_ss (h := h) (tr_strG h4 t ok) (tr_strG h4 t ok)
  rw [decide_eq_true rfl] at c
  have o := t.nd_own
  have lo := t.ld_own
  unfold tm at *
  generalize t.nd = z at *
  generalize t.ld = y at *
  generalize t.txt = T at *
  apply Wp.eq
  simp only [↓wf__law_is, ↓wp_runF, startF, List.map_cons, List.map_nil, List.length_cons, List.length_nil, Nat.zero_add, Nat.reduceAdd, Nat.reduceSub, List.replicate_zero, List.append_nil, bx_cons, ↓w__law_is, ↓wp_Ret, ↓wp_AndV, ↓wp_Op, ↓wp_Var, List.getElem?_cons_zero, List.set_cons_zero, sl_some, own_obj, cd_f, ↓wp_C, isi_term, op_some, tb_bl, cd_t, ↓wp_Fz, ↓wp_Prop, fnOf_obj, v_pt_text_0, e1, ↓wp_ok, ↓wp_Call, ↓wp_Args1, List.getElem?_cons_succ, List.set_cons_succ, lo, ↓wp_Args0, gPos_eq, e2, fz_str, c, Option.map_some, ↓wp_Un, ↓wp_Bor, fld_obj, v_ix_readings_0, cEq_ii, decide_true, rtk_rt, and_self]
end
end L

/-! k22: the law -/
namespace L
open PySem PySem.Spec L2 Pk
section
variable {h : Hh} {n s k : Nat} {C : Int} {ns : List Int}
def Fin (ns : List Int) (f : Fl) (fr : Fr) : Prop := (f = .nx ∨ f = .ct) ∧ ∃ x1 ys, fr = some (.kl (ns.map .int)) :: x1 :: ys ∧ ys.length = 10 - 2
theorem tl12 {t : Tr} (h2 : 2 ≤ n) (h4 : n ≤ 4) (ok : t.TOk n) (x0 : D) (x1 x2 x5 x7 x8 x9 : Option D) (hx : x0 = .kl (ns.map .int)) :
    Wp (m_law_t1_k12 [some x0, x1, x2, some (.int (n : Int)), some t.ld, x5, some (tm n t.nd), x7, x8, x9] h) (fun f fr _ => Fin ns f fr) NoE := by
  subst hx
  obtain ⟨w, e⟩ : ∃ w : Nat, (if (n : Int) < 4 then (4 : Int) else 3) = (w : Int) ∧ n ≠ w ∧ w ≤ 4 := by
    by_cases z : n = 4
    · exact ⟨3, by rw [if_neg (by omega)]; rfl, by omega, by omega⟩
    · exact ⟨4, by rw [if_pos (by omega)]; rfl, by omega, by omega⟩
  obtain ⟨ew, nw, w4⟩ := e
  have nd := t.nd_own
  have main : ∀ (t' : Tr), t' = t → Wp (m_law_t1_k12 [some (.kl (ns.map .int)), x1, x2, some (.int (n : Int)), some t'.ld, x5, some (tm n t.nd), x7, x8, x9] h) (fun f fr _ => Fin ns f fr) NoE := fun t' ht => by
    by_cases z : ∃ a b, t' = .lf (.ev a b)
    · obtain ⟨a, b, rfl⟩ := z
      subst ht
      have okl : a < b ∧ b ≤ n := ok
      have c0 : cEq h (.str "true") (.str "true") = some true := by kernel_rfl
      have al : atI [D.str "true", .int (a : Int), .int (b : Int)] (-1) = some (.int (b : Int)) := rfl
      show Wp (m_law_t1_k12 [some (.kl (ns.map .int)), x1, x2, some (.int (n : Int)), some (.tup [.str "true", .int (a : Int), .int (b : Int)]), x5, some (tm n (Lf.ev a b).ndD), x7, x8, x9] h) (fun f fr _ => Fin ns f fr) NoE
      by_cases zb : b ≤ w
      · have lt : f__law_leaf_term [.tup [.str "true", .int (a : Int), .int (b : Int)], .int (w : Int)] h = .ok (ntm w (Lf.ev a b).ndD) [] h := leaf_term (h := h) (l := .ev a b) (n := w) w4 ⟨okl.1, zb⟩
        have eq := term_other (h := h) (n := n) (m := w) (x := (Lf.ev a b).ndD) (y := (Lf.ev a b).ndD) nw (Lf.nd_own _) (Lf.nd_own _)
        have fn : ∀ x, fnOf mt___eq____Term h (tm n x) = some f_Term____eq__ := fun _ => rfl
        have sb : ∀ x y, ((D.bty h (tm w x)).isSome || (sameC h (tm n y) (tm w x)).isSome) = true := fun x y => by
          unfold tm
          simp only [same_obj, bty_obj, Option.isSome_some, Bool.or_true, if_true, beq_self_eq_true]
        have zb' : (b : Int) ≤ (w : Int) := by omega
        have lno := Lf.nd_own (.ev a b)
        unfold tm ntm at *
        generalize (Lf.ev a b).ndD = N at *
        by_cases z4 : (n : Int) < 4
        · rw [if_pos z4] at ew
          rw [← ew] at zb' lt eq sb
          simp only [↓w_law_t1_k12, ↓wp_Seq, ↓wp_Put, ↓wp_If, ↓wp_Op, ↓wp_Var, List.getElem?_cons_succ, List.getElem?_cons_zero, List.set_cons_succ, List.set_cons_zero, sl_some, own_int, cd_f, ↓wp_C, cInt_int, z4, decide_true, op_some, cd_t, bx_cons, flk_nx, ↓wp_IfS, ↓wp_And, ↓wp_Late, bIdx_tup, at_0, c0, ↓wp_Un, bNeg_int, Int.reduceNeg, al, zb', ↓wp_OpM, own_obj, ↓wp_Fz, ↓wp_Call, ↓wp_Args1, List.length_cons, own_tup, ↓wp_Args0, List.length_nil, Nat.zero_add, Nat.reduceAdd, gPos_eq, List.append_nil, lt, ↓wp_ok, ↓wp_gEq, fz_no, bty_obj, Option.isSome_none, same_obj, Option.isSome_some, Bool.or_true, fn, eq, tb_bl, ↓wp_ret, true_and]
          exact ⟨.inl rfl, _, _, rfl, rfl⟩
        · rw [if_neg z4] at ew
          rw [← ew] at zb' lt eq sb
          simp only [↓w_law_t1_k12, ↓wp_Seq, ↓wp_Put, ↓wp_If, ↓wp_Op, ↓wp_Var, List.getElem?_cons_succ, List.getElem?_cons_zero, List.set_cons_succ, List.set_cons_zero, sl_some, own_int, cd_f, ↓wp_C, cInt_int, z4, decide_false, op_some, bx_cons, flk_nx, ↓wp_IfS, ↓wp_And, ↓wp_Late, bIdx_tup, at_0, c0, cd_t, ↓wp_Un, bNeg_int, Int.reduceNeg, al, zb', decide_true, ↓wp_OpM, own_obj, ↓wp_Fz, ↓wp_Call, ↓wp_Args1, List.length_cons, own_tup, ↓wp_Args0, List.length_nil, Nat.zero_add, Nat.reduceAdd, gPos_eq, List.append_nil, lt, ↓wp_ok, ↓wp_gEq, fz_no, bty_obj, Option.isSome_none, same_obj, Option.isSome_some, Bool.or_true, fn, eq, tb_bl, ↓wp_ret, true_and]
          exact ⟨.inl rfl, _, _, rfl, rfl⟩
      · have zb' : ¬ (b : Int) ≤ (w : Int) := by omega
        by_cases z4 : (n : Int) < 4
        · rw [if_pos z4] at ew
          rw [← ew] at zb'
          simp only [↓w_law_t1_k12, ↓wp_Seq, ↓wp_Put, ↓wp_If, ↓wp_Op, ↓wp_Var, List.getElem?_cons_succ, List.getElem?_cons_zero, List.set_cons_succ, List.set_cons_zero, sl_some, own_int, cd_f, ↓wp_C, cInt_int, z4, decide_true, op_some, cd_t, bx_cons, flk_nx, ↓wp_IfS, ↓wp_And, ↓wp_Late, bIdx_tup, at_0, c0, ↓wp_Un, bNeg_int, Int.reduceNeg, al, zb', decide_false, ↓wp_ret]
          exact ⟨.inl rfl, _, _, rfl, rfl⟩
        · rw [if_neg z4] at ew
          rw [← ew] at zb'
          simp only [↓w_law_t1_k12, ↓wp_Seq, ↓wp_Put, ↓wp_If, ↓wp_Op, ↓wp_Var, List.getElem?_cons_succ, List.getElem?_cons_zero, List.set_cons_succ, List.set_cons_zero, sl_some, own_int, cd_f, ↓wp_C, cInt_int, z4, decide_false, op_some, bx_cons, flk_nx, ↓wp_IfS, ↓wp_And, ↓wp_Late, bIdx_tup, at_0, c0, cd_t, ↓wp_Un, bNeg_int, Int.reduceNeg, al, zb', ↓wp_ret]
          exact ⟨.inl rfl, _, _, rfl, rfl⟩
    · have hd : ∃ w r, t'.ld = .tup (.str w :: r) ∧ cEq h (.str w) (.str "true") = some false := by
        cases t' with
        | lf l => cases l with
          | ev a b => exact absurd ⟨a, b, rfl⟩ z
          | all m f a b => exact ⟨_, _, rfl, by kernel_rfl⟩
          | each m f a b => exact ⟨_, _, rfl, by kernel_rfl⟩
        | tm k t => exact ⟨_, _, rfl, by kernel_rfl⟩
        | ab t => exact ⟨_, _, rfl, by kernel_rfl⟩
        | bi o a b =>
          subst ht
          have ho := ok.1
          have ho' : o = 0 ∨ o = 1 ∨ o = 2 ∨ o = 3 := by omega
          rcases ho' with rfl | rfl | rfl | rfl <;> exact ⟨_, _, rfl, by kernel_rfl⟩
      obtain ⟨wd, r, e, c0⟩ := hd
      rw [e]
      by_cases z4 : (n : Int) < 4
      · simp only [↓w_law_t1_k12, ↓wp_Seq, ↓wp_Put, ↓wp_If, ↓wp_Op, ↓wp_Var, List.getElem?_cons_succ, List.getElem?_cons_zero, List.set_cons_succ, List.set_cons_zero, sl_some, own_int, cd_f, ↓wp_C, cInt_int, z4, decide_true, op_some, cd_t, bx_cons, flk_nx, ↓wp_IfS, ↓wp_And, ↓wp_Late, bIdx_tup, at_0, c0, ↓wp_ret]
        exact ⟨.inl rfl, _, _, rfl, rfl⟩
      · simp only [↓w_law_t1_k12, ↓wp_Seq, ↓wp_Put, ↓wp_If, ↓wp_Op, ↓wp_Var, List.getElem?_cons_succ, List.getElem?_cons_zero, List.set_cons_succ, List.set_cons_zero, sl_some, own_int, cd_f, ↓wp_C, cInt_int, z4, decide_false, op_some, bx_cons, flk_nx, ↓wp_IfS, ↓wp_And, ↓wp_Late, bIdx_tup, at_0, c0, ↓wp_ret]
        exact ⟨.inl rfl, _, _, rfl, rfl⟩
  exact main t rfl
theorem tl6 {t u : Tr} {b : Int} (h2 : 2 ≤ n) (h4 : n ≤ 4) (okt : t.TOk n) (oku : u.TOk n) (dt : t.dep ≤ 4) (du : u.dep ≤ 4) (b0 : -1000000 ≤ b) (b1 : b ≤ 1000000) (et : f__law_term [t.ld, .int (n : Int)] h = .ok (ntm n t.nd) [] h) (x1 x2 x9 : Option D) :
    Wp (m_law_t1_k6 [some (.kl (ns.map .int)), x1, x2, some (.int (n : Int)), some t.ld, some u.ld, some (tm n t.nd), some (tm n u.nd), some (.int b), x9] h) (fun f fr _ => Fin ns f fr) NoE := by
  have tl := tl12 (h := h) (ns := ns) h2 h4 okt (.kl (ns.map .int)) x1 x2 (some u.ld) (some (tm n u.nd)) (some (.int b)) x9 rfl
  have i0 := is_spec (h := h) h4 okt (by omega)
  have i1 := is_spec (h := h) h4 oku (by omega)
  have i2 := is_spec (h := h) (t := .bi 0 t u) h4 ⟨by decide, okt, oku⟩ (show max t.dep u.dep + 1 ≤ 5 by omega)
  have i3 := is_spec (h := h) (t := .bi 1 u t) h4 ⟨by decide, oku, okt⟩ (show max u.dep t.dep + 1 ≤ 5 by omega)
  have i4 := is_spec (h := h) (t := .bi 2 t u) h4 ⟨by decide, okt, oku⟩ (show max t.dep u.dep + 1 ≤ 5 by omega)
  have i5 := is_spec (h := h) (t := .bi 3 u t) h4 ⟨by decide, oku, okt⟩ (show max u.dep t.dep + 1 ≤ 5 by omega)
  have i6 := is_spec (h := h) (t := .tm (-1) t) h4 ⟨by decide, okt⟩ (show t.dep + 1 ≤ 5 by omega)
  have i7 := is_spec (h := h) (t := .ab u) h4 oku (show u.dep + 1 ≤ 5 by omega)
  have i8 := is_spec (h := h) (t := .tm b t) h4 ⟨⟨b0, b1⟩, okt⟩ (show t.dep + 1 ≤ 5 by omega)
  have i9 := is_spec (h := h) (t := .tm b u) h4 ⟨⟨b0, b1⟩, oku⟩ (show u.dep + 1 ≤ 5 by omega)
  rw [show (Tr.bi 0 t u).nd = .tup [.str "plus", t.nd, u.nd] from rfl, show (Tr.bi 0 t u).ld = .tup [.str "+", t.ld, u.ld] from rfl] at i2
  rw [show (Tr.bi 1 u t).nd = .tup [.str "minus", u.nd, t.nd] from rfl, show (Tr.bi 1 u t).ld = .tup [.str "-", u.ld, t.ld] from rfl] at i3
  rw [show (Tr.bi 2 t u).nd = .tup [.str "max", t.nd, u.nd] from rfl, show (Tr.bi 2 t u).ld = .tup [.str "max", t.ld, u.ld] from rfl] at i4
  rw [show (Tr.bi 3 u t).nd = .tup [.str "min", u.nd, t.nd] from rfl, show (Tr.bi 3 u t).ld = .tup [.str "min", u.ld, t.ld] from rfl] at i5
  rw [show (Tr.tm (-1) t).nd = .tup [.str "times", .int (-1), t.nd] from rfl, show (Tr.tm (-1) t).ld = .tup [.str "*", .int (-1), t.ld] from rfl] at i6
  rw [show (Tr.ab u).nd = .tup [.str "abs", u.nd] from rfl, show (Tr.ab u).ld = .tup [.str "abs", u.ld] from rfl] at i7
  rw [show (Tr.tm b t).nd = .tup [.str "times", .int b, t.nd] from rfl, show (Tr.tm b t).ld = .tup [.str "*", .int b, t.ld] from rfl] at i8
  rw [show (Tr.tm b u).nd = .tup [.str "times", .int b, u.nd] from rfl, show (Tr.tm b u).ld = .tup [.str "*", .int b, u.ld] from rfl] at i9
  have a1 := t.nd_own
  have a2 := u.nd_own
  have l1 := t.ld_own
  have l2 := u.ld_own
  have s0 := add_spec (h := h) (n := n) a1 a2
  have s1 := sub_spec (h := h) (n := n) a2 a1
  have s2 := or_spec (h := h) (n := n) a1 a2
  have s3 := and_spec (h := h) (n := n) a2 a1
  have s4 := neg_spec (h := h) (n := n) a1
  have s5 := abs_spec (h := h) (n := n) a2
  have s6 := mul_spec (h := h) (n := n) (k := b) b0 b1 a1
  have s7 := rmul_spec (h := h) (n := n) (k := b) b0 b1 a2
  have lx : f__law_text [t.ld] h = .ok (.str t.txt) [] h := ltext_tr h4 t 6 okt (by omega) (by omega)
  have ly : f__law_text [u.ld] h = .ok (.str u.txt) [] h := ltext_tr h4 u 6 oku (by omega) (by omega)
  have ce := Pk.cEq_ss (h := h) (tr_strG h4 t okt) (tr_strG h4 u oku)
  have q1 := term_eq (h := h) okt oku (by omega) (by omega)
  have q2 := term_eq (h := h) okt okt (by omega) (by omega)
  rw [decide_eq_true rfl] at q2
  have tx : decide (t.txt = u.txt) = decide (t = u) := by
    by_cases z : t = u
    · subst z
      rw [decide_eq_true rfl, decide_eq_true rfl]
    · rw [decide_eq_false z, decide_eq_false (fun e => z (txt_inj h4 okt oku (by omega) (by omega) e))]
  rw [tx] at ce
  have f1 : ∀ x, fnOf mt___eq____Term h (tm n x) = some f_Term____eq__ := fun _ => rfl
  have sb : ∀ x y, ((D.bty h (tm n x)).isSome || (sameC h (tm n y) (tm n x)).isSome) = true := fun x y => by
    unfold tm
    simp only [same_obj, bty_obj, Option.isSome_some, Bool.or_true, if_true, beq_self_eq_true]
  unfold tm ntm at *
  generalize decide (t = u) = dq at *
  generalize t.txt = TX at *
  generalize u.txt = UX at *
  generalize t.ld = TL at *
  generalize u.ld = UL at *
  generalize t.nd = TN at *
  generalize u.nd = UN at *
  clear tx okt oku dt du
  have k11 : Wp (m_law_t1_k11 [some (.kl (ns.map .int)), x1, x2, some (.int (n : Int)), some TL, some UL, some (.obj 0 [.int (n : Int), TN]), some (.obj 0 [.int (n : Int), UN]), some (.int b), x9] h) (fun f fr _ => Fin ns f fr) NoE := by
    cases dq
    · simp only [↓w_law_t1_k11, ↓wp_Seq, ↓wp_IfS, ↓wp_Or, ↓wp_Op, ↓wp_Bl, ↓wp_OpM, ↓wp_Var, List.getElem?_cons_succ, List.getElem?_cons_zero, List.set_cons_succ, List.set_cons_zero, sl_some, own_obj, cd_f, ↓wp_gEq, bty_obj, Option.isSome_none, same_obj, Option.isSome_some, Bool.or_true, f1, op_some, q1, ↓wp_ok, tb_bl, ↓wp_Fz, ↓wp_Call, ↓wp_Args1, List.length_cons, l1, ↓wp_Args0, List.length_nil, Nat.zero_add, gPos_eq, List.append_nil, lx, l2, ly, fz_str, ce, Option.map_some, cNe_eq, cEq_bb, beq_self_eq_true, Bool.not_true, ↓wp_Not, own_int, Nat.reduceAdd, et, fz_no, q2, ↓wp_ret, flk_nx, true_and]
      exact tl
    · simp only [↓w_law_t1_k11, ↓wp_Seq, ↓wp_IfS, ↓wp_Or, ↓wp_Op, ↓wp_Bl, ↓wp_OpM, ↓wp_Var, List.getElem?_cons_succ, List.getElem?_cons_zero, List.set_cons_succ, List.set_cons_zero, sl_some, own_obj, cd_f, ↓wp_gEq, bty_obj, Option.isSome_none, same_obj, Option.isSome_some, Bool.or_true, f1, op_some, q1, ↓wp_ok, tb_bl, ↓wp_Fz, ↓wp_Call, ↓wp_Args1, List.length_cons, l1, ↓wp_Args0, List.length_nil, Nat.zero_add, gPos_eq, List.append_nil, lx, l2, ly, fz_str, ce, Option.map_some, cNe_eq, cEq_bb, beq_self_eq_true, Bool.not_true, ↓wp_Not, own_int, Nat.reduceAdd, et, fz_no, q2, ↓wp_ret, flk_nx, true_and]
      exact tl
  simp only [↓w_law_t1_k6, ↓wp_Seq, ↓wp_IfS, ↓wp_Or, ↓wp_Not, ↓wp_Un, ↓wp_Call, ↓wp_Args1, ↓wp_Fz, ↓wp_Dun, ↓wp_Var, List.getElem?_cons_succ, List.getElem?_cons_zero, List.set_cons_succ, List.set_cons_zero, List.length_cons, sl_some, own_obj, cd_f, dun_obj, v_mt___add___0, op_some, s0, ↓wp_ok, ↓wp_Tup, ↓wp_C, l1, l2, ↓wp_Args0, List.length_nil, Nat.zero_add, Nat.reduceAdd, big_eq, Nat.reduceLeDiff, own_int, fz_no, gPos_eq, List.append_nil, i2, tru_bl, Bool.not_true, v_mt___sub___0, s1, i3, ↓wp_ret, flk_nx, ↓w_law_t1_k7, v_mt___or___0, s2, i4, v_mt___and___0, s3, i5, ↓w_law_t1_k8, ↓wp_One, fnOf_obj, v_mt___neg____Term_0, s4, Int.reduceNeg, bNeg_int, i6, v_mt___abs____Term_0, s5, i7, ↓w_law_t1_k9, ↓wp_MulL, bty_int, v_mt___mul____Term_0, s6, i8, ↓wp_MulR, smp_int, v_mt___rmul____Term_0, s7, i9, ↓w_law_t1_k10, i0, i1, true_and]
  exact k11
end
end L

/-! k22: the law's body -/
namespace L
open PySem PySem.Spec L2 Pk
section
variable {h : Hh} {n s k : Nat} {C : Int} {ns : List Int}
theorem tl4 {t u : Tr} (S : Src h s C) (hC : C ≤ 50000) (h2 : 2 ≤ n) (h4 : n ≤ 4) (okt : t.Ok n) (oku : u.Ok n) (dt : t.dep ≤ 4) (du : u.dep ≤ 4) (x1 x8 x9 : Option D) :
    Wp (m_law_t1_k4 [some (.kl (ns.map .int)), x1, some (.ref s), some (.int (n : Int)), some t.ld, some u.ld, some (ntm n t.nd), some (ntm n u.nd), x8, x9] h) (fun f fr _ => Fin ns f fr) NoE := by
  have i0 := is_spec (h := h) h4 okt.t (by omega)
  have i1 := is_spec (h := h) h4 oku.t (by omega)
  obtain ⟨r1, h1, e1, S1, r10, r11⟩ := draw_spec (m := 1000001) S (by omega) (by decide) (by decide)
  obtain ⟨r2, h3, e2, S2, r20, r21⟩ := draw_spec (m := 1000) S1 (by omega) (by decide) (by decide)
  obtain ⟨i, x, h5, hi, ex, e3, S3⟩ := of_spec (l := [.int r1, .int 1000000, .int (-1000000), .int (-1), .int 0, .int 1, .int (-r2)]) S2 (by omega) (by simp) (by simp)
  obtain ⟨b, rfl, b0, b1⟩ : ∃ b : Int, x = .int b ∧ -1000000 ≤ b ∧ b ≤ 1000000 := by
    have hm := List.mem_of_getElem? ex
    simp only [List.mem_cons, List.not_mem_nil, or_false] at hm
    rcases hm with rfl | rfl | rfl | rfl | rfl | rfl | rfl
    · exact ⟨_, rfl, by omega, by omega⟩
    · exact ⟨_, rfl, by omega, by omega⟩
    · exact ⟨_, rfl, by omega, by omega⟩
    · exact ⟨_, rfl, by omega, by omega⟩
    · exact ⟨_, rfl, by omega, by omega⟩
    · exact ⟨_, rfl, by omega, by omega⟩
    · exact ⟨_, rfl, by omega, by omega⟩
  have et : f__law_term [t.ld, .int (n : Int)] h5 = .ok (ntm n t.nd) [] h5 := term_spec h4 t 5 okt (by omega)
  have tl := tl6 (h := h5) (ns := ns) h2 h4 okt.t oku.t dt du b0 b1 et x1 (some (.ref s)) x9
  have a1 := t.nd_own
  have a2 := u.nd_own
  have l1 := t.ld_own
  have l2 := u.ld_own
  unfold tm ntm at *
  generalize t.ld = TL at *
  generalize u.ld = UL at *
  generalize t.nd = TN at *
  generalize u.nd = UN at *
  clear okt oku dt du et
  simp only [↓w_law_t1_k4, ↓wp_Seq, ↓wp_IfS, ↓wp_Or, ↓wp_Not, ↓wp_Un, ↓wp_Call, ↓wp_Args1, ↓wp_Var, List.getElem?_cons_succ, List.getElem?_cons_zero, List.set_cons_succ, List.set_cons_zero, List.length_cons, sl_some, own_no, cd_t, fz_no, bx_cons, l1, cd_f, own_int, ↓wp_Args0, List.length_nil, Nat.zero_add, Nat.reduceAdd, gPos_eq, List.append_nil, i0, ↓wp_ok, tru_bl, op_some, Bool.not_true, l2, i1, ↓wp_Op, ↓wp_C, cNe_eq, cEq_ii, decide_true, Option.map_some, ↓wp_ret, flk_nx, ↓w_law_t1_k5, ↓wp_Put, own_ref, ↓wp_Fz, ↓wp_Lst, e1, bNeg_int, Int.reduceNeg, e2, fz_int, big_eq, Nat.reduceLeDiff, fz_nl, e3, true_and]
  exact tl
theorem body (hk : k ≤ 62) (x2 x3 x4 x5 x6 x7 x8 x9 : Option D) :
    Wp (m_law_b13 [some (.kl (ns.map .int)), some (.int (k : Int)), x2, x3, x4, x5, x6, x7, x8, x9] h) (fun f fr _ => Fin ns f fr) NoE := by
  have c4 : cost 4 = 190 := rfl
  have c3 : cost 3 = 94 := rfl
  obtain ⟨a, b, e1, b0, b1⟩ := source_spec (h := h) (ns := ns) hk
  have S1 : Src (h ++ [.nl [.int a, .int b, .int 0]]) h.length 0 := ⟨a, b, 0, by rw [List.getElem?_append_right (Nat.le_refl _), Nat.sub_self]; rfl, b0, b1, by decide, by decide⟩
  obtain ⟨r, h2, e2, S2, r0, r1⟩ := draw_spec (m := 3) S1 (by omega) (by decide) (by decide)
  obtain ⟨n, hn⟩ : ∃ n : Nat, 2 + r = (n : Int) := ⟨(2 + r).toNat, by omega⟩
  have n2 : 2 ≤ n := by omega
  have n4 : n ≤ 4 := by omega
  obtain ⟨t, h3, okt, dt, e3, S3⟩ := tree_drawn (s := h.length) n2 n4 4 5 (by omega) _ h2 S2 (by omega)
  obtain ⟨u, h4, oku, du, e4, S4⟩ := tree_drawn (s := h.length) n2 n4 3 5 (by omega) _ h3 S3 (by omega)
  have e3 : f__law_tree [.ref h.length, .int (n : Int), .int 4] h2 = .ok t.ld [] h3 := e3
  have e4 : f__law_tree [.ref h.length, .int (n : Int), .int 3] h3 = .ok u.ld [] h4 := e4
  have e5 : f__law_term [t.ld, .int (n : Int)] h4 = .ok (ntm n t.nd) [] h4 := term_spec n4 t 5 okt (by omega)
  have e6 : f__law_term [u.ld, .int (n : Int)] h4 = .ok (ntm n u.nd) [] h4 := term_spec n4 u 5 oku (by omega)
  have tl := tl4 (h := h4) (s := h.length) (ns := ns) (S4.up (by omega : _ ≤ (1000 : Int))) (by omega) n2 n4 okt oku dt (by omega) (some (.int (k : Int))) x8 x9
  have a1 := t.nd_own
  have a2 := u.nd_own
  have l1 := t.ld_own
  have l2 := u.ld_own
  unfold tm ntm at *
  generalize t.ld = TL at *
  generalize u.ld = UL at *
  generalize t.nd = TN at *
  generalize u.nd = UN at *
  simp only [↓w_law_b13, ↓wp_Seq, ↓wp_Put, ↓wp_Cell, ↓wp_Call, ↓wp_Args1, ↓wp_Var, List.getElem?_cons_zero, List.set_cons_zero, List.length_cons, sl_some, own_kl, cd_f, List.getElem?_cons_succ, List.set_cons_succ, own_int, ↓wp_Args0, List.length_nil, Nat.zero_add, Nat.reduceAdd, gPos_eq, List.append_nil, e1, ↓wp_ok, own_nl, bx_cons, flk_nx, ↓w_law_t1_k1, ↓wp_Op, ↓wp_C, ↓wp_Fz, own_ref, e2, fz_int, bAdd_int, hn, op_some, ↓w_law_t1_k2, ↓wp_PutE, e3, e4, puts_cons, puts_nil, big_eq, Nat.reduceLeDiff, ↓w_law_t1_k3, l1, e5, l2, e6, true_and]
  exact tl
end
theorem plain (ns : List Int) (hl : ns.length ≤ 63) : ∃ fr h, f_law [.kl (ns.map Pk.D.int)] [] = .ok (.bl true) fr h := by
  unfold f_law m_law
  refine law_top (by decide) (by decide) (by decide) fun k xs h hk hx => ?_
  match xs, hx with
  | [x2, x3, x4, x5, x6, x7, x8, x9], _ => exact body (by omega) x2 x3 x4 x5 x6 x7 x8 x9
end L

namespace L
open PySem PySem.Spec PyProof.Rows L2
instance : PF (PySem.Challenge.rw_countrestarts_k22_terms_by_signs).prog := ⟨by kernel_rfl, by kernel_rfl⟩
theorem facts {P : Program} [PF P] {w : World} {K : PySem.W.Frag} {h : Heap} {mg : Str → Option Value} {f : Addr} (X : K.In h) (G : h.Ns mainGlobals mg) (hfa : mg ("law" : Str) = some (.ref f)) (c : Says K) :
    ∃ fd : FuncData, (∀ (s : Shared) (v : Value), BindsTo s fd ⟨[v], []⟩ [("_law_script", v)]) ∧ ∀ base : Heap, K.In base → base.Ns mainGlobals mg → FnOk P w K mg base (L2.CX P w) 18 f fd ["_law_script"] (Pk.spF K (T K) 1 f_law) := by
  obtain ⟨fd, F⟩ := c.def_ (fn.length - 1) (d := d_law) rfl
  have e := hfa.symm.trans (He.glo_ok X G (c.fact (fa.length - 1) (f := .he (.glo "law")) rfl))
  cases e
  have b := FunD.bindsA (ps := ["_law_script"]) F fun _ _ _ _ _ _ us hl => match us, hl with | [_], _ => rfl
  exact ⟨fd, fun s v => b s [v] rfl, fun base Y Gb => Pk.fn_sim F sc_law (does_law c Y Gb)⟩
end L
open PySem PySem.W PySem.Calls PyProof.Rows
theorem PySem.Challenge.cw_countrestarts_k22_terms_by_signs_holds : PySem.Challenge.rw_countrestarts_k22_terms_by_signs.Holds := by
  w_on; o_law
  refine HandSHeadRun.head_any (r := OpenLaw.row PySem.Challenge.rw_countrestarts_k22_terms_by_signs) (q := L.vw) (H := L.hk) (ob := L.ob) (M := 20000) (loose := L.names) (d := HandSHeadRun.topDef (OpenLaw.row PySem.Challenge.rw_countrestarts_k22_terms_by_signs).prog 56) (kwd := []) L.ob_eq
    (by kernel_rfl) (fun s => by kernel_rfl) L.run (by kernel_rfl) (by kernel_rfl) (by kernel_rfl) (by rfl) (by first | assumption | decide +kernel) (by decide +kernel) ⟨rfl, rfl, rfl, rfl, rfl, by decide +kernel⟩ ?hw ?hc
  case hw => w_witness2
  case hc =>
    refine L2.walk_ofE (l := PySem.Challenge.rw_countrestarts_k22_terms_by_signs) (n := 63) (k := 18) (x := "_law_script") (CX := L2.CX0) rfl (by decide) (by kernel_rfl) ⟨rfl, by decide, by decide⟩ ?F (fun _ _ _ _ z => z)
    intro w mg fa h Y G hmg0
    obtain ⟨K, KX, c⟩ := Y
    have hmg : mg ("law" : PySem.Str) = some (.ref fa) := by
      have e : (HandSHeadRun.topDef (OpenLaw.row PySem.Challenge.rw_countrestarts_k22_terms_by_signs).prog 56).name = ("law" : PySem.Str) := by kernel_rfl
      rw [← e]
      exact hmg0
    obtain ⟨fd, hb, hF⟩ := L.facts (P := (PySem.Challenge.rw_countrestarts_k22_terms_by_signs).prog) (w := w) KX G hmg c
    exact ⟨K, fd, _, KX, hb, fun H a ns hl _ hS => (let ⟨fr, h, e⟩ := L.plain ns hl; Pk.law_sp hS e), fun base Y Gb => Pk.fn_cx0 (hF base Y Gb)⟩


