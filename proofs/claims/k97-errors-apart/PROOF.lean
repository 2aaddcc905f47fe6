import PyProof.Rows.All
import Wide.All
import OpenK.AllK
import Wide.FinOn
import HandS.ForMost
import HandS.Exc
import HandS.IsInst
import HandS.Wide
import HandS.TupAny
import HandS.Conv
import HandS.Deep
import HandS.Property
import HandS.MakeKwOnly
import HandS.SortInts
import HandS.RaiseMore
import HandS.Style
import HandS.Zip
import HandS.CallSlots
import HandS.Defaults
import HandS.HeadHook1
import HandS.HeadHook2
import HandS.HeadHook3
import HandS.HeadHook4
import HandS.HeadEnd
import HandS.ExcIs
import HandS.ExcField
import KE.GoesMore
import PyProof.EnumMake
import PyProof.EnumFor
import HandS.Iter
import HandS.Star
import KE.KExcSuper
import KE.KSuper
import HandS.ExcInit
import KE.KExcIs
import HandS.TryOnly
import HandS.TryMany
import HandS.ClsMeth
import HandS.OwnEq
import PyProof.CallFns
import HandS.FStr
import PyProof.Rows.StrWeight2
import PyProof.Rows.StrSplitJoin
import PyProof.Rows.StrFin3
import HandS.ExcOwn
import KE.KStateDown
import HandS.Head0
import HandS.Head1
import HandS.Head2
import PySem.Challenge.RW_countrestarts_k97_errors_apart
set_option Elab.async false
set_option linter.all false
set_option maxRecDepth 100000
set_option maxHeartbeats 40000000
set_option autoImplicit false
/-! Pk1: values as trees, the relation between trees and the abstract heap. -/
namespace Pk
open PySem PySem.Spec L2

inductive D where
  | non | bl (b : Bool) | int (i : Int) | str (s : Str)
  | tup (l : List D) | fl (l : List D) | nl (l : List D) | kl (l : List D)
  | obj (c : Nat) (fs : List D) | no (c : Nat) (fs : List D) | ref (n : Nat) | cls (c : Nat) | ty (t : String)
  deriving Inhabited

/-- objects that may still change: a list, an instance -/
def D.own : D → Bool
  | .nl _ => true
  | .no _ _ => true
  | _ => false
/-- .. that change no more -/
def D.fz : D → D
  | .nl l => .fl l
  | .no c fs => .obj c fs
  | d => d

abbrev Fr := List (Option D)
abbrev Hh := List D

/-- the classes of the text: where they stand, their fields in the order of __init__ -/
structure Tb where
  cad : Nat → Addr
  fld : Nat → List Str

structure Wd where
  F : Hp
  I : List Addr

def Wd.le (w w' : Wd) : Prop := (∀ a o, w.F a = some o → w'.F a = some o) ∧ ∃ r, w'.I = w.I ++ r
theorem Wd.le_refl (w : Wd) : w.le w := ⟨fun _ _ h => h, [], by simp⟩
theorem Wd.le_trans {a b c : Wd} (x : a.le b) (y : b.le c) : a.le c :=
  ⟨fun p o h => y.1 p o (x.1 p o h), by
    obtain ⟨r, e⟩ := x.2
    obtain ⟨q, f⟩ := y.2
    exact ⟨r ++ q, by rw [f, e, List.append_assoc]⟩⟩
theorem Wd.le_at {w w' : Wd} (x : w.le w') {n : Nat} {a : Addr} (h : w.I[n]? = some a) : w'.I[n]? = some a := by
  obtain ⟨r, e⟩ := x.2
  rw [e, List.getElem?_append_left (List.getElem?_eq_some_iff.mp h).1]
  exact h
theorem Wd.le_mem {w w' : Wd} (x : w.le w') {a : Addr} (h : a ∈ w.I) : a ∈ w'.I := by
  obtain ⟨r, e⟩ := x.2
  rw [e]
  exact List.mem_append_left _ h

theorem rd_le {F F' : Hp} (x : ∀ a o, F a = some o → F' a = some o) {a : Addr} {u : HO} (h : Rd F a u) : Rd F' a u := by
  rcases h with h | ⟨o, h⟩
  · exact .inl (x _ _ h)
  · exact .inr ⟨o, x _ _ h⟩
theorem sqL_le {K : PySem.W.Frag} {F F' : Hp} (x : ∀ a o, F a = some o → F' a = some o) {a : Addr} {vs : List V} (h : SqL K F a vs) : SqL K F' a vs := by
  rcases h with h | h
  · exact .inl (rd_le x h)
  · exact .inr h
theorem sqT_le {K : PySem.W.Frag} {F F' : Hp} (x : ∀ a o, F a = some o → F' a = some o) {a : Addr} {vs : List V} (h : SqT K F a vs) : SqT K F' a vs := by
  rcases h with h | h
  · exact .inl (rd_le x h)
  · exact .inr h

mutual
inductive RelD (K : PySem.W.Frag) (T : Tb) (w : Wd) : V → D → Prop where
  | non : RelD K T w .non .non
  | bl (b : Bool) : RelD K T w (.bl b) (.bl b)
  | int (i : Int) : RelD K T w (.int i) (.int i)
  | str (s : Str) : RelD K T w (.str s) (.str s)
  | tup {a : Addr} {vs : List V} {ds : List D} : SqT K w.F a vs → RelDs K T w vs ds → RelD K T w (.ref a) (.tup ds)
  | fl {a : Addr} {vs : List V} {ds : List D} : w.F a = some (.lst vs) → RelDs K T w vs ds → RelD K T w (.ref a) (.fl ds)
  | kl {a : Addr} {vs : List V} {ds : List D} : SqL K w.F a vs → RelDs K T w vs ds → RelD K T w (.ref a) (.kl ds)
  | obj {a dx : Addr} {c : Nat} {vs : List V} {ds : List D} : w.F a = some (.ins (T.cad c) dx ((T.fld c).zip vs)) → RelDs K T w vs ds → RelD K T w (.ref a) (.obj c ds)
  | ref {a : Addr} {n : Nat} : w.I[n]? = some a → RelD K T w (.ref a) (.ref n)
  | cls (c : Nat) : RelD K T w (.ref (T.cad c)) (.cls c)
  | ty (t : String) : RelD K T w (.ty t) (.ty t)
inductive RelDs (K : PySem.W.Frag) (T : Tb) (w : Wd) : List V → List D → Prop where
  | nil : RelDs K T w [] []
  | cons {v : V} {d : D} {vs : List V} {ds : List D} : RelD K T w v d → RelDs K T w vs ds → RelDs K T w (v :: vs) (d :: ds)
end

section
variable {K : PySem.W.Frag} {T : Tb} {w w' : Wd}
mutual
theorem RelD.mono (x : w.le w') : ∀ {v : V} {d : D}, RelD K T w v d → RelD K T w' v d
  | _, _, .non => .non
  | _, _, .bl b => .bl b
  | _, _, .int i => .int i
  | _, _, .str s => .str s
  | _, _, .tup h t => .tup (sqT_le x.1 h) (RelDs.mono x t)
  | _, _, .fl h t => .fl (x.1 _ _ h) (RelDs.mono x t)
  | _, _, .kl h t => .kl (sqL_le x.1 h) (RelDs.mono x t)
  | _, _, .obj h t => .obj (x.1 _ _ h) (RelDs.mono x t)
  | _, _, .ref h => .ref (Wd.le_at x h)
  | _, _, .cls c => .cls c
  | _, _, .ty t => .ty t
theorem RelDs.mono (x : w.le w') : ∀ {vs : List V} {ds : List D}, RelDs K T w vs ds → RelDs K T w' vs ds
  | _, _, .nil => .nil
  | _, _, .cons h t => .cons (RelD.mono x h) (RelDs.mono x t)
end
theorem RelDs.length : ∀ {vs : List V} {ds : List D}, RelDs K T w vs ds → vs.length = ds.length
  | _, _, .nil => rfl
  | _, _, .cons _ t => congrArg Nat.succ (RelDs.length t)
theorem RelDs.get : ∀ {vs : List V} {ds : List D} {i : Nat} {d : D}, RelDs K T w vs ds → ds[i]? = some d → ∃ v, vs[i]? = some v ∧ RelD K T w v d
  | _, _, _, _, .nil, e => by simp at e
  | _, _, 0, _, .cons h _, e => by
    simp at e
    subst e
    exact ⟨_, rfl, h⟩
  | _, _, i + 1, d, .cons _ t, e => by
    obtain ⟨v, h1, h2⟩ := RelDs.get (i := i) (d := d) t (by simpa using e)
    exact ⟨v, by simpa using h1, h2⟩
theorem RelDs.getV : ∀ {vs : List V} {ds : List D} {i : Nat} {v : V}, RelDs K T w vs ds → vs[i]? = some v → ∃ d, ds[i]? = some d ∧ RelD K T w v d
  | _, _, _, _, .nil, e => by simp at e
  | _, _, 0, _, .cons h _, e => by
    simp at e
    subst e
    exact ⟨_, rfl, h⟩
  | _, _, i + 1, v, .cons _ t, e => by
    obtain ⟨d, h1, h2⟩ := RelDs.getV (i := i) (v := v) t (by simpa using e)
    exact ⟨d, by simpa using h1, h2⟩
theorem RelDs.append : ∀ {vs us : List V} {ds es : List D}, RelDs K T w vs ds → RelDs K T w us es → RelDs K T w (vs ++ us) (ds ++ es)
  | _, _, _, _, .nil, t => t
  | _, _, _, _, .cons h r, t => .cons h (RelDs.append r t)
theorem RelDs.drop : ∀ {vs : List V} {ds : List D} (n : Nat), RelDs K T w vs ds → RelDs K T w (vs.drop n) (ds.drop n)
  | _, _, 0, h => h
  | _, _, _ + 1, .nil => .nil
  | _, _, n + 1, .cons _ t => RelDs.drop n t
theorem RelDs.take : ∀ {vs : List V} {ds : List D} (n : Nat), RelDs K T w vs ds → RelDs K T w (vs.take n) (ds.take n)
  | _, _, 0, _ => .nil
  | _, _, _ + 1, .nil => .nil
  | _, _, n + 1, .cons h t => .cons h (RelDs.take n t)
theorem RelDs.set : ∀ {vs : List V} {ds : List D} {v : V} {d : D} (n : Nat), RelDs K T w vs ds → RelD K T w v d → RelDs K T w (vs.set n v) (ds.set n d)
  | _, _, _, _, _, .nil, _ => .nil
  | _, _, _, _, 0, .cons _ t, h => .cons h t
  | _, _, _, _, n + 1, .cons h t, k => .cons h (RelDs.set n t k)
theorem RelDs.ints : ∀ {vs : List V} {is : List Int}, RelDs K T w vs (is.map D.int) → vs = is.map V.int
  | _, [], .nil => rfl
  | _, i :: is, .cons h t => by
    cases h
    rw [RelDs.ints t]
    rfl
end

/-- what a running body may not touch: the entry, and lists that are being made -/
structure Bs where
  w0 : Wd
  H0 : Hp
  P : List (Addr × HO)
  /-- where an __init__'s own instance is: in slot 0, as long as that holds an object of the body's own -/
  me : Option Addr
/-- a callee's start -/
abbrev Bs.of (w : Wd) (H : Hp) : Bs := ⟨w, H, [], none⟩

/-- an object that this body made and nobody else knows -/
structure Own (B : Bs) (w : Wd) (p : Addr) : Prop where
  f : w.F p = none
  i : p ∉ w.I
  e : B.H0 p = none
  p : ∀ q ∈ B.P, q.1 ≠ p

/-- what an object holds -/
inductive OwnR (K : PySem.W.Frag) (T : Tb) (w : Wd) : HO → D → Prop where
  | lst {vs : List V} {ds : List D} : RelDs K T w vs ds → OwnR K T w (.lst vs) (.nl ds)
  | obj {dx : Addr} {c : Nat} {vs : List V} {ds : List D} : RelDs K T w vs ds → OwnR K T w (.ins (T.cad c) dx ((T.fld c).zip vs)) (.no c ds)
theorem OwnR.own {K : PySem.W.Frag} {T : Tb} {w : Wd} {o : HO} {d : D} (x : OwnR K T w o d) : d.own = true := by
  cases x <;> rfl
theorem OwnR.mono {K : PySem.W.Frag} {T : Tb} {w w' : Wd} {o : HO} {d : D} (l : w.le w') (x : OwnR K T w o d) : OwnR K T w' o d := by
  cases x with
  | lst r => exact .lst (r.mono l)
  | obj r => exact .obj (r.mono l)
theorem OwnR.fz {K : PySem.W.Frag} {T : Tb} {w w' : Wd} {o : HO} {d : D} {p : Addr} (l : w.le w') (e : w'.F p = some o) (x : OwnR K T w o d) : RelD K T w' (.ref p) d.fz := by
  cases x with
  | lst r => exact .fl e (r.mono l)
  | obj r => exact .obj e (r.mono l)
theorem relD_own {K : PySem.W.Frag} {T : Tb} {w : Wd} {v : V} {d : D} (r : RelD K T w v d) : d.own = false := by
  cases r <;> rfl
theorem relD_fz {K : PySem.W.Frag} {T : Tb} {w : Wd} {v : V} {d : D} (r : RelD K T w v d) : d.fz = d := by
  cases r <;> rfl
theorem own_not {K : PySem.W.Frag} {T : Tb} {w : Wd} {v : V} {d : D} (o : d.own = true) (r : RelD K T w v d) : False := by
  rw [relD_own r] at o
  cases o
theorem fz_own (d : D) : d.fz.own = false := by
  cases d <;> rfl

inductive SlotR (K : PySem.W.Frag) (T : Tb) (B : Bs) (w : Wd) (H : Hp) : Option V → Option D → Prop where
  | none {v : Option V} : SlotR K T B w H v none
  | val {v : V} {d : D} : RelD K T w v d → SlotR K T B w H (some v) (some d)
  | own {p : Addr} {o : HO} {d : D} : Own B w p → H p = some o → OwnR K T w o d → SlotR K T B w H (some (.ref p)) (some d)

def CelR (K : PySem.W.Frag) (T : Tb) (w : Wd) (H : Hp) (a : Addr) (d : D) : Prop := ∃ o, H a = some o ∧ OwnR K T w o d

/-- slot i holds an object of the frame's own at p -/
def OwnAt (σ : St) (fr : Fr) (i : Nat) (p : Addr) : Prop := σ[i]? = some (some (.ref p)) ∧ ∃ d, fr[i]? = some (some d) ∧ d.own = true

structure Rel (K : PySem.W.Frag) (T : Tb) (B : Bs) (w : Wd) (σ : St) (H : Hp) (fr : Fr) (h : Hh) : Prop where
  le : B.w0.le w
  nF : ∀ a, w.F a ≠ none → B.w0.F a ≠ none ∨ B.H0 a = none
  nI : ∀ a ∈ w.I, a ∈ B.w0.I ∨ B.H0 a = none
  keep : ∀ a o, B.H0 a = some o → a ∉ B.w0.I → H a = some o
  prot : ∀ q ∈ B.P, H q.1 = some q.2 ∧ w.F q.1 = none ∧ q.1 ∉ w.I
  sub : ∀ a o, w.F a = some o → H a = some o
  len : w.I.length = h.length
  nd : w.I.Nodup
  dis : ∀ a ∈ w.I, w.F a = none
  cel : ∀ (n : Nat) a c, w.I[n]? = some a → h[n]? = some c → CelR K T w H a c
  fl : fr.length = σ.length
  sl : ∀ (i : Nat) s d, σ[i]? = some s → fr[i]? = some d → SlotR K T B w H s d
  sep : ∀ i j p, i ≠ j → OwnAt σ fr i p → OwnAt σ fr j p → False
  me : ∀ x d, B.me = some x → fr[0]? = some (some d) → d.own = true → σ[0]? = some (some (.ref x))

section
variable {K : PySem.W.Frag} {T : Tb} {B : Bs} {w w' : Wd} {σ : St} {H H' : Hp} {fr : Fr} {h : Hh}

theorem Rel.nP (R : Rel K T B w σ H fr h) {p : Addr} (np : H p = none) : w.F p = none ∧ p ∉ w.I ∧ (∀ q ∈ B.P, q.1 ≠ p) := by
  refine ⟨?_, fun hm => ?_, fun q hq e => ?_⟩
  · cases e : w.F p with
    | none => rfl
    | some o =>
      have := R.sub p o e
      rw [np] at this
      cases this
  · obtain ⟨n, hn, e⟩ := List.getElem_of_mem hm
    have hl : n < h.length := by rw [← R.len]; exact hn
    obtain ⟨o, q, _⟩ := R.cel n p h[n] (by rw [List.getElem?_eq_getElem hn, e]) (List.getElem?_eq_getElem hl)
    rw [np] at q
    cases q
  · have z := (R.prot q hq).1
    rw [e, np] at z
    cases z
/-- an address of the heap's cells is tracked -/
theorem Rel.iSome (R : Rel K T B w σ H fr h) {a : Addr} (hm : a ∈ w.I) : H a ≠ none := fun np => (R.nP np).2.1 hm
theorem CelR.keep {a : Addr} {c : D} (x : w.le w') (e : H' a = H a) (z : CelR K T w H a c) : CelR K T w' H' a c := by
  obtain ⟨o, q, r⟩ := z
  exact ⟨o, by rw [e]; exact q, r.mono x⟩

/-- THE STEP: the heap grows by objects that nobody has met, the known part grows by some of them; nothing else changes -/
theorem Rel.grow (R : Rel K T B w σ H fr h) (x : w.le w') (eI : w'.I = w.I) (hk : ∀ a o, H a = some o → H' a = some o) (hF : ∀ a o, w'.F a = some o → H' a = some o)
    (hn : ∀ a, w'.F a ≠ none → w.F a ≠ none ∨ H a = none) (he : ∀ a, H a = none → B.H0 a = none ∨ True) : Rel K T B w' σ H' fr h where
  le := Wd.le_trans R.le x
  nF := fun a ha => by
    rcases hn a ha with q | q
    · exact R.nF a q
    · right
      cases e : B.H0 a with
      | none => rfl
      | some o =>
        by_cases hm : a ∈ B.w0.I
        · exact absurd q (R.iSome (Wd.le_mem R.le hm))
        · have := R.keep a o e hm
          rw [q] at this
          cases this
  nI := fun a ha => R.nI a (by rw [← eI]; exact ha)
  keep := fun a o e hm => hk a o (R.keep a o e hm)
  prot := fun q hq => by
    obtain ⟨h1, h2, h3⟩ := R.prot q hq
    refine ⟨hk _ _ h1, ?_, by rw [eI]; exact h3⟩
    cases e : w'.F q.1 with
    | none => rfl
    | some o =>
      rcases hn q.1 (by rw [e]; simp) with z | z
      · exact absurd h2 z
      · rw [h1] at z
        cases z
  sub := hF
  len := by rw [eI]; exact R.len
  nd := by rw [eI]; exact R.nd
  dis := fun a ha => by
    have hm : a ∈ w.I := by rw [← eI]; exact ha
    cases e : w'.F a with
    | none => rfl
    | some o =>
      rcases hn a (by rw [e]; simp) with z | z
      · exact absurd (R.dis a hm) z
      · exact absurd z (R.iSome hm)
  cel := fun n a c e1 e2 => by
    have e1' : w.I[n]? = some a := by rw [← eI]; exact e1
    have z := R.cel n a c e1' e2
    refine CelR.keep x ?_ z
    have hs := R.iSome (List.mem_of_getElem? e1')
    cases q : H a with
    | none => exact absurd q hs
    | some o => exact hk a o q
  fl := R.fl
  sl := fun i s d e1 e2 => by
    have z := R.sl i s d e1 e2
    cases z with
    | none => exact .none
    | val r => exact .val (r.mono x)
    | own o e r =>
      refine .own ⟨?_, by rw [eI]; exact o.i, o.e, o.p⟩ (hk _ _ e) (r.mono x)
      cases q : w'.F _ with
      | none => rfl
      | some u =>
        rcases hn _ (by rw [q]; simp) with z | z
        · exact absurd o.f z
        · rw [e] at z
          cases z
  sep := R.sep
  me := R.me

def Wd.add (w : Wd) (p : Addr) (o : HO) : Wd := ⟨upd w.F p o, w.I⟩
theorem Wd.le_add {p : Addr} {o : HO} (e : w.F p = none) : w.le (w.add p o) :=
  ⟨fun a u h => by
    show upd w.F p o a = some u
    rw [upd_ne (ne_of_none h e)]
    exact h, [], by simp [Wd.add]⟩
/-- a new known object -/
theorem Rel.laid (R : Rel K T B w σ H fr h) {p : Addr} {o : HO} (np : H p = none) : Rel K T B (w.add p o) σ (upd H p o) fr h := by
  refine R.grow (Wd.le_add (R.nP np).1) rfl (fun a u e => ?_) (fun a u e => ?_) (fun a e => ?_) (fun _ _ => .inr trivial)
  · rw [upd_ne (ne_of_none e np)]
    exact e
  · have e' : upd w.F p o a = some u := e
    by_cases ha : a = p
    · subst ha
      rw [upd_same] at e' ⊢
      exact e'
    · rw [upd_ne ha] at e' ⊢
      exact R.sub a u e'
  · have e' : upd w.F p o a ≠ none := e
    by_cases ha : a = p
    · subst ha
      exact .inr np
    · rw [upd_ne ha] at e'
      exact .inl e'
/-- a new object of the body's own -/
theorem Rel.temp (R : Rel K T B w σ H fr h) {p : Addr} {o : HO} (np : H p = none) : Rel K T B w σ (upd H p o) fr h :=
  R.grow (Wd.le_refl w) rfl (fun a u e => by rw [upd_ne (ne_of_none e np)]; exact e) (fun a u e => by rw [upd_ne (ne_of_none (R.sub a u e) np)]; exact R.sub a u e) (fun a e => .inl e) (fun _ _ => .inr trivial)
theorem Rel.own_new (R : Rel K T B w σ H fr h) {p : Addr} (np : H p = none) : Own B w p := by
  obtain ⟨h1, h2, h3⟩ := R.nP np
  refine ⟨h1, h2, ?_, h3⟩
  cases e : B.H0 p with
  | none => rfl
  | some o =>
    by_cases hm : p ∈ B.w0.I
    · exact absurd np (R.iSome (Wd.le_mem R.le hm))
    · have := R.keep p o e hm
      rw [np] at this
      cases this

/-- no slot holds it as a list of its own -/
def Loose (σ : St) (fr : Fr) (p : Addr) : Prop := ∀ i, ¬ OwnAt σ fr i p
theorem Rel.loose_new (R : Rel K T B w σ H fr h) {p : Addr} (np : H p = none) : Loose σ fr p := fun i ⟨e1, d, e2, od⟩ => by
  have z := R.sl i _ _ e1 e2
  cases z with
  | val r => exact own_not od r
  | own o e r =>
    rw [np] at e
    cases e

/-- an own object becomes known -/
theorem Rel.freeze (R : Rel K T B w σ H fr h) {p : Addr} {o : HO} (O : Own B w p) (l : Loose σ fr p) (e : H p = some o) : Rel K T B (w.add p o) σ H fr h where
  le := Wd.le_trans R.le (Wd.le_add O.f)
  nF := fun a ha => by
    have e' : upd w.F p o a ≠ none := ha
    by_cases hp : a = p
    · subst hp
      exact .inr O.e
    · rw [upd_ne hp] at e'
      exact R.nF a e'
  nI := R.nI
  keep := R.keep
  prot := fun q hq => by
    obtain ⟨h1, h2, h3⟩ := R.prot q hq
    refine ⟨h1, ?_, h3⟩
    show upd w.F p o q.1 = none
    rw [upd_ne (O.p q hq)]
    exact h2
  sub := fun a u ha => by
    have e' : upd w.F p o a = some u := ha
    by_cases hp : a = p
    · subst hp
      rw [upd_same] at e'
      rw [← e']
      exact e
    · rw [upd_ne hp] at e'
      exact R.sub a u e'
  len := R.len
  nd := R.nd
  dis := fun a ha => by
    show upd w.F p o a = none
    have hne : a ≠ p := fun z => O.i (by rw [← z]; exact ha)
    rw [upd_ne hne]
    exact R.dis a ha
  cel := fun n a c e1 e2 => CelR.keep (Wd.le_add O.f) rfl (R.cel n a c e1 e2)
  fl := R.fl
  sl := fun i s d e1 e2 => by
    have z := R.sl i s d e1 e2
    cases z with
    | none => exact .none
    | val r => exact .val (r.mono (Wd.le_add O.f))
    | @own q _ _ o' e' r =>
      refine .own ⟨?_, o'.i, o'.e, o'.p⟩ e' (r.mono (Wd.le_add O.f))
      show upd w.F p o q = none
      have hne : q ≠ p := fun z => l i ⟨by rw [← z]; exact e1, _, e2, r.own⟩
      rw [upd_ne hne]
      exact o'.f
  sep := R.sep
  me := R.me

theorem ownAt_set {σ : St} {fr : Fr} {i j : Nat} {s : Option V} {d : Option D} {p : Addr} (hi : i ≠ j) (o : OwnAt (σ.set j s) (fr.set j d) i p) : OwnAt σ fr i p := by
  obtain ⟨e1, dd, e2, od⟩ := o
  rw [List.getElem?_set_ne (Ne.symm hi)] at e1 e2
  exact ⟨e1, dd, e2, od⟩
/-- a slot is stored -/
theorem Rel.set_slot (R : Rel K T B w σ H fr h) {i : Nat} {s : Option V} {d : Option D} (r : SlotR K T B w H s d) (hp : ∀ p d', s = some (.ref p) → d = some d' → d'.own = true → Loose σ fr p) (hm : i = 0 → ∀ d', d = some d' → d'.own = false) : Rel K T B w (σ.set i s) H (fr.set i d) h :=
  { R with
    me := fun x d' bx e od => by
      by_cases hi : i = 0
      · subst hi
        have l2 : 0 < fr.length := by
          have := (List.getElem?_eq_some_iff.mp e).1
          rwa [List.length_set] at this
        rw [List.getElem?_set_self l2] at e
        rw [hm rfl d' (Option.some.inj e)] at od
        cases od
      · rw [List.getElem?_set_ne hi] at e ⊢
        exact R.me x d' bx e od
    fl := by rw [List.length_set, List.length_set]; exact R.fl
    sl := fun j s' d' e1 e2 => by
      by_cases hj : i = j
      · subst hj
        have l1 : i < σ.length := by
          have := (List.getElem?_eq_some_iff.mp e1).1
          rwa [List.length_set] at this
        rw [List.getElem?_set_self l1] at e1
        rw [List.getElem?_set_self (by rw [R.fl]; exact l1)] at e2
        cases e1
        cases e2
        exact r
      · rw [List.getElem?_set_ne hj] at e1 e2
        exact R.sl j s' d' e1 e2
    sep := fun a b p hab o1 o2 => by
      have key : ∀ a b, a ≠ b → a = i → OwnAt (σ.set i s) (fr.set i d) a p → OwnAt (σ.set i s) (fr.set i d) b p → False := fun a b hab ha o1 o2 => by
        subst ha
        have o2' := ownAt_set (Ne.symm hab) o2
        obtain ⟨e1, dd, e2, od⟩ := o1
        have l1 : a < σ.length := by
          have := (List.getElem?_eq_some_iff.mp e1).1
          rwa [List.length_set] at this
        rw [List.getElem?_set_self l1] at e1
        rw [List.getElem?_set_self (by rw [R.fl]; exact l1)] at e2
        cases e1
        cases e2
        exact hp p dd rfl rfl od b o2'
      by_cases ha : a = i
      · exact key a b hab ha o1 o2
      · by_cases hb : b = i
        · exact key b a (Ne.symm hab) hb o2 o1
        · exact R.sep a b p hab (ownAt_set ha o1) (ownAt_set hb o2) }
/-- a slot is forgotten (the frame's variable stays) -/
theorem Rel.drop_slot (R : Rel K T B w σ H fr h) (i : Nat) : Rel K T B w σ H (fr.set i none) h :=
  { R with
    me := fun x d' bx e od => by
      by_cases hi : i = 0
      · subst hi
        have l2 : 0 < fr.length := by
          have := (List.getElem?_eq_some_iff.mp e).1
          rwa [List.length_set] at this
        rw [List.getElem?_set_self l2] at e
        cases e
      · rw [List.getElem?_set_ne hi] at e
        exact R.me x d' bx e od
    fl := by rw [List.length_set]; exact R.fl
    sl := fun j s' d' e1 e2 => by
      by_cases hj : i = j
      · subst hj
        have l2 : i < fr.length := by
          have := (List.getElem?_eq_some_iff.mp e2).1
          rwa [List.length_set] at this
        rw [List.getElem?_set_self l2] at e2
        cases e2
        exact .none
      · rw [List.getElem?_set_ne hj] at e2
        exact R.sl j s' d' e1 e2
    sep := fun a b p hab o1 o2 => by
      have key : ∀ a, OwnAt σ (fr.set i none) a p → OwnAt σ fr a p := fun a o => by
        obtain ⟨e1, dd, e2, od⟩ := o
        by_cases ha : i = a
        · subst ha
          have l2 : i < fr.length := by
            have := (List.getElem?_eq_some_iff.mp e2).1
            rwa [List.length_set] at this
          rw [List.getElem?_set_self l2] at e2
          cases e2
        · rw [List.getElem?_set_ne ha] at e2
          exact ⟨e1, dd, e2, od⟩
      exact R.sep a b p hab (key a o1) (key b o2) }
/-- a slot's own object becomes known -/
theorem Rel.freeze_slot (R : Rel K T B w σ H fr h) {i : Nat} {d : D} (e : fr[i]? = some (some d)) (od : d.own = true) :
    ∃ p o, σ[i]? = some (some (.ref p)) ∧ H p = some o ∧ OwnR K T w o d ∧ w.F p = none ∧ Rel K T B (w.add p o) σ H (fr.set i (some d.fz)) h := by
  have l2 : i < fr.length := (List.getElem?_eq_some_iff.mp e).1
  have l1 : i < σ.length := by rw [← R.fl]; exact l2
  have e1 : σ[i]? = some σ[i] := List.getElem?_eq_getElem l1
  have z := R.sl i _ _ e1 e
  generalize hs : σ[i] = s at z e1
  cases z with
  | val r => exact (own_not od r).elim
  | @own p o _ O eH r =>
    refine ⟨p, o, e1, eH, r, O.f, ?_⟩
    have R1 := R.drop_slot i
    have lo : Loose σ (fr.set i none) p := fun j q => by
      obtain ⟨q1, dq, q2, oq⟩ := q
      by_cases hj : i = j
      · subst hj
        rw [List.getElem?_set_self l2] at q2
        cases q2
      · rw [List.getElem?_set_ne hj] at q2
        exact R.sep i j p hj ⟨e1, d, e, od⟩ ⟨q1, dq, q2, oq⟩
    have R2 := R1.freeze O lo eH
    have R3 := R2.set_slot (i := i) (s := some (.ref p)) (d := some d.fz) (.val (r.fz (Wd.le_add O.f) (by show upd w.F p _ p = _; rw [upd_same]))) (fun _ _ _ q oq => by
      cases q
      rw [fz_own] at oq
      cases oq) (fun _ d' q => by
      cases q
      exact fz_own d)
    rw [List.set_set] at R3
    have es : σ.set i (some (.ref p)) = σ := by
      have := List.set_getElem_self (as := σ) (h := l1)
      rw [hs] at this
      exact this
    rw [es] at R3
    exact R3

theorem nodup_at {α : Type} : ∀ {l : List α} {i j : Nat} {a : α}, l.Nodup → l[i]? = some a → l[j]? = some a → i = j
  | [], _, _, _, _, e, _ => by simp at e
  | b :: l, 0, 0, _, _, _, _ => rfl
  | b :: l, 0, j + 1, a, n, e1, e2 => by
    simp at e1 e2
    subst e1
    exact absurd (List.mem_of_getElem? e2) (List.nodup_cons.mp n).1
  | b :: l, i + 1, 0, a, n, e1, e2 => by
    simp at e1 e2
    subst e2
    exact absurd (List.mem_of_getElem? e1) (List.nodup_cons.mp n).1
  | b :: l, i + 1, j + 1, a, n, e1, e2 => by
    simp at e1 e2
    rw [nodup_at (List.nodup_cons.mp n).2 e1 e2]
/-- an own object changes -/
theorem Rel.change_slot (R : Rel K T B w σ H fr h) {i : Nat} {d d' : D} {p : Addr} {o o' : HO} (e1 : σ[i]? = some (some (.ref p))) (e : fr[i]? = some (some d)) (O : Own B w p) (eH : H p = some o) (od : d.own = true) (r' : OwnR K T w o' d') :
    Rel K T B w σ (upd H p o') (fr.set i (some d')) h := by
  have l2 : i < fr.length := (List.getElem?_eq_some_iff.mp e).1
  have l1 : i < σ.length := by rw [← R.fl]; exact l2
  refine { R with keep := fun a u ha hm => ?_, prot := fun q hq => ?_, sub := fun a u ha => ?_, cel := fun n a c q1 q2 => ?_, fl := by rw [List.length_set]; exact R.fl, sl := fun j s dj q1 q2 => ?_, sep := fun a b q hab o1 o2 => ?_, me := fun x dx bx q od' => ?_ }
  · rw [upd_ne (fun z => by rw [z, O.e] at ha; cases ha)]
    exact R.keep a u ha hm
  · obtain ⟨h1, h2, h3⟩ := R.prot q hq
    exact ⟨by rw [upd_ne (O.p q hq)]; exact h1, h2, h3⟩
  · rw [upd_ne (fun z => by rw [z, O.f] at ha; cases ha)]
    exact R.sub a u ha
  · refine CelR.keep (Wd.le_refl w) ?_ (R.cel n a c q1 q2)
    exact upd_ne (fun z => O.i (z ▸ List.mem_of_getElem? q1))
  · by_cases hj : i = j
    · subst hj
      rw [e1] at q1
      rw [List.getElem?_set_self l2] at q2
      cases q1
      cases q2
      exact .own O upd_same r'
    · rw [List.getElem?_set_ne hj] at q2
      have z := R.sl j s dj q1 q2
      cases z with
      | none => exact .none
      | val r => exact .val r
      | @own q u _ O' eH' rr =>
        refine .own O' ?_ rr
        have hne : q ≠ p := fun z => R.sep i j p hj ⟨e1, d, e, od⟩ ⟨by rw [← z]; exact q1, _, q2, rr.own⟩
        rw [upd_ne hne]
        exact eH'
  · have key : ∀ a, OwnAt σ (fr.set i (some d')) a q → OwnAt σ fr a q := fun a ⟨q1, dq, q2, oq⟩ => by
      by_cases ha : i = a
      · subst ha
        exact ⟨q1, d, e, od⟩
      · rw [List.getElem?_set_ne ha] at q2
        exact ⟨q1, dq, q2, oq⟩
    exact R.sep a b q hab (key a o1) (key b o2)
  · by_cases hi : i = 0
    · subst hi
      exact R.me x d bx e od
    · rw [List.getElem?_set_ne hi] at q
      exact R.me x dx bx q od'
/-- a heap object changes -/
theorem Rel.change_cell (R : Rel K T B w σ H fr h) {n : Nat} {a : Addr} {d d' : D} {o' : HO} (e1 : w.I[n]? = some a) (e : h[n]? = some d) (r' : OwnR K T w o' d') : Rel K T B w σ (upd H a o') fr (h.set n d') := by
  have hm : a ∈ w.I := List.mem_of_getElem? e1
  have lh : n < h.length := (List.getElem?_eq_some_iff.mp e).1
  refine { R with keep := fun b u hb hn => ?_, prot := fun q hq => ?_, sub := fun b u hb => ?_, len := by rw [List.length_set]; exact R.len, cel := fun k b c q1 q2 => ?_, sl := fun j s dj q1 q2 => ?_ }
  · rw [upd_ne (fun z => by
      subst z
      rcases R.nI _ hm with q | q
      · exact hn q
      · rw [q] at hb
        cases hb)]
    exact R.keep b u hb hn
  · obtain ⟨h1, h2, h3⟩ := R.prot q hq
    have hne : q.1 ≠ a := fun z => h3 (by rw [z]; exact hm)
    exact ⟨by rw [upd_ne hne]; exact h1, h2, h3⟩
  · rw [upd_ne (fun z => by rw [z, R.dis a hm] at hb; cases hb)]
    exact R.sub b u hb
  · by_cases hk : n = k
    · subst hk
      rw [e1] at q1
      rw [List.getElem?_set_self lh] at q2
      cases q1
      cases q2
      exact ⟨o', upd_same, r'⟩
    · rw [List.getElem?_set_ne hk] at q2
      refine CelR.keep (Wd.le_refl w) (upd_ne fun z => ?_) (R.cel k b c q1 q2)
      subst z
      exact hk (nodup_at R.nd e1 q1)
  · have z := R.sl j s dj q1 q2
    cases z with
    | none => exact .none
    | val r => exact .val r
    | @own q u _ O' eH' rr =>
      have hne : q ≠ a := fun z => O'.i (by rw [z]; exact hm)
      exact .own O' (by rw [upd_ne hne]; exact eH') rr
/-- an own object goes to the heap's cells -/
theorem Rel.to_cell (R : Rel K T B w σ H fr h) {p : Addr} {o : HO} {d : D} (O : Own B w p) (lo : Loose σ fr p) (e : H p = some o) (r : OwnR K T w o d) : Rel K T B ⟨w.F, w.I ++ [p]⟩ σ H fr (h ++ [d]) := by
  have le : w.le ⟨w.F, w.I ++ [p]⟩ := ⟨fun _ _ q => q, [p], rfl⟩
  refine ⟨Wd.le_trans R.le le, R.nF, fun a ha => ?_, R.keep, fun q hq => ?_, R.sub, ?_, ?_, fun a ha => ?_, fun n a c q1 q2 => ?_, R.fl, fun j s dj q1 q2 => ?_, R.sep, R.me⟩
  · rcases List.mem_append.mp ha with q | q
    · exact R.nI a q
    · rw [List.mem_singleton] at q
      subst q
      exact .inr O.e
  · obtain ⟨h1, h2, h3⟩ := R.prot q hq
    refine ⟨h1, h2, fun z => ?_⟩
    rcases List.mem_append.mp z with y | y
    · exact h3 y
    · rw [List.mem_singleton] at y
      exact O.p q hq y
  · show (w.I ++ [p]).length = (h ++ [d]).length
    rw [List.length_append, List.length_append, R.len]
    rfl
  · show (w.I ++ [p]).Nodup
    rw [List.nodup_append]
    exact ⟨R.nd, by simp, fun a ha b hb => by
      rw [List.mem_singleton] at hb
      subst hb
      exact fun z => O.i (z ▸ ha)⟩
  · rcases List.mem_append.mp ha with q | q
    · exact R.dis a q
    · rw [List.mem_singleton] at q
      subst q
      exact O.f
  · have q1' : (w.I ++ [p])[n]? = some a := q1
    by_cases hn : n < w.I.length
    · rw [List.getElem?_append_left hn] at q1'
      rw [List.getElem?_append_left (by rw [← R.len]; exact hn)] at q2
      exact CelR.keep le rfl (R.cel n a c q1' q2)
    · have hn' : w.I.length ≤ n := Nat.le_of_not_lt hn
      rw [List.getElem?_append_right hn'] at q1'
      rw [List.getElem?_append_right (by rw [← R.len]; exact hn'), ← R.len] at q2
      cases k : n - w.I.length with
      | zero =>
        rw [k] at q1' q2
        cases q1'
        cases q2
        exact ⟨o, e, r.mono le⟩
      | succ m =>
        rw [k] at q1'
        simp at q1'
  · have z := R.sl j s dj q1 q2
    cases z with
    | none => exact .none
    | val r => exact .val (r.mono le)
    | @own q u _ O' eH' rr =>
      refine .own ⟨O'.f, fun z => ?_, O'.e, O'.p⟩ eH' (rr.mono le)
      rcases List.mem_append.mp z with y | y
      · exact O'.i y
      · rw [List.mem_singleton] at y
        exact lo j ⟨by rw [← y]; exact q1, _, q2, rr.own⟩

/-! ### calls -/
/-- what a callee starts with -/
theorem noSlot {i : Nat} {p : Addr} : ¬ OwnAt [] [] i p := fun ⟨q, _⟩ => by simp at q
theorem Rel.enter (R : Rel K T B w σ H fr h) : Rel K T (Bs.of w H) w [] H [] h where
  le := Wd.le_refl w
  nF := fun _ q => .inl q
  nI := fun _ q => .inl q
  keep := fun _ _ q _ => q
  prot := fun _ q => by cases q
  sub := R.sub
  len := R.len
  nd := R.nd
  dis := R.dis
  cel := R.cel
  fl := rfl
  sl := fun _ _ _ q => by simp at q
  sep := fun _ _ _ _ q => (noSlot q).elim
  me := fun _ _ _ q _ => by simp at q
theorem Rel.unframe (R : Rel K T B w σ H fr h) : Rel K T B w [] H [] h where
  le := R.le
  nF := R.nF
  nI := R.nI
  keep := R.keep
  prot := R.prot
  sub := R.sub
  len := R.len
  nd := R.nd
  dis := R.dis
  cel := R.cel
  fl := rfl
  sl := fun _ _ _ q => by simp at q
  sep := fun _ _ _ _ q => (noSlot q).elim
  me := fun _ _ _ q _ => by simp at q
/-- a tracked object is not new -/
theorem Rel.some_of (R : Rel K T B w σ H fr h) {a : Addr} (q : B.H0 a ≠ none) : a ∈ B.w0.I ∨ H a ≠ none := by
  cases e : B.H0 a with
  | none => exact absurd e q
  | some o =>
    by_cases hm : a ∈ B.w0.I
    · exact .inl hm
    · right
      rw [R.keep a o e hm]
      simp
/-- behind a call -/
theorem Rel.back {h' : Hh} (R : Rel K T B w σ H fr h) (x : w.le w') (C : Rel K T (Bs.of w H) w' [] H' [] h') : Rel K T B w' σ H' fr h' where
  le := Wd.le_trans R.le x
  nF := fun a ha => by
    rcases C.nF a ha with q | q
    · exact R.nF a q
    · exact .inr (R.own_new q).e
  nI := fun a ha => by
    rcases C.nI a ha with q | q
    · exact R.nI a q
    · exact .inr (R.own_new q).e
  keep := fun a o e hm => C.keep a o (R.keep a o e hm) fun z => by
    rcases R.nI a z with q | q
    · exact hm q
    · rw [q] at e
      cases e
  prot := fun q hq => by
    obtain ⟨h1, h2, h3⟩ := R.prot q hq
    refine ⟨C.keep _ _ h1 h3, ?_, fun z => ?_⟩
    · cases e : w'.F q.1 with
      | none => rfl
      | some o =>
        rcases C.nF q.1 (by rw [e]; simp) with y | y
        · exact absurd h2 y
        · have y' : H q.1 = none := y
          rw [h1] at y'
          cases y'
    · rcases C.nI _ z with y | y
      · exact h3 y
      · have y' : H q.1 = none := y
        rw [h1] at y'
        cases y'
  sub := C.sub
  len := C.len
  nd := C.nd
  dis := C.dis
  cel := C.cel
  fl := R.fl
  sl := fun i s d e1 e2 => by
    have z := R.sl i s d e1 e2
    cases z with
    | none => exact .none
    | val r => exact .val (r.mono x)
    | @own p o _ O eH rr =>
      refine .own ⟨?_, fun z => ?_, O.e, O.p⟩ (C.keep _ _ eH O.i) (rr.mono x)
      · cases e : w'.F p with
        | none => rfl
        | some o =>
          rcases C.nF p (by rw [e]; simp) with y | y
          · exact absurd O.f y
          · have y' : H p = none := y
            rw [eH] at y'
            cases y'
      · rcases C.nI _ z with y | y
        · exact O.i y
        · have y' : H p = none := y
          rw [eH] at y'
          cases y'
  sep := R.sep
  me := R.me
end
end Pk

/-! Pk2: computations over trees; what an expression simulates. -/
namespace Pk
open PySem PySem.Spec L2

structure Exn where
  c : Nat
  fs : List D
inductive R (α : Type) where
  | ok (a : α) (fr : Fr) (h : Hh)
  | exc (x : Exn) (fr : Fr) (h : Hh)
  | err
abbrev M (α : Type) := Fr → Hh → R α
def M.ret {α : Type} (a : α) : M α := fun fr h => .ok a fr h
def M.bind {α β : Type} (m : M α) (f : α → M β) : M β := fun fr h => match m fr h with
  | .ok a fr h => f a fr h
  | .exc x fr h => .exc x fr h
  | .err => .err
def M.opt {α : Type} (o : Option α) : M α := fun fr h => match o with
  | some a => .ok a fr h
  | none => .err
@[simp] theorem M.bind_ret {α β : Type} (a : α) (f : α → M β) : (M.ret a).bind f = f a := rfl
@[simp] theorem M.ret_ap {α : Type} (a : α) (fr : Fr) (h : Hh) : M.ret a fr h = .ok a fr h := rfl
@[simp] theorem M.opt_some {α : Type} (a : α) (fr : Fr) (h : Hh) : M.opt (some a) fr h = .ok a fr h := rfl
@[simp] theorem M.opt_none {α : Type} (fr : Fr) (h : Hh) : M.opt (none : Option α) fr h = .err := rfl
theorem M.bind_ok {α β : Type} {m : M α} {f : α → M β} {fr fr1 : Fr} {h h1 : Hh} {a : α} (e : m fr h = .ok a fr1 h1) : m.bind f fr h = f a fr1 h1 := by
  unfold M.bind
  rw [e]
theorem M.bind_exc {α β : Type} {m : M α} {f : α → M β} {fr fr1 : Fr} {h h1 : Hh} {x : Exn} (e : m fr h = .exc x fr1 h1) : m.bind f fr h = .exc x fr1 h1 := by
  unfold M.bind
  rw [e]
theorem M.bind_err {α β : Type} {m : M α} {f : α → M β} {fr : Fr} {h : Hh} (e : m fr h = .err) : m.bind f fr h = .err := by
  unfold M.bind
  rw [e]

/-- an exception's fields stand in the known part -/
def ExcR (K : PySem.W.Frag) (T : Tb) (w : Wd) (x : Exn) (cls : Value) (dd : Option Addr) : Prop :=
  cls = .ref (T.cad x.c) ∧ ((x.fs = [] ∧ dd = none) ∨ ∃ d vs, dd = some d ∧ w.F d = some (.xd ((T.fld x.c).zip vs)) ∧ RelDs K T w vs x.fs)

section
variable {α β : Type}
/-- what a result asks of what follows -/
def Post (K : PySem.W.Frag) (T : Tb) (B : Bs) (W : WX) (VR : Wd → Hp → Fr → β → α → Prop) (w : Wd) (σ : L2.St) (r : R α) (Q : β → Hp → Prop) : Prop :=
  match r with
  | .ok d fr h => ∀ w' H' v, w.le w' → Rel K T B w' σ H' fr h → VR w' H' fr v d → Q v H'
  | .exc x fr h => ∀ w' H' cls dd, w.le w' → Rel K T B w' σ H' fr h → ExcR K T w' x cls dd → W cls dd σ H'
  | .err => False
end
abbrev VRel (β α : Type) := PySem.W.Frag → Tb → Bs → L2.St → Wd → Hp → Fr → β → α → Prop
/-- a value, known -/
def vV : VRel V D := fun K T _ _ w _ _ v d => RelD K T w v d
/-- a value, or a new object of the body's own -/
def vE : VRel V D := fun K T B σ w H fr v d => RelD K T w v d ∨ ∃ p o, v = .ref p ∧ Own B w p ∧ Loose σ fr p ∧ H p = some o ∧ OwnR K T w o d
/-- a value, or what an object holds right now -/
def vO : VRel V D := fun K T _ _ w H _ v d => RelD K T w v d ∨ ∃ p o, v = .ref p ∧ H p = some o ∧ OwnR K T w o d
def vB : VRel Bool Bool := fun _ _ _ _ _ _ _ b c => b = c
def vA : VRel (List V) (List D) := fun K T _ _ w _ _ vs ds => RelDs K T w vs ds

def Sim {α β : Type} (run : L2.St → Hp → (β → Hp → Prop) → Prop) (K : PySem.W.Frag) (T : Tb) (W : WX) (VR : VRel β α) (m : M α) : Prop :=
  ∀ (B : Bs) (w : Wd) (σ : L2.St) (H : Hp) (fr : Fr) (h : Hh) (Q : β → Hp → Prop), Rel K T B w σ H fr h → Post K T B W (VR K T B σ) w σ (m fr h) Q → run σ H Q

section
variable {α β γ δ : Type} {K : PySem.W.Frag} {T : Tb} {B : Bs} {W : WX} {w w' : Wd} {σ : L2.St} {H : Hp}
theorem Post.le {VR : Wd → Hp → Fr → β → α → Prop} {r : R α} {Q : β → Hp → Prop} (x : w.le w') (p : Post K T B W VR w σ r Q) : Post K T B W VR w' σ r Q := by
  cases r with
  | ok d fr h => exact fun w2 H2 v y => p w2 H2 v (Wd.le_trans x y)
  | exc e fr h => exact fun w2 H2 c d y => p w2 H2 c d (Wd.le_trans x y)
  | err => exact p
theorem Post.imp {VR : Wd → Hp → Fr → β → α → Prop} {r : R α} {Q Q' : β → Hp → Prop} (p : Post K T B W VR w σ r Q) (hq : ∀ v H, Q v H → Q' v H) : Post K T B W VR w σ r Q' := by
  cases r with
  | ok d fr h => exact fun w2 H2 v y r z => hq _ _ (p w2 H2 v y r z)
  | exc e fr h => exact p
  | err => exact p
/-- the first part of a chain -/
theorem Post.bind {VR : Wd → Hp → Fr → γ → δ → Prop} {VR' : Wd → Hp → Fr → β → α → Prop} {m : M δ} {f : δ → M α} {fr : Fr} {h : Hh} {Q : β → Hp → Prop} {Q' : γ → Hp → Prop} (p : Post K T B W VR' w σ (m.bind f fr h) Q)
    (k : ∀ d fr1 h1 w1 H1 v, m fr h = .ok d fr1 h1 → w.le w1 → Rel K T B w1 σ H1 fr1 h1 → VR w1 H1 fr1 v d → Post K T B W VR' w1 σ (f d fr1 h1) Q → Q' v H1) : Post K T B W VR w σ (m fr h) Q' := by
  cases e : m fr h with
  | ok d fr1 h1 =>
    rw [M.bind_ok e] at p
    exact fun w1 H1 v x r z => k d fr1 h1 w1 H1 v e x r z (p.le x)
  | exc y fr1 h1 =>
    rw [M.bind_exc e] at p
    exact p
  | err =>
    rw [M.bind_err e] at p
    exact p
theorem Sim.bind {run1 : L2.St → Hp → (γ → Hp → Prop) → Prop} {run2 : γ → L2.St → Hp → (β → Hp → Prop) → Prop} {VR1 : VRel γ δ} {VR : VRel β α} {m : M δ} {f : δ → M α} (s1 : Sim run1 K T W VR1 m)
    (s2 : ∀ B w σ H fr h d v Q, Rel K T B w σ H fr h → VR1 K T B σ w H fr v d → Post K T B W (VR K T B σ) w σ (f d fr h) Q → run2 v σ H Q) :
    Sim (fun σ H Q => run1 σ H fun v H1 => run2 v σ H1 Q) K T W VR (m.bind f) := fun B w σ H fr h Q r p =>
  s1 B w σ H fr h _ r (p.bind fun d fr1 h1 w1 H1 v e x r1 z p1 => s2 B w1 σ H1 fr1 h1 d v Q r1 z p1)
end

/-! ### the largest readings -/
structure WE (X : Cx) (e : Expr) (σ : L2.St) (H : Hp) (Q : VK) : Prop where
  go : ∀ pins s, Inv X pins σ H s → wpAny (model X.prog X.w) X.A (eval e X.env) (EP X pins σ Q) X.xe s
structure WT (X : Cx) (e : Expr) (σ : L2.St) (H : Hp) (Q : Bool → Hp → Prop) : Prop where
  go : ∀ pins s, Inv X pins σ H s → wpAny (model X.prog X.w) X.A (isTrue e X.env (eval e X.env)) (TP X pins σ Q) X.xe s
structure WW (X : Cx) (e : Expr) (σ : L2.St) (H : Hp) (Q : Bool → Hp → Prop) : Prop where
  go : ∀ whole pins s, Inv X pins σ H s → wpAny (model X.prog X.w) X.A (isTrue e X.env whole) (TP X pins σ Q) X.xe s
structure WA (X : Cx) (es : List Expr) (σ : L2.St) (H : Hp) (Q : List V → Hp → Prop) : Prop where
  go : ∀ pos pins s, Inv X pins σ H s → wpAny (model X.prog X.w) X.A (spliced (backTo pos (starEach es X.env))) (AP X pins σ Q) X.xe s
structure WS (X : Cx) (st : Stmt) (D : Ends) (σ : L2.St) (H : Hp) : Prop where
  go : ∀ pins s, Inv X pins σ H s → wpAny (model X.prog X.w) X.A (exec st X.env) (SP X pins D) X.xe s
structure WSs (X : Cx) (st : List Stmt) (D : Ends) (σ : L2.St) (H : Hp) : Prop where
  go : ∀ pins s, Inv X pins σ H s → wpAny (model X.prog X.w) X.A (execs st X.env) (SP X pins D) X.xe s
def rM (X : Cx) (f : Value → Value → Sem Value) : R2 := fun x y H Q => ∀ pins s σ v u, Inv X pins σ H s → RelV x v → RelV y u → wpAny (model X.prog X.w) X.A (f v u) (EP X pins σ Q) X.xe s
def uM (X : Cx) (f : Value → Sem Value) : V → Hp → VK → Prop := fun x H Q => ∀ pins s σ v, Inv X pins σ H s → RelV x v → wpAny (model X.prog X.w) X.A (f v) (EP X pins σ Q) X.xe s
def cM (X : Cx) (f : Value) : List V → Hp → VK → Prop := fun xs H Q => ∀ pins s σ us, Inv X pins σ H s → Vals xs us → wpAny (model X.prog X.w) X.A (call f us) (EP X pins σ Q) X.xe s
section
variable {X : Cx} {e : Expr} {es : List Expr} {st : Stmt} {sts : List Stmt}
theorem pe_max : PE X e (WE X e) := ⟨fun pins s σ H Q I h => h.go pins s I⟩
theorem pt_max : PT X e (WT X e) := ⟨fun pins s σ H Q I h => h.go pins s I⟩
theorem pw_max : PW X e (WW X e) := ⟨fun wh pins s σ H Q I h => h.go wh pins s I⟩
theorem pa_max : PA X es (WA X es) := ⟨fun pos pins s σ H Q I h => h.go pos pins s I⟩
theorem ps_max : PS X st (WS X st) := ⟨fun pins s σ H D I h => h.go pins s I⟩
theorem pss_max : PSs X sts (WSs X sts) := ⟨fun pins s σ H D I h => h.go pins s I⟩
theorem pe_we {t : TE} (p : PE X e t) {σ : L2.St} {H : Hp} {Q : VK} (h : t σ H Q) : WE X e σ H Q := ⟨fun pins s I => p.run pins s σ H Q I h⟩
theorem pt_wt {t : TT} (p : PT X e t) {σ : L2.St} {H : Hp} {Q : Bool → Hp → Prop} (h : t σ H Q) : WT X e σ H Q := ⟨fun pins s I => p.run pins s σ H Q I h⟩
theorem pw_ww {t : TT} (p : PW X e t) {σ : L2.St} {H : Hp} {Q : Bool → Hp → Prop} (h : t σ H Q) : WW X e σ H Q := ⟨fun wh pins s I => p.run wh pins s σ H Q I h⟩
theorem pa_wa {t : TA} (p : PA X es t) {σ : L2.St} {H : Hp} {Q : List V → Hp → Prop} (h : t σ H Q) : WA X es σ H Q := ⟨fun pos pins s I => p.run pos pins s σ H Q I h⟩
theorem ps_ws {t : TS} (p : PS X st t) {D : Ends} {σ : L2.St} {H : Hp} (h : t D σ H) : WS X st D σ H := ⟨fun pins s I => p.run pins s σ H D I h⟩
theorem pss_wss {t : TS} (p : PSs X sts t) {D : Ends} {σ : L2.St} {H : Hp} (h : t D σ H) : WSs X sts D σ H := ⟨fun pins s I => p.run pins s σ H D I h⟩
theorem op_max {f : Value → Value → Sem Value} : OpR X f (rM X f) := fun pins s σ H x y v u Q I rx ry h => h pins s σ v u I rx ry
theorem op_rm {f : Value → Value → Sem Value} {r : R2} (o : OpR X f r) {x y : V} {H : Hp} {Q : VK} (h : r x y H Q) : rM X f x y H Q := fun pins s σ v u I rx ry => o pins s σ H x y v u Q I rx ry h
theorem un_max {f : Value → Sem Value} : UnR X f (uM X f) := fun pins s σ H x v Q I rx h => h pins s σ v I rx
theorem un_um {f : Value → Sem Value} {r : V → Hp → VK → Prop} (o : UnR X f r) {x : V} {H : Hp} {Q : VK} (h : r x H Q) : uM X f x H Q := fun pins s σ v I rx => o pins s σ H x v Q I rx h
theorem call_max {f : Value} : CallR X f (cM X f) := fun pins s σ H xs us Q I r h => h pins s σ us I r
theorem call_cm {f : Value} {r : List V → Hp → VK → Prop} (o : CallR X f r) {xs : List V} {H : Hp} {Q : VK} (h : r xs H Q) : cM X f xs H Q := fun pins s σ us I rr => o pins s σ H xs us Q I rr h
end

abbrev SimE (X : Cx) (T : Tb) (W : WX) (e : Expr) (m : M D) : Prop := Sim (WE X e) X.K T W vE m
abbrev SimV (X : Cx) (T : Tb) (W : WX) (e : Expr) (m : M D) : Prop := Sim (WE X e) X.K T W vV m
abbrev SimT (X : Cx) (T : Tb) (W : WX) (e : Expr) (m : M Bool) : Prop := Sim (WT X e) X.K T W vB m
abbrev SimW (X : Cx) (T : Tb) (W : WX) (e : Expr) (m : M Bool) : Prop := Sim (WW X e) X.K T W vB m
abbrev SimA (X : Cx) (T : Tb) (W : WX) (es : List Expr) (m : M (List D)) : Prop := Sim (WA X es) X.K T W vA m

abbrev SimO (X : Cx) (T : Tb) (W : WX) (e : Expr) (m : M D) : Prop := Sim (WE X e) X.K T W vO m

/-! ### values -/
def mFz (m : M D) : M D := m.bind fun d => M.ret d.fz
def mC (d : D) : M D := M.ret d
def mVar (i : Nat) : M D := fun fr h => match fr[i]? with
  | some (some d) => if d.own then .ok d.fz (fr.set i (some d.fz)) h else .ok d fr h
  | _ => .err
/-- the slot's own object leaves with the def -/
def mMove (i : Nat) : M D := fun fr h => match fr[i]? with
  | some (some d) => .ok d (fr.set i none) h
  | _ => .err
/-- what the slot holds right now -/
def mBor (i : Nat) : M D := fun fr h => match fr[i]? with
  | some (some d) => .ok d fr h
  | _ => .err
section
variable {X : Cx} {T : Tb} {W : WX} {e a b c : Expr} {es : List Expr} {m ma mb mc : M D} {pos : Pos}

theorem sim_imp {α β : Type} {run : L2.St → Hp → (β → Hp → Prop) → Prop} {K : PySem.W.Frag} {VR VR' : VRel β α} {m : M α} (s : Sim run K T W VR m) (h : ∀ B σ w H fr v d, VR K T B σ w H fr v d → VR' K T B σ w H fr v d) : Sim run K T W VR' m :=
  fun B w σ H fr hh Q r p => s B w σ H fr hh Q r (by
    cases q : m fr hh with
    | ok d fr1 h1 =>
      rw [q] at p
      exact fun w1 H1 v x r1 z => p w1 H1 v x r1 (h _ _ _ _ _ _ _ z)
    | exc y fr1 h1 => rw [q] at p; exact p
    | err => rw [q] at p; exact p)
theorem se_of (s : SimV X T W e m) : SimE X T W e m := sim_imp s fun _ _ _ _ _ _ _ z => .inl z
theorem so_of (s : SimV X T W e m) : SimO X T W e m := sim_imp s fun _ _ _ _ _ _ _ z => .inl z
theorem so_ofE (s : SimE X T W e m) : SimO X T W e m := sim_imp s fun _ _ _ _ _ _ _ z => by
  rcases z with z | ⟨p, o, e1, _, _, e2, r⟩
  · exact .inl z
  · exact .inr ⟨p, o, e1, e2, r⟩
/-- a new object that is kept as it is -/
theorem sv_of (s : SimE X T W e m) : SimV X T W e (mFz m) := fun B w σ H fr h Q r p => s B w σ H fr h Q r (by
  refine Post.bind (VR := vE X.K T B σ) p fun d fr1 h1 w1 H1 v eq x r1 z p1 => ?_
  rcases z with z | ⟨p', o, rfl, O, lo, eH, rd⟩
  · rw [relD_fz z] at p1
    exact p1 w1 H1 v (Wd.le_refl _) r1 z
  · exact p1 (w1.add p' o) H1 (.ref p') (Wd.le_add O.f) (r1.freeze O lo eH) (rd.fz (Wd.le_add O.f) (by show upd w1.F p' _ p' = _; rw [upd_same])))
theorem sv_int {i : Int} {j : Nat} : SimV X T W (.Constant (.int i) j pos) (mC (.int i)) := fun B w σ H fr h Q r p => pe_we pe_int (p w H _ (Wd.le_refl _) r (.int i))
theorem sv_bl {i : Bool} {j : Nat} : SimV X T W (.Constant (.bool i) j pos) (mC (.bl i)) := fun B w σ H fr h Q r p => pe_we pe_bl (p w H _ (Wd.le_refl _) r (.bl i))
theorem sv_non {j : Nat} : SimV X T W (.Constant .none j pos) (mC .non) := fun B w σ H fr h Q r p => pe_we pe_non (p w H _ (Wd.le_refl _) r .non)
theorem sv_str {i : Str} {j : Nat} : SimV X T W (.Constant (.str i) j pos) (mC (.str i)) := fun B w σ H fr h Q r p => pe_we pe_str (p w H _ (Wd.le_refl _) r (.str i))
theorem slot_some {K : PySem.W.Frag} {T : Tb} {B : Bs} {w : Wd} {σ : L2.St} {H : Hp} {fr : Fr} {h : Hh} (R : Rel K T B w σ H fr h) {i : Nat} {d : D} (e : fr[i]? = some (some d)) :
    ∃ v, σ[i]? = some (some v) ∧ SlotR K T B w H (some v) (some d) := by
  have l2 : i < fr.length := (List.getElem?_eq_some_iff.mp e).1
  have l1 : i < σ.length := by rw [← R.fl]; exact l2
  have e1 : σ[i]? = some σ[i] := List.getElem?_eq_getElem l1
  have z := R.sl i _ _ e1 e
  generalize σ[i] = s at z e1
  cases z with
  | val r => exact ⟨_, e1, .val r⟩
  | own O eH r => exact ⟨_, e1, .own O eH r⟩
theorem sv_var (i : Nat) {x : Str} (hN : X.N[i]? = some x := by rfl) (hv : Vis X.env.scope x := by first | exact Or.inl rfl | exact Or.inr (Or.inl rfl) | exact Or.inr (Or.inr rfl)) (hd : (x == ("__debug__" : Str)) = false := by decide)
    (hcd : (x == ("__classdict__" : Str)) = false := by decide) : SimV X T W (.Name x pos) (mVar i) := fun B w σ H fr h Q r p => pe_we (pe_var hN hv hd hcd) (by
  unfold mVar at p
  split at p
  · rename_i d e1
    cases od : d.own with
    | true =>
      rw [od] at p
      obtain ⟨q, o, e2, eH, rd, nf, r1⟩ := r.freeze_slot e1 od
      exact ⟨_, e2, p (w.add q o) H (.ref q) (Wd.le_add nf) r1 (rd.fz (Wd.le_add nf) (by show upd w.F q _ q = _; rw [upd_same]))⟩
    | false =>
      rw [od] at p
      obtain ⟨v, e2, z⟩ := slot_some r e1
      cases z with
      | val rd => exact ⟨v, e2, p w H v (Wd.le_refl _) r rd⟩
      | own O eH rd =>
        rw [rd.own] at od
        cases od
  · exact p.elim)
theorem so_var (i : Nat) {x : Str} (hN : X.N[i]? = some x := by rfl) (hv : Vis X.env.scope x := by first | exact Or.inl rfl | exact Or.inr (Or.inl rfl) | exact Or.inr (Or.inr rfl)) (hd : (x == ("__debug__" : Str)) = false := by decide)
    (hcd : (x == ("__classdict__" : Str)) = false := by decide) : SimO X T W (.Name x pos) (mBor i) := fun B w σ H fr h Q r p => pe_we (pe_var hN hv hd hcd) (by
  unfold mBor at p
  split at p
  · rename_i d e1
    obtain ⟨v, e2, z⟩ := slot_some r e1
    refine ⟨v, e2, p w H v (Wd.le_refl _) r ?_⟩
    cases z with
    | val rd => exact .inl rd
    | own O eH rd => exact .inr ⟨_, _, rfl, eH, rd⟩
  · exact p.elim)
theorem se_move (i : Nat) {x : Str} (hN : X.N[i]? = some x := by rfl) (hv : Vis X.env.scope x := by first | exact Or.inl rfl | exact Or.inr (Or.inl rfl) | exact Or.inr (Or.inr rfl)) (hd : (x == ("__debug__" : Str)) = false := by decide)
    (hcd : (x == ("__classdict__" : Str)) = false := by decide) : SimE X T W (.Name x pos) (mMove i) := fun B w σ H fr h Q r p => pe_we (pe_var hN hv hd hcd) (by
  unfold mMove at p
  split at p
  · rename_i d e1
    obtain ⟨v, e2, z⟩ := slot_some r e1
    refine ⟨v, e2, p w H v (Wd.le_refl _) (r.drop_slot i) ?_⟩
    cases z with
    | val rd => exact .inl rd
    | @own q o _ O eH rd =>
      refine .inr ⟨q, o, rfl, O, fun j z => ?_, eH, rd⟩
      obtain ⟨q1, dq, q2, oq⟩ := z
      by_cases hj : i = j
      · subst hj
        rw [List.getElem?_set_self (List.getElem?_eq_some_iff.mp e1).1] at q2
        cases q2
      · rw [List.getElem?_set_ne hj] at q2
        exact r.sep i j q hj ⟨e2, d, e1, rd.own⟩ ⟨q1, dq, q2, oq⟩
  · exact p.elim)

/-! ### what an object holds -/
def big : Nat := 100000
theorem big_line {n : Nat} (h : n ≤ big) : n ≤ sizeLine := Nat.le_trans h (by decide)
def D.der (h : Hh) : D → D
  | .ref n => (h[n]?).getD .non
  | d => d
/-- the items of a list or a tuple -/
def D.its (h : Hh) (d : D) : Option (List D) := match d.der h with
  | .tup l => some l
  | .fl l => some l
  | .kl l => some l
  | .nl l => some l
  | _ => none
theorem its_rel {K : PySem.W.Frag} {T : Tb} {B : Bs} {w : Wd} {σ : L2.St} {H : Hp} {fr : Fr} {h : Hh} {v : V} {d : D} {ds : List D} (R : Rel K T B w σ H fr h) (z : vO K T B σ w H fr v d) (e : d.its h = some ds) :
    ∃ p vs, v = .ref p ∧ RelDs K T w vs ds ∧ (SqL K H p vs ∨ SqT K H p vs) := by
  rcases z with z | ⟨p, o, rfl, eH, z⟩
  · cases z with
    | tup s r =>
      have e' : some _ = some ds := e
      cases e'
      exact ⟨_, _, rfl, r, .inr (sqT_le R.sub s)⟩
    | fl s r =>
      have e' : some _ = some ds := e
      cases e'
      exact ⟨_, _, rfl, r, .inl (SqL.of (R.sub _ _ s))⟩
    | kl s r =>
      have e' : some _ = some ds := e
      cases e'
      exact ⟨_, _, rfl, r, .inl (sqL_le R.sub s)⟩
    | @ref a n s =>
      have ln : n < h.length := by
        rw [← R.len]
        exact (List.getElem?_eq_some_iff.mp s).1
      obtain ⟨o, q, rr⟩ := R.cel n a h[n] s (List.getElem?_eq_getElem ln)
      have e0 : (h[n]?).getD .non = h[n] := by rw [List.getElem?_eq_getElem ln]; rfl
      unfold D.its D.der at e
      dsimp only at e
      rw [e0] at e
      generalize h[n] = c at rr e
      cases rr with
      | lst r =>
        have e' : some _ = some ds := e
        cases e'
        exact ⟨_, _, rfl, r, .inl (SqL.of q)⟩
      | obj r => cases e
    | non => cases e
    | bl _ => cases e
    | int _ => cases e
    | str _ => cases e
    | obj _ _ => cases e
    | cls _ => cases e
    | ty _ => cases e
  · cases z with
    | lst r =>
      have e' : some _ = some ds := e
      cases e'
      exact ⟨_, _, rfl, r, .inl (SqL.of eH)⟩
    | obj r => cases e

/-! ### two operands -/
def mOp {α : Type} (f : Hh → D → D → Option α) (ma mb : M D) : M α := ma.bind fun x => mb.bind fun y fr h => M.opt (f h x y) fr h
theorem s_op {α β : Type} {VR2 : VRel V D} {VR : VRel β α} {f : Hh → D → D → Option α} {r : V → V → Hp → (β → Hp → Prop) → Prop} (sa : SimV X T W a ma) (sb : Sim (WE X b) X.K T W VR2 mb)
    (hr : ∀ B w σ H fr h x y d e z Q, Rel X.K T B w σ H fr h → RelD X.K T w x d → VR2 X.K T B σ w H fr y e → f h d e = some z → (∀ w' H' v, w.le w' → Rel X.K T B w' σ H' fr h → VR X.K T B σ w' H' fr v z → Q v H') → r x y H Q) :
    Sim (fun σ H Q => WE X a σ H fun x H1 => WE X b σ H1 fun y H2 => r x y H2 Q) X.K T W VR (mOp f ma mb) := fun B w σ H fr h Q r1 p =>
  sa B w σ H fr h _ r1 (Post.bind (VR := vV X.K T B σ) p fun d fr1 h1 w1 H1 x e1 l1 r1 rx p1 => sb B w1 σ H1 fr1 h1 _ r1 (Post.bind (VR := VR2 X.K T B σ) p1 fun e fr2 h2 w2 H2 y e2 l2 r2 ry p2 => by
    cases q : f h2 d e with
    | none => rw [q] at p2; exact p2.elim
    | some z =>
      rw [q] at p2
      exact hr B w2 σ H2 fr2 h2 x y d e z Q r2 (rx.mono l2) ry q p2))
end
end Pk

/-! Pk3: operators, comparisons, tests, displays, subscripts. -/
namespace Pk
open PySem PySem.Spec L2

/-- where a derivation stands -/
structure Cq (X : Cx) (T : Tb) (W : WX) (k : Nat) : Prop where
  calm : X.calm = true
  nd : X.N.Nodup
  room : Room k X.A
  takes : Takes X W
  po : PassesOwn (model X.prog X.w) X.A X.env X.xe
theorem Cq.u {X : Cx} {T : Tb} {W : WX} {k : Nat} (C : Cq X T W k) : X.A.units + 65 < cLine := by
  have := C.room.un
  omega

section
variable {X : Cx} {T : Tb} {W : WX} {k : Nat} {e a b c : Expr} {es : List Expr} {m ma mb mc : M D} {pos : Pos}

/-! ### data -/
mutual
def D.toP : D → Option PyData
  | .non => some .none
  | .bl b => some (.bool b)
  | .int i => some (.int i)
  | .str s => some (.str s)
  | .tup l => (D.toPs l).map .tuple
  | .fl l => (D.toPs l).map .list
  | .kl l => (D.toPs l).map .list
  | .nl l => (D.toPs l).map .list
  | _ => none
def D.toPs : List D → Option (List PyData)
  | [] => some []
  | d :: ds => match D.toP d, D.toPs ds with
    | some p, some ps => some (p :: ps)
    | _, _ => none
end
section
variable {K : PySem.W.Frag} {w : Wd} {H : Hp}
mutual
theorem dp_of (hs : ∀ a o, w.F a = some o → H a = some o) : ∀ {v : V} {d : D} {p : PyData}, RelD K T w v d → d.toP = some p → Dp K H v p
  | _, _, _, .non, e => by cases e; exact .non
  | _, _, _, .bl b, e => by cases e; exact .bl b
  | _, _, _, .int i, e => by cases e; exact .int i
  | _, _, _, .str s, e => by cases e; exact .str s
  | _, _, _, .tup s r, e => by
    unfold D.toP at e
    obtain ⟨ps, e1, e2⟩ := Option.map_eq_some_iff.mp e
    subst e2
    exact .tup (sqT_le hs s) (dps_of hs r e1)
  | _, _, _, .fl s r, e => by
    unfold D.toP at e
    obtain ⟨ps, e1, e2⟩ := Option.map_eq_some_iff.mp e
    subst e2
    exact .lst (SqL.of (hs _ _ s)) (dps_of hs r e1)
  | _, _, _, .kl s r, e => by
    unfold D.toP at e
    obtain ⟨ps, e1, e2⟩ := Option.map_eq_some_iff.mp e
    subst e2
    exact .lst (sqL_le hs s) (dps_of hs r e1)
  | _, _, _, .obj _ _, e => by cases e
  | _, _, _, .ref _, e => by cases e
  | _, _, _, .cls _, e => by cases e
  | _, _, _, .ty _, e => by cases e
theorem dps_of (hs : ∀ a o, w.F a = some o → H a = some o) : ∀ {vs : List V} {ds : List D} {ps : List PyData}, RelDs K T w vs ds → D.toPs ds = some ps → DpAll K H vs ps
  | _, _, _, .nil, e => by cases e; exact .nil
  | _, _, _, @RelDs.cons _ _ _ _ d _ ds h t, e => by
    unfold D.toPs at e
    cases e1 : d.toP with
    | none => rw [e1] at e; cases e
    | some p =>
      cases e2 : D.toPs ds with
      | none => rw [e1, e2] at e; cases e
      | some ps =>
        rw [e1, e2] at e
        cases e
        exact .cons (dp_of hs h e1) (dps_of hs t e2)
end
theorem dpo_of {B : Bs} {σ : L2.St} {fr : Fr} {h : Hh} {v : V} {d : D} {p : PyData} (R : Rel K T B w σ H fr h) (z : vO K T B σ w H fr v d) (e : d.toP = some p) : Dp K H v p := by
  rcases z with z | ⟨q, o, rfl, eH, z⟩
  · exact dp_of R.sub z e
  · cases z with
    | lst r =>
      unfold D.toP at e
      obtain ⟨ps, e1, e2⟩ := Option.map_eq_some_iff.mp e
      subst e2
      exact .lst (SqL.of eH) (dps_of R.sub r e1)
    | obj r => cases e
end

/-! ### operators -/
def bAdd (h : Hh) : D → D → Option D
  | .int i, .int j => some (.int (i + j))
  | .str a, .str b => if a.length + b.length ≤ big then some (.str (a ++ b)) else none
  | .tup a, .tup b => if a.length + b.length ≤ big then some (.tup (a ++ b)) else none
  | .fl a, .fl b => if a.length + b.length ≤ big then some (.nl (a ++ b)) else none
  | _, _ => none
theorem rel_list {w : Wd} {K : PySem.W.Frag} {v : V} {ds : List D} (r : RelD K T w v (.fl ds)) : ∃ a vs, v = .ref a ∧ w.F a = some (.lst vs) ∧ RelDs K T w vs ds := by
  cases r with
  | fl s t => exact ⟨_, _, rfl, s, t⟩
theorem rel_tup {w : Wd} {K : PySem.W.Frag} {v : V} {ds : List D} (r : RelD K T w v (.tup ds)) : ∃ a vs, v = .ref a ∧ SqT K w.F a vs ∧ RelDs K T w vs ds := by
  cases r with
  | tup s t => exact ⟨_, _, rfl, s, t⟩
theorem rel_int {w : Wd} {K : PySem.W.Frag} {v : V} {i : Int} (r : RelD K T w v (.int i)) : v = .int i := by
  cases r
  rfl
theorem rel_bl {w : Wd} {K : PySem.W.Frag} {v : V} {i : Bool} (r : RelD K T w v (.bl i)) : v = .bl i := by
  cases r
  rfl
theorem rel_str {w : Wd} {K : PySem.W.Frag} {v : V} {i : Str} (r : RelD K T w v (.str i)) : v = .str i := by
  cases r
  rfl
/-- a new tuple -/
theorem new_tup {K : PySem.W.Frag} {B : Bs} {w : Wd} {σ : L2.St} {H : Hp} {fr : Fr} {h : Hh} {p : Addr} {vs : List V} {ds : List D} {Q : V → Hp → Prop} (R : Rel K T B w σ H fr h) (r : RelDs K T w vs ds) (np : H p = none)
    (q : ∀ w' H' v, w.le w' → Rel K T B w' σ H' fr h → RelD K T w' v (.tup ds) → Q v H') : Q (.ref p) (upd H p (.tup vs)) :=
  q (w.add p (.tup vs)) _ _ (Wd.le_add (R.nP np).1) (R.laid np) (.tup (SqT.of (by show upd w.F p _ p = _; rw [upd_same])) (r.mono (Wd.le_add (R.nP np).1)))
/-- a new list -/
theorem new_lst {K : PySem.W.Frag} {B : Bs} {w : Wd} {σ : L2.St} {H : Hp} {fr : Fr} {h : Hh} {p : Addr} {vs : List V} {ds : List D} {Q : V → Hp → Prop} (R : Rel K T B w σ H fr h) (r : RelDs K T w vs ds) (np : H p = none)
    (q : ∀ w' H' v, w.le w' → Rel K T B w' σ H' fr h → vE K T B σ w' H' fr v (.nl ds) → Q v H') : Q (.ref p) (upd H p (.lst vs)) :=
  q w _ _ (Wd.le_refl w) (R.temp np) (.inr ⟨p, _, rfl, R.own_new np, R.loose_new np, upd_same, .lst r⟩)
theorem se_add (sa : SimV X T W a ma) (sb : SimV X T W b mb) : SimE X T W (.BinOp a .Add b pos) (mOp bAdd ma mb) := fun B w σ H fr h Q r1 p =>
  pe_we (pe_op op_max pe_max pe_max) (s_op (VR := vE) sa sb (fun B w σ H fr h x y d e z Q R rx ry q k => by
    unfold bAdd at q
    split at q
    · cases q
      rw [rel_int rx, rel_int ry]
      exact op_rm op_add ⟨_, _, rfl, rfl, k w H _ (Wd.le_refl _) R (.inl (.int _))⟩
    · split at q
      · rename_i hl
        cases q
        rw [rel_str rx, rel_str ry]
        exact op_rm op_add_str ⟨_, _, rfl, rfl, big_line hl, k w H _ (Wd.le_refl _) R (.inl (.str _))⟩
      · cases q
    · split at q
      · rename_i ds es hl
        cases q
        obtain ⟨p1, vs, rfl, s1, r1⟩ := rel_tup rx
        obtain ⟨p2, us, rfl, s2, r2⟩ := rel_tup ry
        refine op_rm op_catA ⟨p1, p2, vs, us, rfl, rfl, sqT_le R.sub s1, sqT_le R.sub s2, by rw [r1.length, r2.length]; exact big_line hl, fun e0 => ?_, fun _ e0 => ?_, fun _ _ p np => ?_⟩
        · subst e0
          cases r1
          exact k w H _ (Wd.le_refl _) R (.inl ry)
        · subst e0
          cases r2
          rw [List.append_nil] at k
          exact k w H _ (Wd.le_refl _) R (.inl rx)
        · exact new_tup R (r1.append r2) np fun w' H' v l R' r' => k w' H' v l R' (.inl r')
      · cases q
    · split at q
      · rename_i ds es hl
        cases q
        obtain ⟨p1, vs, rfl, s1, r1⟩ := rel_list rx
        obtain ⟨p2, us, rfl, s2, r2⟩ := rel_list ry
        refine op_rm op_cat ⟨p1, p2, vs, us, rfl, rfl, R.sub _ _ s1, R.sub _ _ s2, by rw [r1.length, r2.length]; exact big_line hl, fun p np => ?_⟩
        exact new_lst R (r1.append r2) np k
      · cases q
    · cases q) B w σ H fr h Q r1 p)
/-- an operator on ints -/
def bInt (C : Int → Int → Bool) (g : Int → Int → Int) (_ : Hh) : D → D → Option D
  | .int i, .int j => if C i j then some (.int (g i j)) else none
  | _, _ => none
theorem sv_intop {op : Operator} {P : Int → Int → Prop} {C : Int → Int → Bool} {g : Int → Int → Int} (o : OpR X (binaryOp op) (rI P fun i j => .int (g i j))) (hC : ∀ i j, C i j = true → P i j) (sa : SimV X T W a ma) (sb : SimV X T W b mb) :
    SimV X T W (.BinOp a op b pos) (mOp (bInt C g) ma mb) := fun B w σ H fr h Q r1 p =>
  pe_we (pe_op op_max pe_max pe_max) (s_op (VR := vV) sa sb (fun B w σ H fr h x y d e z Q R rx ry q k => by
    unfold bInt at q
    split at q
    · split at q
      · rename_i hc
        cases q
        rw [rel_int rx, rel_int ry]
        exact op_rm o ⟨_, _, rfl, rfl, hC _ _ hc, k w H _ (Wd.le_refl _) R (.int _)⟩
      · cases q
    · cases q) B w σ H fr h Q r1 p)
def cYes (_ _ : Int) : Bool := true
def cMul (i j : Int) : Bool := decide (i.natAbs.log2 + j.natAbs.log2 < 1000000)
def cMod (_ j : Int) : Bool := decide (0 < j)
def cDiv (_ j : Int) : Bool := decide (0 < j) && decide (j.natAbs.log2 < 9000)
def cPow (i j : Int) : Bool := decide (0 ≤ j) && decide (j ≤ 1000000) && decide (i.natAbs < 2 ^ 64)
abbrev bSub := bInt cYes (fun i j => i - j)
abbrev bMul := bInt cMul (fun i j => i * j)
abbrev bMod := bInt cMod (fun i j => i % j)
abbrev bDiv := bInt cDiv (fun i j => i / j)
abbrev bPow := bInt cPow (fun i j => i ^ j.toNat)
theorem op_sub1 : OpR X (binaryOp .Sub) (rI (fun _ _ => True) fun i j => .int (i - j)) := fun pins s σ H x y v u Q I rx ry ⟨i, j, e1, e2, _, q⟩ => op_sub pins s σ H x y v u Q I rx ry ⟨i, j, e1, e2, q⟩
theorem sv_sub (sa : SimV X T W a ma) (sb : SimV X T W b mb) : SimV X T W (.BinOp a .Sub b pos) (mOp bSub ma mb) := sv_intop op_sub1 (fun _ _ _ => trivial) sa sb
theorem sv_mul (sa : SimV X T W a ma) (sb : SimV X T W b mb) : SimV X T W (.BinOp a .Mult b pos) (mOp bMul ma mb) := sv_intop op_mulW (fun i j h => by
  have h' : decide (i.natAbs.log2 + j.natAbs.log2 < 1000000) = true := h
  have h2 : i.natAbs.log2 + j.natAbs.log2 < 1000000 := of_decide_eq_true h'
  exact h2) sa sb
theorem sv_mod (sa : SimV X T W a ma) (sb : SimV X T W b mb) : SimV X T W (.BinOp a .Mod b pos) (mOp bMod ma mb) := sv_intop op_mod (fun _ j h => by
  have h' : decide (0 < j) = true := h
  exact of_decide_eq_true h') sa sb
theorem sv_div (sa : SimV X T W a ma) (sb : SimV X T W b mb) : SimV X T W (.BinOp a .FloorDiv b pos) (mOp bDiv ma mb) := sv_intop op_fdivW (fun _ _ h => by
  obtain ⟨h1, h2⟩ := Bool.and_eq_true_iff.mp h
  exact ⟨of_decide_eq_true h1, of_decide_eq_true h2⟩) sa sb
theorem sv_pow (sa : SimV X T W a ma) (sb : SimV X T W b mb) : SimV X T W (.BinOp a .Pow b pos) (mOp bPow ma mb) := sv_intop op_pow (fun _ _ h => by
  obtain ⟨h1, h3⟩ := Bool.and_eq_true_iff.mp h
  obtain ⟨h1, h2⟩ := Bool.and_eq_true_iff.mp h1
  exact ⟨of_decide_eq_true h1, of_decide_eq_true h2, of_decide_eq_true h3⟩) sa sb
def bNeg : D → Option D
  | .int i => some (.int (-i))
  | _ => none
def mUn {α : Type} (f : Hh → D → Option α) (ma : M D) : M α := ma.bind fun x fr h => M.opt (f h x) fr h
theorem s_un {α β : Type} {VR1 : VRel V D} {VR : VRel β α} {f : Hh → D → Option α} {r : V → Hp → (β → Hp → Prop) → Prop} (sa : Sim (WE X a) X.K T W VR1 ma)
    (hr : ∀ B w σ H fr h x d z Q, Rel X.K T B w σ H fr h → VR1 X.K T B σ w H fr x d → f h d = some z → (∀ w' H' v, w.le w' → Rel X.K T B w' σ H' fr h → VR X.K T B σ w' H' fr v z → Q v H') → r x H Q) :
    Sim (fun σ H Q => WE X a σ H fun x H1 => r x H1 Q) X.K T W VR (mUn f ma) := fun B w σ H fr h Q r1 p =>
  sa B w σ H fr h _ r1 (Post.bind (VR := VR1 X.K T B σ) p fun d fr1 h1 w1 H1 x e1 l1 r1 rx p1 => by
    cases q : f h1 d with
    | none => rw [q] at p1; exact p1.elim
    | some z =>
      rw [q] at p1
      exact hr B w1 σ H1 fr1 h1 x d z Q r1 rx q p1)
theorem sv_neg (sa : SimV X T W a ma) : SimV X T W (.UnaryOp .USub a pos) (mUn (fun _ => bNeg) ma) := fun B w σ H fr h Q r1 p =>
  pe_we (pe_un un_max pe_max) (s_un (VR := vV) sa (fun B w σ H fr h x d z Q R rx q k => by
    unfold bNeg at q
    split at q
    · cases q
      rw [rel_int rx]
      exact un_um un_neg ⟨_, rfl, k w H _ (Wd.le_refl _) R (.int _)⟩
    · cases q) B w σ H fr h Q r1 p)

/-! ### comparisons -/
/-- f tells the comparison -/
def CmpOk (X : Cx) (T : Tb) (VR2 : VRel V D) (op : CmpOp) (f : Hh → D → D → Option Bool) : Prop :=
  ∀ B w σ H fr h x y d e c Q, Rel X.K T B w σ H fr h → RelD X.K T w x d → VR2 X.K T B σ w H fr y e → f h d e = some c → Q (.bl c) H → rM X (compareOp op) x y H Q
def cInt (p : Int → Int → Bool) (_ : Hh) : D → D → Option Bool
  | .int i, .int j => some (p i j)
  | _, _ => none
theorem cmp_int {op : CmpOp} {p : Int → Int → Bool} (o : OpR X (compareOp op) (rI0 fun i j => .bl (p i j))) : CmpOk X T vV op (cInt p) := fun B w σ H fr h x y d e c Q R rx ry q k => by
  unfold cInt at q
  split at q
  · cases q
    rw [rel_int rx, rel_int ry]
    exact op_rm o ⟨_, _, rfl, rfl, k⟩
  · cases q
abbrev cLt := cInt fun i j => decide (i < j)
abbrev cLe := cInt fun i j => decide (i ≤ j)
abbrev cGt := cInt fun i j => decide (j < i)
abbrev cGe := cInt fun i j => decide (j ≤ i)
theorem cmp_lt : CmpOk X T vV .Lt cLt := cmp_int op_lt
theorem cmp_le : CmpOk X T vV .LtE cLe := cmp_int op_le
theorem cmp_gt : CmpOk X T vV .Gt cGt := cmp_int op_gt
theorem cmp_ge : CmpOk X T vV .GtE cGe := cmp_int op_ge
def cEq (_ : Hh) (d e : D) : Option Bool := match d.toP, e.toP with
  | some p, some q => if SeqAt.shaped p && SeqAt.shaped q then some (PyData.eqv p q) else none
  | _, _ => none
def cNe (h : Hh) (d e : D) : Option Bool := (cEq h d e).map (!·)
theorem cEq_some {h : Hh} {d e : D} {c : Bool} (q : cEq h d e = some c) : ∃ p p', d.toP = some p ∧ e.toP = some p' ∧ SeqAt.shaped p = true ∧ SeqAt.shaped p' = true ∧ c = PyData.eqv p p' := by
  unfold cEq at q
  split at q
  · rename_i p p' e1 e2
    split at q
    · rename_i hs
      obtain ⟨h1, h2⟩ := Bool.and_eq_true_iff.mp hs
      cases q
      exact ⟨p, p', e1, e2, h1, h2, rfl⟩
    · cases q
  · cases q
theorem cmp_eq (C : Cq X T W k) : CmpOk X T vO .Eq cEq := fun B w σ H fr h x y d e c Q R rx ry q kk => by
  obtain ⟨p, p', e1, e2, s1, s2, rfl⟩ := cEq_some q
  exact op_rm (op_eqD (by have := C.u; omega)) ⟨p, p', dp_of R.sub rx e1, dpo_of R ry e2, s1, s2, kk⟩
theorem cmp_ne (C : Cq X T W k) : CmpOk X T vO .NotEq cNe := fun B w σ H fr h x y d e c Q R rx ry q kk => by
  obtain ⟨c', q', rfl⟩ := Option.map_eq_some_iff.mp q
  obtain ⟨p, p', e1, e2, s1, s2, rfl⟩ := cEq_some q'
  exact op_rm (op_neD (by have := C.u; omega)) ⟨p, p', dp_of R.sub rx e1, dpo_of R ry e2, s1, s2, kk⟩
/-- flat items -/
def D.flat : D → Bool
  | .non => true
  | .bl _ => true
  | .int _ => true
  | .str _ => true
  | _ => false
def D.eqf : D → D → Bool
  | .non, .non => true
  | .bl a, .bl b => a == b
  | .bl a, .int b => (if a then 1 else 0) == b
  | .int a, .bl b => a == (if b then 1 else 0)
  | .int a, .int b => a == b
  | .str a, .str b => a == b
  | _, _ => false
theorem flat_rel {K : PySem.W.Frag} {w : Wd} {v : V} {d : D} (r : RelD K T w v d) (f : d.flat = true) : flatV v = true := by
  cases r <;> first | rfl | cases f
theorem flats_rel {K : PySem.W.Frag} {w : Wd} : ∀ {vs : List V} {ds : List D}, RelDs K T w vs ds → ds.all D.flat = true → vs.all flatV = true
  | _, _, .nil, _ => rfl
  | _, _, .cons h t, f => by
    rw [List.all_cons, Bool.and_eq_true] at f ⊢
    exact ⟨flat_rel h f.1, flats_rel t f.2⟩
theorem eqf_rel {K : PySem.W.Frag} {w : Wd} {v u : V} {d e : D} (r : RelD K T w v d) (s : RelD K T w u e) : eqV v u = D.eqf d e := by
  cases r <;> cases s <;> rfl
theorem any_rel {K : PySem.W.Frag} {w : Wd} {u : V} {e : D} (s : RelD K T w u e) : ∀ {vs : List V} {ds : List D}, RelDs K T w vs ds → inV u vs = ds.any fun z => D.eqf z e
  | _, _, .nil => rfl
  | _, _, @RelDs.cons _ _ _ v d vs ds h t => by
    have q := any_rel s t
    unfold inV at q ⊢
    rw [List.any_cons, List.any_cons, eqf_rel h s, q]
def cIn (h : Hh) (x y : D) : Option Bool := match x, y with
  | .str c, .str z => if c.length = 1 then some (decide (c.cps.toList.headD 0 ∈ z.cps.toList)) else some (!(Builtin.Str.occurrences z c 0 z.length 1).isEmpty)
  | x, y => match y.its h with
    | some l => if x.flat && l.all D.flat then some (l.any fun z => D.eqf z x) else none
    | none => none
def cNin (h : Hh) (x y : D) : Option Bool := (cIn h x y).map (!·)
theorem str1 {c : Str} (h : c.length = 1) : c = ⟨#[c.cps.toList.headD 0]⟩ := by
  obtain ⟨⟨l⟩⟩ := c
  have h' : l.length = 1 := h
  match l, h' with
  | [x], _ => rfl
theorem cmp_in : CmpOk X T vO .In cIn := fun B w σ H fr h x y d e c Q R rx ry q kk => by
  unfold cIn at q
  split at q
  · rename_i cc z
    have ey : y = .str z := by
      rcases ry with ry | ⟨_, _, _, _, r⟩
      · exact rel_str ry
      · cases r
    rw [rel_str rx, ey]
    split at q
    · rename_i h1
      cases q
      exact op_rm op_in_sign ⟨_, z, by rw [← str1 h1], rfl, kk⟩
    · cases q
      exact op_rm op_in_str ⟨cc, z, rfl, rfl, kk⟩
  · split at q
    · rename_i l el
      split at q
      · rename_i hf
        obtain ⟨f1, f2⟩ := Bool.and_eq_true_iff.mp hf
        cases q
        obtain ⟨p, vs, rfl, rl, sq⟩ := its_rel R ry el
        refine op_rm op_in_seq ⟨p, vs, rfl, sq, flat_rel rx f1, flats_rel rl f2, ?_⟩
        rw [if_neg Bool.false_ne_true, any_rel rx rl]
        exact kk
      · cases q
    · cases q
theorem cmp_nin : CmpOk X T vO .NotIn cNin := fun B w σ H fr h x y d e c Q R rx ry q kk => by
  obtain ⟨c', q', rfl⟩ := Option.map_eq_some_iff.mp q
  clear q
  have q := q'
  clear q'
  unfold cIn at q
  split at q
  · rename_i cc z
    have ey : y = .str z := by
      rcases ry with ry | ⟨_, _, _, _, r⟩
      · exact rel_str ry
      · cases r
    rw [rel_str rx, ey]
    split at q
    · rename_i h1
      cases q
      exact op_rm op_notIn_sign ⟨_, z, by rw [← str1 h1], rfl, kk⟩
    · cases q
      exact op_rm op_notin_str ⟨cc, z, rfl, rfl, kk⟩
  · split at q
    · rename_i l el
      split at q
      · rename_i hf
        obtain ⟨f1, f2⟩ := Bool.and_eq_true_iff.mp hf
        cases q
        obtain ⟨p, vs, rfl, rl, sq⟩ := its_rel R ry el
        refine op_rm op_notIn_seq ⟨p, vs, rfl, sq, flat_rel rx f1, flats_rel rl f2, ?_⟩
        rw [if_pos rfl, any_rel rx rl]
        exact kk
      · cases q
    · cases q
def D.isNon : D → Bool
  | .non => true
  | _ => false
theorem isNon_rel {K : PySem.W.Frag} {w : Wd} {v : V} {d : D} (r : RelD K T w v d) : decide (v = .non) = d.isNon := by
  cases r <;> rfl
def cIs (_ : Hh) (d e : D) : Option Bool := if e.isNon then some d.isNon else none
def cIsn (_ : Hh) (d e : D) : Option Bool := if e.isNon then some (!d.isNon) else none
theorem non_of {K : PySem.W.Frag} {w : Wd} {v : V} {d : D} (r : RelD K T w v d) (h : d.isNon = true) : v = .non := by
  cases r <;> first | rfl | cases h
theorem cmp_is : CmpOk X T vV .Is cIs := fun B w σ H fr h x y d e c Q R rx ry q kk => by
  unfold cIs at q
  split at q
  · rename_i he
    cases q
    refine op_rm op_isN ⟨non_of ry he, ?_⟩
    rw [isNon_rel rx]
    exact kk
  · cases q
theorem cmp_isn : CmpOk X T vV .IsNot cIsn := fun B w σ H fr h x y d e c Q R rx ry q kk => by
  unfold cIsn at q
  split at q
  · rename_i he
    cases q
    refine op_rm op_notN ⟨non_of ry he, ?_⟩
    rw [isNon_rel rx]
    exact kk
  · cases q
/-- a comparison as a test -/
theorem st_cmp {op : CmpOp} {VR2 : VRel V D} {f : Hh → D → D → Option Bool} (o : CmpOk X T VR2 op f) (sa : SimV X T W a ma) (sb : Sim (WE X b) X.K T W VR2 mb) (hm : behindInMarks op b = false := by with_unfolding_all rfl) :
    SimT X T W (.Compare a [op] [b] pos) (mOp f ma mb) := fun B w σ H fr h Q r1 p =>
  pt_wt (pt_cmpR op_max pe_max pe_max hm) (s_op (VR := vB) (r := fun x y H Q => rM X (compareOp op) x y H fun z H' => ∃ k, z = .bl k ∧ Q k H') sa sb (fun B w σ H fr h x y d e z Q R rx ry q k =>
    o B w σ H fr h x y d e z _ R rx ry q ⟨z, rfl, k w H z (Wd.le_refl _) R rfl⟩) B w σ H fr h Q r1 p)
def mBl (m : M Bool) : M D := m.bind fun b => M.ret (.bl b)
theorem sv_cmp {op : CmpOp} {VR2 : VRel V D} {f : Hh → D → D → Option Bool} (o : CmpOk X T VR2 op f) (sa : SimV X T W a ma) (sb : Sim (WE X b) X.K T W VR2 mb) (hm : behindInMarks op b = false := by with_unfolding_all rfl) :
    SimV X T W (.Compare a [op] [b] pos) (mOp (fun h x y => (f h x y).map .bl) ma mb) := fun B w σ H fr h Q r1 p =>
  pe_we (pe_cmpR op_max pe_max pe_max hm) (s_op (VR := vV) sa sb (fun B w σ H fr h x y d e z Q R rx ry q k => by
    obtain ⟨c, q', rfl⟩ := Option.map_eq_some_iff.mp q
    exact o B w σ H fr h x y d e c _ R rx ry q' (k w H _ (Wd.le_refl _) R (.bl c))) B w σ H fr h Q r1 p)
/-- a op b op' c -/
def mChain (f g : Hh → D → D → Option Bool) (ma mb mc : M D) : M Bool := ma.bind fun x => mb.bind fun y fr h => match f h x y with
  | some true => (mc.bind fun z fr h => M.opt (g h y z) fr h) fr h
  | some false => .ok false fr h
  | none => .err
theorem st_chain {op op' : CmpOp} {f g : Hh → D → D → Option Bool} (o : CmpOk X T vV op f) (o' : CmpOk X T vV op' g) (sa : SimV X T W a ma) (sb : SimV X T W b mb) (sc : SimV X T W c mc) (hm : lastMarks [op, op'] [b, c] = false := by with_unfolding_all rfl) :
    SimT X T W (.Compare a [op, op'] [b, c] pos) (mChain f g ma mb mc) := fun B w σ H fr h Q r1 p =>
  pt_wt (pt_chain op_max op_max pe_max pe_max pe_max hm) (sa B w σ H fr h _ r1 (Post.bind (VR := vV X.K T B σ) p fun d fr1 h1 w1 H1 x e1 l1 r1 rx p1 => sb B w1 σ H1 fr1 h1 _ r1 (Post.bind (VR := vV X.K T B σ) p1 fun e fr2 h2 w2 H2 y e2 l2 r2 ry p2 => by
    cases q : f h2 d e with
    | none => rw [q] at p2; exact p2.elim
    | some k =>
      rw [q] at p2
      cases k with
      | false => exact o B w2 σ H2 fr2 h2 x y d e false _ r2 (rx.mono l2) ry q ⟨false, rfl, ⟨false, rfl, p2 w2 H2 false (Wd.le_refl _) r2 rfl⟩⟩
      | true => exact o B w2 σ H2 fr2 h2 x y d e true _ r2 (rx.mono l2) ry q ⟨true, rfl, by
          show WE X c σ H2 _
          exact sc B w2 σ H2 fr2 h2 _ r2 (Post.bind (VR := vV X.K T B σ) p2 fun z fr3 h3 w3 H3 zv e3 l3 r3 rz p3 => by
            cases q' : g h3 e z with
            | none => rw [q'] at p3; exact p3.elim
            | some k' =>
              rw [q'] at p3
              exact o' B w3 σ H3 fr3 h3 y zv e z k' _ r3 (ry.mono l3) rz q' ⟨k', rfl, p3 w3 H3 k' (Wd.le_refl _) r3 rfl⟩)⟩)))
theorem sv_chain {op op' : CmpOp} {f g : Hh → D → D → Option Bool} (o : CmpOk X T vV op f) (o' : CmpOk X T vV op' g) (sa : SimV X T W a ma) (sb : SimV X T W b mb) (sc : SimV X T W c mc) (hm : lastMarks [op, op'] [b, c] = false := by with_unfolding_all rfl) :
    SimV X T W (.Compare a [op, op'] [b, c] pos) (mBl (mChain f g ma mb mc)) := fun B w σ H fr h Q r1 p => by
  have p0 : Post X.K T B W (vB X.K T B σ) w σ (mChain f g ma mb mc fr h) (fun b H => Q (.bl b) H) := Post.bind p fun d fr1 h1 w1 H1 v e x r1 z p1 => by
    have z' : v = d := z
    subst z'
    exact p1 w1 H1 _ (Wd.le_refl _) r1 (.bl _)
  exact pe_we (pe_chain op_max op_max pe_max pe_max pe_max hm) (sa B w σ H fr h _ r1 (Post.bind (VR := vV X.K T B σ) p0 fun d fr1 h1 w1 H1 x e1 l1 r1 rx p1 => sb B w1 σ H1 fr1 h1 _ r1 (Post.bind (VR := vV X.K T B σ) p1 fun e fr2 h2 w2 H2 y e2 l2 r2 ry p2 => by
    cases q : f h2 d e with
    | none => rw [q] at p2; exact p2.elim
    | some k =>
      rw [q] at p2
      cases k with
      | false => exact o B w2 σ H2 fr2 h2 x y d e false _ r2 (rx.mono l2) ry q ⟨false, rfl, p2 w2 H2 false (Wd.le_refl _) r2 rfl⟩
      | true => exact o B w2 σ H2 fr2 h2 x y d e true _ r2 (rx.mono l2) ry q ⟨true, rfl, by
          show WE X c σ H2 _
          exact sc B w2 σ H2 fr2 h2 _ r2 (Post.bind (VR := vV X.K T B σ) p2 fun z fr3 h3 w3 H3 zv e3 l3 r3 rz p3 => by
            cases q' : g h3 e z with
            | none => rw [q'] at p3; exact p3.elim
            | some k' =>
              rw [q'] at p3
              exact o' B w3 σ H3 fr3 h3 y zv e z k' _ r3 (ry.mono l3) rz q' (p3 w3 H3 k' (Wd.le_refl _) r3 rfl))⟩)))

/-! ### tests -/
def D.tb : D → Option Bool
  | .bl b => some b
  | _ => none
theorem tb_rel {K : PySem.W.Frag} {B : Bs} {σ : L2.St} {w : Wd} {H : Hp} {fr : Fr} {v : V} {d : D} {b : Bool} (r : vO K T B σ w H fr v d) (e : d.tb = some b) : v = .bl b := by
  rcases r with r | ⟨_, _, _, _, r⟩
  · cases r <;> first | (cases e; rfl) | cases e
  · cases r <;> cases e
/-- an expression that gives a truth value, as a test -/
theorem st_val (s : SimV X T W e m) (he : ∀ whole, isTrue e X.env whole = (do let v ← whole; standAt e.pos; holding [v] (truthy v)) := by intro _; rfl) : SimT X T W e (mUn (fun _ d => d.tb) m) := fun B w σ H fr h Q r1 p =>
  pt_wt (pt_val pe_max he) (s_un (VR := vB) (r := fun x H Q => ∃ c, x = .bl c ∧ Q c H) s (fun B w σ H fr h x d z Q R rx q k => ⟨z, tb_rel (fr := fr) (B := B) (σ := σ) (H := H) (.inl rx) q, k w H z (Wd.le_refl _) R rfl⟩) B w σ H fr h Q r1 p)
/-- a value's truth -/
def D.tru (h : Hh) (d : D) : Option Bool := match d with
  | .non => some false
  | .bl b => some b
  | .int i => some (i != 0)
  | .str z => if z.length ≤ big then some ((z.length : Int) != 0) else none
  | d => (d.its h).map fun l => !l.isEmpty
theorem empty_rel {K : PySem.W.Frag} {w : Wd} {vs : List V} {ds : List D} (r : RelDs K T w vs ds) : vs.isEmpty = ds.isEmpty := by
  cases r <;> rfl
theorem st_tru (s : SimO X T W e m) (he : ∀ whole, isTrue e X.env whole = (do let v ← whole; standAt e.pos; holding [v] (truthy v)) := by intro _; rfl) : SimT X T W e (mUn D.tru m) := fun B w σ H fr h Q r1 p =>
  pt_wt (pt_truth pe_max he) (s_un (VR := vB) (r := fun x H Q => ∃ k, TruV X.K x H k ∧ Q k H) s (fun B w σ H fr h x d z Q R rx q k => by
    refine ⟨z, ?_, k w H z (Wd.le_refl _) R rfl⟩
    have viaIts : ∀ {l : List D}, d.its h = some l → (!l.isEmpty) = z → TruV X.K x H z := fun {l} el ez => by
      obtain ⟨p, vs, rfl, rl, sq⟩ := its_rel R rx el
      rcases sq with sq | sq
      · exact .inl ⟨vs, sq, by rw [← ez, empty_rel rl]⟩
      · exact .inr (.inl ⟨vs, sq, by rw [← ez, empty_rel rl]⟩)
    unfold D.tru at q
    split at q
    · rcases rx with rx | ⟨_, _, _, _, rx⟩
      · cases rx
        cases q
        rfl
      · cases rx
    · rcases rx with rx | ⟨_, _, _, _, rx⟩
      · cases rx
        cases q
        rfl
      · cases rx
    · rcases rx with rx | ⟨_, _, _, _, rx⟩
      · cases rx
        cases q
        rfl
      · cases rx
    · split at q
      · rename_i hl
        rcases rx with rx | ⟨_, _, _, _, rx⟩
        · cases rx
          cases q
          exact ⟨big_line hl, rfl⟩
        · cases rx
      · cases q
    · obtain ⟨l, e1, e2⟩ := Option.map_eq_some_iff.mp q
      exact viaIts e1 e2) B w σ H fr h Q r1 p)
def mNot (m : M Bool) : M Bool := m.bind fun b => M.ret !b
def mAnd (m n : M Bool) : M Bool := m.bind fun b => if b then n else M.ret false
def mOr (m n : M Bool) : M Bool := m.bind fun b => if b then M.ret true else n
variable {n ta tb tc : M Bool} {rest : List Expr}
theorem st_not (s : SimT X T W a n) : SimT X T W (.UnaryOp .Not a pos) (mNot n) := fun B w σ H fr h Q r1 p =>
  pt_wt (pt_not pt_max) (s B w σ H fr h _ r1 (Post.bind (VR := vB X.K T B σ) p fun d fr1 h1 w1 H1 x e1 l1 r1 rx p1 => by
    have rx' : x = d := rx
    subst rx'
    exact p1 w1 H1 _ (Wd.le_refl _) r1 rfl))
theorem st_ww (s : SimW X T W e n) : SimT X T W e n := fun B w σ H fr h Q r1 p => pt_wt pw_max.pt (s B w σ H fr h Q r1 p)
theorem sw_and1 (s : SimT X T W a ta) : SimW X T W (.BoolOp .And [a] pos) ta := fun B w σ H fr h Q r1 p => pw_ww (pw_and1 pt_max) (s B w σ H fr h Q r1 p)
theorem sw_or1 (s : SimT X T W a ta) : SimW X T W (.BoolOp .Or [a] pos) ta := fun B w σ H fr h Q r1 p => pw_ww (pw_or1 pt_max) (s B w σ H fr h Q r1 p)
theorem sw_and (s : SimT X T W a ta) (t : SimW X T W (.BoolOp .And (b :: rest) pos) tb) : SimW X T W (.BoolOp .And (a :: b :: rest) pos) (mAnd ta tb) := fun B w σ H fr h Q r1 p =>
  pw_ww (pw_and pt_max pw_max) (s B w σ H fr h _ r1 (Post.bind (VR := vB X.K T B σ) p fun d fr1 h1 w1 H1 x e1 l1 r1 rx p1 => by
    have rx' : x = d := rx
    subst rx'
    cases x with
    | true => exact t B w1 σ H1 fr1 h1 Q r1 p1
    | false => exact p1 w1 H1 false (Wd.le_refl _) r1 rfl))
theorem sw_or (s : SimT X T W a ta) (t : SimW X T W (.BoolOp .Or (b :: rest) pos) tb) : SimW X T W (.BoolOp .Or (a :: b :: rest) pos) (mOr ta tb) := fun B w σ H fr h Q r1 p =>
  pw_ww (pw_or pt_max pw_max) (s B w σ H fr h _ r1 (Post.bind (VR := vB X.K T B σ) p fun d fr1 h1 w1 H1 x e1 l1 r1 rx p1 => by
    have rx' : x = d := rx
    subst rx'
    cases x with
    | false => exact t B w1 σ H1 fr1 h1 Q r1 p1
    | true => exact p1 w1 H1 true (Wd.le_refl _) r1 rfl))
/-- as values -/
def mNotV (m : M D) : M D := m.bind fun d => M.opt (d.tb.map fun b => .bl (!b))
def mAndV (m n : M D) : M D := m.bind fun d => match d.tb with
  | some true => n
  | some false => M.ret (.bl false)
  | none => M.opt none
def mOrV (m n : M D) : M D := m.bind fun d => match d.tb with
  | some true => M.ret (.bl true)
  | some false => n
  | none => M.opt none
theorem sv_one {op : BoolOp} (s : SimV X T W a ma) : SimV X T W (.BoolOp op [a] pos) ma := fun B w σ H fr h Q r1 p => pe_we (pe_one pe_max) (s B w σ H fr h Q r1 p)
theorem sv_not (s : SimV X T W a ma) : SimV X T W (.UnaryOp .Not a pos) (mNotV ma) := fun B w σ H fr h Q r1 p =>
  pe_we (pe_not pe_max) (s B w σ H fr h _ r1 (Post.bind (VR := vV X.K T B σ) p fun d fr1 h1 w1 H1 x e1 l1 r1 rx p1 => by
    cases q : d.tb with
    | none => rw [q] at p1; exact p1.elim
    | some c =>
      rw [q] at p1
      exact ⟨c, tb_rel (fr := fr1) (B := B) (σ := σ) (H := H1) (.inl rx) q, p1 w1 H1 _ (Wd.le_refl _) r1 (.bl _)⟩))
theorem sv_and (s : SimV X T W a ma) (t : SimV X T W (.BoolOp .And (b :: rest) pos) mb) : SimV X T W (.BoolOp .And (a :: b :: rest) pos) (mAndV ma mb) := fun B w σ H fr h Q r1 p =>
  pe_we (pe_and pe_max pe_max) (s B w σ H fr h _ r1 (Post.bind (VR := vV X.K T B σ) p fun d fr1 h1 w1 H1 x e1 l1 r1 rx p1 => by
    cases q : d.tb with
    | none => rw [q] at p1; exact p1.elim
    | some c =>
      rw [q] at p1
      refine ⟨c, tb_rel (fr := fr1) (B := B) (σ := σ) (H := H1) (.inl rx) q, ?_⟩
      cases c with
      | true => exact t B w1 σ H1 fr1 h1 Q r1 p1
      | false => exact p1 w1 H1 _ (Wd.le_refl _) r1 (.bl _)))
theorem sv_or (s : SimV X T W a ma) (t : SimV X T W (.BoolOp .Or (b :: rest) pos) mb) : SimV X T W (.BoolOp .Or (a :: b :: rest) pos) (mOrV ma mb) := fun B w σ H fr h Q r1 p =>
  pe_we (pe_or pe_max pe_max) (s B w σ H fr h _ r1 (Post.bind (VR := vV X.K T B σ) p fun d fr1 h1 w1 H1 x e1 l1 r1 rx p1 => by
    cases q : d.tb with
    | none => rw [q] at p1; exact p1.elim
    | some c =>
      rw [q] at p1
      refine ⟨c, tb_rel (fr := fr1) (B := B) (σ := σ) (H := H1) (.inl rx) q, ?_⟩
      cases c with
      | false => exact t B w1 σ H1 fr1 h1 Q r1 p1
      | true => exact p1 w1 H1 _ (Wd.le_refl _) r1 (.bl _)))
def mIf {α : Type} (t : M Bool) (m n : M α) : M α := t.bind fun b => if b then m else n
theorem s_if {VR : VRel V D} (st : SimT X T W c tc) (sa : Sim (WE X a) X.K T W VR ma) (sb : Sim (WE X b) X.K T W VR mb) : Sim (WE X (.IfExp c a b pos)) X.K T W VR (mIf tc ma mb) := fun B w σ H fr h Q r1 p =>
  pe_we (pe_ifExp pt_max pe_max pe_max) (st B w σ H fr h _ r1 (Post.bind (VR := vB X.K T B σ) p fun d fr1 h1 w1 H1 x e1 l1 r1 rx p1 => by
    have rx' : x = d := rx
    subst rx'
    cases x with
    | true => exact sa B w1 σ H1 fr1 h1 Q r1 p1
    | false => exact sb B w1 σ H1 fr1 h1 Q r1 p1))

/-! ### arguments, displays -/
def starE : Expr → Bool
  | .Starred .. => true
  | _ => false
theorem star_no {e : Expr} {es : List Expr} {env : Env} (h : starE e = false) : starEach (e :: es) env = (false, eval e env) :: starEach es env := by
  cases e <;> first | (cases h; done) | rfl
def mArgs : List (M D) → M (List D)
  | [] => M.ret []
  | m :: ms => m.bind fun d => (mArgs ms).bind fun ds => M.ret (d :: ds)
variable {ms : List (M D)}
theorem sa_nil : SimA X T W [] (mArgs []) := fun B w σ H fr h Q r1 p => pa_wa pa_nil (p w H _ (Wd.le_refl _) r1 .nil)
theorem sa_cons (s : SimV X T W e m) (t : SimA X T W es (mArgs ms)) (hs : starEach (e :: es) X.env = (false, eval e X.env) :: starEach es X.env := by exact star_no rfl) : SimA X T W (e :: es) (mArgs (m :: ms)) := fun B w σ H fr h Q r1 p =>
  pa_wa (pa_cons pe_max pa_max hs) (s B w σ H fr h _ r1 (Post.bind (VR := vV X.K T B σ) p fun d fr1 h1 w1 H1 x e1 l1 r1 rx p1 =>
    t B w1 σ H1 fr1 h1 _ r1 (Post.bind (VR := vA X.K T B σ) p1 fun ds fr2 h2 w2 H2 vs e2 l2 r2 rs p2 => p2 w2 H2 _ (Wd.le_refl _) r2 (.cons (rx.mono l2) rs))))
/-- one operand that is read at once -/
theorem sa_one {VR1 : VRel V D} (s : Sim (WE X e) X.K T W VR1 m) (hs : starEach (e :: []) X.env = (false, eval e X.env) :: starEach [] X.env := by exact star_no rfl) : Sim (WA X [e]) X.K T W (fun K T B σ w H fr vs d => ∃ v, vs = [v] ∧ VR1 K T B σ w H fr v d) m := fun B w σ H fr h Q r1 p =>
  pa_wa (pa_cons pe_max pa_nil hs) (s B w σ H fr h _ r1 (by
    cases q : m fr h with
    | ok d fr1 h1 =>
      rw [q] at p
      exact fun w1 H1 v x r1 z => p w1 H1 [v] x r1 ⟨v, rfl, z⟩
    | exc y fr1 h1 => rw [q] at p; exact p
    | err => rw [q] at p; exact p))
def mTup (ms : List (M D)) : M D := (mArgs ms).bind fun ds => M.opt (if ds.length ≤ big then some (.tup ds) else none)
def mLst (ms : List (M D)) : M D := (mArgs ms).bind fun ds => M.opt (if ds.length ≤ big then some (.nl ds) else none)
theorem sv_tup {x1 : Nat} (s : SimA X T W es (mArgs ms)) : SimV X T W (.Tuple es x1 pos) (mTup ms) := fun B w σ H fr h Q r1 p =>
  pe_we (pe_tup pa_max) (s B w σ H fr h _ r1 (Post.bind (VR := vA X.K T B σ) p fun ds fr1 h1 w1 H1 vs e1 l1 r1 rs p1 => by
    by_cases hl : ds.length ≤ big
    · rw [if_pos hl] at p1
      exact ⟨by rw [RelDs.length rs]; exact big_line hl, fun q nq => new_tup r1 rs nq p1⟩
    · rw [if_neg hl] at p1
      exact p1.elim))
theorem se_lst (s : SimA X T W es (mArgs ms)) : SimE X T W (.List es pos) (mLst ms) := fun B w σ H fr h Q r1 p =>
  pe_we (pe_lst pa_max) (s B w σ H fr h _ r1 (Post.bind (VR := vA X.K T B σ) p fun ds fr1 h1 w1 H1 vs e1 l1 r1 rs p1 => by
    by_cases hl : ds.length ≤ big
    · rw [if_pos hl] at p1
      exact ⟨by rw [RelDs.length rs]; exact big_line hl, fun q nq => new_lst r1 rs nq p1⟩
    · rw [if_neg hl] at p1
      exact p1.elim))
end
end Pk

/-! Pk4: subscripts, slices, built-in functions, attributes. -/
namespace Pk
open PySem PySem.Spec L2
section
variable {X : Cx} {T : Tb} {W : WX} {k : Nat} {e a b c o : Expr} {es : List Expr} {m ma mb mc : M D} {pos p2 pf : Pos}

/-! ### a[i] -/
def bIdx (h : Hh) (d i : D) : Option D := match d, i with
  | .str z, .int i => if z.length ≤ big then (atI z.cps.toList i).map fun c => .str ⟨#[c]⟩ else none
  | d, .int i => match d.its h with
    | some l => atI l i
    | none => none
  | _, _ => none
def ixM (X : Cx) : R2 := fun x y H Q => ∀ value slice pins s σ v u, Inv X pins σ H s → RelV x v → RelV y u → subscripted slice false v u = operate [v, u] (getItem v u) → wpAny (model X.prog X.w) X.A (PyProof.Rows.subscriptTail value slice v u) (EP X pins σ Q) X.xe s
theorem ix_max : IxR X (ixM X) := fun value slice pins s σ H x y v u Q I rx ry h hs => h value slice pins s σ v u I rx ry hs
theorem ix_ixm {r : R2} (o : IxR X r) {x y : V} {H : Hp} {Q : VK} (h : r x y H Q) : ixM X x y H Q := fun value slice pins s σ v u I rx ry hs => o value slice pins s σ H x y v u Q I rx ry h hs
theorem atI_rel {K : PySem.W.Frag} {w : Wd} {vs : List V} {ds : List D} {i : Int} {d : D} (r : RelDs K T w vs ds) (e : atI ds i = some d) : ∃ v, atI vs i = some v ∧ RelD K T w v d := by
  unfold atI at e ⊢
  rw [r.length]
  cases q : ixN ds.length i with
  | none => rw [q] at e; cases e
  | some j =>
    rw [q] at e
    exact r.get (show ds[j]? = some d from e)
theorem vo_str {K : PySem.W.Frag} {B : Bs} {σ : L2.St} {w : Wd} {H : Hp} {fr : Fr} {v : V} {z : Str} (r : vO K T B σ w H fr v (.str z)) : v = .str z := by
  rcases r with r | ⟨_, _, _, _, r⟩
  · exact rel_str r
  · cases r
theorem vo_int {K : PySem.W.Frag} {B : Bs} {σ : L2.St} {w : Wd} {H : Hp} {fr : Fr} {v : V} {z : Int} (r : vO K T B σ w H fr v (.int z)) : v = .int z := by
  rcases r with r | ⟨_, _, _, _, r⟩
  · exact rel_int r
  · cases r
theorem vo_bl {K : PySem.W.Frag} {B : Bs} {σ : L2.St} {w : Wd} {H : Hp} {fr : Fr} {v : V} {z : Bool} (r : vO K T B σ w H fr v (.bl z)) : v = .bl z := by
  rcases r with r | ⟨_, _, _, _, r⟩
  · exact rel_bl r
  · cases r
theorem ix_rel {B : Bs} {w : Wd} {σ : L2.St} {H : Hp} {fr : Fr} {h : Hh} {x y : V} {d i z : D} {Q : VK} (R : Rel X.K T B w σ H fr h) (rx : vO X.K T B σ w H fr x d) (ry : RelD X.K T w y i) (q : bIdx h d i = some z)
    (k : ∀ v, RelD X.K T w v z → Q v H) : ixM X x y H Q := by
  unfold bIdx at q
  split at q
  · rename_i z' i'
    split at q
    · rename_i hl
      obtain ⟨c, ec, rfl⟩ := Option.map_eq_some_iff.mp q
      rw [vo_str rx, rel_int ry]
      exact ix_ixm ix_str ⟨z', i', c, rfl, rfl, big_line hl, ec, k _ (.str _)⟩
    · cases q
  · rename_i i' _
    split at q
    · rename_i l el
      obtain ⟨p, vs, rfl, rl, sq⟩ := its_rel R rx el
      obtain ⟨v, ev, rv⟩ := atI_rel rl q
      rw [rel_int ry]
      rcases sq with sq | sq
      · exact ix_ixm ix_list ⟨p, vs, i', v, rfl, rfl, sq, ev, k v rv⟩
      · exact ix_ixm ix_tup ⟨p, vs, i', v, rfl, rfl, sq, ev, k v rv⟩
    · cases q
  · cases q
theorem sv_idx (sa : SimV X T W a ma) (sb : SimV X T W b mb) (hs : PlainIx b := by intro _ _; rfl) : SimV X T W (.Subscript a b pos) (mOp bIdx ma mb) := fun B w σ H fr h Q r1 p =>
  pe_we (pe_ix ix_max pe_max pe_max hs) (s_op (VR := vV) sa sb (fun B w σ H fr h x y d e z Q R rx ry q k => ix_rel R (.inl rx) ry q fun v rv => k w H v (Wd.le_refl _) R rv) B w σ H fr h Q r1 p)
/-- x[i], x a name: its slot is read behind i -/
def mHas (i : Nat) : M Unit := fun fr h => match fr[i]? with
  | some (some _) => .ok () fr h
  | _ => .err
def mLate {α : Type} (i : Nat) (m : M α) (f : Hh → D → α → Option D) : M D := (mHas i).bind fun _ => m.bind fun y => (mBor i).bind fun d fr h => M.opt (f h d y) fr h
theorem has_post {K : PySem.W.Frag} {B : Bs} {w : Wd} {σ : L2.St} {H : Hp} {fr : Fr} {h : Hh} {i : Nat} {α β : Type} {VR : Wd → Hp → Fr → β → α → Prop} {m : M α} {Q : β → Hp → Prop} (R : Rel K T B w σ H fr h) (p : Post K T B W VR w σ ((mHas i).bind (fun _ => m) fr h) Q) :
    (∃ v, σ[i]? = some (some v)) ∧ Post K T B W VR w σ (m fr h) Q := by
  cases e1 : fr[i]? with
  | none =>
    have q : mHas i fr h = .err := by unfold mHas; rw [e1]
    rw [M.bind_err q] at p
    exact p.elim
  | some o =>
    cases o with
    | none =>
      have q : mHas i fr h = .err := by unfold mHas; rw [e1]
      rw [M.bind_err q] at p
      exact p.elim
    | some d =>
      have q : mHas i fr h = .ok () fr h := by unfold mHas; rw [e1]
      rw [M.bind_ok q] at p
      obtain ⟨v, e2, z⟩ := slot_some R e1
      exact ⟨⟨v, e2⟩, p⟩
theorem bor_post {K : PySem.W.Frag} {B : Bs} {w : Wd} {σ : L2.St} {H : Hp} {fr : Fr} {h : Hh} {i : Nat} {v : V} {α β : Type} {VR : Wd → Hp → Fr → β → α → Prop} {f : D → M α} {Q : β → Hp → Prop} (R : Rel K T B w σ H fr h) (ev : σ[i]? = some (some v))
    (p : Post K T B W VR w σ ((mBor i).bind f fr h) Q) : ∃ d, vO K T B σ w H fr v d ∧ Post K T B W VR w σ (f d fr h) Q := by
  cases e1 : fr[i]? with
  | none =>
    have q : mBor i fr h = .err := by unfold mBor; rw [e1]
    rw [M.bind_err q] at p
    exact p.elim
  | some o =>
    cases o with
    | none =>
      have q : mBor i fr h = .err := by unfold mBor; rw [e1]
      rw [M.bind_err q] at p
      exact p.elim
    | some d =>
      have q : mBor i fr h = .ok d fr h := by unfold mBor; rw [e1]
      rw [M.bind_ok q] at p
      obtain ⟨v', e2, z⟩ := slot_some R e1
      rw [ev] at e2
      cases e2
      refine ⟨d, ?_, p⟩
      cases z with
      | val rd => exact .inl rd
      | own O eH rd => exact .inr ⟨_, _, rfl, eH, rd⟩
theorem sv_idxV (i : Nat) {x : Str} {px : Pos} (sb : SimV X T W b mb) (hs : PlainIx b := by intro _ _; rfl) (hN : X.N[i]? = some x := by rfl) (hv : Vis X.env.scope x := by first | exact Or.inl rfl | exact Or.inr (Or.inl rfl) | exact Or.inr (Or.inr rfl)) (hd : (x == ("__debug__" : Str)) = false := by decide)
    (hcd : (x == ("__classdict__" : Str)) = false := by decide) : SimV X T W (.Subscript (.Name x px) b pos) (mLate i mb bIdx) := fun B w σ H fr h Q r1 p => by
  obtain ⟨⟨v, ev⟩, p⟩ := has_post r1 p
  refine pe_we (pe_ix ix_max (pe_var hN hv hd hcd) pe_max hs) ⟨v, ev, sb B w σ H fr h _ r1 (Post.bind (VR := vV X.K T B σ) p fun y fr1 h1 w1 H1 u e1 l1 r2 ru p1 => ?_)⟩
  obtain ⟨d, rd, p2⟩ := bor_post r2 ev p1
  cases q : bIdx h1 d y with
  | none => rw [q] at p2; exact p2.elim
  | some z =>
    rw [q] at p2
    exact ix_rel r2 rd ru q fun v' rv => p2 w1 H1 v' (Wd.le_refl _) r2 rv

/-! ### a[i:j] -/
def slM (X : Cx) : V → Option Int → Option Int → Hp → VK → Prop := fun x lo hi H Q => ∀ pins s σ v vl vu sl, Inv X pins σ H s → RelV x v → s.heap.IsSliceOf sl vl vu .none → IsPart vl lo → IsPart vu hi →
    ∃ T id, typeLookup (.type T) "__getitem__" = pure (some (.builtin id)) ∧ s.TypeIs v T ∧ wpAny (model X.prog X.w) X.A (getItem v (.ref sl)) (EP X pins σ Q) X.xe s
theorem sl_max : SlR X (slM X) := fun pins s σ H x v vl vu lo hi sl Q I rx hs pl pu h => h pins s σ v vl vu sl I rx hs pl pu
theorem sl_slm {r : V → Option Int → Option Int → Hp → VK → Prop} (o : SlR X r) {x : V} {lo hi : Option Int} {H : Hp} {Q : VK} (h : r x lo hi H Q) : slM X x lo hi H Q := fun pins s σ v vl vu sl I rx hs pl pu => o pins s σ H x v vl vu lo hi sl Q I rx hs pl pu h
def WO (X : Cx) (e : Option Expr) : TO := fun σ H Q => ∀ pins s, Inv X pins σ H s → wpAny (model X.prog X.w) X.A (evalPart e X.env) (fun u s' => ∃ o H', Inv X pins σ H' s' ∧ IsPart u o ∧ Q o H') X.xe s
theorem po_max {e : Option Expr} : PO X e (WO X e) := ⟨fun pins s σ H Q I h => h pins s I⟩
theorem po_wo {e : Option Expr} {t : TO} (p : PO X e t) {σ : L2.St} {H : Hp} {Q : Option Int → Hp → Prop} (h : t σ H Q) : WO X e σ H Q := fun pins s I => p.run pins s σ H Q I h
def vI : VRel (Option Int) (Option Int) := fun _ _ _ _ _ _ _ b c => b = c
abbrev SimP (X : Cx) (T : Tb) (W : WX) (e : Option Expr) (m : M (Option Int)) : Prop := Sim (WO X e) X.K T W vI m
def mPn : M (Option Int) := M.ret none
def mPs (m : M D) : M (Option Int) := m.bind fun d => M.opt (match d with | .int i => some (some i) | _ => none)
theorem sp_none : SimP X T W none mPn := fun B w σ H fr h Q r p => po_wo po_none (p w H _ (Wd.le_refl _) r rfl)
theorem sp_some (s : SimV X T W e m) : SimP X T W (some e) (mPs m) := fun B w σ H fr h Q r p =>
  po_wo (po_some pe_max) (s B w σ H fr h _ r (Post.bind (VR := vV X.K T B σ) p fun d fr1 h1 w1 H1 x e1 l1 r1 rx p1 => by
    cases rx with
    | int i => exact ⟨i, rfl, p1 w1 H1 _ (Wd.le_refl _) r1 rfl⟩
    | _ => exact (show False from p1).elim))
def cutD {α : Type} (xs : List α) (lo hi : Option Int) : List α := (xs.drop (HT.sIx xs.length 0 lo)).take (HT.sIx xs.length xs.length hi - HT.sIx xs.length 0 lo)
theorem cut_rel {K : PySem.W.Frag} {w : Wd} {vs : List V} {ds : List D} {lo hi : Option Int} (r : RelDs K T w vs ds) : RelDs K T w (cutV vs lo hi) (cutD ds lo hi) := by
  unfold cutV cutD
  rw [r.length]
  exact (r.drop _).take _
def bCut (h : Hh) (d : D) (p : Option Int × Option Int) : Option D := match d with
  | .str z => if z.length ≤ big then some (.str (cutS z p.1 p.2)) else none
  | .tup l => some (.tup (cutD l p.1 p.2))
  | d => match d.der h with
    | .fl l => some (.nl (cutD l p.1 p.2))
    | .nl l => some (.nl (cutD l p.1 p.2))
    | .kl l => some (.nl (cutD l p.1 p.2))
    | _ => none
theorem sIx0 (n : Nat) : HT.sIx n 0 none = 0 := rfl
theorem cut_whole {α : Type} {xs : List α} {lo hi : Option Int} (h1 : HT.sIx xs.length 0 lo = 0) (h2 : HT.sIx xs.length xs.length hi = xs.length) : cutD xs lo hi = xs := by
  unfold cutD
  rw [h1, h2, List.drop_zero, Nat.sub_zero, List.take_length]
theorem lst_rel {K : PySem.W.Frag} {B : Bs} {w : Wd} {σ : L2.St} {H : Hp} {fr : Fr} {h : Hh} {v : V} {d : D} {l : List D} (R : Rel K T B w σ H fr h) (z : vO K T B σ w H fr v d) (e : d.der h = .fl l ∨ d.der h = .nl l ∨ d.der h = .kl l) :
    ∃ p vs, v = .ref p ∧ RelDs K T w vs l ∧ SqL K H p vs := by
  rcases z with z | ⟨p, o, rfl, eH, z⟩
  · cases z with
    | fl s r =>
      rcases e with e | e | e <;> cases e
      exact ⟨_, _, rfl, r, SqL.of (R.sub _ _ s)⟩
    | kl s r =>
      rcases e with e | e | e <;> cases e
      exact ⟨_, _, rfl, r, sqL_le R.sub s⟩
    | @ref a n s =>
      have ln : n < h.length := by
        rw [← R.len]
        exact (List.getElem?_eq_some_iff.mp s).1
      obtain ⟨o, q, rr⟩ := R.cel n a h[n] s (List.getElem?_eq_getElem ln)
      have e0 : D.der h (.ref n) = h[n] := by
        unfold D.der
        dsimp only
        rw [List.getElem?_eq_getElem ln]
        rfl
      rw [e0] at e
      generalize h[n] = c at rr e
      cases rr with
      | lst r =>
        rcases e with e | e | e <;> cases e
        exact ⟨_, _, rfl, r, SqL.of q⟩
      | obj r => rcases e with e | e | e <;> cases e
    | _ => rcases e with e | e | e <;> cases e
  · cases z with
    | lst r =>
      rcases e with e | e | e <;> cases e
      exact ⟨_, _, rfl, r, SqL.of eH⟩
    | obj r => rcases e with e | e | e <;> cases e
theorem cut_ok {B : Bs} {w : Wd} {σ : L2.St} {H : Hp} {fr : Fr} {h : Hh} {x : V} {d z : D} {lo hi : Option Int} {Q : VK} (R : Rel X.K T B w σ H fr h) (rx : vO X.K T B σ w H fr x d) (q : bCut h d (lo, hi) = some z)
    (k : ∀ w' H' v, w.le w' → Rel X.K T B w' σ H' fr h → vE X.K T B σ w' H' fr v z → Q v H') : slM X x lo hi H Q := by
  have fin : ∀ {l : List D}, (d.der h = .fl l ∨ d.der h = .nl l ∨ d.der h = .kl l) → z = .nl (cutD l lo hi) → slM X x lo hi H Q := fun {l} el ez => by
    obtain ⟨p, vs, rfl, rl, sq⟩ := lst_rel R rx el
    subst ez
    exact sl_slm sl_list ⟨p, vs, rfl, sq, fun q nq => new_lst R (cut_rel rl) nq k⟩
  unfold bCut at q
  split at q
  · split at q
    · rename_i hl
      cases q
      rw [vo_str rx]
      exact sl_slm sl_str ⟨_, rfl, big_line hl, k w H _ (Wd.le_refl _) R (.inl (.str _))⟩
    · cases q
  · cases q
    rcases rx with rx | ⟨_, _, _, _, r⟩
    · obtain ⟨p, vs, rfl, s, rl⟩ := rel_tup rx
      refine sl_slm sl_tupA ⟨p, vs, rfl, sqT_le R.sub s, fun hw => ?_, fun _ q nq => new_tup R (cut_rel rl) nq fun w' H' v l R' r' => k w' H' v l R' (.inl r')⟩
      rw [rl.length] at hw
      refine k w H _ (Wd.le_refl _) R (.inl ?_)
      rw [cut_whole hw.1 hw.2]
      exact rx
    · cases r
  · split at q
    · rename_i l el
      exact fin (.inl el) (by cases q; rfl)
    · rename_i l el
      exact fin (.inr (.inl el)) (by cases q; rfl)
    · rename_i l el
      exact fin (.inr (.inr el)) (by cases q; rfl)
    · cases q
def mPair (ml mh : M (Option Int)) : M (Option Int × Option Int) := ml.bind fun l => mh.bind fun u => M.ret (l, u)
variable {lo hi : Option Expr} {ml mh : M (Option Int)}
theorem se_cutV (i : Nat) {x : Str} {px : Pos} (sl : SimP X T W lo ml) (sh : SimP X T W hi mh) (hN : X.N[i]? = some x := by rfl) (hv : Vis X.env.scope x := by first | exact Or.inl rfl | exact Or.inr (Or.inl rfl) | exact Or.inr (Or.inr rfl)) (hd : (x == ("__debug__" : Str)) = false := by decide)
    (hcd : (x == ("__classdict__" : Str)) = false := by decide) : SimE X T W (.Subscript (.Name x px) (.Slice lo hi none p2) pos) (mLate i (mPair ml mh) bCut) := fun B w σ H fr h Q r1 p => by
  obtain ⟨⟨v, ev⟩, p⟩ := has_post r1 p
  have p0 : Post X.K T B W (vE X.K T B σ) w σ ((ml.bind fun l => mh.bind fun u => (mBor i).bind fun d fr h => M.opt (bCut h d (l, u)) fr h) fr h) Q := by
    have e : (mPair ml mh).bind (fun y => (mBor i).bind fun d fr h => M.opt (bCut h d y) fr h) fr h = (ml.bind fun l => mh.bind fun u => (mBor i).bind fun d fr h => M.opt (bCut h d (l, u)) fr h) fr h := by
      unfold mPair M.bind
      cases ml fr h with
      | ok l fr1 h1 => dsimp only; cases mh fr1 h1 <;> rfl
      | exc _ _ _ => rfl
      | err => rfl
    rw [← e]
    exact p
  refine pe_we (pe_slice sl_max (pe_var hN hv hd hcd) po_max po_max) ⟨v, ev, sl B w σ H fr h _ r1 (Post.bind (VR := vI X.K T B σ) p0 fun l fr1 h1 w1 H1 l' e1 l1 r2 rl p1 => sh B w1 σ H1 fr1 h1 _ r2 (Post.bind (VR := vI X.K T B σ) p1 fun u fr2 h2 w2 H2 u' e2 l2 r3 ru p2 => ?_))⟩
  have rl' : l' = l := rl
  have ru' : u' = u := ru
  subst rl' ru'
  obtain ⟨d, rd, p3⟩ := bor_post r3 ev p2
  cases q : bCut h2 d (l', u') with
  | none => rw [q] at p3; exact p3.elim
  | some z =>
    rw [q] at p3
    exact cut_ok r3 rd q p3
def mCut (ma : M D) (ml mh : M (Option Int)) : M D := ma.bind fun d => ml.bind fun l => mh.bind fun u fr h => M.opt (bCut h d (l, u)) fr h
theorem se_cut (sa : SimV X T W a ma) (sl : SimP X T W lo ml) (sh : SimP X T W hi mh) : SimE X T W (.Subscript a (.Slice lo hi none p2) pos) (mCut ma ml mh) := fun B w σ H fr h Q r1 p => by
  refine pe_we (pe_slice sl_max pe_max po_max po_max) (sa B w σ H fr h _ r1 (Post.bind (VR := vV X.K T B σ) p fun d fr0 h0 w0 H0 x e0 l0 r0 rx p => sl B w0 σ H0 fr0 h0 _ r0 (Post.bind (VR := vI X.K T B σ) p fun l fr1 h1 w1 H1 l' e1 l1 r2 rl p1 => sh B w1 σ H1 fr1 h1 _ r2 (Post.bind (VR := vI X.K T B σ) p1 fun u fr2 h2 w2 H2 u' e2 l2 r3 ru p2 => ?_))))
  have rl' : l' = l := rl
  have ru' : u' = u := ru
  subst rl' ru'
  cases q : bCut h2 d (l', u') with
  | none => rw [q] at p2; exact p2.elim
  | some z =>
    rw [q] at p2
    exact cut_ok r3 (.inl (rx.mono (Wd.le_trans l1 l2))) q p2

/-! ### built-in functions of one value -/
variable {x : Str}
theorem s_b1 {VR1 VR : VRel V D} {id : String} {f : Hh → D → Option D} (sa : Sim (WE X a) X.K T W VR1 ma) (hr : ∀ B w σ H fr h x d z Q, Rel X.K T B w σ H fr h → VR1 X.K T B σ w H fr x d → f h d = some z → (∀ w' H' v, w.le w' → Rel X.K T B w' σ H' fr h → VR X.K T B σ w' H' fr v z → Q v H') → cM X (.builtin id) [x] H Q)
    (hm : X.mg x = none) (hg : Gl X x := by rfl) (hv : bootBuiltins x = some (.builtin id) := by decide +kernel) (hn : x ≠ "__name__" := by decide) (hdb : (x == ("__debug__" : Str)) = false := by decide)
    (he : starEach (a :: []) X.env = (false, eval a X.env) :: starEach [] X.env := by exact star_no rfl) (hpl : (backTo pos (starEach [] X.env)).any (·.1) = false := by rfl) : Sim (WE X (.Call (.Name x pf) [a] [] pos)) X.K T W VR (mUn f ma) := fun B w σ H fr h Q r1 p =>
  pe_we (pe_callB call_max hg hm hv (pa_cons pe_max pa_nil he) hn hdb he hpl) (s_un (r := fun x H Q => cM X (.builtin id) [x] H Q) sa hr B w σ H fr h Q r1 p)
theorem s_t1 {VR1 VR : VRel V D} {id : String} {f : Hh → D → Option D} (sa : Sim (WE X a) X.K T W VR1 ma) (hr : ∀ B w σ H fr h x d z Q, Rel X.K T B w σ H fr h → VR1 X.K T B σ w H fr x d → f h d = some z → (∀ w' H' v, w.le w' → Rel X.K T B w' σ H' fr h → VR X.K T B σ w' H' fr v z → Q v H') → cM X (.type id) [x] H Q)
    (hm : X.mg x = none) (hg : Gl X x := by rfl) (hv : bootBuiltins x = some (.type id) := by decide +kernel) (hn : x ≠ "__name__" := by decide) (hdb : (x == ("__debug__" : Str)) = false := by decide)
    (he : starEach (a :: []) X.env = (false, eval a X.env) :: starEach [] X.env := by exact star_no rfl) (hpl : (backTo pos (starEach [] X.env)).any (·.1) = false := by rfl) : Sim (WE X (.Call (.Name x pf) [a] [] pos)) X.K T W VR (mUn f ma) := fun B w σ H fr h Q r1 p =>
  pe_we (pe_callTy call_max hg hm hv (pa_cons pe_max pa_nil he) hn hdb he hpl) (s_un (r := fun x H Q => cM X (.type id) [x] H Q) sa hr B w σ H fr h Q r1 p)
def bLen (h : Hh) (d : D) : Option D := match d with
  | .str z => if z.length ≤ big then some (.int z.length) else none
  | d => (d.its h).map fun l => .int l.length
theorem sv_len (sa : SimO X T W a ma) (hm : X.mg "len" = none) (hg : Gl X "len" := by rfl) (he : starEach (a :: []) X.env = (false, eval a X.env) :: starEach [] X.env := by exact star_no rfl) : SimV X T W (.Call (.Name "len" pf) [a] [] pos) (mUn bLen ma) :=
  s_b1 (id := "len") sa (fun B w σ H fr h x d z Q R rx q k => by
    unfold bLen at q
    split at q
    · split at q
      · rename_i hl
        cases q
        rw [vo_str rx]
        exact call_cm call_len_str ⟨_, rfl, big_line hl, k w H _ (Wd.le_refl _) R (.int _)⟩
      · cases q
    · obtain ⟨l, el, rfl⟩ := Option.map_eq_some_iff.mp q
      obtain ⟨p, vs, rfl, rl, sq⟩ := its_rel R rx el
      refine call_cm call_len_seq ⟨p, vs, rfl, sq, ?_⟩
      rw [rl.length]
      exact k w H _ (Wd.le_refl _) R (.int _)) hm hg (by decide +kernel) (by decide) (by decide) he
def bInt1 (_ : Hh) (d : D) : Option D := match d with
  | .int i => some (.int i)
  | .bl b => some (.int (if b then 1 else 0))
  | .str z => if z.length ≤ 640 then (PySem.intText? z).map .int else none
  | _ => none
theorem sv_intf (sa : SimV X T W a ma) (hm : X.mg "int" = none) (hg : Gl X "int" := by rfl) (he : starEach (a :: []) X.env = (false, eval a X.env) :: starEach [] X.env := by exact star_no rfl) : SimV X T W (.Call (.Name "int" pf) [a] [] pos) (mUn bInt1 ma) :=
  s_t1 (id := "int") sa (fun B w σ H fr h x d z Q R rx q k => by
    unfold bInt1 at q
    split at q
    · cases q
      rw [rel_int rx]
      exact call_cm call_int1 (.inl ⟨_, rfl, k w H _ (Wd.le_refl _) R (.int _)⟩)
    · cases q
      rw [rel_bl rx]
      exact call_cm call_int1 (.inr ⟨_, rfl, k w H _ (Wd.le_refl _) R (.int _)⟩)
    · split at q
      · rename_i hl
        obtain ⟨n, en, rfl⟩ := Option.map_eq_some_iff.mp q
        rw [rel_str rx]
        exact call_cm call_int_str ⟨_, n, rfl, en, hl, k w H _ (Wd.le_refl _) R (.int _)⟩
      · cases q
    · cases q) hm hg (by decide +kernel) (by decide) (by decide) he
def bAbs (_ : Hh) (d : D) : Option D := match d with
  | .int i => some (.int (if i < 0 then -i else i))
  | _ => none
theorem sv_abs (sa : SimV X T W a ma) (hm : X.mg "abs" = none) (hg : Gl X "abs" := by rfl) (he : starEach (a :: []) X.env = (false, eval a X.env) :: starEach [] X.env := by exact star_no rfl) : SimV X T W (.Call (.Name "abs" pf) [a] [] pos) (mUn bAbs ma) :=
  s_b1 (id := "abs") sa (fun B w σ H fr h x d z Q R rx q k => by
    unfold bAbs at q
    split at q
    · cases q
      rw [rel_int rx]
      exact call_cm call_abs ⟨_, rfl, k w H _ (Wd.le_refl _) R (.int _)⟩
    · cases q) hm hg (by decide +kernel) (by decide) (by decide) he
def bList (h : Hh) (d : D) : Option D := (d.its h).map .nl
theorem se_list (sa : SimO X T W a ma) (hm : X.mg "list" = none) (hg : Gl X "list" := by rfl) (he : starEach (a :: []) X.env = (false, eval a X.env) :: starEach [] X.env := by exact star_no rfl) : SimE X T W (.Call (.Name "list" pf) [a] [] pos) (mUn bList ma) :=
  s_t1 (id := "list") sa (fun B w σ H fr h x d z Q R rx q k => by
    obtain ⟨l, el, rfl⟩ := Option.map_eq_some_iff.mp q
    obtain ⟨p, vs, rfl, rl, sq⟩ := its_rel R rx el
    exact call_cm call_list_of ⟨p, vs, rfl, sq, fun q nq => new_lst R rl nq k⟩) hm hg (by decide +kernel) (by decide) (by decide) he
def bTuple (h : Hh) (d : D) : Option D := (d.its h).map .tup
theorem sv_tuple (sa : SimO X T W a ma) (hm : X.mg "tuple" = none) (hg : Gl X "tuple" := by rfl) (he : starEach (a :: []) X.env = (false, eval a X.env) :: starEach [] X.env := by exact star_no rfl) : SimV X T W (.Call (.Name "tuple" pf) [a] [] pos) (mUn bTuple ma) :=
  s_t1 (id := "tuple") sa (fun B w σ H fr h x d z Q R rx q k => by
    obtain ⟨l, el, rfl⟩ := Option.map_eq_some_iff.mp q
    cases hd : d.der h with
    | tup l' =>
      -- a tuple stays itself
      have ed : d = .tup l' := by
        rcases rx with rx | ⟨_, _, _, _, rr⟩
        · cases rx with
          | tup s r => exact hd
          | @ref a n s =>
            have ln : n < h.length := by
              rw [← R.len]
              exact (List.getElem?_eq_some_iff.mp s).1
            obtain ⟨o, q, rr⟩ := R.cel n a h[n] s (List.getElem?_eq_getElem ln)
            have e0 : D.der h (.ref n) = h[n] := by
              unfold D.der
              dsimp only
              rw [List.getElem?_eq_getElem ln]
              rfl
            rw [e0] at hd
            rw [hd] at rr
            cases rr
          | _ => cases hd
        · cases rr <;> cases hd
      subst ed
      cases el
      rcases rx with rx | ⟨_, _, _, _, rr⟩
      · obtain ⟨p, vs, rfl, s, rl⟩ := rel_tup rx
        exact call_cm call_tuple_of ⟨p, vs, rfl, .inr ⟨sqT_le R.sub s, k w H _ (Wd.le_refl _) R rx⟩⟩
      · cases rr
    | _ =>
      have el' := el
      unfold D.its at el'
      rw [hd] at el'
      first
        | (cases el'; done)
        | (cases el'
           obtain ⟨p, vs, rfl, rl, sq⟩ := lst_rel R rx (by first | exact .inl hd | exact .inr (.inl hd) | exact .inr (.inr hd))
           exact call_cm call_tuple_of ⟨p, vs, rfl, .inl ⟨sq, fun q nq => new_tup R rl nq k⟩⟩)) hm hg (by decide +kernel) (by decide) (by decide) he
/-- ints of a list -/
def D.ints : List D → Option (List Int)
  | [] => some []
  | .int i :: r => (D.ints r).map (i :: ·)
  | _ :: _ => none
theorem ints_map : ∀ {l : List D} {is : List Int}, D.ints l = some is → l = is.map D.int
  | [], is, e => by cases e; rfl
  | d :: r, is, e => by
    cases d with
    | int i =>
      unfold D.ints at e
      obtain ⟨js, ej, rfl⟩ := Option.map_eq_some_iff.mp e
      rw [ints_map ej]
      rfl
    | _ => cases e
/-- the ints of a list (no tuple) -/
def D.lints (h : Hh) (d : D) : Option (List Int) := match d.der h with
  | .fl l => D.ints l
  | .nl l => D.ints l
  | .kl l => D.ints l
  | _ => none
theorem lints_rel {K : PySem.W.Frag} {B : Bs} {w : Wd} {σ : L2.St} {H : Hp} {fr : Fr} {h : Hh} {v : V} {d : D} {is : List Int} (R : Rel K T B w σ H fr h) (z : vO K T B σ w H fr v d) (e : d.lints h = some is) : ∃ p, v = .ref p ∧ SqL K H p (is.map V.int) := by
  unfold D.lints at e
  split at e
  · rename_i l el
    obtain ⟨p, vs, rfl, rl, sq⟩ := lst_rel R z (.inl el)
    rw [ints_map e] at rl
    rw [rl.ints] at sq
    exact ⟨p, rfl, sq⟩
  · rename_i l el
    obtain ⟨p, vs, rfl, rl, sq⟩ := lst_rel R z (.inr (.inl el))
    rw [ints_map e] at rl
    rw [rl.ints] at sq
    exact ⟨p, rfl, sq⟩
  · rename_i l el
    obtain ⟨p, vs, rfl, rl, sq⟩ := lst_rel R z (.inr (.inr el))
    rw [ints_map e] at rl
    rw [rl.ints] at sq
    exact ⟨p, rfl, sq⟩
  · cases e
def bSum (h : Hh) (d : D) : Option D := (d.lints h).map fun l => .int l.sum
theorem sv_sum (C : Cq X T W k) (sa : SimO X T W a ma) (hm : X.mg "sum" = none) (hg : Gl X "sum" := by rfl) (he : starEach (a :: []) X.env = (false, eval a X.env) :: starEach [] X.env := by exact star_no rfl) : SimV X T W (.Call (.Name "sum" pf) [a] [] pos) (mUn bSum ma) :=
  s_b1 (id := "sum") sa (fun B w σ H fr h x d z Q R rx q kk => by
    obtain ⟨l, el, rfl⟩ := Option.map_eq_some_iff.mp q
    obtain ⟨p, rfl, sq⟩ := lints_rel R rx el
    exact call_cm (cr_sum C.calm) ⟨p, l, rfl, sq, kk w H _ (Wd.le_refl _) R (.int _)⟩) hm hg (by decide +kernel) (by decide) (by decide) he
def maxL : Int → List Int → Int
  | a, [] => a
  | a, b :: r => maxL (if b > a then b else a) r
def minL : Int → List Int → Int
  | a, [] => a
  | a, b :: r => minL (if b < a then b else a) r
theorem maxL_spec : ∀ (l : List Int) (a m : Int), m ∈ a :: l → (∀ y ∈ a :: l, y ≤ m) → maxL a l = m
  | [], a, m, hm, _ => by
    rw [List.mem_singleton] at hm
    exact hm.symm
  | b :: r, a, m, hm, hy => by
    unfold maxL
    have h1 := hy a (by simp)
    have h2 := hy b (by simp)
    refine maxL_spec r _ m ?_ fun y hy' => ?_
    · rcases List.mem_cons.mp hm with e | hm
      · subst e
        rw [if_neg (by omega)]
        exact List.mem_cons_self
      · rcases List.mem_cons.mp hm with e | hm
        · subst e
          by_cases hb : m > a
          · rw [if_pos hb]
            exact List.mem_cons_self
          · rw [if_neg hb]
            have : a = m := by omega
            rw [this]
            exact List.mem_cons_self
        · exact List.mem_cons_of_mem _ hm
    · rcases List.mem_cons.mp hy' with e | hy'
      · subst e
        split <;> assumption
      · exact hy y (by simp [hy'])
theorem minL_spec : ∀ (l : List Int) (a m : Int), m ∈ a :: l → (∀ y ∈ a :: l, m ≤ y) → minL a l = m
  | [], a, m, hm, _ => by
    rw [List.mem_singleton] at hm
    exact hm.symm
  | b :: r, a, m, hm, hy => by
    unfold minL
    have h1 := hy a (by simp)
    have h2 := hy b (by simp)
    refine minL_spec r _ m ?_ fun y hy' => ?_
    · rcases List.mem_cons.mp hm with e | hm
      · subst e
        rw [if_neg (by omega)]
        exact List.mem_cons_self
      · rcases List.mem_cons.mp hm with e | hm
        · subst e
          by_cases hb : m < a
          · rw [if_pos hb]
            exact List.mem_cons_self
          · rw [if_neg hb]
            have : a = m := by omega
            rw [this]
            exact List.mem_cons_self
        · exact List.mem_cons_of_mem _ hm
    · rcases List.mem_cons.mp hy' with e | hy'
      · subst e
        split <;> assumption
      · exact hy y (by simp [hy'])
def bMax1 (h : Hh) (d : D) : Option D := match d.lints h with
  | some (a :: r) => some (.int (maxL a r))
  | _ => none
def bMin1 (h : Hh) (d : D) : Option D := match d.lints h with
  | some (a :: r) => some (.int (minL a r))
  | _ => none
theorem sv_max1 (C : Cq X T W k) (sa : SimO X T W a ma) (hm : X.mg "max" = none) (hg : Gl X "max" := by rfl) (he : starEach (a :: []) X.env = (false, eval a X.env) :: starEach [] X.env := by exact star_no rfl) : SimV X T W (.Call (.Name "max" pf) [a] [] pos) (mUn bMax1 ma) :=
  s_b1 (id := "max") sa (fun B w σ H fr h x d z Q R rx q kk => by
    unfold bMax1 at q
    split at q
    · rename_i a r el
      cases q
      obtain ⟨p, rfl, sq⟩ := lints_rel R rx el
      refine call_cm (cr_max C.calm) ⟨p, a :: r, rfl, sq, by simp, fun m hm hy => ?_⟩
      rw [← maxL_spec r a m hm hy]
      exact kk w H _ (Wd.le_refl _) R (.int _)
    · cases q) hm hg (by decide +kernel) (by decide) (by decide) he
theorem sv_min1 (C : Cq X T W k) (sa : SimO X T W a ma) (hm : X.mg "min" = none) (hg : Gl X "min" := by rfl) (he : starEach (a :: []) X.env = (false, eval a X.env) :: starEach [] X.env := by exact star_no rfl) : SimV X T W (.Call (.Name "min" pf) [a] [] pos) (mUn bMin1 ma) :=
  s_b1 (id := "min") sa (fun B w σ H fr h x d z Q R rx q kk => by
    unfold bMin1 at q
    split at q
    · rename_i a r el
      cases q
      obtain ⟨p, rfl, sq⟩ := lints_rel R rx el
      refine call_cm (cr_min C.calm) ⟨p, a :: r, rfl, sq, by simp, fun m hm hy => ?_⟩
      rw [← minL_spec r a m hm hy]
      exact kk w H _ (Wd.le_refl _) R (.int _)
    · cases q) hm hg (by decide +kernel) (by decide) (by decide) he
/-- built-in functions of two values -/
theorem s_b2 {VR2 VR : VRel V D} {id : String} {f : Hh → D → D → Option D} (sa : SimV X T W a ma) (sb : Sim (WE X b) X.K T W VR2 mb)
    (hr : ∀ B w σ H fr h x y d e z Q, Rel X.K T B w σ H fr h → RelD X.K T w x d → VR2 X.K T B σ w H fr y e → f h d e = some z → (∀ w' H' v, w.le w' → Rel X.K T B w' σ H' fr h → VR X.K T B σ w' H' fr v z → Q v H') → cM X (.builtin id) [x, y] H Q)
    (hm : X.mg x = none) (hg : Gl X x := by rfl) (hv : bootBuiltins x = some (.builtin id) := by decide +kernel) (hn : x ≠ "__name__" := by decide) (hdb : (x == ("__debug__" : Str)) = false := by decide)
    (he : starEach (a :: b :: []) X.env = (false, eval a X.env) :: starEach (b :: []) X.env := by exact star_no rfl) (he2 : starEach (b :: []) X.env = (false, eval b X.env) :: starEach [] X.env := by exact star_no rfl)
    (hpl : (backTo pos (starEach (b :: []) X.env)).any (·.1) = false := by rfl) : Sim (WE X (.Call (.Name x pf) [a, b] [] pos)) X.K T W VR (mOp f ma mb) := fun B w σ H fr h Q r1 p =>
  pe_we (pe_callB call_max hg hm hv (pa_cons pe_max (pa_cons pe_max pa_nil he2) he) hn hdb he hpl) (s_op (r := fun x y H Q => cM X (.builtin id) [x, y] H Q) sa sb hr B w σ H fr h Q r1 p)
abbrev bMax2 := bInt cYes fun i j => if j > i then j else i
abbrev bMin2 := bInt cYes fun i j => if j < i then j else i
theorem sv_max2 (C : Cq X T W k) (sa : SimV X T W a ma) (sb : SimV X T W b mb) (hm : X.mg "max" = none) (hg : Gl X "max" := by rfl) (he : starEach (a :: b :: []) X.env = (false, eval a X.env) :: starEach (b :: []) X.env := by exact star_no rfl) (he2 : starEach (b :: []) X.env = (false, eval b X.env) :: starEach [] X.env := by exact star_no rfl)
    (hpl : (backTo pos (starEach (b :: []) X.env)).any (·.1) = false := by rfl) : SimV X T W (.Call (.Name "max" pf) [a, b] [] pos) (mOp bMax2 ma mb) :=
  s_b2 (id := "max") sa sb (fun B w σ H fr h x y d e z Q R rx ry q kk => by
    unfold bMax2 bInt at q
    split at q
    · cases q
      rw [rel_int rx, rel_int ry]
      exact call_cm (call_max2 C.calm) ⟨_, _, rfl, kk w H _ (Wd.le_refl _) R (.int _)⟩
    · cases q) hm hg (by decide +kernel) (by decide) (by decide) he he2 hpl
theorem sv_min2 (C : Cq X T W k) (sa : SimV X T W a ma) (sb : SimV X T W b mb) (hm : X.mg "min" = none) (hg : Gl X "min" := by rfl) (he : starEach (a :: b :: []) X.env = (false, eval a X.env) :: starEach (b :: []) X.env := by exact star_no rfl) (he2 : starEach (b :: []) X.env = (false, eval b X.env) :: starEach [] X.env := by exact star_no rfl)
    (hpl : (backTo pos (starEach (b :: []) X.env)).any (·.1) = false := by rfl) : SimV X T W (.Call (.Name "min" pf) [a, b] [] pos) (mOp bMin2 ma mb) :=
  s_b2 (id := "min") sa sb (fun B w σ H fr h x y d e z Q R rx ry q kk => by
    unfold bMin2 bInt at q
    split at q
    · cases q
      rw [rel_int rx, rel_int ry]
      exact call_cm (call_min2 C.calm) ⟨_, _, rfl, kk w H _ (Wd.le_refl _) R (.int _)⟩
    · cases q) hm hg (by decide +kernel) (by decide) (by decide) he he2 hpl
end
end Pk

/-! Pk5: statements, loops, comprehensions. -/
namespace Pk
open PySem PySem.Spec L2

/-! ### a new object is kept while more is evaluated -/
def Bs.pr (B : Bs) (p : Addr) (o : HO) : Bs := ⟨B.w0, B.H0, (p, o) :: B.P, B.me⟩
section
variable {K : PySem.W.Frag} {T : Tb} {B : Bs} {w w' : Wd} {σ : L2.St} {H H' : Hp} {fr : Fr} {h : Hh} {p : Addr} {o : HO}
theorem Own.pr (O : Own B w p) {q : Addr} {u : HO} (hq : q ≠ p) : Own (B.pr q u) w p := ⟨O.f, O.i, O.e, fun z hz => by
  rcases List.mem_cons.mp hz with e | hz
  · rw [e]
    exact hq
  · exact O.p z hz⟩
theorem Own.unpr {q : Addr} {u : HO} (O : Own (B.pr q u) w p) : Own B w p := ⟨O.f, O.i, O.e, fun z hz => O.p z (List.mem_cons_of_mem _ hz)⟩
theorem Rel.protect (R : Rel K T B w σ H fr h) (O : Own B w p) (lo : Loose σ fr p) (e : H p = some o) : Rel K T (B.pr p o) w σ H fr h :=
  { R with
    prot := fun q hq => by
      rcases List.mem_cons.mp hq with z | hq
      · rw [z]
        exact ⟨e, O.f, O.i⟩
      · exact R.prot q hq
    sl := fun i s d e1 e2 => by
      have z := R.sl i s d e1 e2
      cases z with
      | none => exact .none
      | val r => exact .val r
      | @own q u _ O' eH' rr =>
        have hne : p ≠ q := fun z => lo i ⟨by rw [z]; exact e1, _, e2, rr.own⟩
        exact .own (O'.pr hne) eH' rr }
theorem Rel.unprotect (R : Rel K T (B.pr p o) w σ H fr h) (e0 : B.H0 p = none) (hP : ∀ q ∈ B.P, q.1 ≠ p) : Rel K T B w σ H fr h ∧ Own B w p ∧ Loose σ fr p ∧ H p = some o := by
  obtain ⟨h1, h2, h3⟩ := R.prot (p, o) (List.mem_cons_self)
  refine ⟨{ R with prot := fun q hq => R.prot q (List.mem_cons_of_mem _ hq), sl := fun i s d e1 e2 => ?_ }, ⟨h2, h3, e0, hP⟩, fun i ⟨q1, d, q2, od⟩ => ?_, h1⟩
  · have z := R.sl i s d e1 e2
    cases z with
    | none => exact .none
    | val r => exact .val r
    | own O' eH' rr => exact .own O'.unpr eH' rr
  · have z := R.sl i _ _ q1 q2
    cases z with
    | val r => exact own_not od r
    | own O' eH' rr => exact O'.p (p, o) (List.mem_cons_self) rfl
/-- the protected object changes -/
theorem Rel.repr {o' : HO} (R : Rel K T (B.pr p o) w σ H fr h) (e0 : B.H0 p = none) (hP : ∀ q ∈ B.P, q.1 ≠ p) : Rel K T (B.pr p o') w σ (upd H p o') fr h := by
  obtain ⟨R1, O, lo, e⟩ := R.unprotect e0 hP
  refine Rel.protect { R1 with keep := fun a u ha hm => ?_, prot := fun q hq => ?_, sub := fun a u ha => ?_, cel := fun n a c q1 q2 => ?_, sl := fun j s dj q1 q2 => ?_ } O lo upd_same
  · rw [upd_ne (fun z => by rw [z, e0] at ha; cases ha)]
    exact R1.keep a u ha hm
  · obtain ⟨h1, h2, h3⟩ := R1.prot q hq
    exact ⟨by rw [upd_ne (hP q hq)]; exact h1, h2, h3⟩
  · rw [upd_ne (fun z => by rw [z, O.f] at ha; cases ha)]
    exact R1.sub a u ha
  · have hne : a ≠ p := fun z => O.i (by rw [← z]; exact List.mem_of_getElem? q1)
    exact CelR.keep (Wd.le_refl w) (upd_ne hne) (R1.cel n a c q1 q2)
  · have z := R1.sl j s dj q1 q2
    cases z with
    | none => exact .none
    | val r => exact .val r
    | @own q u _ O' eH' rr =>
      have hne : q ≠ p := fun z => lo j ⟨by rw [← z]; exact q1, _, q2, rr.own⟩
      exact .own O' (by rw [upd_ne hne]; exact eH') rr
end

/-! ### the largest readings of targets and of what a for walks -/
def WG (X : Cx) (tg : Expr) : TG := fun v σ H Q => ∀ pins s u, Inv X pins σ H s → RelV v u → wpAny (model X.prog X.w) X.A (assign tg X.env u) (fun _ s' => ∃ σ' H', Inv X pins σ' H' s' ∧ Q σ' H') X.xe s
structure WI (X : Cx) (tg iter : Expr) (σ : L2.St) (H : Hp) (R : It → Hp → Prop) : Prop where
  go : ∀ pins s, Inv X pins σ H s → wpAny (model X.prog X.w) X.A (eval iter X.env) (fun v s1 => wpAny (model X.prog X.w) X.A (pyIter v) (PIE X pins σ tg R) X.xe s1) X.xe s
def WTs (X : Cx) (ifs : List Expr) : TT := fun σ H Q => ∀ pins s, Inv X pins σ H s →
    wpAny (model X.prog X.w) X.A (forIn ifs true fun c r => if r = true then do let ok ← isTrue c X.env (eval c X.env); pure (ForInStep.yield ok) else pure (ForInStep.yield r)) (TP X pins σ Q) X.xe s
section
variable {X : Cx} {tg iter : Expr} {ifs : List Expr}
theorem pg_max : PG X tg (WG X tg) := ⟨fun pins s σ H v u Q I r h => h pins s u I r⟩
theorem pi_max : PI X tg iter (WI X tg iter) := ⟨fun pins s σ H R I h => h.go pins s I⟩
theorem pts_max : PTs X ifs (WTs X ifs) := ⟨fun pins s σ H Q I h => h pins s I⟩
theorem pg_wg {t : TG} (p : PG X tg t) {v : V} {σ : L2.St} {H : Hp} {Q : L2.St → Hp → Prop} (h : t v σ H Q) : WG X tg v σ H Q := fun pins s u I r => p.run pins s σ H v u Q I r h
theorem pi_wi {t : TI} (p : PI X tg iter t) {σ : L2.St} {H : Hp} {R : It → Hp → Prop} (h : t σ H R) : WI X tg iter σ H R := ⟨fun pins s I => p.run pins s σ H R I h⟩
theorem pts_wts {t : TT} (p : PTs X ifs t) {σ : L2.St} {H : Hp} {Q : Bool → Hp → Prop} (h : t σ H Q) : WTs X ifs σ H Q := fun pins s I => p.run pins s σ H Q I h
end

/-! ### arguments that may be new objects -/
inductive EsR (K : PySem.W.Frag) (T : Tb) (B : Bs) (σ : L2.St) (w : Wd) (H : Hp) (fr : Fr) : List V → List D → List Addr → Prop where
  | nil : EsR K T B σ w H fr [] [] []
  | val {v : V} {d : D} {vs : List V} {ds : List D} {ps : List Addr} : RelD K T w v d → EsR K T B σ w H fr vs ds ps → EsR K T B σ w H fr (v :: vs) (d :: ds) ps
  | own {p : Addr} {o : HO} {d : D} {vs : List V} {ds : List D} {ps : List Addr} : Own B w p → Loose σ fr p → H p = some o → OwnR K T w o d → p ∉ ps → EsR K T B σ w H fr vs ds ps → EsR K T B σ w H fr (.ref p :: vs) (d :: ds) (p :: ps)
def vEs : VRel (List V) (List D) := fun K T B σ w H fr vs ds => ∃ ps, EsR K T B σ w H fr vs ds ps
abbrev SimEs (X : Cx) (T : Tb) (W : WX) (es : List Expr) (m : M (List D)) : Prop := Sim (WA X es) X.K T W vEs m
theorem EsR.unpr {K : PySem.W.Frag} {T : Tb} {B : Bs} {σ : L2.St} {w : Wd} {H : Hp} {fr : Fr} {p : Addr} {o : HO} {vs : List V} {ds : List D} {ps : List Addr} (x : EsR K T (B.pr p o) σ w H fr vs ds ps) : EsR K T B σ w H fr vs ds ps ∧ p ∉ ps := by
  induction x with
  | nil => exact ⟨.nil, by simp⟩
  | val r _ ih => exact ⟨.val r ih.1, ih.2⟩
  | @own q u d vs ds ps O lo e r nq _ ih =>
    refine ⟨.own O.unpr lo e r nq ih.1, fun z => ?_⟩
    rcases List.mem_cons.mp z with z | z
    · exact O.p (p, o) (List.mem_cons_self) z
    · exact ih.2 z
theorem EsR.length {K : PySem.W.Frag} {T : Tb} {B : Bs} {σ : L2.St} {w : Wd} {H : Hp} {fr : Fr} {vs : List V} {ds : List D} {ps : List Addr} (x : EsR K T B σ w H fr vs ds ps) : vs.length = ds.length := by
  induction x with
  | nil => rfl
  | val _ _ ih => exact congrArg Nat.succ ih
  | own _ _ _ _ _ _ ih => exact congrArg Nat.succ ih
/-- what follows under a protection -/
theorem Post.pr {α β : Type} {K : PySem.W.Frag} {T : Tb} {B : Bs} {W : WX} {VR VR' : Wd → Hp → Fr → β → α → Prop} {w : Wd} {σ : L2.St} {p : Addr} {o : HO} {r : R α} {Q Q' : β → Hp → Prop} (e0 : B.H0 p = none) (hP : ∀ q ∈ B.P, q.1 ≠ p) (x : Post K T B W VR w σ r Q)
    (k : ∀ d fr h w' H' v, r = .ok d fr h → w.le w' → Rel K T (B.pr p o) w' σ H' fr h → VR' w' H' fr v d → (∀ w2 H2 v2, w.le w2 → Rel K T B w2 σ H2 fr h → VR w2 H2 fr v2 d → Q v2 H2) → Q' v H') : Post K T (B.pr p o) W VR' w σ r Q' := by
  cases r with
  | ok d fr h => exact fun w' H' v l R z => k d fr h w' H' v rfl l R z x
  | exc e fr h => exact fun w' H' c dd l R z => x w' H' c dd l (R.unprotect e0 hP).1 z
  | err => exact x
section
variable {X : Cx} {T : Tb} {W : WX} {e : Expr} {es : List Expr} {m : M D} {ms : List (M D)}
theorem ses_nil : SimEs X T W [] (mArgs []) := fun B w σ H fr h Q r1 p => pa_wa pa_nil (p w H _ (Wd.le_refl _) r1 ⟨[], .nil⟩)
theorem ses_cons (s : SimE X T W e m) (t : SimEs X T W es (mArgs ms)) (hs : starEach (e :: es) X.env = (false, eval e X.env) :: starEach es X.env := by exact star_no rfl) : SimEs X T W (e :: es) (mArgs (m :: ms)) := fun B w σ H fr h Q r1 p =>
  pa_wa (pa_cons pe_max pa_max hs) (s B w σ H fr h _ r1 (Post.bind (VR := vE X.K T B σ) p fun d fr1 h1 w1 H1 x e1 l1 r1 rx p1 => by
    rcases rx with rx | ⟨q, o, rfl, O, lo, eH, rd⟩
    · exact t B w1 σ H1 fr1 h1 _ r1 (Post.bind (VR := vEs X.K T B σ) p1 fun ds fr2 h2 w2 H2 vs e2 l2 r2 ⟨ps, rs⟩ p2 => p2 w2 H2 _ (Wd.le_refl _) r2 ⟨ps, .val (rx.mono l2) rs⟩)
    · refine t (B.pr q o) w1 σ H1 fr1 h1 _ (r1.protect O lo eH) ?_
      have p1' : Post X.K T B W (vEs X.K T B σ) w1 σ ((mArgs ms).bind (fun ds => M.ret (d :: ds)) fr1 h1) Q := p1
      cases e2 : mArgs ms fr1 h1 with
      | ok ds fr2 h2 =>
        rw [M.bind_ok e2] at p1'
        intro w2 H2 vs l2 r2 ⟨ps, rs⟩
        obtain ⟨r3, O3, lo3, eH3⟩ := r2.unprotect O.e O.p
        obtain ⟨rs', np⟩ := rs.unpr
        exact p1' w2 H2 (.ref q :: vs) l2 r3 ⟨q :: ps, .own O3 lo3 eH3 (rd.mono l2) np rs'⟩
      | exc y fr2 h2 =>
        rw [M.bind_exc e2] at p1'
        exact fun w' H' c dd l R z => p1' w' H' c dd l (R.unprotect O.e O.p).1 z
      | err =>
        rw [M.bind_err e2] at p1'
        exact p1'))
end

/-! ### targets of values -/
def SameOut (is : List Nat) (σ' σ : L2.St) : Prop := σ'.length = σ.length ∧ ∀ j : Nat, j ∉ is → σ'[j]? = σ[j]?
/-- is: the slots that a target sets -/
def SimG (X : Cx) (T : Tb) (is : List Nat) (tg : Expr) (mg : D → M Unit) : Prop := ∀ B w σ H fr h x d (Q : L2.St → Hp → Prop), Rel X.K T B w σ H fr h → RelD X.K T w x d →
  (match mg d fr h with
    | .ok _ fr' h' => ∀ w' σ' H', w.le w' → Rel X.K T B w' σ' H' fr' h' → SameOut is σ' σ → Q σ' H'
    | _ => False) → WG X tg x σ H Q
def SimGs (X : Cx) (T : Tb) (is : List Nat) (tgs : List Expr) (mg : List D → M Unit) : Prop := ∃ t, PGs X tgs t ∧ ∀ B w σ H fr h xs ds (Q : L2.St → Hp → Prop), Rel X.K T B w σ H fr h → RelDs X.K T w xs ds →
  (match mg ds fr h with
    | .ok _ fr' h' => ∀ w' σ' H', w.le w' → Rel X.K T B w' σ' H' fr' h' → SameOut is σ' σ → Q σ' H'
    | _ => False) → t xs σ H Q
def tgNm (i : Nat) (d : D) : M Unit := fun fr h => .ok () (fr.set i (some d)) h
def tgNil : List D → M Unit
  | [] => M.ret ()
  | _ => M.opt none
def tgCons (g : D → M Unit) (gs : List D → M Unit) : List D → M Unit
  | [] => M.opt none
  | d :: ds => (g d).bind fun _ => gs ds
/-- a tuple's items, or a list's -/
def tgTup (n : Nat) (gs : List D → M Unit) (d : D) : M Unit := match d with
  | .tup l => if l.length = n then gs l else M.opt none
  | _ => M.opt none
section
variable {X : Cx} {T : Tb} {W : WX} {k : Nat} {pos : Pos} {tg : Expr} {tgs : List Expr} {g : D → M Unit} {gs : List D → M Unit} {is js : List Nat}
theorem sg_name (C : Cq X T W k) (i : Nat) {x : Str} (hi : X.N[i]? = some x := by rfl) (hx : Loc X.env.scope x := by first | exact Or.inl rfl | exact Or.inr rfl) (hf : X.fn x = true ∨ X.env.scope.names.lookup x = some .local := by first | exact .inl rfl | exact .inr rfl) :
    SimG X T [i] (.Name x pos) (tgNm i) := fun B w σ H fr h v d Q R rd p => pg_wg (pg_name C.nd hi hx hf) (p w _ H (Wd.le_refl _) (R.set_slot (.val rd) (fun _ _ _ e od => by
  cases e
  exact (own_not od rd).elim) fun _ _ e => by
  cases e
  exact relD_own rd) ⟨List.length_set, fun j hj => by
    rw [List.getElem?_set_ne]
    intro e
    exact hj (by simp [e])⟩)
theorem sgs_nil : SimGs X T [] [] tgNil := ⟨_, pgs_nil, fun B w σ H fr h vs ds Q R rd p => by
  cases rd with
  | nil => exact ⟨rfl, p w σ H (Wd.le_refl _) R ⟨rfl, fun _ _ => rfl⟩⟩
  | cons _ _ => exact p.elim⟩
theorem sgs_cons (s : SimG X T is tg g) (t : SimGs X T js tgs gs) (hs : (assignEach (tg :: tgs) X.env).map (·.2) = assign tg X.env :: (assignEach tgs X.env).map (·.2) := by rfl) : SimGs X T (is ++ js) (tg :: tgs) (tgCons g gs) := by
  obtain ⟨u, pu, t⟩ := t
  refine ⟨_, pgs_cons pg_max pu hs, fun B w σ H fr h vs ds Q R rd p => ?_⟩
  cases rd with
  | nil => exact p.elim
  | @cons v d vr dr r rr =>
    refine ⟨v, vr, rfl, s B w σ H fr h v d _ R r ?_⟩
    have p' : (match (g d).bind (fun _ => gs dr) fr h with
      | .ok _ fr' h' => ∀ w' σ' H', w.le w' → Rel X.K T B w' σ' H' fr' h' → SameOut (is ++ js) σ' σ → Q σ' H'
      | _ => False) := p
    cases e : g d fr h with
    | ok _ fr1 h1 =>
      rw [M.bind_ok e] at p'
      intro w1 σ1 H1 l1 R1 k1
      refine t B w1 σ1 H1 fr1 h1 vr dr Q R1 (rr.mono l1) ?_
      cases e2 : gs dr fr1 h1 with
      | ok _ fr2 h2 =>
        rw [e2] at p'
        exact fun w2 σ2 H2 l2 R2 k2 => p' w2 σ2 H2 (Wd.le_trans l1 l2) R2 ⟨k2.1.trans k1.1, fun j hj => by
          rw [List.mem_append, not_or] at hj
          rw [k2.2 j hj.2, k1.2 j hj.1]⟩
      | exc _ _ _ => rw [e2] at p'; exact p'
      | err => rw [e2] at p'; exact p'
    | exc y fr1 h1 =>
      rw [M.bind_exc e] at p'
      exact p'.elim
    | err =>
      rw [M.bind_err e] at p'
      exact p'.elim
theorem sg_tup (C : Cq X T W k) {kk : Nat} {n : Nat} (t : SimGs X T is tgs gs) (hn : (assignEach tgs X.env).length = n := by rfl) (hst : (assignEach tgs X.env).findIdx? (·.1) = none := by rfl) : SimG X T is (.Tuple tgs kk pos) (tgTup n gs) := by
  obtain ⟨u, pu, t⟩ := t
  refine fun B w σ H fr h x d Q R rd p => pg_wg (pg_tup C.calm pu hn hst) ?_
  cases d with
  | tup l =>
    have p' : (match (if l.length = n then gs l else M.opt none) fr h with
      | .ok _ fr' h' => ∀ w' σ' H', w.le w' → Rel X.K T B w' σ' H' fr' h' → SameOut is σ' σ → Q σ' H'
      | _ => False) := p
    by_cases hl : l.length = n
    · rw [if_pos hl] at p'
      obtain ⟨a, vs, rfl, sq, rl⟩ := rel_tup rd
      exact ⟨a, vs, rfl, sqT_le R.sub sq, rl.length.trans hl, t B w σ H fr h vs l Q R rl p'⟩
    · rw [if_neg hl] at p'
      exact p'.elim
  | _ => exact (show False from p).elim
/-- names that take values or new objects -/
def mPuts : List Nat → List D → Fr → Option Fr
  | [], [], fr => some fr
  | i :: is, d :: ds, fr => mPuts is ds (fr.set i (some d))
  | _, _, _ => none
theorem Rel.putV {K : PySem.W.Frag} {B : Bs} {w : Wd} {σ : L2.St} {H : Hp} {fr : Fr} {h : Hh} {v : V} {d : D} (R : Rel K T B w σ H fr h) (i : Nat) (r : RelD K T w v d) : Rel K T B w (σ.set i (some v)) H (fr.set i (some d)) h :=
  R.set_slot (.val r) (fun _ _ _ e od => by
    cases e
    exact (own_not od r).elim) fun _ _ e => by
    cases e
    exact relD_own r
theorem Rel.put {K : PySem.W.Frag} {B : Bs} {w : Wd} {σ : L2.St} {H : Hp} {fr : Fr} {h : Hh} {v : V} {d : D} (R : Rel K T B w σ H fr h) (i : Nat) (hi : i ≠ 0) (x : vE K T B σ w H fr v d) : Rel K T B w (σ.set i (some v)) H (fr.set i (some d)) h := by
  rcases x with r | ⟨p, o, rfl, O, lo, e, r⟩
  · exact R.putV i r
  · exact R.set_slot (.own O e r) (fun q d' e1 e2 od => by
      cases e1
      cases e2
      exact lo) fun z => (hi z).elim
theorem loose_set {σ : L2.St} {fr : Fr} {i : Nat} {v : V} {d : D} {p : Addr} (lo : Loose σ fr p) (hv : d.own = true → v ≠ .ref p) : Loose (σ.set i (some v)) (fr.set i (some d)) p := fun j z => by
  obtain ⟨e1, dd, e2, od⟩ := z
  by_cases hj : i = j
  · subst hj
    have l1 : i < σ.length := by
      have := (List.getElem?_eq_some_iff.mp e1).1
      rwa [List.length_set] at this
    have l2 : i < fr.length := by
      have := (List.getElem?_eq_some_iff.mp e2).1
      rwa [List.length_set] at this
    rw [List.getElem?_set_self l1] at e1
    rw [List.getElem?_set_self l2] at e2
    cases e1
    cases e2
    exact hv od rfl
  · rw [List.getElem?_set_ne hj] at e1 e2
    exact lo j ⟨e1, dd, e2, od⟩
theorem EsR.set {K : PySem.W.Frag} {B : Bs} {w : Wd} {σ : L2.St} {H : Hp} {fr : Fr} {vs : List V} {ds : List D} {ps : List Addr} {i : Nat} {v : V} {d : D} (x : EsR K T B σ w H fr vs ds ps) (hv : ∀ p ∈ ps, d.own = true → v ≠ .ref p) :
    EsR K T B (σ.set i (some v)) w H (fr.set i (some d)) vs ds ps := by
  induction x with
  | nil => exact .nil
  | val r _ ih => exact .val r (ih hv)
  | own O lo e r nq _ ih => exact .own O (loose_set lo (hv _ (List.mem_cons_self))) e r nq (ih fun q hq => hv q (List.mem_cons_of_mem _ hq))
def SimGE (X : Cx) (T : Tb) (is : List Nat) (tgs : List Expr) : Prop := ∃ t, PGs X tgs t ∧ ∀ B w σ H fr fr' h xs ds ps (Q : L2.St → Hp → Prop), Rel X.K T B w σ H fr h → EsR X.K T B σ w H fr xs ds ps → mPuts is ds fr = some fr' →
  (∀ σ', Rel X.K T B w σ' H fr' h → Q σ' H) → t xs σ H Q
theorem sge_nil : SimGE X T [] [] := ⟨_, pgs_nil, fun B w σ H fr fr' h xs ds ps Q R rs e q => by
  cases rs with
  | nil =>
    cases e
    exact ⟨rfl, q σ R⟩
  | val _ _ => cases e
  | own _ _ _ _ _ _ => cases e⟩
theorem sge_cons (C : Cq X T W k) (i : Nat) {x : Str} (t : SimGE X T is tgs) (hs : (assignEach (.Name x pos :: tgs) X.env).map (·.2) = assign (.Name x pos) X.env :: (assignEach tgs X.env).map (·.2) := by rfl)
    (hi : X.N[i]? = some x := by rfl) (hx : Loc X.env.scope x := by first | exact Or.inl rfl | exact Or.inr rfl) (hf : X.fn x = true ∨ X.env.scope.names.lookup x = some .local := by first | exact .inl rfl | exact .inr rfl) (h0 : i ≠ 0 := by decide) : SimGE X T (i :: is) (.Name x pos :: tgs) := by
  obtain ⟨u, pu, t⟩ := t
  refine ⟨_, pgs_cons (pg_name C.nd hi hx hf) pu hs, fun B w σ H fr fr' h xs ds ps Q R rs e q => ?_⟩
  cases rs with
  | nil => cases e
  | val r rr => exact ⟨_, _, rfl, t B w _ H _ fr' h _ _ _ Q (R.put i h0 (.inl r)) (rr.set fun p _ od => (own_not od r).elim) e q⟩
  | own O lo eH r nq rr => exact ⟨_, _, rfl, t B w _ H _ fr' h _ _ _ Q (R.put i h0 (.inr ⟨_, _, rfl, O, lo, eH, r⟩)) (rr.set fun p hp _ z => by
      cases z
      exact nq hp) e q⟩
end

/-! ### what a for walks -/
/-- the iterator hands out the items -/
def vJ : VRel It (List D) := fun K T _ _ w _ _ J ds => ∀ i w1 H1, w.le w1 → (∀ a o, w1.F a = some o → H1 a = some o) →
  (ds.length ≤ i → J.stop i H1) ∧ ∀ d, ds[i]? = some d → J.go i H1 ∧ ∀ x H2, J.yld i H1 x H2 → ∀ B σ fr h, Rel K T B w1 σ H1 fr h → ∃ w2, w1.le w2 ∧ Rel K T B w2 σ H2 fr h ∧ RelD K T w2 x d
abbrev SimI (X : Cx) (T : Tb) (W : WX) (tg iter : Expr) (m : M (List D)) : Prop := Sim (WI X tg iter) X.K T W vJ m
section
variable {X : Cx} {T : Tb} {W : WX} {k : Nat} {pos p pf tpos : Pos} {tg e a b : Expr} {m ma mb : M D}
def mIt (m : M D) : M (List D) := m.bind fun d => M.opt (d.its [])
theorem its_nil {K : PySem.W.Frag} {w : Wd} {v : V} {d : D} {l : List D} (r : RelD K T w v d) (e : d.its [] = some l) : ∃ p vs, v = .ref p ∧ RelDs K T w vs l ∧ (SqT K w.F p vs ∨ SqL K w.F p vs) := by
  cases r with
  | tup s r =>
    have e' : some _ = some l := e
    cases e'
    exact ⟨_, _, rfl, r, .inl s⟩
  | fl s r =>
    have e' : some _ = some l := e
    cases e'
    exact ⟨_, _, rfl, r, .inr (SqL.of s)⟩
  | kl s r =>
    have e' : some _ = some l := e
    cases e'
    exact ⟨_, _, rfl, r, .inr s⟩
  | ref s => cases e
  | _ => cases e
def iSeq (K : PySem.W.Frag) (tl : TE) : TI := fun σ H R => tl σ H fun x H1 => ∃ a, x = .ref a ∧ (((∃ xs, SqT K H1 a xs) ∧ R (Itt K a) H1) ∨ ((∃ xs, SqL K H1 a xs) ∧ R (Itl K a) H1))
open PyProof.Rows in
theorem pi_seq {l : Expr} {tl : TE} (hl : PE X l tl) : PI X tg l (iSeq X.K tl) := by
  refine ⟨fun pins s σ H R I h => ?_⟩
  refine thn (hl.run pins s σ H _ I h) fun v s1 ⟨x, H1, I1, r1, q1⟩ => ?_
  obtain ⟨a, e, ⟨⟨xs, hq⟩, q⟩ | ⟨⟨xs, hq⟩, q⟩⟩ := q1
  · subst e
    cases r1
    obtain ⟨its, rv, p, hz⟩ := I1.tuple hq
    refine wpAny_pyIter_tuple (show s1.heap.IsTuple a its.toArray from p) ?_
    refine ⟨s1.heap.objs.size, [s1.heap.objs.size], _, _, H1, rfl, I1.kept (t' := s1.toks) fun b o e => Heap.get?_push_of_some _ e, turn_tuple a _, ⟨_, Heap.get?_push_size _ rfl, rfl, rfl⟩, fun b hb => ?_, q⟩
    have e : b = s1.heap.objs.size := by simpa using hb
    subst e
    exact I1.fpOk (Nat.le_refl _) (I1.hok.fresh (Nat.le_refl _))
  · subst e
    cases r1
    obtain ⟨its, rv, p, hz⟩ := I1.list hq
    refine wpAny_pyIter_list p.isList ?_
    refine ⟨s1.heap.objs.size, [s1.heap.objs.size], _, _, H1, rfl, I1.kept (t' := s1.toks) fun b o e => Heap.get?_push_of_some _ e, turn_list a _, ⟨_, Heap.get?_push_size _ rfl, rfl, rfl⟩, fun b hb => ?_, q⟩
    have e : b = s1.heap.objs.size := by simpa using hb
    subst e
    exact I1.fpOk (Nat.le_refl _) (I1.hok.fresh (Nat.le_refl _))
theorem vJ_tup {K : PySem.W.Frag} {B : Bs} {σ : L2.St} {w : Wd} {H : Hp} {fr : Fr} {a : Addr} {vs : List V} {l : List D} (sq : SqT K w.F a vs) (rl : RelDs K T w vs l) : vJ K T B σ w H fr (Itt K a) l := fun i w2 H2 l2 hs => ⟨fun hi => ⟨vs, sqT_le hs (sqT_le l2.1 sq), by rw [rl.length]; exact hi⟩, fun d' hd => by
  obtain ⟨v, hv, rv⟩ := rl.get hd
  refine ⟨⟨vs, v, sqT_le hs (sqT_le l2.1 sq), hv⟩, fun y H3 hy B' σ' fr' h' R' => ?_⟩
  obtain ⟨rfl, hy⟩ := hy
  have z := hy vs (sqT_le hs (sqT_le l2.1 sq))
  rw [hv] at z
  cases z
  exact ⟨w2, Wd.le_refl _, R', rv.mono l2⟩⟩
theorem vJ_lst {K : PySem.W.Frag} {B : Bs} {σ : L2.St} {w : Wd} {H : Hp} {fr : Fr} {a : Addr} {vs : List V} {l : List D} (sq : SqL K w.F a vs) (rl : RelDs K T w vs l) : vJ K T B σ w H fr (Itl K a) l := fun i w2 H2 l2 hs => ⟨fun hi => ⟨vs, sqL_le hs (sqL_le l2.1 sq), by rw [rl.length]; exact hi⟩, fun d' hd => by
  obtain ⟨v, hv, rv⟩ := rl.get hd
  refine ⟨⟨vs, v, sqL_le hs (sqL_le l2.1 sq), hv⟩, fun y H3 hy B' σ' fr' h' R' => ?_⟩
  obtain ⟨rfl, hy⟩ := hy
  have z := hy vs (sqL_le hs (sqL_le l2.1 sq))
  rw [hv] at z
  cases z
  exact ⟨w2, Wd.le_refl _, R', rv.mono l2⟩⟩
theorem si_seq (s : SimV X T W e m) : SimI X T W tg e (mIt m) := fun B w σ H fr h Q r p => pi_wi (pi_seq pe_max) (s B w σ H fr h _ r (Post.bind (VR := vV X.K T B σ) p fun d fr1 h1 w1 H1 x e1 l1 r1 rx p1 => by
  cases q : d.its [] with
  | none => rw [q] at p1; exact p1.elim
  | some l =>
    rw [q] at p1
    obtain ⟨a, vs, rfl, rl, sq⟩ := its_nil rx q
    refine ⟨a, rfl, ?_⟩
    rcases sq with sq | sq
    · exact .inl ⟨⟨vs, sqT_le r1.sub sq⟩, p1 w1 H1 (Itt X.K a) (Wd.le_refl _) r1 (vJ_tup sq rl)⟩
    · exact .inr ⟨⟨vs, sqL_le r1.sub sq⟩, p1 w1 H1 (Itl X.K a) (Wd.le_refl _) r1 (vJ_lst sq rl)⟩))
/-- range -/
def rngD (lo : Int) (n : Nat) : List D := (List.range n).map fun (i : Nat) => D.int (lo + (i : Int))
def cSm (i : Int) : Bool := decide (-(2 ^ 62) ≤ i) && decide (i < 2 ^ 62)
theorem cSm_of {i : Int} (h : cSm i = true) : -(2 ^ 62) ≤ i ∧ i < 2 ^ 62 := by
  obtain ⟨h1, h2⟩ := Bool.and_eq_true_iff.mp h
  exact ⟨of_decide_eq_true h1, of_decide_eq_true h2⟩
def mRng1 (m : M D) : M (List D) := m.bind fun d => M.opt (match d with
  | .int j => if cSm j then some (rngD 0 j.toNat) else none
  | _ => none)
def mRng2 (ma mb : M D) : M (List D) := ma.bind fun x => mb.bind fun y => M.opt (match x, y with
  | .int i, .int j => if cSm i && cSm j then some (rngD i (j - i).toNat) else none
  | _, _ => none)
theorem vJ_rng {K : PySem.W.Frag} {B : Bs} {σ : L2.St} {w : Wd} {H : Hp} {fr : Fr} (lo : Int) (n : Nat) : vJ K T B σ w H fr (Itr lo n) (rngD lo n) := fun i w2 H2 l2 hs => ⟨fun hi => by
  have hi' : (rngD lo n).length ≤ i := hi
  unfold rngD at hi'
  rw [List.length_map, List.length_range] at hi'
  exact hi', fun d' hd => by
  unfold rngD at hd
  rw [List.getElem?_map] at hd
  obtain ⟨j, hj, rfl⟩ := Option.map_eq_some_iff.mp hd
  obtain ⟨hl, ej⟩ := List.getElem?_eq_some_iff.mp hj
  rw [List.length_range] at hl
  rw [List.getElem_range] at ej
  subst ej
  refine ⟨hl, fun y H3 hy B' σ' fr' h' R' => ?_⟩
  obtain ⟨rfl, rfl⟩ := hy
  exact ⟨w2, Wd.le_refl _, R', .int _⟩⟩
theorem si_rng1 (s : SimV X T W a ma) (hm : X.mg "range" = none) (hg : Gl X "range" := by rfl) (hs : starEach [a] X.env = [(false, eval a X.env)] := by rfl) : SimI X T W tg (.Call (.Name "range" p) [a] [] pos) (mRng1 ma) := fun B w σ H fr h Q r p =>
  pi_wi (pi_range1 hg hm (pa_cons pe_max pa_nil (hs.trans (by rfl))) hs) (s B w σ H fr h _ r (Post.bind (VR := vV X.K T B σ) p fun d fr1 h1 w1 H1 x e1 l1 r1 rx p1 => by
    cases rx with
    | int j =>
      dsimp only at p1
      cases hj : cSm j with
      | false => rw [hj] at p1; exact (show False from p1).elim
      | true =>
        rw [hj] at p1
        obtain ⟨h1', h2'⟩ := cSm_of hj
        exact ⟨j, rfl, h1', h2', p1 w1 H1 (Itr 0 j.toNat) (Wd.le_refl _) r1 (vJ_rng 0 _)⟩
    | _ => exact (show False from p1).elim))
theorem si_rng2 (sa : SimV X T W a ma) (sb : SimV X T W b mb) (hm : X.mg "range" = none) (hg : Gl X "range" := by rfl) (hs : starEach [a, b] X.env = [(false, eval a X.env), (false, eval b X.env)] := by rfl) (hs2 : starEach [b] X.env = [(false, eval b X.env)] := by rfl) :
    SimI X T W tg (.Call (.Name "range" p) [a, b] [] pos) (mRng2 ma mb) := fun B w σ H fr h Q r p =>
  pi_wi (pi_range2 hg hm (pa_cons pe_max (pa_cons pe_max pa_nil (hs2.trans (by rfl))) (hs.trans (by rw [hs2]))) hs hs2) (sa B w σ H fr h _ r (Post.bind (VR := vV X.K T B σ) p fun d fr1 h1 w1 H1 x e1 l1 r1 rx p => sb B w1 σ H1 fr1 h1 _ r1 (Post.bind (VR := vV X.K T B σ) p fun d2 fr2 h2 w2 H2 y e2 l2 r2 ry p1 => by
    have bad : ¬ (∃ i j, d = .int i ∧ d2 = .int j ∧ (cSm i && cSm j) = true) → False := fun hn => by
      revert p1
      split
      · rename_i i j
        cases hc : cSm i && cSm j with
        | false => exact fun p1 => p1
        | true => exact fun _ => hn ⟨i, j, rfl, rfl, hc⟩
      · exact fun p1 => p1
    by_cases hh : ∃ i j, d = .int i ∧ d2 = .int j ∧ (cSm i && cSm j) = true
    · obtain ⟨i, j, rfl, rfl, hc⟩ := hh
      cases rx
      cases ry
      dsimp only at p1
      rw [hc] at p1
      obtain ⟨hi, hj⟩ := Bool.and_eq_true_iff.mp hc
      obtain ⟨h1', h2'⟩ := cSm_of hi
      obtain ⟨h3', h4'⟩ := cSm_of hj
      exact ⟨i, j, rfl, ⟨h1', h2', h3', h4'⟩, p1 w2 H2 (Itr i (j - i).toNat) (Wd.le_refl _) r2 (vJ_rng i _)⟩
    · exact (bad hh).elim)))
end
end Pk

/-! Pk6: statements. -/
namespace Pk
open PySem PySem.Spec L2

inductive Fl where
  | nx | brk | ct | rt (d : D)

/-- what a statement's result asks of what follows -/
def PostS (K : PySem.W.Frag) (T : Tb) (B : Bs) (W : WX) (w : Wd) (r : R Fl) (D : Ends) : Prop :=
  match r with
  | .ok .nx fr h => ∀ w' σ' H', w.le w' → Rel K T B w' σ' H' fr h → D.nx σ' H'
  | .ok .brk fr h => ∀ w' σ' H', w.le w' → Rel K T B w' σ' H' fr h → D.bk σ' H'
  | .ok .ct fr h => ∀ w' σ' H', w.le w' → Rel K T B w' σ' H' fr h → D.ct σ' H'
  | .ok (.rt d) fr h => ∀ w' σ' H' v, w.le w' → Rel K T B w' σ' H' fr h → vE K T B σ' w' H' fr v d → D.rt v H'
  | .exc x fr h => ∀ w' σ' H' cls dd, w.le w' → Rel K T B w' σ' H' fr h → ExcR K T w' x cls dd → W cls dd σ' H'
  | .err => False
def SimS (X : Cx) (T : Tb) (W : WX) (st : Stmt) (m : M Fl) : Prop := ∀ (B : Bs) (w : Wd) (σ : L2.St) (H : Hp) (fr : Fr) (h : Hh) (D : Ends), Rel X.K T B w σ H fr h → PostS X.K T B W w (m fr h) D → WS X st D σ H
def SimSs (X : Cx) (T : Tb) (W : WX) (sts : List Stmt) (m : M Fl) : Prop := ∀ (B : Bs) (w : Wd) (σ : L2.St) (H : Hp) (fr : Fr) (h : Hh) (D : Ends), Rel X.K T B w σ H fr h → PostS X.K T B W w (m fr h) D → WSs X sts D σ H
section
variable {K : PySem.W.Frag} {T : Tb} {B : Bs} {W : WX} {w w' : Wd} {σ : L2.St} {H : Hp}
theorem PostS.le {r : R Fl} {D : Ends} (x : w.le w') (p : PostS K T B W w r D) : PostS K T B W w' r D := by
  cases r with
  | ok f fr h =>
    cases f with
    | rt d => exact fun w2 σ2 H2 v y => p w2 σ2 H2 v (Wd.le_trans x y)
    | _ => exact fun w2 σ2 H2 y => p w2 σ2 H2 (Wd.le_trans x y)
  | exc e fr h => exact fun w2 σ2 H2 c d y => p w2 σ2 H2 c d (Wd.le_trans x y)
  | err => exact p
/-- a value, then a statement's rest -/
theorem PostS.bind {α β : Type} {VR : Wd → Hp → Fr → β → α → Prop} {m : M α} {f : α → M Fl} {fr : Fr} {h : Hh} {D : Ends} {Q : β → Hp → Prop} (p : PostS K T B W w (m.bind f fr h) D)
    (k : ∀ d fr1 h1 w1 H1 v, m fr h = .ok d fr1 h1 → w.le w1 → Rel K T B w1 σ H1 fr1 h1 → VR w1 H1 fr1 v d → PostS K T B W w1 (f d fr1 h1) D → Q v H1) : Post K T B W VR w σ (m fr h) Q := by
  cases e : m fr h with
  | ok d fr1 h1 =>
    rw [M.bind_ok e] at p
    exact fun w1 H1 v x r z => k d fr1 h1 w1 H1 v e x r z (p.le x)
  | exc y fr1 h1 =>
    rw [M.bind_exc e] at p
    exact fun w1 H1 c dd x r z => p w1 σ H1 c dd x r z
  | err =>
    rw [M.bind_err e] at p
    exact p
end

/-- a block -/
def mSeq (m n : M Fl) : M Fl := m.bind fun f => match f with
  | .nx => n
  | f => M.ret f
/-- an if's branches -/
def mIfS (t : M Bool) (m n : M Fl) : M Fl := t.bind fun b => if b then m else n
def mDrop {α : Type} (m : M α) : M Fl := m.bind fun _ => M.ret .nx
def mRet (m : M D) : M Fl := m.bind fun d => M.ret (.rt d)
def mPut (i : Nat) (m : M D) : M Fl := m.bind fun d fr h => .ok .nx (fr.set i (some d)) h
def mAsg (m : M D) (g : D → M Unit) : M Fl := m.bind fun d fr h => match g d fr h with
  | .ok _ fr h => .ok .nx fr h
  | _ => .err
def mPutE (is : List Nat) (m : M (List D)) : M Fl := m.bind fun ds fr h => match mPuts is ds fr with
  | some fr' => if ds.length ≤ big then .ok .nx fr' h else .err
  | none => .err
section
variable {X : Cx} {T : Tb} {W : WX} {k : Nat} {pos pos' p2 : Pos} {e a b c : Expr} {st : Stmt} {sts as bs : List Stmt} {m : M D} {s n : M Fl} {t : M Bool} {es : List Expr}
theorem ss_nil : SimSs X T W [] (M.ret .nx) := fun B w σ H fr h D R p => pss_wss pss_nil (p w σ H (Wd.le_refl _) R)
theorem ss_cons (s1 : SimS X T W st s) (s2 : SimSs X T W sts n) : SimSs X T W (st :: sts) (mSeq s n) := fun B w σ H fr h D R p =>
  pss_wss (pss_cons ps_max pss_max) (s1 B w σ H fr h _ R (by
    unfold mSeq at p
    cases e : s fr h with
    | ok f fr1 h1 =>
      rw [M.bind_ok e] at p
      cases f with
      | nx => exact fun w1 σ1 H1 l R1 => s2 B w1 σ1 H1 fr1 h1 D R1 (p.le l)
      | _ => exact p
    | exc y fr1 h1 => rw [M.bind_exc e] at p; exact p
    | err => rw [M.bind_err e] at p; exact p))
theorem ss_one (s1 : SimS X T W st s) : SimSs X T W [st] s := fun B w σ H fr h D R p => pss_wss (pss_one ps_max) (s1 B w σ H fr h _ R p)
theorem s_pass : SimS X T W (.Pass pos) (M.ret .nx) := fun B w σ H fr h D R p => ps_ws ps_pass (p w σ H (Wd.le_refl _) R)
theorem s_break : SimS X T W (.Break pos) (M.ret .brk) := fun B w σ H fr h D R p => ps_ws ps_break (p w σ H (Wd.le_refl _) R)
theorem s_cont : SimS X T W (.Continue pos) (M.ret .ct) := fun B w σ H fr h D R p => ps_ws ps_continue (p w σ H (Wd.le_refl _) R)
theorem s_doc {x : Str} {j : Nat} : SimS X T W (.Expr (.Constant (.str x) j pos) pos') (M.ret .nx) := fun B w σ H fr h D R p => ps_ws ps_doc (p w σ H (Wd.le_refl _) R)
theorem s_expr {VR : VRel V D} (s : Sim (WE X e) X.K T W VR m) (hs : swapsWith e none pos.line X.env = pure false := by rfl) : SimS X T W (.Expr e pos) (mDrop m) := fun B w σ H fr h D R p =>
  ps_ws (ps_expr pe_max hs) (s B w σ H fr h _ R (PostS.bind (VR := VR X.K T B σ) p fun d fr1 h1 w1 H1 v e1 l1 r1 rx p1 => p1 w1 σ H1 (Wd.le_refl _) r1))
theorem s_ret (s : SimE X T W e m) : SimS X T W (.Return (some e) pos) (mRet m) := fun B w σ H fr h D R p =>
  ps_ws (ps_ret pe_max) (s B w σ H fr h _ R (PostS.bind (VR := vE X.K T B σ) p fun d fr1 h1 w1 H1 v e1 l1 r1 rx p1 => p1 w1 σ H1 v (Wd.le_refl _) r1 rx))
theorem s_retN : SimS X T W (.Return none pos) (M.ret (.rt .non)) := fun B w σ H fr h D R p => ps_ws ps_retN (p w σ H .non (Wd.le_refl _) R (.inl .non))
theorem s_ifS (st : SimT X T W c t) (sa : SimSs X T W as s) (sb : SimSs X T W bs n) : SimS X T W (.If c as bs pos) (mIfS t s n) := fun B w σ H fr h D R p =>
  ps_ws (ps_if pt_max pss_max pss_max) (st B w σ H fr h _ R (PostS.bind (VR := vB X.K T B σ) p fun d fr1 h1 w1 H1 x e1 l1 r1 rx p1 => by
    have rx' : x = d := rx
    subst rx'
    cases x with
    | true => exact sa B w1 σ H1 fr1 h1 D r1 p1
    | false => exact sb B w1 σ H1 fr1 h1 D r1 p1))
/-- code that is not come to -/
theorem s_never : SimS X T W st (fun _ _ => .err) := fun B w σ H fr h D R p => p.elim
theorem ss_never : SimSs X T W sts (fun _ _ => .err) := fun B w σ H fr h D R p => p.elim
theorem s_put (C : Cq X T W k) (i : Nat) {x : Str} (s : SimE X T W e m) (hs : swapsWith e (some (.Name x pos')) pos.line X.env = pure false := by rfl) (hi : X.N[i]? = some x := by rfl) (hx : Loc X.env.scope x := by first | exact Or.inl rfl | exact Or.inr rfl)
    (hf : X.fn x = true ∨ X.env.scope.names.lookup x = some .local := by first | exact .inl rfl | exact .inr rfl) (h0 : i ≠ 0 := by decide) : SimS X T W (.Assign [.Name x pos'] e pos) (mPut i m) := fun B w σ H fr h D R p =>
  ps_ws (ps_set C.nd hi hx pe_max hs hf) (s B w σ H fr h _ R (PostS.bind (VR := vE X.K T B σ) p fun d fr1 h1 w1 H1 v e1 l1 r1 rx p1 => p1 w1 _ H1 (Wd.le_refl _) (r1.put i h0 rx)))
theorem s_putV (C : Cq X T W k) (i : Nat) {x : Str} (s : SimV X T W e m) (hs : swapsWith e (some (.Name x pos')) pos.line X.env = pure false := by rfl) (hi : X.N[i]? = some x := by rfl) (hx : Loc X.env.scope x := by first | exact Or.inl rfl | exact Or.inr rfl)
    (hf : X.fn x = true ∨ X.env.scope.names.lookup x = some .local := by first | exact .inl rfl | exact .inr rfl) : SimS X T W (.Assign [.Name x pos'] e pos) (mPut i m) := fun B w σ H fr h D R p =>
  ps_ws (ps_set C.nd hi hx pe_max hs hf) (s B w σ H fr h _ R (PostS.bind (VR := vV X.K T B σ) p fun d fr1 h1 w1 H1 v e1 l1 r1 rx p1 => p1 w1 _ H1 (Wd.le_refl _) (r1.putV i rx)))
theorem s_asg {tg : Expr} {is : List Nat} {g : D → M Unit} (s : SimV X T W e m) (sg : SimG X T is tg g) (hs : swapsWithSole [tg] e pos.line X.env = pure false := by rfl) (hw : swappedStores [tg] e X.env = pure none := by rfl)
    (h1 : (assignEach [tg] X.env).map (·.2) = [assign tg X.env] := by rfl) : SimS X T W (.Assign [tg] e pos) (mAsg m g) := fun B w σ H fr h D R p =>
  ps_ws (ps_asg pe_max pg_max hs hw h1) (s B w σ H fr h _ R (PostS.bind (VR := vV X.K T B σ) p fun d fr1 h1 w1 H1 v e1 l1 r1 rx p1 => sg B w1 σ H1 fr1 h1 v d _ r1 rx (by
    cases e2 : g d fr1 h1 with
    | ok u fr2 h2 =>
      rw [e2] at p1
      exact fun w2 σ2 H2 l2 r2 _ => p1 w2 σ2 H2 l2 r2
    | exc y fr2 h2 =>
      rw [e2] at p1
      exact p1.elim
    | err =>
      rw [e2] at p1
      exact p1.elim)))
theorem EsR.temp {K : PySem.W.Frag} {B : Bs} {σ : L2.St} {w : Wd} {H : Hp} {fr : Fr} {vs : List V} {ds : List D} {ps : List Addr} {p : Addr} {o : HO} (x : EsR K T B σ w H fr vs ds ps) (np : H p = none) : EsR K T B σ w (upd H p o) fr vs ds ps := by
  induction x with
  | nil => exact .nil
  | val r _ ih => exact .val r ih
  | own O lo e r nq _ ih => exact .own O lo (by rw [upd_ne (ne_of_none e np)]; exact e) r nq ih
theorem puts_len : ∀ (is : List Nat) (ds : List D) (fr fr' : Fr), mPuts is ds fr = some fr' → ds.length = is.length
  | [], [], _, _, _ => rfl
  | [], _ :: _, _, _, q => by cases q
  | _ :: _, [], _, _, q => by cases q
  | _ :: is, _ :: ds, _, fr', q => congrArg Nat.succ (puts_len is ds _ fr' q)
/-- a, b, .. = e1, e2, .. by a tuple that nobody keeps -/
theorem s_parE (C : Cq X T W k) {tgs : List Expr} {is : List Nat} {kk x1 : Nat} {n : Nat} {ms : M (List D)} (se : SimEs X T W es ms) (g : SimGE X T is tgs) (hn : (assignEach tgs X.env).length = n := by rfl) (hl : is.length = n := by rfl) (hst : (assignEach tgs X.env).findIdx? (·.1) = none := by rfl)
    (hs : swapsWithSole [.Tuple tgs kk pos'] (.Tuple es x1 p2) pos.line X.env = pure false := by rfl) (hw : swappedStores [.Tuple tgs kk pos'] (.Tuple es x1 p2) X.env = pure none := by rfl)
    (h1 : (assignEach [.Tuple tgs kk pos'] X.env).map (·.2) = [assign (.Tuple tgs kk pos') X.env] := by rfl) : SimS X T W (.Assign [.Tuple tgs kk pos'] (.Tuple es x1 p2) pos) (mPutE is ms) := by
  obtain ⟨u, pu, g⟩ := g
  refine fun B w σ H fr h D R p => ps_ws (ps_asg (pe_tup pa_max) (pg_tup C.calm pu hn hst) hs hw h1) (se B w σ H fr h _ R (PostS.bind (VR := vEs X.K T B σ) p fun ds fr1 h1 w1 H1 vs e1 l1 r1 ⟨ps, rs⟩ p1 => ?_))
  cases q : mPuts is ds fr1 with
  | none => rw [q] at p1; exact p1.elim
  | some fr' =>
    rw [q] at p1
    dsimp only at p1
    by_cases hb : ds.length ≤ big
    · rw [if_pos hb] at p1
      refine ⟨by rw [rs.length]; exact big_line hb, fun a na => ⟨a, vs, rfl, SqT.of upd_same, ?_, ?_⟩⟩
      · rw [rs.length, puts_len _ _ _ _ q, hl]
      · exact g B w1 σ (upd H1 a (.tup vs)) fr1 fr' h1 vs ds ps _ (r1.temp na) (rs.temp na) q fun σ' R' => p1 w1 σ' _ (Wd.le_refl _) R'
    · rw [if_neg hb] at p1
      exact p1.elim
/-- two, three names: stored from the right -/
theorem s_par2 (C : Cq X T W k) (i j : Nat) {x y : Str} {px py pt : Pos} {kt k2 : Nat} {pt2 : Pos} {ms : M (List D)} (se : SimEs X T W [a, b] ms) (hi : X.N[i]? = some x := by rfl) (hj : X.N[j]? = some y := by rfl) (hij : i ≠ j := by decide) (i0 : i ≠ 0 := by decide) (j0 : j ≠ 0 := by decide)
    (hx : X.env.scope.names.lookup x = some .local := by rfl) (hy : X.env.scope.names.lookup y = some .local := by rfl)
    (hw : swappedStores [.Tuple [.Name x px, .Name y py] kt pt] (.Tuple [a, b] k2 pt2) X.env = pure (some [x, y]) := by rfl)
    (hs : swapsWithSole [.Tuple [.Name x px, .Name y py] kt pt] (.Tuple [a, b] k2 pt2) pos.line X.env = pure false := by rfl) :
    SimS X T W (.Assign [.Tuple [.Name x px, .Name y py] kt pt] (.Tuple [a, b] k2 pt2) pos) (mPutE [i, j] ms) := fun B w σ H fr h D R p =>
  ps_ws (ps_par C.calm C.nd hi hj hij hx hy pa_max hw hs) (se B w σ H fr h _ R (PostS.bind (VR := vEs X.K T B σ) p fun ds fr1 h1 w1 H1 vs e1 l1 r1 ⟨ps, rs⟩ p1 => by
    have two : ∃ d e, ds = [d, e] := by
      cases ds with
      | nil => exact (show False from p1).elim
      | cons d ds =>
        cases ds with
        | nil => exact (show False from p1).elim
        | cons e ds =>
          cases ds with
          | nil => exact ⟨d, e, rfl⟩
          | cons _ _ => exact (show False from p1).elim
    obtain ⟨d, e, rfl⟩ := two
    have p2 : PostS X.K T B W w1 (.ok .nx ((fr1.set i (some d)).set j (some e)) h1) D := p1
    cases rs with
    | val r1' rr =>
      cases rr with
      | val r2' rr =>
        cases rr
        exact ⟨_, _, rfl, p2 w1 _ H1 (Wd.le_refl _) ((r1.put i i0 (.inl r1')).put j j0 (.inl r2'))⟩
      | own O lo eH r2' nq rr =>
        cases rr
        exact ⟨_, _, rfl, p2 w1 _ H1 (Wd.le_refl _) ((r1.put i i0 (.inl r1')).put j j0 (.inr ⟨_, _, rfl, O, loose_set lo fun od => (own_not od r1').elim, eH, r2'⟩))⟩
    | own O lo eH r1' nq rr =>
      cases rr with
      | val r2' rr =>
        cases rr
        exact ⟨_, _, rfl, p2 w1 _ H1 (Wd.le_refl _) ((r1.put i i0 (.inr ⟨_, _, rfl, O, lo, eH, r1'⟩)).put j j0 (.inl r2'))⟩
      | own O2 lo2 eH2 r2' nq2 rr =>
        cases rr
        exact ⟨_, _, rfl, p2 w1 _ H1 (Wd.le_refl _) ((r1.put i i0 (.inr ⟨_, _, rfl, O, lo, eH, r1'⟩)).put j j0 (.inr ⟨_, _, rfl, O2, loose_set lo2 fun od z => by
          cases z
          exact nq (by simp), eH2, r2'⟩))⟩))
end
end Pk

/-! Pk7: loops, comprehensions. -/
namespace Pk
open PySem PySem.Spec L2

def mFor (g : D → M Unit) (b : M Fl) : List D → M Fl
  | [] => M.ret .nx
  | d :: ds => fun fr h => match g d fr h with
    | .ok _ fr h => match b fr h with
      | .ok .nx fr h => mFor g b ds fr h
      | .ok .ct fr h => mFor g b ds fr h
      | .ok .brk fr h => .ok .nx fr h
      | .ok (.rt d) fr h => .ok (.rt d) fr h
      | .exc x fr h => .exc x fr h
      | .err => .err
    | _ => .err
def mForI (l : M (List D)) (g : D → M Unit) (b : M Fl) : M Fl := l.bind fun ds => mFor g b ds
def mWhile (t : M Bool) (b : M Fl) : Nat → M Fl
  | 0 => fun _ _ => .err
  | n + 1 => fun fr h => match t fr h with
    | .ok true fr h => match b fr h with
      | .ok .nx fr h => mWhile t b n fr h
      | .ok .ct fr h => mWhile t b n fr h
      | .ok .brk fr h => .ok .nx fr h
      | .ok (.rt d) fr h => .ok (.rt d) fr h
      | .exc x fr h => .exc x fr h
      | .err => .err
    | .ok false fr h => .ok .nx fr h
    | .exc x fr h => .exc x fr h
    | .err => .err
section
variable {X : Cx} {T : Tb} {W : WX} {k : Nat} {pos pos' : Pos} {tg iter c : Expr} {body : List Stmt} {li : M (List D)} {g : D → M Unit} {b : M Fl} {is : List Nat} {t : M Bool}
theorem s_for (C : Cq X T W k) (si : SimI X T W tg iter li) (sg : SimG X T is tg g) (sb : SimSs X T W body b) (hs : ∀ x, foldedSetIterable iter X.env x = pure x := by intro _; rfl) : SimS X T W (.For tg iter body [] pos) (mForI li g b) := fun B w σ H fr h D R p =>
  ps_ws (ps_for C.po C.calm pi_max pg_max pss_max hs) (si B w σ H fr h _ R (PostS.bind (VR := vJ X.K T B σ) p fun ds fr1 h1 w1 H1 J e1 l1 r1 vj p1 => by
    refine ⟨fun i m σ H => m = ds.length - i ∧ i ≤ ds.length ∧ ∃ w' fr' h', w1.le w' ∧ Rel X.K T B w' σ H fr' h' ∧ PostS X.K T B W w' (mFor g b (ds.drop i) fr' h') D, ⟨ds.length, by simp, Nat.zero_le _, w1, fr1, h1, Wd.le_refl _, r1, p1⟩, ?_⟩
    rintro i m σ2 H2 ⟨rfl, hi, w2, fr2, h2, l2, r2, p2⟩
    obtain ⟨js, jg⟩ := vj i w2 H2 l2 r2.sub
    by_cases hlt : i < ds.length
    · obtain ⟨go, y⟩ := jg ds[i] (List.getElem?_eq_getElem hlt)
      refine .inr ⟨go, fun σ' H' => ∃ w' fr' h', w1.le w' ∧ Rel X.K T B w' σ' H' fr' h' ∧ PostS X.K T B W w' (mFor g b (ds.drop (i + 1)) fr' h') D, fun σ' H' q => ⟨ds.length - (i + 1), by omega, rfl, hlt, q⟩, fun x H3 yx => ?_⟩
      obtain ⟨w3, l3, r3, rx⟩ := y x H3 yx B σ2 fr2 h2 r2
      have ed : ds.drop i = ds[i] :: ds.drop (i + 1) := List.drop_eq_getElem_cons hlt
      rw [ed] at p2
      refine sg B w3 σ2 H3 fr2 h2 x ds[i] _ r3 rx ?_
      unfold mFor at p2
      cases e2 : g ds[i] fr2 h2 with
      | ok u fr3 h3 =>
        rw [e2] at p2
        intro w4 σ4 H4 l4 r4 _
        refine sb B w4 σ4 H4 fr3 h3 _ r4 ?_
        have l34 : w1.le w4 := Wd.le_trans l2 (Wd.le_trans l3 l4)
        dsimp only at p2
        cases e3 : b fr3 h3 with
        | ok f fr4 h4 =>
          rw [e3] at p2
          cases f with
          | nx => exact fun w5 σ5 H5 l5 r5 => ⟨w5, fr4, h4, Wd.le_trans l34 l5, r5, p2.le (Wd.le_trans (Wd.le_trans l3 l4) l5)⟩
          | ct => exact fun w5 σ5 H5 l5 r5 => ⟨w5, fr4, h4, Wd.le_trans l34 l5, r5, p2.le (Wd.le_trans (Wd.le_trans l3 l4) l5)⟩
          | brk => exact fun w5 σ5 H5 l5 r5 => p2 w5 σ5 H5 (Wd.le_trans (Wd.le_trans l3 l4) l5) r5
          | rt d => exact fun w5 σ5 H5 v l5 r5 rv => p2 w5 σ5 H5 v (Wd.le_trans (Wd.le_trans l3 l4) l5) r5 rv
        | exc y fr4 h4 =>
          rw [e3] at p2
          exact fun w5 σ5 H5 cc dd l5 r5 z => p2 w5 σ5 H5 cc dd (Wd.le_trans (Wd.le_trans l3 l4) l5) r5 z
        | err => rw [e3] at p2; exact p2
      | exc y fr3 h3 => rw [e2] at p2; exact p2
      | err => rw [e2] at p2; exact p2
    · have e : i = ds.length := by omega
      subst e
      rw [List.drop_length] at p2
      exact .inl ⟨js (Nat.le_refl _), p2 w2 σ2 H2 (Wd.le_refl _) r2⟩))
theorem s_while (C : Cq X T W k) (n : Nat) (st : SimT X T W c t) (sb : SimSs X T W body b) : SimS X T W (.While c body [] pos) (mWhile t b n) := fun B w σ H fr h D R p =>
  ps_ws (ps_while C.po pt_max pss_max) ⟨fun m σ H => ∃ w' fr' h', w.le w' ∧ Rel X.K T B w' σ H fr' h' ∧ PostS X.K T B W w' (mWhile t b m fr' h') D, ⟨n, w, fr, h, Wd.le_refl _, R, p⟩, fun m σ2 H2 ⟨w2, fr2, h2, l2, r2, p2⟩ => by
    cases m with
    | zero => exact (show False from p2).elim
    | succ m =>
      unfold mWhile at p2
      refine st B w2 σ2 H2 fr2 h2 _ r2 ?_
      cases e2 : t fr2 h2 with
      | ok c fr3 h3 =>
        rw [e2] at p2
        intro w3 H3 v l3 r3 rv
        have rv' : v = c := rv
        subst rv'
        cases v with
        | false => exact p2 w3 σ2 H3 l3 r3
        | true =>
          rw [if_pos rfl]
          refine ⟨fun σ' H' => ∃ w' fr' h', w.le w' ∧ Rel X.K T B w' σ' H' fr' h' ∧ PostS X.K T B W w' (mWhile t b m fr' h') D, fun σ' H' q => ⟨m, Nat.lt_succ_self m, q⟩, ?_⟩
          refine sb B w3 σ2 H3 fr3 h3 _ r3 ?_
          dsimp only at p2
          cases e3 : b fr3 h3 with
          | ok f fr4 h4 =>
            rw [e3] at p2
            cases f with
            | nx => exact fun w5 σ5 H5 l5 r5 => ⟨w5, fr4, h4, Wd.le_trans l2 (Wd.le_trans l3 l5), r5, p2.le (Wd.le_trans l3 l5)⟩
            | ct => exact fun w5 σ5 H5 l5 r5 => ⟨w5, fr4, h4, Wd.le_trans l2 (Wd.le_trans l3 l5), r5, p2.le (Wd.le_trans l3 l5)⟩
            | brk => exact fun w5 σ5 H5 l5 r5 => p2 w5 σ5 H5 (Wd.le_trans l3 l5) r5
            | rt d => exact fun w5 σ5 H5 v l5 r5 rv => p2 w5 σ5 H5 v (Wd.le_trans l3 l5) r5 rv
          | exc y fr4 h4 =>
            rw [e3] at p2
            exact fun w5 σ5 H5 cc dd l5 r5 z => p2 w5 σ5 H5 cc dd (Wd.le_trans l3 l5) r5 z
          | err => rw [e3] at p2; exact p2
      | exc y fr3 h3 =>
        rw [e2] at p2
        exact fun w3 H3 cc dd l3 r3 z => p2 w3 σ2 H3 cc dd l3 r3 z
      | err => rw [e2] at p2; exact p2⟩
end

/-! ### comprehensions -/
def WF : WX := fun _ _ _ _ => False
def wipeF (fr : Fr) : List Nat → Fr
  | [] => fr
  | v :: vs => (wipeF fr vs).set v none
theorem wipeF_length (fr : Fr) : ∀ vs : List Nat, (wipeF fr vs).length = fr.length
  | [] => rfl
  | v :: vs => by unfold wipeF; rw [List.length_set, wipeF_length fr vs]
theorem wipeF_out {fr : Fr} {i : Nat} : ∀ {vs : List Nat}, i ∉ vs → (wipeF fr vs)[i]? = fr[i]?
  | [], _ => rfl
  | v :: vs, h => by
    unfold wipeF
    rw [List.mem_cons, not_or] at h
    rw [List.getElem?_set_ne (Ne.symm h.1), wipeF_out h.2]
theorem wipeF_in {fr : Fr} {i : Nat} {d : D} : ∀ {vs : List Nat}, i ∈ vs → (wipeF fr vs)[i]? ≠ some (some d)
  | [], h => by cases h
  | v :: vs, h => by
    unfold wipeF
    by_cases e : v = i
    · subst e
      by_cases l : v < (wipeF fr vs).length
      · rw [List.getElem?_set_self l]
        exact fun z => by cases z
      · rw [List.getElem?_eq_none (by rw [List.length_set]; omega)]
        exact fun z => by cases z
    · rw [List.getElem?_set_ne e]
      rcases List.mem_cons.mp h with z | z
      · exact absurd z.symm e
      · exact wipeF_in z
theorem wipe_out {σ : L2.St} {i : Nat} : ∀ {vs : List Nat}, i ∉ vs → (wipe σ vs)[i]? = σ[i]?
  | [], _ => rfl
  | v :: vs, h => by
    unfold wipe
    rw [List.mem_cons, not_or] at h
    rw [List.getElem?_set_ne (Ne.symm h.1), wipe_out h.2]
theorem wipe_in {σ : L2.St} {i : Nat} {v : V} {vs : List Nat} (h : i ∈ vs) : (wipe σ vs)[i]? ≠ some (some v) := fun z => (wipe_some z).2 h
section
variable {K : PySem.W.Frag} {T : Tb} {B : Bs} {w w' : Wd} {σ σ' : L2.St} {H H' : Hp} {fr fr' : Fr} {h : Hh}
/-- another frame of which the same is known -/
theorem Rel.refr (R : Rel K T B w σ H fr h) (fl : fr'.length = σ'.length) (hs : ∀ (i : Nat) (d : D), fr'[i]? = some (some d) → fr[i]? = some (some d) ∧ σ'[i]? = σ[i]?) : Rel K T B w σ' H fr' h :=
  { R with
    me := fun x d bx e od => by
      obtain ⟨h1, h2⟩ := hs 0 d e
      rw [h2]
      exact R.me x d bx h1 od
    fl := fl
    sl := fun i s d e1 e2 => by
      cases d with
      | none => exact .none
      | some d =>
        obtain ⟨h1, h2⟩ := hs i d e2
        rw [h2] at e1
        exact R.sl i s (some d) e1 h1
    sep := fun i j p hij ⟨a1, d1, a2, a3⟩ ⟨b1, d2, b2, b3⟩ => by
      obtain ⟨h1, h2⟩ := hs i d1 a2
      obtain ⟨h3, h4⟩ := hs j d2 b2
      rw [h2] at a1
      rw [h4] at b1
      exact R.sep i j p hij ⟨a1, d1, h1, a3⟩ ⟨b1, d2, h3, b3⟩ }
theorem Rel.wipe (R : Rel K T B w σ H fr h) (vs : List Nat) : Rel K T B w (wipe σ vs) H (wipeF fr vs) h := by
  refine R.refr (by rw [wipeF_length, wipe_length]; exact R.fl) fun i d e => ?_
  by_cases hi : i ∈ vs
  · exact absurd e (wipeF_in hi)
  · rw [wipeF_out hi] at e
    exact ⟨e, wipe_out hi⟩
end
/-- a turn: the item, where the tests hold -/
def mTurn (vs : List Nat) (g : D → M Unit) (t : M Bool) (e : M D) (d : D) : M (Option D) := fun fr h => match g d fr h with
  | .ok _ fr h => match t fr h with
    | .ok true fr h => match e fr h with
      | .ok y fr h => .ok (some y) (wipeF fr vs) h
      | _ => .err
    | .ok false fr h => .ok none (wipeF fr vs) h
    | _ => .err
  | _ => .err
def optL {α : Type} : Option α → List α → List α
  | some y, r => y :: r
  | none, r => r
def mLcs (vs : List Nat) (g : D → M Unit) (t : M Bool) (e : M D) : List D → M (List D)
  | [] => M.ret []
  | d :: ds => (mTurn vs g t e d).bind fun o => (mLcs vs g t e ds).bind fun r => M.ret (optL o r)
def mWipe (vs : List Nat) : M Unit := fun fr h => .ok () (wipeF fr vs) h
def mLc (vs : List Nat) (l : M (List D)) (g : D → M Unit) (t : M Bool) (e : M D) : M D := l.bind fun ds => (mWipe vs).bind fun _ => if ds.length ≤ big then (mLcs vs g t e ds).bind fun r => M.ret (.nl r) else M.opt none
section
variable {X : Cx} {T : Tb} {W : WX} {k : Nat} {pos pos' : Pos} {tg iter elt c : Expr} {ifs : List Expr} {li : M (List D)} {g : D → M Unit} {b : M Fl} {is : List Nat} {t : M Bool} {me : M D} {scope : Scope} {own : List (Str × Nat)}
theorem wipes_eq {σ σ2 : L2.St} {vs is : List Nat} (hl : σ2.length = σ.length) (hi : ∀ i ∈ is, i ∈ vs) (hk : ∀ (j : Nat), j ∉ is → σ2[j]? = (wipe σ vs)[j]?) : wipe σ2 vs = wipe σ vs := by
  refine List.ext_getElem? fun j => ?_
  by_cases hj : j ∈ vs
  · have key : ∀ τ : L2.St, τ.length = σ.length → (wipe τ vs)[j]? = if j < σ.length then some none else none := fun τ hτ => by
      by_cases hjl : j < σ.length
      · rw [if_pos hjl]
        have hjl' : j < (wipe τ vs).length := by rw [wipe_length, hτ]; exact hjl
        rw [List.getElem?_eq_getElem hjl']
        cases e : (wipe τ vs)[j] with
        | none => rfl
        | some v => exact absurd (by rw [List.getElem?_eq_getElem hjl', e]) (wipe_in (σ := τ) (v := v) hj)
      · rw [if_neg hjl]
        exact List.getElem?_eq_none (by rw [wipe_length, hτ]; omega)
    rw [key σ2 hl, key σ rfl]
  · rw [wipe_out hj, hk j fun z => hj (hi j z), wipe_out hj]
/-- the uniform readings of the block's parts -/
def GB (X : Cx) (scope : Scope) (tg : Expr) : TG := fun v σ H Q => ∀ (s : Shared) (H0 : Hp) (C : Addr) (cl : List (Str × Addr)) (fp : List Addr), WG (X.blk s H0 scope (compEnvC scope cl C X.env) fp) tg v σ H Q
def TB (X : Cx) (scope : Scope) (ifs : List Expr) : TT := fun σ H Q => ∀ (s : Shared) (H0 : Hp) (C : Addr) (cl : List (Str × Addr)) (fp : List Addr), WTs (X.blk s H0 scope (compEnvC scope cl C X.env) fp) ifs σ H Q
def EB (X : Cx) (scope : Scope) (e : Expr) : TE := fun σ H Q => ∀ (s : Shared) (H0 : Hp) (C : Addr) (cl : List (Str × Addr)) (fp : List Addr), WE (X.blk s H0 scope (compEnvC scope cl C X.env) fp) e σ H Q
theorem lc_sim {B : Bs} {w : Wd} {σ : L2.St} {H : Hp} {fr : Fr} {h : Hh} {Q : VK} (si : SimI X T W tg iter li) (hi : ∀ i ∈ is, i ∈ own.map (·.2))
    (sg : ∀ (s : Shared) (H0 : Hp) (C : Addr) (cl : List (Str × Addr)) (fp : List Addr), SimG (X.blk s H0 scope (compEnvC scope cl C X.env) fp) T is tg g)
    (st : ∀ (s : Shared) (H0 : Hp) (C : Addr) (cl : List (Str × Addr)) (fp : List Addr), Sim (WTs (X.blk s H0 scope (compEnvC scope cl C X.env) fp) ifs) X.K T WF vB t)
    (se : ∀ (s : Shared) (H0 : Hp) (C : Addr) (cl : List (Str × Addr)) (fp : List Addr), SimV (X.blk s H0 scope (compEnvC scope cl C X.env) fp) T WF elt me)
    (R : Rel X.K T B w σ H fr h) (p : Post X.K T B W (vE X.K T B σ) w σ (mLc (own.map (·.2)) li g t me fr h) Q) : tLc (WI X tg iter) (GB X scope tg) (TB X scope ifs) (EB X scope elt) (own.map (·.2)) σ H Q := by
  refine si B w σ H fr h _ R (Post.bind (VR := vJ X.K T B σ) p fun ds fr0 h0 w1 H1 J e1 l1 r0 vj p0 => ?_)
  generalize hvs : own.map (·.2) = vs at hi p0 ⊢
  intro A0 nD
  have p1 : Post X.K T B W (vE X.K T B σ) w1 σ ((if ds.length ≤ big then (mLcs vs g t me ds).bind fun r => M.ret (.nl r) else M.opt none) (wipeF fr0 vs) h0) Q := p0
  by_cases hb : ds.length ≤ big
  · rw [if_pos hb] at p1
    have rD := r0.temp (o := .lst []) nD
    have OD : Own B w1 A0 := r0.own_new nD
    refine ⟨fun i m H => m = ds.length - i ∧ i ≤ ds.length ∧ ∃ w' fr' h' acc vs', w1.le w' ∧ RelDs X.K T w' vs' acc ∧ acc.length ≤ i ∧ Rel X.K T (B.pr A0 (.lst vs')) w' (wipe σ vs) H fr' h' ∧ (∀ j ∈ vs, ∀ d, fr'[j]? ≠ some (some d)) ∧
      Post X.K T B W (vE X.K T B σ) w' σ (((mLcs vs g t me (ds.drop i)).bind fun r => M.ret (D.nl (acc ++ r))) fr' h') Q, ⟨ds.length, by simp, Nat.zero_le _, w1, wipeF fr0 vs, h0, [], [], Wd.le_refl _, .nil, Nat.zero_le _,
        (rD.wipe vs).protect OD (fun i ⟨z1, dd, z2, z3⟩ => r0.loose_new nD i (by
          by_cases hj : i ∈ vs
          · exact absurd z2 (wipeF_in hj)
          · rw [wipeF_out hj] at z2
            rw [wipe_out hj] at z1
            exact ⟨z1, dd, z2, z3⟩)) upd_same, fun j hj d => wipeF_in hj, p1⟩, ?_⟩
    rintro i m H2 ⟨rfl, hil, w2, fr2, h2, acc, us, l2, ra, la, r2, hw2, p2⟩
    have hP := OD.p
    obtain ⟨js, jg⟩ := vj i w2 H2 l2 r2.sub
    by_cases hlt : i < ds.length
    · obtain ⟨go, y⟩ := jg ds[i] (List.getElem?_eq_getElem hlt)
      have ed : ds.drop i = ds[i] :: ds.drop (i + 1) := List.drop_eq_getElem_cons hlt
      rw [ed] at p2
      refine .inr ⟨go, fun H' => ∃ w' fr' h' acc vs', w1.le w' ∧ RelDs X.K T w' vs' acc ∧ acc.length ≤ i + 1 ∧ Rel X.K T (B.pr A0 (.lst vs')) w' (wipe σ vs) H' fr' h' ∧ (∀ j ∈ vs, ∀ d, fr'[j]? ≠ some (some d)) ∧
        Post X.K T B W (vE X.K T B σ) w' σ (((mLcs vs g t me (ds.drop (i + 1))).bind fun r => M.ret (D.nl (acc ++ r))) fr' h') Q, fun H' q => ⟨ds.length - (i + 1), by omega, rfl, hlt, q⟩, fun x H3 yx => ?_⟩
      obtain ⟨w3, l3, r3, rx⟩ := y x H3 yx (B.pr A0 (.lst us)) (wipe σ vs) fr2 h2 r2
      -- what the turn must be
      have turn : ∃ o fr' h', mTurn vs g t me ds[i] fr2 h2 = .ok o fr' h' ∧ Post X.K T B W (vE X.K T B σ) w2 σ (((mLcs vs g t me (ds.drop (i + 1))).bind fun r => M.ret (D.nl (acc ++ optL o r))) fr' h') Q := by
        have p2' : Post X.K T B W (vE X.K T B σ) w2 σ (((mTurn vs g t me ds[i]).bind fun o => (mLcs vs g t me (ds.drop (i + 1))).bind fun r => M.ret (D.nl (acc ++ optL o r))) fr2 h2) Q := by
          have ee : ((mLcs vs g t me (ds[i] :: ds.drop (i + 1))).bind fun r => M.ret (D.nl (acc ++ r))) fr2 h2 = ((mTurn vs g t me ds[i]).bind fun o => (mLcs vs g t me (ds.drop (i + 1))).bind fun r => M.ret (D.nl (acc ++ optL o r))) fr2 h2 := by
            show M.bind (M.bind _ _) _ fr2 h2 = _
            unfold M.bind
            cases mTurn vs g t me ds[i] fr2 h2 with
            | ok o fr' h' => dsimp only; cases mLcs vs g t me (ds.drop (i + 1)) fr' h' <;> rfl
            | exc _ _ _ => rfl
            | err => rfl
          rw [← ee]
          exact p2
        cases q : mTurn vs g t me ds[i] fr2 h2 with
        | ok o fr' h' =>
          rw [M.bind_ok q] at p2'
          exact ⟨o, fr', h', rfl, p2'⟩
        | exc y fr' h' =>
          exfalso
          unfold mTurn at q
          split at q
          · split at q
            · split at q <;> cases q
            · cases q
            · cases q
          · cases q
        | err =>
          rw [M.bind_err q] at p2'
          exact p2'.elim
      obtain ⟨o, fro, ho, qt, p3⟩ := turn
      have upw : ∀ {u2 : L2.St} {w' : Wd} {H' : Hp} {fr' : Fr} {h' : Hh} {B' : Bs}, wipe u2 vs = wipe σ vs → Rel X.K T B' w' u2 H' fr' h' → Rel X.K T B' w' (wipe σ vs) H' (wipeF fr' vs) h' := fun {u2 w' H' fr' h' B'} e R' => by
        rw [← e]
        exact R'.wipe vs
      intro s0 H0 C cl fp
      refine sg s0 H0 C cl fp (B.pr A0 (.lst us)) w3 (wipe σ vs) H3 fr2 h2 x ds[i] _ r3 rx ?_
      unfold mTurn at qt
      cases q1 : g ds[i] fr2 h2 with
      | exc _ _ _ => rw [q1] at qt; cases qt
      | err => rw [q1] at qt; cases qt
      | ok _ fr3 h3 =>
        rw [q1] at qt
        dsimp only at qt
        intro w4 σ4 H4 l4 r4 k4
        have ew : wipe σ4 vs = wipe σ vs := wipes_eq (k4.1.trans (wipe_length σ vs)) hi k4.2
        refine ⟨ew, fun s0 H0 C cl fp => st s0 H0 C cl fp (B.pr A0 (.lst us)) w4 σ4 H4 fr3 h3 _ r4 ?_⟩
        cases q2 : t fr3 h3 with
        | exc _ _ _ => rw [q2] at qt; cases qt
        | err => rw [q2] at qt; cases qt
        | ok b fr4 h4 =>
          rw [q2] at qt
          intro w5 H5 v l5 r5 rv
          have rv' : v = b := rv
          subst rv'
          cases v with
          | false =>
            dsimp only at qt
            cases qt
            simp only [Bool.false_eq_true, if_false]
            exact ⟨w5, _, _, acc, us, Wd.le_trans l2 (Wd.le_trans l3 (Wd.le_trans l4 l5)), ra.mono (Wd.le_trans l3 (Wd.le_trans l4 l5)), Nat.le_succ_of_le la, upw ew r5, fun j hj d => wipeF_in hj, p3.le (Wd.le_trans l3 (Wd.le_trans l4 l5))⟩
          | true =>
            dsimp only at qt
            simp only [if_true]
            intro s0 H0 C cl fp
            refine se s0 H0 C cl fp (B.pr A0 (.lst us)) w5 σ4 H5 fr4 h4 _ r5 ?_
            cases q3 : me fr4 h4 with
            | exc _ _ _ => rw [q3] at qt; cases qt
            | err => rw [q3] at qt; cases qt
            | ok yd fr5 h5 =>
              rw [q3] at qt
              cases qt
              intro w6 H6 yv l6 r6 ry
              have hD6 : H6 A0 = some (.lst us) := (r6.prot (A0, .lst us) (List.mem_cons_self)).1
              have lall : w2.le w6 := Wd.le_trans l3 (Wd.le_trans l4 (Wd.le_trans l5 l6))
              refine ⟨us, hD6, ?_, w6, _, _, acc ++ [yd], us ++ [yv], Wd.le_trans l2 lall, (ra.mono lall).append (.cons ry .nil), ?_, (upw ew r6).repr OD.e OD.p, fun j hj d => wipeF_in hj, ?_⟩
              · rw [ra.length]
                have : big < sizeLine := by decide
                omega
              · rw [List.length_append]
                show acc.length + 1 ≤ i + 1
                omega
              · have e9 : ∀ r : List _, acc ++ optL (some yd) r = acc ++ [yd] ++ r := fun r => by
                  show acc ++ yd :: r = _
                  rw [List.append_assoc]
                  rfl
                simp only [e9] at p3
                exact p3.le lall
    · have e : i = ds.length := by omega
      subst e
      rw [List.drop_length] at p2
      obtain ⟨r3, O3, lo3, eD⟩ := r2.unprotect OD.e OD.p
      refine .inl ⟨js (Nat.le_refl _), ?_⟩
      have p3 : Post X.K T B W (vE X.K T B σ) w2 σ (.ok (D.nl (acc ++ [])) fr2 h2) Q := p2
      rw [List.append_nil] at p3
      have r4 : Rel X.K T B w2 σ H2 fr2 h2 := r3.refr (by rw [← wipe_length σ vs]; exact r3.fl) fun j d ej => ⟨ej, by
        by_cases hj : j ∈ vs
        · exact absurd ej (hw2 j hj d)
        · exact (wipe_out hj).symm⟩
      refine p3 w2 H2 (.ref A0) (Wd.le_refl _) r4 (.inr ⟨A0, _, rfl, O3, fun j ⟨z1, dd, z2, z3⟩ => lo3 j ⟨?_, dd, z2, z3⟩, eD, .lst ra⟩)
      by_cases hj : j ∈ vs
      · exact absurd z2 (hw2 j hj dd)
      · rw [wipe_out hj]
        exact z1
  · rw [if_neg hb] at p1
    exact p1.elim
theorem se_lc (C : Cq X T W k) (own : List (Str × Nat)) (si : SimI X T W tg iter li) (hi : ∀ i ∈ is, i ∈ own.map (·.2))
    (sg : ∀ (s : Shared) (H0 : Hp) (C : Addr) (cl : List (Str × Addr)) (fp : List Addr), SimG (X.blk s H0 scope (compEnvC scope cl C X.env) fp) T is tg g)
    (st : ∀ (s : Shared) (H0 : Hp) (C : Addr) (cl : List (Str × Addr)) (fp : List Addr), Sim (WTs (X.blk s H0 scope (compEnvC scope cl C X.env) fp) ifs) X.K T WF vB t)
    (se : ∀ (s : Shared) (H0 : Hp) (C : Addr) (cl : List (Str × Addr)) (fp : List Addr), SimV (X.blk s H0 scope (compEnvC scope cl C X.env) fp) T WF elt me)
    (ok : BlkOk X.N X.env.scope scope own) (hs : ∀ x, foldedSetIterable iter X.env x = pure x := by intro _; rfl) : SimE X T W (.ListComp elt [⟨tg, iter, ifs, 0⟩] scope pos) (mLc (own.map (·.2)) li g t me) := fun B w σ H fr h Q R p =>
  pe_we (pe_lc C.calm C.nd pi_max ok (fun s H C cl fp => ⟨fun pins s' σ H v u Q I r hh => hh s _ C cl fp pins s' u I r⟩) (fun s H C cl fp => ⟨fun pins s' σ H Q I hh => hh s _ C cl fp pins s' I⟩) (fun s H C cl fp => ⟨fun pins s' σ H Q I hh => (hh s _ C cl fp).go pins s' I⟩) hs) (lc_sim si hi sg st se R p)
/-- name = [..] on one line -/
theorem s_putLc (C : Cq X T W k) (j : Nat) {y : Str} {py spos : Pos} (own : List (Str × Nat)) (si : SimI X T W tg iter li) (hi : ∀ i ∈ is, i ∈ own.map (·.2))
    (sg : ∀ (s : Shared) (H0 : Hp) (C : Addr) (cl : List (Str × Addr)) (fp : List Addr), SimG (X.blk s H0 scope (compEnvC scope cl C X.env) fp) T is tg g)
    (st : ∀ (s : Shared) (H0 : Hp) (C : Addr) (cl : List (Str × Addr)) (fp : List Addr), Sim (WTs (X.blk s H0 scope (compEnvC scope cl C X.env) fp) ifs) X.K T WF vB t)
    (se : ∀ (s : Shared) (H0 : Hp) (C : Addr) (cl : List (Str × Addr)) (fp : List Addr), SimV (X.blk s H0 scope (compEnvC scope cl C X.env) fp) T WF elt me)
    (ok : BlkOk X.N X.env.scope scope own) (hsw : swapsWith (.ListComp elt [⟨tg, iter, ifs, 0⟩] scope pos) (some (.Name y py)) spos.line X.env = pure true) (hy : X.N[j]? = some y := by rfl) (j0 : j ≠ 0 := by decide) (hyl : X.env.scope.names.lookup y = some .local := by rfl)
    (hs : ∀ x, foldedSetIterable iter X.env x = pure x := by intro _; rfl) : SimS X T W (.Assign [.Name y py] (.ListComp elt [⟨tg, iter, ifs, 0⟩] scope pos) spos) (mPut j (mLc (own.map (·.2)) li g t me)) := fun B w σ H fr h D R p =>
  ps_ws (ps_setLc C.calm C.nd hy hyl hsw pi_max ok (fun s H C cl fp => ⟨fun pins s' σ H v u Q I r hh => hh s _ C cl fp pins s' u I r⟩) (fun s H C cl fp => ⟨fun pins s' σ H Q I hh => hh s _ C cl fp pins s' I⟩) (fun s H C cl fp => ⟨fun pins s' σ H Q I hh => (hh s _ C cl fp).go pins s' I⟩) hs)
    (lc_sim si hi sg st se R (PostS.bind (VR := vE X.K T B σ) p fun d fr1 h1 w1 H1 v e1 l1 r1 rx p1 => p1 w1 _ H1 (Wd.le_refl _) (r1.put j j0 rx)))
theorem sts_nil : Sim (WTs X []) X.K T W vB (M.ret true) := fun B w σ H fr h Q R p => pts_wts pts_nil (p w H true (Wd.le_refl _) R rfl)
theorem sts_one (s : SimT X T W c t) : Sim (WTs X [c]) X.K T W vB t := fun B w σ H fr h Q R p => pts_wts (pts_one pt_max) (s B w σ H fr h Q R p)
theorem Cq.blk (C : Cq X T W k) {s : Shared} {H0 : Hp} {A0 : Addr} {cl : List (Str × Addr)} {fp : List Addr} : Cq (X.blk s H0 scope (compEnvC scope cl A0 X.env) fp) T WF k :=
  ⟨C.calm, C.nd, C.room, fun u s' ⟨_, _, _, _, _, _, _, _, _, _, _, _, _, _, _, _, w⟩ => w.elim, fun _ _ z => z.elim⟩
end

/-! ### lists that change -/
def mutSlot (i : Nat) (f : List D → Option (List D)) : M Unit := fun fr h => match fr[i]? with
  | some (some (.nl l)) => match f l with
    | some l' => .ok () (fr.set i (some (.nl l'))) h
    | none => .err
  | some (some (.ref n)) => match h[n]? with
    | some (.nl l) => match f l with
      | some l' => .ok () fr (h.set n (.nl l'))
      | none => .err
    | _ => .err
  | _ => .err
/-- a cell's list -/
def mutRef (d : D) (f : List D → Option (List D)) : M Unit := fun fr h => match d with
  | .ref n => match h[n]? with
    | some (.nl l) => match f l with
      | some l' => .ok () fr (h.set n (.nl l'))
      | none => .err
    | _ => .err
  | _ => .err
def keepF (l : List D) : Option (List D) := some l
def appF (d : D) (l : List D) : Option (List D) := if l.length < big then some (l ++ [d]) else none
def setF (j : D) (d : D) (l : List D) : Option (List D) := match j with
  | .int j => (ixN l.length j).map fun n => l.set n d
  | _ => none
def clrF (_ : List D) : Option (List D) := some []
/-- what a change of an object asks -/
def MutOk (K : PySem.W.Frag) (T : Tb) (B : Bs) (w : Wd) (σ : L2.St) (H : Hp) (v : V) (f : List D → Option (List D)) (fr' : Fr) (h' : Hh) : Prop :=
  ∃ p vs l l', v = .ref p ∧ H p = some (.lst vs) ∧ RelDs K T w vs l ∧ f l = some l' ∧ ∀ vs', RelDs K T w vs' l' → Rel K T B w σ (upd H p (.lst vs')) fr' h'
section
variable {K : PySem.W.Frag} {T : Tb} {B : Bs} {w : Wd} {σ : L2.St} {H : Hp} {fr : Fr} {h : Hh}
theorem mut_cell (R : Rel K T B w σ H fr h) {n : Nat} {v : V} (rv : RelD K T w v (.ref n)) {f : List D → Option (List D)} {l l' : List D} (e : h[n]? = some (.nl l)) (ef : f l = some l') : MutOk K T B w σ H v f fr (h.set n (.nl l')) := by
  cases rv with
  | @ref a n s =>
    obtain ⟨o, q, rr⟩ := R.cel n a _ s e
    cases rr with
    | lst r => exact ⟨a, _, l, l', rfl, q, r, ef, fun vs' rs => R.change_cell s e (.lst rs)⟩
theorem mut_ref {α β : Type} {VR : Wd → Hp → Fr → β → α → Prop} {W : WX} {d : D} {v : V} {f : List D → Option (List D)} {m : M α} {Q : β → Hp → Prop} (R : Rel K T B w σ H fr h) (rv : RelD K T w v d) (p : Post K T B W VR w σ ((mutRef d f).bind (fun _ => m) fr h) Q) :
    ∃ fr' h', MutOk K T B w σ H v f fr' h' ∧ Post K T B W VR w σ (m fr' h') Q := by
  cases q : mutRef d f fr h with
  | ok u fr' h' =>
    rw [M.bind_ok q] at p
    refine ⟨fr', h', ?_, p⟩
    unfold mutRef at q
    split at q
    · split at q
      · split at q
        · cases q
          exact mut_cell R rv (by assumption) (by assumption)
        · cases q
      · cases q
    · cases q
  | exc y fr' h' =>
    exfalso
    unfold mutRef at q
    split at q
    · split at q
      · split at q <;> cases q
      · cases q
    · cases q
  | err =>
    rw [M.bind_err q] at p
    exact p.elim
theorem mut_slot {α β : Type} {VR : Wd → Hp → Fr → β → α → Prop} {W : WX} {i : Nat} {v : V} {f : List D → Option (List D)} {m : M α} {Q : β → Hp → Prop} (R : Rel K T B w σ H fr h) (ev : σ[i]? = some (some v)) (p : Post K T B W VR w σ ((mutSlot i f).bind (fun _ => m) fr h) Q) :
    ∃ fr' h', MutOk K T B w σ H v f fr' h' ∧ Post K T B W VR w σ (m fr' h') Q := by
  cases q : mutSlot i f fr h with
  | ok u fr' h' =>
    rw [M.bind_ok q] at p
    refine ⟨fr', h', ?_, p⟩
    unfold mutSlot at q
    split at q
    · rename_i l e1
      split at q
      · rename_i l' ef
        cases q
        obtain ⟨v', e2, z⟩ := slot_some R e1
        rw [ev] at e2
        cases e2
        cases z with
        | val r => cases r
        | own O eH r =>
          cases r with
          | lst r => exact ⟨_, _, l, l', rfl, eH, r, ef, fun vs' rs => R.change_slot ev e1 O eH rfl (.lst rs)⟩
      · cases q
    · rename_i n e1
      split at q
      · split at q
        · cases q
          obtain ⟨v', e2, z⟩ := slot_some R e1
          rw [ev] at e2
          cases e2
          cases z with
          | val r => exact mut_cell R r (by assumption) (by assumption)
          | own O eH r => cases r
        · cases q
      · cases q
    · cases q
  | exc y fr' h' =>
    exfalso
    unfold mutSlot at q
    split at q
    · split at q <;> cases q
    · split at q
      · split at q <;> cases q
      · cases q
    · cases q
  | err =>
    rw [M.bind_err q] at p
    exact p.elim
end
/-- x.append(e), x.clear() -/
def mAppS (i : Nat) (m : M D) : M D := (mutSlot i keepF).bind fun _ => m.bind fun d => (mutSlot i (appF d)).bind fun _ => M.ret .non
def mClrS (i : Nat) : M D := (mutSlot i clrF).bind fun _ => M.ret .non
def mAppR (mo m : M D) : M D := mo.bind fun o => (mutRef o keepF).bind fun _ => m.bind fun d => (mutRef o (appF d)).bind fun _ => M.ret .non
def mClrR (mo : M D) : M D := mo.bind fun o => (mutRef o clrF).bind fun _ => M.ret .non
section
variable {X : Cx} {T : Tb} {W : WX} {k : Nat} {apos cpos px : Pos} {e o : Expr} {m mo : M D}
theorem ty_mut {K : PySem.W.Frag} {B : Bs} {w : Wd} {σ : L2.St} {H : Hp} {v : V} {f : List D → Option (List D)} {fr' : Fr} {h' : Hh} (z : MutOk K T B w σ H v f fr' h') : tyV K "list" v H := by
  obtain ⟨p, vs, l, l', rfl, e, _⟩ := z
  exact .inl ⟨rfl, vs, SqL.of e⟩
theorem keep_mut {K : PySem.W.Frag} {B : Bs} {w : Wd} {σ : L2.St} {H : Hp} {v : V} {fr' : Fr} {h' : Hh} (z : MutOk K T B w σ H v keepF fr' h') : Rel K T B w σ H fr' h' := by
  obtain ⟨p, vs, l, l', rfl, e, r, ef, k⟩ := z
  have e1 : l = l' := Option.some.inj ef
  subst e1
  have z := k vs r
  have : upd H p (.lst vs) = H := by
    funext a
    unfold upd
    split
    · rename_i h
      rw [h, e]
    · rfl
  rw [this] at z
  exact z
theorem app_ok' {K : PySem.W.Frag} {B : Bs} {w : Wd} {σ : L2.St} {H : Hp} {v y : V} {d : D} {fr' : Fr} {h' : Hh} {Q : VK} (z : MutOk K T B w σ H v (appF d) fr' h') (ry : RelD K T w y d) (q : ∀ H', Rel K T B w σ H' fr' h' → Q .non H') : rAppend v [y] H Q := by
  obtain ⟨p, vs, l, l', rfl, e, r, ef, k⟩ := z
  unfold appF at ef
  by_cases hl : l.length < big
  · rw [if_pos hl] at ef
    cases ef
    exact ⟨p, vs, y, rfl, rfl, e, by rw [r.length]; exact Nat.lt_of_lt_of_le hl (by decide), q _ (k _ (r.append (.cons ry .nil)))⟩
  · rw [if_neg hl] at ef
    cases ef
theorem sv_appS (i : Nat) {x : Str} (s : SimV X T W e m) (hN : X.N[i]? = some x := by rfl) (hv : Vis X.env.scope x := by first | exact Or.inl rfl | exact Or.inr (Or.inl rfl) | exact Or.inr (Or.inr rfl)) (hd : (x == ("__debug__" : Str)) = false := by decide)
    (hcd : (x == ("__classdict__" : Str)) = false := by decide)
    (hbase : attributeBase (.Name x px) "append" X.env (eval (.Name x px) X.env) = eval (.Name x px) X.env := by rfl)
    (hfew : ((backTo cpos (starEach (e :: []) X.env)).all (fun x => !x.1) && (backToKw cpos (keywordEach [] X.env)).all (fun x => x.1.isSome)
      && decide ((e :: []).length + ([] : List Keyword).length + (if ([] : List Keyword).isEmpty then 0 else 1) < 30)) = true := by rfl)
    (hline : (apos.endLine == cpos.line) = true := by rfl) (hs : starEach (e :: []) X.env = (false, eval e X.env) :: starEach [] X.env := by exact star_no rfl) (hplain : (backTo cpos (starEach [] X.env)).any (·.1) = false := by rfl) :
    SimV X T W (.Call (.Attribute (.Name x px) "append" apos) [e] [] cpos) (mAppS i m) := fun B w σ H fr h Q R p => by
  have hh : ∃ v, σ[i]? = some (some v) := by
    cases e1 : fr[i]? with
    | none =>
      have q : mutSlot i keepF fr h = .err := by unfold mutSlot; rw [e1]
      have p' : Post X.K T B W (vV X.K T B σ) w σ ((mutSlot i keepF).bind _ fr h) Q := p
      rw [M.bind_err q] at p'
      exact p'.elim
    | some o =>
      cases o with
      | none =>
        have q : mutSlot i keepF fr h = .err := by unfold mutSlot; rw [e1]
        have p' : Post X.K T B W (vV X.K T B σ) w σ ((mutSlot i keepF).bind _ fr h) Q := p
        rw [M.bind_err q] at p'
        exact p'.elim
      | some d =>
        obtain ⟨v, e2, _⟩ := slot_some R e1
        exact ⟨v, e2⟩
  obtain ⟨v, ev⟩ := hh
  obtain ⟨fr1, h1, z1, p1⟩ := mut_slot (VR := vV X.K T B σ) R ev p
  have R1 := keep_mut z1
  refine pe_we (pe_bm PySem.F.plainAttrs_list PySem.F.slot_list_append PySem.F.type_list_append mt_append (pe_var hN hv hd hcd) (pa_cons pe_max pa_nil hs) hbase hfew hline hs hplain) ⟨v, ev, ty_mut z1, s B w σ H fr1 h1 _ R1 (Post.bind (VR := vV X.K T B σ) p1 fun d fr2 h2 w2 H2 y e2 l2 r2 ry p2 => ?_)⟩
  obtain ⟨fr3, h3, z3, p3⟩ := mut_slot (VR := vV X.K T B σ) r2 ev p2
  exact app_ok' z3 ry fun H' R' => p3 w2 H' .non (Wd.le_refl _) R' .non
theorem sv_appR (so : SimV X T W o mo) (s : SimV X T W e m)
    (hbase : attributeBase o "append" X.env (eval o X.env) = eval o X.env := by rfl)
    (hfew : ((backTo cpos (starEach (e :: []) X.env)).all (fun x => !x.1) && (backToKw cpos (keywordEach [] X.env)).all (fun x => x.1.isSome)
      && decide ((e :: []).length + ([] : List Keyword).length + (if ([] : List Keyword).isEmpty then 0 else 1) < 30)) = true := by rfl)
    (hline : (apos.endLine == cpos.line) = true := by rfl) (hs : starEach (e :: []) X.env = (false, eval e X.env) :: starEach [] X.env := by exact star_no rfl) (hplain : (backTo cpos (starEach [] X.env)).any (·.1) = false := by rfl) :
    SimV X T W (.Call (.Attribute o "append" apos) [e] [] cpos) (mAppR mo m) := fun B w σ H fr h Q R p => by
  refine pe_we (pe_bm PySem.F.plainAttrs_list PySem.F.slot_list_append PySem.F.type_list_append mt_append pe_max (pa_cons pe_max pa_nil hs) hbase hfew hline hs hplain) (so B w σ H fr h _ R (Post.bind (VR := vV X.K T B σ) p fun od fr0 h0 w0 H0 ov e0 l0 r0 ro p0 => ?_))
  obtain ⟨fr1, h1, z1, p1⟩ := mut_ref (VR := vV X.K T B σ) r0 ro p0
  have R1 := keep_mut z1
  refine ⟨ty_mut z1, s B w0 σ H0 fr1 h1 _ R1 (Post.bind (VR := vV X.K T B σ) p1 fun d fr2 h2 w2 H2 y e2 l2 r2 ry p2 => ?_)⟩
  obtain ⟨fr3, h3, z3, p3⟩ := mut_ref (VR := vV X.K T B σ) r2 (ro.mono l2) p2
  exact app_ok' z3 ry fun H' R' => p3 w2 H' .non (Wd.le_refl _) R' .non
theorem sv_clrR (so : SimV X T W o mo) (hbase : attributeBase o "clear" X.env (eval o X.env) = eval o X.env := by rfl) (hline : (apos.endLine == cpos.line) = true := by rfl) :
    SimV X T W (.Call (.Attribute o "clear" apos) [] [] cpos) (mClrR mo) := fun B w σ H fr h Q R p => by
  refine pe_we (pe_bm0 PySem.F.plainAttrs_list PySem.F.slot_list_clear PySem.F.type_list_clear mt_clear pe_max hbase hline) (so B w σ H fr h _ R (Post.bind (VR := vV X.K T B σ) p fun od fr0 h0 w0 H0 ov e0 l0 r0 ro p0 => ?_))
  obtain ⟨fr1, h1, z1, p1⟩ := mut_ref (VR := vV X.K T B σ) r0 ro p0
  have ty := ty_mut z1
  obtain ⟨p', vs, l, l', rfl, eH, r, ef, kk⟩ := z1
  cases ef
  exact ⟨ty, p', vs, rfl, rfl, eH, p1 w0 _ .non (Wd.le_refl _) (kk [] .nil) .non⟩
/-- x[i] = e; o[i] = e, o a cell -/
def mSetS (i : Nat) (m mi : M D) : M Fl := m.bind fun d => (mHas i).bind fun _ => mi.bind fun j => (mutSlot i (setF j d)).bind fun _ => M.ret .nx
def mSetR (mo m mi : M D) : M Fl := m.bind fun d => mo.bind fun o => mi.bind fun j => (mutRef o (setF j d)).bind fun _ => M.ret .nx
end
end Pk

/-! Pk8: stores, fields, isinstance, names of the module. -/
namespace Pk
open PySem PySem.Spec L2

section
variable {K : PySem.W.Frag} {T : Tb} {B : Bs} {w : Wd} {σ : L2.St} {H : Hp} {fr : Fr} {h : Hh}
theorem mut_ref0 {d : D} {v : V} {f : List D → Option (List D)} (R : Rel K T B w σ H fr h) (rv : RelD K T w v d) : mutRef d f fr h = .err ∨ ∃ fr' h', mutRef d f fr h = .ok () fr' h' ∧ MutOk K T B w σ H v f fr' h' := by
  cases q : mutRef d f fr h with
  | ok u fr' h' =>
    have p : Post K T B WF (fun _ _ _ (_ : Unit) (_ : Unit) => True) w σ ((mutRef d f).bind (fun _ => M.ret ()) fr h) (fun _ _ => True) := by
      rw [M.bind_ok q]
      exact fun _ _ _ _ _ _ => trivial
    obtain ⟨fr2, h2, z, _⟩ := mut_ref R rv p
    right
    refine ⟨fr', h', rfl, ?_⟩
    unfold mutRef at q
    split at q
    · split at q
      · split at q
        · cases q
          exact mut_cell R rv (by assumption) (by assumption)
        · cases q
      · cases q
    · cases q
  | exc y fr' h' =>
    exfalso
    unfold mutRef at q
    split at q
    · split at q
      · split at q <;> cases q
      · cases q
    · cases q
  | err => exact .inl rfl
theorem mut_slot0 {i : Nat} {v : V} {f : List D → Option (List D)} (R : Rel K T B w σ H fr h) (ev : σ[i]? = some (some v)) : mutSlot i f fr h = .err ∨ ∃ fr' h', mutSlot i f fr h = .ok () fr' h' ∧ MutOk K T B w σ H v f fr' h' := by
  cases q : mutSlot i f fr h with
  | ok u fr' h' =>
    right
    refine ⟨fr', h', rfl, ?_⟩
    unfold mutSlot at q
    split at q
    · rename_i l e1
      split at q
      · rename_i l' ef
        cases q
        obtain ⟨v', e2, z⟩ := slot_some R e1
        rw [ev] at e2
        cases e2
        cases z with
        | val r => cases r
        | own O eH r =>
          cases r with
          | lst r => exact ⟨_, _, l, l', rfl, eH, r, ef, fun vs' rs => R.change_slot ev e1 O eH rfl (.lst rs)⟩
      · cases q
    · rename_i n e1
      split at q
      · split at q
        · cases q
          obtain ⟨v', e2, z⟩ := slot_some R e1
          rw [ev] at e2
          cases e2
          cases z with
          | val r => exact mut_cell R r (by assumption) (by assumption)
          | own O eH r => cases r
        · cases q
      · cases q
    · cases q
  | exc y fr' h' =>
    exfalso
    unfold mutSlot at q
    split at q
    · split at q <;> cases q
    · split at q
      · split at q <;> cases q
      · cases q
    · cases q
  | err => exact .inl rfl
end
section
variable {X : Cx} {T : Tb} {W : WX} {k : Nat} {pos px tpos : Pos} {e o j : Expr} {m mo mj : M D}
theorem set_ok {K : PySem.W.Frag} {B : Bs} {w : Wd} {σ : L2.St} {H : Hp} {v y u : V} {d jd : D} {fr' : Fr} {h' : Hh} {Q : Hp → Prop} (z : MutOk K T B w σ H v (setF jd d) fr' h') (ry : RelD K T w y d) (rj : RelD K T w u jd) (q : ∀ H', Rel K T B w σ H' fr' h' → Q H') : rSetL v u y H Q := by
  obtain ⟨p, vs, l, l', rfl, e, r, ef, k⟩ := z
  unfold setF at ef
  split at ef
  · rename_i i
    obtain ⟨n, en, rfl⟩ := Option.map_eq_some_iff.mp ef
    rw [rel_int rj]
    exact ⟨p, vs, i, n, rfl, rfl, e, by rw [r.length]; exact en, q _ (k _ (r.set n ry))⟩
  · cases ef
/-- x[j] = e -/
theorem s_setS (i : Nat) {x : Str} (s : SimV X T W e m) (sj : SimV X T W j mj) (hN : X.N[i]? = some x := by rfl) (hv : Vis X.env.scope x := by first | exact Or.inl rfl | exact Or.inr (Or.inl rfl) | exact Or.inr (Or.inr rfl)) (hd : (x == ("__debug__" : Str)) = false := by decide)
    (hcd : (x == ("__classdict__" : Str)) = false := by decide)
    (ha : ∀ v, assign (.Subscript (.Name x px) j tpos) X.env v = (do
      let ov ← holding [v] (eval (.Name x px) X.env)
      let iv ← holding [v, ov] (eval j X.env)
      standAt tpos
      holding [v, ov, iv] (setItem ov iv v)
      release [v, ov, iv] []) := by intro _; rfl)
    (hs : swapsWithSole [.Subscript (.Name x px) j tpos] e pos.line X.env = pure false := by rfl) (hw : swappedStores [.Subscript (.Name x px) j tpos] e X.env = pure none := by rfl)
    (h1 : (assignEach [.Subscript (.Name x px) j tpos] X.env).map (·.2) = [assign (.Subscript (.Name x px) j tpos) X.env] := by rfl) : SimS X T W (.Assign [.Subscript (.Name x px) j tpos] e pos) (mSetS i m mj) := fun B w σ H fr h D R p =>
  ps_ws (ps_asg pe_max (pg_sub (pe_var hN hv hd hcd) pe_max set_list ha) hs hw h1) (s B w σ H fr h _ R (PostS.bind (VR := vV X.K T B σ) p fun d fr1 h1 w1 H1 v e1 l1 r1 rx p1 => by
    have p1' : PostS X.K T B W w1 ((mHas i).bind (fun _ => mj.bind fun j => (mutSlot i (setF j d)).bind fun _ => M.ret .nx) fr1 h1) D := p1
    cases es : fr1[i]? with
    | none =>
      have q : mHas i fr1 h1 = .err := by unfold mHas; rw [es]
      rw [M.bind_err q] at p1'
      exact p1'.elim
    | some os =>
      cases os with
      | none =>
        have q : mHas i fr1 h1 = .err := by unfold mHas; rw [es]
        rw [M.bind_err q] at p1'
        exact p1'.elim
      | some ds =>
        have q : mHas i fr1 h1 = .ok () fr1 h1 := by unfold mHas; rw [es]
        rw [M.bind_ok q] at p1'
        obtain ⟨ov, ev, _⟩ := slot_some r1 es
        refine ⟨ov, ev, sj B w1 σ H1 fr1 h1 _ r1 (PostS.bind (VR := vV X.K T B σ) p1' fun jd fr2 h2 w2 H2 jv e2 l2 r2 rj p2 => ?_)⟩
        have p2' : PostS X.K T B W w2 ((mutSlot i (setF jd d)).bind (fun _ => M.ret .nx) fr2 h2) D := p2
        rcases mut_slot0 (f := setF jd d) r2 ev with q | ⟨fr3, h3, q, z⟩
        · rw [M.bind_err q] at p2'
          exact p2'.elim
        · rw [M.bind_ok q] at p2'
          exact set_ok z (rx.mono l2) rj fun H' R' => p2' w2 σ H' (Wd.le_refl _) R'))
/-- o[j] = e -/
theorem s_setR (so : SimV X T W o mo) (s : SimV X T W e m) (sj : SimV X T W j mj)
    (ha : ∀ v, assign (.Subscript o j tpos) X.env v = (do
      let ov ← holding [v] (eval o X.env)
      let iv ← holding [v, ov] (eval j X.env)
      standAt tpos
      holding [v, ov, iv] (setItem ov iv v)
      release [v, ov, iv] []) := by intro _; rfl)
    (hs : swapsWithSole [.Subscript o j tpos] e pos.line X.env = pure false := by rfl) (hw : swappedStores [.Subscript o j tpos] e X.env = pure none := by rfl)
    (h1 : (assignEach [.Subscript o j tpos] X.env).map (·.2) = [assign (.Subscript o j tpos) X.env] := by rfl) : SimS X T W (.Assign [.Subscript o j tpos] e pos) (mSetR mo m mj) := fun B w σ H fr h D R p =>
  ps_ws (ps_asg pe_max (pg_sub pe_max pe_max set_list ha) hs hw h1) (s B w σ H fr h _ R (PostS.bind (VR := vV X.K T B σ) p fun d fr1 h1 w1 H1 v e1 l1 r1 rx p1 => so B w1 σ H1 fr1 h1 _ r1 (PostS.bind (VR := vV X.K T B σ) p1 fun od fr0 h0 w0 H0 ov e0 l0 r0 ro p0 =>
    sj B w0 σ H0 fr0 h0 _ r0 (PostS.bind (VR := vV X.K T B σ) p0 fun jd fr2 h2 w2 H2 jv e2 l2 r2 rj p2 => by
      have p2' : PostS X.K T B W w2 ((mutRef od (setF jd d)).bind (fun _ => M.ret .nx) fr2 h2) D := p2
      rcases mut_ref0 (f := setF jd d) r2 (ro.mono l2) with q | ⟨fr3, h3, q, z⟩
      · rw [M.bind_err q] at p2'
        exact p2'.elim
      · rw [M.bind_ok q] at p2'
        exact set_ok z (rx.mono (Wd.le_trans l0 l2)) rj fun H' R' => p2' w2 σ H' (Wd.le_refl _) R'))))
/-- a new object becomes a cell -/
def mCell (m : M D) : M D := m.bind fun d fr h => if d.own then .ok (.ref h.length) fr (h ++ [d]) else .err
theorem sv_cell (s : SimE X T W e m) : SimV X T W e (mCell m) := fun B w σ H fr h Q R p => s B w σ H fr h Q R (Post.bind (VR := vE X.K T B σ) p fun d fr1 h1 w1 H1 v e1 l1 r1 rx p1 => by
  rcases rx with rx | ⟨q, o, rfl, O, lo, eH, rd⟩
  · have p1' : Post X.K T B W (vV X.K T B σ) w1 σ (if d.own then .ok (.ref h1.length) fr1 (h1 ++ [d]) else .err) Q := p1
    rw [relD_own rx] at p1'
    exact (show False from p1').elim
  · have p1' : Post X.K T B W (vV X.K T B σ) w1 σ (if d.own then .ok (.ref h1.length) fr1 (h1 ++ [d]) else .err) Q := p1
    rw [rd.own] at p1'
    have R2 := r1.to_cell O lo eH rd
    exact p1' ⟨w1.F, w1.I ++ [q]⟩ H1 (.ref q) ⟨fun _ _ z => z, [q], rfl⟩ R2 (.ref (by
      rw [← r1.len]
      show (w1.I ++ [q])[w1.I.length]? = some q
      rw [List.getElem?_append_right (Nat.le_refl _), Nat.sub_self]
      rfl)))

/-! ### fields -/
theorem zip_lookup {α : Type} {f : Str} : ∀ {fs : List Str} {vs : List α} {i : Nat}, fs.Nodup → fs[i]? = some f → (fs.zip vs).lookup f = vs[i]?
  | [], _, _, _, e => by simp at e
  | g :: fs, [], i, _, _ => by simp
  | g :: fs, v :: vs, 0, _, e => by
    simp at e
    subst e
    simp [List.lookup]
  | g :: fs, v :: vs, i + 1, n, e => by
    have hf : f ∈ fs := List.mem_of_getElem? (by simpa using e)
    have hne : (f == g) = false := by
      rw [beq_eq_false_iff_ne]
      rintro rfl
      exact (List.nodup_cons.mp n).1 hf
    show List.lookup f ((g, v) :: fs.zip vs) = (v :: vs)[i + 1]?
    rw [List.lookup_cons, hne]
    show (fs.zip vs).lookup f = _
    rw [zip_lookup (List.nodup_cons.mp n).2 (by simpa using e)]
    simp
theorem zip_putF {f : Str} {y : V} : ∀ {fs : List Str} {vs : List V} {i : Nat}, fs.Nodup → fs[i]? = some f → i ≤ vs.length → putF f y (fs.zip vs) = fs.zip (if i < vs.length then vs.set i y else vs ++ [y])
  | [], _, _, _, e, _ => by simp at e
  | g :: fs, [], i, _, e, hl => by
    have h0 : i = 0 := by simpa using hl
    subst h0
    simp at e
    subst e
    simp [putF]
  | g :: fs, v :: vs, 0, _, e, _ => by
    simp at e
    subst e
    show putF g y ((g, v) :: fs.zip vs) = _
    unfold putF
    rw [if_pos rfl, if_pos (show 0 < (v :: vs).length from Nat.succ_pos _)]
    rfl
  | g :: fs, v :: vs, i + 1, n, e, hl => by
    have hf : f ∈ fs := List.mem_of_getElem? (by simpa using e)
    have hne : ¬ g = f := by
      rintro rfl
      exact (List.nodup_cons.mp n).1 hf
    show putF f y ((g, v) :: fs.zip vs) = _
    unfold putF
    rw [if_neg hne, zip_putF (List.nodup_cons.mp n).2 (i := i) (by simpa using e) (by simpa using hl)]
    by_cases h : i < vs.length
    · rw [if_pos h, if_pos (by simpa using h)]
      rfl
    · rw [if_neg h, if_neg (by simpa using h)]
      rfl
/-- the field f: ix tells its place by the class -/
structure FldF (X : Cx) (T : Tb) (f : Str) (ix : Nat → Option Nat) : Prop where
  cls : ∀ c i, ix c = some i → Cls X.K (T.cad c)
  na : ∀ c i, ix c = some i → NoAttr X.K (T.cad c) f
  nd : ∀ c i, ix c = some i → (T.fld c).Nodup ∧ (T.fld c).length < 1000
  at_ : ∀ c i, ix c = some i → (T.fld c)[i]? = some f
def D.ins (h : Hh) (d : D) : Option (Nat × List D) := match d.der h with
  | .obj c fs => some (c, fs)
  | .no c fs => some (c, fs)
  | _ => none
def bFld (ix : Nat → Option Nat) (h : Hh) (d : D) : Option D := match d.ins h with
  | some (c, fs) => match ix c with
    | some i => fs[i]?
    | none => none
  | none => none
theorem ins_rel {K : PySem.W.Frag} {B : Bs} {w : Wd} {σ : L2.St} {H : Hp} {fr : Fr} {h : Hh} {v : V} {d : D} {c : Nat} {fs : List D} (R : Rel K T B w σ H fr h) (z : vO K T B σ w H fr v d) (e : d.ins h = some (c, fs)) :
    ∃ a dx vs, v = .ref a ∧ H a = some (.ins (T.cad c) dx ((T.fld c).zip vs)) ∧ RelDs K T w vs fs := by
  rcases z with z | ⟨p, o, rfl, eH, z⟩
  · cases z with
    | obj s r =>
      cases e
      exact ⟨_, _, _, rfl, R.sub _ _ s, r⟩
    | @ref a n s =>
      have ln : n < h.length := by
        rw [← R.len]
        exact (List.getElem?_eq_some_iff.mp s).1
      obtain ⟨o, q, rr⟩ := R.cel n a h[n] s (List.getElem?_eq_getElem ln)
      have e0 : D.der h (.ref n) = h[n] := by
        unfold D.der
        dsimp only
        rw [List.getElem?_eq_getElem ln]
        rfl
      unfold D.ins at e
      rw [e0] at e
      generalize h[n] = cc at rr e
      cases rr with
      | lst r => cases e
      | obj r =>
        cases e
        exact ⟨_, _, _, rfl, q, r⟩
    | _ => cases e
  · cases z with
    | lst r => cases e
    | obj r =>
      cases e
      exact ⟨_, _, _, rfl, eH, r⟩
theorem sv_fld {f : Str} {ix : Nat → Option Nat} (F : FldF X T f ix) (s : SimO X T W o mo) (hb : attributeBase o f X.env (eval o X.env) = eval o X.env := by rfl) : SimV X T W (.Attribute o f pos) (mUn (bFld ix) mo) := fun B w σ H fr h Q R p =>
  pe_we (pe_fld pe_max hb) (s B w σ H fr h _ R (Post.bind (VR := vO X.K T B σ) p fun d fr1 h1 w1 H1 v e1 l1 r1 rx p1 => by
    have p1' : Post X.K T B W (vV X.K T B σ) w1 σ (M.opt (bFld ix h1 d) fr1 h1) Q := p1
    cases q : bFld ix h1 d with
    | none => rw [q] at p1'; exact p1'.elim
    | some z =>
      rw [q] at p1'
      unfold bFld at q
      split at q
      · rename_i c fs ei
        split at q
        · rename_i i ec
          obtain ⟨a, dx, vs, rfl, eH, rs⟩ := ins_rel r1 rx ei
          obtain ⟨v, ev, rv⟩ := rs.get q
          exact ⟨a, _, dx, _, v, rfl, eH, F.cls c i ec, F.na c i ec, by rw [zip_lookup (F.nd c i ec).1 (F.at_ c i ec)]; exact ev, p1' w1 H1 v (Wd.le_refl _) r1 rv⟩
        · cases q
      · cases q))
/-- self.f = e, self a slot's own instance or a cell -/
def putFs (i : Nat) (d : D) (fs : List D) : Option (List D) := if i ≤ fs.length then some (if i < fs.length then fs.set i d else fs ++ [d]) else none
def mutFld (j : Nat) (ix : Nat → Option Nat) (d : D) : M Unit := fun fr h => match fr[j]? with
  | some (some (.no c fs)) => match ix c with
    | some i => match putFs i d fs with
      | some fs' => .ok () (fr.set j (some (.no c fs'))) h
      | none => .err
    | none => .err
  | some (some (.ref n)) => match h[n]? with
    | some (.no c fs) => match ix c with
      | some i => match putFs i d fs with
        | some fs' => .ok () fr (h.set n (.no c fs'))
        | none => .err
      | none => .err
    | _ => .err
  | _ => .err
def mPutFld (j : Nat) (ix : Nat → Option Nat) (m : M D) : M Fl := m.bind fun d => (mutFld j ix d).bind fun _ => M.ret .nx
theorem putFs_rel {K : PySem.W.Frag} {w : Wd} {f : Str} {c i : Nat} {fs fs' : List D} {vs : List V} {y : V} {d : D} (nd : (T.fld c).Nodup) (at_ : (T.fld c)[i]? = some f) (rs : RelDs K T w vs fs) (ry : RelD K T w y d) (e : putFs i d fs = some fs') :
    ∃ vs', putF f y ((T.fld c).zip vs) = (T.fld c).zip vs' ∧ RelDs K T w vs' fs' := by
  unfold putFs at e
  by_cases hi : i ≤ fs.length
  · rw [if_pos hi] at e
    cases e
    refine ⟨_, zip_putF nd at_ (by rw [rs.length]; exact hi), ?_⟩
    rw [rs.length]
    by_cases hl : i < fs.length
    · rw [if_pos hl, if_pos hl]
      exact rs.set i ry
    · rw [if_neg hl, if_neg hl]
      exact rs.append (.cons ry .nil)
  · rw [if_neg hi] at e
    cases e
theorem s_putFld (j : Nat) {x f : Str} {ix : Nat → Option Nat} (F : FldF X T f ix) (s : SimV X T W e m) (hs : swapsWith e (some (.Attribute (.Name x px) f tpos)) pos.line X.env = pure false := by rfl)
    (hN : X.N[j]? = some x := by rfl) (hv : Vis X.env.scope x := by first | exact Or.inl rfl | exact Or.inr (Or.inl rfl) | exact Or.inr (Or.inr rfl)) (hd : (x == ("__debug__" : Str)) = false := by decide)
    (hcd : (x == ("__classdict__" : Str)) = false := by decide) : SimS X T W (.Assign [.Attribute (.Name x px) f tpos] e pos) (mPutFld j ix m) := fun B w σ H fr h D R p =>
  ps_ws (ps_fld (pe_var hN hv hd hcd) pe_max hs) (s B w σ H fr h _ R (PostS.bind (VR := vV X.K T B σ) p fun d fr1 h1 w1 H1 y e1 l1 r1 ry p1 => by
    have p1' : PostS X.K T B W w1 ((mutFld j ix d).bind (fun _ => M.ret .nx) fr1 h1) D := p1
    have fin : ∀ {c i : Nat} {a dx : Addr} {vs : List V} {fs fs' : List Pk.D}, ix c = some i → H1 a = some (.ins (T.cad c) dx ((T.fld c).zip vs)) → RelDs X.K T w1 vs fs → putFs i d fs = some fs' → (∀ vs', RelDs X.K T w1 vs' fs' → D.nx σ (upd H1 a (.ins (T.cad c) dx ((T.fld c).zip vs')))) → σ[j]? = some (some (.ref a)) →
        ∃ v, σ[j]? = some (some v) ∧ ∃ a C dx fs, v = .ref a ∧ H1 a = some (.ins C dx fs) ∧ Cls X.K C ∧ NoAttr X.K C f ∧ fs.length < 1000 ∧ D.nx σ (upd H1 a (.ins C dx (putF f y fs))) := fun {c i a dx vs fs fs'} ec eH rs ep kk es => by
      obtain ⟨vs', e1, rs'⟩ := putFs_rel (F.nd c i ec).1 (F.at_ c i ec) rs ry ep
      refine ⟨_, es, a, _, dx, _, rfl, eH, F.cls c i ec, F.na c i ec, ?_, ?_⟩
      · rw [List.length_zip]
        have := (F.nd c i ec).2
        omega
      · rw [e1]
        exact kk vs' rs'
    cases q : mutFld j ix d fr1 h1 with
    | err => rw [M.bind_err q] at p1'; exact p1'.elim
    | exc z fr2 h2 =>
      exfalso
      unfold mutFld at q
      repeat' (first | (split at q) | (cases q))
    | ok u fr2 h2 =>
      rw [M.bind_ok q] at p1'
      have p2 : ∀ w' σ' H', w1.le w' → Rel X.K T B w' σ' H' fr2 h2 → D.nx σ' H' := p1'
      unfold mutFld at q
      split at q
      · rename_i c fs es
        split at q
        · rename_i i ec
          split at q
          · rename_i fs' ep
            cases q
            obtain ⟨v, e2, z⟩ := slot_some r1 es
            cases z with
            | val r => cases r
            | own O eH r =>
              cases r with
              | obj r => exact fin ec eH r ep (fun vs' rs' => p2 w1 σ _ (Wd.le_refl _) (r1.change_slot e2 es O eH rfl (.obj rs'))) e2
          · cases q
        · cases q
      · rename_i n es
        split at q
        · rename_i c fs en
          split at q
          · rename_i i ec
            split at q
            · rename_i fs' ep
              cases q
              obtain ⟨v, e2, z⟩ := slot_some r1 es
              cases z with
              | val r =>
                cases r with
                | ref sI =>
                  obtain ⟨o, qo, rr⟩ := r1.cel n _ _ sI en
                  cases rr with
                  | obj r => exact fin ec qo r ep (fun vs' rs' => p2 w1 σ _ (Wd.le_refl _) (r1.change_cell sI en (.obj rs'))) e2
              | own O eH r => cases r
            · cases q
          · cases q
        · cases q
      · cases q))
end
end Pk

/-! Pk9: defs and their calls. -/
namespace Pk
open PySem PySem.Spec L2

/-! ### what a def computes -/
abbrev Fn := List D → Hh → R D
def startF (n : Nat) (ds : List D) : Fr := ds.map some ++ List.replicate (n - ds.length) none
def runF (n : Nat) (m : M Fl) : Fn := fun ds h => match m (startF n ds) h with
  | .ok (.rt d) _ h => .ok d [] h
  | .ok .nx _ h => .ok .non [] h
  | .ok _ _ _ => .err
  | .exc x _ h => .exc x [] h
  | .err => .err
/-- an __init__: the instance's fields are its answer -/
def runI (c n : Nat) (m : M Fl) : Fn := fun ds h => match m (startF n (.no c [] :: ds)) h with
  | .ok .nx fr h => match (fr : Fr)[0]? with
    | some (some (D.no c' fs)) => if c' = c then .ok (.no c fs) [] h else .err
    | _ => .err
  | .ok _ _ _ => .err
  | .exc x _ h => .exc x [] h
  | .err => .err
def spF (K : PySem.W.Frag) (T : Tb) (n : Nat) (F : Fn) : Sp := fun vs H Q E => ∃ w h ds, Rel K T (Bs.of w H) w [] H [] h ∧ RelDs K T w vs ds ∧ ds.length = n ∧ Post K T (Bs.of w H) (fun c d _ H' => E c d H') (vE K T (Bs.of w H) []) w [] (F ds h) Q
/-- the new instance's fields -/
def vN (K : PySem.W.Frag) (T : Tb) (w : Wd) (G : Hp) (x : Addr) (w' : Wd) (H' : Hp) (_ : Fr) (v : V) (d : D) : Prop := v = .non ∧ Own (Bs.of w G) w' x ∧ ∃ o, H' x = some o ∧ OwnR K T w' o d
def spI (K : PySem.W.Frag) (T : Tb) (c n : Nat) (F : Fn) : Sp := fun vs H Q E => ∃ w h ds G x dx us, vs = .ref x :: us ∧ G x = none ∧ H = upd G x (.ins (T.cad c) dx []) ∧ Rel K T (Bs.of w G) w [] G [] h ∧ RelDs K T w us ds ∧ ds.length + 1 = n ∧
  Post K T (Bs.of w G) (fun c d _ H' => E c d H') (vN K T w G x) w [] (F ds h) Q
section
variable {K : PySem.W.Frag} {T : Tb} {B : Bs} {w w' : Wd} {σ : L2.St} {H H' : Hp} {fr : Fr} {h : Hh}
theorem startF_length {n : Nat} {ds : List D} (hl : ds.length ≤ n) : (startF n ds).length = n := by
  unfold startF
  rw [List.length_append, List.length_map, List.length_replicate]
  omega
theorem startF_in {n i : Nat} {ds : List D} {d : D} (e : (startF n ds)[i]? = some (some d)) : ds[i]? = some d := by
  unfold startF at e
  by_cases hi : i < ds.length
  · rw [List.getElem?_append_left (by simpa using hi), List.getElem?_map] at e
    cases q : ds[i]? with
    | none => rw [q] at e; cases e
    | some a => rw [q] at e; cases e; rfl
  · rw [List.getElem?_append_right (by simpa using hi), List.getElem?_replicate] at e
    split at e <;> cases e
theorem start_at {N : List Str} {vs : List V} {i : Nat} {v : V} (e : vs[i]? = some v) : (L2.start N vs)[i]? = some (some v) := by
  unfold L2.start
  have hi : i < vs.length := (List.getElem?_eq_some_iff.mp e).1
  rw [List.getElem?_append_left (by simpa using hi), List.getElem?_map, e]
  rfl
theorem start_len {N : List Str} {vs : List V} (hl : vs.length ≤ N.length) : (L2.start N vs).length = N.length := by
  unfold L2.start
  rw [List.length_append, List.length_map, List.length_replicate]
  omega
theorem Rel.start (R : Rel K T B w [] H [] h) {N : List Str} {vs : List V} {ds : List D} (rs : RelDs K T w vs ds) (hl : ds.length ≤ N.length) : Rel K T B w (L2.start N vs) H (startF N.length ds) h :=
  { R with
    me := fun x d bx e od => by
      obtain ⟨v, ev, rv⟩ := rs.get (startF_in e)
      exact (own_not od rv).elim
    fl := by rw [startF_length hl, start_len (by rw [rs.length]; exact hl)]
    sl := fun i s d e1 e2 => by
      cases d with
      | none => exact .none
      | some d =>
        obtain ⟨v, ev, rv⟩ := rs.get (startF_in e2)
        rw [start_at ev] at e1
        cases e1
        exact .val rv
    sep := fun i j p hij ⟨_, d, e, od⟩ _ => by
      obtain ⟨v, ev, rv⟩ := rs.get (startF_in e)
      exact own_not od rv }
/-- with a new instance ahead -/
theorem Rel.startI (R : Rel K T B w [] H [] h) {N : List Str} {x dx : Addr} {c : Nat} {vs : List V} {ds : List D} (hB : B.me = some x) (nx : H x = none) (rs : RelDs K T w vs ds) (hl : ds.length + 1 ≤ N.length) :
    Rel K T B w (L2.start N (.ref x :: vs)) (upd H x (.ins (T.cad c) dx [])) (startF N.length (.no c [] :: ds)) h := by
  have R1 : Rel K T B w [] (upd H x (.ins (T.cad c) dx [])) [] h := R.temp nx
  have O : Own B w x := R.own_new nx
  have sl : ∀ (i : Nat) s d, (L2.start N (.ref x :: vs))[i]? = some s → (startF N.length (.no c [] :: ds))[i]? = some d → SlotR K T B w (upd H x (.ins (T.cad c) dx [])) s d := fun i s d e1 e2 => by
    cases d with
    | none => exact .none
    | some d =>
      have q := startF_in e2
      cases i with
      | zero =>
        cases q
        cases e1
        exact .own O upd_same (by
          have z : OwnR K T w (.ins (T.cad c) dx ((T.fld c).zip [])) (.no c []) := .obj .nil
          rw [List.zip_nil_right] at z
          exact z)
      | succ i =>
        obtain ⟨v, ev, rv⟩ := rs.get (show ds[i]? = some d from q)
        have e3 : (L2.start N (.ref x :: vs))[i + 1]? = some (some v) := start_at (show (V.ref x :: vs)[i + 1]? = some v from ev)
        rw [e3] at e1
        cases e1
        exact .val rv
  have hown : ∀ (i : Nat) d, (startF N.length (.no c [] :: ds))[i]? = some (some d) → d.own = true → i = 0 := fun i d e od => by
    cases i with
    | zero => rfl
    | succ i =>
      have q := startF_in e
      obtain ⟨v, ev, rv⟩ := rs.get (show ds[i]? = some d from q)
      exact (own_not od rv).elim
  refine { R1 with fl := ?_, sl := sl, sep := fun i j p hij ⟨_, d, e, od⟩ ⟨_, d', e', od'⟩ => hij ((hown i d e od).trans (hown j d' e' od').symm), me := fun y d bx e od => ?_ }
  · rw [startF_length (by simpa using hl), start_len (by rw [List.length_cons, rs.length]; exact hl)]
  · have bx' : some x = some y := hB.symm.trans bx
    cases bx'
    rfl
theorem Rel.unme {m : Option Addr} {w0 : Wd} {G : Hp} (R : Rel K T ⟨w0, G, [], m⟩ w [] H [] h) : Rel K T (Bs.of w0 G) w [] H [] h := { R with me := (fun _ _ _ q _ => by simp at q), sl := fun _ _ _ q => by simp at q }
theorem Rel.ofme {x : Addr} {w0 : Wd} {G : Hp} (R : Rel K T (Bs.of w0 G) w [] H [] h) : Rel K T ⟨w0, G, [], some x⟩ w [] H [] h := { R with me := (fun _ _ _ q _ => by simp at q), sl := fun _ _ _ q => by simp at q }
end

/-! ### a def keeps its promise -/
section
variable {P : Program} {w : World} {K : PySem.W.Frag} {mg : Str → Option Value} {base : Heap} {T : Tb} {k : Nat} {x qual : Str} {params : Arguments} {body : List Stmt} {scope : Scope} {dvs : List V} {kws : List (Str × V)} {f : Addr} {fd : FuncData} {N ps : List Str}
/-- the context of a def's body -/
abbrev Cxd (P : Program) (w : World) (K : PySem.W.Frag) (mg : Str → Option Value) (base : Heap) (N : List Str) (qual : Str) (scope : Scope) (f : Addr) (cdv : Value) (A : Around) (outer : List Env) (s : Shared) (H : Hp) (E : XK) : Cx := cxOf (L2.CX P w) P w K mg base N qual scope f cdv A outer s H E
def WX.up (E : XK) : WX := fun c d _ H' => E c d H'
/-- the body does what m says, in each of the def's contexts -/
def Does (P : Program) (w : World) (K : PySem.W.Frag) (mg : Str → Option Value) (base : Heap) (T : Tb) (k : Nat) (N : List Str) (qual : Str) (scope : Scope) (body : List Stmt) (m : M Fl) : Prop :=
  ∀ (f : Addr) (cdv : Value) (A : Around) (outer : List Env) (s : Shared) (H : Hp) (E : XK), Cq (Cxd P w K mg base N qual scope f cdv A outer s H E) T (WX.up E) k → SimSs (Cxd P w K mg base N qual scope f cdv A outer s H E) T (WX.up E) body m
theorem cq_of (S : FnScope N ps scope) {cdv : Value} {A : Around} {outer : List Env} {s : Shared} {H : Hp} {E : XK} (hr : Room k (A.deeper (PyProof.Rows.envOfC qual scope s.heap.objs.size f cdv))) : Cq (Cxd P w K mg base N qual scope f cdv A outer s H E) T (WX.up E) k :=
  ⟨rfl, S.nd, hr, takes_of rfl rfl rfl rfl, passes_of rfl⟩
theorem fn_sim (F : FunD K x qual params body scope dvs kws f fd) (S : FnScope N ps scope) {m : M Fl} (dm : Does P w K mg base T k N qual scope body m) : FnOk P w K mg base (L2.CX P w) (k + 1) f fd ps (spF K T ps.length (runF N.length m)) := by
  refine F.ok S (fun vs H Q E ⟨w, h, ds, _, rs, hl, _⟩ => rs.length.trans hl) fun cdv A outer s H vs Q E hr ⟨w, h, ds, R, rs, hl, post⟩ => ⟨WSs _ body, pss_max, ?_⟩
  have hpl : ps.length ≤ N.length := by
    have := congrArg List.length S.pre
    rw [List.length_take] at this
    omega
  refine dm f cdv A outer s H E (cq_of S hr) (Bs.of w H) w _ H (startF N.length ds) h _ (R.start rs (by rw [hl]; exact hpl)) ?_
  unfold runF at post
  cases e : m (startF N.length ds) h with
  | ok fl fr h' =>
    rw [e] at post
    cases fl with
    | nx => exact fun w' σ' H' l R' => post w' H' .non l R'.unframe (.inl .non)
    | rt d => exact fun w' σ' H' v l R' rv => post w' H' v l R'.unframe (by
        rcases rv with rv | ⟨p, o, rfl, O, lo, eH, rd⟩
        · exact .inl rv
        · exact .inr ⟨p, o, rfl, O, fun i => noSlot, eH, rd⟩)
    | brk => exact post.elim
    | ct => exact post.elim
  | exc y fr h' =>
    rw [e] at post
    exact fun w' σ' H' c dd l R' z => post w' H' c dd l R'.unframe z
  | err => rw [e] at post; exact post
theorem fn_simI (c : Nat) (F : FunD K x qual params body scope dvs kws f fd) (S : FnScope N ps scope) {m : M Fl} (dm : Does P w K mg base T k N qual scope body m) : FnOk P w K mg base (L2.CX P w) (k + 1) f fd ps (spI K T c ps.length (runI c N.length m)) := by
  refine F.ok S (fun vs H Q E ⟨w, h, ds, G, x, dx, us, ev, _, _, _, rs, hl, _⟩ => by rw [ev, List.length_cons, rs.length]; exact hl) fun cdv A outer s H vs Q E hr ⟨w, h, ds, G, x, dx, us, ev, nx, eH, R, rs, hl, post⟩ => ⟨WSs _ body, pss_max, ?_⟩
  have hpl : ps.length ≤ N.length := by
    have := congrArg List.length S.pre
    rw [List.length_take] at this
    omega
  subst ev eH
  refine dm f cdv A outer s _ E (cq_of S hr) ⟨w, G, [], some x⟩ w _ _ (startF N.length (.no c [] :: ds)) h _ (R.ofme.startI rfl nx rs (by rw [hl]; exact hpl)) ?_
  unfold runI at post
  cases e : m (startF N.length (.no c [] :: ds)) h with
  | ok fl fr h' =>
    rw [e] at post
    cases fl with
    | nx =>
      intro w' σ' H' l R'
      dsimp only at post
      cases e0 : (fr : Fr)[0]? with
      | none => rw [e0] at post; exact post.elim
      | some od =>
        rw [e0] at post
        cases od with
        | none => exact post.elim
        | some d =>
          cases d with
          | no c' fs =>
            dsimp only at post
            by_cases hc : c' = c
            · rw [if_pos hc] at post
              subst hc
              have s0 := R'.me x _ rfl e0 rfl
              obtain ⟨v, ev, z⟩ := slot_some R' e0
              rw [s0] at ev
              cases ev
              cases z with
              | val r => cases r
              | own O eH r => exact post w' H' .non l R'.unframe.unme ⟨rfl, ⟨O.f, O.i, O.e, fun q hq => by cases hq⟩, _, eH, r⟩
            · rw [if_neg hc] at post
              exact post.elim
          | _ => exact post.elim
    | rt d => exact post.elim
    | brk => exact post.elim
    | ct => exact post.elim
  | exc y fr h' =>
    rw [e] at post
    exact fun w' σ' H' c dd l R' z => post w' H' c dd l R'.unframe.unme z
  | err => rw [e] at post; exact post
end
end Pk

/-! Pk10: calls. -/
namespace Pk
open PySem PySem.Spec L2

/-! ### the values of keywords -/
structure WKw (X : Cx) (kws : List Keyword) (σ : L2.St) (H : Hp) (Q : List V → Hp → Prop) : Prop where
  go : ∀ pos pins s, Inv X pins σ H s → wpAny (model X.prog X.w) X.A (evalAll ((backToKw pos (keywordEach kws X.env)).map (·.2))) (AP X pins σ Q) X.xe s
theorem pk_max {X : Cx} {kws : List Keyword} : PK X kws (WKw X kws) := ⟨fun pos pins s σ H Q I h => h.go pos pins s I⟩
theorem pk_wk {X : Cx} {kws : List Keyword} {t : TA} (p : PK X kws t) {σ : L2.St} {H : Hp} {Q : List V → Hp → Prop} (h : t σ H Q) : WKw X kws σ H Q := ⟨fun pos pins s I => p.run pos pins s σ H Q I h⟩
abbrev SimK (X : Cx) (T : Tb) (W : WX) (kws : List Keyword) (m : M (List D)) : Prop := Sim (WKw X kws) X.K T W vA m
section
variable {X : Cx} {T : Tb} {W : WX} {e : Expr} {kws : List Keyword} {m : M D} {ms : List (M D)} {nm : Option Str} {kpos : Pos}
theorem sk_nil : SimK X T W [] (mArgs []) := fun B w σ H fr h Q r1 p => pk_wk pk_nil (p w H _ (Wd.le_refl _) r1 .nil)
theorem sk_cons (s : SimV X T W e m) (t : SimK X T W kws (mArgs ms)) : SimK X T W (⟨nm, e, kpos⟩ :: kws) (mArgs (m :: ms)) := fun B w σ H fr h Q r1 p =>
  pk_wk (pk_cons pe_max pk_max) (s B w σ H fr h _ r1 (Post.bind (VR := vV X.K T B σ) p fun d fr1 h1 w1 H1 x e1 l1 r1 rx p1 =>
    t B w1 σ H1 fr1 h1 _ r1 (Post.bind (VR := vA X.K T B σ) p1 fun ds fr2 h2 w2 H2 vs e2 l2 r2 rs p2 => p2 w2 H2 _ (Wd.le_refl _) r2 (.cons (rx.mono l2) rs))))
end

/-! ### the callee's answer in the caller -/
def liftR (fr : Fr) : R D → R D
  | .ok d _ h => .ok d fr h
  | .exc x _ h => .exc x fr h
  | .err => .err
theorem call_sp {K : PySem.W.Frag} {T : Tb} {B : Bs} {W : WX} {w : Wd} {σ : L2.St} {H : Hp} {fr : Fr} {h : Hh} {n : Nat} {F : Fn} {vs : List V} {ds : List D} {Q : VK} (R : Rel K T B w σ H fr h) (rs : RelDs K T w vs ds) (hl : ds.length = n)
    (p : Post K T B W (vE K T B σ) w σ (liftR fr (F ds h)) Q) : spF K T n F vs H Q (fun c d H' => W c d σ H') := by
  refine ⟨w, h, ds, R.enter, rs, hl, ?_⟩
  cases e : F ds h with
  | ok d fr' h' =>
    rw [e] at p
    intro w' H' v l R' rv
    have ef : fr' = [] := by
      have := R'.fl
      exact List.length_eq_zero_iff.mp this
    subst ef
    have R2 := R.back l R'
    refine p w' H' v l R2 ?_
    rcases rv with rv | ⟨q, o, rfl, O, lo, eH, rd⟩
    · exact .inl rv
    · have nq : H q = none := O.e
      refine .inr ⟨q, o, rfl, ⟨O.f, O.i, (R.own_new nq).e, (R.own_new nq).p⟩, fun i z => R.loose_new nq i z, eH, rd⟩
  | exc y fr' h' =>
    rw [e] at p
    intro w' H' c dd l R' z
    have ef : fr' = [] := by
      have := R'.fl
      exact List.length_eq_zero_iff.mp this
    subst ef
    exact p w' H' c dd l (R.back l R') z
  | err => rw [e] at p; exact p
theorem call_spI {K : PySem.W.Frag} {T : Tb} {B : Bs} {W : WX} {w : Wd} {σ : L2.St} {H : Hp} {fr : Fr} {h : Hh} {n c : Nat} {F : Fn} {vs : List V} {ds : List D} {Q : VK} {x dx : Addr} (R : Rel K T B w σ H fr h) (rs : RelDs K T w vs ds) (hl : ds.length + 1 = n)
    (nx : H x = none) (nd : H dx = none) (ne : dx ≠ x)
    (p : Post K T B W (vE K T B σ) w σ (liftR fr (F ds h)) Q) : spI K T c n F (.ref x :: vs) (upd (upd H dx (.own x)) x (.ins (T.cad c) dx [])) (fun v H2 => v = .non ∧ Q (.ref x) H2) (fun c d H' => W c d σ H') := by
  have R1 : Rel K T B w σ (upd H dx (.own x)) fr h := R.temp nd
  have nx1 : (upd H dx (.own x)) x = none := by rw [upd_ne (Ne.symm ne)]; exact nx
  refine ⟨w, h, ds, upd H dx (.own x), x, dx, vs, rfl, nx1, rfl, R1.enter, rs, hl, ?_⟩
  cases e : F ds h with
  | ok d fr' h' =>
    rw [e] at p
    intro w' H' v l R' ⟨ev, O, o, eH, rd⟩
    have ef : fr' = [] := by
      have := R'.fl
      exact List.length_eq_zero_iff.mp this
    subst ef
    exact ⟨ev, p w' H' (.ref x) l (R1.back l R') (.inr ⟨x, o, rfl, ⟨O.f, O.i, (R1.own_new nx1).e, (R1.own_new nx1).p⟩, fun i z => R1.loose_new nx1 i z, eH, rd⟩)⟩
  | exc y fr' h' =>
    rw [e] at p
    intro w' H' c dd l R' z
    have ef : fr' = [] := by
      have := R'.fl
      exact List.length_eq_zero_iff.mp this
    subst ef
    exact p w' H' c dd l (R1.back l R') z
  | err => rw [e] at p; exact p

/-! ### how a call binds -/
structure Bn (K : PySem.W.Frag) (T : Tb) (fd : FuncData) (ps : List Str) (n : Nat) (ks : List Str) (gD : List D → List D → List D) : Prop where
  ex : ∃ (g : List Value → List Value → List Value) (gV : List V → List V → List V), KBn K fd ps n ks g gV ∧
    ∀ (w : Wd) (vs zs : List V) (ds es : List D), RelDs K T w vs ds → RelDs K T w zs es → ds.length = n → es.length = ks.length → RelDs K T w (gV vs zs) (gD ds es) ∧ (gD ds es).length = ps.length
def gPos (dfl : List D) (ds _ : List D) : List D := ds ++ dfl
structure FnP (P : Program) (w : World) (K : PySem.W.Frag) (mg : Str → Option Value) (base : Heap) (T : Tb) (k : Nat) (f : Addr) (fd : FuncData) (ps : List Str) (F : Fn) : Prop where
  ok : FnOk P w K mg base (L2.CX P w) k f fd ps (spF K T ps.length F)
  kp : PySem.W.keepIn K (.ref f) = true
structure FnI (P : Program) (w : World) (K : PySem.W.Frag) (mg : Str → Option Value) (base : Heap) (T : Tb) (k c : Nat) (f : Addr) (fd : FuncData) (ps : List Str) (F : Fn) : Prop where
  ok : FnOk P w K mg base (L2.CX P w) k f fd ps (spI K T c ps.length F)
  made : Mk K (T.cad c) f
def mCall (n m : Nat) (F : Fn) (gD : List D → List D → List D) (ma mk : M (List D)) : M D := ma.bind fun ds => mk.bind fun es fr h => if ds.length = n ∧ es.length = m then liftR fr (F (gD ds es) h) else .err
theorem bn_all {K : PySem.W.Frag} {T : Tb} {fd : FuncData} {ps : List Str} (h : Binds K fd ps []) : Bn K T fd ps ps.length [] (gPos []) :=
  ⟨fun us _ => us, fun vs _ => vs, ⟨fun s us ws X l1 _ => by
    have b := h s us X (by rw [List.append_nil]; exact l1)
    rw [List.append_nil] at b
    exact b, fun r _ => r⟩, fun w vs zs ds es rs _ hl _ => ⟨by
      show RelDs K T w vs (ds ++ [])
      rw [List.append_nil]
      exact rs, by
      show (ds ++ []).length = _
      rw [List.append_nil]
      exact hl⟩⟩
theorem bn_dfl {K : PySem.W.Frag} {T : Tb} {fd : FuncData} {ps : List Str} {dvs : List V} {dds : List D} {vds : List Value} (n : Nat) (hv : Vals dvs vds) (h : Binds K fd ps vds) (hd : ∀ w, RelDs K T w dvs dds) (hn : n + dds.length = ps.length) : Bn K T fd ps n [] (gPos dds) :=
  ⟨fun us _ => us ++ vds, fun vs _ => vs ++ dvs, ⟨fun s us ws X l1 _ => h s us X (by
    rw [List.length_append, l1, ← hv.length, (hd ⟨fun _ => none, []⟩).length]
    exact hn), fun r _ => r.append hv⟩, fun w vs zs ds es rs _ hl _ => ⟨rs.append (hd w), by
      show (ds ++ dds).length = _
      rw [List.length_append, hl]
      exact hn⟩⟩

section
variable {X : Cx} {T : Tb} {W : WX} {k kk n : Nat} {f C : Addr} {fd : FuncData} {ps ks : List Str} {F : Fn} {x m : Str} {p pos apos : Pos} {e o : Expr} {es : List Expr} {kws : List Keyword} {mo : M D} {ma mk : M (List D)} {gD : List D → List D → List D}
theorem run_gen {pins : List (Addr × Obj)} {σ : L2.St} {H : Hp} {s : Shared} {Q : VK} {us ws : List Value} {vs zs : List V} {g : List Value → List Value → List Value} {gV : List V → List V → List V} {sp : Sp} (F : FnOk X.prog X.w X.K X.mg X.base (L2.CX X.prog X.w) kk f fd ps sp) (hr : Room kk X.A) (hb : KBn X.K fd ps n ks g gV) (tk : Takes X W)
    (I : Inv X pins σ H s) (r : Vals vs us) (rz : Vals zs ws) (l1 : vs.length = n) (l2 : zs.length = ks.length) (h : sp (gV vs zs) H Q (fun c d H' => W c d σ H')) : wpAny (model X.prog X.w) X.A (call (.ref f) us (ks.zip ws)) (EP X pins σ Q) X.xe s := by
  have r2 := hb.rel r rz
  refine wpAny_call (codeAny_mono (F.run X.A X.stack s H ⟨us, ks.zip ws⟩ (g us ws) (gV vs zs) Q _ hr I.env0 (hb.to s us ws I.kIn (r.length.symm.trans l1) (rz.length.symm.trans l2)) r2 h) fun r s' hq => ?_)
  cases r with
  | error e => exact passAt tk σ pins H s e s' I hq
  | ok fl =>
    cases fl with
    | ret u => exact I.after hq
    | next => exact False.elim hq
    | brk => exact False.elim hq
    | cont => exact False.elim hq
theorem run_mk {pins : List (Addr × Obj)} {σ : L2.St} {H : Hp} {s : Shared} {Q : VK} {us ws : List Value} {vs zs : List V} {g : List Value → List Value → List Value} {gV : List V → List V → List V} {sp : Sp} (M : Mk X.K C f) (F : FnOk X.prog X.w X.K X.mg X.base (L2.CX X.prog X.w) kk f fd ps sp) (hr : Room (kk + 1) X.A) (hb : KBn X.K fd ps (n + 1) ks g gV) (tk : Takes X W)
    (I : Inv X pins σ H s) (r : Vals vs us) (rz : Vals zs ws) (l1 : vs.length = n) (l2 : zs.length = ks.length)
    (h : ∀ x dx, H x = none → H dx = none → dx ≠ x → sp (gV (.ref x :: vs) zs) (upd (upd H dx (.own x)) x (.ins C dx [])) (fun v H2 => v = .non ∧ Q (.ref x) H2) (fun c d H' => W c d σ H')) :
    wpAny (model X.prog X.w) X.A (call (.ref C) us (ks.zip ws)) (EP X pins σ Q) X.xe s := by
  have hq := h (s.heap.objs.size + 1) s.heap.objs.size (I.hok.fresh (Nat.le_succ _)) (I.hok.fresh (Nat.le_refl _)) (Nat.ne_of_lt (Nat.lt_succ_self _))
  have I2 := Inv.made (C := C) I
  have r1 : Vals (V.ref (s.heap.objs.size + 1) :: vs) (Value.ref (s.heap.objs.size + 1) :: us) := .cons rfl r
  have r2 := hb.rel r1 rz
  have n1 : (Value.ref (s.heap.objs.size + 1) :: us).length = n + 1 := by
    rw [List.length_cons, ← r.length, l1]
  refine wpAny_call (make_map (f := f) I.kIn M.makes M.init (beq_iff_eq.mp M.fn) (codeAny_mono (F.run _ X.stack _ _ ⟨Value.ref (s.heap.objs.size + 1) :: us, ks.zip ws⟩ (g (Value.ref (s.heap.objs.size + 1) :: us) ws) _ _ _ (hr.make C us (ks.zip ws))
    (I2.env0.make C us (ks.zip ws)) (hb.to _ (Value.ref (s.heap.objs.size + 1) :: us) ws I2.kIn n1 (rz.length.symm.trans l2)) r2 hq) fun r s' hq' => ?_))
  cases r with
  | error e => exact passAt tk σ pins _ _ e s' I2 hq'
  | ok fl =>
    cases fl with
    | ret u =>
      obtain ⟨v, H', I3, rv, ev, q3⟩ := I2.after hq'
      subst ev
      exact ⟨rv, ⟨V.ref (s.heap.objs.size + 1), H', I3, rfl, q3⟩⟩
    | next => exact False.elim hq'
    | brk => exact False.elim hq'
    | cont => exact False.elim hq'

/-! ### f(..) -/
/-- what is asked behind the arguments -/
theorem call_end {B : Bs} {w : Wd} {σ : L2.St} {H : Hp} {fr : Fr} {h : Hh} {m : Nat} {vs zs : List V} {ds es : List D} {Q : VK} {gV : List V → List V → List V} (hg : ∀ (w : Wd) (vs zs : List V) (ds es : List D), RelDs X.K T w vs ds → RelDs X.K T w zs es → ds.length = n → es.length = m → RelDs X.K T w (gV vs zs) (gD ds es) ∧ (gD ds es).length = ps.length)
    (R : Rel X.K T B w σ H fr h) (rs : RelDs X.K T w vs ds) (rz : RelDs X.K T w zs es) (p : Post X.K T B W (vE X.K T B σ) w σ (if ds.length = n ∧ es.length = m then liftR fr (F (gD ds es) h) else .err) Q) :
    vs.length = n ∧ zs.length = m ∧ spF X.K T ps.length F (gV vs zs) H Q (fun c d H' => W c d σ H') := by
  by_cases hl : ds.length = n ∧ es.length = m
  · rw [if_pos hl] at p
    obtain ⟨r2, l2⟩ := hg w vs zs ds es rs rz hl.1 hl.2
    exact ⟨rs.length.trans hl.1, rz.length.trans hl.2, call_sp R r2 l2 p⟩
  · rw [if_neg hl] at p
    exact p.elim
theorem se_call (C : Cq X T W k) (F0 : FnP X.prog X.w X.K X.mg X.base T kk f fd ps F) (hk : kk ≤ k) (bn : Bn X.K T fd ps n [] gD) (hm : X.mg x = some (.ref f)) (sa : SimA X T W (e :: es) ma) (hg : Gl X x := by rfl) (hdb : (x == ("__debug__" : Str)) = false := by decide)
    (he : starEach (e :: es) X.env = (false, eval e X.env) :: starEach es X.env := by exact star_no rfl) (hpl : (backTo pos (starEach es X.env)).any (·.1) = false := by rfl) : SimE X T W (.Call (.Name x p) (e :: es) [] pos) (mCall n 0 F gD ma (mArgs [])) := fun B w σ H fr h Q R pp => WE.mk <| fun pins s I => by
  obtain ⟨g, gV, hb, hgD⟩ := bn.ex
  refine wpAny_Call_Name_kw (ld_glob I hg hm ?_ hdb)
  refine PySem.W.callWith_K (h₀ := X.base) I.ok.mod.kin F0.kp (thn ((sa B w σ H fr h _ R (Post.bind (VR := vA X.K T B σ) pp fun ds fr1 h1 w1 H1 vs e1 l1 r1 rs p1 => call_end hgD r1 rs .nil p1)).go pos pins s I) fun us s1 ⟨vs, H1, I1, r, q⟩ => ⟨I1.kIn, ?_⟩) he hpl
  exact run_gen (ws := []) F0.ok (C.room.mono hk) hb C.takes I1 r .nil q.1 rfl q.2.2
theorem se_call0 (C : Cq X T W k) (F0 : FnP X.prog X.w X.K X.mg X.base T kk f fd ps F) (hk : kk ≤ k) (bn : Bn X.K T fd ps 0 [] gD) (hm : X.mg x = some (.ref f)) (hg : Gl X x := by rfl) (hdb : (x == ("__debug__" : Str)) = false := by decide) : SimE X T W (.Call (.Name x p) [] [] pos) (mCall 0 0 F gD (mArgs []) (mArgs [])) := fun B w σ H fr h Q R pp => WE.mk <| fun pins s I => by
  obtain ⟨g, gV, hb, hgD⟩ := bn.ex
  refine wpAny_Call_Name_kw (ld_glob I hg hm ?_ hdb)
  have q := call_end (vs := []) (zs := []) (ds := []) (es := []) hgD R .nil .nil pp
  exact PySem.W.callWith_K0 I.kIn F0.kp (run_gen (us := []) (ws := []) F0.ok (C.room.mono hk) hb C.takes I .nil .nil rfl rfl q.2.2)
theorem se_callK (C : Cq X T W k) (F0 : FnP X.prog X.w X.K X.mg X.base T kk f fd ps F) (hk : kk ≤ k) (bn : Bn X.K T fd ps n ks gD) (hm : X.mg x = some (.ref f)) (sa : SimA X T W (e :: es) ma) (sk : SimK X T W kws mk) (hg : Gl X x := by rfl) (hdb : (x == ("__debug__" : Str)) = false := by decide)
    (hall : (backToKw pos (keywordEach kws X.env)).all (·.1.isSome) = true := by rfl) (hks : (backToKw pos (keywordEach kws X.env)).filterMap (·.1) = ks := by rfl)
    (he : starEach (e :: es) X.env = (false, eval e X.env) :: starEach es X.env := by exact star_no rfl) (hpl : ((backTo pos (starEach (e :: es) X.env)).any (·.1) || (backToKw pos (keywordEach kws X.env)).any (·.1.isNone)) = false := by rfl) :
    SimE X T W (.Call (.Name x p) (e :: es) kws pos) (mCall n ks.length F gD ma mk) := fun B w σ H fr h Q R pp => WE.mk <| fun pins s I => by
  obtain ⟨g, gV, hb, hgD⟩ := bn.ex
  refine wpAny_Call_Name_kw (ld_glob I hg hm ?_ hdb)
  refine PySem.W.callWith_KW (h₀ := X.base) I.ok.mod.kin F0.kp hall (thn ((sa B w σ H fr h _ R (Post.bind (VR := vA X.K T B σ) pp fun ds fr1 h1 w1 H1 vs e1 l1 r1 rs p1 =>
    sk B w1 σ H1 fr1 h1 _ r1 (Post.bind (VR := vA X.K T B σ) p1 fun es fr2 h2 w2 H2 zs e2 l2 r2 rz p2 => call_end hgD r2 (rs.mono l2) rz p2))).go pos pins s I) fun us s1 ⟨vs, H1, I1, r, q⟩ => ?_) hpl he
  refine thn (q.go pos pins s1 I1) fun ws s2 ⟨zs, H2, I2, rz, q2⟩ => ⟨I2.kIn, ?_⟩
  rw [hks]
  exact run_gen F0.ok (C.room.mono hk) hb C.takes I2 r rz q2.1 q2.2.1 q2.2.2
theorem se_callK0 (C : Cq X T W k) (F0 : FnP X.prog X.w X.K X.mg X.base T kk f fd ps F) (hk : kk ≤ k) (bn : Bn X.K T fd ps 0 ks gD) (hm : X.mg x = some (.ref f)) (sk : SimK X T W kws mk) (hg : Gl X x := by rfl) (hdb : (x == ("__debug__" : Str)) = false := by decide)
    (hall : (backToKw pos (keywordEach kws X.env)).all (·.1.isSome) = true := by rfl) (hks : (backToKw pos (keywordEach kws X.env)).filterMap (·.1) = ks := by rfl)
    (hpl : ((backTo pos (starEach [] X.env)).any (·.1) || (backToKw pos (keywordEach kws X.env)).any (·.1.isNone)) = false := by rfl) :
    SimE X T W (.Call (.Name x p) [] kws pos) (mCall 0 ks.length F gD (mArgs []) mk) := fun B w σ H fr h Q R pp => WE.mk <| fun pins s I => by
  obtain ⟨g, gV, hb, hgD⟩ := bn.ex
  refine wpAny_Call_Name_kw (ld_glob I hg hm ?_ hdb)
  refine PySem.W.callWith_KW0 (h₀ := X.base) I.ok.mod.kin F0.kp hall ?_ hpl
  refine thn ((sk B w σ H fr h _ R (Post.bind (VR := vA X.K T B σ) pp fun es fr2 h2 w2 H2 zs e2 l2 r2 rz p2 => call_end (vs := []) (ds := []) hgD r2 .nil rz p2)).go pos pins s I) fun ws s2 ⟨zs, H2, I2, rz, q2⟩ => ⟨I2.kIn, ?_⟩
  rw [hks]
  exact run_gen (us := []) F0.ok (C.room.mono hk) hb C.takes I2 .nil rz q2.1 q2.2.1 q2.2.2
end
end Pk

/-! Pk11: instances made, methods, properties, isinstance, names of the module. -/
namespace Pk
open PySem PySem.Spec L2

structure BnI (K : PySem.W.Frag) (T : Tb) (fd : FuncData) (ps : List Str) (n : Nat) (ks : List Str) (gD : List D → List D → List D) : Prop where
  ex : ∃ (g : List Value → List Value → List Value) (gV gW : List V → List V → List V), KBn K fd ps (n + 1) ks g gV ∧ (∀ x vs zs, vs.length = n → zs.length = ks.length → gV (x :: vs) zs = x :: gW vs zs) ∧
    ∀ (w : Wd) (vs zs : List V) (ds es : List D), RelDs K T w vs ds → RelDs K T w zs es → ds.length = n → es.length = ks.length → RelDs K T w (gW vs zs) (gD ds es) ∧ (gD ds es).length + 1 = ps.length
theorem bnI_all {K : PySem.W.Frag} {T : Tb} {fd : FuncData} {ps : List Str} (n : Nat) (h : Binds K fd ps []) (hn : n + 1 = ps.length) : BnI K T fd ps n [] (gPos []) :=
  ⟨fun us _ => us, fun vs _ => vs, fun vs _ => vs, ⟨fun s us ws X l1 _ => by
    have b := h s us X (by rw [List.append_nil, l1]; exact hn)
    rw [List.append_nil] at b
    exact b, fun r _ => r⟩, fun _ _ _ _ _ => rfl, fun w vs zs ds es rs _ hl _ => ⟨by
      show RelDs K T w vs (ds ++ [])
      rw [List.append_nil]
      exact rs, by
      show (ds ++ []).length + 1 = _
      rw [List.append_nil, hl]
      exact hn⟩⟩
section
variable {X : Cx} {T : Tb} {W : WX} {k kk n c : Nat} {f : Addr} {fd : FuncData} {ps ks : List Str} {F : Fn} {x m : Str} {p pos apos : Pos} {e o : Expr} {es : List Expr} {kws : List Keyword} {mo : M D} {ma mk : M (List D)} {gD : List D → List D → List D}
theorem make_end {B : Bs} {w : Wd} {σ : L2.St} {H : Hp} {fr : Fr} {h : Hh} {m : Nat} {vs zs : List V} {ds es : List D} {Q : VK} {gV gW : List V → List V → List V} (hv : ∀ x vs zs, vs.length = n → zs.length = m → gV (x :: vs) zs = x :: gW vs zs)
    (hg : ∀ (w : Wd) (vs zs : List V) (ds es : List D), RelDs X.K T w vs ds → RelDs X.K T w zs es → ds.length = n → es.length = m → RelDs X.K T w (gW vs zs) (gD ds es) ∧ (gD ds es).length + 1 = ps.length)
    (R : Rel X.K T B w σ H fr h) (rs : RelDs X.K T w vs ds) (rz : RelDs X.K T w zs es) (p : Post X.K T B W (vE X.K T B σ) w σ (if ds.length = n ∧ es.length = m then liftR fr (F (gD ds es) h) else .err) Q) :
    vs.length = n ∧ zs.length = m ∧ ∀ x dx, H x = none → H dx = none → dx ≠ x → spI X.K T c ps.length F (gV (.ref x :: vs) zs) (upd (upd H dx (.own x)) x (.ins (T.cad c) dx [])) (fun v H2 => v = .non ∧ Q (.ref x) H2) (fun c d H' => W c d σ H') := by
  by_cases hl : ds.length = n ∧ es.length = m
  · rw [if_pos hl] at p
    obtain ⟨r2, l2⟩ := hg w vs zs ds es rs rz hl.1 hl.2
    refine ⟨rs.length.trans hl.1, rz.length.trans hl.2, fun x dx nx nd ne => ?_⟩
    rw [hv _ _ _ (rs.length.trans hl.1) (rz.length.trans hl.2)]
    exact call_spI R r2 l2 nx nd ne p
  · rw [if_neg hl] at p
    exact p.elim
theorem se_make (C : Cq X T W k) (F0 : FnI X.prog X.w X.K X.mg X.base T kk c f fd ps F) (hk : kk + 1 ≤ k) (bn : BnI X.K T fd ps n [] gD) (hm : X.mg x = some (.ref (T.cad c))) (sa : SimA X T W (e :: es) ma) (hg : Gl X x := by rfl) (hdb : (x == ("__debug__" : Str)) = false := by decide)
    (he : starEach (e :: es) X.env = (false, eval e X.env) :: starEach es X.env := by exact star_no rfl) (hpl : (backTo pos (starEach es X.env)).any (·.1) = false := by rfl) : SimE X T W (.Call (.Name x p) (e :: es) [] pos) (mCall n 0 F gD ma (mArgs [])) := fun B w σ H fr h Q R pp => WE.mk <| fun pins s I => by
  obtain ⟨g, gV, gW, hb, hv, hgD⟩ := bn.ex
  refine wpAny_Call_Name_kw (ld_glob I hg hm ?_ hdb)
  refine PySem.W.callWith_K (h₀ := X.base) I.ok.mod.kin F0.made.kp (thn ((sa B w σ H fr h _ R (Post.bind (VR := vA X.K T B σ) pp fun ds fr1 h1 w1 H1 vs e1 l1 r1 rs p1 => make_end (c := c) hv hgD r1 rs .nil p1)).go pos pins s I) fun us s1 ⟨vs, H1, I1, r, q⟩ => ⟨I1.kIn, ?_⟩) he hpl
  exact run_mk (ws := []) F0.made F0.ok (C.room.mono hk) hb C.takes I1 r .nil q.1 rfl q.2.2
theorem se_make0 (C : Cq X T W k) (F0 : FnI X.prog X.w X.K X.mg X.base T kk c f fd ps F) (hk : kk + 1 ≤ k) (bn : BnI X.K T fd ps 0 [] gD) (hm : X.mg x = some (.ref (T.cad c))) (hg : Gl X x := by rfl) (hdb : (x == ("__debug__" : Str)) = false := by decide) : SimE X T W (.Call (.Name x p) [] [] pos) (mCall 0 0 F gD (mArgs []) (mArgs [])) := fun B w σ H fr h Q R pp => WE.mk <| fun pins s I => by
  obtain ⟨g, gV, gW, hb, hv, hgD⟩ := bn.ex
  refine wpAny_Call_Name_kw (ld_glob I hg hm ?_ hdb)
  have q := make_end (c := c) (vs := []) (zs := []) (ds := []) (es := []) hv hgD R .nil .nil pp
  exact PySem.W.callWith_K0 I.kIn F0.made.kp (run_mk (us := []) (ws := []) F0.made F0.ok (C.room.mono hk) hb C.takes I .nil .nil rfl rfl q.2.2)
theorem se_makeK (C : Cq X T W k) (F0 : FnI X.prog X.w X.K X.mg X.base T kk c f fd ps F) (hk : kk + 1 ≤ k) (bn : BnI X.K T fd ps n ks gD) (hm : X.mg x = some (.ref (T.cad c))) (sa : SimA X T W (e :: es) ma) (sk : SimK X T W kws mk) (hg : Gl X x := by rfl) (hdb : (x == ("__debug__" : Str)) = false := by decide)
    (hall : (backToKw pos (keywordEach kws X.env)).all (·.1.isSome) = true := by rfl) (hks : (backToKw pos (keywordEach kws X.env)).filterMap (·.1) = ks := by rfl)
    (he : starEach (e :: es) X.env = (false, eval e X.env) :: starEach es X.env := by exact star_no rfl) (hpl : ((backTo pos (starEach (e :: es) X.env)).any (·.1) || (backToKw pos (keywordEach kws X.env)).any (·.1.isNone)) = false := by rfl) :
    SimE X T W (.Call (.Name x p) (e :: es) kws pos) (mCall n ks.length F gD ma mk) := fun B w σ H fr h Q R pp => WE.mk <| fun pins s I => by
  obtain ⟨g, gV, gW, hb, hv, hgD⟩ := bn.ex
  refine wpAny_Call_Name_kw (ld_glob I hg hm ?_ hdb)
  refine PySem.W.callWith_KW (h₀ := X.base) I.ok.mod.kin F0.made.kp hall (thn ((sa B w σ H fr h _ R (Post.bind (VR := vA X.K T B σ) pp fun ds fr1 h1 w1 H1 vs e1 l1 r1 rs p1 =>
    sk B w1 σ H1 fr1 h1 _ r1 (Post.bind (VR := vA X.K T B σ) p1 fun es fr2 h2 w2 H2 zs e2 l2 r2 rz p2 => make_end (c := c) hv hgD r2 (rs.mono l2) rz p2))).go pos pins s I) fun us s1 ⟨vs, H1, I1, r, q⟩ => ?_) hpl he
  refine thn (q.go pos pins s1 I1) fun ws s2 ⟨zs, H2, I2, rz, q2⟩ => ⟨I2.kIn, ?_⟩
  rw [hks]
  exact run_mk F0.made F0.ok (C.room.mono hk) hb C.takes I2 r rz q2.1 q2.2.1 q2.2.2
theorem se_makeK0 (C : Cq X T W k) (F0 : FnI X.prog X.w X.K X.mg X.base T kk c f fd ps F) (hk : kk + 1 ≤ k) (bn : BnI X.K T fd ps 0 ks gD) (hm : X.mg x = some (.ref (T.cad c))) (sk : SimK X T W kws mk) (hg : Gl X x := by rfl) (hdb : (x == ("__debug__" : Str)) = false := by decide)
    (hall : (backToKw pos (keywordEach kws X.env)).all (·.1.isSome) = true := by rfl) (hks : (backToKw pos (keywordEach kws X.env)).filterMap (·.1) = ks := by rfl)
    (hpl : ((backTo pos (starEach [] X.env)).any (·.1) || (backToKw pos (keywordEach kws X.env)).any (·.1.isNone)) = false := by rfl) :
    SimE X T W (.Call (.Name x p) [] kws pos) (mCall 0 ks.length F gD (mArgs []) mk) := fun B w σ H fr h Q R pp => WE.mk <| fun pins s I => by
  obtain ⟨g, gV, gW, hb, hv, hgD⟩ := bn.ex
  refine wpAny_Call_Name_kw (ld_glob I hg hm ?_ hdb)
  refine PySem.W.callWith_KW0 (h₀ := X.base) I.ok.mod.kin F0.made.kp hall ?_ hpl
  refine thn ((sk B w σ H fr h _ R (Post.bind (VR := vA X.K T B σ) pp fun es fr2 h2 w2 H2 zs e2 l2 r2 rz p2 => make_end (c := c) (vs := []) (ds := []) hv hgD r2 .nil rz p2)).go pos pins s I) fun ws s2 ⟨zs, H2, I2, rz, q2⟩ => ⟨I2.kIn, ?_⟩
  rw [hks]
  exact run_mk (us := []) F0.made F0.ok (C.room.mono hk) hb C.takes I2 .nil rz q2.1 q2.2.1 q2.2.2

/-! ### o.m(..), o.f a property -/
theorem zip_lookup_none {α : Type} {f : Str} : ∀ {fs : List Str} {vs : List α}, f ∉ fs → (fs.zip vs).lookup f = none
  | [], _, _ => rfl
  | g :: fs, [], _ => by simp
  | g :: fs, v :: vs, h => by
    rw [List.mem_cons, not_or] at h
    show List.lookup f ((g, v) :: fs.zip vs) = none
    rw [List.lookup_cons, beq_eq_false_iff_ne.mpr h.1]
    exact zip_lookup_none h.2
structure MethF (X : Cx) (T : Tb) (k : Nat) (m : Str) (mt : Nat → Option Fn) (n : Nat) (ks : List Str) (gD : List D → List D → List D) : Prop where
  ex : ∀ c F, mt c = some F → ∃ (kk : Nat) (f : Addr) (fd : FuncData) (ps : List Str), Cls X.K (T.cad c) ∧ Meth X.K (T.cad c) m f ∧ FnP X.prog X.w X.K X.mg X.base T kk f fd ps F ∧ Bn X.K T fd ps (n + 1) ks gD ∧ m ∉ T.fld c ∧ kk ≤ k
def fnOf (mt : Nat → Option Fn) (h : Hh) (o : D) : Option Fn := match o.ins h with
  | some (c, _) => mt c
  | none => none
def mMeth (n m : Nat) (mt : Nat → Option Fn) (gD : List D → List D → List D) (mo : M D) (ma mk : M (List D)) : M D := mo.bind fun o fr h => match fnOf mt h o with
  | some F => (mCall (n + 1) m F gD (ma.bind fun ds => M.ret (o :: ds)) mk) fr h
  | none => .err
theorem meth_open {B : Bs} {w : Wd} {σ : L2.St} {H : Hp} {fr : Fr} {h : Hh} {mt : Nat → Option Fn} {v : V} {d : D} {G : Fn} (M : MethF X T k m mt n ks gD) (R : Rel X.K T B w σ H fr h) (rv : RelD X.K T w v d) (e : fnOf mt h d = some G) :
    ∃ (kk : Nat) (f : Addr) (fd : FuncData) (ps : List Str) (a C dx : Addr) (fs : List (Str × V)), v = .ref a ∧ H a = some (.ins C dx fs) ∧ fs.lookup m = none ∧ Cls X.K C ∧ Meth X.K C m f ∧ FnP X.prog X.w X.K X.mg X.base T kk f fd ps G ∧ Bn X.K T fd ps (n + 1) ks gD ∧ kk ≤ k := by
  unfold fnOf at e
  split at e
  · rename_i c fs ei
    obtain ⟨kk, f, fd, ps, c1, c2, c3, c4, c5, c6⟩ := M.ex c G e
    obtain ⟨a, dx, vs, rfl, eH, rs⟩ := ins_rel R (.inl rv) ei
    exact ⟨kk, f, fd, ps, a, T.cad c, dx, _, rfl, eH, zip_lookup_none c5, c1, c2, c3, c4, c6⟩
  · cases e
theorem se_meth {pl : Sem Bool} {mt : Nat → Option Fn} (C : Cq X T W k) (Mf : MethF X T k m mt n [] gD) (so : SimV X T W o mo) (sa : SimA X T W (e :: es) ma)
    (hst : starEach (e :: es) X.env = (false, eval e X.env) :: starEach es X.env := by exact star_no rfl) (hpl : (backTo pos (starEach es X.env)).any (·.1) = false := by rfl)
    (ht : eval (.Call (.Attribute o m apos) (e :: es) [] pos) X.env = (do
      let ov ← eval o X.env
      standAt apos.atName
      let (f, first) ← holding [ov] (getMethod ov m pl)
      callWith pos f first (backTo pos (starEach (e :: es) X.env)) (backToKw pos (keywordEach [] X.env))) := by rfl) :
    SimE X T W (.Call (.Attribute o m apos) (e :: es) [] pos) (mMeth n 0 mt gD mo ma (mArgs [])) := fun B w σ H fr h Q R pp => WE.mk <| fun pins s I => by
  refine PySem.W.methodCall_KW (pl := pl) (thn ((so B w σ H fr h (fun v H1 => ∃ (kk : Nat) (f : Addr) (fd : FuncData) (ps : List Str) (a C dx : Addr) (fs : List (Str × V)) (G : Fn), v = .ref a ∧ H1 a = some (.ins C dx fs) ∧ fs.lookup m = none ∧ Cls X.K C ∧ Meth X.K C m f ∧ FnP X.prog X.w X.K X.mg X.base T kk f fd ps G ∧ Bn X.K T fd ps (n + 1) [] gD ∧ kk ≤ k ∧
      ∀ g gV, KBn X.K fd ps (n + 1) [] g gV → (∀ (w : Wd) (vs zs : List V) (ds es : List D), RelDs X.K T w vs ds → RelDs X.K T w zs es → ds.length = n + 1 → es.length = ([] : List Str).length → RelDs X.K T w (gV vs zs) (gD ds es) ∧ (gD ds es).length = ps.length) →
        WA X (e :: es) σ H1 fun vs H2 => (.ref a :: vs).length = n + 1 ∧ spF X.K T ps.length G (gV (.ref a :: vs) []) H2 Q (fun c d H' => W c d σ H')) R (Post.bind (VR := vV X.K T B σ) pp fun d fr1 h1 w1 H1 v e1 l1 r1 rv p1 => ?_)).go pins s I) fun u s1 ⟨x, H1, I1, rx, kk, f, fd, ps, a, Cl, dx, fs, G, ex, ea, l, c1, c2, c3, c4, c5, q⟩ => ?_) ht
  · have p1' : Post X.K T B W (vE X.K T B σ) w1 σ (match fnOf mt h1 d with | some F => (mCall (n + 1) 0 F gD (ma.bind fun ds => M.ret (d :: ds)) (mArgs [])) fr1 h1 | none => .err) Q := p1
    cases ef : fnOf mt h1 d with
    | none => rw [ef] at p1'; exact p1'.elim
    | some G =>
      rw [ef] at p1'
      obtain ⟨kk, f, fd, ps, a, Cl, dx, fs, rfl, eH, l, c1, c2, c3, c4, c5⟩ := meth_open Mf r1 rv ef
      refine ⟨kk, f, fd, ps, a, Cl, dx, fs, G, rfl, eH, l, c1, c2, c3, c4, c5, fun g gV hb hgD => ?_⟩
      have p2 : Post X.K T B W (vE X.K T B σ) w1 σ ((ma.bind fun ds fr h => if (d :: ds).length = n + 1 ∧ ([] : List D).length = 0 then liftR fr (G (gD (d :: ds) []) h) else .err) fr1 h1) Q := by
        have ee : (mCall (n + 1) 0 G gD (ma.bind fun ds => M.ret (d :: ds)) (mArgs [])) fr1 h1 = (ma.bind fun ds fr h => if (d :: ds).length = n + 1 ∧ ([] : List D).length = 0 then liftR fr (G (gD (d :: ds) []) h) else .err) fr1 h1 := by
          unfold mCall M.bind
          cases ma fr1 h1 <;> rfl
        rw [← ee]
        exact p1'
      refine sa B w1 σ H1 fr1 h1 _ r1 (Post.bind (VR := vA X.K T B σ) p2 fun ds fr2 h2 w2 H2 vs e2 l2 r2 rs p3 => ?_)
      have q := call_end (n := n + 1) (m := 0) (zs := []) (es := []) hgD r2 (.cons (rv.mono l2) rs) .nil p3
      exact ⟨q.1, q.2.2⟩
  · subst ex
    obtain rfl : u = Value.ref a := rx
    obtain ⟨g, gV, hb, hgD⟩ := c4.ex
    refine getmeth_ok I1 ea c1 c2 l ?_
    refine PySem.W.callWith_K (first := [.ref a]) (h₀ := X.base) I.ok.mod.kin c2.kp (thn ((q g gV hb hgD).go pos pins s1 I1) fun us s2 ⟨vs, H2, I2, r, q2⟩ => ⟨I2.kIn, ?_⟩) hst hpl
    exact run_gen (us := .ref a :: us) (ws := []) (vs := .ref a :: vs) c3.ok (C.room.mono c5) hb C.takes I2 (.cons rfl r) .nil q2.1 rfl q2.2
theorem se_meth0 {pl : Sem Bool} {mt : Nat → Option Fn} (C : Cq X T W k) (Mf : MethF X T k m mt 0 [] gD) (so : SimV X T W o mo)
    (ht : eval (.Call (.Attribute o m apos) [] [] pos) X.env = (do
      let ov ← eval o X.env
      standAt apos.atName
      let (f, first) ← holding [ov] (getMethod ov m pl)
      callWith pos f first (backTo pos (starEach [] X.env)) (backToKw pos (keywordEach [] X.env))) := by rfl) :
    SimE X T W (.Call (.Attribute o m apos) [] [] pos) (mMeth 0 0 mt gD mo (mArgs []) (mArgs [])) := fun B w σ H fr h Q R pp => WE.mk <| fun pins s I => by
  refine PySem.W.methodCall_KW (pl := pl) (thn ((so B w σ H fr h (fun v H1 => ∃ (kk : Nat) (f : Addr) (fd : FuncData) (ps : List Str) (a C dx : Addr) (fs : List (Str × V)) (G : Fn), v = .ref a ∧ H1 a = some (.ins C dx fs) ∧ fs.lookup m = none ∧ Cls X.K C ∧ Meth X.K C m f ∧ FnP X.prog X.w X.K X.mg X.base T kk f fd ps G ∧ Bn X.K T fd ps (0 + 1) [] gD ∧ kk ≤ k ∧
      ∀ g gV, KBn X.K fd ps (0 + 1) [] g gV → (∀ (w : Wd) (vs zs : List V) (ds es : List D), RelDs X.K T w vs ds → RelDs X.K T w zs es → ds.length = 0 + 1 → es.length = ([] : List Str).length → RelDs X.K T w (gV vs zs) (gD ds es) ∧ (gD ds es).length = ps.length) →
        spF X.K T ps.length G (gV [.ref a] []) H1 Q (fun c d H' => W c d σ H')) R (Post.bind (VR := vV X.K T B σ) pp fun d fr1 h1 w1 H1 v e1 l1 r1 rv p1 => ?_)).go pins s I) fun u s1 ⟨x, H1, I1, rx, kk, f, fd, ps, a, Cl, dx, fs, G, ex, ea, l, c1, c2, c3, c4, c5, q⟩ => ?_) ht
  · have p1' : Post X.K T B W (vE X.K T B σ) w1 σ (match fnOf mt h1 d with | some F => (mCall (0 + 1) 0 F gD ((mArgs []).bind fun ds => M.ret (d :: ds)) (mArgs [])) fr1 h1 | none => .err) Q := p1
    cases ef : fnOf mt h1 d with
    | none => rw [ef] at p1'; exact p1'.elim
    | some G =>
      rw [ef] at p1'
      obtain ⟨kk, f, fd, ps, a, Cl, dx, fs, rfl, eH, l, c1, c2, c3, c4, c5⟩ := meth_open Mf r1 rv ef
      refine ⟨kk, f, fd, ps, a, Cl, dx, fs, G, rfl, eH, l, c1, c2, c3, c4, c5, fun g gV hb hgD => ?_⟩
      exact (call_end (n := 0 + 1) (m := 0) (zs := []) (es := []) (ds := [d]) hgD r1 (.cons rv .nil) .nil p1').2.2
  · subst ex
    obtain rfl : u = Value.ref a := rx
    obtain ⟨g, gV, hb, hgD⟩ := c4.ex
    refine getmeth_ok I1 ea c1 c2 l ?_
    exact PySem.W.callWith_K0 (first := [.ref a]) I1.kIn c2.kp (run_gen (us := [.ref a]) (ws := []) (vs := [.ref a]) c3.ok (C.room.mono c5) hb C.takes I1 (.cons rfl .nil) .nil rfl rfl (q g gV hb hgD))
/-- o.f, a property (it lets out nothing) -/
structure PropF (X : Cx) (T : Tb) (k : Nat) (m : Str) (mt : Nat → Option Fn) : Prop where
  ex : ∀ c F, mt c = some F → ∃ (kk : Nat) (pa f : Addr) (fd : FuncData) (ps : List Str), Cls X.K (T.cad c) ∧ PropOf X.K (T.cad c) m pa f ∧ FnP X.prog X.w X.K X.mg X.base T kk f fd ps F ∧ Binds X.K fd ps [] ∧ ps.length = 1 ∧ kk + 1 ≤ k
def mProp (mt : Nat → Option Fn) (mo : M D) : M D := mo.bind fun o fr h => match fnOf mt h o with
  | some F => match F [o] h with
    | .ok d _ h => .ok d fr h
    | _ => .err
  | none => .err
theorem passes_none {X : Cx} : Passes (L2.CX X.prog X.w) X.nox (fun _ _ _ => False) := fun pins σ H s e s' I c => by
  obtain ⟨a, B, H', cls, d, rfl, fl, hok, ub, na, os, ag, hE⟩ := c
  exact hE.elim
theorem se_prop {mt : Nat → Option Fn} (C : Cq X T W k) (M : PropF X T k m mt) (so : SimV X T W o mo) (hab : attributeBase o m X.env (eval o X.env) = eval o X.env := by rfl) : SimE X T W (.Attribute o m pos) (mProp mt mo) := fun B w σ H fr h Q R pp => WE.mk <| fun pins s I => by
  refine attr_of hab (thn ((so B w σ H fr h (fun v H1 => ∃ (kk : Nat) (pa f : Addr) (fd : FuncData) (ps : List Str) (a C dx : Addr) (fs : List (Str × V)) (G : Fn), v = .ref a ∧ H1 a = some (.ins C dx fs) ∧ Cls X.K C ∧ PropOf X.K C m pa f ∧ FnP X.prog X.w X.K X.mg X.base T kk f fd ps G ∧ Binds X.K fd ps [] ∧ kk + 1 ≤ k ∧ spF X.K T ps.length G [.ref a] H1 Q (fun _ _ _ => False))
    R (Post.bind (VR := vV X.K T B σ) pp fun d fr1 h1 w1 H1 v e1 l1 r1 rv p1 => ?_)).go pins s I) fun u s1 ⟨x, H1, I1, rx, kk, pa, f, fd, ps, a, Cl, dx, fs, G, ex, ea, c1, c2, c3, c4, c5, q⟩ => ?_)
  · have p1' : Post X.K T B W (vE X.K T B σ) w1 σ (match fnOf mt h1 d with | some F => (match F [d] h1 with | .ok d _ h => .ok d fr1 h | _ => .err) | none => .err) Q := p1
    cases ef : fnOf mt h1 d with
    | none => rw [ef] at p1'; exact p1'.elim
    | some G =>
      rw [ef] at p1'
      have ei : ∃ c fs, d.ins h1 = some (c, fs) ∧ mt c = some G := by
        unfold fnOf at ef
        split at ef
        · rename_i c fs ei
          exact ⟨c, fs, ei, ef⟩
        · cases ef
      obtain ⟨c, fs, ei, em⟩ := ei
      obtain ⟨kk, pa, f, fd, ps, c1, c2, c3, c4, c5, c6⟩ := M.ex c G em
      obtain ⟨a, dx, vs, rfl, eH, rs⟩ := ins_rel r1 (.inl rv) ei
      refine ⟨kk, pa, f, fd, ps, a, T.cad c, dx, _, G, rfl, eH, c1, c2, c3, c4, c6, ?_⟩
      have z := call_sp (W := WF) (n := ps.length) (F := G) (Q := Q) r1 (.cons rv .nil) (show [d].length = ps.length from c5.symm) (by
        dsimp only at p1'
        cases e : G [d] h1 with
        | ok d' fr' h' => rw [e] at p1'; exact p1'
        | exc _ _ _ => rw [e] at p1'; exact p1'.elim
        | err => rw [e] at p1'; exact p1'.elim)
      exact z
  · subst ex
    obtain rfl : u = Value.ref a := rx
    exact getprop_ok (dvs := []) I1 ea c1 c2 c3.ok (C.room.mono c5) c4 .nil passes_none q
end
end Pk

/-! Pk12: isinstance, names of the module. -/
namespace Pk
open PySem PySem.Spec L2

section
variable {X : Cx} {T : Tb} {W : WX} {k c : Nat} {x : Str} {pos : Pos}
theorem sv_cls (hm : X.mg x = some (.ref (T.cad c))) (hg : Gl X x := by rfl) (hd : (x == ("__debug__" : Str)) = false := by decide) : SimV X T W (.Name x pos) (mC (.cls c)) := fun B w σ H fr h Q r p =>
  pe_we (pe_glob (v := .ref (T.cad c)) hg hm rfl hd) (p w H _ (Wd.le_refl _) r (.cls c))
theorem sv_ty {t : String} (hm : X.mg x = none) (hg : Gl X x := by rfl) (hv : bootBuiltins x = some (.type t) := by decide +kernel) (hn : x ≠ "__name__" := by decide) (hd : (x == ("__debug__" : Str)) = false := by decide) : SimV X T W (.Name x pos) (mC (.ty t)) := fun B w σ H fr h Q r p =>
  pe_we (pe_bltn (v := .ty t) hg hm hv rfl hn hd) (p w H _ (Wd.le_refl _) r (.ty t))
/-- a constant of the module -/
structure KonF (X : Cx) (T : Tb) (x : Str) (d : D) : Prop where
  ex : ∃ (u : Value) (v : V), X.mg x = some u ∧ RelV v u ∧ RelD X.K T ⟨fun _ => none, []⟩ v d
theorem Wd.le_bot (w : Wd) : Wd.le ⟨fun _ => none, []⟩ w := by
  refine ⟨fun a o q => ?_, w.I, rfl⟩
  have q' : (none : Option HO) = some o := q
  cases q'
theorem sv_kon {d : D} (F : KonF X T x d) (hg : Gl X x := by rfl) (hd : (x == ("__debug__" : Str)) = false := by decide) : SimV X T W (.Name x pos) (mC d) := fun B w σ H fr h Q r p => by
  obtain ⟨u, v, hm, ru, rd⟩ := F.ex
  exact pe_we (pe_glob hg hm ru hd) (p w H _ (Wd.le_refl _) r (rd.mono (Wd.le_bot w)))
end

/-! ### isinstance -/
inductive Tg where
  | b (t : String) | o (c : Nat)
  deriving DecidableEq
def Tg.v (T : Tb) : Tg → Value
  | .b t => .type t
  | .o c => .ref (T.cad c)
def D.tag (h : Hh) (d : D) : Option Tg := match d.der h with
  | .non => some (.b "NoneType")
  | .bl _ => some (.b "bool")
  | .int _ => some (.b "int")
  | .str _ => some (.b "str")
  | .tup _ => some (.b "tuple")
  | .fl _ => some (.b "list")
  | .nl _ => some (.b "list")
  | .kl _ => some (.b "list")
  | .obj c _ => some (.o c)
  | .no c _ => some (.o c)
  | _ => none
def D.ctag : D → Option Tg
  | .ty t => some (.b t)
  | .cls c => some (.o c)
  | _ => none
/-- an object's class as isinstance wants it -/
structure InsF (K : PySem.W.Frag) (C : Addr) : Prop where
  cls : Cls K C
  ha : PySem.W.findIn K (.ref C) "__class__" = some (some (.builtin "object.__class__"))
  hn : PySem.W.specialIn K (.builtin "object.__class__") "__get__" = some (some (.builtin "getset_descriptor.__get__"))
  htk : PySem.W.takesIn K (.builtin "object.__class__") = some true
  hm : PySem.W.mroIn K C (.type "object") = some true
structure IsiF (K : PySem.W.Frag) (T : Tb) (tab : Tg → Tg → Option Bool) : Prop where
  kit : ∀ t u b, tab t u = some b → PySem.W.kitOne K (t.v T) (u.v T) = some b
  ins : ∀ c u b, tab (.o c) u = some b → InsF K (T.cad c)
/-- built-in types -/
def bTys : List String := ["NoneType", "bool", "int", "str", "tuple", "list"]
def bTab (a b : String) : Option Bool := if bTys.contains a && bTys.contains b then some (a == b || (a == "bool" && b == "int")) else none
theorem bTab_ok : ∀ a b r, bTab a b = some r → kitB a b = some r := by
  have key : ∀ a ∈ bTys, ∀ b ∈ bTys, kitB a b = bTab a b := by decide +kernel
  intro a b r h
  unfold bTab at h
  split at h
  · rename_i hh
    obtain ⟨h1, h2⟩ := Bool.and_eq_true_iff.mp hh
    rw [key a (List.contains_iff_mem.mp h1) b (List.contains_iff_mem.mp h2)]
    unfold bTab
    rw [if_pos hh]
    exact h
  · cases h
def ctags : List D → Option (List Tg)
  | [] => some []
  | d :: ds => match d.ctag, ctags ds with
    | some u, some us => some (u :: us)
    | _, _ => none
def isiAny (tab : Tg → Tg → Option Bool) (t : Tg) : List Tg → Option Bool
  | [] => some false
  | u :: us => match tab t u with
    | some true => some true
    | some false => isiAny tab t us
    | none => none
def bIsi (tab : Tg → Tg → Option Bool) (h : Hh) (d c : D) : Option D := match d.tag h with
  | some t => match c with
    | .tup l => match ctags l with
      | some (u :: us) => (isiAny tab t (u :: us)).map .bl
      | _ => none
    | c => match c.ctag with
      | some u => (tab t u).map .bl
      | none => none
  | none => none
section
variable {X : Cx} {T : Tb} {W : WX} {k : Nat} {pos pf : Pos} {a b : Expr} {ma mb : M D} {tab : Tg → Tg → Option Bool}
theorem ctag_rel {K : PySem.W.Frag} {w : Wd} {v : V} {d : D} {u : Tg} (r : RelD K T w v d) (e : d.ctag = some u) : ClsV v (u.v T) := by
  cases r <;> cases e
  · exact .own _
  · exact .ty _
theorem tag_rel {K : PySem.W.Frag} {B : Bs} {w : Wd} {σ : L2.St} {H : Hp} {fr : Fr} {h : Hh} {v : V} {d : D} {t u : Tg} {bb : Bool} (F : IsiF K T tab) (R : Rel K T B w σ H fr h) (rv : vO K T B σ w H fr v d) (e : d.tag h = some t) (e2 : tab t u = some bb) : TyX K H v (t.v T) := by
  have sqT : ∀ {a : Addr} {vs : List V}, SqT K H a vs → TyX K H (.ref a) (.type "tuple") := fun {a vs} q => by
    rcases q with (q | ⟨o, q⟩) | ⟨o, its, n, q1, q2, _⟩
    · exact .base (.tup q)
    · exact .fTuple q
    · exact .kTuple q1 q2
  have sqL : ∀ {a : Addr} {vs : List V}, SqL K H a vs → TyX K H (.ref a) (.type "list") := fun {a vs} q => by
    rcases q with (q | ⟨o, q⟩) | ⟨o, its, n, q1, q2, _⟩
    · exact .base (.lst q)
    · exact .base (.frz q)
    · exact .kList q1 q2
  have ins : ∀ {c : Nat} {a dx : Addr} {fs : List (Str × V)}, tab (.o c) u = some bb → H a = some (.ins (T.cad c) dx fs) → TyX K H (.ref a) (.ref (T.cad c)) := fun {c a dx fs} q eH => by
    have i := F.ins c u bb q
    exact .base (.ins eH i.cls i.ha i.hn i.htk i.hm)
  rcases rv with rv | ⟨p, o, rfl, eH, rv⟩
  · cases rv with
    | non => cases e; exact .base .non
    | bl b => cases e; exact .base (.bl b)
    | int i => cases e; exact .base (.int i)
    | str s => cases e; exact .base (.str s)
    | tup s r => cases e; exact sqT (sqT_le R.sub s)
    | fl s r => cases e; exact .base (.lst (R.sub _ _ s))
    | kl s r => cases e; exact sqL (sqL_le R.sub s)
    | obj s r => cases e; exact ins e2 (R.sub _ _ s)
    | @ref a n s =>
      have ln : n < h.length := by
        rw [← R.len]
        exact (List.getElem?_eq_some_iff.mp s).1
      obtain ⟨o, q, rr⟩ := R.cel n a h[n] s (List.getElem?_eq_getElem ln)
      have e0 : D.der h (.ref n) = h[n] := by
        unfold D.der
        dsimp only
        rw [List.getElem?_eq_getElem ln]
        rfl
      unfold D.tag at e
      rw [e0] at e
      generalize h[n] = cc at rr e
      cases rr with
      | lst r => cases e; exact .base (.lst q)
      | obj r => cases e; exact ins e2 q
    | cls _ => cases e
    | ty _ => cases e
  · cases rv with
    | lst r => cases e; exact .base (.lst eH)
    | obj r => cases e; exact ins e2 eH
theorem ctags_rel {K : PySem.W.Frag} {w : Wd} : ∀ {vs : List V} {ds : List D} {us : List Tg}, RelDs K T w vs ds → ctags ds = some us → Paired ClsV vs (us.map (Tg.v T))
  | _, _, _, .nil, e => by cases e; exact .nil
  | _, _, _, @RelDs.cons _ _ _ v d vs ds r rr, e => by
    unfold ctags at e
    cases e1 : d.ctag with
    | none => rw [e1] at e; cases e
    | some u =>
      cases e2 : ctags ds with
      | none => rw [e1, e2] at e; cases e
      | some us =>
        rw [e1, e2] at e
        cases e
        exact .cons (ctag_rel r e1) (ctags_rel rr e2)
theorem isiAny_rel {K : PySem.W.Frag} {t : Tg} {bb : Bool} (F : IsiF K T tab) : ∀ {us : List Tg}, isiAny tab t us = some bb → PySem.W.kitAny K (t.v T) (us.map (Tg.v T)) = some bb
  | [], e => by cases e; exact kitAny_nil
  | u :: us, e => by
    unfold isiAny at e
    cases et : tab t u with
    | none => rw [et] at e; cases e
    | some b1 =>
      rw [et] at e
      cases b1 with
      | false => exact kitAny_cons (F.kit t u false et) (fun _ => isiAny_rel F e) (fun z => by cases z)
      | true =>
        cases e
        exact kitAny_cons (F.kit t u true et) (fun z => by cases z) (fun _ => rfl)
theorem isiAny_some {t : Tg} {bb : Bool} {us : List Tg} (e : isiAny tab t us = some bb) : us = [] ∨ ∃ u b, tab t u = some b := by
  cases us with
  | nil => exact .inl rfl
  | cons u us =>
    right
    unfold isiAny at e
    cases et : tab t u with
    | none => rw [et] at e; cases e
    | some b => exact ⟨u, b, et⟩
theorem call_isiQ : CallR X (.builtin "isinstance") (fun xs H Q => ∃ (x : V) (tp : Addr) (cs : List V) (t : Value) (us : List Value) (b : Bool), xs = [x, .ref tp] ∧ SqT X.K H tp cs ∧ Paired ClsV cs us ∧ TyX X.K H x t ∧ PySem.W.kitAny X.K t us = some b ∧ Q (.bl b) H) := by
  intro pins s σ H xs us Q I r h
  obtain ⟨x, tp, cs, t, ws, b, rfl, hT, k, ty, e, q⟩ := h
  obtain ⟨u1, u2, rfl, r1, r2⟩ := vals2 r
  cases (show u2 = Value.ref tp from r2)
  obtain ⟨P, Z, p, hx⟩ := kit_of I r1 ty
  obtain ⟨its, rv, pl, _⟩ := I.tuple hT
  obtain ⟨o, h1, h2, n, h3⟩ := pl
  have e3 := ClsV.all k rv
  subst e3
  obtain ⟨oc, od, dt, sl⟩ := o
  simp only at h2 h3
  subst h2 h3
  exact PySem.W.kia_tup Z I.kIn p h1 e hx fun tk => ⟨.bl b, H, I.tok tk, rfl, q⟩
theorem sv_isi (F : IsiF X.K T tab) (sa : SimV X T W a ma) (sb : SimV X T W b mb) (hm : X.mg "isinstance" = none) (hg : Gl X "isinstance" := by rfl) (he : starEach (a :: b :: []) X.env = (false, eval a X.env) :: starEach (b :: []) X.env := by exact star_no rfl) (he2 : starEach (b :: []) X.env = (false, eval b X.env) :: starEach [] X.env := by exact star_no rfl)
    (hpl : (backTo pos (starEach (b :: []) X.env)).any (·.1) = false := by rfl) : SimV X T W (.Call (.Name "isinstance" pf) [a, b] [] pos) (mOp (bIsi tab) ma mb) :=
  s_b2 (id := "isinstance") sa sb (fun B w σ H fr h x y d e z Q R rx ry q kk => by
    have ry : RelD X.K T w y e := ry
    unfold bIsi at q
    cases et : d.tag h with
    | none => rw [et] at q; cases q
    | some t =>
      rw [et] at q
      have one : ∀ u, e.ctag = some u → (tab t u).map D.bl = some z → cM X (.builtin "isinstance") [x, y] H Q := fun u ec eq => by
        obtain ⟨bb, eb, rfl⟩ := Option.map_eq_some_iff.mp eq
        exact call_cm call_isi ⟨x, y, t.v T, u.v T, bb, rfl, ctag_rel ry ec, tag_rel F R (.inl rx) et eb, F.kit t u bb eb, kk w H _ (Wd.le_refl _) R (.bl bb)⟩
      cases e with
      | tup l =>
        dsimp only at q
        cases ec : ctags l with
        | none => rw [ec] at q; cases q
        | some us =>
          rw [ec] at q
          cases us with
          | nil => cases q
          | cons u us =>
            obtain ⟨bb, eb, rfl⟩ := Option.map_eq_some_iff.mp q
            obtain ⟨p, vs, rfl, sq, rs⟩ := rel_tup ry
            have ty : TyX X.K H x (t.v T) := by
              rcases isiAny_some eb with z | ⟨u', b', z⟩
              · cases z
              · exact tag_rel F R (.inl rx) et z
            exact call_cm call_isiQ ⟨x, p, vs, t.v T, (u :: us).map (Tg.v T), bb, rfl, sqT_le R.sub sq, ctags_rel rs ec, ty, isiAny_rel F eb, kk w H _ (Wd.le_refl _) R (.bl bb)⟩
      | cls c => exact one _ rfl q
      | ty t => exact one _ rfl q
      | _ => cases q) hm hg (by decide +kernel) (by decide) (by decide) he he2 hpl
end
end Pk

/-! Pk13: the head's facts; a law's end. -/
namespace Pk
open PySem PySem.Spec L2

/-- one def: where its function object is, what is written there -/
structure PD where
  adr : PySem.W.Frag → Addr
  name : Str
  qual : Str
  params : Arguments
  body : List Stmt
  scope : Scope
  dfl : List He.Dv
  kwd : List (Str × He.Dv)
  /-- an __init__ that says super() -/
  clo : Bool
def fnWa (K : PySem.W.Frag) (a : Addr) : He.FnW := match K.lookup a with
  | some ⟨_, _, .func fd, _⟩ => some (fd.name, fd.qualname, fd.params, fd.body, fd.scope, fd.globals, fd.closure.map (fun q => (q.1, 0)), fd.builtins)
  | _ => none
def PD.val (d : PD) : He.FnW := some (d.name, d.qual, d.params, .stmts d.body, d.scope, mainGlobals, if d.clo then [("__class__", 0)] else [], builtinsNs)
def PD.dvs (K : PySem.W.Frag) (d : PD) : List V := d.dfl.map (He.Dv.v K)
def PD.kws (K : PySem.W.Frag) (d : PD) : List (Str × V) := d.kwd.map fun q => (q.1, q.2.v K)
def PD.ok (K : PySem.W.Frag) (d : PD) : Bool := PySem.W.keepIn K (.ref (d.adr K)) && (match K.lookup (d.adr K) with
  | some ⟨_, _, .func fd, _⟩ => PySem.W.codeIn K fd.code d.qual && (He.dflB K fd.defaults (d.dvs K) && He.kwdB K fd.kwdefaults (d.kws K))
  | _ => false)
theorem PD.funD {K : PySem.W.Frag} {d : PD} (hc : d.clo = false) (e : fnWa K (d.adr K) = d.val) (c : d.ok K = true) : ∃ fd, FunD K d.name d.qual d.params d.body d.scope (d.dvs K) (d.kws K) (d.adr K) fd := by
  obtain ⟨kp, c2⟩ := He.ba c
  unfold fnWa at e
  cases q : K.lookup (d.adr K) with
  | none =>
    rw [q] at c2
    cases c2
  | some o =>
    obtain ⟨oc, od, dt, osl⟩ := o
    rw [q] at c2 e
    cases dt with
    | func fd =>
      obtain ⟨n1, n2, n3, n4, n5, n6, n7, n8, n9, n10, n11, n12, n13, n14, n15⟩ := fd
      unfold PD.val at e
      rw [hc] at e
      have e2 : (some (n1, n2, n3, n4, n5, n6, n7.map (fun q => (q.1, 0)), n15) : He.FnW) = some (d.name, d.qual, d.params, .stmts d.body, d.scope, mainGlobals, [], builtinsNs) := e
      simp only [Option.some.injEq, Prod.mk.injEq, List.map_eq_nil_iff] at e2
      obtain ⟨h1, h2, h3, h4, h5, h6, h7, h8⟩ := e2
      subst h1 h2 h3 h4 h5 h6 h7 h8
      have c3 : (PySem.W.codeIn K n13 d.qual && (He.dflB K n8 (d.dvs K) && He.kwdB K n9 (d.kws K))) = true := c2
      obtain ⟨k1, k2⟩ := He.ba c3
      obtain ⟨k3, k4⟩ := He.ba k2
      exact ⟨_, ⟨oc, od, n8, n9, n10, n11, n12, n13, n14, osl, rfl, q, k1, He.dflB_ok k3, He.kwdB_ok k4⟩, kp⟩
    | _ => cases c2
/-- a property's getter; the address of a keyword's default -/
def pgA (K : PySem.W.Frag) (C : Addr) (f : Str) : Addr := match PySem.W.findIn K (.ref C) f with
  | some (some (.ref p)) => (match PySem.W.recIn K p "property" with
    | some (.ref g :: _) => g
    | _ => 0)
  | _ => 0
def kwA (a : PySem.W.Frag → Addr) (x : Str) (K : PySem.W.Frag) : Addr := match K.lookup (a K) with
  | some ⟨_, _, .func fd, _⟩ => (match fd.kwdefaults with
    | .ref d => (match PySem.W.nsIn K d x with
      | some (some (.ref b)) => b
      | _ => 0)
    | _ => 0)
  | _ => 0
def dfA (a : PySem.W.Frag → Addr) (i : Nat) (K : PySem.W.Frag) : Addr := match K.lookup (a K) with
  | some ⟨_, _, .func fd, _⟩ => (match fd.defaults with
    | .ref T => (match K.lookup T with
      | some ⟨_, _, .seq its _, _⟩ => (match its.toList[i]? with
        | some (.ref b) => b
        | _ => 0)
      | _ => 0)
    | _ => 0)
  | _ => 0
/-- the object at a is a tuple of these -/
def tupA (K : PySem.W.Frag) (a : Addr) (vs : List He.Dv) : Bool := match K.lookup a with
  | some ⟨.type c, _, .seq its _, _⟩ => decide (c = "tuple") && (decide (its.size ≤ sizeLine) && He.relAll (vs.map (He.Dv.v K)) its.toList)
  | _ => false
theorem tupA_ok {K : PySem.W.Frag} {a : Addr} {vs : List He.Dv} (h : tupA K a vs = true) (H : Hp) : SqT K H a (vs.map (He.Dv.v K)) := by
  unfold tupA at h
  cases q : K.lookup a with
  | none =>
    rw [q] at h
    cases h
  | some o =>
    obtain ⟨oc, od, dt, osl⟩ := o
    rw [q] at h
    cases oc with
    | type c =>
      cases dt with
      | seq its n =>
        obtain ⟨h1, h2⟩ := He.ba (show (decide (c = "tuple") && (decide (its.size ≤ sizeLine) && He.relAll (vs.map (He.Dv.v K)) its.toList)) = true from h)
        obtain ⟨h3, h4⟩ := He.ba h2
        exact .inr ⟨_, its, n, q, congrArg Value.type (of_decide_eq_true h1), rfl, of_decide_eq_true h3, He.relAll_ok h4⟩
      | _ => cases h
    | _ => cases dt <;> cases h
/-! ### facts -/
inductive Fx where
  | he (f : He.Fa)
  | prop (x f : Str)
  | ins (x : Str)
  | kit (t u : Tg) (b : Bool)
  | tup (a : PySem.W.Frag → Addr) (vs : List He.Dv)
  | slf (x : Str)
  /-- an own error class whose __init__ says super(): its fields, the file -/
  | own (x file : Str) (fs : List Str)
  /-- an error class as isinstance wants it -/
  | exi (x : Str)
  /-- a class that is no kind of number -/
  | nsb (x : Str)
  /-- anything else that is to be seen -/
  | raw (p : PySem.W.Frag → Bool)
/-- the classes by number -/
def Tbo (cn : Nat → Str) (fld : Nat → List Str) (K : PySem.W.Frag) : Tb := ⟨fun c => He.ga K (cn c), fld⟩
def clsX (K : PySem.W.Frag) (C : Addr) : Bool := match K.lookup C with
  | some ⟨.type "type", _, .cls cd, sl⟩ => (match cd.mro, sl.toList with
    | .ref C' :: bm, [_, _, _, _, some (.builtin n), _] => C' == C && (n == "ValueError.__new__" && (!cd.hasDel && (cd.hasDict && (PySem.HandSPX.refsVE bm && He.eqO (PySem.W.alongIn K "__init__" bm) (some (some (.builtin "ValueError.__init__")))))))
    | _, _ => false)
  | _ => false
def iniX (K : PySem.W.Frag) (C f : Addr) (file : Str) : Bool := match K.lookup f with
  | some ⟨_, _, .func fd, _⟩ => (match fd.closure, fd.defaults, fd.code with
    | [(_, cc)], .none, .ref cda => (match K.lookup cc with
        | some ⟨_, _, .cell (some (.ref a)), _⟩ => decide (a = C)
        | _ => false) && (PySem.W.codeIn K (.ref cda) fd.qualname && (match K.lookup cda with
        | some ⟨_, _, Data.fields vs, _⟩ => (match (vs[2]? : Option Value) with
          | some (.str fi _) => decide (fi = file)
          | _ => false)
        | _ => false))
    | _, _, _ => false)
  | _ => false
def ownX (K : PySem.W.Frag) (C f : Addr) (file : Str) (fs : List Str) : Bool :=
  clsX K C && (He.eqO (PySem.W.findIn K (.ref C) "__setattr__") (some (some (.builtin "object.__setattr__"))) && (He.eqO (PySem.W.findIn K (.ref C) "__init__") (some (some (.ref f))) && (decide (PySem.W.typeIn K (.ref f) = some (.type "function")) &&
    (decide (PySem.W.subIn K (.ref C) (.type "ValueError") = some true) && (decide (PySem.W.mroIn K C (.ref C) = some true) && (He.eqO (PySem.W.nsIn K cStatics "thirdparty.any") (some none) && (iniX K C f file && (fs.all (fun y => He.eqO (PySem.W.findIn K (.ref C) y) (some none)) &&
    (PySem.W.keepIn K (.ref C) && (decide (PySem.W.subIn K (.ref C) (.type "BaseException") = some true) && (decide (PySem.W.typeIn K (.ref C) = some (.type "type")) && (He.eqO (PySem.W.findIn K (.ref C) "__getattribute__") (some (some (.builtin "BaseException.__getattribute__"))) &&
    (He.eqO (PySem.W.findIn K (.ref C) "__getattr__") (some none) && PySem.W.hasDictIn K C)))))))))))))
def exiX (K : PySem.W.Frag) (C : Addr) : Bool :=
  He.eqO (PySem.W.findIn K (.ref C) "__getattribute__") (some (some (.builtin "BaseException.__getattribute__"))) && (He.eqO (PySem.W.findIn K (.ref C) "__getattr__") (some none) && (decide (PySem.W.subIn K (.ref C) (.type "BaseException") = some true) && (PySem.W.hasDictIn K C &&
    (He.eqO (PySem.W.findIn K (.ref C) "__class__") (some (some (.builtin "object.__class__"))) && (He.eqO (PySem.W.specialIn K (.builtin "object.__class__") "__get__") (some (some (.builtin "getset_descriptor.__get__"))) && (decide (PySem.W.takesIn K (.builtin "object.__class__") = some true) && decide (PySem.W.mroIn K C (.type "object") = some true)))))))
theorem exiX_ok {K : PySem.W.Frag} {C : Addr} (h : exiX K C = true) : L2.ExcC K C := by
  obtain ⟨c1, h⟩ := He.ba h
  obtain ⟨c2, h⟩ := He.ba h
  obtain ⟨c3, h⟩ := He.ba h
  obtain ⟨c4, h⟩ := He.ba h
  obtain ⟨c5, h⟩ := He.ba h
  obtain ⟨c6, h⟩ := He.ba h
  obtain ⟨c7, c8⟩ := He.ba h
  exact ⟨He.eqO_ok c1, He.eqO_ok c2, of_decide_eq_true c3, c4, He.eqO_ok c5, He.eqO_ok c6, of_decide_eq_true c7, of_decide_eq_true c8⟩
def Fx.ok (cn : Nat → Str) (K : PySem.W.Frag) : Fx → Bool
  | .he f => f.ok K
  | .prop x f => He.eqO (PySem.W.findIn K (.ref (He.ga K x)) f) (some (some (.ref (He.ma K (He.ga K x) f)))) && (He.eqO (PySem.W.specialIn K (.ref (He.ma K (He.ga K x) f)) "__get__") (some (some (.builtin "property.__get__"))) &&
      (decide (PySem.W.takesIn K (.ref (He.ma K (He.ga K x) f)) = some true) && (match PySem.W.recIn K (He.ma K (He.ga K x) f) "property" with
        | some (.ref g :: _) => decide (g = pgA K (He.ga K x) f)
        | _ => false)))
  | .ins x => (He.Fa.cls x).ok K && (He.eqO (PySem.W.findIn K (.ref (He.ga K x)) "__class__") (some (some (.builtin "object.__class__"))) && (He.eqO (PySem.W.specialIn K (.builtin "object.__class__") "__get__") (some (some (.builtin "getset_descriptor.__get__"))) &&
      (decide (PySem.W.takesIn K (.builtin "object.__class__") = some true) && decide (PySem.W.mroIn K (He.ga K x) (.type "object") = some true))))
  | .kit t u b => decide (PySem.W.kitOne K (t.v (Tbo cn (fun _ => []) K)) (u.v (Tbo cn (fun _ => []) K)) = some b)
  | .tup a vs => tupA K (a K) vs
  | .slf x => PySem.W.selfFirst K (He.ga K x)
  | .nsb x => decide (PySem.W.subIn K (.ref (He.ga K x)) (.type "int") = some false) && decide (PySem.W.subIn K (.ref (He.ga K x)) (.type "bool") = some false)
  | .exi x => exiX K (He.ga K x)
  | .raw p => p K
  | .own x file fs => ownX K (He.ga K x) (He.ma K (He.ga K x) "__init__") file fs
section
variable {K : PySem.W.Frag} {cn : Nat → Str} {fld : Nat → List Str}
theorem nsb_ok {x : Str} (c : (Fx.nsb x).ok cn K = true) : PySem.W.subIn K (.ref (He.ga K x)) (.type "int") = some false ∧ PySem.W.subIn K (.ref (He.ga K x)) (.type "bool") = some false := by
  obtain ⟨c1, c2⟩ := He.ba c
  exact ⟨of_decide_eq_true c1, of_decide_eq_true c2⟩
theorem raw_ok {p : PySem.W.Frag → Bool} (c : (Fx.raw p).ok cn K = true) : p K = true := c
theorem prop_ok {x f : Str} (c : (Fx.prop x f).ok cn K = true) : PropOf K (He.ga K x) f (He.ma K (He.ga K x) f) (pgA K (He.ga K x) f) := by
  obtain ⟨c1, c⟩ := He.ba c
  obtain ⟨c2, c⟩ := He.ba c
  obtain ⟨c3, c4⟩ := He.ba c
  refine ⟨He.eqO_ok c1, He.eqO_ok c2, of_decide_eq_true c3, ?_⟩
  split at c4
  · rename_i g rest e
    rw [e, of_decide_eq_true c4]
    exact ⟨rest, rfl⟩
  · cases c4
theorem ins_ok {x : Str} (c : (Fx.ins x).ok cn K = true) : InsF K (He.ga K x) := by
  obtain ⟨c1, c⟩ := He.ba c
  obtain ⟨c2, c⟩ := He.ba c
  obtain ⟨c3, c⟩ := He.ba c
  obtain ⟨c4, c5⟩ := He.ba c
  exact ⟨He.cls_ok c1, He.eqO_ok c2, He.eqO_ok c3, of_decide_eq_true c4, of_decide_eq_true c5⟩
theorem kit_ok {t u : Tg} {b : Bool} (c : (Fx.kit t u b).ok cn K = true) : PySem.W.kitOne K (t.v (Tbo cn fld K)) (u.v (Tbo cn fld K)) = some b := by
  have h := of_decide_eq_true c
  cases t <;> cases u <;> exact h
end
/-! ### the Hook -/
abbrev AlP : Type := Bool × List He.FnW
def obsP (cn : Nat → Str) (fa : List Fx) (fn : List PD) (K : PySem.W.Frag) : AlP := ((fa.all fun f => f.ok cn K) && fn.all fun d => d.ok K, fn.map fun d => fnWa K (d.adr K))
def valP (fn : List PD) : AlP := (true, fn.map PD.val)
def SaysP (cn : Nat → Str) (fa : List Fx) (fn : List PD) (K : PySem.W.Frag) : Prop := obsP cn fa fn K = valP fn
/-- the cells that functions name, and the place of what is fixed -/
def asP (g : Addr → Option Obj) (n : Nat) : List Addr := He.asD g n ++ (cStatics :: (He.asD g n).flatMap fun a => match g a with
  | some ⟨_, _, .func fd, _⟩ => fd.closure.map (·.2)
  | _ => [])
def obsPG (n : Nat) (cn : Nat → Str) (fa : List Fx) (fn : List PD) (g : Addr → Option Obj) : AlP := obsP cn fa fn (He.frG g (asP g n))
def hookP (n : Nat) (cn : Nat → Str) (fa : List Fx) (fn : List PD) : PySem.W.Hook where
  α := AlP
  obs := fun s => obsPG n cn fa fn s.heap.get?
  val := fun _ => valP fn
  says := fun _ h => ∃ K : PySem.W.Frag, K.In h ∧ SaysP cn fa fn K
  of := fun _ _ e => ⟨_, He.frG_in, e⟩
  keeps := fun _ _ _ ⟨K, hK, c⟩ k => ⟨K, PySem.W.Frag.In.keeps hK k, c⟩
theorem obsPG_eq {n : Nat} {cn : Nat → Str} {fa : List Fx} {fn : List PD} {g : Addr → Option Obj} {s : Shared} (h : ∀ a, g a = s.heap.get? a) : obsPG n cn fa fn g = (hookP n cn fa fn).obs s := by
  have e : g = s.heap.get? := funext h
  rw [e] <;> rfl
section
variable {cn : Nat → Str} {fa : List Fx} {fn : List PD} {K : PySem.W.Frag}
theorem SaysP.fact (c : SaysP cn fa fn K) (i : Nat) {f : Fx} (h : fa[i]? = some f := by rfl) : f.ok cn K = true := by
  have c1 := (He.ba (show ((fa.all fun f => f.ok cn K) && fn.all fun d => d.ok K) = true from congrArg (fun z : AlP => z.1) c)).1
  exact List.all_eq_true.mp c1 f (List.mem_of_getElem? h)
theorem SaysP.def_ (c : SaysP cn fa fn K) (i : Nat) {d : PD} (h : fn[i]? = some d := by rfl) (hc : d.clo = false := by rfl) : ∃ fd, FunD K d.name d.qual d.params d.body d.scope (d.dvs K) (d.kws K) (d.adr K) fd := by
  have c2 := (He.ba (show ((fa.all fun f => f.ok cn K) && fn.all fun d => d.ok K) = true from congrArg (fun z : AlP => z.1) c)).2
  have e : fn.map (fun d => fnWa K (d.adr K)) = fn.map PD.val := congrArg (fun z : AlP => z.2) c
  have e2 : (fn.map fun d => fnWa K (d.adr K))[i]? = (fn.map PD.val)[i]? := by rw [e]
  rw [List.getElem?_map, List.getElem?_map, h] at e2
  exact PD.funD hc (Option.some.inj e2) (List.all_eq_true.mp c2 d (List.mem_of_getElem? h))
theorem SaysP.wrote (c : SaysP cn fa fn K) (i : Nat) {d : PD} (h : fn[i]? = some d := by rfl) : fnWa K (d.adr K) = d.val := by
  have e : fn.map (fun d => fnWa K (d.adr K)) = fn.map PD.val := congrArg (fun z : AlP => z.2) c
  have e2 : (fn.map fun d => fnWa K (d.adr K))[i]? = (fn.map PD.val)[i]? := by rw [e]
  rw [List.getElem?_map, List.getElem?_map, h] at e2
  exact Option.some.inj e2
end
/-- the script's reading -/
theorem relDs_ints {K : PySem.W.Frag} {T : Tb} {w : Wd} : ∀ ns : List Int, RelDs K T w (ns.map V.int) (ns.map D.int)
  | [] => .nil
  | i :: r => .cons (.int i) (relDs_ints r)
theorem law_sp {K : PySem.W.Frag} {T : Tb} {F : Fn} {H : Hp} {a : Addr} {ns : List Int} (hq : SqL K H a (ns.map V.int)) {fr : Fr} {h : Hh} (e : F [.kl (ns.map D.int)] [] = .ok (.bl true) fr h) : spF K T 1 F [.ref a] H (fun v _ => v = .bl true) (fun _ _ _ => False) := by
  refine ⟨⟨H, []⟩, [], [.kl (ns.map D.int)], ⟨Wd.le_refl _, fun _ q => .inl q, fun _ q => (by cases q), fun _ _ q _ => q, fun _ q => (by cases q), fun _ _ q => q, rfl, List.nodup_nil, fun _ q => (by cases q), fun _ _ _ q => (by simp at q), rfl, fun _ _ _ q => (by simp at q), fun _ _ _ _ q => (noSlot q).elim, fun _ _ _ q _ => (by simp at q)⟩, .cons (.kl hq (relDs_ints ns)) .nil, rfl, ?_⟩
  rw [e]
  intro w' H' v l R rv
  rcases rv with rv | ⟨p, o, _, _, _, _, r⟩
  · cases rv
    rfl
  · cases r

/-! ### keywords in any order -/
def pick {α : Type} (is : List Nat) (l : List α) : List α := is.filterMap fun i => l[i]?
theorem pick_vals : ∀ (is : List Nat) {vs : List V} {us : List Value}, Vals vs us → Vals (pick is vs) (pick is us)
  | [], _, _, _ => .nil
  | i :: is, vs, us, r => by
    unfold pick
    rw [List.filterMap_cons, List.filterMap_cons]
    cases e : vs[i]? with
    | none =>
      have e2 : us[i]? = none := by
        rw [List.getElem?_eq_none_iff] at e ⊢
        rw [← r.length]
        exact e
      rw [e2]
      exact pick_vals is r
    | some v =>
      obtain ⟨u, hu, ru⟩ := r.get e
      rw [hu]
      exact .cons ru (pick_vals is r)
theorem pick_rel {K : PySem.W.Frag} {T : Tb} {w : Wd} : ∀ (is : List Nat) {vs : List V} {ds : List D}, RelDs K T w vs ds → RelDs K T w (pick is vs) (pick is ds)
  | [], _, _, _ => .nil
  | i :: is, vs, ds, r => by
    unfold pick
    rw [List.filterMap_cons, List.filterMap_cons]
    cases e : ds[i]? with
    | none =>
      have e2 : vs[i]? = none := by
        rw [List.getElem?_eq_none_iff] at e ⊢
        rw [r.length]
        exact e
      rw [e2]
      exact pick_rel is r
    | some d =>
      obtain ⟨v, hv, rv⟩ := r.get e
      rw [hv]
      exact .cons rv (pick_rel is r)
def gKw {α : Type} (is : List Nat) (us mv ws : List α) : List α := us ++ pick is (ws ++ mv)
end Pk

/-! Pk14: enumerate. -/
namespace PySem
namespace EnT
/-- the two new cells -/
abbrev itO (l : Addr) : Obj := { cls := .type "tuple_iterator", data := .fields #[.ref l, .int 0 0] }
abbrev enO (it : Addr) : Obj := { cls := .type "enumerate", data := .fields #[.none, .bool false, .ref it, rawInt 0, .none, .none] }
theorem new_tup (l : Addr) (items : Array Value) (n : Nat) (dct : Option Addr) (sl : Array (Option Value)) :
    Meets (Builtin.«enumerate.__new__» ⟨[.type "enumerate", .ref l], []⟩) (fun _ R s => s.heap.get? l = some { cls := .type "tuple", dict := dct, data := .seq items n, slots := sl } ∧
      R (.ok (.ret (.ref (s.heap.push (itO l)).objs.size))) { s with heap := (s.heap.push (itO l)).push (enO s.heap.objs.size) }) := by
  refine .of_wp fun prog w A R s h => ?_
  obtain ⟨hp, g, d, tk, os⟩ := s
  obtain ⟨hl, h⟩ := h
  have hsub := sub_enumerate
  have hT : Heap.IsTuple (Shared.heap ⟨hp, g, d, tk, os⟩) l items := ⟨_, hl, rfl, n, rfl⟩
  wp_walk using AutoSeq1.wpAny_loadPart' hl
  refine wpAny_stack_any fun st => wpAny_pure ?_
  split
  · rename_i c _ _ _ _ _
    cases (c == Value.type "enumerate") <;> (wp_walk using AutoSeq1.wpAny_loadPart' hl, wpAny_pyIter_tuple hT; exact ⟨_, rfl, h⟩)
  · wp_walk using AutoSeq1.wpAny_loadPart' hl, wpAny_pyIter_tuple hT
    exact ⟨_, rfl, h⟩
section
variable {prog : Program} {w : World} {A : Around} {E : Value → Shared → Prop} {s : Shared}
theorem call_tup {l : Addr} {items : Array Value} {Q : Value → Shared → Prop} (hT : s.heap.IsTuple l items)
    (h : ∀ h', IsEnum h' (s.heap.objs.size + 1) s.heap.objs.size 0 .none → h'.IsTupleIter s.heap.objs.size l 0 → (∀ b o, s.heap.get? b = some o → h'.get? b = some o) → Q (.ref (s.heap.objs.size + 1)) { s with heap := h' }) :
    wpAny (model prog w) A (call (.type "enumerate") [.ref l]) Q E s := by
  obtain ⟨⟨c, dct, dt, sl⟩, hl, hc, n, hd⟩ := hT
  obtain rfl : c = .type "tuple" := hc
  obtain rfl : dt = .seq items n := hd
  have hz : (s.heap.push (itO l)).objs.size = s.heap.objs.size + 1 := Heap.size_push ..
  have he : ((s.heap.push (itO l)).push (enO s.heap.objs.size)).get? (s.heap.objs.size + 1) = some (enO s.heap.objs.size) := by
    have z := Heap.get?_push_size (s.heap.push (itO l)) (o := enO s.heap.objs.size) rfl
    rw [hz] at z
    exact z
  have hi : ((s.heap.push (itO l)).push (enO s.heap.objs.size)).get? s.heap.objs.size = some (itO l) := Heap.get?_push_of_some _ (Heap.get?_push_size _ rfl)
  refine callType_new F.called_enumerate (by decide) (F.typeCall_enumerate_1 _) (F.newCall_enumerate_1 _) (fun obj => F.args_object_init_2 obj _) F.entry_enumerate_new (new_tup l items n dct sl) ⟨hl, ?_⟩
  show _ ∧ _
  rw [hz]
  exact ⟨⟨_, he, rfl⟩, h _ he ⟨_, hi, rfl, rfl⟩ fun b o x => Heap.get?_push_of_some _ (Heap.get?_push_of_some _ x)⟩
end
end EnT
end PySem
namespace L2
open PySem PySem.Spec PyProof.Rows
/-- the tuple at a, each item in a new pair -/
def ItE (K : PySem.W.Frag) (a : Addr) : It :=
  ⟨fun i H => ∃ (xs : List V) (x : V), SqT K H a xs ∧ xs[i]? = some x, fun i H v H' => ∃ T x, v = .ref T ∧ H T = none ∧ H' = upd H T (.tup [.int (i : Nat), x]) ∧ ∀ xs, SqT K H a xs → xs[i]? = some x, fun i H => ∃ xs : List V, SqT K H a xs ∧ xs.length ≤ i⟩
theorem tup_cls {h : Heap} {a b : Addr} {its : Array Value} {n : String} {o : Obj} (p : h.IsTuple a its) (e : h.get? b = some o) (c : o.cls = .type n) (hn : n ≠ "tuple") : a ≠ b := fun z => by
  obtain ⟨oa, ea, ca, _⟩ := p
  rw [z, e] at ea
  cases ea
  rw [c] at ca
  exact hn (by injection ca)
theorem turn_enT {P : Program} {w : World} {K : PySem.W.Frag} {elts : List Expr} {kk : Nat} {tpos : Pos} (a e it : Addr) :
    Turn P w K (.Tuple elts kk tpos) (ItE K a) [e, it] e (fun i h => (∃ old, IsEnum h e it ((i : Nat) : Int) old) ∧ h.IsTupleIter it a i ∧ e ≠ it) where
  mem := by simp
  obj := fun i h st b hb => by
    obtain ⟨⟨old, he⟩, ⟨o, ho, _, hd⟩, _⟩ := st
    rcases (show b = e ∨ b = it by simpa using hb) with rfl | rfl
    · exact ⟨_, he, fun v q => nomatch q⟩
    · exact ⟨o, ho, fun v q => by rw [hd] at q; cases q⟩
  keep := fun i h h' st k => by
    obtain ⟨⟨old, he⟩, hi, hne⟩ := st
    exact ⟨⟨old, k e (by simp) _ he⟩, hi.at fun o q => k it (by simp) o q, hne⟩
  item := by
    intro X hP hw hK hc i pins s σ H E I hf st hg
    subst hP hw hK
    obtain ⟨⟨old, he⟩, hit, hne⟩ := st
    obtain ⟨xs, x, hq, hx⟩ := hg
    obtain ⟨its, rv, p, _⟩ := I.tuple hq
    obtain ⟨u, hu, ru⟩ := rv.get hx
    have pt : s.heap.IsTuple a its.toArray := p
    have hai : a ≠ it := by
      obtain ⟨o, ho, c, _⟩ := id hit
      exact tup_cls pt ho c (by decide)
    have hae : a ≠ e := tup_cls pt he rfl (by decide)
    have hlt : i < its.toArray.size := by
      have := (List.getElem?_eq_some_iff.mp hu).1
      simpa using this
    have hel : e < s.heap.objs.size := Heap.lt_size he
    have hil : it < s.heap.objs.size := by
      obtain ⟨_, q, _⟩ := hit
      exact Heap.lt_size q
    refine wpAny_pyNext_enum_itemD (Draws.tuple (show X.A.in1.handled = none from I.ok.hd hc) it a hai its.toArray) he ⟨hit, pt⟩ hlt hne (by simp [hne, Ne.symm hae]) fun y h' tk hy ho hst hT hsz hk => ?_
    obtain rfl : u = y := by
      have e1 : its[i]? = some y := by simpa using hy
      rw [hu] at e1
      exact Option.some.inj e1
    refine ⟨_, rfl, wpAny_letOwnedTupleGo_enum (s := { s with heap := h', toks := tk + 1 }) ho fun h'' he' sb => ?_⟩
    have ne : s.heap.objs.size ≠ e := Nat.ne_of_gt hel
    have new : ObjOk X.prog X.w (upd H s.heap.objs.size (.tup [.int (i : Nat), x])) h'' s.heap.objs.size (.tup [.int (i : Nat), x]) :=
      ⟨by show 2 ≤ sizeLine; decide, [.int i tk, u], .cons ⟨_, rfl⟩ (.cons ru .nil), ⟨_, (sb.2 _ ne).trans hT, rfl, _, rfl⟩⟩
    have I1 : Inv X pins σ (upd H s.heap.objs.size (.tup [.int (i : Nat), x])) { s with heap := h'', toks := tk + 1 } :=
      I.turnedNew (ch := [e, it]) (fun b ob hb q => (sb.2 b (fun z => hb (by simp [z]))).trans (hk b ob (fun z => hb (by simp [z])) (fun z => hb (by simp [z])) q)) hf (Nat.le_refl _) new
    refine ⟨.ref s.heap.objs.size, _, I1, rfl, ⟨_, x, rfl, I.hok.fresh (Nat.le_refl _), rfl, fun ys hy => by rw [I.tuple_inj hy hq]; exact hx⟩, ⟨⟨u, ?_⟩, hst.1.at fun o q => (sb.2 it (Ne.symm hne)).trans q, hne⟩, fun b hb => ?_⟩
    · rw [show ((i + 1 : Nat) : Int) = (i : Int) + 1 by omega]
      exact he'
    · have hb' : b < s.heap.objs.size := by
        rcases (show b = e ∨ b = it by simpa using hb) with rfl | rfl
        · exact hel
        · exact hil
      rw [upd_ne (Nat.ne_of_lt hb')]
      exact (hf b hb).1
  done := by
    intro X hP hw hK hc i pins s σ H E I hf st hg
    subst hP hw hK
    obtain ⟨⟨old, he⟩, hit, hne⟩ := st
    obtain ⟨xs, hq, hx⟩ := hg
    obtain ⟨its, rv, p, _⟩ := I.tuple hq
    have pt : s.heap.IsTuple a its.toArray := p
    obtain ⟨f0, f1, f2, f3, f4, f5⟩ := hf it (by simp)
    have hai : a ≠ it := by
      obtain ⟨o, ho, c, _⟩ := id hit
      exact tup_cls pt ho c (by decide)
    have hi : its.toArray[i]? = none := by
      have hl := rv.length
      simp
      omega
    have D : Draws X.prog X.w X.A.in1 it [it, a] i (fun _ _ => True) (fun j h => j = i ∧ h.IsTupleIter it a j ∧ h.IsTuple a its.toArray) :=
      { live := fun _ _ st => by
          obtain ⟨_, ⟨o, ho, _⟩, _⟩ := st
          exact ⟨o, ho⟩
        frame := fun _ _ _ st hk => ⟨st.1, st.2.1.at fun o e => hk it (by simp) o e, st.2.2.at fun o e => hk a (by simp) o e⟩
        item := fun j s Q E hj st _ => absurd st.1 (Nat.ne_of_lt hj)
        done := fun s Q E st hE => PySem.wpAny_nextOf_tuple_end (show X.A.in1.handled = none from I.ok.hd hc) st.2.1 st.2.2 hi hE }
    exact wpAny_pyNext_enum_endD D he ⟨rfl, hit, pt⟩ fun h' eb => ⟨rfl, I.turned (t' := s.toks) (fun b o hb q => eb b o hb q) f0 f1 f3 f4 f5⟩
  self := fun A i s Q E st h => by
    obtain ⟨⟨_, he⟩, _⟩ := st
    exact wpAny_pyIter_enum he h
/-- enumerate over a list or a tuple -/
def iEnu (K : PySem.W.Frag) (ta : TA) : TI := fun σ H R => ta σ H fun vs H1 => ∃ a xs, vs = [.ref a] ∧ ((SqL K H1 a xs ∧ R (Ite K a) H1) ∨ (SqT K H1 a xs ∧ R (ItE K a) H1))
theorem pi_enu {X : Cx} {e : Expr} {ta : TA} {p pos tpos : Pos} {elts : List Expr} {kk : Nat} (hg : Gl X "enumerate") (hm : X.mg "enumerate" = none) (ha : PA X [e] ta) (hs : starEach [e] X.env = [(false, eval e X.env)] := by rfl) :
    PI X (.Tuple elts kk tpos) (.Call (.Name "enumerate" p) [e] [] pos) (iEnu X.K ta) := by
  refine ⟨fun pins s σ H R I h => ?_⟩
  refine Call_ (ld_blt I hg hm boot_enumerate (PyProof.Rows.callWith_type1 (thn (ha.run pos pins s σ H _ I h) fun us s1 hh => ?_) hs rfl))
  obtain ⟨vs, H1, I1, r1, a, xs, rfl, q⟩ := hh
  cases r1 with
  | cons r rr =>
    cases rr
    cases r
    have two : ∀ b ∈ [s1.heap.objs.size + 1, s1.heap.objs.size], FpOk X pins H1 b := fun b hb => by
      have hle : s1.heap.objs.size ≤ b := by
        rcases (show b = s1.heap.objs.size + 1 ∨ b = s1.heap.objs.size by simpa using hb) with rfl | rfl
        · exact Nat.le_succ _
        · exact Nat.le_refl _
      exact I1.fpOk hle (I1.hok.fresh hle)
    rcases q with ⟨hq, q⟩ | ⟨hq, q⟩
    · obtain ⟨its, rv, pl, _⟩ := I1.list hq
      refine call_enumerate_list pl.isList fun h' he hit _ hk => wpAny_pyIter_enum he ?_
      exact ⟨s1.heap.objs.size + 1, [s1.heap.objs.size + 1, s1.heap.objs.size], _, _, H1, rfl, I1.kept (t' := s1.toks) hk, turn_enum a (s1.heap.objs.size + 1) s1.heap.objs.size, ⟨⟨.none, he⟩, hit, Nat.succ_ne_self _⟩, two, q⟩
    · obtain ⟨its, rv, pl, _⟩ := I1.tuple hq
      refine PySem.EnT.call_tup (show s1.heap.IsTuple a its.toArray from pl) fun h' he hit hk => wpAny_pyIter_enum he ?_
      exact ⟨s1.heap.objs.size + 1, [s1.heap.objs.size + 1, s1.heap.objs.size], _, _, H1, rfl, I1.kept (t' := s1.toks) hk, turn_enT a (s1.heap.objs.size + 1) s1.heap.objs.size, ⟨⟨.none, he⟩, hit, Nat.succ_ne_self _⟩, two, q⟩
end L2
namespace Pk
open PySem PySem.Spec L2
def enumD : Nat → List D → List D
  | _, [] => []
  | i, d :: ds => .tup [.int (i : Int), d] :: enumD (i + 1) ds
theorem enumD_length : ∀ (i : Nat) (l : List D), (enumD i l).length = l.length
  | _, [] => rfl
  | i, _ :: l => congrArg Nat.succ (enumD_length (i + 1) l)
theorem enumD_get : ∀ (i : Nat) (l : List D) (j : Nat) (z : D), (enumD i l)[j]? = some z → ∃ d, l[j]? = some d ∧ z = .tup [.int ((i + j : Nat) : Int), d]
  | _, [], j, z, e => by simp [enumD] at e
  | i, d :: l, 0, z, e => by
    simp [enumD] at e
    exact ⟨d, rfl, e.symm⟩
  | i, d :: l, j + 1, z, e => by
    obtain ⟨d', h1, h2⟩ := enumD_get (i + 1) l j z (by simpa [enumD] using e)
    exact ⟨d', by simpa using h1, by rw [h2]; congr 3; omega⟩
/-- a list's, a tuple's items -/
def D.lst : D → Option (List D)
  | .fl l => some l
  | .kl l => some l
  | .tup l => some l
  | _ => none
def mEnum (m : M D) : M (List D) := m.bind fun d => M.opt (d.lst.map (enumD 0))
section
variable {X : Cx} {T : Tb} {W : WX} {k kk : Nat} {pos p tpos : Pos} {elts : List Expr} {a : Expr} {ma : M D}
theorem vJ_enum {K : PySem.W.Frag} {B : Bs} {σ : L2.St} {w : Wd} {H : Hp} {fr : Fr} {a : Addr} {vs : List V} {l : List D} (sq : SqL K w.F a vs) (rl : RelDs K T w vs l) : vJ K T B σ w H fr (Ite K a) (enumD 0 l) := fun i w2 H2 l2 hs => ⟨fun hi => ⟨vs, sqL_le hs (sqL_le l2.1 sq), by rw [rl.length, ← enumD_length 0 l]; exact hi⟩, fun d' hd => by
  obtain ⟨d, hd1, rfl⟩ := enumD_get 0 l i d' hd
  obtain ⟨v, hv, rv⟩ := rl.get hd1
  have sq2 : SqL K H2 a vs := sqL_le hs (sqL_le l2.1 sq)
  refine ⟨⟨vs, v, sq2, hv⟩, fun y H3 hy B' σ' fr' h' R' => ?_⟩
  obtain ⟨Tp, x, rfl, nT, rfl, hx⟩ := hy
  have z := hx vs sq2
  rw [hv] at z
  cases z
  have nf : w2.F Tp = none := (R'.nP nT).1
  have lw := Wd.le_add (o := .tup [.int (i : Nat), v]) nf
  rw [Nat.zero_add]
  exact ⟨w2.add Tp (.tup [.int (i : Nat), v]), lw, R'.laid nT, .tup (SqT.of (by show upd w2.F Tp _ Tp = _; rw [upd_same])) (.cons (.int _) (.cons ((rv.mono l2).mono lw) .nil))⟩⟩
theorem vJ_enT {K : PySem.W.Frag} {B : Bs} {σ : L2.St} {w : Wd} {H : Hp} {fr : Fr} {a : Addr} {vs : List V} {l : List D} (sq : SqT K w.F a vs) (rl : RelDs K T w vs l) : vJ K T B σ w H fr (ItE K a) (enumD 0 l) := fun i w2 H2 l2 hs => ⟨fun hi => ⟨vs, sqT_le hs (sqT_le l2.1 sq), by rw [rl.length, ← enumD_length 0 l]; exact hi⟩, fun d' hd => by
  obtain ⟨d, hd1, rfl⟩ := enumD_get 0 l i d' hd
  obtain ⟨v, hv, rv⟩ := rl.get hd1
  have sq2 : SqT K H2 a vs := sqT_le hs (sqT_le l2.1 sq)
  refine ⟨⟨vs, v, sq2, hv⟩, fun y H3 hy B' σ' fr' h' R' => ?_⟩
  obtain ⟨Tp, x, rfl, nT, rfl, hx⟩ := hy
  have z := hx vs sq2
  rw [hv] at z
  cases z
  have lw := Wd.le_add (o := .tup [.int (i : Nat), v]) (R'.nP nT).1
  rw [Nat.zero_add]
  exact ⟨w2.add Tp (.tup [.int (i : Nat), v]), lw, R'.laid nT, .tup (SqT.of (by show upd w2.F Tp _ Tp = _; rw [upd_same])) (.cons (.int _) (.cons ((rv.mono l2).mono lw) .nil))⟩⟩
theorem lst_of {K : PySem.W.Frag} {w : Wd} {v : V} {d : D} {l : List D} (r : RelD K T w v d) (e : d.lst = some l) : ∃ p vs, v = .ref p ∧ RelDs K T w vs l ∧ (SqL K w.F p vs ∨ SqT K w.F p vs) := by
  cases r with
  | fl s r =>
    cases e
    exact ⟨_, _, rfl, r, .inl (SqL.of s)⟩
  | kl s r =>
    cases e
    exact ⟨_, _, rfl, r, .inl s⟩
  | tup s r =>
    cases e
    exact ⟨_, _, rfl, r, .inr s⟩
  | _ => cases e
theorem si_enum (s : SimV X T W a ma) (hm : X.mg "enumerate" = none) (hg : Gl X "enumerate" := by rfl) (hs : starEach [a] X.env = [(false, eval a X.env)] := by rfl) : SimI X T W (.Tuple elts kk tpos) (.Call (.Name "enumerate" p) [a] [] pos) (mEnum ma) := fun B w σ H fr h Q r p =>
  pi_wi (pi_enu hg hm (pa_cons pe_max pa_nil (hs.trans (by rfl))) hs) (s B w σ H fr h _ r (Post.bind (VR := vV X.K T B σ) p fun d fr1 h1 w1 H1 x e1 l1 r1 rx p1 => by
    cases q : d.lst with
    | none => rw [q] at p1; exact p1.elim
    | some l =>
      rw [q] at p1
      obtain ⟨a, vs, rfl, rl, sq | sq⟩ := lst_of rx q
      · exact ⟨a, vs, rfl, .inl ⟨sqL_le r1.sub sq, p1 w1 H1 (Ite X.K a) (Wd.le_refl _) r1 (vJ_enum sq rl)⟩⟩
      · exact ⟨a, vs, rfl, .inr ⟨sqT_le r1.sub sq, p1 w1 H1 (ItE X.K a) (Wd.le_refl _) r1 (vJ_enT sq rl)⟩⟩))
end
end Pk

/-! Pk15: small helps for printed texts. -/
namespace Pk
open PySem PySem.Spec L2
inductive AllL {β : Type} (Q : Nat → β → Prop) : List (Nat × β) → Prop where
  | nil : AllL Q []
  | cons {a : Nat} {b : β} {l : List (Nat × β)} : Q a b → AllL Q l → AllL Q ((a, b) :: l)
theorem lk_all {β : Type} {Q : Nat → β → Prop} : ∀ {l : List (Nat × β)}, AllL Q l → ∀ c i, List.lookup c l = some i → Q c i
  | _, .nil, _, _, e => by cases e
  | _, @AllL.cons _ _ a b l q r, c, i, e => by
    rw [List.lookup_cons] at e
    cases h : c == a with
    | true =>
      rw [h] at e
      cases e
      rw [beq_iff_eq.mp h]
      exact q
    | false =>
      rw [h] at e
      exact lk_all r c i e
theorem kw_mem {α : Type} {ms kws : List α} (idx : List Nat) (h : ms = pick idx kws) : ∀ q ∈ ms, q ∈ kws := fun q hq => by
  rw [h] at hq
  obtain ⟨i, _, e⟩ := List.mem_filterMap.mp hq
  exact List.mem_of_getElem? e
/-- isinstance by rows -/
def isiT (rows : List ((Tg × Tg) × Bool)) (t u : Tg) : Option Bool := match t, u with
  | .b a, .b b => bTab a b
  | t, u => List.lookup (t, u) rows
inductive RowsOk (K : PySem.W.Frag) (T : Tb) : List ((Tg × Tg) × Bool) → Prop where
  | nil : RowsOk K T []
  | b {a : String} {c : Nat} {r : Bool} {l : List ((Tg × Tg) × Bool)} : PySem.W.kitOne K (Tg.v T (.b a)) (Tg.v T (.o c)) = some r → RowsOk K T l → RowsOk K T (((.b a, .o c), r) :: l)
  | o {c : Nat} {u : Tg} {r : Bool} {l : List ((Tg × Tg) × Bool)} : PySem.W.kitOne K (Tg.v T (.o c)) (u.v T) = some r → InsF K (T.cad c) → RowsOk K T l → RowsOk K T (((.o c, u), r) :: l)
theorem rows_of {K : PySem.W.Frag} {T : Tb} : ∀ {l : List ((Tg × Tg) × Bool)}, RowsOk K T l → ∀ t u b, List.lookup (t, u) l = some b → PySem.W.kitOne K (t.v T) (u.v T) = some b ∧ ∀ c, t = .o c → InsF K (T.cad c)
  | _, .nil, _, _, _, e => by cases e
  | _, @RowsOk.b _ _ a c r l q rr, t, u, b, e => by
    rw [List.lookup_cons] at e
    cases h : (t, u) == (Tg.b a, Tg.o c) with
    | true =>
      rw [h] at e
      cases e
      cases beq_iff_eq.mp h
      exact ⟨q, fun c' z => by cases z⟩
    | false =>
      rw [h] at e
      exact rows_of rr t u b e
  | _, @RowsOk.o _ _ c u' r l q i rr, t, u, b, e => by
    rw [List.lookup_cons] at e
    cases h : (t, u) == (Tg.o c, u') with
    | true =>
      rw [h] at e
      cases e
      cases beq_iff_eq.mp h
      exact ⟨q, fun c' z => by cases z; exact i⟩
    | false =>
      rw [h] at e
      exact rows_of rr t u b e
theorem isi_of {K : PySem.W.Frag} {T : Tb} {l : List ((Tg × Tg) × Bool)} (h : RowsOk K T l) : IsiF K T (isiT l) := by
  refine ⟨fun t u b e => ?_, fun c u b e => ?_⟩
  · cases t with
    | b a =>
      cases u with
      | b a' => exact kit_ty (bTab_ok _ _ _ e)
      | o c => exact (rows_of h _ _ _ e).1
    | o c => exact (rows_of h _ _ _ e).1
  · exact (rows_of h _ _ _ e).2 c rfl
def gKwD (is : List Nat) (md : List D) (ds es : List D) : List D := ds ++ pick is (es ++ md)
theorem pick_len {α : Type} {l : List α} : ∀ {is : List Nat}, (is.all fun i => decide (i < l.length)) = true → (pick is l).length = is.length
  | [], _ => rfl
  | i :: is, h => by
    rw [List.all_cons, Bool.and_eq_true] at h
    have hi : i < l.length := of_decide_eq_true h.1
    unfold pick
    rw [List.filterMap_cons, List.getElem?_eq_getElem hi]
    exact congrArg Nat.succ (pick_len h.2)
theorem gkw_rel0 {K : PySem.W.Frag} {T : Tb} {mv : List V} {md : List D} (is : List Nat) (hm : ∀ w, RelDs K T w mv md) {n m : Nat} (h1 : (is.all fun i => decide (i < m + md.length)) = true) (w : Wd) (vs zs : List V) (ds es : List D) (r : RelDs K T w vs ds) (z : RelDs K T w zs es) (l1 : ds.length = n) (l2 : es.length = m) :
    RelDs K T w (gKw is vs mv zs) (gKwD is md ds es) ∧ (gKwD is md ds es).length = n + is.length :=
  ⟨r.append (pick_rel is (z.append (hm w))), by
    unfold gKwD
    rw [List.length_append, l1, pick_len (by rw [List.length_append, l2]; exact h1)]⟩
theorem gkw_rel {K : PySem.W.Frag} {T : Tb} {mv : List V} {md : List D} {ps ks : List Str} (is : List Nat) (hm : ∀ w, RelDs K T w mv md) {n : Nat} (h1 : (is.all fun i => decide (i < ks.length + md.length)) = true) (h2 : n + is.length + 1 = ps.length) : ∀ (w : Wd) (vs zs : List V) (ds es : List D), RelDs K T w vs ds → RelDs K T w zs es → ds.length = n → es.length = ks.length →
    RelDs K T w (gKw is vs mv zs) (gKwD is md ds es) ∧ (gKwD is md ds es).length + 1 = ps.length := fun w vs zs ds es r z l1 l2 => by
  obtain ⟨a, b⟩ := gkw_rel0 is hm h1 w vs zs ds es r z l1 l2
  exact ⟨a, by rw [b]; exact h2⟩
theorem gkw_relF {K : PySem.W.Frag} {T : Tb} {mv : List V} {md : List D} {ps ks : List Str} (is : List Nat) (hm : ∀ w, RelDs K T w mv md) {n : Nat} (h1 : (is.all fun i => decide (i < ks.length + md.length)) = true) (h2 : n + is.length = ps.length) : ∀ (w : Wd) (vs zs : List V) (ds es : List D), RelDs K T w vs ds → RelDs K T w zs es → ds.length = n → es.length = ks.length →
    RelDs K T w (gKw is vs mv zs) (gKwD is md ds es) ∧ (gKwD is md ds es).length = ps.length := fun w vs zs ds es r z l1 l2 => by
  obtain ⟨a, b⟩ := gkw_rel0 is hm h1 w vs zs ds es r z l1 l2
  exact ⟨a, by rw [b]; exact h2⟩
theorem fn_cx0 {P : Program} {w : World} {K : PySem.W.Frag} {mg : Str → Option Value} {base : Heap} {k : Nat} {f : Addr} {fd : FuncData} {ps : List Str} {sp : Sp} (F : FnOk P w K mg base (L2.CX P w) k f fd ps sp) :
    FnOk P w K mg base CX0 k f fd ps (fun vs H Q _ => sp vs H Q fun _ _ _ => False) := by
  refine ⟨fun vs H Q _ q => F.len vs H Q _ q, fun A outer s H args us vs Q E hr e0 hb r hsp => codeAny_mono (F.run A outer s H args us vs Q _ hr e0 hb r hsp) fun r s' hq => ?_⟩
  cases r with
  | error e =>
    obtain ⟨a, B, H', cls, d, rfl, fl, hok, ub, na, os, ag, hE⟩ := (show L2.CX P w outer H s (fun _ _ _ => False) e s' from hq)
    exact hE.elim
  | ok fl => cases fl <;> exact hq
end Pk

/-! Pk16: classes whose __init__ takes *rest and keyword-only parameters. -/
namespace Pk
open PySem PySem.Spec L2
section
variable {P : Program} {w : World} {K : PySem.W.Frag} {mg : Str → Option Value} {base : Heap} {T : Tb} {k : Nat} {x qual : Str} {params : Arguments} {body : List Stmt} {scope : Scope} {dvs : List V} {kws : List (Str × V)} {f : Addr} {fd : FuncData} {N ps : List Str}
/-- the body's reading of an __init__, as fn_simI has it -/
theorem body_simI (c : Nat) (S : FnScope N ps scope) {m : M Fl} (dm : Does P w K mg base T k N qual scope body m) (cdv : Value) (A : Around) (outer : List Env) (s : Shared) (H : Hp) (vs : List V) (Q : VK) (E : XK)
    (hr : Room k (A.deeper (PyProof.Rows.envOfC qual scope s.heap.objs.size f cdv))) (sp : spI K T c ps.length (runI c N.length m) vs H Q E) :
    ∃ t, PSs (Cxd P w K mg base N qual scope f cdv A outer s H E) body t ∧ t { nx := fun _ H' => Q .non H', rt := Q } (L2.start N vs) H := by
  obtain ⟨w, h, ds, G, x, dx, us, ev, nx, eH, R, rs, hl, post⟩ := sp
  refine ⟨WSs _ body, pss_max, ?_⟩
  have hpl : ps.length ≤ N.length := by
    have := congrArg List.length S.pre
    rw [List.length_take] at this
    omega
  subst ev eH
  refine dm f cdv A outer s _ E (cq_of S hr) ⟨w, G, [], some x⟩ w _ _ (startF N.length (.no c [] :: ds)) h _ (R.ofme.startI rfl nx rs (by rw [hl]; exact hpl)) ?_
  unfold runI at post
  cases e : m (startF N.length (.no c [] :: ds)) h with
  | ok fl fr h' =>
    rw [e] at post
    cases fl with
    | nx =>
      intro w' σ' H' l R'
      dsimp only at post
      cases e0 : (fr : Fr)[0]? with
      | none => rw [e0] at post; exact post.elim
      | some od =>
        rw [e0] at post
        cases od with
        | none => exact post.elim
        | some d =>
          cases d with
          | no c' fs =>
            dsimp only at post
            by_cases hc : c' = c
            · rw [if_pos hc] at post
              subst hc
              have s0 := R'.me x _ rfl e0 rfl
              obtain ⟨v, ev, z⟩ := slot_some R' e0
              rw [s0] at ev
              cases ev
              cases z with
              | val r => cases r
              | own O eH r => exact post w' H' .non l R'.unframe.unme ⟨rfl, ⟨O.f, O.i, O.e, fun q hq => by cases hq⟩, _, eH, r⟩
            · rw [if_neg hc] at post
              exact post.elim
          | _ => exact post.elim
    | rt d => exact post.elim
    | brk => exact post.elim
    | ct => exact post.elim
  | exc y fr h' =>
    rw [e] at post
    exact fun w' σ' H' c dd l R' z => post w' H' c dd l R'.unframe.unme z
  | err => rw [e] at post; exact post
end

/-- an __init__(self, *rest, k1, ..): what its call promises -/
structure FnS (P : Program) (w : World) (K : PySem.W.Frag) (mg : Str → Option Value) (base : Heap) (T : Tb) (k c : Nat) (f : Addr) (n : Nat) (ks : List Str) (F : Fn) : Prop where
  run : ∀ (A : Around) (outer : List Env) (s : Shared) (H : Hp) (u0 : Value) (ur ws : List Value) (v0 : V) (vr zs : List V) (Q : VK) (E : XK), Room k A → Env0 P w K mg base A outer s H → RelV v0 u0 → Vals vr ur → Vals zs ws → zs.length = ks.length → vr.length ≤ sizeLine →
    (∀ p, H p = none → spI K T c n F (v0 :: (zs ++ [.ref p])) (upd H p (.tup vr)) Q E) → codeAny (model P w) A (.call (.ref f) ⟨u0 :: ur, ks.zip ws⟩) (CR (L2.CX P w) outer P w H s Q E) s
  made : Mk K (T.cad c) f
section
variable {P : Program} {w : World} {K : PySem.W.Frag} {mg : Str → Option Value} {base : Heap} {T : Tb} {k : Nat} {x qual : Str} {params : Arguments} {body : List Stmt} {scope : Scope} {f : Addr} {fd : FuncData} {N : List Str} {p0 pv : Str} {ks : List Str}
theorem fn_simS (c : Nat) (F : FunD K x qual params body scope [] [] f fd) (Mf : Mk K (T.cad c) f) (S : FnScope N (p0 :: ks ++ [pv]) scope) {m : M Fl} (dm : Does P w K mg base T k N qual scope body m)
    (hb : ∀ (kV doc pm : Value) (an : Option Addr) (cdv ct u0 : Value) (ur ws : List Value), ws.length = ks.length → bindArgs (PySem.W.fnOf x qual params body scope .none kV doc pm an cdv ct) ⟨u0 :: ur, ks.zip ws⟩ = (newTuple ur >>= fun t => pure ((p0 :: ks).zip (u0 :: ws) ++ [(pv, t)]))) :
    FnS P w K mg base T (k + 1) c f (p0 :: ks ++ [pv]).length ks (runI c N.length m) := by
  refine ⟨fun A outer s H u0 ur ws v0 vr zs Q E hr e0 r0 rr rz hz hbig hq => ?_, Mf⟩
  obtain ⟨oc, od, dV, kV, doc, pm, an, cdv, ct, osl, rfl, lk, hcd, hD, hK⟩ := F.ex
  have edV : dV = .none := by
    rcases hD with ⟨_, e⟩ | ⟨e, _⟩
    · exact e
    · exact absurd rfl e
  subst edV
  have hn : H s.heap.objs.size = none := e0.hok.fresh (Nat.le_refl _)
  have hl2 : ur.length ≤ sizeLine := by rw [← rr.length]; exact hbig
  have hws : ws.length = ks.length := by rw [← rz.length]; exact hz
  refine StX.run_bnd lk hcd S hr e0 (G := fun xs H2 => ∃ p, H p = none ∧ xs = v0 :: (zs ++ [V.ref p]) ∧ H2 = upd H p (.tup vr)) (fun A' Ex Q' h => ?_) fun s2 H2 xs ⟨p, hp, ex, eH⟩ hr' => ?_
  · rw [hb kV doc pm an cdv ct u0 ur ws hws]
    refine wpAny_bind (wpAny_newTuple (wpAny_pure ?_) hl2)
    have new : ObjOk P w (upd H s.heap.objs.size (.tup vr)) (s.heap.push ({ cls := .type "tuple", data := .seq ur.toArray } : Obj)) s.heap.objs.size (.tup vr) := ⟨hbig, ur, rr, ⟨_, Heap.get?_push_size _ rfl, rfl, _, rfl⟩⟩
    have un := StX.un_laid (fs := frs outer) (s := s) (o := ({ cls := .type "tuple", data := .seq ur.toArray } : Obj)) (u := .tup vr) hn
    have z := h _ _ (v0 :: (zs ++ [V.ref s.heap.objs.size])) (u0 :: (ws ++ [Value.ref s.heap.objs.size])) (StX.env0_laid e0 new) un rfl (fun e s' => StX.cxUp outer s H _ _ E e s' un (fun b o q => Heap.get?_push_of_some _ q) rfl) (.cons r0 (rz.append (.cons rfl .nil)))
      (by simp [hz]) ⟨_, hn, rfl, rfl⟩
    have ez : (p0 :: ks ++ [pv]).zip (u0 :: (ws ++ [Value.ref s.heap.objs.size])) = (p0 :: ks).zip (u0 :: ws) ++ [(pv, Value.ref s.heap.objs.size)] := by
      show ((p0 :: ks) ++ [pv]).zip ((u0 :: ws) ++ [Value.ref s.heap.objs.size]) = _
      rw [List.zip_append (by simp [hws])]
      rfl
    rw [ez] at z
    exact z
  · subst ex eH
    exact body_simI c S dm _ A outer s2 _ _ Q E hr' (hq p hp)
end

/-! ### the calls -/
def starG (ds es : List D) : List D := es ++ [.tup ds]
def mStar (m : Nat) (F : Fn) (ma : M D) (mk : M (List D)) : M D := ma.bind fun d => mk.bind fun es fr h => match d.its [] with
  | some ds => if ds.length ≤ big ∧ es.length = m then liftR fr (F (starG ds es) h) else .err
  | none => .err
section
variable {X : Cx} {T : Tb} {W : WX} {k kk n c : Nat} {f : Addr} {ks : List Str} {F : Fn} {x : Str} {p pos apos : Pos} {e : Expr} {es : List Expr} {kws : List Keyword} {ma : M (List D)} {mo : M D} {mk : M (List D)}
theorem starS_end {B : Bs} {w : Wd} {σ : L2.St} {H : Hp} {fr : Fr} {h : Hh} {vs zs : List V} {ds es : List D} {Q : VK} (hn : n = ks.length + 2)
    (R : Rel X.K T B w σ H fr h) (rs : RelDs X.K T w vs ds) (rz : RelDs X.K T w zs es) (hb : ds.length ≤ big) (hm : es.length = ks.length) (pp : Post X.K T B W (vE X.K T B σ) w σ (liftR fr (F (starG ds es) h)) Q) :
    zs.length = ks.length ∧ vs.length ≤ sizeLine ∧ ∀ x dx, H x = none → H dx = none → dx ≠ x → ∀ p, (upd (upd H dx (.own x)) x (.ins (T.cad c) dx [])) p = none →
      spI X.K T c n F (.ref x :: (zs ++ [.ref p])) (upd (upd (upd H dx (.own x)) x (.ins (T.cad c) dx [])) p (.tup vs)) (fun v H2 => v = .non ∧ Q (.ref x) H2) (fun c d H' => W c d σ H') := by
  refine ⟨rz.length.trans hm, by rw [rs.length]; exact big_line hb, fun x dx nx nd ne p np => ?_⟩
  have px : p ≠ x := fun z => by rw [z, upd_same] at np; cases np
  rw [upd_ne px] at np
  have pd : p ≠ dx := fun z => by rw [z, upd_same] at np; cases np
  rw [upd_ne pd] at np
  have R1 := R.laid (o := .tup vs) np
  have le := Wd.le_add (p := p) (o := .tup vs) (R.nP np).1
  have eH : upd (upd (upd H dx (.own x)) x (.ins (T.cad c) dx [])) p (.tup vs) = upd (upd (upd H p (.tup vs)) dx (.own x)) x (.ins (T.cad c) dx []) := by
    funext b
    by_cases hp : b = p
    · subst hp
      rw [upd_same, upd_ne px, upd_ne pd, upd_same]
    · rw [upd_ne hp]
      by_cases hx : b = x
      · subst hx; rw [upd_same, upd_same]
      · rw [upd_ne hx, upd_ne hx]
        by_cases hd : b = dx
        · subst hd; rw [upd_same, upd_same]
        · rw [upd_ne hd, upd_ne hd, upd_ne hp]
  rw [eH]
  refine call_spI R1 (ds := starG ds es) ((rz.mono le).append (.cons (.tup (.inl (.inl (by show upd w.F p _ p = _; rw [upd_same]))) (rs.mono le)) .nil)) ?_ ?_ ?_ ne (pp.le le)
  · unfold starG
    rw [List.length_append, hm, List.length_singleton, hn]
  · rw [upd_ne (Ne.symm px)]; exact nx
  · rw [upd_ne (Ne.symm pd)]; exact nd
theorem run_mkS {pins : List (Addr × Obj)} {σ : L2.St} {H : Hp} {s : Shared} {Q : VK} {us ws : List Value} {vs zs : List V} (F0 : FnS X.prog X.w X.K X.mg X.base T kk c f n ks F) (hr : Room (kk + 1) X.A) (tk : Takes X W)
    (I : Inv X pins σ H s) (r : Vals vs us) (rz : Vals zs ws) (l2 : zs.length = ks.length) (lb : vs.length ≤ sizeLine)
    (h : ∀ x dx, H x = none → H dx = none → dx ≠ x → ∀ p, (upd (upd H dx (.own x)) x (.ins (T.cad c) dx [])) p = none →
      spI X.K T c n F (.ref x :: (zs ++ [.ref p])) (upd (upd (upd H dx (.own x)) x (.ins (T.cad c) dx [])) p (.tup vs)) (fun v H2 => v = .non ∧ Q (.ref x) H2) (fun c d H' => W c d σ H')) :
    wpAny (model X.prog X.w) X.A (call (.ref (T.cad c)) us (ks.zip ws)) (EP X pins σ Q) X.xe s := by
  have hq := h (s.heap.objs.size + 1) s.heap.objs.size (I.hok.fresh (Nat.le_succ _)) (I.hok.fresh (Nat.le_refl _)) (Nat.ne_of_lt (Nat.lt_succ_self _))
  have I2 := Inv.made (C := T.cad c) I
  refine wpAny_call (make_map (f := f) I.kIn F0.made.makes F0.made.init (beq_iff_eq.mp F0.made.fn) (codeAny_mono (F0.run _ X.stack _ _ (Value.ref (s.heap.objs.size + 1)) us ws (V.ref (s.heap.objs.size + 1)) vs zs _ _ (hr.make (T.cad c) us (ks.zip ws))
    (I2.env0.make (T.cad c) us (ks.zip ws)) rfl r rz l2 lb hq) fun r s' hq' => ?_))
  cases r with
  | error e => exact passAt tk σ pins _ _ e s' I2 hq'
  | ok fl =>
    cases fl with
    | ret u =>
      obtain ⟨v, H', I3, rv, ev, q3⟩ := I2.after hq'
      subst ev
      exact ⟨rv, ⟨V.ref (s.heap.objs.size + 1), H', I3, rfl, q3⟩⟩
    | next => exact False.elim hq'
    | brk => exact False.elim hq'
    | cont => exact False.elim hq'
/-- C(k = v) -/
theorem se_makeS0 (C : Cq X T W k) (F0 : FnS X.prog X.w X.K X.mg X.base T kk c f n ks F) (hn : n = ks.length + 2) (hk : kk + 1 ≤ k) (hm : X.mg x = some (.ref (T.cad c))) (sk : SimK X T W kws mk) (hg : Gl X x := by rfl) (hdb : (x == ("__debug__" : Str)) = false := by decide)
    (hall : (backToKw pos (keywordEach kws X.env)).all (·.1.isSome) = true := by rfl) (hks : (backToKw pos (keywordEach kws X.env)).filterMap (·.1) = ks := by rfl)
    (hpl : ((backTo pos (starEach [] X.env)).any (·.1) || (backToKw pos (keywordEach kws X.env)).any (·.1.isNone)) = false := by rfl) :
    SimE X T W (.Call (.Name x p) [] kws pos) (mCall 0 ks.length F starG (mArgs []) mk) := fun B w σ H fr h Q R pp => WE.mk <| fun pins s I => by
  refine wpAny_Call_Name_kw (ld_glob I hg hm ?_ hdb)
  refine PySem.W.callWith_KW0 (h₀ := X.base) I.ok.mod.kin F0.made.kp hall ?_ hpl
  have fin : ∀ {w2 : Wd} {H2 : Hp} {fr2 : Fr} {h2 : Hh} {zs : List V} {es : List D}, Rel X.K T B w2 σ H2 fr2 h2 → RelDs X.K T w2 zs es → Post X.K T B W (vE X.K T B σ) w2 σ (if ([] : List D).length = 0 ∧ es.length = ks.length then liftR fr2 (F (starG [] es) h2) else .err) Q →
      zs.length = ks.length ∧ ([] : List V).length ≤ sizeLine ∧ ∀ x dx, H2 x = none → H2 dx = none → dx ≠ x → ∀ p, (upd (upd H2 dx (.own x)) x (.ins (T.cad c) dx [])) p = none →
      spI X.K T c n F (.ref x :: (zs ++ [.ref p])) (upd (upd (upd H2 dx (.own x)) x (.ins (T.cad c) dx [])) p (.tup [])) (fun v H2 => v = .non ∧ Q (.ref x) H2) (fun c d H' => W c d σ H') := fun {w2 H2 fr2 h2 zs es} r2 rz p2 => by
    by_cases hl : es.length = ks.length
    · rw [if_pos ⟨rfl, hl⟩] at p2
      exact starS_end hn r2 .nil rz (Nat.zero_le _) hl p2
    · rw [if_neg fun z => hl z.2] at p2
      exact p2.elim
  refine thn ((sk B w σ H fr h _ R (Post.bind (VR := vA X.K T B σ) pp fun es fr2 h2 w2 H2 zs e2 l2 r2 rz p2 => fin r2 rz p2)).go pos pins s I) fun ws s2 ⟨zs, H2, I2, rz, q2⟩ => ⟨I2.kIn, ?_⟩
  rw [hks]
  exact run_mkS (us := []) F0 (C.room.mono hk) C.takes I2 .nil rz q2.1 q2.2.1 q2.2.2
/-- C(e, .., k = v) -/
theorem se_makeSP (C : Cq X T W k) (F0 : FnS X.prog X.w X.K X.mg X.base T kk c f n ks F) (hn : n = ks.length + 2) (hk : kk + 1 ≤ k) {j : Nat} (hj : j ≤ big) (hm : X.mg x = some (.ref (T.cad c))) (sa : SimA X T W (e :: es) ma) (sk : SimK X T W kws mk) (hg : Gl X x := by rfl) (hdb : (x == ("__debug__" : Str)) = false := by decide)
    (hall : (backToKw pos (keywordEach kws X.env)).all (·.1.isSome) = true := by rfl) (hks : (backToKw pos (keywordEach kws X.env)).filterMap (·.1) = ks := by rfl)
    (he : starEach (e :: es) X.env = (false, eval e X.env) :: starEach es X.env := by exact star_no rfl) (hpl : ((backTo pos (starEach (e :: es) X.env)).any (·.1) || (backToKw pos (keywordEach kws X.env)).any (·.1.isNone)) = false := by rfl) :
    SimE X T W (.Call (.Name x p) (e :: es) kws pos) (mCall j ks.length F starG ma mk) := fun B w σ H fr h Q R pp => WE.mk <| fun pins s I => by
  refine wpAny_Call_Name_kw (ld_glob I hg hm ?_ hdb)
  have fin : ∀ {w2 : Wd} {H2 : Hp} {fr2 : Fr} {h2 : Hh} {vs zs : List V} {ds es : List D}, Rel X.K T B w2 σ H2 fr2 h2 → RelDs X.K T w2 vs ds → RelDs X.K T w2 zs es → Post X.K T B W (vE X.K T B σ) w2 σ (if ds.length = j ∧ es.length = ks.length then liftR fr2 (F (starG ds es) h2) else .err) Q →
      zs.length = ks.length ∧ vs.length ≤ sizeLine ∧ ∀ x dx, H2 x = none → H2 dx = none → dx ≠ x → ∀ p, (upd (upd H2 dx (.own x)) x (.ins (T.cad c) dx [])) p = none →
      spI X.K T c n F (.ref x :: (zs ++ [.ref p])) (upd (upd (upd H2 dx (.own x)) x (.ins (T.cad c) dx [])) p (.tup vs)) (fun v H2 => v = .non ∧ Q (.ref x) H2) (fun c d H' => W c d σ H') := fun {w2 H2 fr2 h2 vs zs ds es} r2 rs rz p2 => by
    by_cases hl : ds.length = j ∧ es.length = ks.length
    · rw [if_pos hl] at p2
      exact starS_end hn r2 rs rz (by rw [hl.1]; exact hj) hl.2 p2
    · rw [if_neg hl] at p2
      exact p2.elim
  refine PySem.W.callWith_KW (h₀ := X.base) I.ok.mod.kin F0.made.kp hall (thn ((sa B w σ H fr h _ R (Post.bind (VR := vA X.K T B σ) pp fun ds fr1 h1 w1 H1 vs e1 l1 r1 rs p1 =>
    sk B w1 σ H1 fr1 h1 _ r1 (Post.bind (VR := vA X.K T B σ) p1 fun es fr2 h2 w2 H2 zs e2 l2 r2 rz p2 => fin r2 (rs.mono l2) rz p2))).go pos pins s I) fun us s1 ⟨vs, H1, I1, r, q⟩ => ?_) hpl he
  refine thn (q.go pos pins s1 I1) fun ws s2 ⟨zs, H2, I2, rz, q2⟩ => ⟨I2.kIn, ?_⟩
  rw [hks]
  exact run_mkS F0 (C.room.mono hk) C.takes I2 r rz q2.1 q2.2.1 q2.2.2
end

/-! ### C(*e, k = v) -/
section
open PySem.W
variable {M' : Model} {A : Around} {E : Value → Shared → Prop} {s : Shared}
theorem lone_kw {f : Value} {x : Sem Value} {pos : Pos} {keywords : List (Option Str × Sem Value)} {Q : Args → Shared → Prop} (hall : keywords.all (·.1.isSome) = true)
    (h : wpAny M' A x (fun v s₁ => wpAny M' A (evalAll (keywords.map (·.2))) (fun ks s₂ => StarOf M' A E v (fun vs s₃ => Q ⟨vs, (keywords.filterMap (·.1)).zip ks⟩ s₃) s₂) E s₁) E s) :
    wpAny M' A (evalArgs f true [(true, (do let v ← x; standAt pos; pure v))] keywords) Q E s := by
  unfold evalArgs
  refine wpAny_bind (wpAny_bind (wpAny_mono h (fun v s₁ h₁ => wpAny_bind (wpAny_standAt (wpAny_pure ?_))) fun _ _ x => x))
  refine wpAny_holding ?_
  simp only [hall, if_true]
  refine wpAny_bind (wpAny_mono h₁ (fun ks s₂ h₂ => ?_) fun _ _ x => x)
  unfold StarOf at h₂
  refine wpAny_bind (wpAny_bind (wpAny_mono h₂ (fun b s₃ h₃ => ?_) fun _ _ x => x))
  obtain ⟨rfl, h₃⟩ := h₃
  simp only [Bool.false_eq_true, if_false]
  exact wpAny_holding (wpAny_mono h₃ (fun vs s₄ h₄ => wpAny_pure h₄) fun _ _ x => x)
theorem star_callK {f : Value} {first : List Value} {pos : Pos} {Q : Value → Shared → Prop} {P : Heap → Prop} {args : List (Bool × Sem Value)} {keywords : List (Option Str × Sem Value)} (hst : args.any (·.1) = true)
    (hk : ∀ h, P h → ∃ k, (k = Keeper.frame ∨ k = Keeper.machine ∨ k = Keeper.boundFrame) ∧ Looks M' h (keeperOf f) k)
    (h : wpAny M' A (evalArgs f true args keywords) (fun a s₁ => P s₁.heap ∧ wpAny M' A (call f (first ++ a.pos) a.kw) Q E s₁) E s) : wpAny M' A (callWith pos f first args keywords) Q E s := by
  unfold callWith
  refine wpAny_bind (wpAny_holding (wpAny_mono h (fun a s₁ h₁ => wpAny_bind (wpAny_standAt ?_)) fun _ _ x => x))
  obtain ⟨k, hk', L⟩ := hk _ h₁.1
  simp only [hst, Bool.true_or]
  refine wpAny_bind (L.here ?_)
  have tail : ∀ {t : Sem Value}, wpAny M' A t Q E s₁ → wpAny M' A (t >>= fun r => holding [r] point >>= fun _ => pure r) Q E s₁ :=
    fun ht => wpAny_bind (wpAny_mono ht (fun r s₂ hr => wpAny_bind (wpAny_holding (wpAny_point (wpAny_pure hr)))) fun _ _ x => x)
  have marked (mk : Value) : wpAny M' A (callMarked mk f (first ++ a.pos) a.kw) Q E s₁ := by unfold callMarked; exact Calls.wpAny_keep h₁.2
  rcases hk' with rfl | rfl | rfl <;> dsimp only <;> first | exact tail (marked _) | exact tail (wpAny_operating h₁.2)
end
theorem its_any {d : D} {ds : List D} (e : d.its [] = some ds) (h : Hh) : d.its h = some ds := by
  cases d <;> first | exact e | (unfold D.its D.der at e; simp at e)
section
variable {X : Cx} {T : Tb} {W : WX} {k kk n c : Nat} {f : Addr} {ks : List Str} {F : Fn} {x : Str} {p sp_ pos apos : Pos} {e : Expr} {kws : List Keyword} {mo : M D} {mk : M (List D)}
theorem se_makeStar (C : Cq X T W k) (F0 : FnS X.prog X.w X.K X.mg X.base T kk c f n ks F) (hn : n = ks.length + 2) (hk : kk + 1 ≤ k) (hm : X.mg x = some (.ref (T.cad c))) (so : SimV X T W e mo) (sk : SimK X T W kws mk) (hg : Gl X x := by rfl) (hdb : (x == ("__debug__" : Str)) = false := by decide)
    (hall : (backToKw pos (keywordEach kws X.env)).all (·.1.isSome) = true := by rfl) (hks : (backToKw pos (keywordEach kws X.env)).filterMap (·.1) = ks := by rfl)
    (hst : starEach [.Starred e sp_] X.env = [(true, eval e X.env)] := by rfl) :
    SimE X T W (.Call (.Name x p) [.Starred e sp_] kws pos) (mStar ks.length F mo mk) := fun B w σ H fr h Q R pp => WE.mk <| fun pins s I => by
  refine wpAny_Call_Name_kw (ld_glob I hg hm ?_ hdb)
  rw [hst]
  refine star_callK rfl (PySem.W.keeps_K F0.made.kp) (lone_kw hall ?_)
  have fin : ∀ {w2 : Wd} {H2 : Hp} {fr2 : Fr} {h2 : Hh} {y : V} {zs : List V} {d : D} {es : List D}, Rel X.K T B w2 σ H2 fr2 h2 → RelD X.K T w2 y d → RelDs X.K T w2 zs es → Post X.K T B W (vE X.K T B σ) w2 σ (match d.its [] with
      | some ds => if ds.length ≤ big ∧ es.length = ks.length then liftR fr2 (F (starG ds es) h2) else .err
      | none => .err) Q →
      ∃ a vs, y = .ref a ∧ (SqT X.K H2 a vs ∨ SqL X.K H2 a vs) ∧ zs.length = ks.length ∧ vs.length ≤ sizeLine ∧ ∀ x dx, H2 x = none → H2 dx = none → dx ≠ x → ∀ p, (upd (upd H2 dx (.own x)) x (.ins (T.cad c) dx [])) p = none →
      spI X.K T c n F (.ref x :: (zs ++ [.ref p])) (upd (upd (upd H2 dx (.own x)) x (.ins (T.cad c) dx [])) p (.tup vs)) (fun v H2 => v = .non ∧ Q (.ref x) H2) (fun c d H' => W c d σ H') := fun {w2 H2 fr2 h2 y zs d es} r2 rd rz p2 => by
    cases ed : d.its [] with
    | none => rw [ed] at p2; exact p2.elim
    | some ds =>
      rw [ed] at p2
      dsimp only at p2
      obtain ⟨a, vs, ey, rs, sq⟩ := its_rel (h := h2) r2 (.inl rd) (its_any ed h2)
      by_cases hl : ds.length ≤ big ∧ es.length = ks.length
      · rw [if_pos hl] at p2
        exact ⟨a, vs, ey, sq.symm, starS_end hn r2 rs rz hl.1 hl.2 p2⟩
      · rw [if_neg hl] at p2
        exact p2.elim
  refine thn ((so B w σ H fr h _ R (Post.bind (VR := vV X.K T B σ) pp fun d fr1 h1 w1 H1 y e1 l1 r1 rd p1 =>
    sk B w1 σ H1 fr1 h1 _ r1 (Post.bind (VR := vA X.K T B σ) p1 fun es fr2 h2 w2 H2 zs e2 l2 r2 rz p2 => fin r2 (rd.mono l2) rz p2))).go pins s I) fun v s1 ⟨y, H1, I1, ry, q⟩ => ?_
  refine thn (q.go pos pins s1 I1) fun ws s2 ⟨zs, H2, I2, rz, a, vs, ey, sq, hz, hb, q2⟩ => ?_
  subst ey
  obtain rfl : v = Value.ref a := ry
  refine StX.star_any I2 sq fun us s3 I3 rv => ⟨I3.kIn, ?_⟩
  rw [hks]
  exact run_mkS F0 (C.room.mono hk) C.takes I3 rv rz hz hb q2
end
end Pk

/-! Pk17: an operator between two instances of one own class, by its own method. -/
namespace Pk
open PySem PySem.Spec L2
structure DunF (X : Cx) (T : Tb) (k : Nat) (op : Operator) (mt : Nat → Option Fn) : Prop where
  ex : ∀ c F, mt c = some F → ∃ (kk : Nat) (f : Addr) (fd : FuncData) (ps : List Str), Cls X.K (T.cad c) ∧ Meth X.K (T.cad c) (PySem.dunder op.info.2) f ∧ PySem.W.selfFirst X.K (T.cad c) = true ∧ FnP X.prog X.w X.K X.mg X.base T kk f fd ps F ∧ Bn X.K T fd ps 2 [] (gPos []) ∧ kk ≤ k
/-- the class that both have -/
def sameC (h : Hh) (x y : D) : Option Nat := match x.ins h, y.ins h with
  | some (c, _), some (c', _) => if c = c' then some c else none
  | _, _ => none
def dunFn (mt : Nat → Option Fn) (h : Hh) (x y : D) : Option Fn := match sameC h x y with
  | some c => mt c
  | none => none
def mDun (mt : Nat → Option Fn) (ma mb : M D) : M D := ma.bind fun x => mb.bind fun y fr h => match dunFn mt h x y with
  | some F => liftR fr (F [x, y] h)
  | none => .err
section
variable {X : Cx} {T : Tb} {W : WX} {k : Nat} {a b : Expr} {ma mb : M D} {pos : Pos} {op : Operator}
theorem cmpback_of {pins : List (Addr × Obj)} {σ : L2.St} {Q : VK} {v : Value} {s : Shared} (h : EP X pins σ Q v s) : PySem.W.CmpBack (EP X pins σ Q) v s := by
  obtain ⟨y, H', I', r, q⟩ := id h
  cases y <;> first | (obtain rfl := (r : v = _); exact h) | (obtain ⟨t, rfl⟩ := r; exact h)
theorem sameC_of {h : Hh} {x y : D} {c : Nat} (e : sameC h x y = some c) : (∃ fs, x.ins h = some (c, fs)) ∧ ∃ gs, y.ins h = some (c, gs) := by
  unfold sameC at e
  split at e
  · rename_i c1 fs c2 gs e1 e2
    by_cases hc : c1 = c2
    · rw [if_pos hc] at e
      cases e
      subst hc
      exact ⟨⟨fs, e1⟩, gs, e2⟩
    · rw [if_neg hc] at e
      cases e
  · cases e
theorem se_dun {mt : Nat → Option Fn} (C : Cq X T W k) (Mf : DunF X T k op mt) (sa : SimV X T W a ma) (sb : SimV X T W b mb) : SimE X T W (.BinOp a op b pos) (mDun mt ma mb) := fun B w σ H fr h Q R pp => WE.mk <| fun pins s I => by
  refine wpAny_BinOp (binT (R := fun x y H2 => ∃ (kk : Nat) (f : Addr) (fd : FuncData) (ps : List Str) (p1 p2 C dx dy : Addr) (fs gs : List (Str × V)) (G : Fn), x = .ref p1 ∧ y = .ref p2 ∧ H2 p1 = some (.ins C dx fs) ∧ H2 p2 = some (.ins C dy gs) ∧ Meth X.K C (PySem.dunder op.info.2) f ∧ PySem.W.selfFirst X.K C = true ∧
      FnP X.prog X.w X.K X.mg X.base T kk f fd ps G ∧ Bn X.K T fd ps 2 [] (gPos []) ∧ kk ≤ k ∧
      ∀ g gV, KBn X.K fd ps 2 [] g gV → (∀ (w : Wd) (vs zs : List V) (ds es : List D), RelDs X.K T w vs ds → RelDs X.K T w zs es → ds.length = 2 → es.length = ([] : List Str).length → RelDs X.K T w (gV vs zs) (gPos [] ds es) ∧ (gPos [] ds es).length = ps.length) →
        spF X.K T ps.length G (gV [.ref p1, .ref p2] []) H2 Q (fun c d H' => W c d σ H')) pe_max pe_max I (sa B w σ H fr h _ R (Post.bind (VR := vV X.K T B σ) pp fun d fr1 h1 w1 H1 v e1 l1 r1 rd p1 =>
      sb B w1 σ H1 fr1 h1 _ r1 (Post.bind (VR := vV X.K T B σ) p1 fun e fr2 h2 w2 H2 u e2 l2 r2 re p2 => ?_))) fun v u s2 x y H2 I2 rx ry ⟨kk, f, fd, ps, p1, p2, Cl, dx, dy, fs, gs, G, ex, ey, ea, eb, c2, c3, c4, c5, c6, q⟩ => ?_)
  · have p3 : Post X.K T B W (vE X.K T B σ) w2 σ (match dunFn mt h2 d e with | some F => liftR fr2 (F [d, e] h2) | none => .err) Q := p2
    cases ef : dunFn mt h2 d e with
    | none => rw [ef] at p3; exact p3.elim
    | some G =>
      rw [ef] at p3
      dsimp only at p3
      have : ∃ c, sameC h2 d e = some c ∧ mt c = some G := by
        unfold dunFn at ef
        split at ef
        · rename_i c ec
          exact ⟨c, ec, ef⟩
        · cases ef
      obtain ⟨c, ec, em⟩ := this
      obtain ⟨⟨fs, i1⟩, gs, i2⟩ := sameC_of ec
      obtain ⟨kk, f, fd, ps, c1, c2, c3, c4, c5, c6⟩ := Mf.ex c G em
      obtain ⟨p1', dx, vs, rfl, eH, rs⟩ := ins_rel r2 (.inl (rd.mono l2)) i1
      obtain ⟨p2', dy, us, rfl, eH2, rs2⟩ := ins_rel r2 (.inl re) i2
      refine ⟨kk, f, fd, ps, p1', p2', T.cad c, dx, dy, _, _, G, rfl, rfl, eH, eH2, c2, c3, c4, c5, c6, fun g gV hb hgD => ?_⟩
      have p4 : Post X.K T B W (vE X.K T B σ) w2 σ (if ([d, e] : List D).length = 2 ∧ ([] : List D).length = 0 then liftR fr2 (G (gPos [] [d, e] []) h2) else .err) Q := by
        rw [if_pos ⟨rfl, rfl⟩]
        exact p3
      exact (call_end (n := 2) (m := 0) (zs := []) (es := []) (ds := [d, e]) hgD r2 (.cons (rd.mono l2) (.cons re .nil)) .nil p4).2.2
  · subst ex ey
    obtain rfl : v = Value.ref p1 := rx
    obtain rfl : u = Value.ref p2 := ry
    obtain ⟨mA, J, _⟩ := ins_get I2.hok ea
    obtain ⟨mB, J', _⟩ := ins_get I2.hok eb
    obtain ⟨od, J, _⟩ := J.look
    obtain ⟨od', J', _⟩ := J'.look
    obtain ⟨m, hF⟩ := I2.fr
    refine PySem.W.binop_K hF I2.ok.mod.kin J J'.type c3 c2.at_ c2.fn (wpAny_mono (Q := EP X pins σ Q) ?_ (fun _ _ z => cmpback_of z) fun _ _ z => z)
    obtain ⟨g, gV, hb, hgD⟩ := c5.ex
    exact run_gen (us := [.ref p1, .ref p2]) (ws := []) (vs := [.ref p1, .ref p2]) c4.ok (C.room.mono c6) hb C.takes I2 (.cons rfl (.cons rfl .nil)) .nil rfl rfl (q g gV hb hgD)
end
end Pk

/-! Pk18: own error classes whose __init__ says super().__init__(text) and then keeps its arguments. -/
namespace PySem
namespace ExS
open PySem.W PySem.Calls PyProof.Rows PySem.HandSPX
/-- self.f = f -/
abbrev asg (f : Str) (q1 q2 q3 q4 : Pos) : Stmt := .Assign [.Attribute (.Name "self" q1) f q2] (.Name f q3) q4
/-- super().__init__(e) -/
abbrev sup (e : Expr) (p0 p1 p2 p3 p4 : Pos) : Stmt := .Expr (.Call (.Attribute (.Call (.Name "super" p0) [] [] p1) "__init__" p2) [e] [] p3) p4
/-- what the written part says of such a class, at C, and of its __init__, at fI -/
structure ExTxt (prog : Program) (K : Frag) (C fI : Addr) (params : Arguments) (body : List Stmt) (scope : Scope) (qual : Str) : Prop where
  cls : ∃ nm q N bs bm sn sub ab col dd k0 k1 k2 k3 k5, K.lookup C = some (excClassObj nm q C N bs bm true sn sub ab col dd k0 k1 k2 k3 k5 "ValueError.__new__") ∧ refsVE bm = true ∧ alongIn K "__init__" bm = some (some (.builtin "ValueError.__init__"))
  sa : findIn K (.ref C) "__setattr__" = some (some (.builtin "object.__setattr__"))
  iC : findIn K (.ref C) "__init__" = some (some (.ref fI))
  tC : typeIn K (.ref fI) = some (.type "function")
  subB : subIn K (.ref C) (.type "ValueError") = some true
  subC : mroIn K C (.ref C) = some true
  opq : nsIn K cStatics "thirdparty.any" = some none
  top : (prog.main.scope.names.lookup ("super" : Str)).isSome = false
  fn : ∃ (oc : Value) (od : Option Addr) (kV doc pm : Value) (an : Option Addr) (cda : Addr) (ct : Value) (osl : Array (Option Value)) (cc : Addr),
    K.lookup fI = some ⟨oc, od, .func (ksFn "__init__" qual params body scope .none kV doc pm an (.ref cda) ct cc), osl⟩ ∧ codeIn K (.ref cda) qual = true ∧
    (∃ (ccl : Value) (cdd : Option Addr) (vs : Array Value) (ccs : Array (Option Value)) (file : Str) (tf : Tok), K.lookup cda = some ⟨ccl, cdd, .fields vs, ccs⟩ ∧ vs[2]? = some (.str file tf) ∧ ((prog.main.file : Str) == file) = true) ∧
    ∃ (cl : Value) (cld : Option Addr) (csl : Array (Option Value)), K.lookup cc = some ⟨cl, cld, .cell (some (.ref C)), csl⟩
section
variable {prog : Program} {w : World} {M : Model} {A : Around} {E : Value → Shared → Prop} {s : Shared}
theorem spliced1 {t : Sem Value} {Q : List Value → Shared → Prop} (h : wpAny M A t (fun v s => Q [v] s) E s) : wpAny M A (spliced [(false, t)]) Q E s := by
  unfold spliced
  refine wpAny_bind (wpAny_mono h (fun v s' h' => ?_) fun _ _ x => x)
  refine wpAny_bind (wpAny_pure ?_)
  refine wpAny_bind (wpAny_holding ?_)
  exact Calls.spliced_nil (wpAny_pure h')
/-- the method-wrapper called: the args are laid anew -/
theorem call_mw {h : Heap} {g : Array GenState} {d : Drawn} {t : Nat} {os : OsState} {nm q : Str} {C N : Addr} {bs bm : List Value} {hdct : Bool} {sn : List Str} {sub : List Value} {ab : Bool} {col : Option Bool} {dd : Option Addr} {k0 k1 k2 k3 k5 : Option Value} {u x t0 : Addr} {rest : List Value} {Q : Value → Shared → Prop}
    (hC : h.get? C = some (excClassObj nm q C N bs bm hdct sn sub ab col dd k0 k1 k2 k3 k5 "ValueError.__new__")) (he : h.get? x = some (excO C t0)) (hu : h.get? u = some (kxs_mw "ValueError.__init__" x)) (hz : rest.length ≤ sizeLine)
    (hq : ∀ h' t1, (∀ b o, b ≠ x → h.get? b = some o → h'.get? b = some o) → h'.get? x = some (excO C t1) → Q .none ⟨h', g, d, t, os⟩) :
    wpAny (model prog w) A (call (.ref u) rest) Q E ⟨h, g, d, t, os⟩ := by
  refine wpAny_call (codeAny_of_tree ?_)
  show wpAny _ A.in1 (callAny (.ref u) ⟨rest, []⟩) _ _ _
  simp only [callAny]
  refine wpAny_bind (wpAny_load hu ?_)
  simp only [kxs_mw, show (Value.type "method-wrapper" == Value.type "method" || Value.type "method-wrapper" == Value.type "builtin_function_or_method" || Value.type "method-wrapper" == Value.type "method-wrapper") = true by decide, if_true]
  refine KFB.if_so (by decide) ?_
  refine wpAny_bind (check_bound_init F.excBase_ValueError.toExcCallFacts hC he rfl ?_)
  refine wpAny_bind (wpAny_pure (wpAny_pure ?_))
  refine ⟨plainId_quiet F.excBase_ValueError.init.plain _, codeAny_builtin F.excBase_ValueError.initEntry ?_⟩
  exact exc_init_tree (cls := .ref C) (t0 := t0) (dv := none) (c2 := .none) (c3 := .none) (b4 := .bool false) he hz fun h' k e' _ => hq h' _ k e'
end
theorem in_none {K : Frag} {h : Heap} {b : Addr} (X : K.In h) (hb : h.objs.size ≤ b) : K.lookup b = none := by
  cases e : K.lookup b with
  | none => rfl
  | some o => exact absurd (Heap.lt_size (X _ _ e)) (Nat.not_lt.mpr hb)
theorem kept_but {K : Frag} {h h' : Heap} {x : Addr} (X : K.In h) (hx : K.lookup x = none) (k : ∀ b o, b ≠ x → h.get? b = some o → h'.get? b = some o) : K.In h' := fun a o e =>
  k a o (fun z => by rw [z, hx] at e; cases e) (X a o e)
section
variable {prog : Program} {w : World} {A : Around} {R : Result → Shared → Prop} {s : Shared} {K : Frag} {C fI : Addr} {params : Arguments} {scope : Scope} {qual : Str} {ex : Expr} {p0 p1 p2 p3 p4 : Pos} {rest : List Stmt} {mg mb : Str → Option Value}
/-- into __init__, up to what stands behind super().__init__(..) -/
theorem enter (T : ExTxt prog K C fI params (sup ex p0 p1 p2 p3 p4 :: rest) scope qual) {x t0 : Addr} {us : List Value} {binds : List (Str × Value)} (X : K.In s.heap) (hlim : s.heap.NoLimit) (hx : s.heap.get? x = some (excO C t0)) (hnx : K.lookup x = none) (hroom : A.depth < recursionLimit)
    (hG : s.heap.Ns mainGlobals mg) (hg : mg "super" = none) (hB : s.heap.Ns builtinsNs mb) (hb : mb "super" = some (.type "super"))
    (hbind : ∀ (kV doc pm : Value) (an : Option Addr) (cdv ct : Value) (cc : Addr), bindArgs (ksFn "__init__" qual params (sup ex p0 p1 p2 p3 p4 :: rest) scope .none kV doc pm an cdv ct cc) ⟨.ref x :: us, []⟩ = pure binds)
    (hself : binds.reverse.lookup ("self" : Str) = some (.ref x)) (hloc : ∀ y ∈ binds, scope.names.lookup y.1 = some .local)
    (hcell : ∀ y ∈ scope.names, y.2 ≠ .cell) (hp : ∃ ar : Arg, (params.posonlyargs ++ params.args).head? = some ar ∧ ar.arg = "self") (hks : scope.names.lookup ("super" : Str) = some .globalImplicit) (hkc : scope.names.lookup ("__class__" : Str) = some .free) (hka : scope.names.lookup ("self" : Str) = some .local)
    (hco : scope.isCoroutine = false) (hgen : scope.isGenerator = false) (hk : scope.kind = .function)
    (hE : ∀ (cda cc : Addr) (L : Addr) (A' : Around) (h : Heap) (g : Array GenState) (d : Drawn) (t : Nat) (os : OsState) (E' : Value → Shared → Prop) (Q : Value → Shared → Prop), (∀ b o, s.heap.get? b = some o → h.get? b = some o) → h.Ns L (fun y => binds.reverse.lookup y) → (∀ v t', Q v ⟨h, g, d, t', os⟩) → wpAny (model prog w) A' (eval ex (ksEnv qual scope L fI (.ref cda) cc)) Q E' ⟨h, g, d, t, os⟩)
    (hin : ∀ (cda cc L : Addr), interactive (ksEnv qual scope L fI (.ref cda) cc) = false)
    (hev : ∀ (cda cc L : Addr), ∃ pl : Sem Bool, eval (.Call (.Attribute (.Call (.Name "super" p0) [] [] p1) "__init__" p2) [ex] [] p3) (ksEnv qual scope L fI (.ref cda) cc) = (do
      let ov ← attributeBase (.Call (.Name "super" p0) [] [] p1) "__init__" (ksEnv qual scope L fI (.ref cda) cc) (eval (.Call (.Name "super" p0) [] [] p1) (ksEnv qual scope L fI (.ref cda) cc))
      standAt p2.atName
      let (f, first) ← holding [ov] (getMethod ov "__init__" pl)
      callWith p3 f first (backTo p3 (starEach [ex] (ksEnv qual scope L fI (.ref cda) cc))) []))
    (hsw : ∀ (cda cc L : Addr), swapsWith (.Call (.Attribute (.Call (.Name "super" p0) [] [] p1) "__init__" p2) [ex] [] p3) none p4.line (ksEnv qual scope L fI (.ref cda) cc) = pure false)
    (hst : ∀ env : Env, starEach [ex] env = [(false, eval ex env)])
    (hq : ∀ (cda cc : Addr) h' tk t1, (∀ b o, b ≠ x → s.heap.get? b = some o → h'.get? b = some o) → h'.get? x = some (excO C t1) → h'.Ns s.heap.objs.size (fun y => binds.reverse.lookup y) →
      wpAny (model prog w) (A.deeper (ksEnv qual scope s.heap.objs.size fI (.ref cda) cc)) (execs rest (ksEnv qual scope s.heap.objs.size fI (.ref cda) cc)) (fun f s' => R (.ok (.ret (match f with | .ret v => v | _ => .none))) s')
        (fun _ _ => False) { s with heap := h', toks := tk }) : codeAny (model prog w) A (.call (.ref fI) ⟨.ref x :: us, []⟩) R s := by
  obtain ⟨oc, od, kV, doc, pm, an, cda, ct, osl, cc, ho, hcd, ⟨ccl, cdd, vs, ccs, file, tf, hcode, hvs, hfile⟩, cl, cld, csl, hcel⟩ := T.fn
  obtain ⟨nm, q, N, bs, bm, sn, sub, ab, col, dd, k0, k1, k2, k3, k5, hC, hbm, hal⟩ := T.cls
  obtain ⟨ar, hp, har⟩ := hp
  have hcl : clsIn K C = some { name := nm, bases := bs, mro := .ref C :: bm, ns := N, qualname := q, hasDict := true, slotNames := sn, subclasses := sub, abstract := ab, collection := col, hasDel := false } := by unfold clsIn; rw [hC] <;> rfl
  refine ks_codeAny_call_defAt (fd := ksFn "__init__" qual params (sup ex p0 p1 p2 p3 p4 :: rest) scope .none kV doc pm an (.ref cda) ct cc) (body := sup ex p0 p1 p2 p3 p4 :: rest) (binds := binds) hroom (X _ _ ho) rfl hlim (codeRec_of X hcd) rfl (BindsTo.of_eq (hbind kV doc pm an (.ref cda) ct cc)) hcell hloc (fun h₁ hns hk₁ => ?_) hco hgen hk
  obtain ⟨hp0, g, d, t, os⟩ := s
  show wpAt (model prog w) (A.deeper (ksEnv qual scope hp0.objs.size fI (.ref cda) cc)) (.func (sup ex p0 p1 p2 p3 p4 :: rest) (ksEnv qual scope hp0.objs.size fI (.ref cda) cc)) (execs (sup ex p0 p1 p2 p3 p4 :: rest) (ksEnv qual scope hp0.objs.size fI (.ref cda) cc)) _ _ _
  have X₁ : K.In h₁ := X.keeps hk₁
  have hx₁ := hk₁ _ _ hx
  have hC₁ := X₁ _ _ hC
  have hxC : x ≠ C := fun z => by
    rw [z, hC₁] at hx₁
    cases hx₁
  obtain ⟨pl, hev⟩ := hev cda cc hp0.objs.size
  refine ks_wpAt_execs_cons (ks_wpAt_Expr_any (ks_wpAt_MethodCall (pl := pl) ?_ hev) (hin _ _ _) (hsw _ _ _))
  refine ks_wpAt_super_base (fd := ksFn "__init__" qual params (sup ex p0 p1 p2 p3 p4 :: rest) scope .none kV doc pm an (.ref cda) ct cc) hks hkc (by decide) rfl (X₁ _ _ ho) rfl hp rfl (X₁ _ _ hcode) rfl hvs hfile T.top ?_
  refine ks_loadName_global hk hks (Calls.loadGlobal_builtin (hG.keeps hk₁) hg (hB.keeps hk₁) hb ⟨rfl, ?_⟩)
  refine wpAny_loadName_free hk hkc rfl ⟨_, X₁ _ _ hcel, rfl⟩ ?_
  rw [har]
  refine wpAny_loadName_local hk hka hns hself ?_
  refine ks_wpAny_isType_cls hC₁ rfl ⟨rfl, ?_⟩
  refine ks_wpAny_call_super hC₁ rfl hx₁ rfl (fun c e => by cases e) (looks_mroIn X₁ T.subC) (fun h₂ hso k₂ => ?_)
  have X₂ : K.In h₂ := X₁.keeps k₂
  have hx₂ := k₂ _ _ hx₁
  have I₂ : InstAt h₂ x (excO C t0) C none := ⟨hx₂, rfl, rfl, trivial⟩
  refine kxs_getMethod kxs_ValueError hso (looks_opaque X₂ T.opq) (l₀ := .ref C :: bm) ((looks_clsIn X₂ hcl).andThen .now) (by simp [List.dropWhile_cons]) X₂ hal (I₂.type.andThen (looks_subIn X₂ T.subB)) hxC rfl ?_
  have k₃ : ∀ b o, h₂.get? b = some o → (h₂.push (kxs_mw "ValueError.__init__" x)).get? b = some o := fun b o e => Heap.get?_push_of_some _ e
  have hu : (h₂.push (kxs_mw "ValueError.__init__" x)).get? h₂.objs.size = some (kxs_mw "ValueError.__init__" x) := Heap.get?_push_at rfl rfl
  refine kxs_callWith (i := "ValueError.__init__") (x := x) (by rw [hst]; rfl) ?_
  rw [hst]
  refine evalArgs_plain ?_
  show wpAny _ _ (spliced [(false, eval ex (ksEnv qual scope hp0.objs.size fI (.ref cda) cc))]) _ _ _
  refine spliced1 (hE cda cc hp0.objs.size _ _ _ _ _ _ _ _ (fun b o e => k₃ _ _ (k₂ _ _ (hk₁ _ _ e))) ((hns.keeps k₂).keeps k₃) fun v t' => ⟨hu, ?_⟩)
  refine call_mw (k₃ _ _ (k₂ _ _ hC₁)) (k₃ _ _ hx₂) hu (by show 1 ≤ sizeLine; decide) fun h₄ t1 k₄ hx₄ => ?_
  have hxL : hp0.objs.size ≠ x := Nat.ne_of_gt (Heap.lt_size hx)
  refine wpAt_of_wpAny (wpAny_mono (hq cda cc h₄ _ t1 (fun b o hb e => k₄ b o hb (k₃ _ _ (k₂ _ _ (hk₁ _ _ e)))) hx₄ ?_) (fun _ _ z => z) fun _ _ z => z.elim)
  obtain ⟨o, es, ep, eo, r⟩ := (hns.keeps k₂).keeps k₃
  exact ⟨o, es, ep, k₄ _ _ hxL eo, r⟩
end
/-! ### the fields -/
abbrev Asg : Type := Str × Pos × Pos × Pos × Pos
abbrev asgs (gs : List Asg) : List Stmt := gs.map fun g => asg g.1 g.2.1 g.2.2.1 g.2.2.2.1 g.2.2.2.2
theorem look_put {α : Type} (f g : Str) (y : α) (fs : List (Str × α)) : ((f, y) :: fs).lookup g = if g = f then some y else fs.lookup g := by
  by_cases h : g = f
  · subst h
    simp [List.lookup]
  · have e : (g == f) = false := by simpa using h
    rw [if_neg h]
    simp [List.lookup, e]
theorem look_mem {α : Type} {y : Str} : ∀ {l : List (Str × α)} {v : α}, l.lookup y = some v → y ∈ l.map (·.1)
  | [], v, h => by cases h
  | (f, z) :: l, v, h => by
    rw [look_put] at h
    by_cases e : y = f
    · rw [e]; exact List.mem_cons_self ..
    · rw [if_neg e] at h
      exact List.mem_cons_of_mem _ (look_mem h)
theorem look_app {α : Type} {y : Str} : ∀ (l r : List (Str × α)), (l ++ r).lookup y = match l.lookup y with | some v => some v | none => r.lookup y
  | [], r => rfl
  | (f, z) :: l, r => by
    rw [List.cons_append, look_put, look_put]
    by_cases e : y = f
    · rw [if_pos e, if_pos e]
    · rw [if_neg e, if_neg e]; exact look_app l r
theorem look_none {α : Type} {y : Str} {l : List (Str × α)} (h : y ∉ l.map (·.1)) : l.lookup y = none := by
  cases e : l.lookup y with
  | none => rfl
  | some v => exact absurd (look_mem e) h
theorem look_rev {α : Type} {y : Str} : ∀ {l : List (Str × α)}, (l.map (·.1)).Nodup → l.reverse.lookup y = l.lookup y
  | [], _ => rfl
  | (f, z) :: l, h => by
    rw [List.map_cons, List.nodup_cons] at h
    have e1 : ((f, z) :: l).lookup y = if y = f then some z else l.lookup y := look_put f y z l
    have e2 : [(f, z)].lookup y = if y = f then some z else none := look_put f y z []
    rw [List.reverse_cons, look_app, look_rev h.2, e1, e2]
    by_cases e : y = f
    · subst e
      rw [look_none h.1, if_pos rfl]
    · rw [if_neg e, if_neg e]
      cases l.lookup y <;> rfl
/-- what is laid down so far, the last first -/
structure StX (h0 h : Heap) (x C : Addr) (done : List (Str × Value)) : Prop where
  keep : ∀ b o, b ≠ x → h0.get? b = some o → h.get? b = some o
  big : h0.objs.size ≤ h.objs.size
  at_ : ∃ (t1 : Addr) (dv : Option Addr), h.get? x = some { cls := .ref C, dict := dv, data := .fields #[.ref t1, .none, .none, .none, .bool false, .none] } ∧
    ((done = [] ∧ dv = none) ∨ ∃ (dx : Addr) (m : Str → Option Value), dv = some dx ∧ h0.objs.size ≤ dx ∧ dx ≠ x ∧ h.Ns1 dx m ∧ ∀ y, m y = done.lookup y)
section
variable {prog : Program} {w : World} {A : Around} {E : Value → Shared → Prop} {K : Frag} {C fI L x : Addr} {scope : Scope} {qual : Str} {cda cc : Addr} {m : Str → Option Value} {h0 : Heap} {g : Array GenState} {d : Drawn} {os : OsState} {Q : Flow → Shared → Prop} {cd : ClassData}
theorem stores (X0 : K.In h0) (hnx : K.lookup x = none) (hLx : L ≠ x) (hL0 : L < h0.objs.size) (hcl : clsIn K C = some cd) (hm : refsVE cd.mro = true) (hh : cd.hasDict = true) (sa : findIn K (.ref C) "__setattr__" = some (some (.builtin "object.__setattr__"))) (hk : scope.kind = .function) (hself : m "self" = some (.ref x)) (ls : scope.names.lookup ("self" : Str) = some .local)
    (hsw : ∀ g : Asg, swapsWith (.Name g.1 g.2.2.2.1) (some (.Attribute (.Name "self" g.2.1) g.1 g.2.2.1)) g.2.2.2.2.line (ksEnv qual scope L fI (.ref cda) cc) = pure false) (hns0 : h0.Ns L m) :
    ∀ (gs : List Asg) (vs : List Value) (done : List (Str × Value)) (h : Heap) (t : Nat), (∀ g ∈ gs, (g.1 == ("__debug__" : Str)) = false ∧ scope.names.lookup g.1 = some .local ∧ findIn K (.ref C) g.1 = some none) → gs.length = vs.length → (∀ (i : Nat) (f : Str) (v : Value), (gs.map (·.1))[i]? = some f → vs[i]? = some v → m f = some v) → done.length + gs.length ≤ 500 → StX h0 h x C done →
      (∀ h' t', StX h0 h' x C (((gs.map (·.1)).zip vs).reverse ++ done) → Q .next ⟨h', g, d, t', os⟩) → wpAny (model prog w) A (execs (asgs gs) (ksEnv qual scope L fI (.ref cda) cc)) Q E ⟨h, g, d, t, os⟩
  | [], vs, done, h, t, _, hl, _, _, S, hq => by
    cases vs with
    | nil => exact wpAny_execs_nil (hq h t S)
    | cons v vs => cases hl
  | a :: gs, vs, done, h, t, hg, hl, hv, hlen, S, hq => by
    cases vs with
    | nil => cases hl
    | cons v vs =>
      obtain ⟨n1, n2, n3⟩ := hg a List.mem_cons_self
      have hva : m a.1 = some v := hv 0 a.1 v rfl rfl
      obtain ⟨t1, dv, hx, hd⟩ := S.at_
      have X : K.In h := kept_but X0 hnx S.keep
      have hns : h.Ns L m := by
        obtain ⟨o, es, ep, eo, r⟩ := hns0
        exact ⟨o, es, ep, S.keep _ _ hLx eo, r⟩
      have go : ∀ h' t', StX h0 h' x C ((a.1, v) :: done) → wpAny (model prog w) A (execs (asgs gs) (ksEnv qual scope L fI (.ref cda) cc)) Q E ⟨h', g, d, t', os⟩ := fun h' t' S' => by
        refine stores X0 hnx hLx hL0 hcl hm hh sa hk hself ls hsw hns0 gs vs ((a.1, v) :: done) h' t' (fun b hb => hg b (List.mem_cons_of_mem _ hb)) (Nat.succ.inj hl) (fun i f u e1 e2 => hv (i + 1) f u e1 e2) (by simp only [List.length_cons] at hlen ⊢; omega) S' fun h2 t2 S2 => hq h2 t2 ?_
        have e : ((List.map (·.1) (a :: gs)).zip (v :: vs)).reverse ++ done = ((gs.map (·.1)).zip vs).reverse ++ (a.1, v) :: done := by
          simp
        rw [e]
        exact S2
      refine wpAny_execs_cons (plainObj_wpAny_Assign_Attribute ?_ (hsw a))
      refine wpAny_Name (wpAny_loadName_local hk (show (ksEnv qual scope L fI (.ref cda) cc).kindOf a.1 = some .local from n2) hns hva ?_) n1
      refine wpAny_Name (wpAny_loadName_local hk (show (ksEnv qual scope L fI (.ref cda) cc).kindOf "self" = some .local from ls) hns hself ?_) (by decide)
      rcases hd with ⟨rfl, rfl⟩ | ⟨dx, m0, rfl, dn, dne, hn1, hmm⟩
      · refine set_plain X (ox := { cls := .ref C, dict := none, data := .fields #[.ref t1, .none, .none, .none, .bool false, .none] }) (od := none) ⟨hx, rfl, rfl, trivial⟩ sa ?_
        refine exc_osa X hx hcl hm hh n3 (fun h₃ tk₃ dx k₃ dn dne hx₃ hn₃ => ?_)
        have zz : dx < h₃.objs.size := by
          obtain ⟨o, es, ep, eo, _⟩ := hn₃
          exact Heap.lt_size eo
        refine go h₃ _ ⟨fun b o hb e => k₃ b o hb (S.keep b o hb e), Nat.le_of_lt (Nat.lt_of_le_of_lt (Nat.le_trans S.big dn) zz), t1, some dx, hx₃, .inr ⟨dx, _, rfl, Nat.le_trans S.big dn, dne, hn₃, fun y => ?_⟩⟩
        · rw [look_put]
          rfl
      · obtain ⟨oD, es, ep, hoD, r⟩ := id hn1
        have hw : Within m0 (done.map (·.1)) := fun y hy => by
          rw [hmm y] at hy
          cases e : done.lookup y with
          | none => exact absurd e hy
          | some u => exact look_mem e
        refine set_plain X (ox := { cls := .ref C, dict := some dx, data := .fields #[.ref t1, .none, .none, .none, .bool false, .none] }) (od := some oD) ⟨hx, rfl, rfl, hoD⟩ sa ?_
        refine OEX.osa_old X hx hn1 hw (by rw [List.length_map]; omega) hcl hm hh n3 (fun h₃ tk₃ k₃ hn₃ => ?_)
        have zz : dx < h₃.objs.size := by
          obtain ⟨o, es, ep, eo, _⟩ := hn₃
          exact Heap.lt_size eo
        refine go h₃ _ ⟨fun b o hb e => k₃ b o (fun z => ?_) (S.keep b o hb e), Nat.le_of_lt (Nat.lt_of_le_of_lt dn zz), t1, some dx, k₃ _ _ (Ne.symm dne) hx, .inr ⟨dx, _, rfl, dn, dne, hn₃, fun y => ?_⟩⟩
        · rw [z] at e
          exact absurd (Heap.lt_size e) (Nat.not_lt.mpr dn)
        · rw [look_put, hmm y]
end
/-- what the text of such an __init__ shows by itself; Ok: of which arguments the text is made -/
structure ExSt (K : Frag) (params : Arguments) (scope : Scope) (qual : Str) (ex : Expr) (p0 p1 p2 p3 p4 : Pos) (gs : List Asg) (Ok : L2.Hp → List L2.V → Prop) : Prop where
  bind : ∀ (kV doc pm : Value) (an : Option Addr) (cdv ct : Value) (cc x : Addr) (us : List Value), us.length = gs.length → bindArgs (ksFn "__init__" qual params (sup ex p0 p1 p2 p3 p4 :: asgs gs) scope .none kV doc pm an cdv ct cc) ⟨.ref x :: us, []⟩ = pure ((("self" : Str) :: gs.map (·.1)).zip (.ref x :: us))
  nd : (("self" : Str) :: gs.map (·.1)).Nodup
  len : gs.length ≤ 100
  loc : ∀ y ∈ ("self" : Str) :: gs.map (·.1), scope.names.lookup y = some .local
  dbg : ∀ g ∈ gs, (g.1 == ("__debug__" : Str)) = false
  cell : ∀ y ∈ scope.names, y.2 ≠ .cell
  hp : ∃ ar : Arg, (params.posonlyargs ++ params.args).head? = some ar ∧ ar.arg = "self"
  ks : scope.names.lookup ("super" : Str) = some .globalImplicit
  kc : scope.names.lookup ("__class__" : Str) = some .free
  co : scope.isCoroutine = false
  gen : scope.isGenerator = false
  k : scope.kind = .function
  hE : ∀ (H0 : L2.Hp) (vs : List L2.V) (us : List Value), Ok H0 vs → L2.Vals vs us → vs.length = gs.length → ∀ (cda cc L x fI : Addr) (prog : Program) (w : World) (A' : Around) (h0 h : Heap) (g : Array GenState) (d : Drawn) (t : Nat) (os : OsState) (E' : Value → Shared → Prop) (Q : Value → Shared → Prop), K.In h → L2.HOk prog w H0 h0 → (∀ b o, h0.get? b = some o → h.get? b = some o) →
    h.Ns L (fun y => ((("self" : Str) :: gs.map (·.1)).zip (Value.ref x :: us)).reverse.lookup y) → (∀ v t', Q v ⟨h, g, d, t', os⟩) → wpAny (model prog w) A' (eval ex (ksEnv qual scope L fI (.ref cda) cc)) Q E' ⟨h, g, d, t, os⟩
  hin : ∀ (fI cda cc L : Addr), interactive (ksEnv qual scope L fI (.ref cda) cc) = false
  hev : ∀ (fI cda cc L : Addr), ∃ pl : Sem Bool, eval (.Call (.Attribute (.Call (.Name "super" p0) [] [] p1) "__init__" p2) [ex] [] p3) (ksEnv qual scope L fI (.ref cda) cc) = (do
      let ov ← attributeBase (.Call (.Name "super" p0) [] [] p1) "__init__" (ksEnv qual scope L fI (.ref cda) cc) (eval (.Call (.Name "super" p0) [] [] p1) (ksEnv qual scope L fI (.ref cda) cc))
      standAt p2.atName
      let (f, first) ← holding [ov] (getMethod ov "__init__" pl)
      callWith p3 f first (backTo p3 (starEach [ex] (ksEnv qual scope L fI (.ref cda) cc))) [])
  hsw : ∀ (fI cda cc L : Addr), swapsWith (.Call (.Attribute (.Call (.Name "super" p0) [] [] p1) "__init__" p2) [ex] [] p3) none p4.line (ksEnv qual scope L fI (.ref cda) cc) = pure false
  hst : ∀ env : Env, starEach [ex] env = [(false, eval ex env)]
  hsw2 : ∀ (fI cda cc L : Addr) (g : Asg), swapsWith (.Name g.1 g.2.2.2.1) (some (.Attribute (.Name "self" g.2.1) g.1 g.2.2.1)) g.2.2.2.2.line (ksEnv qual scope L fI (.ref cda) cc) = pure false
theorem zip_get {α : Type} : ∀ {ps : List Str} {us : List α} {i : Nat} {f : Str} {v : α}, ps.Nodup → ps[i]? = some f → us[i]? = some v → (ps.zip us).lookup f = some v
  | [], _, i, f, v, _, e, _ => by simp at e
  | _ :: _, [], i, f, v, _, _, e => by simp at e
  | p :: ps, u :: us, 0, f, v, _, e1, e2 => by
    simp at e1 e2
    subst e1 e2
    simp [List.lookup]
  | p :: ps, u :: us, i + 1, f, v, nd, e1, e2 => by
    rw [List.nodup_cons] at nd
    have e1' : ps[i]? = some f := by simpa using e1
    have e2' : us[i]? = some v := by simpa using e2
    rw [List.zip_cons_cons, look_put, if_neg (fun z => nd.1 (by rw [← z]; exact List.mem_of_getElem? e1'))]
    exact zip_get nd.2 e1' e2'
theorem zip_keys {α : Type} {ps : List Str} {us : List α} (hl : ps.length = us.length) : (ps.zip us).map (·.1) = ps := by
  rw [List.map_fst_zip]
  omega
section
variable {prog : Program} {w : World} {A : Around} {R : Result → Shared → Prop} {s : Shared} {K : Frag} {C fI : Addr} {params : Arguments} {scope : Scope} {qual : Str} {ex : Expr} {p0 p1 p2 p3 p4 : Pos} {gs : List Asg} {Ok : L2.Hp → List L2.V → Prop} {H0 : L2.Hp} {h00 : Heap} {mg mb : Str → Option Value}
theorem init_all (T : ExTxt prog K C fI params (sup ex p0 p1 p2 p3 p4 :: asgs gs) scope qual) (S : ExSt K params scope qual ex p0 p1 p2 p3 p4 gs Ok) (hno : ∀ g ∈ gs, findIn K (.ref C) g.1 = some none) {x t0 : Addr} {vs : List L2.V} {us : List Value} (X : K.In s.heap) (hlim : s.heap.NoLimit) (hx : s.heap.get? x = some (excO C t0)) (hnx : K.lookup x = none) (hroom : A.depth < recursionLimit)
    (hG : s.heap.Ns mainGlobals mg) (hg : mg "super" = none) (hB : s.heap.Ns builtinsNs mb) (hb : mb "super" = some (.type "super")) (hH : L2.HOk prog w H0 h00) (kp0 : ∀ b o, h00.get? b = some o → s.heap.get? b = some o) (ok : Ok H0 vs) (rv : L2.Vals vs us) (hl : vs.length = gs.length)
    (hq : ∀ h' tk, StX s.heap h' x C ((gs.map (·.1)).zip us).reverse → R (.ok (.ret .none)) { s with heap := h', toks := tk }) : codeAny (model prog w) A (.call (.ref fI) ⟨.ref x :: us, []⟩) R s := by
  have hlu : us.length = gs.length := by rw [← rv.length]; exact hl
  have keys : (((("self" : Str) :: gs.map (·.1)).zip (Value.ref x :: us)).map (·.1)) = ("self" : Str) :: gs.map (·.1) := zip_keys (by simp [hlu])
  have hrev : ∀ y, ((("self" : Str) :: gs.map (·.1)).zip (Value.ref x :: us)).reverse.lookup y = ((("self" : Str) :: gs.map (·.1)).zip (Value.ref x :: us)).lookup y := fun y => look_rev (by rw [keys]; exact S.nd)
  have hself : ((("self" : Str) :: gs.map (·.1)).zip (Value.ref x :: us)).reverse.lookup ("self" : Str) = some (.ref x) := by
    rw [hrev]
    exact zip_get S.nd (i := 0) rfl rfl
  refine enter T (mg := mg) (mb := mb) (binds := (("self" : Str) :: gs.map (·.1)).zip (.ref x :: us)) X hlim hx hnx hroom hG hg hB hb (fun kV doc pm an cdv ct cc => S.bind kV doc pm an cdv ct cc x us hlu) hself (fun y hy => S.loc y.1 (List.of_mem_zip hy).1) S.cell S.hp S.ks S.kc (S.loc _ List.mem_cons_self) S.co S.gen S.k
    (fun cda cc L A' h g d t os E' Q hk hn hq' => S.hE H0 vs us ok rv hl cda cc L x fI prog w A' h00 h g d t os E' Q (X.keeps hk) hH (fun b o e => hk b o (kp0 b o e)) hn hq') (S.hin fI) (S.hev fI) (S.hsw fI) S.hst fun cda cc h' tk t1 k hx' hns => ?_
  obtain ⟨nm, q, N, bs, bm, sn, sub, ab, col, dd, k0, k1, k2, k3, k5, hC, hbm, hal⟩ := T.cls
  have hcl : clsIn K C = some { name := nm, bases := bs, mro := .ref C :: bm, ns := N, qualname := q, hasDict := true, slotNames := sn, subclasses := sub, abstract := ab, collection := col, hasDel := false } := by unfold clsIn; rw [hC] <;> rfl
  have X' : K.In h' := kept_but X hnx k
  have hsz : s.heap.objs.size < h'.objs.size := by
    obtain ⟨o, es, ep, eo, _⟩ := hns
    exact Heap.lt_size eo
  obtain ⟨hp0, g, d, t, os⟩ := s
  refine stores (C := C) (x := x) (L := hp0.objs.size) (h0 := h') (m := fun y => ((("self" : Str) :: gs.map (·.1)).zip (Value.ref x :: us)).reverse.lookup y) X' hnx (Nat.ne_of_gt (Heap.lt_size hx)) hsz hcl (show refsVE (.ref C :: bm) = true from hbm) rfl T.sa S.k hself (S.loc _ List.mem_cons_self) (S.hsw2 fI cda cc _) hns gs us [] h' tk
    (fun b hb' => ⟨S.dbg b hb', S.loc b.1 (List.mem_cons_of_mem _ (List.mem_map_of_mem hb')), hno b hb'⟩) hlu.symm (fun i f v e1 e2 => by
      show List.lookup f _ = _
      rw [hrev]
      exact zip_get S.nd (i := i + 1) (by simpa using e1) (by simpa using e2)) (by have := S.len; simp only [List.length_nil]; omega) ⟨fun b o hb' e => e, Nat.le_refl _, t1, none, hx', .inl ⟨rfl, rfl⟩⟩ fun h2 t2 S2 => ?_
  rw [List.append_nil] at S2
  refine hq h2 t2 ⟨fun b o hb' e => S2.keep b o hb' (k b o hb' e), Nat.le_trans (Nat.le_of_lt hsz) S2.big, ?_⟩
  obtain ⟨t3, dv, e1, e2⟩ := S2.at_
  refine ⟨t3, dv, e1, ?_⟩
  rcases e2 with e2 | ⟨dx, m, q1, q2, q3, q4, q5⟩
  · exact .inl e2
  · exact .inr ⟨dx, m, q1, Nat.le_trans (Nat.le_of_lt hsz) q2, q3, q4, q5⟩
end
end ExS
end PySem

/-! Pk19: own errors made and raised. -/
namespace PySem
namespace ExS
open PySem.W PySem.Calls PyProof.Rows PySem.HandSPX
/-- a made error at e -/
structure MadeX (h h' : Heap) (e C : Addr) (fs : List (Str × Value)) : Prop where
  keep : ∀ b o, h.get? b = some o → h'.get? b = some o
  new : h.objs.size ≤ e
  at_ : ∃ (t1 : Addr) (dv : Option Addr), h'.get? e = some { cls := .ref C, dict := dv, data := .fields #[.ref t1, .none, .none, .none, .bool false, .none] } ∧
    ((fs = [] ∧ dv = none) ∨ ∃ (dx : Addr) (m : Str → Option Value), dv = some dx ∧ h.objs.size ≤ dx ∧ dx ≠ e ∧ h'.Ns1 dx m ∧ ∀ y, m y = fs.lookup y)
section
variable {prog : Program} {w : World} {A : Around} {R : Result → Shared → Prop} {s : Shared} {K : Frag} {C fI : Addr} {params : Arguments} {scope : Scope} {qual : Str} {ex : Expr} {p0 p1 p2 p3 p4 : Pos} {gs : List Asg} {Ok : L2.Hp → List L2.V → Prop} {H0 : L2.Hp} {mg mb : Str → Option Value}
theorem small {l : List Value} {n : Nat} (e : l.length = n) (h : n ≤ 100) : l.length ≤ sizeLine := by
  have : (100 : Nat) ≤ sizeLine := by decide
  omega
theorem made (T : ExTxt prog K C fI params (sup ex p0 p1 p2 p3 p4 :: asgs gs) scope qual) (S : ExSt K params scope qual ex p0 p1 p2 p3 p4 gs Ok) (hno : ∀ g ∈ gs, findIn K (.ref C) g.1 = some none) {vs : List L2.V} {us : List Value} (X : K.In s.heap) (hlim : s.heap.NoLimit) (hroom : A.depth + 1 < recursionLimit)
    (hG : s.heap.Ns mainGlobals mg) (hg : mg "super" = none) (hB : s.heap.Ns builtinsNs mb) (hb : mb "super" = some (.type "super")) (hH : L2.HOk prog w H0 s.heap) (ok : Ok H0 vs) (rv : L2.Vals vs us) (hl : vs.length = gs.length)
    (hq : ∀ h' tk e, MadeX s.heap h' e C ((gs.map (·.1)).zip us).reverse → R (.ok (.ret (.ref e))) { s with heap := h', toks := tk }) : codeAny (model prog w) A (.call (.ref C) ⟨us, []⟩) R s := by
  have hlu : us.length = gs.length := by rw [← rv.length]; exact hl
  obtain ⟨nm, q, N, bs, bm, sn, sub, ab, col, dd, k0, k1, k2, k3, k5, hC, hbm, hal⟩ := T.cls
  obtain ⟨hp, g, dr, tk, os⟩ := s
  have k : ∀ b o, hp.get? b = some o → ((hp.push (kdv_tup us)).push (excO C hp.objs.size)).get? b = some o := fun b o e => Heap.get?_push_of_some _ (Heap.get?_push_of_some _ e)
  have hget : ((hp.push (kdv_tup us)).push (excO C hp.objs.size)).get? (hp.objs.size + 1) = some (excO C hp.objs.size) := by heap_get
  have hnx : K.lookup (hp.objs.size + 1) = none := in_none X (Nat.le_succ _)
  refine call_own F.excBase_ValueError (fun X => refsVE_contains X bm hbm) (X _ _ hC) (looks_findIn X T.iC) (fun self => bind_fn X self T.tC) (small hlu S.len) ?_
  refine init_all (s := ⟨(hp.push (kdv_tup us)).push (excO C hp.objs.size), g, dr, tk, os⟩) T S hno (X.keeps k) (hlim.keeps k) hget hnx ?_ (hG.keeps k) hg (hB.keeps k) hb hH k ok rv hl fun h' tk' S' => ?_
  · show A.depth + 1 < recursionLimit
    exact hroom
  · have old : ∀ b o, hp.get? b = some o → h'.get? b = some o := fun b o e => S'.keep b o (Nat.ne_of_lt (Nat.lt_succ_of_lt (Heap.lt_size e))) (k b o e)
    refine ⟨rfl, hq h' tk' (hp.objs.size + 1) ⟨old, Nat.le_succ _, ?_⟩⟩
    obtain ⟨t1, dv, e1, e2⟩ := S'.at_
    refine ⟨t1, dv, e1, ?_⟩
    rcases e2 with ⟨e2, e3⟩ | ⟨dx, m, q1, q2, q3, q4, q5⟩
    · exact .inl ⟨e2, e3⟩
    · refine .inr ⟨dx, m, q1, ?_, q3, q4, q5⟩
      have z : hp.objs.size + 1 + 1 ≤ dx := by
        first
          | (simpa only [Heap.size_push] using q2)
          | exact q2
          | (have q := q2; rw [Heap.size_push, Heap.size_push] at q; exact q)
      exact Nat.le_trans (Nat.le_trans (Nat.le_succ _) (Nat.le_succ _)) z
end
end ExS
end PySem
namespace Pk
open PySem PySem.Spec PyProof.Rows L2
open PySem.ExS (ExTxt ExSt sup asgs Asg)
/-- what is known of an own error class c; Ok: the arguments it is made with -/
structure ExC (P : Program) (K : PySem.W.Frag) (T : Tb) (c : Nat) (Ok : Hp → List V → Prop) : Prop where
  tx : ∃ (fI : Addr) (params : Arguments) (scope : Scope) (qual : Str) (ex : Expr) (p0 p1 p2 p3 p4 : Pos) (gs : List Asg),
    ExTxt P K (T.cad c) fI params (sup ex p0 p1 p2 p3 p4 :: asgs gs) scope qual ∧ ExSt K params scope qual ex p0 p1 p2 p3 p4 gs Ok ∧ (∀ g ∈ gs, PySem.W.findIn K (.ref (T.cad c)) g.1 = some none) ∧ T.fld c = gs.map (·.1) ∧ (T.fld c).Nodup
  kC : PySem.W.keepIn K (.ref (T.cad c)) = true
  exC : PySem.W.subIn K (.ref (T.cad c)) (.type "BaseException") = some true
  tyC : PySem.W.typeIn K (.ref (T.cad c)) = some (.type "type")
section
variable {X : Cx} {T : Tb} {W : WX} {k c : Nat} {x : Str} {a : Expr} {es : List Expr} {ma : M (List D)} {p pos pos2 : Pos} {Ok : Hp → List V → Prop}
theorem zipLookO {f : Str} : ∀ {ns : List Str} {vs : List V} {us : List Value}, Vals vs us → RelO ((ns.zip vs).lookup f) ((ns.zip us).lookup f)
  | [], _, _, _ => trivial
  | _ :: _, _, _, .nil => trivial
  | n :: ns, v :: vs, u :: us, .cons rv r => by
    rw [List.zip_cons_cons, List.zip_cons_cons, PySem.ExS.look_put, PySem.ExS.look_put]
    by_cases e : f = n
    · rw [if_pos e, if_pos e]
      exact rv
    · rw [if_neg e, if_neg e]
      exact zipLookO r
def tMkX (T : Tb) (c : Nat) (Ok : Hp → List V → Prop) (ta : TA) : L2.St → Hp → XK → Prop := fun σ H Q => ta σ H fun vs H1 => Ok H1 vs ∧ vs.length = (T.fld c).length ∧
  (T.fld c = [] → Q (.ref (T.cad c)) none H1) ∧ (∀ d, H1 d = none → Q (.ref (T.cad c)) (some d) (upd H1 d (.xd ((T.fld c).zip vs))))
theorem mk_end {pins : List (Addr × Obj)} {σ : L2.St} {H1 : Hp} {Q : XK} {s1 : Shared} {vs : List V} {us : List Value} (E : ExC X.prog X.K T c Ok) (hr : Room k X.A) (I1 : Inv X pins σ H1 s1) (hsg : X.mg "super" = none) (rv : Vals vs us) (ok : Ok H1 vs) (hl : vs.length = (T.fld c).length)
    (q1 : T.fld c = [] → Q (.ref (T.cad c)) none H1) (q2 : ∀ d, H1 d = none → Q (.ref (T.cad c)) (some d) (upd H1 d (.xd ((T.fld c).zip vs)))) :
    wpAny (model X.prog X.w) X.A (call (.ref (T.cad c)) us) (MkP X pins σ Q) X.xe s1 := by
  obtain ⟨fI, params, scope, qual, ex, p0, p1, p2, p3, p4, gs, TX, S, hno, hf, nd⟩ := E.tx
  have hl' : vs.length = gs.length := by rw [hl, hf, List.length_map]
  have hlu : us.length = gs.length := by rw [← rv.length]; exact hl'
  have hlim := I1.nolimit
  have X1 := I1.kIn
  obtain ⟨mb, hB, hmb⟩ := I1.mod.blt
  have hB' : s1.heap.Ns builtinsNs mb := hB.keeps I1.bk
  have hG' : s1.heap.Ns mainGlobals X.mg := I1.mod.glob.keeps I1.bk
  have hsu : mb "super" = some (.type "super") := (hmb "super" (by decide)).trans (by first | rfl | decide | with_unfolding_all rfl)
  have hok := I1.hok
  obtain ⟨hp, g, dr, tk, os⟩ := s1
  refine wpAny_call (PySem.ExS.made TX S hno X1 hlim (by have := hr.dp; omega) hG' hsg hB' hsu hok ok rv hl' fun h' tk' e M => ?_)
  show MkP X pins σ Q (.ref e) ⟨h', g, dr, tk', os⟩
  obtain ⟨t1, dv, he, hd⟩ := M.at_
  obtain ⟨G', g1, g2⟩ := restrict h' fun b => decide (b ≠ e)
  have gk : ∀ b, b ≠ e → G'.get? b = h'.get? b := fun b hb => g1 b (decide_eq_true hb)
  have ge : G'.get? e = none := g2 e (by simp)
  have old : ∀ b o, hp.get? b = some o → G'.get? b = some o := fun b o q => (gk b (Nat.ne_of_lt (Nat.lt_of_lt_of_le (Heap.lt_size q) M.new))).trans (M.keep b o q)
  have back : ∀ b o, G'.get? b = some o → h'.get? b = some o := fun b o q => by
    by_cases hb : b = e
    · rw [hb, ge] at q; cases q
    · exact (gk b hb).symm.trans q
  have kz : (gs.map (·.1)).zip us = [] ↔ gs = [] := by
    cases gs with
    | nil => simp
    | cons a l => cases us with
      | nil => cases hlu
      | cons u l => simp
  rcases hd with ⟨hz, rfl⟩ | ⟨dx, m, rfl, dn, dne, hns, hm⟩
  · have hg0 : gs = [] := kz.mp (by simpa using hz)
    have hf0 : T.fld c = [] := by rw [hf, hg0]; rfl
    exact ⟨e, _, _, ⟨G', g, dr, tk', os⟩, H1, _, none, rfl, I1.kept (t' := tk') old, back, ge, he, ⟨rfl, rfl⟩, rfl, rfl, I1.hok.fresh M.new, rfl, I1.bare, raises_own E.exC E.tyC, q1 hf0⟩
  · have ob : ObjOk X.prog X.w (upd H1 dx (.xd ((T.fld c).zip vs))) G' dx (.xd ((T.fld c).zip vs)) :=
      ⟨m, hns.at (fun o q => (gk dx dne).trans q), fun f => by
        rw [hm f, ← hf, PySem.ExS.look_rev (by rw [PySem.ExS.zip_keys (by rw [hf, List.length_map, hlu])]; exact nd)]
        exact zipLookO rv⟩
    have J : Inv X pins σ (upd H1 dx (.xd ((T.fld c).zip vs))) ⟨G', g, dr, tk', os⟩ := I1.laid (t' := tk') old dn ob
    exact ⟨e, _, _, ⟨G', g, dr, tk', os⟩, _, _, some dx, rfl, J, back, ge, he, ⟨rfl, rfl⟩, rfl, rfl, by rw [upd_ne (Ne.symm dne)]; exact I1.hok.fresh M.new, rfl, I1.bare, raises_own E.exC E.tyC, q2 dx (I1.hok.fresh dn)⟩
theorem pmkX {ta : TA} (E : ExC X.prog X.K T c Ok) (hr : Room k X.A) (hsg : X.mg "super" = none) (hm : X.mg x = some (.ref (T.cad c))) (ha : PA X (a :: es) ta) (hg : Gl X x := by rfl) (hdb : (x == ("__debug__" : Str)) = false := by decide)
    (he : starEach (a :: es) X.env = (false, eval a X.env) :: starEach es X.env := by exact star_no rfl) (hpl : (backTo pos (starEach es X.env)).any (·.1) = false := by rfl) :
    PMk X (.Call (.Name x p) (a :: es) [] pos) (tMkX T c Ok ta) := by
  intro pins s σ H Q I h
  refine wpAny_Call_Name_kw (ld_glob I hg hm ?_ hdb)
  refine PySem.W.callWith_K (h₀ := X.base) I.ok.mod.kin E.kC (thn (ha.run pos pins s σ H _ I h) fun us s1 hh => ?_) he hpl
  obtain ⟨vs, H1, I1, r1, ok, hl, q1, q2⟩ := hh
  exact ⟨I1.kIn, mk_end E hr I1 hsg r1 ok hl q1 q2⟩
end
end Pk

/-! Pk20: own errors: the facts read; the texts; raise as a statement of a mirror. -/
namespace PySem
namespace ExS
open PySem.W PySem.Calls PyProof.Rows PySem.HandSPX
theorem clsX_ok {K : Frag} {C : Addr} (h : Pk.clsX K C = true) : ∃ nm q N bs bm sn sub ab col dd k0 k1 k2 k3 k5, K.lookup C = some (excClassObj nm q C N bs bm true sn sub ab col dd k0 k1 k2 k3 k5 "ValueError.__new__") ∧ refsVE bm = true ∧ alongIn K "__init__" bm = some (some (.builtin "ValueError.__init__")) := by
  unfold Pk.clsX at h
  split at h
  · rename_i dd cd sl ho
    split at h
    · rename_i C' bm k0 k1 k2 k3 n k5 hm hs
      obtain ⟨c1, h⟩ := He.ba h
      obtain ⟨c2, h⟩ := He.ba h
      obtain ⟨c3, h⟩ := He.ba h
      obtain ⟨c4, h⟩ := He.ba h
      obtain ⟨c5, c6⟩ := He.ba h
      obtain ⟨nm, bs, mro, ns, qn, hd, sn, sub, ab, col, del⟩ := cd
      have e1 : C' = C := beq_iff_eq.mp c1
      have e2 : n = "ValueError.__new__" := beq_iff_eq.mp c2
      have e3 : del = false := by simpa using c3
      have e4 : hd = true := c4
      have em : mro = .ref C' :: bm := hm
      subst e1 e2 e3 e4 em
      have hsl : sl = #[k0, k1, k2, k3, some (.builtin "ValueError.__new__"), k5] := by
        obtain ⟨l⟩ := sl
        have z : l = [k0, k1, k2, k3, some (.builtin "ValueError.__new__"), k5] := hs
        rw [z]
      subst hsl
      exact ⟨nm, qn, ns, bs, bm, sn, sub, ab, col, dd, k0, k1, k2, k3, k5, ho, c5, He.eqO_ok c6⟩
    · cases h
  · cases h
theorem iniX_ok {K : Frag} {C f : Addr} {file name qual : Str} {params : Arguments} {body : List Stmt} {scope : Scope} (h : Pk.iniX K C f file = true) (e : Pk.fnWa K f = some (name, qual, params, FuncBody.stmts body, scope, mainGlobals, [(("__class__" : Str), (0 : Addr))], builtinsNs)) :
    ∃ (oc : Value) (od : Option Addr) (kV doc pm : Value) (an : Option Addr) (cda : Addr) (ct : Value) (osl : Array (Option Value)) (cc : Addr),
    K.lookup f = some ⟨oc, od, .func (ksFn name qual params body scope .none kV doc pm an (.ref cda) ct cc), osl⟩ ∧ codeIn K (.ref cda) qual = true ∧
    (∃ (ccl : Value) (cdd : Option Addr) (vs : Array Value) (ccs : Array (Option Value)) (fi : Str) (tf : Tok), K.lookup cda = some ⟨ccl, cdd, .fields vs, ccs⟩ ∧ vs[2]? = some (.str fi tf) ∧ fi = file) ∧
    ∃ (cl : Value) (cld : Option Addr) (csl : Array (Option Value)), K.lookup cc = some ⟨cl, cld, .cell (some (.ref C)), csl⟩ := by
  unfold Pk.iniX at h
  unfold Pk.fnWa at e
  cases q : K.lookup f with
  | none => rw [q] at h; cases h
  | some o =>
    obtain ⟨oc, od, dt, osl⟩ := o
    rw [q] at h e
    cases dt with
    | func fd =>
      obtain ⟨n1, n2, n3, n4, n5, n6, n7, n8, n9, n10, n11, n12, n13, n14, n15⟩ := fd
      have e2 : (some (n1, n2, n3, n4, n5, n6, n7.map (fun q => (q.1, 0)), n15) : He.FnW) = some (name, qual, params, FuncBody.stmts body, scope, mainGlobals, [(("__class__" : Str), (0 : Addr))], builtinsNs) := e
      simp only [Option.some.injEq, Prod.mk.injEq] at e2
      obtain ⟨h1, h2, h3, h4, h5, h6, h7, h8⟩ := e2
      subst h1 h2 h3 h4 h5 h6 h8
      dsimp only at h
      split at h
      · rename_i nm cc cda
        obtain ⟨c1, h⟩ := He.ba h
        obtain ⟨c2, c3⟩ := He.ba h
        have en : nm = "__class__" := by
          simp only [List.map_cons, List.map_nil, List.cons.injEq, Prod.mk.injEq, and_true] at h7
          exact h7
        subst en
        refine ⟨oc, od, n9, n10, n11, n12, cda, n14, osl, cc, rfl, c2, ?_, ?_⟩
        · split at c3
          · rename_i ccl cdd vs ccs e3
            split at c3
            · rename_i fi tf e4
              exact ⟨ccl, cdd, vs, ccs, fi, tf, e3, e4, of_decide_eq_true c3⟩
            · cases c3
          · cases c3
        · split at c1
          · rename_i cl cld a csl e3
            have ea : a = C := of_decide_eq_true c1
            subst ea
            exact ⟨cl, cld, csl, e3⟩
          · cases c1
      · cases h
    | _ => cases h
end ExS
end PySem
namespace Pk
open PySem PySem.Spec PyProof.Rows L2
open PySem.ExS (ExTxt ExSt sup asgs Asg)
theorem exC_mk {P : Program} {K : PySem.W.Frag} {T : Tb} {c : Nat} {x file : Str} {fs : List Str} {d : PD} {ex : Expr} {p0 p1 p2 p3 p4 : Pos} {gs : List Asg} {Ok : Hp → List V → Prop} {cn : Nat → Str} (own : (Fx.own x file fs).ok cn K = true) (hx : T.cad c = He.ga K x) (ha : d.adr K = He.ma K (He.ga K x) "__init__")
    (wr : fnWa K (d.adr K) = d.val) (hc : d.clo = true) (hn : d.name = "__init__") (hb : d.body = sup ex p0 p1 p2 p3 p4 :: asgs gs) (S : ExSt K d.params d.scope d.qual ex p0 p1 p2 p3 p4 gs Ok) (hfs : fs = gs.map (·.1)) (hT : T.fld c = fs) (nd : fs.Nodup) (hfile : ((P.main.file : Str) == file) = true)
    (htop : (P.main.scope.names.lookup ("super" : Str)).isSome = false) : ExC P K T c Ok := by
  obtain ⟨o1, q⟩ := He.ba (show ownX K (He.ga K x) (He.ma K (He.ga K x) "__init__") file fs = true from own)
  obtain ⟨o2, q⟩ := He.ba q
  obtain ⟨o3, q⟩ := He.ba q
  obtain ⟨o4, q⟩ := He.ba q
  obtain ⟨o5, q⟩ := He.ba q
  obtain ⟨o6, q⟩ := He.ba q
  obtain ⟨o7, q⟩ := He.ba q
  obtain ⟨o8, q⟩ := He.ba q
  obtain ⟨o9, q⟩ := He.ba q
  obtain ⟨o10, q⟩ := He.ba q
  obtain ⟨o11, q⟩ := He.ba q
  obtain ⟨o12, q⟩ := He.ba q
  have wr2 : fnWa K (He.ma K (He.ga K x) "__init__") = some (("__init__" : Str), d.qual, d.params, FuncBody.stmts (sup ex p0 p1 p2 p3 p4 :: asgs gs), d.scope, mainGlobals, [(("__class__" : Str), (0 : Addr))], builtinsNs) := by
    rw [← ha, wr]
    unfold PD.val
    rw [hc, hn, hb]
    rfl
  obtain ⟨oc, od, kV, doc, pm, an, cda, ct, osl, cc, e1, e2, ⟨ccl, cdd, vs, ccs, fi, tf, e3, e4, e5⟩, e6⟩ := PySem.ExS.iniX_ok o8 wr2
  subst e5
  rw [← hx] at o1 o2 o3 o4 o5 o6 o9 o10 o11 o12 e1 e6
  refine ⟨⟨_, d.params, d.scope, d.qual, ex, p0, p1, p2, p3, p4, gs, ⟨PySem.ExS.clsX_ok o1, He.eqO_ok o2, He.eqO_ok o3, of_decide_eq_true o4, of_decide_eq_true o5, of_decide_eq_true o6, He.eqO_ok o7, htop, ⟨oc, od, kV, doc, pm, an, cda, ct, osl, cc, e1, e2, ⟨ccl, cdd, vs, ccs, fi, tf, e3, e4, hfile⟩, e6⟩⟩, S, ?_, by rw [hT, hfs], by rw [hT]; exact nd⟩, o10, of_decide_eq_true o11, of_decide_eq_true o12⟩
  intro g hg
  have z := List.all_eq_true.mp o9 g.1 (by rw [hfs]; exact List.mem_map_of_mem hg)
  exact He.eqO_ok z
/-! ### the texts -/
section
variable {params : Arguments} {scope : Scope} {qual : Str}
theorem hE_con {z : Str} {j : Nat} {pos : Pos} {env : Env} {prog : Program} {w : World} {A' : Around} {h : Heap} {g : Array GenState} {d : Drawn} {t : Nat} {os : OsState} {E' : Value → Shared → Prop} {Q : Value → Shared → Prop} (hq : ∀ v t', Q v ⟨h, g, d, t', os⟩) :
    wpAny (model prog w) A' (eval (.Constant (.str z) j pos) env) Q E' ⟨h, g, d, t, os⟩ := wpAny_Constant_str (hq _ _)
/-- "..." + f -/
theorem hE_add {z f s0 : Str} {j : Nat} {pos pos2 pos3 : Pos} {L fI cda cc : Addr} {prog : Program} {w : World} {A' : Around} {h : Heap} {g : Array GenState} {d : Drawn} {t tk : Nat} {os : OsState} {E' : Value → Shared → Prop} {Q : Value → Shared → Prop} {m : Str → Option Value} (hk : scope.kind = .function) (hl : scope.names.lookup f = some .local) (hd : (f == ("__debug__" : Str)) = false)
    (hn : h.Ns L m) (hm : ∃ u, m f = some u ∧ RelV (.str s0) u) (hz : z.length + s0.length ≤ sizeLine) (hq : ∀ v t', Q v ⟨h, g, d, t', os⟩) :
    wpAny (model prog w) A' (eval (.BinOp (.Constant (.str z) j pos) .Add (.Name f pos2) pos3) (PySem.W.ksEnv qual scope L fI (.ref cda) cc)) Q E' ⟨h, g, d, t, os⟩ := by
  obtain ⟨u, hm, t0, rfl⟩ := hm
  exact wpAny_BinOp (wpAny_Constant_str (wpAny_Name (wpAny_loadName_local hk (show (PySem.W.ksEnv qual scope L fI (.ref cda) cc).kindOf f = some .local from hl) hn hm (PyProof.Rows.add_str (fun _ _ => hq _ _) hz)) hd))
end
section
variable {X : Cx} {T : Tb} {W : WX} {k c n : Nat} {x : Str} {a : Expr} {es : List Expr} {ma : M (List D)} {p pos pos2 : Pos} {Ok : Hp → List V → Prop} {chk : List D → Bool}
/-- raise X(..) -/
def mRaise (c n : Nat) (chk : List D → Bool) (ma : M (List D)) : M Fl := ma.bind fun ds fr h => if ds.length = n ∧ chk ds = true then .exc ⟨c, ds⟩ fr h else .err
theorem raise_end {B : Bs} {w1 : Wd} {σ : L2.St} {H1 : Hp} {fr1 : Fr} {h1 : Hh} {D : Ends} {vs : List V} {ds : List Pk.D} (hn : (T.fld c).length = n) (hok : chk ds = true → Ok H1 vs) (r1 : Rel X.K T B w1 σ H1 fr1 h1) (rs : RelDs X.K T w1 vs ds)
    (p1 : PostS X.K T B W w1 (if ds.length = n ∧ chk ds = true then .exc ⟨c, ds⟩ fr1 h1 else .err) D) : Ok H1 vs ∧ vs.length = (T.fld c).length ∧ (T.fld c = [] → W (.ref (T.cad c)) none σ H1) ∧ (∀ d, H1 d = none → W (.ref (T.cad c)) (some d) σ (upd H1 d (.xd ((T.fld c).zip vs)))) := by
  by_cases hl : ds.length = n ∧ chk ds = true
  · rw [if_pos hl] at p1
    have e0 : vs.length = (T.fld c).length := rs.length.trans (hl.1.trans hn.symm)
    refine ⟨hok hl.2, e0, fun hf => p1 w1 σ H1 _ _ (Wd.le_refl _) r1 ⟨rfl, .inl ⟨?_, rfl⟩⟩, fun d nd => p1 (w1.add d (.xd ((T.fld c).zip vs))) σ _ _ _ (Wd.le_add (r1.nP nd).1) (r1.laid nd) ⟨rfl, .inr ⟨d, vs, rfl, by show upd w1.F d _ d = _; rw [upd_same], rs.mono (Wd.le_add (r1.nP nd).1)⟩⟩⟩
    rw [hf] at hn
    have z : ds.length = 0 := hl.1.trans hn.symm
    exact List.length_eq_zero_iff.mp z
  · rw [if_neg hl] at p1
    exact p1.elim
theorem s_raise (C : Cq X T W k) (E : ExC X.prog X.K T c Ok) (hn : (T.fld c).length = n) (hok : ∀ w H vs ds, (∀ a o, w.F a = some o → H a = some o) → RelDs X.K T w vs ds → chk ds = true → Ok H vs) (hsg : X.mg "super" = none) (hm : X.mg x = some (.ref (T.cad c))) (sa : SimA X T W (a :: es) ma) (hg : Gl X x := by rfl) (hdb : (x == ("__debug__" : Str)) = false := by decide)
    (he : starEach (a :: es) X.env = (false, eval a X.env) :: starEach es X.env := by exact star_no rfl) (hpl : (backTo pos (starEach es X.env)).any (·.1) = false := by rfl) : SimS X T W (.Raise (some (.Call (.Name x p) (a :: es) [] pos)) none pos2) (mRaise c n chk ma) := fun B w σ H fr h D R pp =>
  ps_ws (ps_raise C.calm C.takes (pmkX E C.room hsg hm pa_max hg hdb he hpl)) (sa B w σ H fr h _ R (PostS.bind (VR := vA X.K T B σ) pp fun ds fr1 h1 w1 H1 vs e1 l1 r1 rs p1 => raise_end hn (hok _ _ _ _ r1.sub rs) r1 rs p1))
theorem pmkX0 (E : ExC X.prog X.K T c Ok) (hr : Room k X.A) (hsg : X.mg "super" = none) (hm : X.mg x = some (.ref (T.cad c))) (hg : Gl X x := by rfl) (hdb : (x == ("__debug__" : Str)) = false := by decide) :
    PMk X (.Call (.Name x p) [] [] pos) (tMkX T c Ok tNil) := by
  intro pins s σ H Q I h
  refine wpAny_Call_Name_kw (ld_glob I hg hm ?_ hdb)
  obtain ⟨ok, hl, q1, q2⟩ := h
  exact PySem.W.callWith_K0 I.kIn E.kC (mk_end E hr I hsg .nil ok hl q1 q2)
theorem s_raise0 (C : Cq X T W k) (E : ExC X.prog X.K T c Ok) (hn : (T.fld c).length = 0) (ok : ∀ H, Ok H []) (hsg : X.mg "super" = none) (hm : X.mg x = some (.ref (T.cad c))) (hg : Gl X x := by rfl) (hdb : (x == ("__debug__" : Str)) = false := by decide) :
    SimS X T W (.Raise (some (.Call (.Name x p) [] [] pos)) none pos2) (fun fr h => .exc ⟨c, []⟩ fr h) := fun B w σ H fr h D R pp =>
  ps_ws (ps_raise C.calm C.takes (pmkX0 E C.room hsg hm hg hdb)) (raise_end (Ok := Ok) (chk := fun _ => true) (vs := []) (ds := []) (n := 0) hn (fun _ => ok _) R .nil pp)
end
end Pk

/-! Pk21: except suites, try. -/
namespace Pk
open PySem PySem.Spec L2
/-! ### readings under what is known of the caught error -/
def SimQ {α β : Type} (P : Wd → L2.St → Prop) (run : L2.St → Hp → (β → Hp → Prop) → Prop) (K : PySem.W.Frag) (T : Tb) (W : WX) (VR : VRel β α) (m : M α) : Prop :=
  ∀ (B : Bs) (w : Wd) (σ : L2.St) (H : Hp) (fr : Fr) (h : Hh) (Q : β → Hp → Prop), P w σ → Rel K T B w σ H fr h → Post K T B W (VR K T B σ) w σ (m fr h) Q → run σ H Q
def MonP (P : Wd → L2.St → Prop) : Prop := ∀ w w' σ, w.le w' → P w σ → P w' σ
abbrev SqE (P : Wd → L2.St → Prop) (X : Cx) (T : Tb) (W : WX) (e : Expr) (m : M D) : Prop := SimQ P (WE X e) X.K T W vE m
abbrev SqV (P : Wd → L2.St → Prop) (X : Cx) (T : Tb) (W : WX) (e : Expr) (m : M D) : Prop := SimQ P (WE X e) X.K T W vV m
abbrev SqT_ (P : Wd → L2.St → Prop) (X : Cx) (T : Tb) (W : WX) (e : Expr) (m : M Bool) : Prop := SimQ P (WT X e) X.K T W vB m
abbrev SqW (P : Wd → L2.St → Prop) (X : Cx) (T : Tb) (W : WX) (e : Expr) (m : M Bool) : Prop := SimQ P (WW X e) X.K T W vB m
abbrev SqA (P : Wd → L2.St → Prop) (X : Cx) (T : Tb) (W : WX) (es : List Expr) (m : M (List D)) : Prop := SimQ P (WA X es) X.K T W vA m
section
variable {P : Wd → L2.St → Prop} {X : Cx} {T : Tb} {W : WX} {a b c e : Expr} {es rest : List Expr} {m ma mb : M D} {n ta tb tc : M Bool} {ms : List (M D)} {pos : Pos}
theorem q_of {α β : Type} {run : L2.St → Hp → (β → Hp → Prop) → Prop} {K : PySem.W.Frag} {VR : VRel β α} {m : M α} (s : Sim run K T W VR m) : SimQ P run K T W VR m := fun B w σ H fr h Q _ r p => s B w σ H fr h Q r p
theorem qe_of (s : SqV P X T W e m) : SqE P X T W e m := fun B w σ H fr h Q z r p => s B w σ H fr h Q z r (by
  cases q : m fr h with
  | ok d fr1 h1 => rw [q] at p; exact fun w1 H1 v x r1 z => p w1 H1 v x r1 (.inl z)
  | exc y fr1 h1 => rw [q] at p; exact p
  | err => rw [q] at p; exact p)
theorem qt_not (hP : MonP P) (s : SqT_ P X T W a n) : SqT_ P X T W (.UnaryOp .Not a pos) (mNot n) := fun B w σ H fr h Q z r1 p =>
  pt_wt (pt_not pt_max) (s B w σ H fr h _ z r1 (Post.bind (VR := vB X.K T B σ) p fun d fr1 h1 w1 H1 x e1 l1 r1 rx p1 => by
    have rx' : x = d := rx
    subst rx'
    exact p1 w1 H1 _ (Wd.le_refl _) r1 rfl))
theorem qt_ww (s : SqW P X T W e n) : SqT_ P X T W e n := fun B w σ H fr h Q z r1 p => pt_wt pw_max.pt (s B w σ H fr h Q z r1 p)
theorem qw_and1 (s : SqT_ P X T W a ta) : SqW P X T W (.BoolOp .And [a] pos) ta := fun B w σ H fr h Q z r1 p => pw_ww (pw_and1 pt_max) (s B w σ H fr h Q z r1 p)
theorem qw_or1 (s : SqT_ P X T W a ta) : SqW P X T W (.BoolOp .Or [a] pos) ta := fun B w σ H fr h Q z r1 p => pw_ww (pw_or1 pt_max) (s B w σ H fr h Q z r1 p)
theorem qw_and (hP : MonP P) (s : SqT_ P X T W a ta) (t : SqW P X T W (.BoolOp .And (b :: rest) pos) tb) : SqW P X T W (.BoolOp .And (a :: b :: rest) pos) (mAnd ta tb) := fun B w σ H fr h Q z r1 p =>
  pw_ww (pw_and pt_max pw_max) (s B w σ H fr h _ z r1 (Post.bind (VR := vB X.K T B σ) p fun d fr1 h1 w1 H1 x e1 l1 r1 rx p1 => by
    have rx' : x = d := rx
    subst rx'
    cases x with
    | true => exact t B w1 σ H1 fr1 h1 Q (hP _ _ _ l1 z) r1 p1
    | false => exact p1 w1 H1 false (Wd.le_refl _) r1 rfl))
theorem qw_or (hP : MonP P) (s : SqT_ P X T W a ta) (t : SqW P X T W (.BoolOp .Or (b :: rest) pos) tb) : SqW P X T W (.BoolOp .Or (a :: b :: rest) pos) (mOr ta tb) := fun B w σ H fr h Q z r1 p =>
  pw_ww (pw_or pt_max pw_max) (s B w σ H fr h _ z r1 (Post.bind (VR := vB X.K T B σ) p fun d fr1 h1 w1 H1 x e1 l1 r1 rx p1 => by
    have rx' : x = d := rx
    subst rx'
    cases x with
    | false => exact t B w1 σ H1 fr1 h1 Q (hP _ _ _ l1 z) r1 p1
    | true => exact p1 w1 H1 true (Wd.le_refl _) r1 rfl))
theorem qt_val (s : SqV P X T W e m) (he : ∀ whole, isTrue e X.env whole = (do let v ← whole; standAt e.pos; holding [v] (truthy v)) := by intro _; rfl) : SqT_ P X T W e (mUn (fun _ d => d.tb) m) := fun B w σ H fr h Q z r1 p =>
  pt_wt (pt_val pe_max he) (s B w σ H fr h _ z r1 (Post.bind (VR := vV X.K T B σ) p fun d fr1 h1 w1 H1 x e1 l1 r1 rx p1 => by
    dsimp only at p1
    cases q : d.tb with
    | none => rw [q] at p1; exact p1.elim
    | some k =>
      rw [q] at p1
      exact ⟨k, tb_rel (fr := fr1) (B := B) (σ := σ) (H := H1) (.inl rx) q, p1 w1 H1 k (Wd.le_refl _) r1 rfl⟩))
theorem qv_one {op : BoolOp} (s : SqV P X T W a ma) : SqV P X T W (.BoolOp op [a] pos) ma := fun B w σ H fr h Q z r1 p => pe_we (pe_one pe_max) (s B w σ H fr h Q z r1 p)
theorem qv_not (s : SqV P X T W a ma) : SqV P X T W (.UnaryOp .Not a pos) (mNotV ma) := fun B w σ H fr h Q z r1 p =>
  pe_we (pe_not pe_max) (s B w σ H fr h _ z r1 (Post.bind (VR := vV X.K T B σ) p fun d fr1 h1 w1 H1 x e1 l1 r1 rx p1 => by
    cases q : d.tb with
    | none => rw [q] at p1; exact p1.elim
    | some c =>
      rw [q] at p1
      exact ⟨c, tb_rel (fr := fr1) (B := B) (σ := σ) (H := H1) (.inl rx) q, p1 w1 H1 _ (Wd.le_refl _) r1 (.bl _)⟩))
theorem qv_and (hP : MonP P) (s : SqV P X T W a ma) (t : SqV P X T W (.BoolOp .And (b :: rest) pos) mb) : SqV P X T W (.BoolOp .And (a :: b :: rest) pos) (mAndV ma mb) := fun B w σ H fr h Q z r1 p =>
  pe_we (pe_and pe_max pe_max) (s B w σ H fr h _ z r1 (Post.bind (VR := vV X.K T B σ) p fun d fr1 h1 w1 H1 x e1 l1 r1 rx p1 => by
    cases q : d.tb with
    | none => rw [q] at p1; exact p1.elim
    | some c =>
      rw [q] at p1
      refine ⟨c, tb_rel (fr := fr1) (B := B) (σ := σ) (H := H1) (.inl rx) q, ?_⟩
      cases c with
      | true => exact t B w1 σ H1 fr1 h1 Q (hP _ _ _ l1 z) r1 p1
      | false => exact p1 w1 H1 _ (Wd.le_refl _) r1 (.bl _)))
theorem qv_or (hP : MonP P) (s : SqV P X T W a ma) (t : SqV P X T W (.BoolOp .Or (b :: rest) pos) mb) : SqV P X T W (.BoolOp .Or (a :: b :: rest) pos) (mOrV ma mb) := fun B w σ H fr h Q z r1 p =>
  pe_we (pe_or pe_max pe_max) (s B w σ H fr h _ z r1 (Post.bind (VR := vV X.K T B σ) p fun d fr1 h1 w1 H1 x e1 l1 r1 rx p1 => by
    cases q : d.tb with
    | none => rw [q] at p1; exact p1.elim
    | some c =>
      rw [q] at p1
      refine ⟨c, tb_rel (fr := fr1) (B := B) (σ := σ) (H := H1) (.inl rx) q, ?_⟩
      cases c with
      | false => exact t B w1 σ H1 fr1 h1 Q (hP _ _ _ l1 z) r1 p1
      | true => exact p1 w1 H1 _ (Wd.le_refl _) r1 (.bl _)))
theorem q_if (hP : MonP P) {VR : VRel V D} (st : SqT_ P X T W c tc) (sa : SimQ P (WE X a) X.K T W VR ma) (sb : SimQ P (WE X b) X.K T W VR mb) : SimQ P (WE X (.IfExp c a b pos)) X.K T W VR (mIf tc ma mb) := fun B w σ H fr h Q z r1 p =>
  pe_we (pe_ifExp pt_max pe_max pe_max) (st B w σ H fr h _ z r1 (Post.bind (VR := vB X.K T B σ) p fun d fr1 h1 w1 H1 x e1 l1 r1 rx p1 => by
    have rx' : x = d := rx
    subst rx'
    cases x with
    | true => exact sa B w1 σ H1 fr1 h1 Q (hP _ _ _ l1 z) r1 p1
    | false => exact sb B w1 σ H1 fr1 h1 Q (hP _ _ _ l1 z) r1 p1))
theorem qa_nil : SqA P X T W [] (mArgs []) := q_of sa_nil
theorem qa_cons (hP : MonP P) (s : SqV P X T W e m) (t : SqA P X T W es (mArgs ms)) (hs : starEach (e :: es) X.env = (false, eval e X.env) :: starEach es X.env := by exact star_no rfl) : SqA P X T W (e :: es) (mArgs (m :: ms)) := fun B w σ H fr h Q z r1 p =>
  pa_wa (pa_cons pe_max pa_max hs) (s B w σ H fr h _ z r1 (Post.bind (VR := vV X.K T B σ) p fun d fr1 h1 w1 H1 x e1 l1 r1 rx p1 =>
    t B w1 σ H1 fr1 h1 _ (hP _ _ _ l1 z) r1 (Post.bind (VR := vA X.K T B σ) p1 fun ds fr2 h2 w2 H2 vs e2 l2 r2 rs p2 => p2 w2 H2 _ (Wd.le_refl _) r2 (.cons (rx.mono l2) rs))))
theorem qv_tup {x1 : Nat} (s : SqA P X T W es (mArgs ms)) : SqV P X T W (.Tuple es x1 pos) (mTup ms) := fun B w σ H fr h Q z r1 p =>
  pe_we (pe_tup pa_max) (s B w σ H fr h _ z r1 (Post.bind (VR := vA X.K T B σ) p fun ds fr1 h1 w1 H1 vs e1 l1 r1 rs p1 => by
    by_cases hl : ds.length ≤ big
    · rw [if_pos hl] at p1
      exact ⟨by rw [RelDs.length rs]; exact big_line hl, fun q nq => new_tup r1 rs nq p1⟩
    · rw [if_neg hl] at p1
      exact p1.elim))
theorem qe_lst (s : SqA P X T W es (mArgs ms)) : SqE P X T W (.List es pos) (mLst ms) := fun B w σ H fr h Q z r1 p =>
  pe_we (pe_lst pa_max) (s B w σ H fr h _ z r1 (Post.bind (VR := vA X.K T B σ) p fun ds fr1 h1 w1 H1 vs e1 l1 r1 rs p1 => by
    by_cases hl : ds.length ≤ big
    · rw [if_pos hl] at p1
      exact ⟨by rw [RelDs.length rs]; exact big_line hl, fun q nq => new_lst r1 rs nq p1⟩
    · rw [if_neg hl] at p1
      exact p1.elim))
end
/-! ### statements -/
def PostQ (P : Wd → L2.St → Prop) (K : PySem.W.Frag) (T : Tb) (B : Bs) (W : WX) (w : Wd) (r : R Fl) (D : Ends) : Prop :=
  match r with
  | .ok .nx fr h => ∀ w' σ' H', w.le w' → P w' σ' → Rel K T B w' σ' H' fr h → D.nx σ' H'
  | r => PostS K T B W w r D
def SqS (P : Wd → L2.St → Prop) (X : Cx) (T : Tb) (W : WX) (st : Stmt) (m : M Fl) : Prop := ∀ (B : Bs) (w : Wd) (σ : L2.St) (H : Hp) (fr : Fr) (h : Hh) (D : Ends), P w σ → Rel X.K T B w σ H fr h → PostQ P X.K T B W w (m fr h) D → WS X st D σ H
def SqSs (P : Wd → L2.St → Prop) (X : Cx) (T : Tb) (W : WX) (sts : List Stmt) (m : M Fl) : Prop := ∀ (B : Bs) (w : Wd) (σ : L2.St) (H : Hp) (fr : Fr) (h : Hh) (D : Ends), P w σ → Rel X.K T B w σ H fr h → PostQ P X.K T B W w (m fr h) D → WSs X sts D σ H
section
variable {P : Wd → L2.St → Prop} {K : PySem.W.Frag} {T : Tb} {B : Bs} {W : WX} {w w' : Wd} {σ : L2.St} {H : Hp}
theorem PostQ.of {r : R Fl} {D : Ends} (p : PostS K T B W w r D) : PostQ P K T B W w r D := by
  cases r with
  | ok f fr h =>
    cases f with
    | nx => exact fun w' σ' H' l _ r => p w' σ' H' l r
    | _ => exact p
  | exc e fr h => exact p
  | err => exact p
theorem PostQ.le {r : R Fl} {D : Ends} (x : w.le w') (p : PostQ P K T B W w r D) : PostQ P K T B W w' r D := by
  cases r with
  | ok f fr h =>
    cases f with
    | nx => exact fun w2 σ2 H2 y => p w2 σ2 H2 (Wd.le_trans x y)
    | brk => exact PostS.le x (show PostS K T B W w (.ok .brk fr h) D from p)
    | ct => exact PostS.le x (show PostS K T B W w (.ok .ct fr h) D from p)
    | rt d => exact PostS.le x (show PostS K T B W w (.ok (.rt d) fr h) D from p)
  | exc e fr h => exact PostS.le (D := D) (r := .exc e fr h) x p
  | err => exact p
theorem PostQ.bind {α β : Type} {VR : Wd → Hp → Fr → β → α → Prop} {m : M α} {f : α → M Fl} {fr : Fr} {h : Hh} {D : Ends} {Q : β → Hp → Prop} (p : PostQ P K T B W w (m.bind f fr h) D)
    (k : ∀ d fr1 h1 w1 H1 v, m fr h = .ok d fr1 h1 → w.le w1 → Rel K T B w1 σ H1 fr1 h1 → VR w1 H1 fr1 v d → PostQ P K T B W w1 (f d fr1 h1) D → Q v H1) : Post K T B W VR w σ (m fr h) Q := by
  cases e : m fr h with
  | ok d fr1 h1 =>
    rw [M.bind_ok e] at p
    exact fun w1 H1 v x r z => k d fr1 h1 w1 H1 v e x r z (p.le x)
  | exc y fr1 h1 =>
    rw [M.bind_exc e] at p
    exact fun w1 H1 c dd x r z => p w1 σ H1 c dd x r z
  | err =>
    rw [M.bind_err e] at p
    exact p.elim
end
section
variable {P : Wd → L2.St → Prop} {X : Cx} {T : Tb} {W : WX} {k : Nat} {pos pos' p2 : Pos} {e a b c : Expr} {st : Stmt} {sts as bs : List Stmt} {m : M D} {s n : M Fl} {t : M Bool}
theorem qss_nil : SqSs P X T W [] (M.ret .nx) := fun B w σ H fr h D z R p => pss_wss pss_nil (p w σ H (Wd.le_refl _) z R)
theorem qss_cons (s1 : SqS P X T W st s) (s2 : SqSs P X T W sts n) : SqSs P X T W (st :: sts) (mSeq s n) := fun B w σ H fr h D z R p =>
  pss_wss (pss_cons ps_max pss_max) (s1 B w σ H fr h _ z R (by
    unfold mSeq at p
    cases e : s fr h with
    | ok f fr1 h1 =>
      rw [M.bind_ok e] at p
      cases f with
      | nx => exact fun w1 σ1 H1 l z1 R1 => s2 B w1 σ1 H1 fr1 h1 D z1 R1 (p.le l)
      | _ => exact p
    | exc y fr1 h1 => rw [M.bind_exc e] at p; exact p
    | err => rw [M.bind_err e] at p; exact p))
theorem qss_one (s1 : SqS P X T W st s) : SqSs P X T W [st] s := fun B w σ H fr h D z R p => pss_wss (pss_one ps_max) (s1 B w σ H fr h D z R p)
theorem qs_ret (s : SqE P X T W e m) : SqS P X T W (.Return (some e) pos) (mRet m) := fun B w σ H fr h D z R p =>
  ps_ws (ps_ret pe_max) (s B w σ H fr h _ z R (PostQ.bind (VR := vE X.K T B σ) p fun d fr1 h1 w1 H1 v e1 l1 r1 rx p1 => p1 w1 σ H1 v (Wd.le_refl _) r1 rx))
theorem qs_retN : SqS P X T W (.Return none pos) (M.ret (.rt .non)) := fun B w σ H fr h D z R p => ps_ws ps_retN (p w σ H .non (Wd.le_refl _) R (.inl .non))
theorem qs_pass : SqS P X T W (.Pass pos) (M.ret .nx) := fun B w σ H fr h D z R p => ps_ws ps_pass (p w σ H (Wd.le_refl _) z R)
theorem qs_break : SqS P X T W (.Break pos) (M.ret .brk) := fun B w σ H fr h D z R p => ps_ws ps_break (p w σ H (Wd.le_refl _) R)
theorem qs_cont : SqS P X T W (.Continue pos) (M.ret .ct) := fun B w σ H fr h D z R p => ps_ws ps_continue (p w σ H (Wd.le_refl _) R)
theorem qs_if (hP : MonP P) (st : SqT_ P X T W c t) (sa : SqSs P X T W as s) (sb : SqSs P X T W bs n) : SqS P X T W (.If c as bs pos) (mIfS t s n) := fun B w σ H fr h D z R p =>
  ps_ws (ps_if pt_max pss_max pss_max) (st B w σ H fr h _ z R (PostQ.bind (VR := vB X.K T B σ) p fun d fr1 h1 w1 H1 x e1 l1 r1 rx p1 => by
    have rx' : x = d := rx
    subst rx'
    cases x with
    | true => exact sa B w1 σ H1 fr1 h1 D (hP _ _ _ l1 z) r1 p1
    | false => exact sb B w1 σ H1 fr1 h1 D (hP _ _ _ l1 z) r1 p1))
theorem qs_put {N : List Str} (hP : MonP P) (nd : N.Nodup) (i : Nat) {x : Str} (hS : ∀ w σ v, P w σ → P w (σ.set i v)) (s : SqE P X T W e m) (hs : swapsWith e (some (.Name x pos')) pos.line X.env = pure false := by rfl) (hi : X.N[i]? = some x := by rfl) (hx : Loc X.env.scope x := by first | exact Or.inl rfl | exact Or.inr rfl)
    (hf : X.fn x = true ∨ X.env.scope.names.lookup x = some .local := by first | exact .inl rfl | exact .inr rfl) (h0 : i ≠ 0 := by decide) (hN : X.N = N := by rfl) : SqS P X T W (.Assign [.Name x pos'] e pos) (mPut i m) := fun B w σ H fr h D z R p =>
  ps_ws (ps_set (by rw [hN]; exact nd) hi hx pe_max hs hf) (s B w σ H fr h _ z R (PostQ.bind (VR := vE X.K T B σ) p fun d fr1 h1 w1 H1 v e1 l1 r1 rx p1 => p1 w1 _ H1 (Wd.le_refl _) (hS _ _ _ (hP _ _ _ l1 z)) (r1.put i h0 rx)))
end
/-! ### the caught error: slot i holds it, at a -/
def PX (K : PySem.W.Frag) (T : Tb) (i : Nat) (a : Addr) (x : Exn) (cls : Value) (dd : Option Addr) : Wd → L2.St → Prop := fun w σ => σ[i]? = some (some (.ref a)) ∧ ExcR K T w x cls dd
theorem ExcR.mono {K : PySem.W.Frag} {T : Tb} {w w' : Wd} {x : Exn} {cls : Value} {dd : Option Addr} (l : w.le w') (h : ExcR K T w x cls dd) : ExcR K T w' x cls dd :=
  ⟨h.1, h.2.imp id fun ⟨d, vs, e1, e2, e3⟩ => ⟨d, vs, e1, l.1 _ _ e2, e3.mono l⟩⟩
section
variable {K : PySem.W.Frag} {T : Tb} {i j : Nat} {a : Addr} {x : Exn} {cls : Value} {dd : Option Addr}
theorem px_mon : MonP (PX K T i a x cls dd) := fun _ _ _ l h => ⟨h.1, h.2.mono l⟩
theorem px_set (h : j ≠ i := by decide) : ∀ w σ v, PX K T i a x cls dd w σ → PX K T i a x cls dd w (σ.set j v) := fun w σ v h' => ⟨by rw [List.getElem?_set_ne h]; exact h'.1, h'.2⟩
end
/-- a suite's standing: slot i of X's def holds the caught error -/
structure Su (X : Cx) (T : Tb) (i : Nat) (a : Addr) (oe : Obj) (cls : Value) (dd : Option Addr) (pn : List (Addr × Obj)) (y : Exn) : Prop where
  hz : Zc cls dd oe
  hf : ∃ vs, oe.data = .fields vs
theorem Su.mon {X : Cx} {T : Tb} {i : Nat} {a : Addr} {oe : Obj} {cls : Value} {dd : Option Addr} {pn : List (Addr × Obj)} {y : Exn} (_ : Su X T i a oe cls dd pn y) : MonP (PX X.K T i a y cls dd) := px_mon
theorem Su.st {X : Cx} {T : Tb} {i j : Nat} {a : Addr} {oe : Obj} {cls : Value} {dd : Option Addr} {pn : List (Addr × Obj)} {y : Exn} (_ : Su X T i a oe cls dd pn y) (h : j ≠ i := by decide) : ∀ w σ v, PX X.K T i a y cls dd w σ → PX X.K T i a y cls dd w (σ.set j v) := px_set h
/-- isinstance of error classes -/
structure ErrF (K : PySem.W.Frag) (T : Tb) (tab : Tg → Tg → Option Bool) : Prop where
  kit : ∀ t u b, tab t u = some b → PySem.W.kitOne K (t.v T) (u.v T) = some b
  exc : ∀ c u b, tab (.o c) u = some b → L2.ExcC K (T.cad c)
theorem errAny {K : PySem.W.Frag} {T : Tb} {tab : Tg → Tg → Option Bool} {t : Tg} {bb : Bool} (F : ErrF K T tab) : ∀ {us : List Tg}, isiAny tab t us = some bb → PySem.W.kitAny K (t.v T) (us.map (Tg.v T)) = some bb
  | [], e => by cases e; exact kitAny_nil
  | u :: us, e => by
    unfold isiAny at e
    cases et : tab t u with
    | none => rw [et] at e; cases e
    | some b1 =>
      rw [et] at e
      cases b1 with
      | false => exact kitAny_cons (F.kit t u false et) (fun _ => errAny F e) (fun z => by cases z)
      | true =>
        cases e
        exact kitAny_cons (F.kit t u true et) (fun z => by cases z) (fun _ => rfl)
def bIsX (tab : Tg → Tg → Option Bool) (c : Nat) (d : D) : Option Bool := match d with
  | .tup l => match ctags l with
    | some (u :: us) => isiAny tab (.o c) (u :: us)
    | _ => none
  | d => match d.ctag with
    | some u => tab (.o c) u
    | none => none
def mIsX (tab : Tg → Tg → Option Bool) (c : Nat) (mb : M D) : M D := mb.bind fun d => M.opt ((bIsX tab c d).map .bl)
/-- the dict of a caught error, as the heap has it -/
def DkX (H : Hp) (dd : Option Addr) : Prop := dd = none ∨ ∃ d0 fs, dd = some d0 ∧ H d0 = some (.xd fs)
def rIsX (K : PySem.W.Frag) (C a : Addr) (dd : Option Addr) : List V → Hp → VK → Prop := fun xs H Q => ∃ (y : V) (b : Bool), xs = [.ref a, y] ∧ L2.ExcC K C ∧ DkX H dd ∧
  ((∃ cv, ClsV y cv ∧ PySem.W.kitOne K (.ref C) cv = some b) ∨ ∃ tp cs us, y = .ref tp ∧ L2.SqT K H tp cs ∧ Paired ClsV cs us ∧ PySem.W.kitAny K (.ref C) us = some b) ∧ Q (.bl b) H
theorem call_isX {X : Cx} {a C : Addr} {dd : Option Addr} {oe : Obj} {pn : List (Addr × Obj)} (hz : Zc (.ref C) dd oe) (hf : ∃ vs, oe.data = .fields vs) : CallR (X.suite a ((a, oe) :: pn)) (.builtin "isinstance") (rIsX X.K C a dd) := by
  intro pins s σ H xs us Q I r h
  obtain ⟨y, b, rfl, F, dk, ans, q⟩ := h
  obtain ⟨u1, u2, rfl, r1, r2⟩ := vals2 r
  cases (show u1 = Value.ref a from r1)
  obtain ⟨hget, _⟩ := I.pin (a, oe) (List.mem_append.mpr (.inl List.mem_cons_self))
  obtain ⟨vs, hv⟩ := hf
  have J : ∃ od, PySem.W.InstAt s.heap a oe C od := by
    obtain ⟨oc, oda, odt, osl⟩ := oe
    obtain ⟨h1, h2⟩ := hz
    dsimp only at h1 h2 hv
    subst h1 h2 hv
    rcases dk with rfl | ⟨d0, fs, rfl, e⟩
    · exact ⟨none, hget, rfl, rfl, trivial⟩
    · have hx : ObjOk X.prog X.w H s.heap d0 (.xd fs) := I.hok d0 _ e
      obtain ⟨mA, hns, hr⟩ := hx
      obtain ⟨od, ho, hl⟩ := lookIn_ns hns
      exact ⟨some od, hget, rfl, rfl, ho⟩
  obtain ⟨od, J⟩ := J
  have hcl : (PySem.W.clsIn X.K C).isSome = true := by
    have z := F.hd
    unfold PySem.W.hasDictIn at z
    cases e : PySem.W.clsIn X.K C with
    | none => rw [e] at z; cases z
    | some cd => rfl
  have Z := PySem.W.kitx_exc (x := a) (ox := oe) (od := od) hcl F.hg F.hk F.hs F.ha F.hn F.ht F.hm
  rcases ans with ⟨cv, k, e⟩ | ⟨tp, cs, ws, rfl, hT, k, e⟩
  · cases (k.eq r2)
    exact PySem.W.kia_one Z I.kIn J e (fun z => nomatch z) fun tk => ⟨.bl b, H, I.tok tk, rfl, q⟩
  · cases (show u2 = Value.ref tp from r2)
    obtain ⟨its, rv, pl, _⟩ := I.tuple hT
    obtain ⟨o, h1, h2, n, h3⟩ := pl
    have e3 := ClsV.all k rv
    subst e3
    obtain ⟨oc, od2, dt, sl⟩ := o
    simp only at h2 h3
    subst h2 h3
    exact PySem.W.kia_tup Z I.kIn J h1 e (fun z => nomatch z) fun tk => ⟨.bl b, H, I.tok tk, rfl, q⟩
section
variable {X : Cx} {T : Tb} {W : WX} {k i : Nat} {a : Addr} {oe : Obj} {cls : Value} {dd : Option Addr} {x : Exn} {pn : List (Addr × Obj)} {tab : Tg → Tg → Option Bool} {b : Expr} {mb : M D} {n : Str} {np pf pos : Pos}
theorem dkX_of {K : PySem.W.Frag} {B : Bs} {w : Wd} {σ : L2.St} {H : Hp} {fr : Fr} {h : Hh} (R : Rel K T B w σ H fr h) (e : ExcR K T w x cls dd) : DkX H dd := by
  rcases e.2 with ⟨_, e⟩ | ⟨d, vs, e1, e2, _⟩
  · exact .inl e
  · exact .inr ⟨d, _, e1, R.sub _ _ e2⟩
theorem qv_isX (S : Su X T i a oe cls dd pn x) (F : ErrF X.K T tab) (sb : SqV (PX X.K T i a x cls dd) (X.suite a ((a, oe) :: pn)) T W b mb) (hm : X.mg "isinstance" = none) (hi : X.N[i]? = some n := by rfl) (hv : Vis X.env.scope n := by first | exact Or.inl rfl | exact Or.inr (Or.inl rfl) | exact Or.inr (Or.inr rfl)) (hg : Gl X "isinstance" := by rfl)
    (hd : (n == ("__debug__" : Str)) = false := by decide) (hcd : (n == ("__classdict__" : Str)) = false := by decide)
    (he : starEach (.Name n np :: b :: []) X.env = (false, eval (.Name n np) X.env) :: starEach (b :: []) X.env := by exact star_no rfl) (he2 : starEach (b :: []) X.env = (false, eval b X.env) :: starEach [] X.env := by exact star_no rfl) (hpl : (backTo pos (starEach (b :: []) X.env)).any (·.1) = false := by rfl) :
    SqV (PX X.K T i a x cls dd) (X.suite a ((a, oe) :: pn)) T W (.Call (.Name "isinstance" pf) [.Name n np, b] [] pos) (mIsX tab x.c mb) := fun B w σ H fr h Q z R p => by
  have ec : cls = .ref (T.cad x.c) := z.2.1
  subst ec
  refine pe_we (pe_callB (X := X.suite a ((a, oe) :: pn)) (call_isX S.hz S.hf) hg hm (by decide +kernel) (pa_cons (pe_var hi hv hd hcd) (pa_cons pe_max pa_nil he2) he) (by decide) (by decide) he hpl) ⟨.ref a, z.1, ?_⟩
  refine sb B w σ H fr h _ z R (Post.bind (VR := vV X.K T B σ) p fun d fr1 h1 w1 H1 y e1 l1 r1 ry p1 => ?_)
  have ry : RelD X.K T w1 y d := ry
  cases eb : bIsX tab x.c d with
  | none => rw [eb] at p1; exact p1.elim
  | some bb =>
    rw [eb] at p1
    have fin : Q (.bl bb) H1 := p1 w1 H1 _ (Wd.le_refl _) r1 (.bl bb)
    have dk := dkX_of r1 (z.2.mono l1)
    have one : ∀ u, d.ctag = some u → tab (.o x.c) u = some bb → rIsX X.K (T.cad x.c) a dd [.ref a, y] H1 Q := fun u ec et => ⟨y, bb, rfl, F.exc _ _ _ et, dk, .inl ⟨_, ctag_rel ry ec, F.kit _ _ _ et⟩, fin⟩
    show rIsX X.K (T.cad x.c) a dd [.ref a, y] H1 Q
    unfold bIsX at eb
    split at eb
    · rename_i l
      split at eb
      · rename_i u us ec
        obtain ⟨p', vs, rfl, sq, rs⟩ := rel_tup ry
        have ex : L2.ExcC X.K (T.cad x.c) := by
          rcases isiAny_some eb with q | ⟨u', b', q⟩
          · cases q
          · exact F.exc _ _ _ q
        exact ⟨_, bb, rfl, ex, dk, .inr ⟨p', vs, _, rfl, sqT_le r1.sub sq, ctags_rel rs ec, errAny F eb⟩, fin⟩
      · cases eb
    · split at eb
      · rename_i u ec
        exact one u ec eb
      · cases eb
/-- e.f -/
def mXf (j : Nat) (x : Exn) : M D := fun fr h => match x.fs[j]? with
  | some d => .ok d fr h
  | none => .err
structure XfF (K : PySem.W.Frag) (T : Tb) (f : Str) (ix : Nat → Option Nat) : Prop where
  at_ : ∀ c j, ix c = some j → (T.fld c)[j]? = some f ∧ (T.fld c).Nodup ∧ XfC K (T.cad c) ∧ PySem.W.findIn K (.ref (T.cad c)) f = some none
def mXF (ix : Nat → Option Nat) (x : Exn) : M D := match ix x.c with
  | some j => mXf j x
  | none => fun _ _ => .err
theorem qv_xf {f : Str} {ix : Nat → Option Nat} (S : Su X T i a oe cls dd pn x) (F : XfF X.K T f ix) (hi : X.N[i]? = some n := by rfl) (hv : Vis X.env.scope n := by first | exact Or.inl rfl | exact Or.inr (Or.inl rfl) | exact Or.inr (Or.inr rfl))
    (hd : (n == ("__debug__" : Str)) = false := by decide) (hcd : (n == ("__classdict__" : Str)) = false := by decide) (hb : attributeBase (.Name n np) f X.env (eval (.Name n np) X.env) = eval (.Name n np) X.env := by rfl) :
    SqV (PX X.K T i a x cls dd) (X.suite a ((a, oe) :: pn)) T W (.Attribute (.Name n np) f pos) (mXF ix x) := fun B w σ H fr h Q z R p => by
  have ec : cls = .ref (T.cad x.c) := z.2.1
  subst ec
  unfold mXF at p
  cases ej : ix x.c with
  | none => rw [ej] at p; exact p.elim
  | some j =>
    rw [ej] at p
    have p : Post X.K T B W (vV X.K T B σ) w σ (mXf j x fr h) Q := p
    obtain ⟨a1, a2, a3, a4⟩ := F.at_ _ _ ej
    unfold mXf at p
    cases ed : x.fs[j]? with
    | none => rw [ed] at p; exact p.elim
    | some d =>
      rw [ed] at p
      rcases z.2.2 with ⟨e, _⟩ | ⟨d0, vs, e1, e2, e3⟩
      · rw [e] at ed
        simp at ed
      · obtain ⟨v, hv1, hv2⟩ := e3.get ed
        exact pe_we (pe_xf a3 a4 S.hz S.hf (pe_var (X := X.suite a ((a, oe) :: pn)) hi hv hd hcd) hb) ⟨.ref a, z.1, rfl, rfl, d0, _, v, e1, R.sub _ _ e2, PySem.ExS.zip_get a2 a1 hv1, p w H v (Wd.le_refl _) R hv2⟩
end
/-! ### try: .. except X as e: -/
def endA (i : Nat) (r : R Fl) : R Fl := match r with
  | .ok .nx fr h => .ok .nx (fr.set i none) h
  | .ok .brk fr h => .ok .brk (fr.set i none) h
  | .ok .ct fr h => .ok .ct (fr.set i none) h
  | r => r
def mTryA (i : Nat) (cond : Nat → Option Bool) (mb : M Fl) (ms : Exn → M Fl) : M Fl := fun fr h => match mb fr h with
  | .exc x fr1 h1 => match cond x.c with
    | some true => if i < fr1.length then endA i (ms x (fr1.set i none) h1) else .err
    | some false => .exc x fr1 h1
    | none => .err
  | r => r
def mTryO (cond : Nat → Option Bool) (mb : M Fl) (ms : Exn → M Fl) : M Fl := fun fr h => match mb fr h with
  | .exc x fr1 h1 => match cond x.c with
    | some true => ms x fr1 h1
    | some false => .exc x fr1 h1
    | none => .err
  | r => r
section
variable {X : Cx} {T : Tb} {W : WX} {k : Nat} {x n : Str} {c : Value} {cond : Nat → Option Bool} {body suite : List Stmt} {b₀ : Stmt} {np pos pos' : Pos} {mb : M Fl} {ms : Exn → M Fl}
theorem s_tryA (C : Cq X T W k) (i : Nat) (hs : X.stack = X.env :: X.outer) (hf : X.env.frame = some X.env.locals) (hi : X.N[i]? = some n) (hln : X.env.kindOf n = some .local) (hc : Names X x c) (hcond : ∀ cc b, cond cc = some b → PySem.W.exmOne X.K (.ref (T.cad cc)) c = some b)
    (hb : ∀ (W' : WX) (pn : List (Addr × Obj)) (xe : Value → Shared → Prop), Cq (X.tr pn xe) T W' k → SimSs (X.tr pn xe) T W' body mb)
    (hsu : ∀ (a : Addr) (oe : Obj) (cls : Value) (d : Option Addr) (pn : List (Addr × Obj)) (y : Exn), Su X T i a oe cls d pn y → SqSs (PX X.K T i a y cls d) (X.suite a ((a, oe) :: pn)) T W (b₀ :: suite) (ms y)) :
    SimS X T W (.Try body [.ExceptHandler (some (.Name x np)) (some n) (b₀ :: suite) pos'] [] [] pos) (mTryA i cond mb ms) := fun B w σ H fr h D R p => by
  refine ps_ws (ps_try_as (tb := fun W' D σ H => ∀ pn xe, Takes (X.tr pn xe) W' → PassesOwn (model X.prog X.w) X.A X.env xe → WSs (X.tr pn xe) body D σ H)
    (ts := fun a cls d D σ H => ∀ oe pn, Zc cls d oe → (∃ vs, oe.data = .fields vs) → WSs (X.suite a ((a, oe) :: pn)) (b₀ :: suite) D σ H) (Wout := W) hs hf C.nd hi hln hc C.takes
    (fun W' pn xe tk po => ⟨fun pins s σ H D I hh => (hh pn xe tk po).go pins s I⟩) (fun a oe cls d pn hz hd => ⟨fun pins s σ H D I hh => (hh oe pn hz hd).go pins s I⟩)) ?_
  refine fun pn xe tk po => hb _ pn xe ⟨C.calm, C.nd, C.room, tk, po⟩ B w σ H fr h D R ?_
  unfold mTryA at p
  cases e : mb fr h with
  | err => rw [e] at p; exact p
  | ok f fr1 h1 =>
    rw [e] at p
    cases f <;> exact p
  | exc y fr1 h1 =>
    rw [e] at p
    dsimp only at p
    intro w1 σ1 H1 cls dd l1 r1 ex
    cases ec : cond y.c with
    | none => rw [ec] at p; exact p.elim
    | some bb =>
      rw [ec] at p
      refine ⟨bb, by rw [ex.1]; exact hcond _ _ ec, fun eb a na oe pn' hz hd => ?_, fun eb => ?_⟩
      · subst eb
        dsimp only at p
        by_cases hl : i < fr1.length
        · rw [if_pos hl] at p
          have hl2 : i < σ1.length := by rw [← r1.fl]; exact hl
          refine hsu a oe cls dd pn' y ⟨hz, hd⟩ B w1 (σ1.set i (some (.ref a))) H1 (fr1.set i none) h1 _ ⟨by rw [List.getElem?_set_self hl2], ex⟩ (r1.set_slot .none (fun _ _ _ q => by cases q) fun _ _ q => by cases q) ?_
          have p2 : PostS X.K T B W w1 (endA i (ms y (fr1.set i none) h1)) D := PostS.le l1 p
          cases e2 : ms y (fr1.set i none) h1 with
          | err => rw [e2] at p2; exact p2
          | exc y2 fr2 h2 => rw [e2] at p2; exact p2
          | ok f fr2 h2 =>
            rw [e2] at p2
            cases f with
            | nx => exact fun w2 σ2 H2 l2 _ r2 => p2 w2 _ H2 l2 (r2.set_slot .none (fun _ _ _ q => by cases q) fun _ _ q => by cases q)
            | brk => exact fun w2 σ2 H2 l2 r2 => p2 w2 _ H2 l2 (r2.set_slot .none (fun _ _ _ q => by cases q) fun _ _ q => by cases q)
            | ct => exact fun w2 σ2 H2 l2 r2 => p2 w2 _ H2 l2 (r2.set_slot .none (fun _ _ _ q => by cases q) fun _ _ q => by cases q)
            | rt d => exact p2
        · rw [if_neg hl] at p
          exact p.elim
      · subst eb
        exact p w1 σ1 H1 cls dd l1 r1 ex
theorem s_tryO (C : Cq X T W k) (hs : X.stack = X.env :: X.outer) (hf : X.env.frame = some X.env.locals) (hc : Names X x c) (hcond : ∀ cc b, cond cc = some b → PySem.W.exmOne X.K (.ref (T.cad cc)) c = some b)
    (hb : ∀ (W' : WX) (pn : List (Addr × Obj)) (xe : Value → Shared → Prop), Cq (X.tr pn xe) T W' k → SimSs (X.tr pn xe) T W' body mb)
    (hsu : ∀ (a : Addr) (oe : Obj) (pn : List (Addr × Obj)) (y : Exn), SqSs (fun _ _ => True) (X.suite a ((a, oe) :: pn)) T W (b₀ :: suite) (ms y)) :
    SimS X T W (.Try body [.ExceptHandler (some (.Name x np)) none (b₀ :: suite) pos'] [] [] pos) (mTryO cond mb ms) := fun B w σ H fr h D R p => by
  refine ps_ws (ps_try_only (tb := fun W' D σ H => ∀ pn xe, Takes (X.tr pn xe) W' → PassesOwn (model X.prog X.w) X.A X.env xe → WSs (X.tr pn xe) body D σ H)
    (ts := fun a cls d D σ H => ∀ oe pn, Zc cls d oe → (∃ vs, oe.data = .fields vs) → WSs (X.suite a ((a, oe) :: pn)) (b₀ :: suite) D σ H) (Wout := W) hs hf hc C.takes
    (fun W' pn xe tk po => ⟨fun pins s σ H D I hh => (hh pn xe tk po).go pins s I⟩) (fun a oe cls d pn hz hd => ⟨fun pins s σ H D I hh => (hh oe pn hz hd).go pins s I⟩)) ?_
  refine fun pn xe tk po => hb _ pn xe ⟨C.calm, C.nd, C.room, tk, po⟩ B w σ H fr h D R ?_
  unfold mTryO at p
  cases e : mb fr h with
  | err => rw [e] at p; exact p
  | ok f fr1 h1 =>
    rw [e] at p
    cases f <;> exact p
  | exc y fr1 h1 =>
    rw [e] at p
    dsimp only at p
    intro w1 σ1 H1 cls dd l1 r1 ex
    cases ec : cond y.c with
    | none => rw [ec] at p; exact p.elim
    | some bb =>
      rw [ec] at p
      refine ⟨bb, by rw [ex.1]; exact hcond _ _ ec, fun eb a na oe pn' hz hd => ?_, fun eb => ?_⟩
      · subst eb
        exact hsu a oe pn' y B w1 σ1 H1 fr1 h1 D trivial r1 (PostQ.of (PostS.le l1 p))
      · subst eb
        exact p w1 σ1 H1 cls dd l1 r1 ex
end
end Pk

/-! Pk22: an own operator, the other operand of a built-in type. -/
namespace PySem
namespace OwO
open PySem.W PySem.Calls PyProof.Rows
section
variable {prog : Program} {w : World} {A : Around} {E : Value → Shared → Prop} {s : Shared} {K : Frag} {x C L f : Addr} {h₀ : Heap} {m : Str → Option Value} {ox : Obj} {od : Option Obj} {t : String} {b : Value} {op : Operator} {Q : Value → Shared → Prop}
theorem first_of {K : Frag} {C : Addr} (hc : selfFirst K C = true) : ∃ cd rest, clsIn K C = some cd ∧ cd.mro = .ref C :: rest := by
  obtain ⟨cd, hcd, hm⟩ := any_some hc
  cases q : cd.mro with
  | nil => rw [q] at hm; cases hm
  | cons a r => rw [q, List.head?_cons] at hm; cases (beq_iff_eq.mp hm); exact ⟨cd, r, hcd, q⟩
def CmpB (Q : Option Value → Shared → Prop) (v : Value) (s : Shared) : Prop := v ≠ .notImplemented ∧ Q (some v) s
theorem bin_of {a b : Value} (h : wpAny (model prog w) A (binaryOp1 op.info.2 a b) (fun o s' => ∃ v, o = some v ∧ Q v s') E s) : wpAny (model prog w) A (binaryOp op a b) Q E s := by
  unfold binaryOp
  refine wpAny_holding ?_
  exact wpAny_bind (wpAny_mono h (fun o s' ⟨v, e, q⟩ => by subst e; exact wpAny_pure q) fun _ _ e => e)
/-- a method's answer -/
theorem try_own {nm : Str} {P : Option Value → Shared → Prop} (X : K.In s.heap) (I : InstAt s.heap x ox C od) (hs : findIn K (.ref C) nm = some (some (.ref f))) (hf : isFn K (.ref f) = true)
    (h : wpAny (model prog w) A (call (.ref f) [.ref x, b]) (CmpB P) E s) : wpAny (model prog w) A (tryMethod (.ref x) nm b) P E s := by
  unfold tryMethod
  refine wpAny_bind (special_fn X I hs (beq_iff_eq.mp hf) (wpAny_mono h (fun v s' hv => ?_) fun _ _ e => e))
  obtain ⟨n, q⟩ := hv
  cases v <;> first | exact absurd rfl n | exact wpAny_pure q
/-- own op other: the other's type has no such slot -/
theorem left0 {nm : String} {P : Option Value → Shared → Prop} (X : K.In s.heap) (I : InstAt s.heap x ox C od) (hb : Looks (model prog w) s.heap (typeOf b) (.type t)) (hr : fillsNumberSlot (.type t) nm = pure false) (hc : selfFirst K C = true)
    (hs : findIn K (.ref C) (PySem.dunder nm) = some (some (.ref f))) (hf : isFn K (.ref f) = true)
    (h : wpAny (model prog w) A (call (.ref f) [.ref x, b]) (CmpB P) E s) (hP : ∀ s', ¬ P none s') : wpAny (model prog w) A (binaryOp1 nm (.ref x) b) P E s := by
  obtain ⟨cd, rest, hcd, hm⟩ := first_of hc
  unfold binaryOp1
  refine wpAny_bind (I.type.here (wpAny_bind (hb.here (wpAny_bind ((fills_K X hcd hm hs).here ?_)))))
  simp only [show ((Value.ref C : Value) == Value.type t) = false from rfl, Bool.false_eq_true, if_false, hr]
  refine wpAny_bind (wpAny_pure ?_)
  simp only [Bool.and_false, Bool.false_eq_true, if_false, Bool.false_and]
  refine wpAny_bind (wpAny_pure ?_)
  simp only [Bool.false_eq_true, if_false, if_true]
  refine wpAny_bind (try_own X I hs hf (wpAny_mono h (fun v s' hv => ⟨hv.1, ?_⟩) fun _ _ e => e))
  exact wpAny_pure hv.2
/-- own op other: the other's type has such a slot -/
theorem left1 {nm : String} {P : Option Value → Shared → Prop} {tk rv : Option Value} (X : K.In s.heap) (I : InstAt s.heap x ox C od) (hb : Looks (model prog w) s.heap (typeOf b) (.type t)) (hr : fillsNumberSlot (.type t) nm = pure true) (hsub : isSubtype (.type t) (.ref C) = pure false)
    (hnp : numberSlotInPython (.type t) nm = pure false) (hlk : typeLookup (.type t) (dunderR nm) = pure tk) (hc : selfFirst K C = true)
    (hs : findIn K (.ref C) (PySem.dunder nm) = some (some (.ref f))) (hrv : findIn K (.ref C) (PySem.dunderR nm) = some rv) (hrf : rv = none ∨ ∃ g, rv = some (.ref g)) (hf : isFn K (.ref f) = true)
    (h : wpAny (model prog w) A (call (.ref f) [.ref x, b]) (CmpB P) E s) : wpAny (model prog w) A (binaryOp1 nm (.ref x) b) P E s := by
  obtain ⟨cd, rest, hcd, hm⟩ := first_of hc
  have np : Looks (model prog w) s.heap (numberSlotInPython (.ref C) nm) true := by
    intro A' Q' E' s' k q
    unfold numberSlotInPython
    refine wpAny_bind (looks_findIn X hs A' _ E' s' k (wpAny_bind (wpAny_pure ?_)))
    refine wpAny_bind (looks_findIn X hrv A' _ E' s' k ?_)
    rcases hrf with rfl | ⟨g, rfl⟩
    · refine wpAny_bind (wpAny_pure ?_)
      exact wpAny_pure q
    · refine wpAny_bind (wpAny_pure ?_)
      exact wpAny_pure q
  unfold binaryOp1
  refine wpAny_bind (I.type.here (wpAny_bind (hb.here (wpAny_bind ((fills_K X hcd hm hs).here ?_)))))
  simp only [show ((Value.ref C : Value) == Value.type t) = false from rfl, Bool.false_eq_true, if_false, hr]
  refine wpAny_bind (wpAny_pure ?_)
  simp only [Bool.and_self, if_true, hsub]
  refine wpAny_bind (wpAny_pure ?_)
  simp only [Bool.false_eq_true, if_false, Bool.not_false, Bool.and_self, if_true]
  refine wpAny_bind (np.here ?_)
  simp only [if_true, hnp]
  refine wpAny_bind (wpAny_pure ?_)
  simp only [Bool.not_false, if_true, hlk]
  refine wpAny_bind (wpAny_pure ?_)
  refine wpAny_bind (try_own X I hs hf (wpAny_mono h (fun v s' hv => ⟨hv.1, ?_⟩) fun _ _ e => e))
  exact wpAny_pure hv.2
/-- other op own: the other's type has no such slot -/
theorem right0 {nm : String} {P : Option Value → Shared → Prop} {a : Value} {g : Addr} (X : K.In s.heap) (I : InstAt s.heap x ox C od) (ha : Looks (model prog w) s.heap (typeOf a) (.type t)) (hr : fillsNumberSlot (.type t) nm = pure false) (hc : selfFirst K C = true)
    (hs : findIn K (.ref C) (PySem.dunder nm) = some (some (.ref f))) (hs2 : findIn K (.ref C) (PySem.dunderR nm) = some (some (.ref g))) (hg : isFn K (.ref g) = true)
    (h : wpAny (model prog w) A (call (.ref g) [.ref x, a]) (CmpB P) E s) : wpAny (model prog w) A (binaryOp1 nm a (.ref x)) P E s := by
  obtain ⟨cd, rest, hcd, hm⟩ := first_of hc
  unfold binaryOp1
  refine wpAny_bind (ha.here (wpAny_bind (I.type.here ?_)))
  rw [hr]
  refine wpAny_bind (wpAny_pure ?_)
  simp only [show (Value.type t == (Value.ref C : Value)) = false from rfl, Bool.false_eq_true, if_false]
  refine wpAny_bind ((fills_K X hcd hm hs).here ?_)
  simp only [Bool.false_and, Bool.false_eq_true, if_false]
  refine wpAny_bind (wpAny_pure ?_)
  simp only [Bool.false_eq_true, if_false, Bool.not_false, Bool.and_self, if_true]
  refine wpAny_bind (try_own X I hs2 hg (wpAny_mono h (fun v s' hv => ⟨hv.1, ?_⟩) fun _ _ e => e))
  exact wpAny_bind (wpAny_rule (wpAny_pure hv.2))
/-- other op own: the other's own slot declines -/
theorem right1 {nm : String} {P : Option Value → Shared → Prop} {a : Value} {g : Addr} (X : K.In s.heap) (I : InstAt s.heap x ox C od) (ha : Looks (model prog w) s.heap (typeOf a) (.type t)) (hr : fillsNumberSlot (.type t) nm = pure true) (hsub : subIn K (.ref C) (.type t) = some false)
    (hnp : numberSlotInPython (.type t) nm = pure false) (htry : ∀ P' : Option Value → Shared → Prop, P' none s → wpAny (model prog w) A (tryMethod a (PySem.dunder nm) (.ref x)) P' E s) (hc : selfFirst K C = true)
    (hs : findIn K (.ref C) (PySem.dunder nm) = some (some (.ref f))) (hs2 : findIn K (.ref C) (PySem.dunderR nm) = some (some (.ref g))) (hg : isFn K (.ref g) = true)
    (h : wpAny (model prog w) A (call (.ref g) [.ref x, a]) (CmpB P) E s) : wpAny (model prog w) A (binaryOp1 nm a (.ref x)) P E s := by
  obtain ⟨cd, rest, hcd, hm⟩ := first_of hc
  unfold binaryOp1
  refine wpAny_bind (ha.here (wpAny_bind (I.type.here ?_)))
  rw [hr]
  refine wpAny_bind (wpAny_pure ?_)
  simp only [show (Value.type t == (Value.ref C : Value)) = false from rfl, Bool.false_eq_true, if_false]
  refine wpAny_bind ((fills_K X hcd hm hs).here ?_)
  simp only [Bool.and_self, if_true]
  refine wpAny_bind ((looks_subIn X hsub).here ?_)
  simp only [Bool.false_eq_true, if_false, Bool.not_false, Bool.and_self, if_true, hnp]
  refine wpAny_bind (wpAny_pure ?_)
  simp only [Bool.false_eq_true, if_false]
  refine wpAny_bind (htry _ ?_)
  refine wpAny_bind (try_own X I hs2 hg (wpAny_mono h (fun v s' hv => ⟨hv.1, ?_⟩) fun _ _ e => e))
  exact wpAny_bind (wpAny_rule (wpAny_pure hv.2))
end
/-! ### int's * declines an instance -/
theorem mul_int_ins (a : Int) (t : Tok) (x C dx : Addr) : Meets (Builtin.«int.__mul__» ⟨[.int a t, .ref x], []⟩) (fun _ R s => s.heap.get? x = some (instObj C dx) ∧ R (.ok (.ret Value.notImplemented)) s) :=
  .of_wp fun prog w A R s h => by obtain ⟨hp, g, d, tk, os⟩ := s; obtain ⟨hl, h⟩ := h; wp_walk; exact ⟨_, rfl, h⟩
theorem mul_bool_ins (a : Bool) (x C dx : Addr) : Meets (Builtin.«int.__mul__» ⟨[.bool a, .ref x], []⟩) (fun _ R s => s.heap.get? x = some (instObj C dx) ∧ R (.ok (.ret Value.notImplemented)) s) :=
  .of_wp fun prog w A R s h => by obtain ⟨hp, g, d, tk, os⟩ := s; obtain ⟨hl, h⟩ := h; wp_walk; exact ⟨_, rfl, h⟩
section
variable {prog : Program} {w : World} {A : Around} {E : Value → Shared → Prop} {s : Shared} {x C dx : Addr}
theorem try_int {a : Int} {t : Tok} (hx : s.heap.get? x = some (instObj C dx)) : ∀ P' : Option Value → Shared → Prop, P' none s → wpAny (model prog w) A (tryMethod (.int a t) (PySem.dunder "mul") (.ref x)) P' E s := fun P' h => by
  unfold tryMethod callSpecial? specialOf
  refine wpAny_bind (wpAny_bind (wpAny_bind (wpAny_pure (a := Value.type "int") ?_)))
  rw [show typeLookup (.type "int") (PySem.dunder "mul") = pure (some (.builtin "int.__mul__")) from F.slot_int_mul.lookup]
  refine wpAny_pure (wpAny_holding (wpAny_bind ?_))
  rw [F.slot_int_mul.bind]
  refine wpAny_pure (wpAny_bind ?_)
  exact call_meets F.slot_int_mul (typeIs_int s a t) F.entry_int_mul (F.args_int_mul_2 _ _) (mul_int_ins a t x C dx) ⟨hx, wpAny_pure (wpAny_pure h)⟩
theorem try_bool {a : Bool} (hx : s.heap.get? x = some (instObj C dx)) : ∀ P' : Option Value → Shared → Prop, P' none s → wpAny (model prog w) A (tryMethod (.bool a) (PySem.dunder "mul") (.ref x)) P' E s := fun P' h => by
  unfold tryMethod callSpecial? specialOf
  refine wpAny_bind (wpAny_bind (wpAny_bind (wpAny_pure (a := Value.type "bool") ?_)))
  rw [show typeLookup (.type "bool") (PySem.dunder "mul") = pure (some (.builtin "int.__mul__")) from F.slot_bool_mul.lookup]
  refine wpAny_pure (wpAny_holding (wpAny_bind ?_))
  rw [F.slot_bool_mul.bind]
  refine wpAny_pure (wpAny_bind ?_)
  exact call_meets F.slot_bool_mul (typeIs_bool' s a) F.entry_int_mul (F.args_int_mul_2 _ _) (mul_bool_ins a x C dx) ⟨hx, wpAny_pure (wpAny_pure h)⟩
end
end OwO
end PySem
namespace Pk
open PySem PySem.Spec L2
/-- the class's own * and reflected * -/
structure MulF (X : Cx) (T : Tb) (k : Nat) (mt : Nat → Option Fn) : Prop where
  ex : ∀ c F, mt c = some F → ∃ (kk : Nat) (f : Addr) (fd : FuncData) (ps : List Str), Cls X.K (T.cad c) ∧ Meth X.K (T.cad c) (PySem.dunder "mul") f ∧ PySem.W.selfFirst X.K (T.cad c) = true ∧ FnP X.prog X.w X.K X.mg X.base T kk f fd ps F ∧ Bn X.K T fd ps 2 [] (gPos []) ∧ kk ≤ k ∧
    ∃ g, PySem.W.findIn X.K (.ref (T.cad c)) (PySem.dunderR "mul") = some (some (.ref g))
structure RmulF (X : Cx) (T : Tb) (k : Nat) (mt : Nat → Option Fn) : Prop where
  ex : ∀ c F, mt c = some F → ∃ (kk : Nat) (f : Addr) (fd : FuncData) (ps : List Str), Cls X.K (T.cad c) ∧ Meth X.K (T.cad c) (PySem.dunderR "mul") f ∧ PySem.W.selfFirst X.K (T.cad c) = true ∧ FnP X.prog X.w X.K X.mg X.base T kk f fd ps F ∧ Bn X.K T fd ps 2 [] (gPos []) ∧ kk ≤ k ∧
    (∃ g, PySem.W.findIn X.K (.ref (T.cad c)) (PySem.dunder "mul") = some (some (.ref g))) ∧ PySem.W.subIn X.K (.ref (T.cad c)) (.type "int") = some false ∧ PySem.W.subIn X.K (.ref (T.cad c)) (.type "bool") = some false
def D.bty (h : Hh) (d : D) : Option String := match d.tag h with
  | some (.b t) => some t
  | _ => none
/-- own * other -/
def mMulL (mt : Nat → Option Fn) (ma mb : M D) : M D := ma.bind fun x => mb.bind fun y fr h => match fnOf mt h x, y.bty h with
  | some F, some _ => liftR fr (F [x, y] h)
  | _, _ => .err
/-- None, a number * own -/
def D.smp : D → Bool
  | .non => true
  | .bl _ => true
  | .int _ => true
  | _ => false
def mMulR (mt : Nat → Option Fn) (ma mb : M D) : M D := ma.bind fun x => mb.bind fun y fr h => match fnOf mt h y, x.smp with
  | some F, true => liftR fr (F [y, x] h)
  | _, _ => .err
section
variable {X : Cx} {T : Tb} {W : WX} {k : Nat} {a b : Expr} {ma mb : M D} {pos : Pos}
theorem cmpB_of {pins : List (Addr × Obj)} {σ : L2.St} {Q : VK} {v : Value} {s : Shared} (h : EP X pins σ Q v s) : PySem.OwO.CmpB (fun o s' => ∃ v, o = some v ∧ EP X pins σ Q v s') v s := by
  refine ⟨fun e => ?_, v, rfl, h⟩
  subst e
  have z := cmpback_of h
  exact z
theorem bty_rel {K : PySem.W.Frag} {B : Bs} {w : Wd} {σ : L2.St} {H : Hp} {fr : Fr} {h : Hh} {v : V} {d : D} {t : String} (R : Rel K T B w σ H fr h) (rv : RelD K T w v d) (e : d.bty h = some t) : TyX K H v (.type t) ∧ t ∈ bTys := by
  unfold D.bty at e
  split at e
  · rename_i t' et
    cases e
    have mem : t ∈ bTys := by
      unfold D.tag at et
      split at et <;> first | (cases et; decide) | cases et
    have e2 : isiT [] (.b t) (.b t) = some true := by
      have : ∀ t ∈ bTys, isiT [] (.b t) (.b t) = some true := by decide +kernel
      exact this t mem
    exact ⟨tag_rel (u := .b t) (bb := true) (isi_of (K := K) (T := T) (l := []) .nil) R (.inl rv) et e2, mem⟩
  · cases e
/-- the other operand, for an own *  -/
theorem mul_left {pins : List (Addr × Obj)} {σ : L2.St} {H : Hp} {s : Shared} {prog : Program} {w : World} {A : Around} {E : Value → Shared → Prop} {x C f g : Addr} {ox : Obj} {od : Option Obj} {t : String} {y : V} {u : Value} {Q : Value → Shared → Prop} (I : Inv X pins σ H s) (ep : prog = X.prog) (ew : w = X.w) (J : PySem.W.InstAt s.heap x ox C od)
    (ty : TyX X.K H y (.type t)) (ht : t ∈ bTys) (ry : RelV y u) (hc : PySem.W.selfFirst X.K C = true) (M : Meth X.K C (PySem.dunder "mul") f) (hg : PySem.W.findIn X.K (.ref C) (PySem.dunderR "mul") = some (some (.ref g)))
    (h : wpAny (model prog w) A (call (.ref f) [.ref x, u]) (PySem.OwO.CmpB fun o s' => ∃ v, o = some v ∧ Q v s') E s) : wpAny (model prog w) A (binaryOp .Mult (.ref x) u) Q E s := by
  obtain ⟨P, Z, p, _⟩ := kit_of I ry ty
  have hb := Z.ty (model prog w) s.heap I.kIn p
  refine PySem.OwO.bin_of ?_
  show wpAny _ _ (binaryOp1 "mul" _ _) _ _ _
  have no : ∀ s', ¬ (fun o s' => ∃ v, o = some v ∧ Q v s') (none : Option Value) s' := fun s' ⟨v, e, _⟩ => by cases e
  rcases List.mem_cons.mp ht with rfl | ht
  · exact PySem.OwO.left0 I.kIn J hb (by first | rfl | kernel_rfl) hc M.at_ M.fn h no
  rcases List.mem_cons.mp ht with rfl | ht
  · exact PySem.OwO.left1 (tk := some (.builtin "int.__rmul__")) I.kIn J hb (by first | rfl | kernel_rfl) (by first | rfl | kernel_rfl) (by first | rfl | kernel_rfl) (by first | rfl | kernel_rfl) hc M.at_ hg (.inr ⟨g, rfl⟩) M.fn h
  rcases List.mem_cons.mp ht with rfl | ht
  · exact PySem.OwO.left1 (tk := some (.builtin "int.__rmul__")) I.kIn J hb (by first | rfl | kernel_rfl) (by first | rfl | kernel_rfl) (by first | rfl | kernel_rfl) (by first | rfl | kernel_rfl) hc M.at_ hg (.inr ⟨g, rfl⟩) M.fn h
  rcases List.mem_cons.mp ht with rfl | ht
  · exact PySem.OwO.left0 I.kIn J hb (by first | rfl | kernel_rfl) hc M.at_ M.fn h no
  rcases List.mem_cons.mp ht with rfl | ht
  · exact PySem.OwO.left0 I.kIn J hb (by first | rfl | kernel_rfl) hc M.at_ M.fn h no
  rcases List.mem_cons.mp ht with rfl | ht
  · exact PySem.OwO.left0 I.kIn J hb (by first | rfl | kernel_rfl) hc M.at_ M.fn h no
  cases ht
theorem se_mulL {mt : Nat → Option Fn} (C : Cq X T W k) (Mf : MulF X T k mt) (sa : SimV X T W a ma) (sb : SimV X T W b mb) : SimE X T W (.BinOp a .Mult b pos) (mMulL mt ma mb) := fun B w σ H fr h Q R pp => WE.mk <| fun pins s I => by
  refine wpAny_BinOp (binT (R := fun x y H2 => ∃ (kk : Nat) (f : Addr) (fd : FuncData) (ps : List Str) (p1 C dx g : Addr) (fs : List (Str × V)) (G : Fn) (t : String), x = .ref p1 ∧ H2 p1 = some (.ins C dx fs) ∧ TyX X.K H2 y (.type t) ∧ t ∈ bTys ∧ Meth X.K C (PySem.dunder "mul") f ∧ PySem.W.selfFirst X.K C = true ∧
      FnP X.prog X.w X.K X.mg X.base T kk f fd ps G ∧ Bn X.K T fd ps 2 [] (gPos []) ∧ kk ≤ k ∧ PySem.W.findIn X.K (.ref C) (PySem.dunderR "mul") = some (some (.ref g)) ∧
      ∀ g gV, KBn X.K fd ps 2 [] g gV → (∀ (w : Wd) (vs zs : List V) (ds es : List D), RelDs X.K T w vs ds → RelDs X.K T w zs es → ds.length = 2 → es.length = ([] : List Str).length → RelDs X.K T w (gV vs zs) (gPos [] ds es) ∧ (gPos [] ds es).length = ps.length) →
        spF X.K T ps.length G (gV [.ref p1, y] []) H2 Q (fun c d H' => W c d σ H')) pe_max pe_max I (sa B w σ H fr h _ R (Post.bind (VR := vV X.K T B σ) pp fun d fr1 h1 w1 H1 v e1 l1 r1 rd p1 =>
      sb B w1 σ H1 fr1 h1 _ r1 (Post.bind (VR := vV X.K T B σ) p1 fun e fr2 h2 w2 H2 u e2 l2 r2 re p2 => ?_))) fun v u s2 x y H2 I2 rx ry ⟨kk, f, fd, ps, p1, Cl, dx, g, fs, G, t, ex, ea, ty, ht, c2, c3, c4, c5, c6, c7, q⟩ => ?_)
  · have p3 : Post X.K T B W (vE X.K T B σ) w2 σ (match fnOf mt h2 d, e.bty h2 with | some F, some _ => liftR fr2 (F [d, e] h2) | _, _ => .err) Q := p2
    cases ef : fnOf mt h2 d with
    | none => rw [ef] at p3; exact p3.elim
    | some G =>
      cases et : e.bty h2 with
      | none => rw [ef, et] at p3; exact p3.elim
      | some t =>
        rw [ef, et] at p3
        dsimp only at p3
        unfold fnOf at ef
        split at ef
        · rename_i c fs ei
          obtain ⟨kk, f, fd, ps, c1, c2, c3, c4, c5, c6, g, c7⟩ := Mf.ex c G ef
          obtain ⟨p1', dx, vs, rfl, eH, rs⟩ := ins_rel r2 (.inl (rd.mono l2)) ei
          obtain ⟨ty, ht⟩ := bty_rel r2 re et
          refine ⟨kk, f, fd, ps, p1', T.cad c, dx, g, _, G, t, rfl, eH, ty, ht, c2, c3, c4, c5, c6, c7, fun g gV hb hgD => ?_⟩
          have p4 : Post X.K T B W (vE X.K T B σ) w2 σ (if ([d, e] : List D).length = 2 ∧ ([] : List D).length = 0 then liftR fr2 (G (gPos [] [d, e] []) h2) else .err) Q := by
            rw [if_pos ⟨rfl, rfl⟩]
            exact p3
          exact (call_end (n := 2) (m := 0) (zs := []) (es := []) (ds := [d, e]) hgD r2 (.cons (rd.mono l2) (.cons re .nil)) .nil p4).2.2
        · cases ef
  · subst ex
    obtain rfl : v = Value.ref p1 := rx
    obtain ⟨mA, J, _⟩ := ins_get I2.hok ea
    obtain ⟨od, J, _⟩ := J.look
    refine mul_left I2 rfl rfl J ty ht ry c3 c2 c7 (wpAny_mono (Q := EP X pins σ Q) ?_ (fun _ _ z => cmpB_of z) fun _ _ z => z)
    obtain ⟨g, gV, hb, hgD⟩ := c5.ex
    exact run_gen (us := [.ref p1, u]) (ws := []) (vs := [.ref p1, y]) c4.ok (C.room.mono c6) hb C.takes I2 (.cons rfl (.cons ry .nil)) .nil rfl rfl (q g gV hb hgD)
theorem se_mulR {mt : Nat → Option Fn} (C : Cq X T W k) (Mf : RmulF X T k mt) (sa : SimV X T W a ma) (sb : SimV X T W b mb) : SimE X T W (.BinOp a .Mult b pos) (mMulR mt ma mb) := fun B w σ H fr h Q R pp => WE.mk <| fun pins s I => by
  refine wpAny_BinOp (binT (R := fun x y H2 => ∃ (kk : Nat) (f : Addr) (fd : FuncData) (ps : List Str) (p1 C dx g : Addr) (fs : List (Str × V)) (G : Fn), y = .ref p1 ∧ H2 p1 = some (.ins C dx fs) ∧ (x = .non ∨ (∃ bb, x = .bl bb) ∨ ∃ i, x = .int i) ∧ Meth X.K C (PySem.dunderR "mul") f ∧ PySem.W.selfFirst X.K C = true ∧
      FnP X.prog X.w X.K X.mg X.base T kk f fd ps G ∧ Bn X.K T fd ps 2 [] (gPos []) ∧ kk ≤ k ∧ PySem.W.findIn X.K (.ref C) (PySem.dunder "mul") = some (some (.ref g)) ∧ PySem.W.subIn X.K (.ref C) (.type "int") = some false ∧ PySem.W.subIn X.K (.ref C) (.type "bool") = some false ∧
      ∀ g gV, KBn X.K fd ps 2 [] g gV → (∀ (w : Wd) (vs zs : List V) (ds es : List D), RelDs X.K T w vs ds → RelDs X.K T w zs es → ds.length = 2 → es.length = ([] : List Str).length → RelDs X.K T w (gV vs zs) (gPos [] ds es) ∧ (gPos [] ds es).length = ps.length) →
        spF X.K T ps.length G (gV [.ref p1, x] []) H2 Q (fun c d H' => W c d σ H')) pe_max pe_max I (sa B w σ H fr h _ R (Post.bind (VR := vV X.K T B σ) pp fun d fr1 h1 w1 H1 v e1 l1 r1 rd p1 =>
      sb B w1 σ H1 fr1 h1 _ r1 (Post.bind (VR := vV X.K T B σ) p1 fun e fr2 h2 w2 H2 u e2 l2 r2 re p2 => ?_))) fun v u s2 x y H2 I2 rx ry ⟨kk, f, fd, ps, p1, Cl, dx, g, fs, G, ex, ea, sx, c2, c3, c4, c5, c6, c7, c8, c9, q⟩ => ?_)
  · have p3 : Post X.K T B W (vE X.K T B σ) w2 σ (match fnOf mt h2 e, d.smp with | some F, true => liftR fr2 (F [e, d] h2) | _, _ => .err) Q := p2
    cases ef : fnOf mt h2 e with
    | none => rw [ef] at p3; exact p3.elim
    | some G =>
      cases et : d.smp with
      | false => rw [ef, et] at p3; exact p3.elim
      | true =>
        rw [ef, et] at p3
        dsimp only at p3
        unfold fnOf at ef
        split at ef
        · rename_i c fs ei
          obtain ⟨kk, f, fd, ps, c1, c2, c3, c4, c5, c6, ⟨g, c7⟩, c8, c9⟩ := Mf.ex c G ef
          obtain ⟨p1', dx, vs, rfl, eH, rs⟩ := ins_rel r2 (.inl re) ei
          have sx : v = .non ∨ (∃ bb, v = .bl bb) ∨ ∃ i, v = .int i := by
            have rd' : RelD X.K T w1 v d := rd
            cases rd' <;> first | exact .inl rfl | exact .inr (.inl ⟨_, rfl⟩) | exact .inr (.inr ⟨_, rfl⟩) | cases et
          refine ⟨kk, f, fd, ps, p1', T.cad c, dx, g, _, G, rfl, eH, sx, c2, c3, c4, c5, c6, c7, c8, c9, fun g gV hb hgD => ?_⟩
          have p4 : Post X.K T B W (vE X.K T B σ) w2 σ (if ([e, d] : List D).length = 2 ∧ ([] : List D).length = 0 then liftR fr2 (G (gPos [] [e, d] []) h2) else .err) Q := by
            rw [if_pos ⟨rfl, rfl⟩]
            exact p3
          exact (call_end (n := 2) (m := 0) (zs := []) (es := []) (ds := [e, d]) hgD r2 (.cons re (.cons (rd.mono l2) .nil)) .nil p4).2.2
        · cases ef
  · subst ex
    obtain rfl : u = Value.ref p1 := ry
    have ⟨dt, hdx⟩ : ∃ dt : Addr, s2.heap.get? p1 = some (PySem.W.instObj Cl dt) := by
      have z : ObjOk X.prog X.w H2 s2.heap p1 (.ins Cl dx fs) := I2.hok p1 _ ea
      exact ⟨dx, z.2.2.2.1⟩
    obtain ⟨mA, J, _⟩ := ins_get I2.hok ea
    obtain ⟨od, J, _⟩ := J.look
    refine PySem.OwO.bin_of ?_
    show wpAny _ _ (binaryOp1 "mul" _ _) _ _ _
    have run : wpAny (model X.prog X.w) X.A (call (.ref f) [.ref p1, v]) (PySem.OwO.CmpB fun o s' => ∃ v, o = some v ∧ EP X pins σ Q v s') X.xe s2 := by
      refine wpAny_mono (Q := EP X pins σ Q) ?_ (fun _ _ z => cmpB_of z) fun _ _ z => z
      obtain ⟨g, gV, hb, hgD⟩ := c5.ex
      exact run_gen (us := [.ref p1, v]) (ws := []) (vs := [.ref p1, x]) c4.ok (C.room.mono c6) hb C.takes I2 (.cons rfl (.cons rx .nil)) .nil rfl rfl (q g gV hb hgD)
    rcases sx with rfl | ⟨bb, rfl⟩ | ⟨i, rfl⟩
    · obtain rfl : v = Value.none := rx
      exact PySem.OwO.right0 (t := "NoneType") I2.kIn J (fun A Q E s k q => wpAny_pure q) (by first | rfl | kernel_rfl) c3 c7 c2.at_ c2.fn run
    · obtain rfl : v = Value.bool bb := rx
      exact PySem.OwO.right1 (t := "bool") I2.kIn J (fun A Q E s k q => wpAny_pure q) (by first | rfl | kernel_rfl) c9 (by first | rfl | kernel_rfl) (PySem.OwO.try_bool hdx) c3 c7 c2.at_ c2.fn run
    · obtain ⟨tt, rfl⟩ := rx
      exact PySem.OwO.right1 (t := "int") I2.kIn J (fun A Q E s k q => wpAny_pure q) (by first | rfl | kernel_rfl) c8 (by first | rfl | kernel_rfl) (PySem.OwO.try_int hdx) c3 c7 c2.at_ c2.fn run
end
end Pk

/-! Pk23: tables of error classes. -/
namespace Pk
open PySem PySem.Spec L2
def errT (l : List ((Tg × Tg) × Bool)) : Tg → Tg → Option Bool := fun t u => List.lookup (t, u) l
inductive ERows (K : PySem.W.Frag) (T : Tb) : List ((Tg × Tg) × Bool) → Prop where
  | nil : ERows K T []
  | cons {c : Nat} {u : Tg} {b : Bool} {l : List ((Tg × Tg) × Bool)} (q : PySem.W.kitOne K (.ref (T.cad c)) (u.v T) = some b) (i : L2.ExcC K (T.cad c)) (r : ERows K T l) : ERows K T (((.o c, u), b) :: l)
theorem err_rows {K : PySem.W.Frag} {T : Tb} : ∀ {l : List ((Tg × Tg) × Bool)}, ERows K T l → ∀ t u b, errT l t u = some b → ∃ c, t = .o c ∧ PySem.W.kitOne K (.ref (T.cad c)) (u.v T) = some b ∧ L2.ExcC K (T.cad c)
  | _, .nil, _, _, _, e => by cases e
  | _, @ERows.cons _ _ c u' r l q i rr, t, u, b, e => by
    unfold errT at e
    rw [List.lookup_cons] at e
    cases h : (t, u) == (Tg.o c, u') with
    | true =>
      rw [h] at e
      cases e
      cases beq_iff_eq.mp h
      exact ⟨c, rfl, q, i⟩
    | false =>
      rw [h] at e
      exact err_rows rr t u b e
theorem err_of {K : PySem.W.Frag} {T : Tb} {l : List ((Tg × Tg) × Bool)} (h : ERows K T l) : ErrF K T (errT l) :=
  ⟨fun t u b e => by
    obtain ⟨c, rfl, q, _⟩ := err_rows h t u b e
    exact q, fun c u b e => by
    obtain ⟨c', e', _, i⟩ := err_rows h _ u b e
    cases e'
    exact i⟩
theorem own_xf {K : PySem.W.Frag} {cn : Nat → Str} {x file f : Str} {fs : List Str} (own : (Fx.own x file fs).ok cn K = true) (hf : f ∈ fs) : XfC K (He.ga K x) ∧ PySem.W.findIn K (.ref (He.ga K x)) f = some none := by
  obtain ⟨o1, q⟩ := He.ba (show ownX K (He.ga K x) (He.ma K (He.ga K x) "__init__") file fs = true from own)
  obtain ⟨o2, q⟩ := He.ba q
  obtain ⟨o3, q⟩ := He.ba q
  obtain ⟨o4, q⟩ := He.ba q
  obtain ⟨o5, q⟩ := He.ba q
  obtain ⟨o6, q⟩ := He.ba q
  obtain ⟨o7, q⟩ := He.ba q
  obtain ⟨o8, q⟩ := He.ba q
  obtain ⟨o9, q⟩ := He.ba q
  obtain ⟨o10, q⟩ := He.ba q
  obtain ⟨o11, q⟩ := He.ba q
  obtain ⟨o12, q⟩ := He.ba q
  obtain ⟨o13, q⟩ := He.ba q
  obtain ⟨o14, o15⟩ := He.ba q
  exact ⟨⟨He.eqO_ok o13, He.eqO_ok o14, of_decide_eq_true o11, o15⟩, He.eqO_ok (List.all_eq_true.mp o9 f hf)⟩
theorem hok_str {K : PySem.W.Frag} {T : Tb} {w : Wd} {vs : List V} {ds : List D} (r : RelDs K T w vs ds) (e : (match ds with | [.str z] => decide (z.length ≤ 1000) | _ => false) = true) : ∃ z : Str, vs = [.str z] ∧ z.length ≤ 1000 := by
  split at e
  · rename_i z r
    cases r with
    | cons r1 r2 =>
      cases r2
      cases r1
      exact ⟨_, rfl, of_decide_eq_true e⟩
  · cases e
theorem hE_one {scope : Scope} {qual : Str} {vs : List V} {us : List Value} (z f : Str) {j : Nat} {pos pos2 pos3 : Pos} {L fI cda cc x : Addr} {prog : Program} {w : World} {A' : Around} {h : Heap} {g : Array GenState} {d : Drawn} {t : Nat} {os : OsState} {E' : Value → Shared → Prop} {Q : Value → Shared → Prop}
    (ok : ∃ s0 : Str, vs = [.str s0] ∧ s0.length ≤ 1000) (rv : Vals vs us) (hz : z.length ≤ 1000) (hk : scope.kind = .function) (hl : scope.names.lookup f = some .local) (hd : (f == ("__debug__" : Str)) = false)
    (hn : h.Ns L (fun y => ((("self" : Str) :: [f]).zip (Value.ref x :: us)).reverse.lookup y)) (hq : ∀ v t', Q v ⟨h, g, d, t', os⟩) :
    wpAny (model prog w) A' (eval (.BinOp (.Constant (.str z) j pos) .Add (.Name f pos2) pos3) (PySem.W.ksEnv qual scope L fI (.ref cda) cc)) Q E' ⟨h, g, d, t, os⟩ := by
  obtain ⟨s0, rfl, hs⟩ := ok
  cases rv with
  | cons r1 r2 =>
    rename_i u us'
    cases r2
    refine hE_add (tk := 0) (s0 := s0) hk hl hd hn ⟨u, ?_, r1⟩ ?_ hq
    · show List.lookup f [(f, u), (("self" : Str), Value.ref x)] = some u
      simp [List.lookup]
    · have : (2000 : Nat) ≤ sizeLine := by decide
      omega
end Pk

/-! Pk24: own special methods: len(o), o[i], x in o. -/
namespace Pk
open PySem PySem.Spec L2
/-- o's own method m; nothing is let out -/
def mOwn (mt : Nat → Option Fn) (o : D) (as : List D) : M D := fun fr h => match fnOf mt h o with
  | some F => match F (o :: as) h with
    | .ok d _ h => .ok d fr h
    | _ => .err
  | none => .err
/-- .. an exception is let out -/
def mOwnX (mt : Nat → Option Fn) (o : D) (as : List D) : M D := fun fr h => match fnOf mt h o with
  | some F => liftR fr (F (o :: as) h)
  | none => .err
theorem fnIn_of {K : PySem.W.Frag} {f : Addr} (h1 : PySem.W.isFn K (.ref f) = true) (h2 : PySem.W.keepIn K (.ref f) = true) : PySem.W.fnIn K f = true := by
  have h1' : PySem.W.typeIn K (.ref f) = some (.type "function") := beq_iff_eq.mp h1
  unfold PySem.W.fnIn
  unfold PySem.W.keepIn at h2
  dsimp only at h2
  have sp : PySem.W.specialIn K (.ref f) "__call__" = PySem.W.findIn K (.type "function") "__call__" := by
    unfold PySem.W.specialIn
    rw [h1']
    rfl
  have no : (PySem.W.findIn K (.type "function") "__call__" == some (some (.builtin "type.__call__"))) = false := by kernel_rfl
  cases e : K.lookup f with
  | none => rw [e] at h2; cases h2
  | some o =>
    obtain ⟨c, d, dt, sl⟩ := o
    rw [e] at h2
    cases dt with
    | func fd => rfl
    | cls cd =>
      dsimp only at h2
      rw [sp, no] at h2
      cases h2
    | _ => cases h2
section
variable {X : Cx} {T : Tb} {W : WX} {k kk j n : Nat} {f C : Addr} {fd : FuncData} {ps ks : List Str} {F : Fn} {m : Str} {pos pf : Pos} {a b : Expr} {ma mb : M D}
/-- a def's run under A -/
theorem run_in {A : Around} {pins : List (Addr × Obj)} {σ : L2.St} {H : Hp} {s : Shared} {Q : VK} {us : List Value} {vs : List V} {g : List Value → List Value → List Value} {gV : List V → List V → List V} {sp : Sp} {E : XK} (F : FnOk X.prog X.w X.K X.mg X.base (L2.CX X.prog X.w) kk f fd ps sp) (hr : Room kk A) (e0 : Env0 X.prog X.w X.K X.mg X.base A X.stack s H) (hb : KBn X.K fd ps n [] g gV)
    (hx : ∀ e s', L2.CX X.prog X.w X.stack H s E e s' → X.xe e s') (I : Inv X pins σ H s) (r : Vals vs us) (l1 : vs.length = n) (h : sp (gV vs []) H Q E) : wpAny (model X.prog X.w) A (call (.ref f) us) (EP X pins σ Q) X.xe s := by
  have r2 := hb.rel r (.nil : Vals [] [])
  refine wpAny_call (codeAny_mono (F.run A X.stack s H ⟨us, []⟩ (g us []) (gV vs []) Q _ hr e0 (hb.to s us [] I.kIn (r.length.symm.trans l1) rfl) r2 h) fun r s' hq => ?_)
  cases r with
  | error e => exact hx e s' hq
  | ok fl =>
    cases fl with
    | ret u => exact I.after hq
    | next => exact False.elim hq
    | brk => exact False.elim hq
    | cont => exact False.elim hq
theorem cx_none {H : Hp} {s : Shared} (e : Value) (s' : Shared) : L2.CX X.prog X.w X.stack H s (fun _ _ _ => False) e s' → X.xe e s' := fun c => by
  obtain ⟨a, B, H', cls, d, rfl, fl, hok, ub, na, os, ag, hE⟩ := c
  exact hE.elim
/-- what a run of o's own method asks -/
structure OwnRun (X : Cx) (T : Tb) (k n : Nat) (m : Str) (v : V) (H : Hp) (vs : List V) (Q : VK) (E : XK) : Prop where
  ex : ∃ (kk : Nat) (f : Addr) (fd : FuncData) (ps : List Str) (a C dx : Addr) (fs : List (Str × V)) (G : Fn), v = .ref a ∧ H a = some (.ins C dx fs) ∧ Cls X.K C ∧ Meth X.K C m f ∧ FnP X.prog X.w X.K X.mg X.base T kk f fd ps G ∧ kk ≤ k ∧
    ∃ g gV, KBn X.K fd ps (n + 1) [] g gV ∧ spF X.K T ps.length G (gV (.ref a :: vs) []) H Q E
theorem own_spX {mt : Nat → Option Fn} {B : Bs} {w : Wd} {σ : L2.St} {H : Hp} {fr : Fr} {h : Hh} {v : V} {d : D} {vs : List V} {as : List D} {Q : VK} (Mf : MethF X T j m mt n [] (gPos [])) (R : Rel X.K T B w σ H fr h) (rv : RelD X.K T w v d) (rs : RelDs X.K T w vs as) (hl : as.length = n)
    (p : Post X.K T B W (vE X.K T B σ) w σ (mOwnX mt d as fr h) Q) : OwnRun X T j n m v H vs Q (fun c d H' => W c d σ H') := by
  unfold mOwnX at p
  cases ef : fnOf mt h d with
  | none => rw [ef] at p; exact p.elim
  | some G =>
    rw [ef] at p
    obtain ⟨kk, f, fd, ps, a, Cl, dx, fs, rfl, eH, l, c1, c2, c3, c4, c5⟩ := meth_open Mf R rv ef
    obtain ⟨g, gV, hb, hgD⟩ := c4.ex
    refine ⟨kk, f, fd, ps, a, Cl, dx, fs, G, rfl, eH, c1, c2, c3, c5, g, gV, hb, ?_⟩
    have p4 : Post X.K T B W (vE X.K T B σ) w σ (if (d :: as).length = n + 1 ∧ ([] : List D).length = 0 then liftR fr (G (gPos [] (d :: as) []) h) else .err) Q := by
      rw [if_pos ⟨by rw [List.length_cons, hl], rfl⟩]
      show Post X.K T B W (vE X.K T B σ) w σ (liftR fr (G (d :: as ++ []) h)) Q
      rw [List.append_nil]
      exact p
    exact (call_end (n := n + 1) (m := 0) (zs := []) (es := []) (ds := d :: as) hgD R (.cons rv rs) .nil p4).2.2
theorem own_sp {mt : Nat → Option Fn} {B : Bs} {w : Wd} {σ : L2.St} {H : Hp} {fr : Fr} {h : Hh} {v : V} {d : D} {vs : List V} {as : List D} {Q : VK} (Mf : MethF X T j m mt n [] (gPos [])) (R : Rel X.K T B w σ H fr h) (rv : RelD X.K T w v d) (rs : RelDs X.K T w vs as) (hl : as.length = n)
    (p : Post X.K T B W (vE X.K T B σ) w σ (mOwn mt d as fr h) Q) : OwnRun X T j n m v H vs Q (fun _ _ _ => False) := by
  refine own_spX (W := WF) Mf R rv rs hl ?_
  unfold mOwn at p
  unfold mOwnX
  cases ef : fnOf mt h d with
  | none => rw [ef] at p; exact p.elim
  | some G =>
    rw [ef] at p
    dsimp only at p ⊢
    cases e : G (d :: as) h with
    | ok d' fr' h' => rw [e] at p; exact p
    | exc _ _ _ => rw [e] at p; exact p.elim
    | err => rw [e] at p; exact p.elim

/-! ### len(o) -/
def natM (d : D) : M D := fun fr h => match d with
  | .int i => if 0 ≤ i ∧ i < 2 ^ 60 then .ok (.int i) fr h else .err
  | _ => .err
def mLenI (mt : Nat → Option Fn) (ma : M D) : M D := ma.bind fun o => (mOwn mt o []).bind natM
theorem ve_int {K : PySem.W.Frag} {B : Bs} {σ : L2.St} {w : Wd} {H : Hp} {fr : Fr} {v : V} {i : Int} (r : vE K T B σ w H fr v (.int i)) : v = .int i := by
  rcases r with r | ⟨_, _, _, _, _, _, r⟩
  · exact rel_int r
  · cases r
theorem ve_bl {K : PySem.W.Frag} {B : Bs} {σ : L2.St} {w : Wd} {H : Hp} {fr : Fr} {v : V} {i : Bool} (r : vE K T B σ w H fr v (.bl i)) : v = .bl i := by
  rcases r with r | ⟨_, _, _, _, _, _, r⟩
  · exact rel_bl r
  · cases r
theorem sv_lenI {mt : Nat → Option Fn} (C : Cq X T W k) (hk : j + 1 ≤ k) (Mf : MethF X T j "__len__" mt 0 [] (gPos [])) (sa : SimV X T W a ma) (hm : X.mg "len" = none) (hg : Gl X "len" := by rfl) (he : starEach (a :: []) X.env = (false, eval a X.env) :: starEach [] X.env := by exact star_no rfl)
    (hpl : (backTo pos (starEach [] X.env)).any (·.1) = false := by rfl) : SimV X T W (.Call (.Name "len" pf) [a] [] pos) (mLenI mt ma) := fun B w σ H fr h Q r1 p =>
  pe_we (pe_callB (id := "len") call_max hg hm (by decide +kernel) (pa_cons pe_max pa_nil he) (by decide) (by decide) he hpl) (sa B w σ H fr h (fun x H1 => cM X (.builtin "len") [x] H1 Q) r1 (Post.bind (VR := vV X.K T B σ) p fun d fr1 h1 w1 H1 v e1 l1 r1 rv p1 => by
    have p2 : Post X.K T B W (vE X.K T B σ) w1 σ (mOwn mt d [] fr1 h1) (fun v H' => ∃ i : Int, v = .int i ∧ (0 ≤ i ∧ i < 2 ^ 60) ∧ Q (.int i) H') := Post.bind p1 fun d fr2 h2 w2 H2 v e2 l2 r2 rv2 p3 => by
      unfold natM at p3
      split at p3
      · rename_i i
        split at p3
        · rename_i hi
          exact ⟨i, ve_int rv2, hi, p3 w2 H2 _ (Wd.le_refl _) r2 (.int i)⟩
        · exact p3.elim
      · exact p3.elim
    obtain ⟨kk, f, fd, ps, a, Cl, dx, fs, G, rfl, eH, c1, c2, c3, c5, g, gV, hb, q⟩ := (own_sp Mf r1 rv .nil rfl p2).ex
    intro pins s σ' us I rus
    obtain ⟨u, rfl, ru⟩ := rus.one
    obtain rfl : u = Value.ref a := ru
    obtain ⟨mA, J, _⟩ := ins_get I.hok eH
    obtain ⟨od, J, _⟩ := J.look
    obtain ⟨m, hF⟩ := I.fr
    refine PySem.W.len_K hF I.ok.mod.kin J c2.at_ c2.fn (wpAny_mono (run_in (n := 0 + 1) (us := [.ref a]) (vs := [.ref a]) c3.ok ((C.room.mono hk).in1.mono c5) I.env0.in1 hb cx_none I (.cons rfl .nil) rfl q) (fun v s' z => ?_) fun _ _ z => z)
    obtain ⟨z', H', I', rz, i, ei, hi, qz⟩ := z
    subst ei
    obtain ⟨t, rfl⟩ := (show ∃ t, v = Value.int i t from rz)
    exact ⟨⟨hi.1, Int.lt_trans hi.2 (by decide)⟩, .int i, H', I'.tok (s'.toks + 1), ⟨_, rfl⟩, qz⟩))

/-! ### o[i] -/
def mGetI (mt : Nat → Option Fn) (ma mb : M D) : M D := ma.bind fun o => mb.bind fun i => mOwnX mt o [i]
theorem se_getI {mt : Nat → Option Fn} (C : Cq X T W k) (hk : j + 1 ≤ k) (Mf : MethF X T j "__getitem__" mt 1 [] (gPos [])) (sa : SimV X T W a ma) (sb : SimV X T W b mb)
    (hs : ∀ o i, subscripted b true o i = runValue (.builtin "lifetime.subscript" ⟨[o, i], []⟩) := by intro _ _; with_unfolding_all rfl) : SimE X T W (.Subscript a b pos) (mGetI mt ma mb) := fun B w σ H fr h Q R pp => WE.mk <| fun pins s I => by
  refine PyProof.Rows.Subscript_ (binT (R := fun x y H2 => OwnRun X T j 1 "__getitem__" x H2 [y] Q (fun c d H' => W c d σ H')) pe_max pe_max I (sa B w σ H fr h _ R (Post.bind (VR := vV X.K T B σ) pp fun d fr1 h1 w1 H1 v e1 l1 r1 rd p1 =>
      sb B w1 σ H1 fr1 h1 _ r1 (Post.bind (VR := vV X.K T B σ) p1 fun e fr2 h2 w2 H2 u e2 l2 r2 re p2 => own_spX Mf r2 (rd.mono l2) (.cons re .nil) rfl p2))) fun v u s2 x y H2 I2 rx ry q => ?_)
  obtain ⟨kk, f, fd, ps, a', Cl, dx, fs, G, rfl, eH, c1, c2, c3, c5, g, gV, hb, q⟩ := q.ex
  obtain rfl : v = Value.ref a' := rx
  obtain ⟨mA, J, _⟩ := ins_get I2.hok eH
  obtain ⟨od, J, _⟩ := J.look
  obtain ⟨m, hF⟩ := I2.fr
  have cx : ∀ e s', L2.CX X.prog X.w X.stack H2 s2 (fun c d H' => W c d σ H') e s' → X.xe e s' := fun e s' z => passAt C.takes σ pins H2 s2 e s' I2 z
  refine PySem.W.sub_K hF I2.ok.mod.kin J c2.at_ (fnIn_of c2.fn c2.kp) c2.fn ?_ (hs _ _)
  exact run_in (n := 1 + 1) (us := [.ref a', u]) (vs := [.ref a', y]) c3.ok ((C.room.mono hk).in1.mono c5) I2.env0.in1 hb cx I2 (.cons rfl (.cons ry .nil)) rfl q

/-! ### comparisons that run own methods -/
/-- f's run tells the comparison -/
def CmpM (X : Cx) (T : Tb) (W : WX) (VR2 : VRel V D) (op : CmpOp) (g : D → D → M Bool) : Prop :=
  ∀ B w σ H fr h x y d e Q, Rel X.K T B w σ H fr h → RelD X.K T w x d → VR2 X.K T B σ w H fr y e → Post X.K T B W (vB X.K T B σ) w σ (g d e fr h) Q → rM X (compareOp op) x y H (fun z H' => ∃ c, z = .bl c ∧ Q c H')
def mOpM {α : Type} (g : D → D → M α) (ma mb : M D) : M α := ma.bind fun x => mb.bind fun y => g x y
theorem st_cmpM {op : CmpOp} {VR2 : VRel V D} {g : D → D → M Bool} (o : CmpM X T W VR2 op g) (sa : SimV X T W a ma) (sb : Sim (WE X b) X.K T W VR2 mb) (hm : behindInMarks op b = false := by with_unfolding_all rfl) :
    SimT X T W (.Compare a [op] [b] pos) (mOpM g ma mb) := fun B w σ H fr h Q r1 p =>
  pt_wt (pt_cmpR op_max pe_max pe_max hm) (sa B w σ H fr h (fun x H1 => WE X b σ H1 fun y H2 => rM X (compareOp op) x y H2 fun z H' => ∃ k, z = .bl k ∧ Q k H') r1 (Post.bind (VR := vV X.K T B σ) p fun d fr1 h1 w1 H1 x e1 l1 r1 rx p1 =>
    sb B w1 σ H1 fr1 h1 _ r1 (Post.bind (VR := VR2 X.K T B σ) p1 fun e fr2 h2 w2 H2 y e2 l2 r2 ry p2 => o B w2 σ H2 fr2 h2 x y d e Q r2 (rx.mono l2) ry p2)))
theorem sv_cmpM {op : CmpOp} {VR2 : VRel V D} {g : D → D → M Bool} (o : CmpM X T W VR2 op g) (sa : SimV X T W a ma) (sb : Sim (WE X b) X.K T W VR2 mb) (hm : behindInMarks op b = false := by with_unfolding_all rfl) :
    SimV X T W (.Compare a [op] [b] pos) (mBl (mOpM g ma mb)) := fun B w σ H fr h Q r1 p => by
  have p0 : Post X.K T B W (vB X.K T B σ) w σ (mOpM g ma mb fr h) (fun b H => Q (.bl b) H) := Post.bind p fun d fr1 h1 w1 H1 v e x r1 z p1 => by
    have z' : v = d := z
    subst z'
    exact p1 w1 H1 _ (Wd.le_refl _) r1 (.bl _)
  refine pe_we (pe_cmpR op_max pe_max pe_max hm) (sa B w σ H fr h (fun x H1 => WE X b σ H1 fun y H2 => rM X (compareOp op) x y H2 Q) r1 (Post.bind (VR := vV X.K T B σ) p0 fun d fr1 h1 w1 H1 x e1 l1 r1 rx p1 =>
    sb B w1 σ H1 fr1 h1 _ r1 (Post.bind (VR := VR2 X.K T B σ) p1 fun e fr2 h2 w2 H2 y e2 l2 r2 ry p2 => ?_)))
  intro pins s σ' v u I rx' ry'
  refine thn (o B w2 σ H2 fr2 h2 x y d e _ r2 (rx.mono l2) ry p2 pins s σ' v u I rx' ry') fun v s' z => ?_
  obtain ⟨z', H', I', rz, c, ec, q⟩ := z
  subst ec
  exact ⟨_, H', I', rz, q⟩
/-- a truth value -/
def tbM (d : D) : M Bool := M.opt d.tb
theorem post_tb {B : Bs} {w : Wd} {σ : L2.St} {m : M D} {fr : Fr} {h : Hh} {Q : Bool → Hp → Prop} {c : Bool → Bool} (p : Post X.K T B W (vB X.K T B σ) w σ ((m.bind fun d => (tbM d).bind fun b => M.ret (c b)) fr h) Q) : Post X.K T B W (vE X.K T B σ) w σ (m fr h) (fun v H' => ∃ b, v = .bl b ∧ Q (c b) H') :=
  Post.bind p fun d fr2 h2 w2 H2 v e2 l2 r2 rv2 p3 => by
    unfold tbM M.bind at p3
    cases d with
    | bl b => exact ⟨b, ve_bl rv2, p3 w2 H2 _ (Wd.le_refl _) r2 rfl⟩
    | _ => exact p3.elim
/-! ### x in o -/
def gIn (mt : Nat → Option Fn) (c : Bool → Bool) (x o : D) : M Bool := (mOwn mt o [x]).bind fun d => (tbM d).bind fun b => M.ret (c b)
theorem cmp_inI {mt : Nat → Option Fn} (C : Cq X T W k) (hk : j ≤ k) (Mf : MethF X T j "__contains__" mt 1 [] (gPos [])) : CmpM X T W vV .In (gIn mt fun b => b) := fun B w σ H fr h x y d e Q R rx ry p => by
  obtain ⟨kk, f, fd, ps, a', Cl, dx, fs, G, rfl, eH, c1, c2, c3, c5, g, gV, hb, q⟩ := (own_sp Mf R ry (.cons rx .nil) rfl (post_tb p)).ex
  intro pins s σ' v u I rv ru
  obtain rfl : u = Value.ref a' := ru
  obtain ⟨mA, J, _⟩ := ins_get I.hok eH
  obtain ⟨od, J, _⟩ := J.look
  obtain ⟨m, hF⟩ := I.fr
  refine PySem.W.in_K hF I.ok.mod.kin J c2.at_ c2.fn (wpAny_mono (run_in (n := 1 + 1) (us := [.ref a', v]) (vs := [.ref a', x]) c3.ok ((C.room.mono hk).mono c5) I.env0 hb cx_none I (.cons rfl (.cons rv .nil)) rfl q) (fun r s' z => ?_) fun _ _ z => z)
  obtain ⟨z', H', I', rz, b, eb, qz⟩ := z
  subst eb
  obtain rfl : r = Value.bool b := rz
  exact wpAny_truthy_bool ⟨.bl b, H', I', rfl, b, rfl, qz⟩
theorem cmp_ninI {mt : Nat → Option Fn} (C : Cq X T W k) (hk : j ≤ k) (Mf : MethF X T j "__contains__" mt 1 [] (gPos [])) : CmpM X T W vV .NotIn (gIn mt fun b => !b) := fun B w σ H fr h x y d e Q R rx ry p => by
  obtain ⟨kk, f, fd, ps, a', Cl, dx, fs, G, rfl, eH, c1, c2, c3, c5, g, gV, hb, q⟩ := (own_sp Mf R ry (.cons rx .nil) rfl (post_tb p)).ex
  intro pins s σ' v u I rv ru
  obtain rfl : u = Value.ref a' := ru
  obtain ⟨mA, J, _⟩ := ins_get I.hok eH
  obtain ⟨od, J, _⟩ := J.look
  obtain ⟨m, hF⟩ := I.fr
  refine PySem.W.notIn_K hF I.ok.mod.kin J c2.at_ c2.fn (wpAny_mono (run_in (n := 1 + 1) (us := [.ref a', v]) (vs := [.ref a', x]) c3.ok ((C.room.mono hk).mono c5) I.env0 hb cx_none I (.cons rfl (.cons rv .nil)) rfl q) (fun r s' z => ?_) fun _ _ z => z)
  obtain ⟨z', H', I', rz, b, eb, qz⟩ := z
  subst eb
  obtain rfl : r = Value.bool b := rz
  exact wpAny_truthy_bool ⟨.bl (!b), H', I', rfl, !b, rfl, qz⟩
end
end Pk

/-! Pk25: == and != by an own __eq__, the instance on the left. -/
namespace PySem
namespace OwE
open PySem.W PySem.Calls PyProof.Rows
section
variable {prog : Program} {w : World} {M : Model} {A : Around} {E : Value → Shared → Prop} {s : Shared} {K : Frag} {x C f : Addr} {ox : Obj} {od : Option Obj} {b tb : Value}
theorem if_ne {args : List Value} {Q : Option Value → Shared → Prop} (X : K.In s.heap) (I : InstAt s.heap x ox C od) (hs : findIn K (.ref C) "__ne__" = some (some (.builtin "object.__ne__")))
    (h : wpAny M A (call (.builtin "object.__ne__") (.ref x :: args)) (fun v => Q (some v)) E s) : wpAny M A (callSpecialIfBound? (.ref x) "__ne__" args) Q E s := by
  have fin : wpAny M A (call (.builtin "object.__ne__") ([.ref x] ++ args) >>= fun v => pure (some v)) Q E s := wpAny_bind (wpAny_mono h (fun _ _ z => wpAny_pure z) fun _ _ z => z)
  simp only [callSpecialIfBound?, bindSpecialIfBound?]
  refine wpAny_holding (wpAny_bind (wpAny_bind (wpAny_bind (I.type.here ((looks_findIn X hs).here (wpAny_bind (wpAny_askSetting (wpAny_ite ?_))))))))
  split
  · exact wpAny_bind (wpAny_of_eq (F.cmp_object.ne.bind _) (wpAny_pure (by exact fin)))
  · exact wpAny_tryCatch (wpAny_bind (wpAny_of_eq (F.cmp_object.ne.bind _) (wpAny_pure (by exact fin))))
theorem obj_ne (hu : A.units < cLine) (X : K.In s.heap) (I : InstAt s.heap x ox C od) (hs : findIn K (.ref C) "__eq__" = some (some (.ref f))) (hf : isFn K (.ref f) = true) {Q : Fin → Shared → Prop}
    (h : wpAny M A (call (.ref f) [.ref x, b]) (fun v s' => ∃ c, v = .bool c ∧ Q (.done (.ret (.bool (!c)))) s') E s) : wpAny M A (Builtin.«object.__ne__» ⟨[.ref x, b], []⟩) Q E s := by
  unfold Builtin.«object.__ne__»
  repeat (first
    | with_reducible refine wpAny_cRoomFor hu ?_
    | (refine wpAny_bind (m := callSpecialIfBound? (.ref x) (Str.ofString "__eq__") [b]) (ifBound_K X I hs hf (wpAny_mono h (fun r s' hr => by
          obtain ⟨c, rfl, hq⟩ := hr
          repeat (first | exact hq | exact wpAny_pure hq | exact wpAny_truthy_bool hq | (refine wpAny_bind (m := truthy (.bool _)) (wpAny_truthy_bool ?_)) | wp_step)) fun _ _ e => e)))
    | wp_step)
theorem call_ne {Q : Value → Shared → Prop} (hu : A.units + 1 < cLine) (X : K.In s.heap) (I : InstAt s.heap x ox C od) (hm : mroIn K C (.type "object") = some true) (hs : findIn K (.ref C) "__eq__" = some (some (.ref f))) (hf : isFn K (.ref f) = true)
    (h : wpAny (model prog w) A.in1 (call (.ref f) [.ref x, b]) (fun v s' => ∃ c, v = .bool c ∧ Q (.bool (!c)) s') E s) : wpAny (model prog w) A (call (.builtin "object.__ne__") [.ref x, b]) Q E s :=
  wpAny_call (codeAny_call_builtin F.cmp_object.ne.plain F.cmpEntry_ne (check_slot F.cmpKind_ne F.cmpSplit_ne (I.type.andThen (looks_mroIn X hm)) (F.cmpArgs_ne _ _) (obj_ne (A := A.in1) hu X I hs hf (wpAny_mono h (fun v s' z => z) fun _ _ z => z))))
theorem try_ne {Q : Option Value → Shared → Prop} (hu : A.units + 1 < cLine) (X : K.In s.heap) (I : InstAt s.heap x ox C od) (hne : findIn K (.ref C) "__ne__" = some (some (.builtin "object.__ne__"))) (hm : mroIn K C (.type "object") = some true) (hs : findIn K (.ref C) "__eq__" = some (some (.ref f))) (hf : isFn K (.ref f) = true)
    (h : wpAny (model prog w) A.in1 (call (.ref f) [.ref x, b]) (fun v s' => ∃ c, v = .bool c ∧ Q (some (.bool (!c))) s') E s) : wpAny (model prog w) A (tryCompare (.ref x) "__ne__" b) Q E s := by
  unfold tryCompare
  refine wpAny_bind (if_ne X I hne (call_ne hu X I hm hs hf (wpAny_mono h (fun v s' z => ?_) fun _ _ z => z)))
  obtain ⟨c, rfl, q⟩ := z
  exact ⟨c, rfl, wpAny_pure q⟩
theorem ne_left {Q : Value → Shared → Prop} (hu : A.units + 1 < cLine) (X : K.In s.heap) (I : InstAt s.heap x ox C od) (hb : Looks (model prog w) s.heap (typeOf b) tb) (hn : notFirst K C tb = true) (hne : findIn K (.ref C) "__ne__" = some (some (.builtin "object.__ne__"))) (hm : mroIn K C (.type "object") = some true)
    (hs : findIn K (.ref C) "__eq__" = some (some (.ref f))) (hf : isFn K (.ref f) = true) (h : wpAny (model prog w) A.in1 (call (.ref f) [.ref x, b]) (fun v s' => ∃ c, v = .bool c ∧ Q (.bool (!c)) s') E s) : wpAny (model prog w) A (richCompare .NotEq (.ref x) b) Q E s := by
  have one : wpAny (model prog w) A (tryCompare (.ref x) "__ne__" b) (fun r s' => ∃ v, r = some v ∧ Q v s') E s := try_ne hu X I hne hm hs hf (wpAny_mono h (fun v s' ⟨c, e, q⟩ => ⟨c, e, _, rfl, q⟩) fun _ _ e => e)
  unfold richCompare
  simp only [oneThing_ref]
  refine wpAny_holding (wpAny_bind (wpAny_cRoomFor (Nat.lt_of_succ_lt hu) ?_))
  refine wpAny_bind (I.type.here (wpAny_bind (hb.here ?_)))
  split
  · rename_i q
    have e : subIn K tb (.ref C) = some false := by
      rcases Bool.or_eq_true_iff.mp hn with e | e
      · rw [beq_iff_eq.mp e] at q
        simp at q
      · exact beq_iff_eq.mp e
    refine wpAny_bind ((looks_subIn X e).here ?_)
    simp only [Bool.false_eq_true, if_false]
    refine wpAny_bind (m := tryCompare (.ref x) _ b) (wpAny_mono one (fun r s' z => ?_) fun _ _ e => e)
    obtain ⟨v, rfl, hq⟩ := z
    exact wpAny_pure hq
  · refine wpAny_bind (wpAny_pure ?_)
    simp only [Bool.false_eq_true, if_false]
    refine wpAny_bind (m := tryCompare (.ref x) _ b) (wpAny_mono one (fun r s' z => ?_) fun _ _ e => e)
    obtain ⟨v, rfl, hq⟩ := z
    exact wpAny_pure hq
end
end OwE
end PySem
namespace Pk
open PySem PySem.Spec L2
def eqX (K : PySem.W.Frag) (C : Addr) : Bool := He.eqO (PySem.W.findIn K (.ref C) "__ne__") (some (some (.builtin "object.__ne__"))) && (decide (PySem.W.mroIn K C (.type "object") = some true) && (bTys.all (fun t => PySem.W.notFirst K C (.type t)) && bTys.all fun t => decide (PySem.W.subIn K (.ref C) (.type t) = some false)))
structure EqX (K : PySem.W.Frag) (C : Addr) : Prop where
  ne : PySem.W.findIn K (.ref C) "__ne__" = some (some (.builtin "object.__ne__"))
  ob : PySem.W.mroIn K C (.type "object") = some true
  nf : ∀ t ∈ bTys, PySem.W.notFirst K C (.type t) = true
  nb : ∀ t ∈ bTys, PySem.W.subIn K (.ref C) (.type t) = some false
theorem eqX_ok {K : PySem.W.Frag} {C : Addr} (h : eqX K C = true) : EqX K C := by
  obtain ⟨c1, h⟩ := He.ba h
  obtain ⟨c2, h⟩ := He.ba h
  obtain ⟨c3, c4⟩ := He.ba h
  exact ⟨He.eqO_ok c1, of_decide_eq_true c2, fun t ht => List.all_eq_true.mp c3 t ht, fun t ht => of_decide_eq_true (List.all_eq_true.mp c4 t ht)⟩
structure EqF (K : PySem.W.Frag) (T : Tb) (mt : Nat → Option Fn) : Prop where
  ex : ∀ c F, mt c = some F → EqX K (T.cad c)
/-- own == other: the other is of a built-in type, or of the same class -/
def gEq (mt : Nat → Option Fn) (c : Bool → Bool) (x y : D) : M Bool := fun fr h => if (y.bty h).isSome || (sameC h x y).isSome then ((mOwn mt x [y]).bind fun d => (tbM d).bind fun b => M.ret (c b)) fr h else .err
section
variable {X : Cx} {T : Tb} {W : WX} {k j : Nat}
theorem fnOf_ins {mt : Nat → Option Fn} {h : Hh} {d : D} {G : Fn} (e : fnOf mt h d = some G) : ∃ c fs, d.ins h = some (c, fs) ∧ mt c = some G := by
  unfold fnOf at e
  split at e
  · rename_i c fs ei
    exact ⟨c, fs, ei, e⟩
  · cases e
/-- what both comparisons want of the other operand -/
theorem eq_other {mt : Nat → Option Fn} {B : Bs} {w : Wd} {σ σ' : L2.St} {H : Hp} {fr : Fr} {h : Hh} {x y : V} {d e : D} {u : Value} {pins : List (Addr × Obj)} {s : Shared} {a' Cl dx : Addr} {fs : List (Str × V)} (Ef : EqF X.K T mt) (R : Rel X.K T B w σ H fr h) (rx : RelD X.K T w x d) (ry : RelD X.K T w y e)
    (hc : ((e.bty h).isSome || (sameC h d e).isSome) = true) (hG : fnOf mt h d ≠ none) (I : Inv X pins σ' H s) (ru : RelV y u) (ex : x = .ref a') (eH : H a' = some (.ins Cl dx fs)) : EqX X.K Cl ∧ ∃ tb, PySem.W.Looks (model X.prog X.w) s.heap (typeOf u) tb ∧ PySem.W.notFirst X.K Cl tb = true := by
  obtain ⟨c, gs, ei, em⟩ : ∃ c gs, d.ins h = some (c, gs) ∧ ∃ G, mt c = some G := by
    cases q : fnOf mt h d with
    | none => exact absurd q hG
    | some G =>
      obtain ⟨c, gs, e1, e2⟩ := fnOf_ins q
      exact ⟨c, gs, e1, G, e2⟩
  obtain ⟨G, em⟩ := em
  obtain ⟨p1, dx1, vs1, e1, eH1, _⟩ := ins_rel R (.inl rx) ei
  have ep : p1 = a' := V.ref.inj (e1.symm.trans ex)
  subst ep
  have eo := Option.some.inj (eH1.symm.trans eH)
  injection eo with eC _ _
  subst eC
  have Eq := Ef.ex c G em
  refine ⟨Eq, ?_⟩
  rcases Bool.or_eq_true_iff.mp hc with z | z
  · obtain ⟨t, et⟩ := Option.isSome_iff_exists.mp z
    obtain ⟨ty, ht⟩ := bty_rel R ry et
    obtain ⟨P, Z, p, _⟩ := kit_of I ru ty
    exact ⟨.type t, Z.ty (model X.prog X.w) s.heap I.kIn p, Eq.nf t ht⟩
  · obtain ⟨c', ec⟩ := Option.isSome_iff_exists.mp z
    obtain ⟨⟨fs1, i1⟩, gs2, i2⟩ := sameC_of ec
    have : c' = c := by
      rw [ei] at i1
      cases i1
      rfl
    subst this
    obtain ⟨p2, dy, vs2, rfl, eH2, _⟩ := ins_rel R (.inl ry) i2
    obtain rfl : u = Value.ref p2 := ru
    obtain ⟨mB, J', _⟩ := ins_get I.hok eH2
    obtain ⟨od', J', _⟩ := J'.look
    exact ⟨_, J'.type, by unfold PySem.W.notFirst; simp⟩
theorem geq_open {mt : Nat → Option Fn} {c : Bool → Bool} {B : Bs} {w : Wd} {σ : L2.St} {fr : Fr} {h : Hh} {d e : D} {Q : Bool → Hp → Prop} (p : Post X.K T B W (vB X.K T B σ) w σ (gEq mt c d e fr h) Q) :
    ((e.bty h).isSome || (sameC h d e).isSome) = true ∧ fnOf mt h d ≠ none ∧ Post X.K T B W (vE X.K T B σ) w σ (mOwn mt d [e] fr h) (fun v H' => ∃ b, v = .bl b ∧ Q (c b) H') := by
  unfold gEq at p
  cases hc : ((e.bty h).isSome || (sameC h d e).isSome) with
  | false => rw [hc] at p; exact p.elim
  | true =>
    rw [hc, if_pos rfl] at p
    have p' := post_tb p
    refine ⟨rfl, fun z => ?_, p'⟩
    have q : mOwn mt d [e] fr h = .err := by unfold mOwn; rw [z]
    rw [q] at p'
    exact p'
theorem cmp_eqI {mt : Nat → Option Fn} (C : Cq X T W k) (hk : j + 1 ≤ k) (Mf : MethF X T j "__eq__" mt 1 [] (gPos [])) (Ef : EqF X.K T mt) : CmpM X T W vV .Eq (gEq mt fun b => b) := fun B w σ H fr h x y d e Q R rx ry p => by
  obtain ⟨hc, hG, p'⟩ := geq_open p
  obtain ⟨kk, f, fd, ps, a', Cl, dx, fs, G, ex, eH, c1, c2, c3, c5, g, gV, hb, q⟩ := (own_sp Mf R rx (.cons ry .nil) rfl p').ex
  intro pins s σ' v u I rv ru
  obtain ⟨Eq, tb, lk, nf⟩ := eq_other Ef R rx ry hc hG I ru ex eH
  subst ex
  obtain rfl : v = Value.ref a' := rv
  obtain ⟨mA, J, _⟩ := ins_get I.hok eH
  obtain ⟨od, J, _⟩ := J.look
  obtain ⟨m, hF⟩ := I.fr
  show wpAny _ _ (richCompare .Eq _ _) _ _ _
  have hu : X.A.units < cLine := by
    have := C.u
    omega
  refine PySem.W.cmp_K (op := .Eq) hu hF I.ok.mod.kin J lk nf c2.at_ c2.fn (wpAny_mono (run_in (n := 1 + 1) (us := [.ref a', u]) (vs := [.ref a', y]) c3.ok (C.room.mono (Nat.le_trans c5 (Nat.le_of_succ_le hk))) I.env0 hb cx_none I (.cons rfl (.cons ru .nil)) rfl q) (fun r s' z => ?_) fun _ _ z => z)
  obtain ⟨z', H', I', rz, b, eb, qz⟩ := z
  subst eb
  exact cmpback_of ⟨.bl b, H', I', rz, b, rfl, qz⟩
theorem cmp_neI {mt : Nat → Option Fn} (C : Cq X T W k) (hk : j + 1 ≤ k) (Mf : MethF X T j "__eq__" mt 1 [] (gPos [])) (Ef : EqF X.K T mt) : CmpM X T W vV .NotEq (gEq mt fun b => !b) := fun B w σ H fr h x y d e Q R rx ry p => by
  obtain ⟨hc, hG, p'⟩ := geq_open p
  obtain ⟨kk, f, fd, ps, a', Cl, dx, fs, G, ex, eH, c1, c2, c3, c5, g, gV, hb, q⟩ := (own_sp Mf R rx (.cons ry .nil) rfl p').ex
  intro pins s σ' v u I rv ru
  obtain ⟨Eq, tb, lk, nf⟩ := eq_other Ef R rx ry hc hG I ru ex eH
  subst ex
  obtain rfl : v = Value.ref a' := rv
  obtain ⟨mA, J, _⟩ := ins_get I.hok eH
  obtain ⟨od, J, _⟩ := J.look
  show wpAny _ _ (richCompare .NotEq _ _) _ _ _
  have hu : X.A.units + 1 < cLine := by
    have := C.u
    omega
  refine PySem.OwE.ne_left hu I.kIn J lk nf Eq.ne Eq.ob c2.at_ c2.fn (wpAny_mono (run_in (n := 1 + 1) (us := [.ref a', u]) (vs := [.ref a', y]) c3.ok ((C.room.mono hk).in1.mono c5) I.env0.in1 hb cx_none I (.cons rfl (.cons ru .nil)) rfl q) (fun r s' z => ?_) fun _ _ z => z)
  obtain ⟨z', H', I', rz, b, eb, qz⟩ := z
  subst eb
  obtain rfl : r = Value.bool b := rz
  exact ⟨b, rfl, .bl (!b), H', I', rfl, !b, rfl, qz⟩
end
end Pk

/-! Pk26: constants of a class, read from the class. -/
namespace Pk
open PySem PySem.Spec L2
def creadX (K : PySem.W.Frag) (C : Addr) : Bool := PySem.W.readsIn K C (.type "type") && He.eqO (PySem.W.specialIn K (.ref C) "__getattribute__") (some (some (.builtin "type.__getattribute__")))
theorem creadX_ok {K : PySem.W.Frag} {C : Addr} (h : creadX K C = true) : ClX.CRead K C (.type "type") := by
  obtain ⟨c1, c2⟩ := He.ba h
  exact ⟨c1, He.eqO_ok c2⟩
/-- where the class's constant is -/
def ccA (K : PySem.W.Frag) (C : Addr) (f : Str) : Addr := match PySem.W.findCls K (.ref C) (.type "type") f with
  | some (.val (.ref a)) => a
  | _ => 0
def cconX (K : PySem.W.Frag) (C : Addr) (f : Str) (vs : List He.Dv) : Bool := creadX K C && ((match PySem.W.findCls K (.ref C) (.type "type") f with
  | some (.val (.ref a)) => decide (a = ccA K C f)
  | _ => false) && tupA K (ccA K C f) vs)
structure CconF (X : Cx) (T : Tb) (c : Nat) (f : Str) (d : D) : Prop where
  ex : ∃ (u : Value) (v : V), ClX.CRead X.K (T.cad c) (.type "type") ∧ ClX.CVal X.K (T.cad c) (.type "type") f v u ∧ RelD X.K T ⟨fun _ => none, []⟩ v d
theorem ccon_of {X : Cx} {T : Tb} {c : Nat} {f : Str} {vs : List He.Dv} {ds : List D} (h : cconX X.K (T.cad c) f vs = true) (r : RelDs X.K T ⟨fun _ => none, []⟩ (vs.map (He.Dv.v X.K)) ds) : CconF X T c f (.tup ds) := by
  obtain ⟨c1, h⟩ := He.ba h
  obtain ⟨c2, c3⟩ := He.ba h
  refine ⟨.ref (ccA X.K (T.cad c) f), .ref (ccA X.K (T.cad c) f), creadX_ok c1, ⟨?_, rfl⟩, .tup (tupA_ok c3 _) r⟩
  split at c2
  · rename_i a e
    rw [e, of_decide_eq_true c2]
  · cases c2
section
variable {X : Cx} {T : Tb} {W : WX} {k c : Nat} {x f : Str} {p pos : Pos} {d : D}
theorem sv_ccon (F : CconF X T c f d) (hm : X.mg x = some (.ref (T.cad c))) (hg : Gl X x := by rfl) (hd : (x == ("__debug__" : Str)) = false := by decide) (hb : attributeBase (.Name x p) f X.env (eval (.Name x p) X.env) = eval (.Name x p) X.env := by rfl) : SimV X T W (.Attribute (.Name x p) f pos) (mC d) := fun B w σ H fr h Q r q => by
  obtain ⟨u, v, c1, c2, rd⟩ := F.ex
  exact pe_we (ClX.pe_cval (pe_glob (v := .ref (T.cad c)) hg hm rfl hd) hb) ⟨_, _, v, u, rfl, c1, c2, q w H _ (Wd.le_refl _) r (rd.mono (Wd.le_bot w))⟩
end
end Pk

/-! Pk27: bool(o) by an own __len__, x.pop(i), classmethods. -/
namespace PySem
namespace OwB
open PySem.W PySem.Calls PyProof.Rows
section
variable {prog : Program} {w : World} {A : Around} {E : Value → Shared → Prop} {s : Shared} {K : Frag} {x C f : Addr} {ox : Obj} {od : Option Obj}
def NatBack (Q : Bool → Shared → Prop) (v : Value) (s' : Shared) : Prop := match v with
  | .int n _ => (0 ≤ n ∧ n < 2 ^ 63) ∧ Q (n != 0) { s' with toks := s'.toks + 1 }
  | _ => False
theorem truthy_len {Q : Bool → Shared → Prop} (X : K.In s.heap) (I : InstAt s.heap x ox C od) (hb : findIn K (.ref C) "__bool__" = some none) (hl : findIn K (.ref C) "__len__" = some (some (.ref f))) (hf : isFn K (.ref f) = true)
    (h : wpAny (model prog w) A.in1 (call (.ref f) [.ref x]) (NatBack Q) E s) : wpAny (model prog w) A (truthy (.ref x)) Q E s := by
  have key : wpAny (model prog w) A (runValue (.builtin "len" ⟨[.ref x], []⟩)) (fun r s' => ∃ n u, r = .int n u ∧ Q (n != 0) s') E s := by
    refine wpAny_runValue (codeAny_builtin entry_len ?_)
    rw [Around.under_plainId plain_len _]
    unfold Builtin.«len»
    refine wpAny_bind (m := oneArg "len" _) (wpAny_pure ?_)
    refine wpAny_bind (m := callSpecial? (.ref x) (Str.ofString "__len__")) (special_fn X I hl (beq_iff_eq.mp hf) (wpAny_mono h (fun r s' hr => ?_) fun _ _ y => y))
    cases r <;> first | exact hr.elim | skip
    rename_i n u
    obtain ⟨⟨h0, h1⟩, hq⟩ := hr
    refine wpAny_bind (wpAny_holding (wpAny_pure ?_))
    refine wpAny_bind (wpAny_letGo ?_)
    show wpAny _ _ (if n < 0 then _ else _) _ _ _
    rw [if_neg (by omega)]
    show wpAny _ _ (if n ≥ 2 ^ 63 then _ else _) _ _ _
    rw [if_neg (by omega)]
    exact wpAny_bind (wpAny_mkInt (wpAny_pure ⟨_, _, rfl, hq⟩))
  unfold truthy
  refine wpAny_bind (m := callSpecial? (.ref x) (Str.ofString "__bool__")) (wpAny_bind (wpAny_bind (I.type.here ((looks_findIn X hb).here (wpAny_pure ?_)))))
  refine wpAny_bind (wpAny_bind (I.type.here ((looks_findIn X hl).here ?_)))
  refine wpAny_bind (wpAny_mono key (fun r s' z => ?_) fun _ _ y => y)
  obtain ⟨n, u, rfl, q⟩ := z
  exact wpAny_pure q
theorem bool_own {Q : Value → Shared → Prop} (X : K.In s.heap) (I : InstAt s.heap x ox C od) (hb : findIn K (.ref C) "__bool__" = some none) (hl : findIn K (.ref C) "__len__" = some (some (.ref f))) (hf : isFn K (.ref f) = true)
    (h : wpAny (model prog w) A.in1.in1.in1 (call (.ref f) [.ref x]) (NatBack fun c s' => Q (.bool c) s') E s) : wpAny (model prog w) A (call (.type "bool") [.ref x]) Q E s := by
  refine callType_codes (T := "bool") (Bi := Builtin.«object.__init__») (Q₁ := fun r s₁ => ∃ c, r = Value.bool c ∧ Q r s₁) PySem.F.called_bool (PySem.F.typeCall_bool_1 _) PySem.F.entry_object_init ?_ ?_
  · refine codeAny_of_tree ?_
    show wpAny _ A.in1.in1 (do checkBuiltinCall "bool.__new__" ⟨[.type "bool", .ref x], []⟩; again (.builtin "bool.__new__" ⟨[.type "bool", .ref x], []⟩)) _ _ s
    refine wpAny_bind (wpAny_of_eq (PySem.F.newCall_bool_1 _) (wpAny_pure ⟨plainId_quiet (by decide +kernel) _, codeAny_builtin PySem.F.entry_bool_new ?_⟩))
    rw [Around.under_plainId (by decide +kernel) _]
    have f1 := F.conv_sub_bool
    unfold Builtin.«bool.__new__»
    repeat (first | (with_reducible refine truthy_len X I hb hl hf (wpAny_mono h (fun v s' z => ?_) fun _ _ y => y)) | wp_step)
    cases v <;> first | exact z.elim | skip
    obtain ⟨z1, z2⟩ := z
    refine ⟨z1, ?_⟩
    first
      | exact wpAny_pure ⟨_, rfl, z2⟩
      | exact wpAny_pure (wpAny_pure ⟨_, rfl, z2⟩)
  · rintro obj s₁ ⟨c, rfl, hq⟩
    exact ⟨typeIs_bool' _ _, PySem.F.args_object_init_2 _ _, object_init_meets PySem.F.called_bool.init.lookup PySem.F.called_bool.made (by decide) prog w A.in1 _ s₁ ⟨typeIs_bool' _ _, rfl, hq⟩⟩
end
end OwB
end PySem
namespace Pk
open PySem PySem.Spec L2
section
variable {X : Cx} {T : Tb} {W : WX} {k kk j n c : Nat} {pos pf px apos cpos p : Pos} {a b e : Expr} {es : List Expr} {ma mb m : M D} {m1 : M (List D)} {x f : Str}
/-! ### bool(o) -/
structure NoB (K : PySem.W.Frag) (T : Tb) (mt : Nat → Option Fn) : Prop where
  ex : ∀ c F, mt c = some F → PySem.W.findIn K (.ref (T.cad c)) "__bool__" = some none
def nobX (K : PySem.W.Frag) (C : Addr) : Bool := He.eqO (PySem.W.findIn K (.ref C) "__bool__") (some none)
theorem nobX_ok {K : PySem.W.Frag} {C : Addr} (h : nobX K C = true) : PySem.W.findIn K (.ref C) "__bool__" = some none := He.eqO_ok h
def mBoolI (mt : Nat → Option Fn) (ma : M D) : M D := ma.bind fun o => (mOwn mt o []).bind fun d => (natM d).bind fun d => M.opt (match d with
  | .int i => some (.bl (i != 0))
  | _ => none)
theorem sv_boolI {mt : Nat → Option Fn} (C : Cq X T W k) (hk : j + 3 ≤ k) (Mf : MethF X T j "__len__" mt 0 [] (gPos [])) (Nf : NoB X.K T mt) (sa : SimV X T W a ma) (hm : X.mg "bool" = none) (hg : Gl X "bool" := by rfl) (he : starEach (a :: []) X.env = (false, eval a X.env) :: starEach [] X.env := by exact star_no rfl)
    (hpl : (backTo pos (starEach [] X.env)).any (·.1) = false := by rfl) : SimV X T W (.Call (.Name "bool" pf) [a] [] pos) (mBoolI mt ma) := fun B w σ H fr h Q r1 p =>
  pe_we (pe_callTy (T := "bool") call_max hg hm (by decide +kernel) (pa_cons pe_max pa_nil he) (by decide) (by decide) he hpl) (sa B w σ H fr h (fun x H1 => cM X (.type "bool") [x] H1 Q) r1 (Post.bind (VR := vV X.K T B σ) p fun d fr1 h1 w1 H1 v e1 l1 r1 rv p1 => by
    have hG : ∃ c fs, d.ins h1 = some (c, fs) ∧ ∃ G, mt c = some G := by
      cases q : fnOf mt h1 d with
      | none =>
        have z : mOwn mt d [] fr1 h1 = .err := by unfold mOwn; rw [q]
        have p1' : Post X.K T B W (vV X.K T B σ) w1 σ ((mOwn mt d []).bind _ fr1 h1) Q := p1
        rw [M.bind_err z] at p1'
        exact p1'.elim
      | some G =>
        obtain ⟨c, fs, e1, e2⟩ := fnOf_ins q
        exact ⟨c, fs, e1, G, e2⟩
    obtain ⟨c, gs, ei, G0, em⟩ := hG
    have p2 : Post X.K T B W (vE X.K T B σ) w1 σ (mOwn mt d [] fr1 h1) (fun v H' => ∃ i : Int, v = .int i ∧ (0 ≤ i ∧ i < 2 ^ 60) ∧ Q (.bl (i != 0)) H') := Post.bind p1 fun d fr2 h2 w2 H2 v e2 l2 r2 rv2 p3 => by
      have p3' : Post X.K T B W (vV X.K T B σ) w2 σ ((natM d).bind (fun d => M.opt (match d with | .int i => some (.bl (i != 0)) | _ => none)) fr2 h2) Q := p3
      cases d with
      | int i =>
        by_cases hi : 0 ≤ i ∧ i < 2 ^ 60
        · have z : natM (.int i) fr2 h2 = .ok (.int i) fr2 h2 := by unfold natM; dsimp only; rw [if_pos hi]
          rw [M.bind_ok z] at p3'
          exact ⟨i, ve_int rv2, hi, p3' w2 H2 _ (Wd.le_refl _) r2 (.bl _)⟩
        · have z : natM (.int i) fr2 h2 = .err := by unfold natM; dsimp only; rw [if_neg hi]
          rw [M.bind_err z] at p3'
          exact p3'.elim
      | _ =>
        rw [M.bind_err (show natM _ fr2 h2 = .err from rfl)] at p3'
        exact p3'.elim
    obtain ⟨p1', dx1, vs1, ev1, eH1, _⟩ := ins_rel r1 (.inl rv) ei
    obtain ⟨kk, f, fd, ps, a, Cl, dx, fs, G, ev, eH, c1, c2, c3, c5, g, gV, hb, q⟩ := (own_sp Mf r1 rv .nil rfl p2).ex
    have ep : p1' = a := V.ref.inj (ev1.symm.trans ev)
    subst ep
    have eo := Option.some.inj (eH1.symm.trans eH)
    injection eo with eC _ _
    subst eC
    subst ev
    intro pins s σ' us I rus
    obtain ⟨u, rfl, ru⟩ := rus.one
    obtain rfl : u = Value.ref p1' := ru
    obtain ⟨mA, J, _⟩ := ins_get I.hok eH
    obtain ⟨od, J, _⟩ := J.look
    refine PySem.OwB.bool_own I.kIn J (Nf.ex c G0 em) c2.at_ c2.fn (wpAny_mono (run_in (n := 0 + 1) (us := [.ref p1']) (vs := [.ref p1']) c3.ok ((C.room.mono hk).in1.in1.in1.mono c5) I.env0.in1.in1.in1 hb cx_none I (.cons rfl .nil) rfl q) (fun v s' z => ?_) fun _ _ z => z)
    obtain ⟨z', H', I', rz, i, ei, hi, qz⟩ := z
    subst ei
    obtain ⟨t, rfl⟩ := (show ∃ t, v = Value.int i t from rz)
    exact ⟨⟨hi.1, Int.lt_trans hi.2 (by decide)⟩, .bl (i != 0), H', I'.tok (s'.toks + 1), rfl, qz⟩))
/-! ### x.pop(i) -/
theorem RelDs.eraseIdx {K : PySem.W.Frag} {w : Wd} : ∀ {vs : List V} {ds : List D} (n : Nat), RelDs K T w vs ds → RelDs K T w (vs.eraseIdx n) (ds.eraseIdx n)
  | _, _, _, .nil => .nil
  | _, _, 0, .cons _ t => t
  | _, _, n + 1, .cons h t => .cons h (RelDs.eraseIdx n t)
def popSlot (i : Nat) (d : D) : M D := fun fr h => match fr[i]?, d with
  | some (some (.nl l)), .int j => if -(2 ^ 63) ≤ j ∧ j < 2 ^ 63 then (match seqIndex? j l.length with
    | some q => (match l[q]? with
      | some y => .ok y (fr.set i (some (.nl (l.eraseIdx q)))) h
      | none => .err)
    | none => .err) else .err
  | _, _ => .err
def mPopS (i : Nat) (m : M D) : M D := (mutSlot i keepF).bind fun _ => m.bind fun d => popSlot i d
theorem sv_popS (i : Nat) {x : Str} (s : SimV X T W e m) (hN : X.N[i]? = some x := by rfl) (hv : Vis X.env.scope x := by first | exact Or.inl rfl | exact Or.inr (Or.inl rfl) | exact Or.inr (Or.inr rfl)) (hd : (x == ("__debug__" : Str)) = false := by decide)
    (hcd : (x == ("__classdict__" : Str)) = false := by decide)
    (hbase : attributeBase (.Name x px) "pop" X.env (eval (.Name x px) X.env) = eval (.Name x px) X.env := by rfl)
    (hfew : ((backTo cpos (starEach (e :: []) X.env)).all (fun x => !x.1) && (backToKw cpos (keywordEach [] X.env)).all (fun x => x.1.isSome)
      && decide ((e :: []).length + ([] : List Keyword).length + (if ([] : List Keyword).isEmpty then 0 else 1) < 30)) = true := by rfl)
    (hline : (apos.endLine == cpos.line) = true := by rfl) (hs : starEach (e :: []) X.env = (false, eval e X.env) :: starEach [] X.env := by exact star_no rfl) (hplain : (backTo cpos (starEach [] X.env)).any (·.1) = false := by rfl) :
    SimV X T W (.Call (.Attribute (.Name x px) "pop" apos) [e] [] cpos) (mPopS i m) := fun B w σ H fr h Q R p => by
  have hh : ∃ v, σ[i]? = some (some v) := by
    cases e1 : fr[i]? with
    | none =>
      have q : mutSlot i keepF fr h = .err := by unfold mutSlot; rw [e1]
      have p' : Post X.K T B W (vV X.K T B σ) w σ ((mutSlot i keepF).bind _ fr h) Q := p
      rw [M.bind_err q] at p'
      exact p'.elim
    | some o =>
      cases o with
      | none =>
        have q : mutSlot i keepF fr h = .err := by unfold mutSlot; rw [e1]
        have p' : Post X.K T B W (vV X.K T B σ) w σ ((mutSlot i keepF).bind _ fr h) Q := p
        rw [M.bind_err q] at p'
        exact p'.elim
      | some d =>
        obtain ⟨v, e2, _⟩ := slot_some R e1
        exact ⟨v, e2⟩
  obtain ⟨v, ev⟩ := hh
  obtain ⟨fr1, h1, z1, p1⟩ := mut_slot (VR := vV X.K T B σ) R ev p
  have R1 := keep_mut z1
  refine pe_we (pe_bm PySem.F.plainAttrs_list PySem.F.slot_list_pop PySem.F.type_list_pop mt_popAt (pe_var hN hv hd hcd) (pa_cons pe_max pa_nil hs) hbase hfew hline hs hplain) ⟨v, ev, ty_mut z1, s B w σ H fr1 h1 _ R1 (Post.bind (VR := vV X.K T B σ) p1 fun d fr2 h2 w2 H2 y e2 l2 r2 ry p2 => ?_)⟩
  have p3 : Post X.K T B W (vV X.K T B σ) w2 σ (popSlot i d fr2 h2) Q := p2
  unfold popSlot at p3
  split at p3
  · rename_i l jj e3
    split at p3
    · rename_i hj
      split at p3
      · rename_i q eq
        split at p3
        · rename_i y' ey
          obtain ⟨v', e4, z⟩ := slot_some r2 e3
          rw [ev] at e4
          cases e4
          cases z with
          | val r => cases r
          | own O eH r =>
            cases r with
            | lst r =>
              obtain ⟨vy, hvy, rvy⟩ := r.get ey
              rw [rel_int ry]
              refine ⟨_, _, jj, q, vy, rfl, rfl, eH, hj.1, hj.2, by rw [r.length]; exact eq, hvy, ?_⟩
              exact p3 w2 _ vy (Wd.le_refl _) (r2.change_slot ev e3 O eH rfl (.lst (RelDs.eraseIdx q r))) rvy
        · exact p3.elim
      · exact p3.elim
    · exact p3.elim
  · exact p3.elim
/-! ### C.m(..), a classmethod -/
theorem run_code {A : Around} {pins : List (Addr × Obj)} {σ : L2.St} {H : Hp} {s : Shared} {Q : VK} {us : List Value} {vs : List V} {g : List Value → List Value → List Value} {gV : List V → List V → List V} {sp : Sp} {E : XK} {f : Addr} {fd : FuncData} {ps : List Str} (F : FnOk X.prog X.w X.K X.mg X.base (L2.CX X.prog X.w) kk f fd ps sp) (hr : Room kk A) (e0 : Env0 X.prog X.w X.K X.mg X.base A X.stack s H) (hb : KBn X.K fd ps n [] g gV)
    (hx : ∀ e s', L2.CX X.prog X.w X.stack H s E e s' → X.xe e s') (I : Inv X pins σ H s) (r : Vals vs us) (l1 : vs.length = n) (h : sp (gV vs []) H Q E) :
    codeAny (model X.prog X.w) A (.call (.ref f) ⟨us, []⟩) (fun r s' => match r with | .ok (.ret v) => EP X pins σ Q v s' | .ok _ => False | .error e => X.xe e s') s := by
  have r2 := hb.rel r (.nil : Vals [] [])
  refine codeAny_mono (F.run A X.stack s H ⟨us, []⟩ (g us []) (gV vs []) Q _ hr e0 (hb.to s us [] I.kIn (r.length.symm.trans l1) rfl) r2 h) fun r s' hq => ?_
  cases r with
  | error e => exact hx e s' hq
  | ok fl =>
    cases fl with
    | ret u => exact I.after hq
    | next => exact False.elim hq
    | brk => exact False.elim hq
    | cont => exact False.elim hq
structure CmF (X : Cx) (T : Tb) (k c : Nat) (m : Str) (n : Nat) (F : Fn) : Prop where
  ex : ∃ (kk : Nat) (p f : Addr) (fd : FuncData) (ps : List Str), ClX.CRead X.K (T.cad c) (.type "type") ∧ ClX.CMet X.K (T.cad c) (.type "type") m p f ∧ FnP X.prog X.w X.K X.mg X.base T kk f fd ps F ∧ Bn X.K T fd ps (n + 1) [] (gPos []) ∧ kk ≤ k
/-- where a classmethod's def is -/
def cmA (K : PySem.W.Frag) (C : Addr) (m : Str) : Addr := match PySem.W.findCls K (.ref C) (.type "type") m with
  | some (.get _ (.ref p) _ _) => (match PySem.W.recIn K p "classmethod" with
    | some (.ref g :: _) => g
    | _ => 0)
  | _ => 0
def cmX (K : PySem.W.Frag) (C : Addr) (m : Str) : Bool := creadX K C && (match PySem.W.findCls K (.ref C) (.type "type") m with
  | some (.get (.builtin i) (.ref p) .none (.ref C')) => decide (i = "classmethod.__get__") && (decide (C' = C) && ((match PySem.W.recIn K p "classmethod" with
    | some (.ref g :: _) => decide (g = cmA K C m)
    | _ => false) && PySem.W.fnIn K (cmA K C m)))
  | _ => false)
theorem cmX_ok {K : PySem.W.Frag} {C : Addr} {m : Str} (h : cmX K C m = true) : ClX.CRead K C (.type "type") ∧ ∃ p, ClX.CMet K C (.type "type") m p (cmA K C m) := by
  obtain ⟨c1, h⟩ := He.ba h
  refine ⟨creadX_ok c1, ?_⟩
  split at h
  · rename_i i p C' e
    obtain ⟨h1, h⟩ := He.ba h
    obtain ⟨h2, h⟩ := He.ba h
    obtain ⟨h3, h4⟩ := He.ba h
    have e1 := of_decide_eq_true h1
    have e2 := of_decide_eq_true h2
    subst e1 e2
    refine ⟨p, e, ?_, h4⟩
    split at h3
    · rename_i g rest er
      rw [er, of_decide_eq_true h3]
      exact ⟨rest, rfl⟩
    · cases h3
  · cases h
def mCm (n c : Nat) (F : Fn) (ma : M (List D)) : M D := ma.bind fun ds fr h => if ds.length = n then liftR fr (F (.cls c :: ds) h) else .err
theorem se_cm {F : Fn} {me : Str} {pl : Sem Bool} (C : Cq X T W k) (Cf : CmF X T k c me n F) (hm : X.mg x = some (.ref (T.cad c))) (sa : SimA X T W (e :: es) m1) (hg : Gl X x := by rfl) (hdb : (x == ("__debug__" : Str)) = false := by decide)
    (hst : starEach (e :: es) X.env = (false, eval e X.env) :: starEach es X.env := by exact star_no rfl) (hpl : (backTo pos (starEach es X.env)).any (·.1) = false := by rfl)
    (ht : eval (.Call (.Attribute (.Name x p) me apos) (e :: es) [] pos) X.env = (do
      let ov ← eval (.Name x p) X.env
      standAt apos.atName
      let (f, first) ← holding [ov] (getMethod ov me pl)
      callWith pos f first (backTo pos (starEach (e :: es) X.env)) (backToKw pos (keywordEach [] X.env))) := by rfl) :
    SimE X T W (.Call (.Attribute (.Name x p) me apos) (e :: es) [] pos) (mCm n c F m1) := fun B w σ H fr h Q R pp => WE.mk <| fun pins s I => by
  obtain ⟨kk, pa, f, fd, ps, cr, cm, fp, bn, hk⟩ := Cf.ex
  obtain ⟨g, gV, hb, hgD⟩ := bn.ex
  refine PySem.W.methodCall_KW (pl := pl) (thn (((sv_cls (T := T) (W := W) (c := c) hm hg hdb) B w σ H fr h (fun v H1 => v = .ref (T.cad c) ∧ WA X (e :: es) σ H1 fun vs H2 => vs.length = n ∧ spF X.K T ps.length F (gV (.ref (T.cad c) :: vs) []) H2 Q (fun c d H' => W c d σ H')) R (fun w1 H1 v l1 R1 rv => ?_)).go pins s I) fun u s1 ⟨z, H1, I1, rx, ez, q⟩ => ?_) ht
  · cases rv with
    | cls _ =>
      refine ⟨rfl, sa B w1 σ H1 fr h _ R1 (Post.bind (VR := vA X.K T B σ) (pp.le l1) fun ds fr2 h2 w2 H2 vs e2 l2 r2 rs p3 => ?_)⟩
      have p4 : Post X.K T B W (vE X.K T B σ) w2 σ (if ds.length = n then liftR fr2 (F (.cls c :: ds) h2) else .err) Q := p3
      by_cases hl : ds.length = n
      · rw [if_pos hl] at p4
        have p5 : Post X.K T B W (vE X.K T B σ) w2 σ (if (D.cls c :: ds).length = n + 1 ∧ ([] : List D).length = 0 then liftR fr2 (F (gPos [] (D.cls c :: ds) []) h2) else .err) Q := by
          rw [if_pos ⟨by rw [List.length_cons, hl], rfl⟩]
          show Post X.K T B W (vE X.K T B σ) w2 σ (liftR fr2 (F (D.cls c :: ds ++ []) h2)) Q
          rw [List.append_nil]
          exact p4
        exact ⟨rs.length.trans hl, (call_end (n := n + 1) (m := 0) (zs := []) (es := []) (ds := D.cls c :: ds) hgD r2 (.cons (.cls c) rs) .nil p5).2.2⟩
      · rw [if_neg hl] at p4
        exact p4.elim
  · subst ez
    obtain rfl : u = Value.ref (T.cad c) := rx
    refine ClX.getmethcm_ok I1 cr cm fun s2 I2 => ?_
    refine ClX.callwith_cm I2 (ClX.base_none I1 (Nat.le_refl _)) cm.fi (thn (q.go pos _ s2 I2) fun us s3 ⟨vs, H2, I3, rv, l, q2⟩ => ⟨⟨ClX.pin_at I3, I3.kIn⟩, ?_⟩) hst hpl
    have cx : ∀ e s', L2.CX X.prog X.w X.stack H2 s3 (fun c d H' => W c d σ H') e s' → X.xe e s' := fun e s' z => passAt C.takes σ _ H2 s3 e s' I3 z
    have z := wpAny_call (PySem.W.method_call (ClX.pin_at I3) (run_code (n := n + 1) (us := .ref (T.cad c) :: us) (vs := .ref (T.cad c) :: vs) fp.ok (C.room.mono hk) I3.env0 hb cx I3 (.cons rfl rv) (by rw [List.length_cons, l]) q2))
    exact thn z fun _ _ y => ClX.unpinE y
end
end Pk

/-! Pk28: == and != of data with a list of the body's own on the left. -/
namespace Pk
open PySem PySem.Spec L2
section
variable {X : Cx} {T : Tb} {W : WX} {k : Nat} {b : Expr} {mb : M D} {pos px : Pos}
/-- f tells the comparison, whatever holds the left operand -/
def CmpOO (X : Cx) (T : Tb) (op : CmpOp) (f : Hh → D → D → Option Bool) : Prop :=
  ∀ B w σ H fr h x y d e c Q, Rel X.K T B w σ H fr h → vO X.K T B σ w H fr x d → vO X.K T B σ w H fr y e → f h d e = some c → Q (.bl c) H → rM X (compareOp op) x y H Q
theorem cmp_eqO (C : Cq X T W k) : CmpOO X T .Eq cEq := fun B w σ H fr h x y d e c Q R rx ry q kk => by
  obtain ⟨p, p', e1, e2, s1, s2, rfl⟩ := cEq_some q
  exact op_rm (op_eqD (by have := C.u; omega)) ⟨p, p', dpo_of R rx e1, dpo_of R ry e2, s1, s2, kk⟩
theorem cmp_neO (C : Cq X T W k) : CmpOO X T .NotEq cNe := fun B w σ H fr h x y d e c Q R rx ry q kk => by
  obtain ⟨c', q', rfl⟩ := Option.map_eq_some_iff.mp q
  obtain ⟨p, p', e1, e2, s1, s2, rfl⟩ := cEq_some q'
  exact op_rm (op_neD (by have := C.u; omega)) ⟨p, p', dpo_of R rx e1, dpo_of R ry e2, s1, s2, kk⟩
/-- x op b, x a name: its slot is read behind b -/
def mLateB (i : Nat) (f : Hh → D → D → Option Bool) (mb : M D) : M Bool := (mHas i).bind fun _ => mb.bind fun y => (mBor i).bind fun d fr h => M.opt (f h d y) fr h
theorem st_cmpB {op : CmpOp} {f : Hh → D → D → Option Bool} (i : Nat) {x : Str} (o : CmpOO X T op f) (sb : SimO X T W b mb) (hm : behindInMarks op b = false := by with_unfolding_all rfl) (hN : X.N[i]? = some x := by rfl)
    (hv : Vis X.env.scope x := by first | exact Or.inl rfl | exact Or.inr (Or.inl rfl) | exact Or.inr (Or.inr rfl)) (hd : (x == ("__debug__" : Str)) = false := by decide) (hcd : (x == ("__classdict__" : Str)) = false := by decide) :
    SimT X T W (.Compare (.Name x px) [op] [b] pos) (mLateB i f mb) := fun B w σ H fr h Q r1 p => by
  obtain ⟨⟨v, ev⟩, p⟩ := has_post r1 p
  refine pt_wt (pt_cmpR op_max (pe_var hN hv hd hcd) pe_max hm) ⟨v, ev, sb B w σ H fr h _ r1 (Post.bind (VR := vO X.K T B σ) p fun y fr1 h1 w1 H1 u e1 l1 r2 ru p1 => ?_)⟩
  obtain ⟨d, rd, p2⟩ := bor_post r2 ev p1
  cases q : f h1 d y with
  | none => rw [q] at p2; exact p2.elim
  | some z =>
    rw [q] at p2
    exact o B w1 σ H1 fr1 h1 v u d y z _ r2 rd ru q ⟨z, rfl, p2 w1 H1 z (Wd.le_refl _) r2 rfl⟩
end
end Pk

/-! Pk29: == and != with an own __eq__ on the right, a built-in value on the left. -/
namespace PySem
namespace OwR
open PySem.W PySem.Calls PyProof.Rows
open PySem.AutoSeq1 (wpAny_loadPart')
section
variable {K : Frag} {x C : Addr} {ox : Obj} {od : Option Obj}
theorem inst_no {M : Model} {A : Around} {E : Value → Shared → Prop} {s : Shared} {t : String} {Q : Bool → Shared → Prop} (X : K.In s.heap) (I : InstAt s.heap x ox C od) (e : subIn K (.ref C) (.type t) = some false) (h : Q false s) : wpAny M A (isInstance (.ref x) (.type t)) Q E s :=
  wpAny_bind (I.type.here ((looks_subIn X e).here h))
theorem list_eq (l : Addr) (e : subIn K (.ref C) (.type "list") = some false) : Meets (Builtin.«list.__eq__» ⟨[.ref l, .ref x], []⟩) (fun _ R s => (K.In s.heap ∧ InstAt s.heap x ox C od) ∧ R (.ok (.ret .notImplemented)) s) :=
  .of_wp fun prog w A R s h => by
    obtain ⟨⟨X, I⟩, h⟩ := h
    repeat (first | (with_reducible refine inst_no X I e ?_) | (refine wpAny_bind (m := isInstance (.ref x) (.type "list")) (inst_no X I e ?_)) | wp_step)
    exact ⟨_, rfl, h⟩
theorem list_ne (l : Addr) (e : subIn K (.ref C) (.type "list") = some false) : Meets (Builtin.«list.__ne__» ⟨[.ref l, .ref x], []⟩) (fun _ R s => (K.In s.heap ∧ InstAt s.heap x ox C od) ∧ R (.ok (.ret .notImplemented)) s) :=
  .of_wp fun prog w A R s h => by
    obtain ⟨⟨X, I⟩, h⟩ := h
    repeat (first | (with_reducible refine inst_no X I e ?_) | (refine wpAny_bind (m := isInstance (.ref x) (.type "list")) (inst_no X I e ?_)) | wp_step)
    exact ⟨_, rfl, h⟩
theorem tup_eq (l : Addr) (e : subIn K (.ref C) (.type "tuple") = some false) : Meets (Builtin.«tuple.__eq__» ⟨[.ref l, .ref x], []⟩) (fun _ R s => (K.In s.heap ∧ InstAt s.heap x ox C od) ∧ R (.ok (.ret .notImplemented)) s) :=
  .of_wp fun prog w A R s h => by
    obtain ⟨⟨X, I⟩, h⟩ := h
    repeat (first | (with_reducible refine inst_no X I e ?_) | (refine wpAny_bind (m := isInstance (.ref x) (.type "tuple")) (inst_no X I e ?_)) | wp_step)
    exact ⟨_, rfl, h⟩
theorem tup_ne (l : Addr) (e : subIn K (.ref C) (.type "tuple") = some false) : Meets (Builtin.«tuple.__ne__» ⟨[.ref l, .ref x], []⟩) (fun _ R s => (K.In s.heap ∧ InstAt s.heap x ox C od) ∧ R (.ok (.ret .notImplemented)) s) :=
  .of_wp fun prog w A R s h => by
    obtain ⟨⟨X, I⟩, h⟩ := h
    repeat (first | (with_reducible refine inst_no X I e ?_) | (refine wpAny_bind (m := isInstance (.ref x) (.type "tuple")) (inst_no X I e ?_)) | wp_step)
    exact ⟨_, rfl, h⟩
theorem int_eq_int (a : Int) (u : Tok) (dx : Addr) : Meets (Builtin.«int.__eq__» ⟨[.int a u, .ref x], []⟩) (fun _ R s => s.heap.get? x = some (instObj C dx) ∧ R (.ok (.ret Value.notImplemented)) s) :=
  .of_wp fun prog w A R s h => by obtain ⟨hp, g, d, tk, os⟩ := s; obtain ⟨hl, h⟩ := h; wp_walk using wpAny_loadPart' hl, wpAny_load hl; exact ⟨_, rfl, h⟩
theorem int_ne_int (a : Int) (u : Tok) (dx : Addr) : Meets (Builtin.«int.__ne__» ⟨[.int a u, .ref x], []⟩) (fun _ R s => s.heap.get? x = some (instObj C dx) ∧ R (.ok (.ret Value.notImplemented)) s) :=
  .of_wp fun prog w A R s h => by obtain ⟨hp, g, d, tk, os⟩ := s; obtain ⟨hl, h⟩ := h; wp_walk using wpAny_loadPart' hl, wpAny_load hl; exact ⟨_, rfl, h⟩
theorem int_eq_bool (a : Bool) (dx : Addr) : Meets (Builtin.«int.__eq__» ⟨[.bool a, .ref x], []⟩) (fun _ R s => s.heap.get? x = some (instObj C dx) ∧ R (.ok (.ret Value.notImplemented)) s) :=
  .of_wp fun prog w A R s h => by obtain ⟨hp, g, d, tk, os⟩ := s; obtain ⟨hl, h⟩ := h; wp_walk using wpAny_loadPart' hl, wpAny_load hl; exact ⟨_, rfl, h⟩
theorem int_ne_bool (a : Bool) (dx : Addr) : Meets (Builtin.«int.__ne__» ⟨[.bool a, .ref x], []⟩) (fun _ R s => s.heap.get? x = some (instObj C dx) ∧ R (.ok (.ret Value.notImplemented)) s) :=
  .of_wp fun prog w A R s h => by obtain ⟨hp, g, d, tk, os⟩ := s; obtain ⟨hl, h⟩ := h; wp_walk using wpAny_loadPart' hl, wpAny_load hl; exact ⟨_, rfl, h⟩
theorem str_eq (a : Str) (u : Tok) (dx : Addr) : Meets (Builtin.«str.__eq__» ⟨[.str a u, .ref x], []⟩) (fun _ R s => s.heap.get? x = some (instObj C dx) ∧ R (.ok (.ret Value.notImplemented)) s) :=
  .of_wp fun prog w A R s h => by obtain ⟨hp, g, d, tk, os⟩ := s; obtain ⟨hl, h⟩ := h; wp_walk using wpAny_loadPart' hl, wpAny_load hl; exact ⟨_, rfl, h⟩
theorem str_ne (a : Str) (u : Tok) (dx : Addr) : Meets (Builtin.«str.__ne__» ⟨[.str a u, .ref x], []⟩) (fun _ R s => s.heap.get? x = some (instObj C dx) ∧ R (.ok (.ret Value.notImplemented)) s) :=
  .of_wp fun prog w A R s h => by obtain ⟨hp, g, d, tk, os⟩ := s; obtain ⟨hl, h⟩ := h; wp_walk using wpAny_loadPart' hl, wpAny_load hl; exact ⟨_, rfl, h⟩
end
section
variable {prog : Program} {w : World} {A : Around} {E : Value → Shared → Prop} {s : Shared} {K : Frag} {x C f : Addr} {ox : Obj} {od : Option Obj} {a : Value} {t : String}
/-- what the left operand does: it declines -/
def Declines (prog : Program) (w : World) (A : Around) (E : Value → Shared → Prop) (s : Shared) (a : Value) (nm : Str) (x : Addr) : Prop := ∀ P' : Option Value → Shared → Prop, P' none s → wpAny (model prog w) A (tryCompare a nm (.ref x)) P' E s
theorem right (op : CmpOp) {Q : Value → Shared → Prop} (hu : A.units < cLine) (X : K.In s.heap) (I : InstAt s.heap x ox C od) (h1 : oneThing? op a (.ref x) = none) (ha : Looks (model prog w) s.heap (typeOf a) (.type t)) (hn : subIn K (.ref C) (.type t) = some false)
    (hd : Declines prog w A E s a (cmpInfo op).2.1 x) (h : wpAny (model prog w) A (tryCompare (.ref x) (cmpInfo op).2.2 a) (fun r s' => ∃ v, r = some v ∧ Q v s') E s) : wpAny (model prog w) A (richCompare op a (.ref x)) Q E s := by
  unfold richCompare
  simp only [h1]
  refine wpAny_holding (wpAny_bind (wpAny_cRoomFor hu ?_))
  refine wpAny_bind (ha.here (wpAny_bind (I.type.here ?_)))
  rw [if_pos (show ((Value.type t != Value.ref C) = true) from rfl)]
  refine wpAny_bind ((looks_subIn X hn).here ?_)
  simp only [Bool.false_eq_true, if_false]
  refine wpAny_bind (hd _ ?_)
  simp only [Bool.not_false, if_true]
  refine wpAny_bind (wpAny_mono h (fun r s' z => ?_) fun _ _ e => e)
  obtain ⟨v, rfl, q⟩ := z
  exact wpAny_pure q
end
end OwR
end PySem
namespace Pk
open PySem PySem.Spec L2
/-- own == other, or a built-in value == own -/
def gEqX (mt : Nat → Option Fn) (c : Bool → Bool) (x y : D) : M Bool := fun fr h => match fnOf mt h x with
  | some _ => gEq mt c x y fr h
  | none => if (x.bty h).isSome then ((mOwn mt y [x]).bind fun d => (tbM d).bind fun b => M.ret (c b)) fr h else .err
section
variable {X : Cx} {T : Tb} {W : WX} {k j : Nat}
/-- a built-in value declines -/
theorem declines {B : Bs} {w : Wd} {σ σ' : L2.St} {H : Hp} {fr : Fr} {h : Hh} {v : V} {d : D} {u : Value} {pins : List (Addr × Obj)} {s : Shared} {a' Cl dx : Addr} {fs : List (Str × V)} {A : Around} {E : Value → Shared → Prop} {t : String} {ox : Obj} {od : Option Obj} (R : Rel X.K T B w σ H fr h) (rv : RelD X.K T w v d) (et : d.bty h = some t) (I : Inv X pins σ' H s) (ru : RelV v u)
    (J : PySem.W.InstAt s.heap a' ox Cl od) (hx : ∃ dt : Addr, s.heap.get? a' = some (PySem.W.instObj Cl dt)) (Eq : EqX X.K Cl) :
    oneThing? .Eq u (.ref a') = none ∧ oneThing? .NotEq u (.ref a') = none ∧ PySem.OwR.Declines X.prog X.w A E s u "__eq__" a' ∧ PySem.OwR.Declines X.prog X.w A E s u "__ne__" a' := by
  obtain ⟨dt, hx⟩ := hx
  have sqL : ∀ {p : Addr} {vs : List V}, SqL X.K H p vs → PySem.OwR.Declines X.prog X.w A E s (.ref p) "__eq__" a' ∧ PySem.OwR.Declines X.prog X.w A E s (.ref p) "__ne__" a' := fun {p vs} q => by
    obtain ⟨its, rv, pl, hz⟩ := I.list q
    have hT : s.TypeIs (.ref p) "list" := pl.isList.typeIs
    exact ⟨fun P' h' => wpAny_tryCompare_declines hT PySem.F.slot_list_eq (call_meets PySem.F.slot_list_eq hT PySem.F.entry_list_eq (PySem.F.args_list_eq_2 _ _) (PySem.OwR.list_eq p (Eq.nb "list" (by decide))) ⟨⟨I.kIn, J⟩, rfl, h'⟩),
      fun P' h' => wpAny_tryCompare_declines hT PySem.F.slot_list_ne (call_meets PySem.F.slot_list_ne hT PySem.F.entry_list_ne (PySem.F.args_list_ne_2 _ _) (PySem.OwR.list_ne p (Eq.nb "list" (by decide))) ⟨⟨I.kIn, J⟩, rfl, h'⟩)⟩
  have sqT : ∀ {p : Addr} {vs : List V}, SqT X.K H p vs → PySem.OwR.Declines X.prog X.w A E s (.ref p) "__eq__" a' ∧ PySem.OwR.Declines X.prog X.w A E s (.ref p) "__ne__" a' := fun {p vs} q => by
    obtain ⟨its, rv, pl, hz⟩ := I.tuple q
    have hT : s.TypeIs (.ref p) "tuple" := by
      obtain ⟨o, e1, e2, _⟩ := pl
      exact ⟨o, e1, e2⟩
    exact ⟨fun P' h' => wpAny_tryCompare_declines hT PySem.F.slot_tuple_eq (call_meets PySem.F.slot_tuple_eq hT PySem.F.entry_tuple_eq (PySem.F.args_tuple_eq_2 _ _) (PySem.OwR.tup_eq p (Eq.nb "tuple" (by decide))) ⟨⟨I.kIn, J⟩, rfl, h'⟩),
      fun P' h' => wpAny_tryCompare_declines hT PySem.F.slot_tuple_ne (call_meets PySem.F.slot_tuple_ne hT PySem.F.entry_tuple_ne (PySem.F.args_tuple_ne_2 _ _) (PySem.OwR.tup_ne p (Eq.nb "tuple" (by decide))) ⟨⟨I.kIn, J⟩, rfl, h'⟩)⟩
  unfold D.bty at et
  cases rv with
  | non =>
    obtain rfl : u = Value.none := ru
    exact ⟨rfl, rfl, fun P' h' => wpAny_tryCompare_declines (show s.TypeIs .none "NoneType" from rfl) PySem.F.slot_NoneType_eq (call_gives PySem.F.slot_NoneType_eq rfl PySem.F.entry_NoneType_eq (PySem.F.args_NoneType_eq_2 _ _) (SeqAt.NoneType___eq___none_ref_0 a') ⟨rfl, h'⟩),
      fun P' h' => wpAny_tryCompare_declines (show s.TypeIs .none "NoneType" from rfl) PySem.F.slot_NoneType_ne (call_gives PySem.F.slot_NoneType_ne rfl PySem.F.entry_NoneType_ne (PySem.F.args_NoneType_ne_2 _ _) (SeqAt.NoneType___ne___none_ref_0 a') ⟨rfl, h'⟩)⟩
  | bl b =>
    obtain rfl : u = Value.bool b := ru
    exact ⟨rfl, rfl, fun P' h' => wpAny_tryCompare_declines (show s.TypeIs (.bool b) "bool" from rfl) PySem.F.slot_bool_eq (call_meets PySem.F.slot_bool_eq (show s.TypeIs (.bool b) "bool" from rfl) PySem.F.entry_int_eq (PySem.F.args_int_eq_2 _ _) (PySem.OwR.int_eq_bool (C := Cl) b dt) ⟨hx, rfl, h'⟩),
      fun P' h' => wpAny_tryCompare_declines (show s.TypeIs (.bool b) "bool" from rfl) PySem.F.slot_bool_ne (call_meets PySem.F.slot_bool_ne (show s.TypeIs (.bool b) "bool" from rfl) PySem.F.entry_int_ne (PySem.F.args_int_ne_2 _ _) (PySem.OwR.int_ne_bool (C := Cl) b dt) ⟨hx, rfl, h'⟩)⟩
  | int i =>
    obtain ⟨tt, rfl⟩ := ru
    exact ⟨rfl, rfl, fun P' h' => wpAny_tryCompare_declines (typeIs_int s i tt) PySem.F.slot_int_eq (call_meets PySem.F.slot_int_eq (typeIs_int s i tt) PySem.F.entry_int_eq (PySem.F.args_int_eq_2 _ _) (PySem.OwR.int_eq_int (C := Cl) i tt dt) ⟨hx, rfl, h'⟩),
      fun P' h' => wpAny_tryCompare_declines (typeIs_int s i tt) PySem.F.slot_int_ne (call_meets PySem.F.slot_int_ne (typeIs_int s i tt) PySem.F.entry_int_ne (PySem.F.args_int_ne_2 _ _) (PySem.OwR.int_ne_int (C := Cl) i tt dt) ⟨hx, rfl, h'⟩)⟩
  | str z =>
    obtain ⟨tt, rfl⟩ := ru
    exact ⟨rfl, rfl, fun P' h' => wpAny_tryCompare_declines (typeIs_str s z tt) PySem.F.slot_str_eq (call_meets PySem.F.slot_str_eq (typeIs_str s z tt) PySem.F.entry_str_eq (PySem.F.args_str_eq_2 _ _) (PySem.OwR.str_eq (C := Cl) z tt dt) ⟨hx, rfl, h'⟩),
      fun P' h' => wpAny_tryCompare_declines (typeIs_str s z tt) PySem.F.slot_str_ne (call_meets PySem.F.slot_str_ne (typeIs_str s z tt) PySem.F.entry_str_ne (PySem.F.args_str_ne_2 _ _) (PySem.OwR.str_ne (C := Cl) z tt dt) ⟨hx, rfl, h'⟩)⟩
  | tup q r =>
    obtain rfl : u = Value.ref _ := ru
    exact ⟨oneThing_ref .., oneThing_ref .., sqT (sqT_le R.sub q)⟩
  | fl q r =>
    obtain rfl : u = Value.ref _ := ru
    exact ⟨oneThing_ref .., oneThing_ref .., sqL (SqL.of (R.sub _ _ q))⟩
  | kl q r =>
    obtain rfl : u = Value.ref _ := ru
    exact ⟨oneThing_ref .., oneThing_ref .., sqL (sqL_le R.sub q)⟩
  | obj q r => cases et
  | cls c => cases et
  | ty t => cases et
  | @ref a n q =>
    obtain rfl : u = Value.ref _ := ru
    refine ⟨oneThing_ref .., oneThing_ref .., ?_⟩
    have ln : n < h.length := by
      rw [← R.len]
      exact (List.getElem?_eq_some_iff.mp q).1
    obtain ⟨o, e, rr⟩ := R.cel n a h[n] q (List.getElem?_eq_getElem ln)
    have e0 : (h[n]?).getD .non = h[n] := by rw [List.getElem?_eq_getElem ln]; rfl
    unfold D.tag D.der at et
    dsimp only at et
    rw [e0] at et
    generalize h[n] = c at rr et
    cases rr with
    | lst r => exact sqL (SqL.of e)
    | obj r => cases et
theorem cmp_eqX {mt : Nat → Option Fn} (C : Cq X T W k) (hk : j + 1 ≤ k) (Mf : MethF X T j "__eq__" mt 1 [] (gPos [])) (Ef : EqF X.K T mt) : CmpM X T W vV .Eq (gEqX mt fun b => b) := fun B w σ H fr h x y d e Q R rx ry p => by
  unfold gEqX at p
  cases ex : fnOf mt h d with
  | some G => rw [ex] at p; exact cmp_eqI C hk Mf Ef B w σ H fr h x y d e Q R rx ry p
  | none =>
    rw [ex] at p
    dsimp only at p
    cases hb : (d.bty h).isSome with
    | false => rw [hb] at p; exact p.elim
    | true =>
      rw [hb, if_pos rfl] at p
      obtain ⟨t, et⟩ := Option.isSome_iff_exists.mp hb
      have p' := post_tb p
      have hG : fnOf mt h e ≠ none := fun z => by
        have q : mOwn mt e [d] fr h = .err := by unfold mOwn; rw [z]
        rw [q] at p'
        exact p'
      obtain ⟨c, gs, ei, G0, em⟩ : ∃ c gs, e.ins h = some (c, gs) ∧ ∃ G, mt c = some G := by
        cases q : fnOf mt h e with
        | none => exact absurd q hG
        | some G =>
          obtain ⟨c, gs, e1, e2⟩ := fnOf_ins q
          exact ⟨c, gs, e1, G, e2⟩
      obtain ⟨p1, dx1, vs1, e1, eH1, _⟩ := ins_rel R (.inl ry) ei
      obtain ⟨kk, f, fd, ps, a', Cl, dx, fs, G, ey, eH, c1, c2, c3, c5, g, gV, hb', q⟩ := (own_sp Mf R ry (.cons rx .nil) rfl p').ex
      have ep : p1 = a' := V.ref.inj (e1.symm.trans ey)
      subst ep
      have eo := Option.some.inj (eH1.symm.trans eH)
      injection eo with eC _ _
      subst eC
      subst ey
      intro pins s σ' v u I rv ru
      obtain rfl : u = Value.ref p1 := ru
      have Eq := Ef.ex c G0 em
      have hx : ∃ dt : Addr, s.heap.get? p1 = some (PySem.W.instObj (T.cad c) dt) := by
        have z : ObjOk X.prog X.w H s.heap p1 (.ins (T.cad c) dx fs) := I.hok p1 _ eH
        exact ⟨dx, z.2.2.2.1⟩
      obtain ⟨mA, J, _⟩ := ins_get I.hok eH
      obtain ⟨od, J, _⟩ := J.look
      obtain ⟨ty, ht⟩ := bty_rel R rx et
      obtain ⟨P, Z, pp, _⟩ := kit_of I rv ty
      obtain ⟨o1, _, d1, _⟩ := declines (A := X.A) (E := X.xe) (dx := dx) (fs := fs) R rx et I rv J hx Eq
      show wpAny _ _ (richCompare .Eq _ _) _ _ _
      have hu : X.A.units < cLine := by
        have := C.u
        omega
      refine PySem.OwR.right .Eq hu I.kIn J o1 (Z.ty (model X.prog X.w) s.heap I.kIn pp) (Eq.nb t ht) d1 ?_
      show wpAny _ _ (tryCompare (.ref p1) "__eq__" v) _ _ _
      unfold tryCompare
      refine wpAny_bind (PySem.W.ifBound_K I.kIn J c2.at_ c2.fn (wpAny_mono (run_in (n := 1 + 1) (us := [.ref p1, v]) (vs := [.ref p1, x]) c3.ok (C.room.mono (Nat.le_trans c5 (Nat.le_of_succ_le hk))) I.env0 hb' cx_none I (.cons rfl (.cons rv .nil)) rfl q) (fun r s' z => ?_) fun _ _ z => z))
      obtain ⟨z', H', I', rz, b, eb, qz⟩ := z
      subst eb
      obtain rfl : r = Value.bool b := rz
      exact wpAny_pure ⟨_, rfl, .bl b, H', I', rfl, b, rfl, qz⟩
theorem cmp_neX {mt : Nat → Option Fn} (C : Cq X T W k) (hk : j + 1 ≤ k) (Mf : MethF X T j "__eq__" mt 1 [] (gPos [])) (Ef : EqF X.K T mt) : CmpM X T W vV .NotEq (gEqX mt fun b => !b) := fun B w σ H fr h x y d e Q R rx ry p => by
  unfold gEqX at p
  cases ex : fnOf mt h d with
  | some G => rw [ex] at p; exact cmp_neI C hk Mf Ef B w σ H fr h x y d e Q R rx ry p
  | none =>
    rw [ex] at p
    dsimp only at p
    cases hb : (d.bty h).isSome with
    | false => rw [hb] at p; exact p.elim
    | true =>
      rw [hb, if_pos rfl] at p
      obtain ⟨t, et⟩ := Option.isSome_iff_exists.mp hb
      have p' := post_tb p
      have hG : fnOf mt h e ≠ none := fun z => by
        have q : mOwn mt e [d] fr h = .err := by unfold mOwn; rw [z]
        rw [q] at p'
        exact p'
      obtain ⟨c, gs, ei, G0, em⟩ : ∃ c gs, e.ins h = some (c, gs) ∧ ∃ G, mt c = some G := by
        cases q : fnOf mt h e with
        | none => exact absurd q hG
        | some G =>
          obtain ⟨c, gs, e1, e2⟩ := fnOf_ins q
          exact ⟨c, gs, e1, G, e2⟩
      obtain ⟨p1, dx1, vs1, e1, eH1, _⟩ := ins_rel R (.inl ry) ei
      obtain ⟨kk, f, fd, ps, a', Cl, dx, fs, G, ey, eH, c1, c2, c3, c5, g, gV, hb', q⟩ := (own_sp Mf R ry (.cons rx .nil) rfl p').ex
      have ep : p1 = a' := V.ref.inj (e1.symm.trans ey)
      subst ep
      have eo := Option.some.inj (eH1.symm.trans eH)
      injection eo with eC _ _
      subst eC
      subst ey
      intro pins s σ' v u I rv ru
      obtain rfl : u = Value.ref p1 := ru
      have Eq := Ef.ex c G0 em
      have hx : ∃ dt : Addr, s.heap.get? p1 = some (PySem.W.instObj (T.cad c) dt) := by
        have z : ObjOk X.prog X.w H s.heap p1 (.ins (T.cad c) dx fs) := I.hok p1 _ eH
        exact ⟨dx, z.2.2.2.1⟩
      obtain ⟨mA, J, _⟩ := ins_get I.hok eH
      obtain ⟨od, J, _⟩ := J.look
      obtain ⟨ty, ht⟩ := bty_rel R rx et
      obtain ⟨P, Z, pp, _⟩ := kit_of I rv ty
      obtain ⟨_, o1, _, d1⟩ := declines (A := X.A) (E := X.xe) (dx := dx) (fs := fs) R rx et I rv J hx Eq
      show wpAny _ _ (richCompare .NotEq _ _) _ _ _
      have hu : X.A.units + 1 < cLine := by
        have := C.u
        omega
      refine PySem.OwR.right .NotEq (Nat.lt_of_succ_lt hu) I.kIn J o1 (Z.ty (model X.prog X.w) s.heap I.kIn pp) (Eq.nb t ht) d1 ?_
      refine PySem.OwE.try_ne hu I.kIn J Eq.ne Eq.ob c2.at_ c2.fn (wpAny_mono (run_in (n := 1 + 1) (us := [.ref p1, v]) (vs := [.ref p1, x]) c3.ok ((C.room.mono hk).in1.mono c5) I.env0.in1 hb' cx_none I (.cons rfl (.cons rv .nil)) rfl q) (fun r s' z => ?_) fun _ _ z => z)
      obtain ⟨z', H', I', rz, b, eb, qz⟩ := z
      subst eb
      obtain rfl : r = Value.bool b := rz
      exact ⟨b, rfl, _, rfl, .bl (!b), H', I', rfl, !b, rfl, qz⟩
end
end Pk

/-! Pk30: x is True, x is False. -/
namespace Pk
open PySem PySem.Spec L2
def cIsB (_ : Hh) : D → D → Option Bool
  | .bl a, .bl b => some (decide (a = b))
  | _, _ => none
def cIsnB (_ : Hh) : D → D → Option Bool
  | .bl a, .bl b => some (!decide (a = b))
  | _, _ => none
section
variable {X : Cx} {T : Tb}
theorem cmp_isB : CmpOk X T vV .Is cIsB := fun B w σ H fr h x y d e c Q R rx ry q kk => by
  unfold cIsB at q
  split at q
  · cases q
    rw [rel_bl rx, rel_bl ry]
    exact op_rm op_isBl ⟨_, _, rfl, rfl, kk⟩
  · cases q
theorem cmp_isnB : CmpOk X T vV .IsNot cIsnB := fun B w σ H fr h x y d e c Q R rx ry q kk => by
  unfold cIsnB at q
  split at q
  · cases q
    rw [rel_bl rx, rel_bl ry]
    exact op_rm op_notBl ⟨_, _, rfl, rfl, kk⟩
  · cases q
end
end Pk

/-! Pk31: == of two tuples whose items are instances with an own __eq__. -/
namespace PySem
namespace OwT
open PySem.W PySem.Calls PyProof.Rows PySem.SeqAt
open PySem.AutoSeq1 (wpAny_loadPart')
section
variable {prog : Program} {w : World} {A : Around} {R : Result → Shared → Prop}
/-- the loop over the pairs: it ends at the first that differs -/
theorem tup_eqB (l b : Addr) (items items2 : Array Value) (n n2 : Nat) (dd dd2 : Option Addr) (sl sl2 : Array (Option Value)) (I : Nat → Shared → Prop)
    (turn : ∀ i (h1 : i < items.size) (h2 : i < items2.size) s, I i s → wpAny (model prog w) A.in1 (eqBool items[i] items2[i]) (fun r s' => (r = true ∧ I (i + 1) s') ∨ (r = false ∧ R (.ok (.ret (.bool false))) s')) (fun e s' => R (.error e) s') s)
    (fin : ∀ s, I (min items.size items2.size) s → R (.ok (.ret (.bool (items.size == items2.size)))) s) {s : Shared} (hl1 : s.heap.get? l = some { cls := .type "tuple", dict := dd, data := .seq items n, slots := sl }) (hb1 : s.heap.get? b = some { cls := .type "tuple", dict := dd2, data := .seq items2 n2, slots := sl2 }) (h : I 0 s) :
    wpAny (model prog w) A.in1 (Builtin.«tuple.__eq__» ⟨[.ref l, .ref b], []⟩) (GQ.FinOf prog w A R) (fun e s' => R (.error e) s') s := by
  have f2 := AutoSeq1.sub_tuple_tuple
  have hZ : (items.toList.zip items2.toList).length = min items.size items2.size := by simp
  have h0 := h
  obtain ⟨hp, g, d, tk, os⟩ := s
  wp_walk using wpAny_loadPart' hl1, wpAny_loadPart' hb1, wpAny_forIn_list _ (fun rest b s' => b.1 = none ∧ ∃ i, rest = (items.toList.zip items2.toList).drop i ∧ i ≤ min items.size items2.size ∧ I i s') _
  case turn =>
    rintro ⟨y, x⟩ rest b s' ⟨hb', i, hz, hi, hI⟩
    have hlt : i < (items.toList.zip items2.toList).length := by
      rcases Nat.lt_or_ge i (items.toList.zip items2.toList).length with h' | h'
      · exact h'
      · rw [List.drop_of_length_le h'] at hz; cases hz
    have hlt' : i < min items.size items2.size := hZ ▸ hlt
    have h1 : i < items.size := by omega
    have h2 : i < items2.size := by omega
    rw [List.drop_eq_getElem_cons hlt] at hz
    injection hz with hyx hrest
    have hy : y = items[i] := by have := congrArg Prod.fst hyx; simpa using this
    have hx : x = items2[i] := by have := congrArg Prod.snd hyx; simpa using this
    subst hy hx
    refine wpAny_bind (wpAny_mono (turn i h1 h2 s' hI) (fun r s2 q2 => ?_) fun _ _ x => x)
    rcases q2 with ⟨hr, q2⟩ | ⟨hr, q2⟩
    · subst hr
      wp_walk
      exact ⟨rfl, i + 1, hrest, hlt', q2⟩
    · subst hr
      wp_walk
      exact q2
  case fin =>
    rintro ⟨b1, b2⟩ s' ⟨hb', i, hz, hi, hI⟩
    simp only at hb'
    subst hb'
    have hge : min items.size items2.size ≤ i := by
      rcases Nat.lt_or_ge i (items.toList.zip items2.toList).length with h' | h'
      · rw [List.drop_eq_getElem_cons h'] at hz; cases hz
      · exact hZ ▸ h'
    have hi' : i = min items.size items2.size := Nat.le_antisymm hi hge
    have hR := fin s' (hi' ▸ hI)
    wp_walk
    simpa [Builtin.Tuple.tupleCompareSizes] using hR
  case h =>
    exact ⟨rfl, 0, rfl, Nat.zero_le _, h0⟩
theorem rc_tupB {l b : Addr} {items items2 : Array Value} {E : Value → Shared → Prop} {s : Shared} {Q : Value → Shared → Prop} (hu : A.units < cLine) (I : Nat → Shared → Prop) (hl : s.heap.IsTuple l items) (hb : s.heap.IsTuple b items2)
    (turn : ∀ i (h1 : i < items.size) (h2 : i < items2.size) s, I i s → wpAny (model prog w) A.in1 (eqBool items[i] items2[i]) (fun r s' => (r = true ∧ I (i + 1) s') ∨ (r = false ∧ Q (.bool false) s')) E s)
    (fin : ∀ s, I (min items.size items2.size) s → Q (.bool (items.size == items2.size)) s) (h : I 0 s) : wpAny (model prog w) A (richCompare .Eq (.ref l) (.ref b)) Q E s := by
  obtain ⟨⟨cls, dd, data, sl⟩, ho, hc, n, hd⟩ := id hl
  obtain ⟨⟨cls2, dd2, data2, sl2⟩, ho2, hc2, n2, hd2⟩ := id hb
  simp only at hc hd hc2 hd2
  subst hc hd hc2 hd2
  refine wpAny_richCompare_same_room (op := .Eq) ⟨_, ho, rfl⟩ ⟨_, ho2, rfl⟩ F.slot_tuple_eq (GQ.call_here F.slot_tuple_eq ⟨_, ho, rfl⟩ F.entry_tuple_eq (F.args_tuple_eq_2 _ _) ?_) hu
  refine tup_eqB (R := wants (fun v s' => v ≠ .notImplemented ∧ Q v s') E) l b items items2 n n2 dd dd2 sl sl2 I (fun i h1 h2 s q => wpAny_mono (turn i h1 h2 s q) (fun r s' z => ?_) fun _ _ z => z) (fun s' q => ⟨(fun x => nomatch x), fin s' q⟩) ho ho2 h
  rcases z with z | ⟨z, q⟩
  · exact .inl z
  · exact .inr ⟨z, (fun x => nomatch x), q⟩
end
end OwT
end PySem
namespace Pk
open PySem PySem.Spec L2
mutual
/-- whether two may be one and the same object, as far as their values tell -/
def D.sim : D → D → Bool
  | .int i, .int j => i == j
  | .bl a, .bl b => a == b
  | .str a, .str b => a == b
  | .tup l, .tup m => D.sims l m
  | _, _ => true
def D.sims : List D → List D → Bool
  | d :: ds, e :: es => D.sim d e && D.sims ds es
  | [], [] => true
  | _, _ => false
end
section
variable {X : Cx} {T : Tb} {W : WX} {k j : Nat} {w : Wd} {pins : List (Addr × Obj)} {σ : L2.St} {H : Hp} {s : Shared}
mutual
theorem sim_rel (I : Inv X pins σ H s) (sub : ∀ a o, w.F a = some o → H a = some o) : ∀ {v : V} {d : D}, RelD X.K T w v d → ∀ {e : D}, RelD X.K T w v e → D.sim d e = true
  | _, _, .tup h1 t1, _, r2 => by
    cases r2 with
    | tup h2 t2 =>
      have := I.tuple_inj (sqT_le sub h1) (sqT_le sub h2)
      subst this
      exact sims_rel I sub t1 t2
    | _ => rfl
  | _, _, .int i, _, r2 => by cases r2; simp [D.sim]
  | _, _, .bl b, _, r2 => by cases r2; simp [D.sim]
  | _, _, .str z, _, r2 => by cases r2; simp [D.sim]
  | _, _, .non, _, _ => rfl
  | _, _, .fl _ _, _, _ => rfl
  | _, _, .kl _ _, _, _ => rfl
  | _, _, .obj _ _, _, _ => rfl
  | _, _, .ref _, _, _ => rfl
  | _, _, .cls _, _, _ => rfl
  | _, _, .ty _, _, _ => rfl
theorem sims_rel (I : Inv X pins σ H s) (sub : ∀ a o, w.F a = some o → H a = some o) : ∀ {vs : List V} {ds : List D}, RelDs X.K T w vs ds → ∀ {es : List D}, RelDs X.K T w vs es → D.sims ds es = true
  | _, _, .nil, _, r2 => by cases r2; rfl
  | _, _, .cons h t, _, r2 => by
    cases r2 with
    | cons h2 t2 =>
      show (_ && _) = true
      rw [sim_rel I sub h h2, sims_rel I sub t t2]
      rfl
end
/-- one pair of items -/
noncomputable def pPair (mt : Nat → Option Fn) (nf : Nat → Nat) (h : Hh) : D → D → Option Bool
  | .obj c l, .obj c' m => if c = c' ∧ l.length = nf c ∧ m.length = nf c then match mt c with
      | some F => match F [.obj c l, .obj c m] h with
        | .ok (.bl b) _ h' => open Classical in if h' = h ∧ (b = true ∨ D.sims l m = false) then some b else none
        | _ => none
      | none => none
    else none
  | _, _ => none
noncomputable def pEqs (mt : Nat → Option Fn) (nf : Nat → Nat) (h : Hh) : List D → List D → Option Bool
  | d :: ds, e :: es => (pPair mt nf h d e).bind fun b => if b then pEqs mt nf h ds es else some false
  | [], [] => some true
  | _, _ => some false
noncomputable def cEqT (mt : Nat → Option Fn) (nf : Nat → Nat) (h : Hh) : D → D → Option Bool
  | .tup l, .tup m => pEqs mt nf h l m
  | _, _ => none
noncomputable def gEqT (mt : Nat → Option Fn) (nf : Nat → Nat) (x y : D) : M Bool := fun fr h => M.opt (cEqT mt nf h x y) fr h
structure NfF (T : Tb) (mt : Nat → Option Fn) (nf : Nat → Nat) : Prop where
  ex : ∀ c F, mt c = some F → (T.fld c).length = nf c
theorem pPair_open {mt : Nat → Option Fn} {nf : Nat → Nat} {h : Hh} {d e : D} {b : Bool} (q : pPair mt nf h d e = some b) : ∃ c l m F fr', d = .obj c l ∧ e = .obj c m ∧ l.length = nf c ∧ m.length = nf c ∧ mt c = some F ∧ F [d, e] h = .ok (.bl b) fr' h ∧ (b = true ∨ D.sims l m = false) := by
  unfold pPair at q
  split at q
  · rename_i c l c' m
    split at q
    · rename_i hc
      obtain ⟨rfl, h1, h2⟩ := hc
      split at q
      · rename_i F eF
        split at q
        · rename_i b' fr' h' ek
          split at q
          · rename_i hh
            obtain ⟨rfl, hb⟩ := hh
            cases q
            exact ⟨_, _, _, _, _, rfl, rfl, h1, h2, eF, ek, hb⟩
          · cases q
        · cases q
      · cases q
    · cases q
  · cases q
theorem pEqs_nil {mt : Nat → Option Fn} {nf : Nat → Nat} {h : Hh} {l m : List D} {c : Bool} (q : pEqs mt nf h l m = some c) (e : l = [] ∨ m = []) : c = (l.length == m.length) := by
  cases l with
  | nil =>
    cases m with
    | nil => unfold pEqs at q; cases q; rfl
    | cons e es => unfold pEqs at q; cases q; rfl
  | cons d ds =>
    cases m with
    | nil => unfold pEqs at q; cases q; rfl
    | cons e es => rcases e with e | e <;> cases e
theorem pEqs_cons {mt : Nat → Option Fn} {nf : Nat → Nat} {h : Hh} {d e : D} {ds es : List D} {c : Bool} (q : pEqs mt nf h (d :: ds) (e :: es) = some c) : ∃ b, pPair mt nf h d e = some b ∧ ((b = true ∧ pEqs mt nf h ds es = some c) ∨ (b = false ∧ c = false)) := by
  unfold pEqs at q
  obtain ⟨b, e1, e2⟩ := Option.bind_eq_some_iff.mp q
  cases b with
  | true => exact ⟨true, e1, .inl ⟨rfl, e2⟩⟩
  | false => exact ⟨false, e1, .inr ⟨rfl, by simpa using e2.symm⟩⟩
/-- one pair: eqBool tells what the own == told -/
theorem pair_run {mt : Nat → Option Fn} {nf : Nat → Nat} {B : Bs} {w w1 : Wd} {σ σ' : L2.St} {H1 : Hp} {fr : Fr} {h : Hh} {x y : V} {d e : D} {u v : Value} {b : Bool} {Q : Bool → Shared → Prop} (C : Cq X T W k) (hk : j + 1 ≤ k) (Mf : MethF X T j "__eq__" mt 1 [] (gPos [])) (Ef : EqF X.K T mt) (Nf : NfF T mt nf)
    (R : Rel X.K T B w1 σ H1 fr h) (I : Inv X pins σ' H1 s) (rx : RelD X.K T w1 x d) (ry : RelD X.K T w1 y e) (ru : RelV x u) (rv : RelV y v) (q : pPair mt nf h d e = some b)
    (fin : ∀ w2 H2 s2, w1.le w2 → Rel X.K T B w2 σ H2 fr h → Inv X pins σ' H2 s2 → Q b s2) : wpAny (model X.prog X.w) X.A.in1 (eqBool u v) Q X.xe s := by
  obtain ⟨c, l, m, F, fr', rfl, rfl, hl, hm, eF, ek, hb⟩ := pPair_open q
  have ef : fnOf mt h (.obj c l) = some F := by
    unfold fnOf
    show (match D.ins h (.obj c l) with | some (c, _) => mt c | none => none) = _
    rw [show D.ins h (.obj c l) = some (c, l) from rfl]
    exact eF
  have p : Post X.K T B W (vE X.K T B σ) w1 σ (mOwn mt (.obj c l) [.obj c m] fr h) (fun z H2 => z = .bl b ∧ ∃ w2, w1.le w2 ∧ Rel X.K T B w2 σ H2 fr h) := by
    have e1 : mOwn mt (.obj c l) [.obj c m] fr h = .ok (.bl b) fr h := by
      unfold mOwn
      rw [ef]
      dsimp only
      rw [ek]
    rw [e1]
    exact fun w' H' v' x' r z => ⟨ve_bl z, w', x', r⟩
  obtain ⟨kk, f, fd, ps, a', Cl, dx, fs, G, ex, eH, c1, c2, c3, c5, g, gV, hbn, qq⟩ := (own_sp Mf R rx (.cons ry .nil) rfl p).ex
  subst ex
  obtain rfl : u = Value.ref a' := ru
  have go : wpAny (model X.prog X.w) X.A.in1 (richCompare .Eq (.ref a') v) (fun r s' => ∃ b', r = .bool b' ∧ Q b' s') X.xe s := by
    obtain ⟨Eq, tb, lk, nfi⟩ := eq_other (u := v) Ef R rx ry (by
      rw [Bool.or_eq_true]
      right
      unfold sameC
      rw [show D.ins h (.obj c l) = some (c, l) from rfl, show D.ins h (.obj c m) = some (c, m) from rfl]
      dsimp only
      rw [if_pos rfl]
      rfl) (by rw [ef]; exact fun z => by cases z) I rv rfl eH
    obtain ⟨mA, J, _⟩ := ins_get I.hok eH
    obtain ⟨od, J, _⟩ := J.look
    obtain ⟨mm, hF⟩ := I.fr
    have hu : X.A.in1.units < cLine := by
      have := C.u
      show X.A.units + 1 < cLine
      omega
    refine PySem.W.cmp_K (op := .Eq) hu hF I.ok.mod.kin J lk nfi c2.at_ c2.fn (wpAny_mono (run_in (n := 1 + 1) (us := [.ref a', v]) (vs := [.ref a', y]) c3.ok ((C.room.mono hk).in1.mono c5) I.env0.in1 hbn cx_none I (.cons rfl (.cons rv .nil)) rfl qq) (fun r s' z => ?_) fun _ _ z => z)
    obtain ⟨z', H', I', rz, ez, w2, le2, R2⟩ := z
    subst ez
    obtain rfl : r = Value.bool b := rz
    exact ⟨b, rfl, fin w2 H' s' le2 R2 I'⟩
  cases ry with
  | @obj p2 dx2 _ vs2 _ s2 t2 =>
    obtain rfl : v = Value.ref p2 := rv
    by_cases hab : a' = p2
    · subst hab
      cases rx with
      | @obj _ dx1 _ vs1 _ s1 t1 =>
        have e0 := s1.symm.trans s2
        have nl := Nf.ex c F eF
        have l1 : vs1.length = (T.fld c).length := by rw [t1.length, hl, nl]
        have l2 : vs2.length = (T.fld c).length := by rw [t2.length, hm, nl]
        have ev : vs1 = vs2 := by
          injection e0 with e0
          injection e0 with _ _ e3
          have := congrArg (List.map Prod.snd) e3
          rwa [List.map_snd_zip (by omega), List.map_snd_zip (by omega)] at this
        subst ev
        have es := sims_rel I R.sub t1 t2
        have eb : b = true := by
          rcases hb with hb | hb
          · exact hb
          · rw [es] at hb
            cases hb
        subst eb
        exact SeqAt.EqAt.same (A := X.A.in1) (s := s) (.ref a') X.prog X.w X.xe _ (fin w1 H1 s (Wd.le_refl _) R I)
    · exact GQ.eqBool_refG hab go
theorem cmp_eqT {mt : Nat → Option Fn} {nf : Nat → Nat} (C : Cq X T W k) (hk : j + 1 ≤ k) (Mf : MethF X T j "__eq__" mt 1 [] (gPos [])) (Ef : EqF X.K T mt) (Nf : NfF T mt nf) : CmpM X T W vV .Eq (gEqT mt nf) := fun B w σ H fr h x y d e Q R rx ry p => by
  unfold gEqT at p
  cases q : cEqT mt nf h d e with
  | none => rw [q] at p; exact p.elim
  | some c =>
    rw [q] at p
    unfold cEqT at q
    split at q
    · rename_i l m
      obtain ⟨a, xs, rfl, sx, tx⟩ := rel_tup rx
      obtain ⟨b, ys, rfl, sy, ty⟩ := rel_tup ry
      intro pins s σ' v u I rv ru
      obtain rfl : v = Value.ref a := rv
      obtain rfl : u = Value.ref b := ru
      obtain ⟨its, r1, e1, z1⟩ := I.tuple (sqT_le R.sub sx)
      obtain ⟨its2, r2, e2, z2⟩ := I.tuple (sqT_le R.sub sy)
      have n1 : its.toArray.size = l.length := by rw [List.size_toArray, ← r1.length, tx.length]
      have n2 : its2.toArray.size = m.length := by rw [List.size_toArray, ← r2.length, ty.length]
      show wpAny _ _ (richCompare .Eq _ _) _ _ _
      have hu : X.A.units < cLine := by
        have := C.u
        omega
      have fin : ∀ w2 H2 s2, w.le w2 → Rel X.K T B w2 σ H2 fr h → Inv X pins σ' H2 s2 → EP X pins σ' (fun z H' => ∃ c, z = .bl c ∧ Q c H') (.bool c) s2 := fun w2 H2 s2 le2 R2 I2 => ⟨.bl c, H2, I2, rfl, c, rfl, p w2 H2 c le2 R2 rfl⟩
      refine PySem.OwT.rc_tupB hu (fun i s' => pEqs mt nf h (l.drop i) (m.drop i) = some c ∧ ∃ w1 H1, w.le w1 ∧ Rel X.K T B w1 σ H1 fr h ∧ Inv X pins σ' H1 s') e1 e2 (fun i h1 h2 s' hi => ?_) (fun s' hi => ?_) ⟨q, w, H, Wd.le_refl _, R, I⟩
      · obtain ⟨qi, w1, H1, le1, R1, I1⟩ := hi
        have k1 : i < l.length := by omega
        have k2 : i < m.length := by omega
        rw [List.drop_eq_getElem_cons k1, List.drop_eq_getElem_cons k2] at qi
        obtain ⟨b, qb, qr⟩ := pEqs_cons qi
        obtain ⟨v1, g1, t1⟩ := tx.get (List.getElem?_eq_getElem k1)
        obtain ⟨v2, g2, t2⟩ := ty.get (List.getElem?_eq_getElem k2)
        obtain ⟨u1, j1, y1⟩ := r1.get g1
        obtain ⟨u2, j2, y2⟩ := r2.get g2
        have f1 : its.toArray[i] = u1 := by
          have : its[i]? = some its.toArray[i] := by
            have h1' : i < its.length := by simpa using h1
            rw [List.getElem?_eq_getElem h1'] <;> simp
          rw [this] at j1
          exact Option.some.inj j1
        have f2 : its2.toArray[i] = u2 := by
          have : its2[i]? = some its2.toArray[i] := by
            have h2' : i < its2.length := by simpa using h2
            rw [List.getElem?_eq_getElem h2'] <;> simp
          rw [this] at j2
          exact Option.some.inj j2
        rw [f1, f2]
        refine pair_run (w := w) C hk Mf Ef Nf R1 I1 (t1.mono le1) (t2.mono le1) y1 y2 qb fun w2 H2 s2 le2 R2 I2 => ?_
        rcases qr with ⟨rfl, qr⟩ | ⟨rfl, qr⟩
        · exact .inl ⟨rfl, qr, w2, H2, Wd.le_trans le1 le2, R2, I2⟩
        · subst qr
          exact .inr ⟨rfl, fin w2 H2 s2 (Wd.le_trans le1 le2) R2 I2⟩
      · obtain ⟨qi, w1, H1, le1, R1, I1⟩ := hi
        rw [n1, n2] at qi ⊢
        have ec := pEqs_nil qi (by
          rcases Nat.le_total l.length m.length with z | z
          · left; rw [Nat.min_eq_left z]; exact List.drop_length
          · right; rw [Nat.min_eq_right z]; exact List.drop_length)
        have ec' : (l.length == m.length) = c := by
          rw [ec, List.length_drop, List.length_drop]
          rcases Nat.lt_trichotomy l.length m.length with z | z | z
          · rw [Nat.min_eq_left (by omega), beq_eq_false_iff_ne.mpr (by omega), beq_eq_false_iff_ne.mpr (by omega)]
          · rw [z]; simp
          · rw [Nat.min_eq_right (by omega), beq_eq_false_iff_ne.mpr (by omega), beq_eq_false_iff_ne.mpr (by omega)]
        rw [ec']
        exact fin w1 H1 s' le1 R1 I1
    · cases q
end
end Pk

/-! Pk32: several except clauses, each with a name or without. -/
namespace L2
open PySem PySem.Spec PyProof.Rows
/-- where a clause's suite ends: its name's slot is emptied -/
def endsAt (oi : Option Nat) (D : Ends) : Ends := match oi with
  | none => D
  | some i => { nx := fun σ' H' => D.nx (σ'.set i none) H', rt := D.rt, bk := fun σ' H' => D.bk (σ'.set i none) H', ct := fun σ' H' => D.ct (σ'.set i none) H' }
def slotAt (oi : Option Nat) (σ : St) (a : Addr) : St := match oi with
  | none => σ
  | some i => σ.set i (some (.ref a))
abbrev Clause := Value × Option Nat × (Addr → Value → Option Addr → TS)
def wAny (K : PySem.W.Frag) (Wout : WX) (D : Ends) : List Clause → WX
  | [] => Wout
  | (c, oi, ts) :: r => fun cls d σ H => ∃ b, PySem.W.exmOne K cls c = some b ∧ (b = true → ∀ a, H a = none → ts a cls d (endsAt oi D) (slotAt oi σ a) H) ∧ (b = false → wAny K Wout D r cls d σ H)
inductive NameAt (X : Cx) : Option Str → Option Nat → Prop
  | no : NameAt X none none
  | at_ {n : Str} {i : Nat} (hi : X.N[i]? = some n) (hln : X.env.kindOf n = some .local) : NameAt X (some n) (some i)
inductive ClausesOk (X : Cx) : List ExceptHandler → List Clause → Prop
  | nil : ClausesOk X [] []
  | cons {x : Str} {c : Value} {ts : Addr → Value → Option Addr → TS} {b₀ : Stmt} {suite : List Stmt} {np pos' : Pos} {nm : Option Str} {oi : Option Nat} {hds : List ExceptHandler} {l : List Clause} (hc : Names X x c) (hn : NameAt X nm oi)
      (hsu : ∀ (a : Addr) (oe : Obj) (cls : Value) (d : Option Addr) (pn : List (Addr × Obj)), Zc cls d oe → (∃ vs, oe.data = .fields vs) → PSs (X.suite a ((a, oe) :: pn)) (b₀ :: suite) (ts a cls d)) (r : ClausesOk X hds l) :
      ClausesOk X (.ExceptHandler (some (.Name x np)) nm (b₀ :: suite) pos' :: hds) ((c, oi, ts) :: l)
section
variable {X : Cx} {body : List Stmt} {h₀ : ExceptHandler} {hds : List ExceptHandler} {l : List Clause} {pos : Pos} {tb : WX → TS} {Wout : WX}
theorem ps_try_any (hs : X.stack = X.env :: X.outer) (hf : X.env.frame = some X.env.locals) (hN : X.N.Nodup) (tk : Takes X Wout)
    (hb : ∀ (W : WX) (pn : List (Addr × Obj)) (xe : Value → Shared → Prop), Takes (X.tr pn xe) W → PassesOwn (model X.prog X.w) X.A X.env xe → PSs (X.tr pn xe) body (tb W))
    (hh : ClausesOk X (h₀ :: hds) l) : PS X (.Try body (h₀ :: hds) [] [] pos) (fun D σ H => tb (wAny X.K Wout D l) D σ H) := by
  refine ⟨fun pins s σ H D I h => ?_⟩
  have ok := I.ok
  have hfr : X.A.frames = some (X.env :: X.outer) := by rw [ok.frames, hs]
  have back : ∀ {f : Flow} {s1 : Shared} {Y : Cx} {pins0 : List (Addr × Obj)}, (∀ {σ2 H2}, Inv Y pins0 σ2 H2 s1 → Inv X pins σ2 H2 s1) → SP Y pins0 D f s1 → SP X pins D f s1 := fun {f s1 Y pins0} u hsp => by
    cases f with
    | ret v =>
      obtain ⟨v', σ', H', J', q⟩ := hsp
      exact ⟨v', σ', H', u J', q⟩
    | _ =>
      obtain ⟨σ', H', J', q⟩ := hsp
      exact ⟨σ', H', u J', q⟩
  refine wpAny_Try_except ?_
  refine wpAny_mono ((hb (wAny X.K Wout D l) (X.pn ++ pins) (fun e s₁ => wpAny (model X.prog X.w) X.A (noteFrame e X.env) (fun _ s₂ => wpAny (model X.prog X.w) X.A (setFlight e none) (fun _ s₃ =>
    wpAny (model X.prog X.w) X.A (handleBy e X.env (h₀ :: hds)) (SP X pins D) X.xe s₃) X.xe s₂) X.xe s₁) (fun u s' xx => ?_) PassesOwn.looking).run [] s σ H D (I.toTry _) h) (fun f s1 hsp => ?_) (fun e s1 he => he)
  · obtain ⟨a, B, sI, pins', σ', H', cls, d, rfl, J', nb, up, sky, na, os, ag, w⟩ := xx
    have J : Inv X pins σ' H' sI := J'.ofTry ok
    rw [hs] at sky
    show wpAny (model X.prog X.w) X.A (noteFrame (.ref a) X.env) _ _ _
    refine Sky.land Zc.steady hfr hf sky fun h3 fl3 up3 => ?_
    obtain ⟨oe3, vs3, he3, hz3, hd3⟩ := fl3.there
    have nfr : a ∉ frs (X.env :: X.outer) := fun hm => by
      obtain ⟨_, o', e', hnf⟩ := (fl3.2.2.1 : h3.FunFrames B (X.env :: X.outer)).mem hm
      rw [he3] at e'
      cases e'
      exact hnf _ hd3
    have nL : a ≠ X.env.locals := fun z => nfr (List.mem_filterMap.mpr ⟨X.env, List.mem_cons_self, by rw [hf, z]⟩)
    have nF : a ∉ X.fs := fun hm => by
      obtain ⟨e, he, q⟩ := List.mem_filterMap.mp hm
      exact nfr (List.mem_filterMap.mpr ⟨e, List.mem_cons_of_mem _ he, q⟩)
    have J3 : Inv X pins σ' H' { s' with heap := h3 } := J.landed nb fl3.1 (up.trans up3) os ag
    have S3 := J3.suite he3 hd3 na nL nF
    have LT : PySem.W.Looks (model X.prog X.w) h3 (typeOf (.ref a)) cls := fun A Q E s k q => wpAny_typeOf_ref (k _ _ he3) (by rw [hz3.1]; exact q)
    have look : ∀ {x : Str} {c : Value} {np : Pos} {Q : Value → Shared → Prop} {E : Value → Shared → Prop}, Names X x c → Q c { s' with heap := h3 } → wpAny (model X.prog X.w) (X.A.mark (some (.ref a))) (eval (.Name x np) X.env) Q E { s' with heap := h3 } := fun {x c np Q E} hc q => by
      obtain ⟨hg, hdbg, hm | ⟨hm, hv, hnn⟩⟩ := hc
      · exact ld_glob (X := X.suite a ((a, oe3) :: (X.pn ++ pins))) S3 hg hm q hdbg
      · exact ld_blt (X := X.suite a ((a, oe3) :: (X.pn ++ pins))) S3 hg hm hv q hnn hdbg
    suffices go : ∀ {hs' : List ExceptHandler} {l' : List Clause}, ClausesOk X hs' l' → wAny X.K Wout D l' cls d σ' H' → wpAny (model X.prog X.w) X.A (handleBy (.ref a) X.env hs') (SP X pins D) X.xe { s' with heap := h3 } from go hh w
    intro hs' l' hk
    induction hk with
    | nil =>
      intro w
      refine wpAny_handleBy_nil ?_
      obtain ⟨k1, k2, k3, oe, vs, T, oT, ts', he, hz, hd, h1, hr⟩ := id fl3
      have last : wpAny (model X.prog X.w) X.A (setFlight (.ref a) X.env.frame) (fun _ s4 => wpAny (model X.prog X.w) X.A (throw (.ref a) : Sem Flow) (SP X pins D) X.xe s4) X.xe { s' with heap := h3 } := by
        rw [hf]
        exact HandSPX.setFlight_upZ fl3 fun h4 hh4 up4 => wpAny_throw (tk _ _ ⟨a, B, sI, pins, σ', H', cls, d, rfl, J, nb, (up.trans up3).trans up4, .inr (.inr (by rw [hs]; exact hh4)), na, os, ag, w⟩)
      unfold PySem.passOn
      refine wpAny_bind (wpAny_field he hd h1 ?_)
      rw [if_neg (show ¬ ((Value.ref T == Value.none) = true) from by simp)]
      first
        | exact wpAny_bind (wpAny_pure (wpAny_bind last))
        | exact wpAny_bind last
    | @cons x c ts b₀ suite np pos' nm oi hds2 l2 hc hn hsu r ih =>
      rintro ⟨b, hb1, hyes, hno⟩
      refine wpAny_handleBy_cons (codeAny_handlers_test (look hc ((PySem.W.exm_one (M := model X.prog X.w) J3.kIn LT hb1).here ?_))) (by intro q; cases q)
      cases b with
      | false => exact ih (hno rfl)
      | true =>
        cases hn with
        | no =>
          refine codeAny_handlers_suite (HandSPX.lands_againZ fl3 fun h4 fl4 up4 => ?_)
          obtain ⟨oe4, vs4, he4, hz4, hd4⟩ := fl4.there
          have S4 := (J.landed nb fl4.1 ((up.trans up3).trans up4) os ag : Inv X pins σ' H' { s' with heap := h4 }).suite he4 hd4 na nL nF
          exact wpAny_mono ((hsu a oe4 cls d (X.pn ++ pins) hz4 ⟨_, hd4⟩).run [] _ _ H' _ S4 (hyes rfl a na)) (fun f s6 hsp => back (fun S6 => S6.unsuite ok) hsp) (fun _ _ z => False.elim z)
        | at_ hi hln =>
          refine codeAny_handlers_suite_as (HandSPX.lands_againZ fl3 fun h4 fl4 up4 => ?_)
          obtain ⟨oe4, vs4, he4, hz4, hd4⟩ := fl4.there
          have S4 := (J.landed nb fl4.1 ((up.trans up3).trans up4) os ag : Inv X pins σ' H' { s' with heap := h4 }).suite he4 hd4 na nL nF
          refine store_ok (X := X.suite a ((a, oe4) :: (X.pn ++ pins))) (v := .ref a) S4 hN hi (.inl hln) rfl (fun s5 S5 => ?_) (.inr hln)
          refine wpAny_mono ((hsu a oe4 cls d (X.pn ++ pins) hz4 ⟨_, hd4⟩).run [] s5 _ H' _ S5 (hyes rfl a na)) (fun f s6 hsp => ?_) (fun _ _ z => False.elim z)
          cases f with
          | ret u =>
            obtain ⟨v6, σ6, H6, S6, r6, q6⟩ := hsp
            exact gone_ok (S6.unsuite ok) hN hi hln fun s7 J7 => ⟨_, _, _, J7, r6, q6⟩
          | _ =>
            obtain ⟨σ6, H6, S6, q6⟩ := hsp
            exact gone_ok (S6.unsuite ok) hN hi hln fun s7 J7 => ⟨_, _, J7, q6⟩
  · cases f with
    | next => exact wpAny_execs_nil (back (fun J' => J'.ofTry ok) hsp)
    | brk => exact back (fun J' => J'.ofTry ok) hsp
    | cont => exact back (fun J' => J'.ofTry ok) hsp
    | ret u => exact back (fun J' => J'.ofTry ok) hsp
end
end L2
namespace Pk
open PySem PySem.Spec L2
abbrev Hd := Option Nat × (Nat → Option Bool) × (Exn → M Fl)
/-- the first clause that takes the exception -/
def pickN : List Hd → Exn → M Fl
  | [], x => fun fr h => .exc x fr h
  | (oi, cond, ms) :: r, x => fun fr h => match cond x.c with
    | some true => match oi with
      | some i => if i < fr.length then endA i (ms x (fr.set i none) h) else .err
      | none => ms x fr h
    | some false => pickN r x fr h
    | none => .err
def mTryN (cs : List Hd) (mb : M Fl) : M Fl := fun fr h => match mb fr h with
  | .exc x fr1 h1 => pickN cs x fr1 h1
  | r => r
section
variable {X : Cx} {T : Tb} {W : WX} {k : Nat} {body : List Stmt} {h₀ : ExceptHandler} {hds : List ExceptHandler} {pos : Pos} {mb : M Fl} {cs : List Hd}
inductive SimHds (X : Cx) (T : Tb) (W : WX) : List ExceptHandler → List Hd → Prop
  | nil : SimHds X T W [] []
  | named {x n : Str} {c : Value} {cond : Nat → Option Bool} {b₀ : Stmt} {suite : List Stmt} {np pos' : Pos} {i : Nat} {ms : Exn → M Fl} {hds : List ExceptHandler} {l : List Hd} (hi : X.N[i]? = some n) (hln : X.env.kindOf n = some .local) (hc : Names X x c)
      (hcond : ∀ cc b, cond cc = some b → PySem.W.exmOne X.K (.ref (T.cad cc)) c = some b)
      (hsu : ∀ (a : Addr) (oe : Obj) (cls : Value) (d : Option Addr) (pn : List (Addr × Obj)) (y : Exn), Su X T i a oe cls d pn y → SqSs (PX X.K T i a y cls d) (X.suite a ((a, oe) :: pn)) T W (b₀ :: suite) (ms y))
      (r : SimHds X T W hds l) : SimHds X T W (.ExceptHandler (some (.Name x np)) (some n) (b₀ :: suite) pos' :: hds) ((some i, cond, ms) :: l)
  | only {x : Str} {c : Value} {cond : Nat → Option Bool} {b₀ : Stmt} {suite : List Stmt} {np pos' : Pos} {ms : Exn → M Fl} {hds : List ExceptHandler} {l : List Hd} (hc : Names X x c)
      (hcond : ∀ cc b, cond cc = some b → PySem.W.exmOne X.K (.ref (T.cad cc)) c = some b)
      (hsu : ∀ (a : Addr) (oe : Obj) (pn : List (Addr × Obj)) (y : Exn), SqSs (fun _ _ => True) (X.suite a ((a, oe) :: pn)) T W (b₀ :: suite) (ms y))
      (r : SimHds X T W hds l) : SimHds X T W (.ExceptHandler (some (.Name x np)) none (b₀ :: suite) pos' :: hds) ((none, cond, ms) :: l)
theorem hds_pick (hh : SimHds X T W hds cs) : ∃ cl, ClausesOk X hds cl ∧ ∀ {B : Bs} {w w1 : Wd} {σ1 : L2.St} {H1 : Hp} {fr1 : Fr} {h1 : Hh} {D : Ends} {y : Exn} {cls : Value} {dd : Option Addr}, w.le w1 → Rel X.K T B w1 σ1 H1 fr1 h1 → ExcR X.K T w1 y cls dd → PostS X.K T B W w (pickN cs y fr1 h1) D → wAny X.K W D cl cls dd σ1 H1 := by
  induction hh with
  | nil => exact ⟨[], .nil, fun {B w w1 σ1 H1 fr1 h1 D y cls dd} l1 r1 ex p => p w1 σ1 H1 cls dd l1 r1 ex⟩
  | @named x n c cond b₀ suite np pos' i ms hds l hi hln hc hcond hsu r ih =>
    obtain ⟨cl, ok, hp⟩ := ih
    refine ⟨(c, some i, fun a cls d D σ H => ∀ oe pn, Zc cls d oe → (∃ vs, oe.data = .fields vs) → WSs (X.suite a ((a, oe) :: pn)) (b₀ :: suite) D σ H) :: cl, .cons hc (.at_ hi hln) (fun a oe cls d pn hz hd => ⟨fun pins s σ H D I hh => (hh oe pn hz hd).go pins s I⟩) ok, fun {B w w1 σ1 H1 fr1 h1 D y cls dd} l1 r1 ex p => ?_⟩
    unfold pickN at p
    dsimp only at p
    cases ec : cond y.c with
    | none => rw [ec] at p; exact p.elim
    | some bb =>
      rw [ec] at p
      refine ⟨bb, by rw [ex.1]; exact hcond _ _ ec, fun eb a na oe pn' hz hd => ?_, fun eb => ?_⟩
      · subst eb
        dsimp only at p
        by_cases hl : i < fr1.length
        · rw [if_pos hl] at p
          have hl2 : i < σ1.length := by rw [← r1.fl]; exact hl
          refine hsu a oe cls dd pn' y ⟨hz, hd⟩ B w1 (σ1.set i (some (.ref a))) H1 (fr1.set i none) h1 _ ⟨by rw [List.getElem?_set_self hl2], ex⟩ (r1.set_slot .none (fun _ _ _ q => by cases q) fun _ _ q => by cases q) ?_
          have p2 : PostS X.K T B W w1 (endA i (ms y (fr1.set i none) h1)) D := PostS.le l1 p
          cases e2 : ms y (fr1.set i none) h1 with
          | err => rw [e2] at p2; exact p2
          | exc y2 fr2 h2 => rw [e2] at p2; exact p2
          | ok f fr2 h2 =>
            rw [e2] at p2
            cases f with
            | nx => exact fun w2 σ2 H2 l2 _ r2 => p2 w2 _ H2 l2 (r2.set_slot .none (fun _ _ _ q => by cases q) fun _ _ q => by cases q)
            | brk => exact fun w2 σ2 H2 l2 r2 => p2 w2 _ H2 l2 (r2.set_slot .none (fun _ _ _ q => by cases q) fun _ _ q => by cases q)
            | ct => exact fun w2 σ2 H2 l2 r2 => p2 w2 _ H2 l2 (r2.set_slot .none (fun _ _ _ q => by cases q) fun _ _ q => by cases q)
            | rt d => exact p2
        · rw [if_neg hl] at p
          exact p.elim
      · subst eb
        exact hp l1 r1 ex p
  | @only x c cond b₀ suite np pos' ms hds l hc hcond hsu r ih =>
    obtain ⟨cl, ok, hp⟩ := ih
    refine ⟨(c, none, fun a cls d D σ H => ∀ oe pn, Zc cls d oe → (∃ vs, oe.data = .fields vs) → WSs (X.suite a ((a, oe) :: pn)) (b₀ :: suite) D σ H) :: cl, .cons hc .no (fun a oe cls d pn hz hd => ⟨fun pins s σ H D I hh => (hh oe pn hz hd).go pins s I⟩) ok, fun {B w w1 σ1 H1 fr1 h1 D y cls dd} l1 r1 ex p => ?_⟩
    unfold pickN at p
    dsimp only at p
    cases ec : cond y.c with
    | none => rw [ec] at p; exact p.elim
    | some bb =>
      rw [ec] at p
      refine ⟨bb, by rw [ex.1]; exact hcond _ _ ec, fun eb a na oe pn' hz hd => ?_, fun eb => ?_⟩
      · subst eb
        exact hsu a oe pn' y B w1 σ1 H1 fr1 h1 D trivial r1 (PostQ.of (PostS.le l1 p))
      · subst eb
        exact hp l1 r1 ex p
theorem s_tryN (C : Cq X T W k) (hs : X.stack = X.env :: X.outer) (hf : X.env.frame = some X.env.locals)
    (hb : ∀ (W' : WX) (pn : List (Addr × Obj)) (xe : Value → Shared → Prop), Cq (X.tr pn xe) T W' k → SimSs (X.tr pn xe) T W' body mb)
    (hh : SimHds X T W (h₀ :: hds) cs) : SimS X T W (.Try body (h₀ :: hds) [] [] pos) (mTryN cs mb) := fun B w σ H fr h D R p => by
  obtain ⟨cl, ok, hp⟩ := hds_pick hh
  refine ps_ws (ps_try_any (tb := fun W' D σ H => ∀ pn xe, Takes (X.tr pn xe) W' → PassesOwn (model X.prog X.w) X.A X.env xe → WSs (X.tr pn xe) body D σ H) (Wout := W) hs hf C.nd C.takes
    (fun W' pn xe tk po => ⟨fun pins s σ H D I hh => (hh pn xe tk po).go pins s I⟩) ok) ?_
  refine fun pn xe tk po => hb _ pn xe ⟨C.calm, C.nd, C.room, tk, po⟩ B w σ H fr h D R ?_
  unfold mTryN at p
  cases e : mb fr h with
  | err => rw [e] at p; exact p
  | ok f fr1 h1 =>
    rw [e] at p
    cases f <;> exact p
  | exc y fr1 h1 =>
    rw [e] at p
    dsimp only at p
    exact fun w1 σ1 H1 cls dd l1 r1 ex => hp l1 r1 ex p
end
end Pk

/-! Pk33: isinstance(e.f, type), list(e.f), tuple(e.f) in a suite. -/
namespace Pk
open PySem PySem.Spec L2
section
variable {P : Wd → L2.St → Prop} {X : Cx} {T : Tb} {W : WX} {a b : Expr} {ma mb : M D} {pos pf : Pos} {x : Str} {tab : Tg → Tg → Option Bool}
theorem q_un {α β : Type} {VR1 : VRel V D} {VR : VRel β α} {f : Hh → D → Option α} {r : V → Hp → (β → Hp → Prop) → Prop} (sa : SimQ P (WE X a) X.K T W VR1 ma)
    (hr : ∀ B w σ H fr h x d z Q, Rel X.K T B w σ H fr h → VR1 X.K T B σ w H fr x d → f h d = some z → (∀ w' H' v, w.le w' → Rel X.K T B w' σ H' fr h → VR X.K T B σ w' H' fr v z → Q v H') → r x H Q) :
    SimQ P (fun σ H Q => WE X a σ H fun x H1 => r x H1 Q) X.K T W VR (mUn f ma) := fun B w σ H fr h Q z0 r1 p =>
  sa B w σ H fr h _ z0 r1 (Post.bind (VR := VR1 X.K T B σ) p fun d fr1 h1 w1 H1 x e1 l1 r1 rx p1 => by
    cases q : f h1 d with
    | none => rw [q] at p1; exact p1.elim
    | some z =>
      rw [q] at p1
      exact hr B w1 σ H1 fr1 h1 x d z Q r1 rx q p1)
theorem q_op {α β : Type} {VR2 : VRel V D} {VR : VRel β α} {f : Hh → D → D → Option α} {r : V → V → Hp → (β → Hp → Prop) → Prop} (hP : MonP P) (sa : SqV P X T W a ma) (sb : SimQ P (WE X b) X.K T W VR2 mb)
    (hr : ∀ B w σ H fr h x y d e z Q, Rel X.K T B w σ H fr h → RelD X.K T w x d → VR2 X.K T B σ w H fr y e → f h d e = some z → (∀ w' H' v, w.le w' → Rel X.K T B w' σ H' fr h → VR X.K T B σ w' H' fr v z → Q v H') → r x y H Q) :
    SimQ P (fun σ H Q => WE X a σ H fun x H1 => WE X b σ H1 fun y H2 => r x y H2 Q) X.K T W VR (mOp f ma mb) := fun B w σ H fr h Q z0 r1 p =>
  sa B w σ H fr h _ z0 r1 (Post.bind (VR := vV X.K T B σ) p fun d fr1 h1 w1 H1 x e1 l1 r1 rx p1 => sb B w1 σ H1 fr1 h1 _ (hP _ _ _ l1 z0) r1 (Post.bind (VR := VR2 X.K T B σ) p1 fun e fr2 h2 w2 H2 y e2 l2 r2 ry p2 => by
    cases q : f h2 d e with
    | none => rw [q] at p2; exact p2.elim
    | some z =>
      rw [q] at p2
      exact hr B w2 σ H2 fr2 h2 x y d e z Q r2 (rx.mono l2) ry q p2))
theorem isi_hr (F : IsiF X.K T tab) : ∀ (B : Bs) (w : Wd) (σ : L2.St) (H : Hp) (fr : Fr) (h : Hh) (x y : V) (d e z : D) (Q : VK), Rel X.K T B w σ H fr h → RelD X.K T w x d → vV X.K T B σ w H fr y e → bIsi tab h d e = some z → (∀ w' H' v, w.le w' → Rel X.K T B w' σ H' fr h → vV X.K T B σ w' H' fr v z → Q v H') → cM X (.builtin "isinstance") [x, y] H Q := fun B w σ H fr h x y d e z Q R rx ry q kk => by
    have ry : RelD X.K T w y e := ry
    unfold bIsi at q
    cases et : d.tag h with
    | none => rw [et] at q; cases q
    | some t =>
      rw [et] at q
      have one : ∀ u, e.ctag = some u → (tab t u).map D.bl = some z → cM X (.builtin "isinstance") [x, y] H Q := fun u ec eq => by
        obtain ⟨bb, eb, rfl⟩ := Option.map_eq_some_iff.mp eq
        exact call_cm call_isi ⟨x, y, t.v T, u.v T, bb, rfl, ctag_rel ry ec, tag_rel F R (.inl rx) et eb, F.kit t u bb eb, kk w H _ (Wd.le_refl _) R (.bl bb)⟩
      cases e with
      | tup l =>
        dsimp only at q
        cases ec : ctags l with
        | none => rw [ec] at q; cases q
        | some us =>
          rw [ec] at q
          cases us with
          | nil => cases q
          | cons u us =>
            obtain ⟨bb, eb, rfl⟩ := Option.map_eq_some_iff.mp q
            obtain ⟨p, vs, rfl, sq, rs⟩ := rel_tup ry
            have ty : TyX X.K H x (t.v T) := by
              rcases isiAny_some eb with z | ⟨u', b', z⟩
              · cases z
              · exact tag_rel F R (.inl rx) et z
            exact call_cm call_isiQ ⟨x, p, vs, t.v T, (u :: us).map (Tg.v T), bb, rfl, sqT_le R.sub sq, ctags_rel rs ec, ty, isiAny_rel F eb, kk w H _ (Wd.le_refl _) R (.bl bb)⟩
      | cls c => exact one _ rfl q
      | ty t => exact one _ rfl q
      | _ => cases q
theorem qv_isi (hP : MonP P) (F : IsiF X.K T tab) (sa : SqV P X T W a ma) (sb : SqV P X T W b mb) (hm : X.mg "isinstance" = none) (hg : Gl X "isinstance" := by rfl) (he : starEach (a :: b :: []) X.env = (false, eval a X.env) :: starEach (b :: []) X.env := by exact star_no rfl) (he2 : starEach (b :: []) X.env = (false, eval b X.env) :: starEach [] X.env := by exact star_no rfl)
    (hpl : (backTo pos (starEach (b :: []) X.env)).any (·.1) = false := by rfl) : SqV P X T W (.Call (.Name "isinstance" pf) [a, b] [] pos) (mOp (bIsi tab) ma mb) := fun B w σ H fr h Q z0 r1 p =>
  pe_we (pe_callB call_max hg hm (by decide +kernel) (pa_cons pe_max (pa_cons pe_max pa_nil he2) he) (by decide) (by decide) he hpl) (q_op (r := fun x y H Q => cM X (.builtin "isinstance") [x, y] H Q) hP sa sb (isi_hr F) B w σ H fr h Q z0 r1 p)
theorem qe_list (sa : SqV P X T W a ma) (hm : X.mg "list" = none) (hg : Gl X "list" := by rfl) (he : starEach (a :: []) X.env = (false, eval a X.env) :: starEach [] X.env := by exact star_no rfl) (hpl : (backTo pos (starEach [] X.env)).any (·.1) = false := by rfl) : SqE P X T W (.Call (.Name "list" pf) [a] [] pos) (mUn bList ma) := fun B w σ H fr h Q z0 r1 p =>
  pe_we (pe_callTy call_max hg hm (by decide +kernel) (pa_cons pe_max pa_nil he) (by decide) (by decide) he hpl) (q_un (r := fun x H Q => cM X (.type "list") [x] H Q) sa (fun B w σ H fr h x d z Q R rx q k => by
    obtain ⟨l, el, rfl⟩ := Option.map_eq_some_iff.mp q
    obtain ⟨p, vs, rfl, rl, sq⟩ := its_rel R (.inl rx) el
    exact call_cm call_list_of ⟨p, vs, rfl, sq, fun q nq => new_lst R rl nq k⟩) B w σ H fr h Q z0 r1 p)
end
end Pk

/-! Pk34: repr of a truth value, bool of an integer or a truth value. -/
namespace Pk
open PySem PySem.Spec L2
def bRepr (_ : Hh) : D → Option D
  | .bl b => some (.str (if b then "True" else "False"))
  | _ => none
def bBool1 (_ : Hh) : D → Option D
  | .bl b => some (.bl b)
  | .int i => some (.bl (i != 0))
  | _ => none
section
variable {X : Cx} {T : Tb} {W : WX} {a : Expr} {ma : M D} {pos pf : Pos}
theorem call_reprB : CallR X (.builtin "repr") (fun xs H Q => ∃ k, xs = [.bl k] ∧ Q (.str (if k then "True" else "False")) H) := by
  intro pins s σ H xs us Q I r h
  obtain ⟨k, rfl, q⟩ := h
  obtain ⟨u, rfl, r1⟩ := vals1 r
  obtain rfl : u = Value.bool k := r1
  exact P.repr_of_bool ⟨.str (if k then "True" else "False"), H, I.tok _, ⟨_, rfl⟩, q⟩
theorem sv_repr (sa : SimV X T W a ma) (hm : X.mg "repr" = none) (hg : Gl X "repr" := by rfl) (he : starEach (a :: []) X.env = (false, eval a X.env) :: starEach [] X.env := by exact star_no rfl) : SimV X T W (.Call (.Name "repr" pf) [a] [] pos) (mUn bRepr ma) :=
  s_b1 (id := "repr") sa (fun B w σ H fr h x d z Q R rx q k => by
    unfold bRepr at q
    split at q
    · cases q
      rw [rel_bl rx]
      exact call_cm call_reprB ⟨_, rfl, k w H _ (Wd.le_refl _) R (.str _)⟩
    · cases q) hm hg (by decide +kernel) (by decide) (by decide) he
theorem sv_bool1 (sa : SimV X T W a ma) (hm : X.mg "bool" = none) (hg : Gl X "bool" := by rfl) (he : starEach (a :: []) X.env = (false, eval a X.env) :: starEach [] X.env := by exact star_no rfl) : SimV X T W (.Call (.Name "bool" pf) [a] [] pos) (mUn bBool1 ma) :=
  s_t1 (id := "bool") sa (fun B w σ H fr h x d z Q R rx q k => by
    unfold bBool1 at q
    split at q
    · cases q
      rw [rel_bl rx]
      exact call_cm call_bool1 (.inr ⟨_, rfl, k w H _ (Wd.le_refl _) R (.bl _)⟩)
    · cases q
      rw [rel_int rx]
      exact call_cm call_bool1 (.inl ⟨_, rfl, k w H _ (Wd.le_refl _) R (.bl _)⟩)
    · cases q) hm hg (by decide +kernel) (by decide) (by decide) he
end
end Pk

/-! Pk35: texts of own errors: "..." + " ".join(f), f-strings. -/
namespace Pk
open PySem PySem.Spec PyProof.Rows L2
/-- the text that an __init__ hands on -/
def exArg : List Stmt → Expr
  | .Expr (.Call _ [e] _ _) _ :: _ => e
  | _ => .Name "" ⟨0, 0, 0, 0⟩
/-- the items of a tuple in the real heap -/
theorem sqT_real {K : PySem.W.Frag} {P : Program} {w : World} {H : Hp} {h0 h : Heap} {a : Addr} {vs : List V} (X : K.In h) (ok : HOk P w H h0) (k : ∀ b o, h0.get? b = some o → h.get? b = some o) (s : SqT K H a vs) : ∃ its : Array Value, Vals vs its.toList ∧ IsTup h a its := by
  rcases s with s | ⟨o, its, n, e1, e2, e3, e4, e5⟩
  · obtain ⟨_, its, rv, t⟩ := Rd.ok s ok
    exact ⟨its.toArray, by simpa using rv, t.keeps k⟩
  · exact ⟨its, e5, o, X _ _ e1, e2, n, e3⟩
theorem strs_are {ss : List Str} : ∀ {us : List Value}, Vals (ss.map V.str) us → StrsAre us ss := by
  induction ss with
  | nil => intro us h; cases h; exact .nil
  | cons a l ih =>
    intro us h
    cases h with
    | cons r1 r2 =>
      obtain ⟨t, rfl⟩ := r1
      exact .cons a t (ih r2)
theorem rel_strs {K : PySem.W.Frag} {T : Tb} {w : Wd} : ∀ {ss : List Str} {vs : List V}, RelDs K T w vs (ss.map D.str) → vs = ss.map V.str
  | [], _, .nil => rfl
  | s :: ss, _, .cons h t => by
    cases h
    rw [rel_strs t]
    rfl
/-- the strings of a tree's items -/
def strsD : List D → Option (List Str)
  | [] => some []
  | .str s :: r => (strsD r).map (s :: ·)
  | _ => none
theorem strsD_eq : ∀ {l : List D} {ss : List Str}, strsD l = some ss → l = ss.map D.str
  | [], ss, h => by cases h; rfl
  | d :: r, ss, h => by
    cases d with
    | str s =>
      unfold strsD at h
      cases e : strsD r with
      | none => rw [e] at h; cases h
      | some q =>
        rw [e] at h
        cases h
        rw [strsD_eq e]
        rfl
    | _ => cases h
/-- a tuple of short words -/
def okWords (K : PySem.W.Frag) (H : Hp) (vs : List V) : Prop := ∃ (a : Addr) (ss : List Str), vs = [.ref a] ∧ SqT K H a (ss.map V.str) ∧ (ss.map (·.length)).sum + ss.length ≤ 1000
def chkWords (ds : List D) : Bool := match ds with
  | [.tup l] => match strsD l with
    | some ss => decide ((ss.map (·.length)).sum + ss.length ≤ 1000)
    | none => false
  | _ => false
theorem hok_words {K : PySem.W.Frag} {T : Tb} {w : Wd} {H : Hp} {vs : List V} {ds : List D} (sub : ∀ a o, w.F a = some o → H a = some o) (r : RelDs K T w vs ds) (e : chkWords ds = true) : okWords K H vs := by
  unfold chkWords at e
  split at e
  · rename_i l
    split at e
    · rename_i ss es
      rw [strsD_eq es] at r
      cases r with
      | cons r1 r2 =>
        cases r2
        cases r1 with
        | tup s rr =>
          rw [rel_strs rr] at s
          exact ⟨_, ss, rfl, sqT_le sub s, of_decide_eq_true e⟩
    · cases e
  · cases e
theorem join_len {z sep : Str} (hz : z.length ≤ 1000) (hs : sep.length ≤ 16) : ∀ ss : List Str, (ss.map (·.length)).sum + ss.length ≤ 1000 → z.length + (Txt.join sep ss).length ≤ sizeLine := by
  intro ss h
  have e : Txt.join sep ss = Str.join sep ss := eq_of_beq (join_plain_closes sep ss)
  have b : (100000 : Nat) ≤ sizeLine := by decide
  rw [e]
  cases ss with
  | nil =>
    have q : (Str.join sep []).length = 0 := rfl
    omega
  | cons a l =>
    rw [len_join_cons]
    simp only [List.length_cons] at h
    have q : l.length * sep.length ≤ l.length * 16 := Nat.mul_le_mul_left _ hs
    omega
/-- "..." + "sep".join(f) -/
theorem hE_join {K : PySem.W.Frag} {scope : Scope} {qual : Str} {H0 : Hp} {vs : List V} {us : List Value} (z sep f : Str) {j j2 : Nat} {pos pos2 pos3 pos4 pos5 pos6 : Pos} {L fI cda cc x : Addr} {prog : Program} {w : World} {A' : Around} {h0 h : Heap} {g : Array GenState} {d : Drawn} {t : Nat} {os : OsState} {E' : Value → Shared → Prop} {Q : Value → Shared → Prop}
    (ok : okWords K H0 vs) (rv : Vals vs us) (hz : z.length ≤ 1000) (hsep : sep.length ≤ 16) (hk : scope.kind = .function) (hl : scope.names.lookup f = some .local) (hd : (f == ("__debug__" : Str)) = false)
    (X : K.In h) (hH : HOk prog w H0 h0) (kp : ∀ b o, h0.get? b = some o → h.get? b = some o)
    (hn : h.Ns L (fun y => ((("self" : Str) :: [f]).zip (Value.ref x :: us)).reverse.lookup y)) (hq : ∀ v t', Q v ⟨h, g, d, t', os⟩) (hline : (pos3.endLine == pos5.line) = true) (hlen : ∀ ss : List Str, (ss.map (·.length)).sum + ss.length ≤ 1000 → z.length + (Txt.join sep ss).length ≤ sizeLine) :
    wpAny (model prog w) A' (eval (.BinOp (.Constant (.str z) j pos) .Add (.Call (.Attribute (.Constant (.str sep) j2 pos2) "join" pos3) [.Name f pos4] [] pos5) pos6) (PySem.W.ksEnv qual scope L fI (.ref cda) cc)) Q E' ⟨h, g, d, t, os⟩ := by
  obtain ⟨a, ss, rfl, s, hw⟩ := ok
  cases rv with
  | cons r1 r2 =>
    rename_i u us'
    cases r2
    have r1' : u = Value.ref a := r1
    subst r1'
    obtain ⟨its, rs, tp⟩ := sqT_real X hH kp s
    refine wpAny_BinOp (wpAny_Constant_str ?_)
    refine wpAny_Call_method_late rfl rfl hline rfl (wpAny_Constant_str ?_)
    refine ⟨"str", "str.join", PySem.F.plainAttrs_str, F.slot_str_join, F.type_str_join, typeIs_str _ _ _, (fun _ q => nomatch q), ?_⟩
    refine Calls.callWith_builtin rfl (Calls.evalArgs_plain ?_)
    refine PySem.ExS.spliced1 ?_
    refine wpAny_Name (wpAny_loadName_local hk (show (PySem.W.ksEnv qual scope L fI (.ref cda) cc).kindOf f = some .local from hl) hn (v := Value.ref a) (by show List.lookup f [(f, Value.ref a), (("self" : Str), Value.ref x)] = some _; simp [List.lookup]) ?_) hd
    refine join_tupleW tp (strs_are rs) hsep (by omega) fun t' k => ?_
    exact PyProof.Rows.add_str (fun _ _ => hq _ _) (hlen ss hw)
/-! ### f-strings -/
inductive JP (scope : Scope) (m : Str → Option Value) : List Expr → List Str → Prop
  | nil : JP scope m [] []
  | con {z : Str} {j : Nat} {pos : Pos} {es : List Expr} {ys : List Str} (hz : z.length ≤ 2000) (r : JP scope m es ys) : JP scope m (.Constant (.str z) j pos :: es) (z :: ys)
  | int {f : Str} {i : Int} {t : Tok} {pos pos2 : Pos} {es : List Expr} {ys : List Str} (hl : scope.names.lookup f = some .local) (hd : (f == ("__debug__" : Str)) = false) (hm : m f = some (.int i t)) (hi : i.natAbs.log2 < 1920) (r : JP scope m es ys) : JP scope m (.FormattedValue (.Name f pos) (-1) none pos2 :: es) (toString i :: ys)
  | str {f y : Str} {t : Tok} {pos pos2 : Pos} {es : List Expr} {ys : List Str} (hl : scope.names.lookup f = some .local) (hd : (f == ("__debug__" : Str)) = false) (hm : m f = some (.str y t)) (hy : y.length ≤ 2000) (r : JP scope m es ys) : JP scope m (.FormattedValue (.Name f pos) (-1) none pos2 :: es) (y :: ys)
section
variable {scope : Scope} {qual : Str} {m : Str → Option Value} {L fI cda cc : Addr} {prog : Program} {w : World} {A' : Around} {h : Heap} {g : Array GenState} {d : Drawn} {os : OsState} {E' : Value → Shared → Prop}
theorem int_len {i : Int} (h : i.natAbs.log2 < 1920) : ((toString i : String) : Str).length ≤ 2000 := by
  have e := int_text_length_le (k := 1920) (by decide) h
  have e2 : ((toString i : String) : Str).length = (toString i).length := PySem.ofString_length _
  rw [e2]
  omega
theorem jp_run (hk : scope.kind = .function) (hn : h.Ns L m) {es : List Expr} {ys : List Str} (p : JP scope m es ys) : ∀ (acc : Str) (t : Nat) (R : Str → Shared → Prop), acc.length + 2000 * es.length ≤ sizeLine → (∀ out t', out.length ≤ sizeLine → R out ⟨h, g, d, t', os⟩) →
    Joins (model prog w) A' E' (evalEach es (PySem.W.ksEnv qual scope L fI (.ref cda) cc)) acc R ⟨h, g, d, t, os⟩ := by
  induction p with
  | nil =>
    intro acc t R hz k
    have e0 : evalEach [] (PySem.W.ksEnv qual scope L fI (.ref cda) cc) = [] := by first | rfl | simp [evalEach]
    rw [e0]
    exact k acc t (by simpa using hz)
  | @con z j pos es ys hz r ih =>
    intro acc t R hs k
    have e0 : evalEach (Expr.Constant (.str z) j pos :: es) (PySem.W.ksEnv qual scope L fI (.ref cda) cc) = eval (Expr.Constant (.str z) j pos) (PySem.W.ksEnv qual scope L fI (.ref cda) cc) :: evalEach es (PySem.W.ksEnv qual scope L fI (.ref cda) cc) := by first | rfl | simp [evalEach]
    rw [e0]
    simp only [List.length_cons] at hs
    have hl : (acc ++ z).length = acc.length + z.length := strLen_append ..
    exact wpAny_Constant_str ⟨z, _, rfl, by omega, ih (acc ++ z) _ R (by omega) k⟩
  | @int f i t0 pos pos2 es ys hl hd hm hi r ih =>
    intro acc t R hs k
    have e0 : evalEach (Expr.FormattedValue (.Name f pos) (-1) none pos2 :: es) (PySem.W.ksEnv qual scope L fI (.ref cda) cc) = eval (Expr.FormattedValue (.Name f pos) (-1) none pos2) (PySem.W.ksEnv qual scope L fI (.ref cda) cc) :: evalEach es (PySem.W.ksEnv qual scope L fI (.ref cda) cc) := by first | rfl | simp [evalEach]
    rw [e0]
    simp only [List.length_cons] at hs
    have hy := int_len hi
    have hl2 : (acc ++ ((toString i : String) : Str)).length = acc.length + ((toString i : String) : Str).length := strLen_append ..
    refine wpAny_FormattedValue_plain (wpAny_Name (wpAny_loadName_local hk (show (PySem.W.ksEnv qual scope L fI (.ref cda) cc).kindOf f = some .local from hl) hn hm ?_) hd)
    exact wpAny_formatField_int hi ⟨_, _, rfl, by omega, ih _ _ R (by omega) k⟩
  | @str f y t0 pos pos2 es ys hl hd hm hy r ih =>
    intro acc t R hs k
    have e0 : evalEach (Expr.FormattedValue (.Name f pos) (-1) none pos2 :: es) (PySem.W.ksEnv qual scope L fI (.ref cda) cc) = eval (Expr.FormattedValue (.Name f pos) (-1) none pos2) (PySem.W.ksEnv qual scope L fI (.ref cda) cc) :: evalEach es (PySem.W.ksEnv qual scope L fI (.ref cda) cc) := by first | rfl | simp [evalEach]
    rw [e0]
    simp only [List.length_cons] at hs
    have hl2 : (acc ++ y).length = acc.length + y.length := strLen_append ..
    refine wpAny_FormattedValue_plain (wpAny_Name (wpAny_loadName_local hk (show (PySem.W.ksEnv qual scope L fI (.ref cda) cc).kindOf f = some .local from hl) hn hm ?_) hd)
    exact wpAny_formatField_str ⟨_, _, rfl, by omega, ih _ _ R (by omega) k⟩ ⟨_, _, rfl, by omega, ih _ _ R (by omega) k⟩ (by have : (2000 : Nat) ≤ sizeLine := by decide
                                                                                                                              omega)
theorem hE_fmt {t : Nat} {Q : Value → Shared → Prop} {v1 v2 : Expr} {rest : List Expr} {ys : List Str} {pos : Pos} (hk : scope.kind = .function) (hn : h.Ns L m) (p : JP scope m (v1 :: v2 :: rest) ys) (hl : rest.length ≤ 1000) (hq : ∀ v t', Q v ⟨h, g, d, t', os⟩) :
    wpAny (model prog w) A' (eval (.JoinedStr (v1 :: v2 :: rest) pos) (PySem.W.ksEnv qual scope L fI (.ref cda) cc)) Q E' ⟨h, g, d, t, os⟩ :=
  wpAny_JoinedStr (jp_run hk hn p Str.empty t _ (by
    have : (2004000 : Nat) ≤ sizeLine := by decide
    have e : Str.empty.length = 0 := rfl
    simp only [List.length_cons]
    omega) fun out t' hz => ⟨hz, hq _ _⟩)
end
end Pk

/-! Pk36: except of a class or of four classes, with a name or without. -/
namespace L2
open PySem PySem.Spec PyProof.Rows
theorem flying_keepsZ {B : Heap} {l : List Env} {e : Addr} {Z : Obj → Prop} {h h' : Heap} (R : HandSPX.FlyingZ B l e Z h) (k : ∀ b o, h.get? b = some o → h'.get? b = some o) : HandSPX.FlyingZ B l e Z h' := by
  obtain ⟨f1, f2, f3, oe, ws, T, oT, ts, he, hz, hd, h1, hn, hne, hT, hdT, h3⟩ := R
  exact ⟨fun b o q => k b o (f1 b o q), f2, f3.of_keeps fun b o q _ => ⟨o, k b o q, rfl⟩, oe, ws, T, oT, ts, k _ _ he, hz, hd, h1, hn, hne, k _ _ hT, hdT, h3⟩
/-- what a clause's test tells of the caught error's class -/
def TestOk (X : Cx) (te : Expr) (tst : Value → Option Bool) : Prop :=
  ∀ (a : Addr) (oe : Obj) (pn pins : List (Addr × Obj)) (σ : St) (H : Hp) (s : Shared) (cls : Value) (b : Bool) (Q : Bool → Shared → Prop) (E : Value → Shared → Prop), Inv (X.suite a ((a, oe) :: pn)) pins σ H s → PySem.W.Looks (model X.prog X.w) s.heap (typeOf (.ref a)) cls → tst cls = some b →
    (∀ h', (∀ q o, s.heap.get? q = some o → h'.get? q = some o) → Q b { s with heap := h' }) →
    wpAny (model X.prog X.w) (X.A.mark (some (.ref a))) (eval te X.env) (fun c s1 => wpAny (model X.prog X.w) (X.A.mark (some (.ref a))) (excMatches (.ref a) c) Q E s1) E s
theorem look_name {X : Cx} {x : Str} {c : Value} {np : Pos} {a : Addr} {oe : Obj} {pn pins : List (Addr × Obj)} {σ : St} {H : Hp} {s : Shared} {Q : Value → Shared → Prop} {E : Value → Shared → Prop} (I : Inv (X.suite a ((a, oe) :: pn)) pins σ H s) (hc : Names X x c) (q : Q c s) : wpAny (model X.prog X.w) (X.A.mark (some (.ref a))) (eval (.Name x np) X.env) Q E s := by
  obtain ⟨hg, hdbg, hm | ⟨hm, hv, hnn⟩⟩ := hc
  · exact ld_glob (X := X.suite a ((a, oe) :: pn)) I hg hm q hdbg
  · exact ld_blt (X := X.suite a ((a, oe) :: pn)) I hg hm hv q hnn hdbg
theorem test_one {X : Cx} {x : Str} {c : Value} {np : Pos} (hc : Names X x c) : TestOk X (.Name x np) (fun cls => PySem.W.exmOne X.K cls c) := by
  intro a oe pn pins σ H s cls b Q E I LT hb q
  exact look_name I hc ((PySem.W.exm_one (M := model X.prog X.w) I.kIn LT hb).here (q s.heap fun _ _ z => z))
theorem test_four {X : Cx} {x1 x2 x3 x4 : Str} {c1 c2 c3 c4 : Value} {p1 p2 p3 p4 tpos : Pos} {kk : Nat} (n1 : Names X x1 c1) (n2 : Names X x2 c2) (n3 : Names X x3 c3) (n4 : Names X x4 c4) :
    TestOk X (.Tuple [.Name x1 p1, .Name x2 p2, .Name x3 p3, .Name x4 p4] kk tpos) (fun cls => PySem.W.exmAny X.K cls [c1, c2, c3, c4]) := by
  intro a oe pn pins σ H s cls b Q E I LT hb q
  refine wpAny_Tuple ?_
  refine wpAny_items_cons (look_name I n1 ?_)
  refine wpAny_items_cons (look_name I n2 ?_)
  refine wpAny_items_cons (look_name I n3 ?_)
  refine wpAny_items_cons (look_name I n4 ?_)
  refine wpAny_items_nil ⟨by size_fits, ?_⟩
  have kp : ∀ q o, s.heap.get? q = some o → (s.heap.push { cls := .type "tuple", data := .seq [c1, c2, c3, c4].toArray }).get? q = some o := fun _ _ z => Heap.get?_push_of_some _ z
  exact (PySem.W.exm_tup4 (I.kIn.keeps kp) (LT.keeps kp) (Heap.get?_push_size s.heap rfl) hb).here (q _ kp)
abbrev ClauseT := (Value → Option Bool) × Option Nat × (Addr → Value → Option Addr → TS)
def wAnyT (Wout : WX) (D : Ends) : List ClauseT → WX
  | [] => Wout
  | (c, oi, ts) :: r => fun cls d σ H => ∃ b, c cls = some b ∧ (b = true → ∀ a, H a = none → ts a cls d (endsAt oi D) (slotAt oi σ a) H) ∧ (b = false → wAnyT Wout D r cls d σ H)
inductive ClausesT (X : Cx) : List ExceptHandler → List ClauseT → Prop
  | nil : ClausesT X [] []
  | cons {te : Expr} {c : Value → Option Bool} {ts : Addr → Value → Option Addr → TS} {b₀ : Stmt} {suite : List Stmt} {pos' : Pos} {nm : Option Str} {oi : Option Nat} {hds : List ExceptHandler} {l : List ClauseT} (hc : TestOk X te c) (hn : NameAt X nm oi)
      (hsu : ∀ (a : Addr) (oe : Obj) (cls : Value) (d : Option Addr) (pn : List (Addr × Obj)), Zc cls d oe → (∃ vs, oe.data = .fields vs) → PSs (X.suite a ((a, oe) :: pn)) (b₀ :: suite) (ts a cls d)) (r : ClausesT X hds l) :
      ClausesT X (.ExceptHandler (some te) nm (b₀ :: suite) pos' :: hds) ((c, oi, ts) :: l)
section
variable {X : Cx} {body : List Stmt} {h₀ : ExceptHandler} {hds : List ExceptHandler} {l : List ClauseT} {pos : Pos} {tb : WX → TS} {Wout : WX}
theorem ps_try_t (hs : X.stack = X.env :: X.outer) (hf : X.env.frame = some X.env.locals) (hN : X.N.Nodup) (tk : Takes X Wout)
    (hb : ∀ (W : WX) (pn : List (Addr × Obj)) (xe : Value → Shared → Prop), Takes (X.tr pn xe) W → PassesOwn (model X.prog X.w) X.A X.env xe → PSs (X.tr pn xe) body (tb W))
    (hh : ClausesT X (h₀ :: hds) l) : PS X (.Try body (h₀ :: hds) [] [] pos) (fun D σ H => tb (wAnyT Wout D l) D σ H) := by
  refine ⟨fun pins s σ H D I h => ?_⟩
  have ok := I.ok
  have hfr : X.A.frames = some (X.env :: X.outer) := by rw [ok.frames, hs]
  have back : ∀ {f : Flow} {s1 : Shared} {Y : Cx} {pins0 : List (Addr × Obj)}, (∀ {σ2 H2}, Inv Y pins0 σ2 H2 s1 → Inv X pins σ2 H2 s1) → SP Y pins0 D f s1 → SP X pins D f s1 := fun {f s1 Y pins0} u hsp => by
    cases f with
    | ret v =>
      obtain ⟨v', σ', H', J', q⟩ := hsp
      exact ⟨v', σ', H', u J', q⟩
    | _ =>
      obtain ⟨σ', H', J', q⟩ := hsp
      exact ⟨σ', H', u J', q⟩
  refine wpAny_Try_except ?_
  refine wpAny_mono ((hb (wAnyT Wout D l) (X.pn ++ pins) (fun e s₁ => wpAny (model X.prog X.w) X.A (noteFrame e X.env) (fun _ s₂ => wpAny (model X.prog X.w) X.A (setFlight e none) (fun _ s₃ =>
    wpAny (model X.prog X.w) X.A (handleBy e X.env (h₀ :: hds)) (SP X pins D) X.xe s₃) X.xe s₂) X.xe s₁) (fun u s' xx => ?_) PassesOwn.looking).run [] s σ H D (I.toTry _) h) (fun f s1 hsp => ?_) (fun e s1 he => he)
  · obtain ⟨a, B, sI, pins', σ', H', cls, d, rfl, J', nb, up, sky, na, os, ag, w⟩ := xx
    have J : Inv X pins σ' H' sI := J'.ofTry ok
    rw [hs] at sky
    show wpAny (model X.prog X.w) X.A (noteFrame (.ref a) X.env) _ _ _
    refine Sky.land Zc.steady hfr hf sky fun h3 fl3 up3 => ?_
    suffices go : ∀ {hs' : List ExceptHandler} {l' : List ClauseT}, ClausesT X hs' l' → wAnyT Wout D l' cls d σ' H' → ∀ h3, HandSPX.FlyingZ B (X.env :: X.outer) a (Zc cls d) h3 → Heap.UpToSlots s'.heap h3 → wpAny (model X.prog X.w) X.A (handleBy (.ref a) X.env hs') (SP X pins D) X.xe { s' with heap := h3 } from go hh w h3 fl3 up3
    clear up3 fl3 h3
    intro hs' l' hk
    induction hk with
    | nil =>
      intro w h3 fl3 up3
      refine wpAny_handleBy_nil ?_
      obtain ⟨k1, k2, k3, oe, vs, T, oT, ts', he, hz, hd, h1, hr⟩ := id fl3
      have last : wpAny (model X.prog X.w) X.A (setFlight (.ref a) X.env.frame) (fun _ s4 => wpAny (model X.prog X.w) X.A (throw (.ref a) : Sem Flow) (SP X pins D) X.xe s4) X.xe { s' with heap := h3 } := by
        rw [hf]
        exact HandSPX.setFlight_upZ fl3 fun h4 hh4 up4 => wpAny_throw (tk _ _ ⟨a, B, sI, pins, σ', H', cls, d, rfl, J, nb, (up.trans up3).trans up4, .inr (.inr (by rw [hs]; exact hh4)), na, os, ag, w⟩)
      unfold PySem.passOn
      refine wpAny_bind (wpAny_field he hd h1 ?_)
      rw [if_neg (show ¬ ((Value.ref T == Value.none) = true) from by simp)]
      first
        | exact wpAny_bind (wpAny_pure (wpAny_bind last))
        | exact wpAny_bind last
    | @cons te c ts b₀ suite pos' nm oi hds2 l2 hc hn hsu r ih =>
      rintro ⟨b, hb1, hyes, hno⟩ h3 fl3 up3
      obtain ⟨oe3, vs3, he3, hz3, hd3⟩ := fl3.there
      have nfr : a ∉ frs (X.env :: X.outer) := fun hm => by
        obtain ⟨_, o', e', hnf⟩ := (fl3.2.2.1 : h3.FunFrames B (X.env :: X.outer)).mem hm
        rw [he3] at e'
        cases e'
        exact hnf _ hd3
      have nL : a ≠ X.env.locals := fun z => nfr (List.mem_filterMap.mpr ⟨X.env, List.mem_cons_self, by rw [hf, z]⟩)
      have nF : a ∉ X.fs := fun hm => by
        obtain ⟨e, he, q⟩ := List.mem_filterMap.mp hm
        exact nfr (List.mem_filterMap.mpr ⟨e, List.mem_cons_of_mem _ he, q⟩)
      have J3 : Inv X pins σ' H' { s' with heap := h3 } := J.landed nb fl3.1 (up.trans up3) os ag
      have S3 := J3.suite he3 hd3 na nL nF
      have LT : PySem.W.Looks (model X.prog X.w) h3 (typeOf (.ref a)) cls := fun A Q E s k q => wpAny_typeOf_ref (k _ _ he3) (by rw [hz3.1]; exact q)
      refine wpAny_handleBy_cons (codeAny_handlers_test (hc a oe3 _ _ _ _ _ cls b _ _ S3 LT hb1 fun h3' kp => ?_)) (by intro q; cases q)
      have fl3 := flying_keepsZ fl3 kp
      have up3 : Heap.UpToSlots s'.heap h3' := up3.trans (Heap.UpToSlots.of_keeps kp)
      cases b with
      | false => exact ih (hno rfl) h3' fl3 up3
      | true =>
        cases hn with
        | no =>
          refine codeAny_handlers_suite (HandSPX.lands_againZ fl3 fun h4 fl4 up4 => ?_)
          obtain ⟨oe4, vs4, he4, hz4, hd4⟩ := fl4.there
          have S4 := (J.landed nb fl4.1 ((up.trans up3).trans up4) os ag : Inv X pins σ' H' { s' with heap := h4 }).suite he4 hd4 na nL nF
          exact wpAny_mono ((hsu a oe4 cls d (X.pn ++ pins) hz4 ⟨_, hd4⟩).run [] _ _ H' _ S4 (hyes rfl a na)) (fun f s6 hsp => back (fun S6 => S6.unsuite ok) hsp) (fun _ _ z => False.elim z)
        | at_ hi hln =>
          refine codeAny_handlers_suite_as (HandSPX.lands_againZ fl3 fun h4 fl4 up4 => ?_)
          obtain ⟨oe4, vs4, he4, hz4, hd4⟩ := fl4.there
          have S4 := (J.landed nb fl4.1 ((up.trans up3).trans up4) os ag : Inv X pins σ' H' { s' with heap := h4 }).suite he4 hd4 na nL nF
          refine store_ok (X := X.suite a ((a, oe4) :: (X.pn ++ pins))) (v := .ref a) S4 hN hi (.inl hln) rfl (fun s5 S5 => ?_) (.inr hln)
          refine wpAny_mono ((hsu a oe4 cls d (X.pn ++ pins) hz4 ⟨_, hd4⟩).run [] s5 _ H' _ S5 (hyes rfl a na)) (fun f s6 hsp => ?_) (fun _ _ z => False.elim z)
          cases f with
          | ret u =>
            obtain ⟨v6, σ6, H6, S6, r6, q6⟩ := hsp
            exact gone_ok (S6.unsuite ok) hN hi hln fun s7 J7 => ⟨_, _, _, J7, r6, q6⟩
          | _ =>
            obtain ⟨σ6, H6, S6, q6⟩ := hsp
            exact gone_ok (S6.unsuite ok) hN hi hln fun s7 J7 => ⟨_, _, J7, q6⟩
  · cases f with
    | next => exact wpAny_execs_nil (back (fun J' => J'.ofTry ok) hsp)
    | brk => exact back (fun J' => J'.ofTry ok) hsp
    | cont => exact back (fun J' => J'.ofTry ok) hsp
    | ret u => exact back (fun J' => J'.ofTry ok) hsp
end
end L2
namespace Pk
open PySem PySem.Spec L2
section
variable {X : Cx} {T : Tb} {W : WX} {k : Nat} {body : List Stmt} {h₀ : ExceptHandler} {hds : List ExceptHandler} {pos : Pos} {mb : M Fl} {cs : List Hd}
inductive SimHdT (X : Cx) (T : Tb) (W : WX) : List ExceptHandler → List Hd → Prop
  | nil : SimHdT X T W [] []
  | named {te : Expr} {n : Str} {tst : Value → Option Bool} {cond : Nat → Option Bool} {b₀ : Stmt} {suite : List Stmt} {pos' : Pos} {i : Nat} {ms : Exn → M Fl} {hds : List ExceptHandler} {l : List Hd} (hi : X.N[i]? = some n) (hln : X.env.kindOf n = some .local) (hc : TestOk X te tst)
      (hcond : ∀ cc b, cond cc = some b → tst (.ref (T.cad cc)) = some b)
      (hsu : ∀ (a : Addr) (oe : Obj) (cls : Value) (d : Option Addr) (pn : List (Addr × Obj)) (y : Exn), Su X T i a oe cls d pn y → SqSs (PX X.K T i a y cls d) (X.suite a ((a, oe) :: pn)) T W (b₀ :: suite) (ms y))
      (r : SimHdT X T W hds l) : SimHdT X T W (.ExceptHandler (some te) (some n) (b₀ :: suite) pos' :: hds) ((some i, cond, ms) :: l)
  | only {te : Expr} {tst : Value → Option Bool} {cond : Nat → Option Bool} {b₀ : Stmt} {suite : List Stmt} {pos' : Pos} {ms : Exn → M Fl} {hds : List ExceptHandler} {l : List Hd} (hc : TestOk X te tst)
      (hcond : ∀ cc b, cond cc = some b → tst (.ref (T.cad cc)) = some b)
      (hsu : ∀ (a : Addr) (oe : Obj) (pn : List (Addr × Obj)) (y : Exn), SqSs (fun _ _ => True) (X.suite a ((a, oe) :: pn)) T W (b₀ :: suite) (ms y))
      (r : SimHdT X T W hds l) : SimHdT X T W (.ExceptHandler (some te) none (b₀ :: suite) pos' :: hds) ((none, cond, ms) :: l)
theorem hdt_pick (hh : SimHdT X T W hds cs) : ∃ cl, ClausesT X hds cl ∧ ∀ {B : Bs} {w w1 : Wd} {σ1 : L2.St} {H1 : Hp} {fr1 : Fr} {h1 : Hh} {D : Ends} {y : Exn} {cls : Value} {dd : Option Addr}, w.le w1 → Rel X.K T B w1 σ1 H1 fr1 h1 → ExcR X.K T w1 y cls dd → PostS X.K T B W w (pickN cs y fr1 h1) D → wAnyT W D cl cls dd σ1 H1 := by
  induction hh with
  | nil => exact ⟨[], .nil, fun {B w w1 σ1 H1 fr1 h1 D y cls dd} l1 r1 ex p => p w1 σ1 H1 cls dd l1 r1 ex⟩
  | @named te n tst cond b₀ suite pos' i ms hds l hi hln hc hcond hsu r ih =>
    obtain ⟨cl, ok, hp⟩ := ih
    refine ⟨(tst, some i, fun a cls d D σ H => ∀ oe pn, Zc cls d oe → (∃ vs, oe.data = .fields vs) → WSs (X.suite a ((a, oe) :: pn)) (b₀ :: suite) D σ H) :: cl, .cons hc (.at_ hi hln) (fun a oe cls d pn hz hd => ⟨fun pins s σ H D I hh => (hh oe pn hz hd).go pins s I⟩) ok, fun {B w w1 σ1 H1 fr1 h1 D y cls dd} l1 r1 ex p => ?_⟩
    unfold pickN at p
    dsimp only at p
    cases ec : cond y.c with
    | none => rw [ec] at p; exact p.elim
    | some bb =>
      rw [ec] at p
      refine ⟨bb, by rw [ex.1]; exact hcond _ _ ec, fun eb a na oe pn' hz hd => ?_, fun eb => ?_⟩
      · subst eb
        dsimp only at p
        by_cases hl : i < fr1.length
        · rw [if_pos hl] at p
          have hl2 : i < σ1.length := by rw [← r1.fl]; exact hl
          refine hsu a oe cls dd pn' y ⟨hz, hd⟩ B w1 (σ1.set i (some (.ref a))) H1 (fr1.set i none) h1 _ ⟨by rw [List.getElem?_set_self hl2], ex⟩ (r1.set_slot .none (fun _ _ _ q => by cases q) fun _ _ q => by cases q) ?_
          have p2 : PostS X.K T B W w1 (endA i (ms y (fr1.set i none) h1)) D := PostS.le l1 p
          cases e2 : ms y (fr1.set i none) h1 with
          | err => rw [e2] at p2; exact p2
          | exc y2 fr2 h2 => rw [e2] at p2; exact p2
          | ok f fr2 h2 =>
            rw [e2] at p2
            cases f with
            | nx => exact fun w2 σ2 H2 l2 _ r2 => p2 w2 _ H2 l2 (r2.set_slot .none (fun _ _ _ q => by cases q) fun _ _ q => by cases q)
            | brk => exact fun w2 σ2 H2 l2 r2 => p2 w2 _ H2 l2 (r2.set_slot .none (fun _ _ _ q => by cases q) fun _ _ q => by cases q)
            | ct => exact fun w2 σ2 H2 l2 r2 => p2 w2 _ H2 l2 (r2.set_slot .none (fun _ _ _ q => by cases q) fun _ _ q => by cases q)
            | rt d => exact p2
        · rw [if_neg hl] at p
          exact p.elim
      · subst eb
        exact hp l1 r1 ex p
  | @only te tst cond b₀ suite pos' ms hds l hc hcond hsu r ih =>
    obtain ⟨cl, ok, hp⟩ := ih
    refine ⟨(tst, none, fun a cls d D σ H => ∀ oe pn, Zc cls d oe → (∃ vs, oe.data = .fields vs) → WSs (X.suite a ((a, oe) :: pn)) (b₀ :: suite) D σ H) :: cl, .cons hc .no (fun a oe cls d pn hz hd => ⟨fun pins s σ H D I hh => (hh oe pn hz hd).go pins s I⟩) ok, fun {B w w1 σ1 H1 fr1 h1 D y cls dd} l1 r1 ex p => ?_⟩
    unfold pickN at p
    dsimp only at p
    cases ec : cond y.c with
    | none => rw [ec] at p; exact p.elim
    | some bb =>
      rw [ec] at p
      refine ⟨bb, by rw [ex.1]; exact hcond _ _ ec, fun eb a na oe pn' hz hd => ?_, fun eb => ?_⟩
      · subst eb
        exact hsu a oe pn' y B w1 σ1 H1 fr1 h1 D trivial r1 (PostQ.of (PostS.le l1 p))
      · subst eb
        exact hp l1 r1 ex p
theorem s_tryT (C : Cq X T W k) (hs : X.stack = X.env :: X.outer) (hf : X.env.frame = some X.env.locals)
    (hb : ∀ (W' : WX) (pn : List (Addr × Obj)) (xe : Value → Shared → Prop), Cq (X.tr pn xe) T W' k → SimSs (X.tr pn xe) T W' body mb)
    (hh : SimHdT X T W (h₀ :: hds) cs) : SimS X T W (.Try body (h₀ :: hds) [] [] pos) (mTryN cs mb) := fun B w σ H fr h D R p => by
  obtain ⟨cl, ok, hp⟩ := hdt_pick hh
  refine ps_ws (ps_try_t (tb := fun W' D σ H => ∀ pn xe, Takes (X.tr pn xe) W' → PassesOwn (model X.prog X.w) X.A X.env xe → WSs (X.tr pn xe) body D σ H) (Wout := W) hs hf C.nd C.takes
    (fun W' pn xe tk po => ⟨fun pins s σ H D I hh => (hh pn xe tk po).go pins s I⟩) ok) ?_
  refine fun pn xe tk po => hb _ pn xe ⟨C.calm, C.nd, C.room, tk, po⟩ B w σ H fr h D R ?_
  unfold mTryN at p
  cases e : mb fr h with
  | err => rw [e] at p; exact p
  | ok f fr1 h1 =>
    rw [e] at p
    cases f <;> exact p
  | exc y fr1 h1 =>
    rw [e] at p
    dsimp only at p
    exact fun w1 σ1 H1 cls dd l1 r1 ex => hp l1 r1 ex p

/-- .. of a class, of four classes -/
theorem any4 {K : PySem.W.Frag} {cls c1 c2 c3 c4 : Value} {b1 b2 b3 b4 : Bool} (e1 : PySem.W.exmOne K cls c1 = some b1) (e2 : PySem.W.exmOne K cls c2 = some b2) (e3 : PySem.W.exmOne K cls c3 = some b3) (e4 : PySem.W.exmOne K cls c4 = some b4) :
    PySem.W.exmAny K cls [c1, c2, c3, c4] = some (b1 || (b2 || (b3 || (b4 || false)))) := by
  simp only [PySem.W.exmAny, e1, e2, e3, e4]
/-- an error class without an __init__ of its own -/
def basX (K : PySem.W.Frag) (C : Addr) : Bool := PySem.W.excIn K C [.type "ValueError", .type "Exception", .type "BaseException", .type "object"] "ValueError.__new__" && (PySem.W.keepIn K (.ref C) && (decide (PySem.W.subIn K (.ref C) (.type "BaseException") = some true) && decide (PySem.W.typeIn K (.ref C) = some (.type "type"))))
structure ExB (K : PySem.W.Frag) (C : Addr) : Prop where
  q : PySem.W.excIn K C [.type "ValueError", .type "Exception", .type "BaseException", .type "object"] "ValueError.__new__" = true
  kC : PySem.W.keepIn K (.ref C) = true
  exC : PySem.W.subIn K (.ref C) (.type "BaseException") = some true
  tyC : PySem.W.typeIn K (.ref C) = some (.type "type")
theorem basX_ok {K : PySem.W.Frag} {C : Addr} (h : basX K C = true) : ExB K C := by
  obtain ⟨c1, h⟩ := He.ba h
  obtain ⟨c2, h⟩ := He.ba h
  obtain ⟨c3, c4⟩ := He.ba h
  exact ⟨c1, c2, of_decide_eq_true c3, of_decide_eq_true c4⟩
/-- raise C(e): C made by the base class -/
def mRaiseB (c : Nat) (ma : M D) : M Fl := ma.bind fun _ fr h => .exc ⟨c, []⟩ fr h
theorem s_raiseB {x : Str} {c : Nat} {e : Expr} {p pos pos2 : Pos} {ma : M D} (C : Cq X T W k) (E : ExB X.K (T.cad c)) (hm : X.mg x = some (.ref (T.cad c))) (sa : SimV X T W e ma) (hg : Gl X x := by rfl) (hdb : (x == ("__debug__" : Str)) = false := by decide)
    (hs : starEach [e] X.env = (false, eval e X.env) :: starEach [] X.env := by exact star_no rfl) : SimS X T W (.Raise (some (.Call (.Name x p) [e] [] pos)) none pos2) (mRaiseB c ma) := fun B w σ H fr h D R pp =>
  ps_ws (ps_raise C.calm C.takes (SkE.pmk_own1 F.excBase_ValueError E.q hm E.kC (raises_own E.exC E.tyC) hg pe_max hs hdb)) (sa B w σ H fr h _ R (PostS.bind (VR := vV X.K T B σ) pp fun d fr1 h1 w1 H1 v e1 l1 r1 rx p1 => p1 w1 σ H1 _ none (Wd.le_refl _) r1 ⟨rfl, .inl ⟨rfl, rfl⟩⟩))
end
/-! ### + in a suite -/
section
variable {P : Wd → L2.St → Prop} {X : Cx} {T : Tb} {W : WX} {a b e : Expr} {m ma mb : M D} {pos : Pos}
theorem qv_fz (s : SqE P X T W e m) : SqV P X T W e (mFz m) := fun B w σ H fr h Q z0 r p => s B w σ H fr h Q z0 r (by
  refine Post.bind (VR := vE X.K T B σ) p fun d fr1 h1 w1 H1 v eq x r1 z p1 => ?_
  rcases z with z | ⟨p', o, rfl, O, lo, eH, rd⟩
  · rw [relD_fz z] at p1
    exact p1 w1 H1 v (Wd.le_refl _) r1 z
  · exact p1 (w1.add p' o) H1 (.ref p') (Wd.le_add O.f) (r1.freeze O lo eH) (rd.fz (Wd.le_add O.f) (by show upd w1.F p' _ p' = _; rw [upd_same])))
theorem qe_add (hP : MonP P) (sa : SqV P X T W a ma) (sb : SqV P X T W b mb) : SqE P X T W (.BinOp a .Add b pos) (mOp bAdd ma mb) := fun B w σ H fr h Q z0 r1 p =>
  pe_we (pe_op op_max pe_max pe_max) (q_op (VR := vE) hP sa sb (fun B w σ H fr h x y d e z Q R rx ry q k => by
    unfold bAdd at q
    split at q
    · cases q
      rw [rel_int rx, rel_int ry]
      exact op_rm op_add ⟨_, _, rfl, rfl, k w H _ (Wd.le_refl _) R (.inl (.int _))⟩
    · split at q
      · rename_i hl
        cases q
        rw [rel_str rx, rel_str ry]
        exact op_rm op_add_str ⟨_, _, rfl, rfl, big_line hl, k w H _ (Wd.le_refl _) R (.inl (.str _))⟩
      · cases q
    · split at q
      · rename_i ds es hl
        cases q
        obtain ⟨p1, vs, rfl, s1, r1⟩ := rel_tup rx
        obtain ⟨p2, us, rfl, s2, r2⟩ := rel_tup ry
        refine op_rm op_catA ⟨p1, p2, vs, us, rfl, rfl, sqT_le R.sub s1, sqT_le R.sub s2, by rw [r1.length, r2.length]; exact big_line hl, fun e0 => ?_, fun _ e0 => ?_, fun _ _ p np => ?_⟩
        · subst e0
          cases r1
          exact k w H _ (Wd.le_refl _) R (.inl ry)
        · subst e0
          cases r2
          rw [List.append_nil] at k
          exact k w H _ (Wd.le_refl _) R (.inl rx)
        · exact new_tup R (r1.append r2) np fun w' H' v l R' r' => k w' H' v l R' (.inl r')
      · cases q
    · split at q
      · rename_i ds es hl
        cases q
        obtain ⟨p1, vs, rfl, s1, r1⟩ := rel_list rx
        obtain ⟨p2, us, rfl, s2, r2⟩ := rel_list ry
        refine op_rm op_cat ⟨p1, p2, vs, us, rfl, rfl, R.sub _ _ s1, R.sub _ _ s2, by rw [r1.length, r2.length]; exact big_line hl, fun p np => ?_⟩
        exact new_lst R (r1.append r2) np k
      · cases q
    · cases q) B w σ H fr h Q z0 r1 p)
end
end Pk

/-! Wp1: what a mirror answers, said by what follows it. Rules to be used by simp only, from the outside in. -/
namespace Pk
open PySem PySem.Spec L2
def Wq {α : Type} (r : R α) (Q : α → Fr → Hh → Prop) (E : Exn → Fr → Hh → Prop) : Prop := match r with
  | .ok a fr h => Q a fr h
  | .exc x fr h => E x fr h
  | .err => False
def rgA (d : D) : Option (List D) := match d with
  | .int j => if cSm j then some (rngD 0 j.toNat) else none
  | _ => none
def rgB (x y : D) : Option (List D) := match x, y with
  | .int i, .int j => if cSm i && cSm j then some (rngD i (j - i).toNat) else none
  | _, _ => none
def NoE (_ : Exn) (_ : Fr) (_ : Hh) : Prop := False
def Oq {α : Type} (o : Option α) (K : α → Prop) : Prop := match o with
  | some a => K a
  | none => False
def Sq (s : Option (Option D)) (K : D → Prop) : Prop := match s with
  | some (some d) => K d
  | _ => False
def Cdq (b : Bool) (A B : Prop) : Prop := if b then A else B
def Bq (fr : Fr) (K : Fr → Prop) : Prop := K fr
def Fq (f : Fl) (A B : Prop) : Prop := match f with
  | .nx => A
  | _ => B
def Rq (f : Fl) (K : D → Prop) : Prop := match f with
  | .rt d => K d
  | .nx => K .non
  | _ => False
section
variable {α β : Type} {Q : α → Fr → Hh → Prop} {E : Exn → Fr → Hh → Prop} {fr : Fr} {h : Hh}
theorem qwp_ok {a : α} : Wq (.ok a fr h) Q E = Q a fr h := by unfold Wq; rfl
theorem qwp_exc {x : Exn} : Wq (.exc x fr h : R α) Q E = E x fr h := by unfold Wq; rfl
theorem qwp_err : Wq (.err : R α) Q E = False := by unfold Wq; rfl
theorem qop_some {a : α} {K : α → Prop} : Oq (some a) K = K a := by unfold Oq; rfl
theorem qop_none {K : α → Prop} : Oq none K = False := by unfold Oq; rfl
theorem qop_map {o : Option α} {f : α → β} {K : β → Prop} : Oq (o.map f) K = Oq o fun a => K (f a) := by cases o <;> (unfold Oq; rfl)
theorem qop_ite {c : Prop} [Decidable c] {a : α} {K : α → Prop} : Oq (if c then some a else none) K = (c ∧ K a) := by
  by_cases hc : c
  · rw [if_pos hc, qop_some]; simp [hc]
  · rw [if_neg hc, qop_none]; simp [hc]
theorem qop_itb {c : Bool} {a : α} {K : α → Prop} : Oq (if c then some a else none) K = (c = true ∧ K a) := qop_ite
theorem qsl_some {d : D} {K : D → Prop} : Sq (some (some d)) K = K d := by unfold Sq; rfl
theorem qsl_none {K : D → Prop} : Sq (some none) K = False := by unfold Sq; rfl
theorem qcd_t {A B : Prop} : Cdq true A B = A := by unfold Cdq; exact if_pos rfl
theorem qcd_f {A B : Prop} : Cdq false A B = B := by unfold Cdq; exact if_neg (fun z => by cases z)
theorem qcd_of {b : Bool} {A B : Prop} (ht : b = true → A) (hf : b = false → B) : Cdq b A B := by
  cases b
  · rw [qcd_f]; exact hf rfl
  · rw [qcd_t]; exact ht rfl
theorem qcd_dec {p : Prop} [Decidable p] {A B : Prop} (ht : p → A) (hf : ¬ p → B) : Cdq (decide p) A B :=
  qcd_of (fun z => ht (of_decide_eq_true z)) (fun z => hf (of_decide_eq_false z))
theorem qbx_cons {a : Option D} {l : Fr} {K : Fr → Prop} : Bq (a :: l) K = K (a :: l) := by unfold Bq; rfl
theorem qbx_nil {K : Fr → Prop} : Bq [] K = K [] := by unfold Bq; rfl
theorem qflk_nx {A B : Prop} : Fq .nx A B = A := by unfold Fq; rfl
theorem qflk_rt {A B : Prop} {d : D} : Fq (.rt d) A B = B := by unfold Fq; rfl
theorem qflk_brk {A B : Prop} : Fq .brk A B = B := by unfold Fq; rfl
theorem qflk_ct {A B : Prop} : Fq .ct A B = B := by unfold Fq; rfl
theorem qrtk_nx {K : D → Prop} : Rq .nx K = K .non := by unfold Rq; rfl
theorem qrtk_rt {K : D → Prop} {d : D} : Rq (.rt d) K = K d := by unfold Rq; rfl
theorem Wq.mono {r : R α} {Q Q' : α → Fr → Hh → Prop} {E : Exn → Fr → Hh → Prop} (w : Wq r Q E) (hq : ∀ a fr h, Q a fr h → Q' a fr h) : Wq r Q' E := by
  cases r with
  | ok a fr h => exact hq _ _ _ w
  | exc x fr h => exact w
  | err => exact w
theorem Wq.monoE {r : R α} {Q Q' : α → Fr → Hh → Prop} {E E' : Exn → Fr → Hh → Prop} (w : Wq r Q E) (hq : ∀ a fr h, Q a fr h → Q' a fr h) (he : ∀ x fr h, E x fr h → E' x fr h) : Wq r Q' E' := by
  cases r with
  | ok a fr h => exact hq _ _ _ w
  | exc x fr h => exact he _ _ _ w
  | err => exact w
theorem Wq.ex {r : R α} {Q : α → Fr → Hh → Prop} (w : Wq r Q NoE) : ∃ a fr h, r = .ok a fr h ∧ Q a fr h := by
  cases r with
  | ok a fr h => exact ⟨a, fr, h, rfl, w⟩
  | exc x fr h => exact w.elim
  | err => exact w.elim
theorem Wq.eq {a : α} {r : R α} {fr : Fr} {h : Hh} (w : Wq r (fun b fr1 h1 => b = a ∧ fr1 = fr ∧ h1 = h) NoE) : r = .ok a fr h := by
  obtain ⟨b, fr1, h1, e, e1, e2, e3⟩ := w.ex
  rw [e, e1, e2, e3]
theorem Wq.of_eq {r : R α} {a : α} {fr : Fr} {h : Hh} (e : r = .ok a fr h) (q : Q a fr h) : Wq r Q E := by
  rw [e]; exact q

theorem qwp_ret {a : α} : Wq (M.ret a fr h) Q E = Q a fr h := by unfold M.ret; exact qwp_ok
theorem qwp_bind {m : M β} {f : β → M α} : Wq (M.bind m f fr h) Q E = Wq (m fr h) (fun a fr h => Wq (f a fr h) Q E) E := by
  unfold M.bind
  cases m fr h <;> (unfold Wq; rfl)
theorem qwp_opt {o : Option α} : Wq (M.opt o fr h) Q E = Oq o fun a => Q a fr h := by
  cases o <;> (unfold Wq Oq M.opt; rfl)
end
section
variable {α : Type} {Q : D → Fr → Hh → Prop} {P : Bool → Fr → Hh → Prop} {S : α → Fr → Hh → Prop} {U : Unit → Fr → Hh → Prop} {G : List D → Fr → Hh → Prop} {L : Fl → Fr → Hh → Prop} {I : Option Int → Fr → Hh → Prop} {E : Exn → Fr → Hh → Prop} {fr : Fr} {h : Hh} {m ma mb mc : M D} {i : Nat}
theorem qwp_C {d : D} : Wq (mC d fr h) Q E = Q d fr h := qwp_ret
theorem qwp_Fz : Wq (mFz m fr h) Q E = Wq (m fr h) (fun d fr h => Q d.fz fr h) E := by
  unfold mFz; rw [qwp_bind]; simp only [qwp_ret]
theorem qwp_Var : Wq (mVar i fr h) Q E = Sq fr[i]? fun d => Cdq d.own (Bq (fr.set i (some d.fz)) fun fr => Q d.fz fr h) (Q d fr h) := by
  unfold mVar
  cases fr[i]? with
  | none => rfl
  | some o => cases o with
    | none => rfl
    | some d =>
      rw [qsl_some]
      dsimp only
      cases d.own <;> rfl
theorem qwp_Move : Wq (mMove i fr h) Q E = Sq fr[i]? fun d => Bq (fr.set i none) fun fr => Q d fr h := by
  unfold mMove
  cases fr[i]? with
  | none => rfl
  | some o => cases o <;> rfl
theorem qwp_Bor : Wq (mBor i fr h) Q E = Sq fr[i]? fun d => Q d fr h := by
  unfold mBor
  cases fr[i]? with
  | none => rfl
  | some o => cases o <;> rfl
theorem qwp_Has : Wq (mHas i fr h) U E = Sq fr[i]? fun _ => U () fr h := by
  unfold mHas
  cases fr[i]? with
  | none => rfl
  | some o => cases o <;> rfl
theorem qwp_Op {f : Hh → D → D → Option α} : Wq (mOp f ma mb fr h) S E = Wq (ma fr h) (fun x fr h => Wq (mb fr h) (fun y fr h => Oq (f h x y) fun z => S z fr h) E) E := by
  unfold mOp; simp only [qwp_bind, qwp_opt]
theorem qwp_Un {f : Hh → D → Option α} : Wq (mUn f ma fr h) S E = Wq (ma fr h) (fun x fr h => Oq (f h x) fun z => S z fr h) E := by
  unfold mUn; simp only [qwp_bind, qwp_opt]
theorem qwp_Bl {t : M Bool} : Wq (mBl t fr h) Q E = Wq (t fr h) (fun b fr h => Q (.bl b) fr h) E := by
  unfold mBl; simp only [qwp_bind, qwp_ret]
theorem qwp_Not {t : M Bool} : Wq (mNot t fr h) P E = Wq (t fr h) (fun b fr h => P (!b) fr h) E := by
  unfold mNot; simp only [qwp_bind, qwp_ret]
theorem qwp_iteM {β : Type} {b : Bool} {m n : M β} {Q : β → Fr → Hh → Prop} : Wq ((if b then m else n) fr h) Q E = Cdq b (Wq (m fr h) Q E) (Wq (n fr h) Q E) := by
  cases b
  · rw [qcd_f]; rfl
  · rw [qcd_t]; rfl
theorem qwp_And {t u : M Bool} : Wq (mAnd t u fr h) P E = Wq (t fr h) (fun b fr h => Cdq b (Wq (u fr h) P E) (P false fr h)) E := by
  unfold mAnd; simp only [qwp_bind, qwp_iteM, qwp_ret]
theorem qwp_Or {t u : M Bool} : Wq (mOr t u fr h) P E = Wq (t fr h) (fun b fr h => Cdq b (P true fr h) (Wq (u fr h) P E)) E := by
  unfold mOr; simp only [qwp_bind, qwp_iteM, qwp_ret]
theorem qwp_NotV : Wq (mNotV m fr h) Q E = Wq (m fr h) (fun d fr h => Oq d.tb fun b => Q (.bl (!b)) fr h) E := by
  unfold mNotV; simp only [qwp_bind, qwp_opt, qop_map]
theorem qwp_AndV {n : M D} : Wq (mAndV m n fr h) Q E = Wq (m fr h) (fun d fr h => Oq d.tb fun b => Cdq b (Wq (n fr h) Q E) (Q (.bl false) fr h)) E := by
  unfold mAndV; rw [qwp_bind]
  congr 1
  funext d fr h
  cases d.tb with
  | none => dsimp only; rw [qwp_opt, qop_none, qop_none]
  | some b =>
    rw [qop_some]
    cases b
    · rw [qcd_f]; exact qwp_ret
    · rw [qcd_t]
theorem qwp_OrV {n : M D} : Wq (mOrV m n fr h) Q E = Wq (m fr h) (fun d fr h => Oq d.tb fun b => Cdq b (Q (.bl true) fr h) (Wq (n fr h) Q E)) E := by
  unfold mOrV; rw [qwp_bind]
  congr 1
  funext d fr h
  cases d.tb with
  | none => dsimp only; rw [qwp_opt, qop_none, qop_none]
  | some b =>
    rw [qop_some]
    cases b
    · rw [qcd_f]
    · rw [qcd_t]; exact qwp_ret
theorem qwp_Chain {f g : Hh → D → D → Option Bool} : Wq (mChain f g ma mb mc fr h) P E = Wq (ma fr h) (fun x fr h => Wq (mb fr h) (fun y fr h => Oq (f h x y) fun b => Cdq b (Wq (mc fr h) (fun z fr h => Oq (g h y z) fun c => P c fr h) E) (P false fr h)) E) E := by
  unfold mChain; simp only [qwp_bind]
  congr 1
  funext x fr h
  congr 1
  funext y fr h
  cases f h x y with
  | none => rw [qop_none]; exact qwp_err
  | some b =>
    rw [qop_some]
    cases b
    · rw [qcd_f]; exact qwp_ok
    · rw [qcd_t]; dsimp only; simp only [qwp_bind, qwp_opt]
theorem qwp_If {t : M Bool} {m n : M α} : Wq (mIf t m n fr h) S E = Wq (t fr h) (fun b fr h => Cdq b (Wq (m fr h) S E) (Wq (n fr h) S E)) E := by
  unfold mIf; simp only [qwp_bind, qwp_iteM]
theorem qwp_Args0 : Wq (mArgs [] fr h) G E = G [] fr h := qwp_ret
theorem qwp_Args1 {ms : List (M D)} : Wq (mArgs (m :: ms) fr h) G E = Wq (m fr h) (fun d fr h => Wq (mArgs ms fr h) (fun ds fr h => G (d :: ds) fr h) E) E := by
  rw [mArgs]; simp only [qwp_bind, qwp_ret]
theorem qwp_Tup {ms : List (M D)} : Wq (mTup ms fr h) Q E = Wq (mArgs ms fr h) (fun ds fr h => ds.length ≤ big ∧ Q (.tup ds) fr h) E := by
  unfold mTup; simp only [qwp_bind, qwp_opt, qop_ite]
theorem qwp_Lst {ms : List (M D)} : Wq (mLst ms fr h) Q E = Wq (mArgs ms fr h) (fun ds fr h => ds.length ≤ big ∧ Q (.nl ds) fr h) E := by
  unfold mLst; simp only [qwp_bind, qwp_opt, qop_ite]
theorem qwp_Late {β : Type} {m : M β} {f : Hh → D → β → Option D} : Wq (mLate i m f fr h) Q E = Sq fr[i]? fun _ => Wq (m fr h) (fun y fr h => Sq fr[i]? fun d => Oq (f h d y) fun z => Q z fr h) E := by
  unfold mLate; simp only [qwp_bind, qwp_Has, qwp_Bor, qwp_opt]
theorem qwp_Pn : Wq (mPn fr h) I E = I none fr h := qwp_ret
theorem qwp_Ps : Wq (mPs m fr h) I E = Wq (m fr h) (fun d fr h => Oq (match d with | .int i => some i | _ => none) fun i => I (some i) fr h) E := by
  unfold mPs; rw [qwp_bind]
  congr 1
  funext d fr h
  cases d <;> (rw [qwp_opt]; first | rw [qop_none, qop_none] | rw [qop_some, qop_some])
theorem qwp_Pair {ml mh : M (Option Int)} {J : Option Int × Option Int → Fr → Hh → Prop} : Wq (mPair ml mh fr h) J E = Wq (ml fr h) (fun l fr h => Wq (mh fr h) (fun u fr h => J (l, u) fr h) E) E := by
  unfold mPair; simp only [qwp_bind, qwp_ret]
theorem qwp_Cut {ml mh : M (Option Int)} : Wq (mCut m ml mh fr h) Q E = Wq (m fr h) (fun d fr h => Wq (ml fr h) (fun l fr h => Wq (mh fr h) (fun u fr h => Oq (bCut h d (l, u)) fun z => Q z fr h) E) E) E := by
  unfold mCut; simp only [qwp_bind, qwp_opt]
theorem qwp_It : Wq (mIt m fr h) G E = Wq (m fr h) (fun d fr h => Oq (d.its []) fun l => G l fr h) E := by
  unfold mIt; simp only [qwp_bind, qwp_opt]
theorem qwp_Rng1 : Wq (mRng1 m fr h) G E = Wq (m fr h) (fun d fr h => Oq (rgA d) fun l => G l fr h) E := by
  unfold mRng1; simp only [qwp_bind, qwp_opt]; rfl
theorem qwp_Rng2 : Wq (mRng2 ma mb fr h) G E = Wq (ma fr h) (fun x fr h => Wq (mb fr h) (fun y fr h => Oq (rgB x y) fun l => G l fr h) E) E := by
  unfold mRng2; simp only [qwp_bind, qwp_opt]; rfl
theorem qwp_Enum : Wq (mEnum m fr h) G E = Wq (m fr h) (fun d fr h => Oq d.lst fun l => G (enumD 0 l) fr h) E := by
  unfold mEnum; simp only [qwp_bind, qwp_opt, qop_map]
theorem qwp_Seq {s n : M Fl} : Wq (mSeq s n fr h) L E = Wq (s fr h) (fun f fr h => Fq f (Wq (n fr h) L E) (L f fr h)) E := by
  unfold mSeq; rw [qwp_bind]
  congr 1
  funext f fr h
  cases f with
  | nx => rw [qflk_nx]
  | brk => rw [qflk_brk]; exact qwp_ret
  | ct => rw [qflk_ct]; exact qwp_ret
  | rt d => rw [qflk_rt]; exact qwp_ret
theorem qwp_IfS {t : M Bool} {s n : M Fl} : Wq (mIfS t s n fr h) L E = Wq (t fr h) (fun b fr h => Cdq b (Wq (s fr h) L E) (Wq (n fr h) L E)) E := by
  unfold mIfS; simp only [qwp_bind, qwp_iteM]
theorem qwp_Drop {m : M α} : Wq (mDrop m fr h) L E = Wq (m fr h) (fun _ fr h => L .nx fr h) E := by
  unfold mDrop; simp only [qwp_bind, qwp_ret]
theorem qwp_Ret : Wq (mRet m fr h) L E = Wq (m fr h) (fun d fr h => L (.rt d) fr h) E := by
  unfold mRet; simp only [qwp_bind, qwp_ret]
theorem qwp_Put : Wq (mPut i m fr h) L E = Wq (m fr h) (fun d fr h => Bq (fr.set i (some d)) fun fr => L .nx fr h) E := by
  unfold mPut Bq; rw [qwp_bind]
  congr 1
theorem qwp_Asg {g : D → M Unit} : Wq (mAsg m g fr h) L E = Wq (m fr h) (fun d fr h => Wq (g d fr h) (fun _ fr h => L .nx fr h) NoE) E := by
  unfold mAsg; rw [qwp_bind]
  congr 1
  funext d fr h
  cases g d fr h <;> (unfold Wq; rfl)
theorem qwp_PutE {is : List Nat} {ms : M (List D)} : Wq (mPutE is ms fr h) L E = Wq (ms fr h) (fun ds fr h => Oq (mPuts is ds fr) fun fr' => ds.length ≤ big ∧ Bq fr' fun fr' => L .nx fr' h) E := by
  unfold mPutE Bq; rw [qwp_bind]
  congr 1
  funext ds fr h
  cases mPuts is ds fr with
  | none => exact qwp_err.trans qop_none.symm
  | some f =>
    rw [qop_some]
    dsimp only
    split
    · rename_i hb; rw [qwp_ok]; simp only [hb, true_and]
    · rename_i hb; rw [qwp_err]; simp only [hb, false_and]
theorem qwp_ForI {l : M (List D)} {g : D → M Unit} {b : M Fl} : Wq (mForI l g b fr h) L E = Wq (l fr h) (fun ds fr h => Wq (mFor g b ds fr h) L E) E := by
  unfold mForI; rw [qwp_bind]
theorem qwp_Lc {vs : List Nat} {l : M (List D)} {g : D → M Unit} {t : M Bool} {e : M D} : Wq (mLc vs l g t e fr h) Q E = Wq (l fr h) (fun ds fr h => ds.length ≤ big ∧ Bq (wipeF fr vs) fun fr => Wq (mLcs vs g t e ds fr h) (fun r fr h => Q (.nl r) fr h) E) E := by
  unfold mLc mWipe Bq; rw [qwp_bind]
  congr 1
  funext ds fr h
  rw [qwp_bind, qwp_ok]
  split
  · rename_i hb; rw [qwp_bind]; simp only [qwp_ret, hb, true_and]
  · rename_i hb; rw [qwp_opt, qop_none]; simp only [hb, false_and]
theorem qwp_tgNm {d : D} : Wq (tgNm i d fr h) U E = Bq (fr.set i (some d)) fun fr => U () fr h := by
  unfold tgNm Bq; exact qwp_ok
theorem qwp_tgNil : Wq (tgNil [] fr h) U E = U () fr h := qwp_ret
theorem qwp_tgCons {g : D → M Unit} {gs : List D → M Unit} {d : D} {ds : List D} : Wq (tgCons g gs (d :: ds) fr h) U E = Wq (g d fr h) (fun _ fr h => Wq (gs ds fr h) U E) E := by
  unfold tgCons; exact qwp_bind
theorem qwp_tgTup {n : Nat} {gs : List D → M Unit} {l : List D} : Wq (tgTup n gs (.tup l) fr h) U E = (l.length = n ∧ Wq (gs l fr h) U E) := by
  unfold tgTup
  dsimp only
  split
  · rename_i hb; simp only [hb, true_and]
  · rename_i hb; rw [qwp_opt, qop_none]; simp only [hb, false_and]
theorem qwp_mut {f : List D → Option (List D)} : Wq (mutSlot i f fr h) U E = Sq fr[i]? fun d => match d with
  | .nl l => Oq (f l) fun l' => Bq (fr.set i (some (.nl l'))) fun fr => U () fr h
  | .ref n => Oq h[n]? fun c => match c with
    | .nl l => Oq (f l) fun l' => U () fr (h.set n (.nl l'))
    | _ => False
  | _ => False := by
  unfold mutSlot Bq
  cases e : fr[i]? with
  | none => unfold Wq Sq; rfl
  | some o =>
    cases o with
    | none => unfold Wq Sq; rfl
    | some d =>
      rw [qsl_some]
      cases d with
      | nl l => dsimp only; cases f l <;> (unfold Wq Oq; rfl)
      | ref n =>
        dsimp only
        cases h[n]? with
        | none => unfold Wq Oq; rfl
        | some c =>
          rw [qop_some]
          cases c with
          | nl l => dsimp only; cases f l <;> (unfold Wq Oq; rfl)
          | _ => unfold Wq; rfl
      | _ => unfold Wq; rfl
theorem qwp_mutR {n : Nat} {f : List D → Option (List D)} : Wq (mutRef (.ref n) f fr h) U E = Oq h[n]? fun c => match c with
    | .nl l => Oq (f l) fun l' => U () fr (h.set n (.nl l'))
    | _ => False := by
  unfold mutRef
  dsimp only
  cases h[n]? with
  | none => unfold Wq Oq; rfl
  | some c =>
    rw [qop_some]
    cases c with
    | nl l => dsimp only; cases f l <;> (unfold Wq Oq; rfl)
    | _ => unfold Wq; rfl
theorem qwp_AppS : Wq (mAppS i m fr h) Q E = Wq (mutSlot i keepF fr h) (fun _ fr h => Wq (m fr h) (fun d fr h => Wq (mutSlot i (appF d) fr h) (fun _ fr h => Q .non fr h) E) E) E := by
  unfold mAppS; simp only [qwp_bind, qwp_ret]
theorem qwp_ClrS : Wq (mClrS i fr h) Q E = Wq (mutSlot i clrF fr h) (fun _ fr h => Q .non fr h) E := by
  unfold mClrS; simp only [qwp_bind, qwp_ret]
theorem qwp_AppR {mo : M D} : Wq (mAppR mo m fr h) Q E = Wq (mo fr h) (fun o fr h => Wq (mutRef o keepF fr h) (fun _ fr h => Wq (m fr h) (fun d fr h => Wq (mutRef o (appF d) fr h) (fun _ fr h => Q .non fr h) E) E) E) E := by
  unfold mAppR; simp only [qwp_bind, qwp_ret]
theorem qwp_ClrR {mo : M D} : Wq (mClrR mo fr h) Q E = Wq (mo fr h) (fun o fr h => Wq (mutRef o clrF fr h) (fun _ fr h => Q .non fr h) E) E := by
  unfold mClrR; simp only [qwp_bind, qwp_ret]
theorem qwp_SetS {mi : M D} : Wq (mSetS i m mi fr h) L E = Wq (m fr h) (fun d fr h => Sq fr[i]? fun _ => Wq (mi fr h) (fun j fr h => Wq (mutSlot i (setF j d) fr h) (fun _ fr h => L .nx fr h) E) E) E := by
  unfold mSetS; simp only [qwp_bind, qwp_ret, qwp_Has]
theorem qwp_SetR {mo mi : M D} : Wq (mSetR mo m mi fr h) L E = Wq (m fr h) (fun d fr h => Wq (mo fr h) (fun o fr h => Wq (mi fr h) (fun j fr h => Wq (mutRef o (setF j d) fr h) (fun _ fr h => L .nx fr h) E) E) E) E := by
  unfold mSetR; simp only [qwp_bind, qwp_ret]
theorem qwp_Cell : Wq (mCell m fr h) Q E = Wq (m fr h) (fun d fr h => d.own = true ∧ Q (.ref h.length) fr (h ++ [d])) E := by
  unfold mCell; rw [qwp_bind]
  congr 1
  funext d fr h
  split
  · rename_i hb; rw [qwp_ok]; simp only [hb, true_and]
  · rename_i hb; rw [qwp_err, eq_iff_iff]
    exact ⟨False.elim, fun z => hb z.1⟩
theorem qwp_PutFld {ix : Nat → Option Nat} : Wq (mPutFld i ix m fr h) L E = Wq (m fr h) (fun d fr h => Wq (mutFld i ix d fr h) (fun _ fr h => L .nx fr h) E) E := by
  unfold mPutFld; simp only [qwp_bind, qwp_ret]
theorem qwp_mutF {ix : Nat → Option Nat} {x : D} : Wq (mutFld i ix x fr h) U E = Sq fr[i]? fun d => match d with
  | .no c fs => Oq (ix c) fun k => Oq (putFs k x fs) fun fs' => Bq (fr.set i (some (.no c fs'))) fun fr => U () fr h
  | .ref n => Oq h[n]? fun c => match c with
    | .no c fs => Oq (ix c) fun k => Oq (putFs k x fs) fun fs' => U () fr (h.set n (.no c fs'))
    | _ => False
  | _ => False := by
  unfold mutFld Bq
  cases e : fr[i]? with
  | none => unfold Wq Sq; rfl
  | some o =>
    cases o with
    | none => unfold Wq Sq; rfl
    | some d =>
      rw [qsl_some]
      cases d with
      | no c fs =>
        dsimp only
        cases ix c with
        | none => unfold Wq Oq; rfl
        | some k => rw [qop_some]; dsimp only; cases putFs k x fs <;> (unfold Wq Oq; rfl)
      | ref n =>
        dsimp only
        cases h[n]? with
        | none => unfold Wq Oq; rfl
        | some c =>
          rw [qop_some]
          cases c with
          | no c fs =>
            dsimp only
            cases ix c with
            | none => unfold Wq Oq; rfl
            | some k => rw [qop_some]; dsimp only; cases putFs k x fs <;> (unfold Wq Oq; rfl)
          | _ => unfold Wq; rfl
      | _ => unfold Wq; rfl
theorem qwp_lift {r : R D} {fr0 : Fr} : Wq (liftR fr0 r) Q E = Wq r (fun d _ h => Q d fr0 h) (fun x _ h => E x fr0 h) := by
  cases r <;> (unfold Wq liftR; rfl)
theorem qwp_Call {n k : Nat} {F : Fn} {gD : List D → List D → List D} {ma mk : M (List D)} : Wq (mCall n k F gD ma mk fr h) Q E = Wq (ma fr h) (fun ds fr h => Wq (mk fr h) (fun es fr h => ds.length = n ∧ es.length = k ∧ Wq (F (gD ds es) h) (fun d _ h => Q d fr h) (fun x _ h => E x fr h)) E) E := by
  unfold mCall; rw [qwp_bind]
  congr 1
  funext ds fr h
  rw [qwp_bind]
  congr 1
  funext es fr h
  split
  · rename_i hb; rw [qwp_lift]; simp only [hb.1, hb.2, true_and]
  · rename_i hb
    rw [qwp_err, eq_iff_iff]
    exact ⟨False.elim, fun z => hb ⟨z.1, z.2.1⟩⟩
theorem qwp_Meth {n k : Nat} {mt : Nat → Option Fn} {gD : List D → List D → List D} {mo : M D} {ma mk : M (List D)} : Wq (mMeth n k mt gD mo ma mk fr h) Q E = Wq (mo fr h) (fun o fr h => Oq (fnOf mt h o) fun F => Wq (ma fr h) (fun ds fr h => Wq (mk fr h) (fun es fr h => ds.length = n ∧ es.length = k ∧ Wq (F (gD (o :: ds) es) h) (fun d _ h => Q d fr h) (fun x _ h => E x fr h)) E) E) E := by
  unfold mMeth; rw [qwp_bind]
  congr 1
  funext o fr h
  cases fnOf mt h o with
  | none => exact qwp_err.trans qop_none.symm
  | some F =>
    rw [qop_some]
    dsimp only
    rw [qwp_Call]
    simp only [qwp_bind, qwp_ret, List.length_cons, Nat.add_right_cancel_iff]
theorem qwp_Prop {mt : Nat → Option Fn} {mo : M D} : Wq (mProp mt mo fr h) Q E = Wq (mo fr h) (fun o fr h => Oq (fnOf mt h o) fun F => Wq (F [o] h) (fun d _ h => Q d fr h) NoE) E := by
  unfold mProp; rw [qwp_bind]
  congr 1
  funext o fr h
  cases fnOf mt h o with
  | none => exact qwp_err.trans qop_none.symm
  | some F =>
    rw [qop_some]
    dsimp only
    cases F [o] h <;> (unfold Wq; rfl)
theorem qwp_runF {n : Nat} {m : M Fl} {ds : List D} : Wq (runF n m ds h) Q E = Bq (startF n ds) fun fr => Wq (m fr h) (fun f _ h => Rq f fun d => Q d [] h) (fun x _ h => E x [] h) := by
  unfold runF Bq
  show _ = Wq (m (startF n ds) h) _ _
  generalize m (startF n ds) h = r
  cases r with
  | ok f fr h => cases f <;> rfl
  | exc x fr h => rfl
  | err => rfl
def Nq (c : Nat) (s : Option (Option D)) (K : D → Prop) : Prop := match s with
  | some (some (.no c' fs)) => c' = c ∧ K (.no c fs)
  | _ => False
theorem qnok_some {c c' : Nat} {fs : List D} {K : D → Prop} : Nq c (some (some (.no c' fs))) K = (c' = c ∧ K (.no c fs)) := by unfold Nq; rfl
theorem qwp_runI {c n : Nat} {m : M Fl} {ds : List D} : Wq (runI c n m ds h) Q E = Bq (startF n (.no c [] :: ds)) fun fr => Wq (m fr h) (fun f fr h => Fq f (Nq c fr[0]? fun d => Q d [] h) False) (fun x _ h => E x [] h) := by
  unfold runI Bq
  show _ = Wq (m (startF n (.no c [] :: ds)) h) _ _
  generalize m (startF n (.no c [] :: ds)) h = r
  cases r with
  | ok f fr h =>
    cases f with
    | nx =>
      rw [qwp_ok, qflk_nx]
      dsimp only
      cases e : (fr : List (Option D))[0]? with
      | none => rfl
      | some o =>
        cases o with
        | none => rfl
        | some d =>
          cases d with
          | no c' fs =>
            rw [qnok_some]
            dsimp only
            split
            · rename_i hb; subst hb; rw [qwp_ok]; simp
            · rename_i hb; rw [qwp_err]; simp only [hb, false_and]
          | _ => rfl
    | _ => rfl
  | exc x fr h => rfl
  | err => rfl
end
/-! ### the same, shut: simp does not look into what follows -/
structure Tg0 {β γ : Type} (_ : β) (_ : γ) : Type where
def Wp {α : Type} (r : R α) (Q : α → Fr → Hh → Prop) (E : Exn → Fr → Hh → Prop) (_ : Tg0 Q E := ⟨⟩) : Prop := Wq r Q E
def Op {α : Type} (o : Option α) (K : α → Prop) (_ : Tg0 K K := ⟨⟩) : Prop := Oq o K
def Sl (s : Option (Option D)) (K : D → Prop) (_ : Tg0 K K := ⟨⟩) : Prop := Sq s K
def Cd (b : Bool) (A B : Prop) (_ : Tg0 A B := ⟨⟩) : Prop := Cdq b A B
def Bx (fr : Fr) (K : Fr → Prop) (_ : Tg0 K K := ⟨⟩) : Prop := Bq fr K
def FlK (f : Fl) (A B : Prop) (_ : Tg0 A B := ⟨⟩) : Prop := Fq f A B
def RtK (f : Fl) (K : D → Prop) (_ : Tg0 K K := ⟨⟩) : Prop := Rq f K
def NoK (c : Nat) (s : Option (Option D)) (K : D → Prop) (_ : Tg0 K K := ⟨⟩) : Prop := Nq c s K
section
variable {α β : Type} {Q : α → Fr → Hh → Prop} {E : Exn → Fr → Hh → Prop} {fr : Fr} {h : Hh}
theorem wp_ok {a : α} : Wp (.ok a fr h) Q E = Q a fr h := qwp_ok
theorem wp_exc {x : Exn} : Wp (.exc x fr h : R α) Q E = E x fr h := qwp_exc
theorem wp_err : Wp (.err : R α) Q E = False := qwp_err
theorem op_some {a : α} {K : α → Prop} : Op (some a) K = K a := qop_some
theorem op_none {K : α → Prop} : Op none K = False := qop_none
theorem op_map {o : Option α} {f : α → β} {K : β → Prop} : Op (o.map f) K = Op o fun a => K (f a) := qop_map
theorem op_ite {c : Prop} [Decidable c] {a : α} {K : α → Prop} : Op (if c then some a else none) K = (c ∧ K a) := qop_ite
theorem op_itb {c : Bool} {a : α} {K : α → Prop} : Op (if c then some a else none) K = (c = true ∧ K a) := qop_itb
theorem sl_some {d : D} {K : D → Prop} : Sl (some (some d)) K = K d := qsl_some
theorem sl_none {K : D → Prop} : Sl (some none) K = False := qsl_none
theorem cd_t {A B : Prop} : Cd true A B = A := qcd_t
theorem cd_f {A B : Prop} : Cd false A B = B := qcd_f
theorem cd_of {b : Bool} {A B : Prop} (ht : b = true → A) (hf : b = false → B) : Cd b A B := qcd_of ht hf
theorem cd_dec {p : Prop} [Decidable p] {A B : Prop} (ht : p → A) (hf : ¬ p → B) : Cd (decide p) A B := qcd_dec ht hf
theorem bx_cons {a : Option D} {l : Fr} {K : Fr → Prop} : Bx (a :: l) K = K (a :: l) := qbx_cons
theorem bx_nil {K : Fr → Prop} : Bx [] K = K [] := qbx_nil
theorem flk_nx {A B : Prop} : FlK .nx A B = A := qflk_nx
theorem flk_rt {A B : Prop} {d : D} : FlK (.rt d) A B = B := qflk_rt
theorem flk_brk {A B : Prop} : FlK .brk A B = B := qflk_brk
theorem flk_ct {A B : Prop} : FlK .ct A B = B := qflk_ct
theorem rtk_nx {K : D → Prop} : RtK .nx K = K .non := qrtk_nx
theorem rtk_rt {K : D → Prop} {d : D} : RtK (.rt d) K = K d := qrtk_rt
theorem Wp.mono {r : R α} {Q Q' : α → Fr → Hh → Prop} {E : Exn → Fr → Hh → Prop} (w : Wp r Q E) (hq : ∀ a fr h, Q a fr h → Q' a fr h) : Wp r Q' E := Wq.mono w hq
theorem Wp.monoE {r : R α} {Q Q' : α → Fr → Hh → Prop} {E E' : Exn → Fr → Hh → Prop} (w : Wp r Q E) (hq : ∀ a fr h, Q a fr h → Q' a fr h) (he : ∀ x fr h, E x fr h → E' x fr h) : Wp r Q' E' := Wq.monoE w hq he
theorem Wp.ex {r : R α} {Q : α → Fr → Hh → Prop} (w : Wp r Q NoE) : ∃ a fr h, r = .ok a fr h ∧ Q a fr h := Wq.ex w
theorem Wp.eq {a : α} {r : R α} {fr : Fr} {h : Hh} (w : Wp r (fun b fr1 h1 => b = a ∧ fr1 = fr ∧ h1 = h) NoE) : r = .ok a fr h := Wq.eq w
theorem Wp.of_eq {r : R α} {a : α} {fr : Fr} {h : Hh} (e : r = .ok a fr h) (q : Q a fr h) : Wp r Q E := Wq.of_eq e q
theorem wp_ret {a : α} : Wp (M.ret a fr h) Q E = Q a fr h := qwp_ret
theorem wp_bind {m : M β} {f : β → M α} : Wp (M.bind m f fr h) Q E = Wp (m fr h) (fun a fr h => Wp (f a fr h) Q E) E := qwp_bind
theorem wp_opt {o : Option α} : Wp (M.opt o fr h) Q E = Op o fun a => Q a fr h := qwp_opt
end
section
variable {α : Type} {Q : D → Fr → Hh → Prop} {P : Bool → Fr → Hh → Prop} {S : α → Fr → Hh → Prop} {U : Unit → Fr → Hh → Prop} {G : List D → Fr → Hh → Prop} {L : Fl → Fr → Hh → Prop} {I : Option Int → Fr → Hh → Prop} {E : Exn → Fr → Hh → Prop} {fr : Fr} {h : Hh} {m ma mb mc : M D} {i : Nat}
theorem wp_C {d : D} : Wp (mC d fr h) Q E = Q d fr h := qwp_C
theorem wp_Fz : Wp (mFz m fr h) Q E = Wp (m fr h) (fun d fr h => Q d.fz fr h) E := qwp_Fz
theorem wp_Var : Wp (mVar i fr h) Q E = Sl fr[i]? fun d => Cd d.own (Bx (fr.set i (some d.fz)) fun fr => Q d.fz fr h) (Q d fr h) := qwp_Var
theorem wp_Move : Wp (mMove i fr h) Q E = Sl fr[i]? fun d => Bx (fr.set i none) fun fr => Q d fr h := qwp_Move
theorem wp_Bor : Wp (mBor i fr h) Q E = Sl fr[i]? fun d => Q d fr h := qwp_Bor
theorem wp_Has : Wp (mHas i fr h) U E = Sl fr[i]? fun _ => U () fr h := qwp_Has
theorem wp_Op {f : Hh → D → D → Option α} : Wp (mOp f ma mb fr h) S E = Wp (ma fr h) (fun x fr h => Wp (mb fr h) (fun y fr h => Op (f h x y) fun z => S z fr h) E) E := qwp_Op
theorem wp_Un {f : Hh → D → Option α} : Wp (mUn f ma fr h) S E = Wp (ma fr h) (fun x fr h => Op (f h x) fun z => S z fr h) E := qwp_Un
theorem wp_Bl {t : M Bool} : Wp (mBl t fr h) Q E = Wp (t fr h) (fun b fr h => Q (.bl b) fr h) E := qwp_Bl
theorem wp_Not {t : M Bool} : Wp (mNot t fr h) P E = Wp (t fr h) (fun b fr h => P (!b) fr h) E := qwp_Not
theorem wp_iteM {β : Type} {b : Bool} {m n : M β} {Q : β → Fr → Hh → Prop} : Wp ((if b then m else n) fr h) Q E = Cd b (Wp (m fr h) Q E) (Wp (n fr h) Q E) := qwp_iteM
theorem wp_And {t u : M Bool} : Wp (mAnd t u fr h) P E = Wp (t fr h) (fun b fr h => Cd b (Wp (u fr h) P E) (P false fr h)) E := qwp_And
theorem wp_Or {t u : M Bool} : Wp (mOr t u fr h) P E = Wp (t fr h) (fun b fr h => Cd b (P true fr h) (Wp (u fr h) P E)) E := qwp_Or
theorem wp_NotV : Wp (mNotV m fr h) Q E = Wp (m fr h) (fun d fr h => Op d.tb fun b => Q (.bl (!b)) fr h) E := qwp_NotV
theorem wp_AndV {n : M D} : Wp (mAndV m n fr h) Q E = Wp (m fr h) (fun d fr h => Op d.tb fun b => Cd b (Wp (n fr h) Q E) (Q (.bl false) fr h)) E := qwp_AndV
theorem wp_OrV {n : M D} : Wp (mOrV m n fr h) Q E = Wp (m fr h) (fun d fr h => Op d.tb fun b => Cd b (Q (.bl true) fr h) (Wp (n fr h) Q E)) E := qwp_OrV
theorem wp_Chain {f g : Hh → D → D → Option Bool} : Wp (mChain f g ma mb mc fr h) P E = Wp (ma fr h) (fun x fr h => Wp (mb fr h) (fun y fr h => Op (f h x y) fun b => Cd b (Wp (mc fr h) (fun z fr h => Op (g h y z) fun c => P c fr h) E) (P false fr h)) E) E := qwp_Chain
theorem wp_If {t : M Bool} {m n : M α} : Wp (mIf t m n fr h) S E = Wp (t fr h) (fun b fr h => Cd b (Wp (m fr h) S E) (Wp (n fr h) S E)) E := qwp_If
theorem wp_Args0 : Wp (mArgs [] fr h) G E = G [] fr h := qwp_Args0
theorem wp_Args1 {ms : List (M D)} : Wp (mArgs (m :: ms) fr h) G E = Wp (m fr h) (fun d fr h => Wp (mArgs ms fr h) (fun ds fr h => G (d :: ds) fr h) E) E := qwp_Args1
theorem wp_Tup {ms : List (M D)} : Wp (mTup ms fr h) Q E = Wp (mArgs ms fr h) (fun ds fr h => ds.length ≤ big ∧ Q (.tup ds) fr h) E := qwp_Tup
theorem wp_Lst {ms : List (M D)} : Wp (mLst ms fr h) Q E = Wp (mArgs ms fr h) (fun ds fr h => ds.length ≤ big ∧ Q (.nl ds) fr h) E := qwp_Lst
theorem wp_Late {β : Type} {m : M β} {f : Hh → D → β → Option D} : Wp (mLate i m f fr h) Q E = Sl fr[i]? fun _ => Wp (m fr h) (fun y fr h => Sl fr[i]? fun d => Op (f h d y) fun z => Q z fr h) E := qwp_Late
theorem wp_Pn : Wp (mPn fr h) I E = I none fr h := qwp_Pn
theorem wp_Ps : Wp (mPs m fr h) I E = Wp (m fr h) (fun d fr h => Op (match d with | .int i => some i | _ => none) fun i => I (some i) fr h) E := qwp_Ps
theorem wp_Pair {ml mh : M (Option Int)} {J : Option Int × Option Int → Fr → Hh → Prop} : Wp (mPair ml mh fr h) J E = Wp (ml fr h) (fun l fr h => Wp (mh fr h) (fun u fr h => J (l, u) fr h) E) E := qwp_Pair
theorem wp_Cut {ml mh : M (Option Int)} : Wp (mCut m ml mh fr h) Q E = Wp (m fr h) (fun d fr h => Wp (ml fr h) (fun l fr h => Wp (mh fr h) (fun u fr h => Op (bCut h d (l, u)) fun z => Q z fr h) E) E) E := qwp_Cut
theorem wp_It : Wp (mIt m fr h) G E = Wp (m fr h) (fun d fr h => Op (d.its []) fun l => G l fr h) E := qwp_It
theorem wp_Rng1 : Wp (mRng1 m fr h) G E = Wp (m fr h) (fun d fr h => Op (rgA d) fun l => G l fr h) E := qwp_Rng1
theorem wp_Rng2 : Wp (mRng2 ma mb fr h) G E = Wp (ma fr h) (fun x fr h => Wp (mb fr h) (fun y fr h => Op (rgB x y) fun l => G l fr h) E) E := qwp_Rng2
theorem wp_Enum : Wp (mEnum m fr h) G E = Wp (m fr h) (fun d fr h => Op d.lst fun l => G (enumD 0 l) fr h) E := qwp_Enum
theorem wp_Seq {s n : M Fl} : Wp (mSeq s n fr h) L E = Wp (s fr h) (fun f fr h => FlK f (Wp (n fr h) L E) (L f fr h)) E := qwp_Seq
theorem wp_IfS {t : M Bool} {s n : M Fl} : Wp (mIfS t s n fr h) L E = Wp (t fr h) (fun b fr h => Cd b (Wp (s fr h) L E) (Wp (n fr h) L E)) E := qwp_IfS
theorem wp_Drop {m : M α} : Wp (mDrop m fr h) L E = Wp (m fr h) (fun _ fr h => L .nx fr h) E := qwp_Drop
theorem wp_Ret : Wp (mRet m fr h) L E = Wp (m fr h) (fun d fr h => L (.rt d) fr h) E := qwp_Ret
theorem wp_Put : Wp (mPut i m fr h) L E = Wp (m fr h) (fun d fr h => Bx (fr.set i (some d)) fun fr => L .nx fr h) E := qwp_Put
theorem wp_Asg {g : D → M Unit} : Wp (mAsg m g fr h) L E = Wp (m fr h) (fun d fr h => Wp (g d fr h) (fun _ fr h => L .nx fr h) NoE) E := qwp_Asg
theorem wp_PutE {is : List Nat} {ms : M (List D)} : Wp (mPutE is ms fr h) L E = Wp (ms fr h) (fun ds fr h => Op (mPuts is ds fr) fun fr' => ds.length ≤ big ∧ Bx fr' fun fr' => L .nx fr' h) E := qwp_PutE
theorem wp_ForI {l : M (List D)} {g : D → M Unit} {b : M Fl} : Wp (mForI l g b fr h) L E = Wp (l fr h) (fun ds fr h => Wp (mFor g b ds fr h) L E) E := qwp_ForI
theorem wp_Lc {vs : List Nat} {l : M (List D)} {g : D → M Unit} {t : M Bool} {e : M D} : Wp (mLc vs l g t e fr h) Q E = Wp (l fr h) (fun ds fr h => ds.length ≤ big ∧ Bx (wipeF fr vs) fun fr => Wp (mLcs vs g t e ds fr h) (fun r fr h => Q (.nl r) fr h) E) E := qwp_Lc
theorem wp_tgNm {d : D} : Wp (tgNm i d fr h) U E = Bx (fr.set i (some d)) fun fr => U () fr h := qwp_tgNm
theorem wp_tgNil : Wp (tgNil [] fr h) U E = U () fr h := qwp_tgNil
theorem wp_tgCons {g : D → M Unit} {gs : List D → M Unit} {d : D} {ds : List D} : Wp (tgCons g gs (d :: ds) fr h) U E = Wp (g d fr h) (fun _ fr h => Wp (gs ds fr h) U E) E := qwp_tgCons
theorem wp_tgTup {n : Nat} {gs : List D → M Unit} {l : List D} : Wp (tgTup n gs (.tup l) fr h) U E = (l.length = n ∧ Wp (gs l fr h) U E) := qwp_tgTup
theorem wp_mut {f : List D → Option (List D)} : Wp (mutSlot i f fr h) U E = Sl fr[i]? fun d => match d with
  | .nl l => Op (f l) fun l' => Bx (fr.set i (some (.nl l'))) fun fr => U () fr h
  | .ref n => Op h[n]? fun c => match c with
    | .nl l => Op (f l) fun l' => U () fr (h.set n (.nl l'))
    | _ => False
  | _ => False := qwp_mut
theorem wp_mutR {n : Nat} {f : List D → Option (List D)} : Wp (mutRef (.ref n) f fr h) U E = Op h[n]? fun c => match c with
    | .nl l => Op (f l) fun l' => U () fr (h.set n (.nl l'))
    | _ => False := qwp_mutR
theorem wp_AppS : Wp (mAppS i m fr h) Q E = Wp (mutSlot i keepF fr h) (fun _ fr h => Wp (m fr h) (fun d fr h => Wp (mutSlot i (appF d) fr h) (fun _ fr h => Q .non fr h) E) E) E := qwp_AppS
theorem wp_ClrS : Wp (mClrS i fr h) Q E = Wp (mutSlot i clrF fr h) (fun _ fr h => Q .non fr h) E := qwp_ClrS
theorem wp_AppR {mo : M D} : Wp (mAppR mo m fr h) Q E = Wp (mo fr h) (fun o fr h => Wp (mutRef o keepF fr h) (fun _ fr h => Wp (m fr h) (fun d fr h => Wp (mutRef o (appF d) fr h) (fun _ fr h => Q .non fr h) E) E) E) E := qwp_AppR
theorem wp_ClrR {mo : M D} : Wp (mClrR mo fr h) Q E = Wp (mo fr h) (fun o fr h => Wp (mutRef o clrF fr h) (fun _ fr h => Q .non fr h) E) E := qwp_ClrR
theorem wp_SetS {mi : M D} : Wp (mSetS i m mi fr h) L E = Wp (m fr h) (fun d fr h => Sl fr[i]? fun _ => Wp (mi fr h) (fun j fr h => Wp (mutSlot i (setF j d) fr h) (fun _ fr h => L .nx fr h) E) E) E := qwp_SetS
theorem wp_SetR {mo mi : M D} : Wp (mSetR mo m mi fr h) L E = Wp (m fr h) (fun d fr h => Wp (mo fr h) (fun o fr h => Wp (mi fr h) (fun j fr h => Wp (mutRef o (setF j d) fr h) (fun _ fr h => L .nx fr h) E) E) E) E := qwp_SetR
theorem wp_Cell : Wp (mCell m fr h) Q E = Wp (m fr h) (fun d fr h => d.own = true ∧ Q (.ref h.length) fr (h ++ [d])) E := qwp_Cell
theorem wp_PutFld {ix : Nat → Option Nat} : Wp (mPutFld i ix m fr h) L E = Wp (m fr h) (fun d fr h => Wp (mutFld i ix d fr h) (fun _ fr h => L .nx fr h) E) E := qwp_PutFld
theorem wp_mutF {ix : Nat → Option Nat} {x : D} : Wp (mutFld i ix x fr h) U E = Sl fr[i]? fun d => match d with
  | .no c fs => Op (ix c) fun k => Op (putFs k x fs) fun fs' => Bx (fr.set i (some (.no c fs'))) fun fr => U () fr h
  | .ref n => Op h[n]? fun c => match c with
    | .no c fs => Op (ix c) fun k => Op (putFs k x fs) fun fs' => U () fr (h.set n (.no c fs'))
    | _ => False
  | _ => False := qwp_mutF
theorem wp_lift {r : R D} {fr0 : Fr} : Wp (liftR fr0 r) Q E = Wp r (fun d _ h => Q d fr0 h) (fun x _ h => E x fr0 h) := qwp_lift
theorem wp_Call {n k : Nat} {F : Fn} {gD : List D → List D → List D} {ma mk : M (List D)} : Wp (mCall n k F gD ma mk fr h) Q E = Wp (ma fr h) (fun ds fr h => Wp (mk fr h) (fun es fr h => ds.length = n ∧ es.length = k ∧ Wp (F (gD ds es) h) (fun d _ h => Q d fr h) (fun x _ h => E x fr h)) E) E := qwp_Call
theorem wp_Meth {n k : Nat} {mt : Nat → Option Fn} {gD : List D → List D → List D} {mo : M D} {ma mk : M (List D)} : Wp (mMeth n k mt gD mo ma mk fr h) Q E = Wp (mo fr h) (fun o fr h => Op (fnOf mt h o) fun F => Wp (ma fr h) (fun ds fr h => Wp (mk fr h) (fun es fr h => ds.length = n ∧ es.length = k ∧ Wp (F (gD (o :: ds) es) h) (fun d _ h => Q d fr h) (fun x _ h => E x fr h)) E) E) E := qwp_Meth
theorem wp_Prop {mt : Nat → Option Fn} {mo : M D} : Wp (mProp mt mo fr h) Q E = Wp (mo fr h) (fun o fr h => Op (fnOf mt h o) fun F => Wp (F [o] h) (fun d _ h => Q d fr h) NoE) E := qwp_Prop
theorem wp_runF {n : Nat} {m : M Fl} {ds : List D} : Wp (runF n m ds h) Q E = Bx (startF n ds) fun fr => Wp (m fr h) (fun f _ h => RtK f fun d => Q d [] h) (fun x _ h => E x [] h) := qwp_runF
theorem nok_some {c c' : Nat} {fs : List D} {K : D → Prop} : NoK c (some (some (.no c' fs))) K = (c' = c ∧ K (.no c fs)) := qnok_some
theorem wp_runI {c n : Nat} {m : M Fl} {ds : List D} : Wp (runI c n m ds h) Q E = Bx (startF n (.no c [] :: ds)) fun fr => Wp (m fr h) (fun f fr h => FlK f (NoK c fr[0]? fun d => Q d [] h) False) (fun x _ h => E x [] h) := qwp_runI
end
end Pk

/-! Wp2: values, tests and lists under the rules of Wp1; loops. -/
namespace Pk
open PySem PySem.Spec L2
section
variable {h : Hh} {l l' ds fs : List D} {i j : Int} {a b : Bool} {s z : Str} {n c : Nat} {t : String}
theorem own_int : (D.int i).own = false := by unfold D.own; rfl
theorem own_bl : (D.bl a).own = false := by unfold D.own; rfl
theorem own_str : (D.str s).own = false := by unfold D.own; rfl
theorem own_non : D.non.own = false := by unfold D.own; rfl
theorem own_tup : (D.tup l).own = false := by unfold D.own; rfl
theorem own_fl : (D.fl l).own = false := by unfold D.own; rfl
theorem own_kl : (D.kl l).own = false := by unfold D.own; rfl
theorem own_obj : (D.obj c l).own = false := by unfold D.own; rfl
theorem own_ref : (D.ref n).own = false := by unfold D.own; rfl
theorem own_cls : (D.cls n).own = false := by unfold D.own; rfl
theorem own_ty : (D.ty t).own = false := by unfold D.own; rfl
theorem own_nl : (D.nl l).own = true := by unfold D.own; rfl
theorem own_no : (D.no c l).own = true := by unfold D.own; rfl
theorem fz_int : (D.int i).fz = .int i := by unfold D.fz; rfl
theorem fz_bl : (D.bl a).fz = .bl a := by unfold D.fz; rfl
theorem fz_str : (D.str s).fz = .str s := by unfold D.fz; rfl
theorem fz_non : D.non.fz = .non := by unfold D.fz; rfl
theorem fz_tup : (D.tup l).fz = .tup l := by unfold D.fz; rfl
theorem fz_fl : (D.fl l).fz = .fl l := by unfold D.fz; rfl
theorem fz_kl : (D.kl l).fz = .kl l := by unfold D.fz; rfl
theorem fz_obj : (D.obj c l).fz = .obj c l := by unfold D.fz; rfl
theorem fz_ref : (D.ref n).fz = .ref n := by unfold D.fz; rfl
theorem fz_cls : (D.cls n).fz = .cls n := by unfold D.fz; rfl
theorem fz_ty : (D.ty t).fz = .ty t := by unfold D.fz; rfl
theorem fz_nl : (D.nl l).fz = .fl l := by unfold D.fz; rfl
theorem fz_no : (D.no c l).fz = .obj c l := by unfold D.fz; rfl
theorem fz_of {d : D} (o : d.own = false) : d.fz = d := by
  cases d <;> first | rfl | (unfold D.own at o; cases o)
theorem its_tup : (D.tup l).its h = some l := by unfold D.its D.der; rfl
theorem its_fl : (D.fl l).its h = some l := by unfold D.its D.der; rfl
theorem its_kl : (D.kl l).its h = some l := by unfold D.its D.der; rfl
theorem its_nl : (D.nl l).its h = some l := by unfold D.its D.der; rfl
theorem der_ref {x : D} (e : h[n]? = some x) : (D.ref n).der h = x := by
  unfold D.der; dsimp only; rw [e]; rfl
theorem its_ref (e : h[n]? = some (.nl l)) : (D.ref n).its h = some l := by
  unfold D.its; rw [der_ref e]
theorem len_its {d : D} {k : Nat} : bLen h (.ref n) = ((D.ref n).its h).map fun l => .int l.length := by unfold bLen; rfl
theorem bLen_tup : bLen h (.tup l) = some (.int l.length) := by unfold bLen; dsimp only; rw [its_tup]; rfl
theorem bLen_fl : bLen h (.fl l) = some (.int l.length) := by unfold bLen; dsimp only; rw [its_fl]; rfl
theorem bLen_kl : bLen h (.kl l) = some (.int l.length) := by unfold bLen; dsimp only; rw [its_kl]; rfl
theorem bLen_nl : bLen h (.nl l) = some (.int l.length) := by unfold bLen; dsimp only; rw [its_nl]; rfl
theorem bLen_ref (e : h[n]? = some (.nl l)) : bLen h (.ref n) = some (.int l.length) := by unfold bLen; dsimp only; rw [its_ref e]; rfl
theorem bLen_str : bLen h (.str s) = if s.length ≤ big then some (.int s.length) else none := by unfold bLen; rfl
theorem bIdx_tup : bIdx h (.tup l) (.int i) = atI l i := by unfold bIdx; dsimp only; rw [its_tup]
theorem bIdx_f : bIdx h (.fl l) (.int i) = atI l i := by unfold bIdx; dsimp only; rw [its_fl]
theorem bIdx_kl : bIdx h (.kl l) (.int i) = atI l i := by unfold bIdx; dsimp only; rw [its_kl]
theorem bIdx_nl : bIdx h (.nl l) (.int i) = atI l i := by unfold bIdx; dsimp only; rw [its_nl]
theorem bIdx_ref (e : h[n]? = some (.nl l)) : bIdx h (.ref n) (.int i) = atI l i := by unfold bIdx; dsimp only; rw [its_ref e]
section
variable {α : Type} {xs : List α}
theorem at_nat {k : Nat} : atI xs (k : Int) = xs[k]? := by
  unfold atI ixN
  rw [if_pos (by omega)]
  by_cases hk : k < xs.length
  · rw [if_pos (by omega)]; simp
  · rw [if_neg (by omega)]; simp; omega
theorem at_pos {i : Int} (h0 : 0 ≤ i) : atI xs i = xs[i.toNat]? := by
  have e : i = (i.toNat : Int) := by omega
  rw [e, at_nat, Int.toNat_natCast]
theorem at_0 : atI xs 0 = xs[0]? := at_nat (k := 0)
theorem at_1 : atI xs 1 = xs[1]? := at_nat (k := 1)
theorem at_2 : atI xs 2 = xs[2]? := at_nat (k := 2)
theorem at_3 : atI xs 3 = xs[3]? := at_nat (k := 3)
theorem at_4 : atI xs 4 = xs[4]? := at_nat (k := 4)
theorem at_5 : atI xs 5 = xs[5]? := at_nat (k := 5)
theorem at_6 : atI xs 6 = xs[6]? := at_nat (k := 6)
theorem at_m1 : atI xs (-1) = xs.getLast? := by
  unfold atI ixN
  rw [if_neg (by decide), List.getLast?_eq_getElem?]
  by_cases hk : 1 ≤ xs.length
  · rw [if_pos (by omega)]
    show xs[((-1 : Int) + (xs.length : Int)).toNat]? = _
    congr 1; omega
  · rw [if_neg (by omega)]
    have : xs = [] := List.length_eq_zero_iff.mp (by omega)
    subst this; rfl
end
section
variable {C : Int → Int → Bool} {g : Int → Int → Int} {K : D → Prop}
theorem op_int : Op (bInt C g h (.int i) (.int j)) K = (C i j = true ∧ K (.int (g i j))) := by unfold bInt; exact op_itb
theorem c_yes : cYes i j = true := by unfold cYes; rfl
theorem c_mod : (cMod i j = true) = (0 < j) := by unfold cMod; simp only [decide_eq_true_eq]
theorem c_div : (cDiv i j = true) = (0 < j ∧ j.natAbs.log2 < 9000) := by unfold cDiv; simp only [Bool.and_eq_true, decide_eq_true_eq]
theorem c_mul : (cMul i j = true) = (i.natAbs.log2 + j.natAbs.log2 < 1000000) := by unfold cMul; simp only [decide_eq_true_eq]
theorem bAdd_int : bAdd h (.int i) (.int j) = some (.int (i + j)) := by unfold bAdd; rfl
theorem bAdd_tup : bAdd h (.tup l) (.tup l') = if l.length + l'.length ≤ big then some (.tup (l ++ l')) else none := by unfold bAdd; rfl
theorem bAdd_fl : bAdd h (.fl l) (.fl l') = if l.length + l'.length ≤ big then some (.nl (l ++ l')) else none := by unfold bAdd; rfl
theorem bAdd_str : bAdd h (.str s) (.str z) = if s.length + z.length ≤ big then some (.str (s ++ z)) else none := by unfold bAdd; rfl
theorem bNeg_int : bNeg (.int i) = some (.int (-i)) := by unfold bNeg; rfl
theorem bAbs_int : bAbs h (.int i) = some (.int (if i < 0 then -i else i)) := by unfold bAbs; rfl
theorem bInt1_int : bInt1 h (.int i) = some (.int i) := by unfold bInt1; rfl
theorem bInt1_bl : bInt1 h (.bl a) = some (.int (if a then 1 else 0)) := by unfold bInt1; rfl
theorem bList_eq {d : D} : bList h d = (d.its h).map .nl := by unfold bList; rfl
theorem bTuple_eq {d : D} : bTuple h d = (d.its h).map .tup := by unfold bTuple; rfl
theorem cInt_int {p : Int → Int → Bool} : cInt p h (.int i) (.int j) = some (p i j) := by unfold cInt; rfl
theorem cEq_ii : cEq h (.int i) (.int j) = some (decide (i = j)) := by
  have : cEq h (.int i) (.int j) = some (i == j) := by unfold cEq; rfl
  rw [this]
  by_cases e : i = j
  · subst e; simp
  · simp [e]
theorem cEq_bb : cEq h (.bl a) (.bl b) = some (a == b) := by unfold cEq; rfl
theorem cEq_nn : cEq h .non .non = some true := by unfold cEq; rfl
theorem cNe_eq {d e : D} : cNe h d e = (cEq h d e).map (!·) := by unfold cNe; rfl
theorem cNin_eq {d e : D} : cNin h d e = (cIn h d e).map (!·) := by unfold cNin; rfl
theorem cIs_non {d : D} : cIs h d .non = some d.isNon := by unfold cIs; rfl
theorem cIsn_non {d : D} : cIsn h d .non = some (!d.isNon) := by unfold cIsn; rfl
theorem isNon_non : D.non.isNon = true := by unfold D.isNon; rfl
theorem isNon_int : (D.int i).isNon = false := by unfold D.isNon; rfl
theorem isNon_bl : (D.bl a).isNon = false := by unfold D.isNon; rfl
theorem isNon_str : (D.str s).isNon = false := by unfold D.isNon; rfl
theorem isNon_tup : (D.tup l).isNon = false := by unfold D.isNon; rfl
theorem isNon_fl : (D.fl l).isNon = false := by unfold D.isNon; rfl
theorem isNon_nl : (D.nl l).isNon = false := by unfold D.isNon; rfl
theorem isNon_obj : (D.obj c l).isNon = false := by unfold D.isNon; rfl
theorem isNon_ref : (D.ref n).isNon = false := by unfold D.isNon; rfl
theorem tb_bl : (D.bl a).tb = some a := by unfold D.tb; rfl
theorem tru_non : D.non.tru h = some false := by unfold D.tru; rfl
theorem tru_bl : (D.bl a).tru h = some a := by unfold D.tru; rfl
theorem tru_int : (D.int i).tru h = some (i != 0) := by unfold D.tru; rfl
theorem tru_tup : (D.tup l).tru h = some (!l.isEmpty) := by unfold D.tru; dsimp only; rw [its_tup]; rfl
theorem tru_fl : (D.fl l).tru h = some (!l.isEmpty) := by unfold D.tru; dsimp only; rw [its_fl]; rfl
theorem tru_nl : (D.nl l).tru h = some (!l.isEmpty) := by unfold D.tru; dsimp only; rw [its_nl]; rfl
end
theorem ints_l : ∀ xs : List Int, D.ints (xs.map .int) = some xs
  | [] => by unfold D.ints; rfl
  | i :: xs => by rw [List.map_cons]; unfold D.ints; rw [ints_l xs]; rfl
theorem sum_n {xs : List Int} : bSum h (.nl (xs.map .int)) = some (.int xs.sum) := by
  unfold bSum D.lints D.der; dsimp only; rw [ints_l]; rfl
theorem sum_f {xs : List Int} : bSum h (.fl (xs.map .int)) = some (.int xs.sum) := by
  unfold bSum D.lints D.der; dsimp only; rw [ints_l]; rfl
theorem fld_obj {ix : Nat → Option Nat} {K : D → Prop} : Op (bFld ix h (.obj c fs)) K = Op (ix c) fun k => Op fs[k]? K := by
  unfold bFld D.ins D.der; dsimp only
  cases ix c with
  | none => exact (op_none (K := K)).trans (op_none (α := Nat)).symm
  | some k => rw [op_some]
theorem fld_no {ix : Nat → Option Nat} {K : D → Prop} : Op (bFld ix h (.no c fs)) K = Op (ix c) fun k => Op fs[k]? K := by
  unfold bFld D.ins D.der; dsimp only
  cases ix c with
  | none => exact (op_none (K := K)).trans (op_none (α := Nat)).symm
  | some k => rw [op_some]
theorem fnOf_obj {mt : Nat → Option Fn} : fnOf mt h (.obj c fs) = mt c := by unfold fnOf D.ins D.der; rfl
theorem fnOf_no {mt : Nat → Option Fn} : fnOf mt h (.no c fs) = mt c := by unfold fnOf D.ins D.der; rfl
theorem puts_nil {fr : Fr} : mPuts [] [] fr = some fr := by unfold mPuts; rfl
theorem puts_cons {fr : Fr} {k : Nat} {ks : List Nat} {d : D} : mPuts (k :: ks) (d :: ds) fr = mPuts ks ds (fr.set k (some d)) := by rw [mPuts]
theorem wipe_nil {fr : Fr} : wipeF fr [] = fr := by unfold wipeF; rfl
theorem wipe_cons {fr : Fr} {k : Nat} {ks : List Nat} : wipeF fr (k :: ks) = (wipeF fr ks).set k none := by rw [wipeF]
theorem gPos_eq {dfl es : List D} : gPos dfl ds es = ds ++ dfl := by unfold gPos; rfl
theorem pick_nil {α : Type} {xs : List α} : pick [] xs = [] := by unfold pick; rfl
theorem pick_cons {α : Type} {xs : List α} {k : Nat} {ks : List Nat} : pick (k :: ks) xs = xs[k]?.toList ++ pick ks xs := by
  unfold pick
  rw [List.filterMap_cons]
  cases xs[k]? <;> rfl
theorem toL_some {α : Type} {x : α} : (some x).toList = [x] := by unfold Option.toList; rfl
theorem keepF_eq : keepF l = some l := by unfold keepF; rfl
theorem clrF_eq : clrF l = some [] := by unfold clrF; rfl
theorem appF_eq {d : D} : appF d l = if l.length < big then some (l ++ [d]) else none := by unfold appF; rfl
theorem putFs_end {k : Nat} {d : D} (e : k = fs.length) : putFs k d fs = some (fs ++ [d]) := by
  unfold putFs; rw [if_pos (by omega), if_neg (by omega)]
end
theorem big_eq : big = 100000 := by unfold big; rfl
/-! ### loops -/
def LpK (f : Fl) (A : Prop) (B : Fl → Prop) (_ : Tg0 A B := ⟨⟩) : Prop := match f with
  | .nx => A
  | .ct => A
  | .brk => B .nx
  | .rt d => B (.rt d)
theorem lpk_nx {A : Prop} {B : Fl → Prop} : LpK .nx A B = A := by unfold LpK; rfl
theorem lpk_ct {A : Prop} {B : Fl → Prop} : LpK .ct A B = A := by unfold LpK; rfl
theorem lpk_brk {A : Prop} {B : Fl → Prop} : LpK .brk A B = B .nx := by unfold LpK; rfl
theorem lpk_rt {d : D} {A : Prop} {B : Fl → Prop} : LpK (.rt d) A B = B (.rt d) := by unfold LpK; rfl
section
variable {L : Fl → Fr → Hh → Prop} {E : Exn → Fr → Hh → Prop} {g : D → M Unit} {b : M Fl}
theorem wp_for0 {fr : Fr} {h : Hh} : Wp (mFor g b [] fr h) L E = L .nx fr h := by unfold mFor; exact wp_ret
theorem wp_for1 {d : D} {ds : List D} {fr : Fr} {h : Hh} : Wp (mFor g b (d :: ds) fr h) L E = Wp (g d fr h) (fun _ fr h => Wp (b fr h) (fun f fr h => LpK f (Wp (mFor g b ds fr h) L E) fun f => L f fr h) E) NoE := by
  rw [mFor]
  dsimp only
  cases g d fr h with
  | ok u fr h =>
    rw [wp_ok]
    dsimp only
    cases b fr h with
    | ok f fr h =>
      rw [wp_ok]
      cases f with
      | nx => rw [lpk_nx]
      | ct => rw [lpk_ct]
      | brk => rw [lpk_brk]; exact wp_ok
      | rt d => rw [lpk_rt]; exact wp_ok
    | exc x fr h => unfold Wp; rfl
    | err => unfold Wp; rfl
  | exc x fr h => unfold Wp NoE; rfl
  | err => unfold Wp; rfl
/-- a loop over what a list of α stands for: I says what holds behind the turns done -/
theorem wp_for {α : Type} {F : α → D} {xs : List α} (I : List α → Fr → Hh → Prop) {fr : Fr} {h : Hh} (i0 : I [] fr h)
    (st : ∀ pre a suf fr h, xs = pre ++ a :: suf → I pre fr h → Wp (g (F a) fr h) (fun _ fr h => Wp (b fr h) (fun f fr h => LpK f (I (pre ++ [a]) fr h) fun f => L f fr h) E) NoE)
    (en : ∀ fr h, I xs fr h → L .nx fr h) : Wp (mFor g b (xs.map F) fr h) L E := by
  have main : ∀ (suf pre : List α) (fr : Fr) (h : Hh), xs = pre ++ suf → I pre fr h → Wp (mFor g b (suf.map F) fr h) L E := by
    intro suf
    induction suf with
    | nil =>
      intro pre fr h e i
      rw [List.map_nil, wp_for0]
      rw [List.append_nil] at e
      subst e
      exact en fr h i
    | cons a suf ih =>
      intro pre fr h e i
      rw [List.map_cons, wp_for1]
      refine (st pre a suf fr h e i).mono fun _ fr1 h1 w => w.mono fun f fr2 h2 z => ?_
      have e' : xs = (pre ++ [a]) ++ suf := by rw [e, List.append_assoc]; rfl
      cases f with
      | nx => rw [lpk_nx] at z ⊢; exact ih _ _ _ e' z
      | ct => rw [lpk_ct] at z ⊢; exact ih _ _ _ e' z
      | brk => rw [lpk_brk] at z ⊢; exact z
      | rt d => rw [lpk_rt] at z ⊢; exact z
  exact main xs [] fr h rfl i0
/-- a loop over a range -/
theorem wp_forR {lo : Int} {n : Nat} (I : Int → Fr → Hh → Prop) {fr : Fr} {h : Hh} (i0 : I lo fr h)
    (st : ∀ j fr h, lo ≤ j → j < lo + n → I j fr h → Wp (g (.int j) fr h) (fun _ fr h => Wp (b fr h) (fun f fr h => LpK f (I (j + 1) fr h) fun f => L f fr h) E) NoE)
    (en : ∀ fr h, I (lo + n) fr h → L .nx fr h) : Wp (mFor g b (rngD lo n) fr h) L E := by
  have e : rngD lo n = ((List.range n).map fun (k : Nat) => lo + (k : Int)).map D.int := by unfold rngD; rw [List.map_map]; rfl
  rw [e]
  refine wp_for (fun pre fr h => I (lo + pre.length) fr h) (by simpa using i0) (fun pre a suf fr h ex i => ?_) (fun fr h i => en fr h ?_)
  · have hl : pre.length < n := by
      have := congrArg List.length ex
      simp only [List.length_map, List.length_range, List.length_append, List.length_cons] at this
      omega
    have ha : a = lo + pre.length := by
      have := congrArg (fun l => l[pre.length]?) ex
      simp only [List.getElem?_map, List.getElem?_range hl, Option.map_some, List.getElem?_append_right (Nat.le_refl _), Nat.sub_self, List.getElem?_cons_zero, Option.some.injEq] at this
      exact this.symm
    subst ha
    have z := st (lo + pre.length) fr h (by omega) (by omega) i
    rw [List.length_append, List.length_singleton, Int.natCast_add, ← Int.add_assoc]
    exact z
  · simpa using i
end
section
variable {vs : List Nat} {g : D → M Unit} {t : M Bool} {e : M D}
theorem wp_turn {d : D} {Q : Option D → Fr → Hh → Prop} {E : Exn → Fr → Hh → Prop} {fr : Fr} {h : Hh} : Wp (mTurn vs g t e d fr h) Q E = Wp (g d fr h) (fun _ fr h => Wp (t fr h) (fun b fr h => Cd b (Wp (e fr h) (fun y fr h => Bx (wipeF fr vs) fun fr => Q (some y) fr h) NoE) (Bx (wipeF fr vs) fun fr => Q none fr h)) NoE) NoE := by
  unfold mTurn Bx
  cases g d fr h with
  | ok u fr h =>
    rw [wp_ok]
    dsimp only
    cases t fr h with
    | ok b fr h =>
      rw [wp_ok]
      cases b with
      | true =>
        rw [cd_t]
        dsimp only
        cases e fr h with
        | ok y fr h => rw [wp_ok]; exact wp_ok (E := NoE)
        | exc x fr h => unfold Wp NoE; rfl
        | err => unfold Wp; rfl
      | false => rw [cd_f]; exact wp_ok
    | exc x fr h => unfold Wp NoE; rfl
    | err => unfold Wp; rfl
  | exc x fr h => unfold Wp NoE; rfl
  | err => unfold Wp; rfl
theorem lcs_nil {fr : Fr} {h : Hh} : mLcs vs g t e [] fr h = .ok [] fr h := by unfold mLcs; rfl
/-- a comprehension whose parts change nothing -/
theorem lcs_filter {α : Type} {F G : α → D} {p : α → Bool} {fr : Fr} {h : Hh} : ∀ {xs : List α}, (∀ a ∈ xs, Wp (mTurn vs g t e (F a) fr h) (fun o fr1 h1 => (o = if p a then some (G a) else none) ∧ fr1 = fr ∧ h1 = h) NoE) → mLcs vs g t e (xs.map F) fr h = .ok ((xs.filter p).map G) fr h
  | [], _ => lcs_nil
  | a :: xs, hh => by
    rw [List.map_cons]
    unfold mLcs
    rw [M.bind_ok ((hh a List.mem_cons_self).eq), M.bind_ok (lcs_filter fun x hx => hh x (List.mem_cons_of_mem _ hx)), List.filter_cons]
    cases p a <;> rfl
theorem lcs_map {α : Type} {F G : α → D} {fr : Fr} {h : Hh} {xs : List α} (hh : ∀ a ∈ xs, Wp (mTurn vs g t e (F a) fr h) (fun o fr1 h1 => o = some (G a) ∧ fr1 = fr ∧ h1 = h) NoE) : mLcs vs g t e (xs.map F) fr h = .ok (xs.map G) fr h := by
  have := lcs_filter (p := fun _ => true) (F := F) (G := G) (xs := xs) (vs := vs) (g := g) (t := t) (e := e) (fr := fr) (h := h) (fun a ha => (hh a ha).mono fun o fr1 h1 z => by simpa using z)
  rw [this, List.filter_eq_self.mpr (fun _ _ => rfl)]
theorem lcs_none {α : Type} {F : α → D} {fr : Fr} {h : Hh} {xs : List α} (hh : ∀ a ∈ xs, Wp (mTurn vs g t e (F a) fr h) (fun o fr1 h1 => o = none ∧ fr1 = fr ∧ h1 = h) NoE) : mLcs vs g t e (xs.map F) fr h = .ok [] fr h := by
  have := lcs_filter (p := fun _ => false) (F := F) (G := F) (xs := xs) (vs := vs) (g := g) (t := t) (e := e) (fr := fr) (h := h) (fun a ha => (hh a ha).mono fun o fr1 h1 z => by simpa using z)
  rw [this, List.filter_eq_nil_iff.mpr (fun _ _ => by simp)]; rfl
end
end Pk

/-! Wp3: plain data and its equality; membership; a law's outer loop. -/
namespace Pk
open PySem PySem.Spec L2
/-- how values of a Lean type stand as Python's plain data -/
structure Em (α : Type) [DecidableEq α] where
  f : α → PyData
  n : Nat
  ok : α → Prop
  lay : ∀ a, ok a → (f a).canLay0 = true
  dep : ∀ a, (f a).depth ≤ n
  eq : ∀ a b, PyData.eqv (f a) (f b) = decide (a = b)
theorem int_beq (a b : Int) : (a == b) = decide (a = b) := by
  by_cases e : a = b
  · subst e; simp
  · simp [e]
def Em.int : Em Int where
  f := .int
  n := 0
  ok := fun _ => True
  lay := fun _ _ => rfl
  dep := fun _ => Nat.le_refl 0
  eq := fun a b => by
    show (a == b) = _
    exact int_beq a b
def strG (s : Str) : Bool := (PyData.str s).canLay0
def Em.str : Em Str where
  f := .str
  n := 0
  ok := fun s => strG s = true
  lay := fun _ h => h
  dep := fun _ => Nat.le_refl 0
  eq := fun a b => by
    show (a == b) = _
    by_cases e : a = b
    · subst e; simp
    · simp [e]
section
variable {α β : Type} [DecidableEq α] [DecidableEq β]
theorem Em.all_lay (A : Em α) : ∀ {l : List α}, (∀ a ∈ l, A.ok a) → PyData.canLayAll0 (l.map A.f) = true
  | [], _ => rfl
  | a :: l, h => by
    rw [List.map_cons, PyData.canLayAll0, A.lay a (h a List.mem_cons_self), A.all_lay fun x hx => h x (List.mem_cons_of_mem _ hx)]
    rfl
theorem Em.all_dep (A : Em α) : ∀ l : List α, PyData.depthAll (l.map A.f) ≤ A.n
  | [] => Nat.zero_le _
  | a :: l => by
    rw [List.map_cons, PyData.depthAll]
    exact Nat.max_le.mpr ⟨A.dep a, A.all_dep l⟩
theorem Em.all_eq (A : Em α) : ∀ l m : List α, PyData.eqvAll (l.map A.f) (m.map A.f) = decide (l = m)
  | [], [] => rfl
  | [], b :: m => by simp [PyData.eqvAll]
  | a :: l, [] => by simp [PyData.eqvAll]
  | a :: l, b :: m => by
    rw [List.map_cons, List.map_cons, PyData.eqvAll, A.eq, A.all_eq l m]
    by_cases e : a = b <;> by_cases e2 : l = m <;> simp [e, e2]
def Em.list (A : Em α) : Em (List α) where
  f := fun l => .list (l.map A.f)
  n := A.n + 1
  ok := fun l => ∀ a ∈ l, A.ok a
  lay := fun l h => by rw [PyData.canLay0]; exact A.all_lay h
  dep := fun l => by rw [PyData.depth]; exact Nat.succ_le_succ (A.all_dep l)
  eq := fun l m => by rw [PyData.eqv]; exact A.all_eq l m
def Em.tup (A : Em α) : Em (List α) where
  f := fun l => .tuple (l.map A.f)
  n := A.n + 1
  ok := fun l => ∀ a ∈ l, A.ok a
  lay := fun l h => by rw [PyData.canLay0]; exact A.all_lay h
  dep := fun l => by rw [PyData.depth]; exact Nat.succ_le_succ (A.all_dep l)
  eq := fun l m => by rw [PyData.eqv]; exact A.all_eq l m
def Em.pair (A : Em α) (B : Em β) : Em (α × β) where
  f := fun p => .tuple [A.f p.1, B.f p.2]
  n := max A.n B.n + 1
  ok := fun p => A.ok p.1 ∧ B.ok p.2
  lay := fun p h => by
    rw [PyData.canLay0, PyData.canLayAll0, PyData.canLayAll0, PyData.canLayAll0, A.lay _ h.1, B.lay _ h.2]; rfl
  dep := fun p => by
    rw [PyData.depth, PyData.depthAll, PyData.depthAll, PyData.depthAll]
    have := A.dep p.1
    have := B.dep p.2
    omega
  eq := fun p q => by
    rw [PyData.eqv, PyData.eqvAll, PyData.eqvAll, PyData.eqvAll, A.eq, B.eq]
    obtain ⟨a, b⟩ := p
    obtain ⟨c, d⟩ := q
    by_cases e : a = c <;> by_cases e2 : b = d <;> simp [e, e2]
def Em.opt (A : Em α) (hn : ∀ a, PyData.eqv .none (A.f a) = false ∧ PyData.eqv (A.f a) .none = false) : Em (Option α) where
  f := fun o => match o with
    | some a => A.f a
    | none => .none
  n := A.n
  ok := fun o => ∀ a, o = some a → A.ok a
  lay := fun o h => by
    cases o with
    | none => rfl
    | some a => exact A.lay a (h a rfl)
  dep := fun o => by
    cases o with
    | none => exact Nat.zero_le _
    | some a => exact A.dep a
  eq := fun o p => by
    cases o with
    | none => cases p with
      | none => rfl
      | some b => simp only [(hn b).1]; simp
    | some a => cases p with
      | none => simp only [(hn a).2]; simp
      | some b => simp only [A.eq]; simp
theorem Em.shaped (A : Em α) {a : α} (h : A.ok a) (hn : A.n ≤ 64) : SeqAt.shaped (A.f a) = true := by
  unfold SeqAt.shaped
  rw [A.lay a h, decide_eq_true (Nat.le_trans (A.dep a) hn)]
  rfl
theorem cEq_em (A : Em α) {h : Hh} {d e : D} {a b : α} (hd : d.toP = some (A.f a)) (he : e.toP = some (A.f b)) (oa : A.ok a) (ob : A.ok b) (hn : A.n ≤ 64) : cEq h d e = some (decide (a = b)) := by
  unfold cEq
  rw [hd, he]
  dsimp only
  rw [A.shaped oa hn, A.shaped ob hn, ← A.eq]
  rfl
theorem toPs_em (A : Em α) {g : α → D} (hg : ∀ a, (g a).toP = some (A.f a)) : ∀ l : List α, D.toPs (l.map g) = some (l.map A.f)
  | [] => by rw [List.map_nil, D.toPs]; rfl
  | a :: l => by
    rw [List.map_cons, D.toPs, hg a, toPs_em A hg l]
    rfl
theorem toP_fl (A : Em α) {g : α → D} (hg : ∀ a, (g a).toP = some (A.f a)) (l : List α) : (D.fl (l.map g)).toP = some (A.list.f l) := by
  rw [D.toP, toPs_em A hg]; rfl
theorem toP_nl (A : Em α) {g : α → D} (hg : ∀ a, (g a).toP = some (A.f a)) (l : List α) : (D.nl (l.map g)).toP = some (A.list.f l) := by
  rw [D.toP, toPs_em A hg]; rfl
theorem toP_tup (A : Em α) {g : α → D} (hg : ∀ a, (g a).toP = some (A.f a)) (l : List α) : (D.tup (l.map g)).toP = some (A.tup.f l) := by
  rw [D.toP, toPs_em A hg]; rfl
theorem toP_int (i : Int) : (D.int i).toP = some (Em.int.f i) := by unfold D.toP; rfl
theorem toP_str (s : Str) : (D.str s).toP = some (Em.str.f s) := by unfold D.toP; rfl
end
section
variable {h : Hh} {l m : List Int} {v : Int}
theorem cEq_fnI : cEq h (.fl (l.map .int)) (.nl (m.map .int)) = some (decide (l = m)) := cEq_em Em.int.list (toP_fl Em.int toP_int l) (toP_nl Em.int toP_int m) (fun _ _ => trivial) (fun _ _ => trivial) (by decide)
theorem cEq_ffI : cEq h (.fl (l.map .int)) (.fl (m.map .int)) = some (decide (l = m)) := cEq_em Em.int.list (toP_fl Em.int toP_int l) (toP_fl Em.int toP_int m) (fun _ _ => trivial) (fun _ _ => trivial) (by decide)
theorem cEq_ttI : cEq h (.tup (l.map .int)) (.tup (m.map .int)) = some (decide (l = m)) := cEq_em Em.int.tup (toP_tup Em.int toP_int l) (toP_tup Em.int toP_int m) (fun _ _ => trivial) (fun _ _ => trivial) (by decide)
theorem cEq_fe : cEq h (.fl []) (.nl []) = some true := (cEq_fnI (l := []) (m := [])).trans rfl
theorem cEq_fnI0 : cEq h (.fl (l.map .int)) (.nl []) = some (decide (l = [])) := cEq_fnI (m := [])
theorem flat_int : ∀ l : List Int, (l.map D.int).all D.flat = true
  | [] => by rw [List.map_nil]; rfl
  | i :: l => by rw [List.map_cons, List.all_cons, flat_int l, D.flat]; rfl
theorem any_eqI (v : Int) : ∀ l : List Int, ((l.map D.int).any fun z => D.eqf z (.int v)) = decide (v ∈ l)
  | [] => by simp
  | i :: l => by
    rw [List.map_cons, List.any_cons, any_eqI v l, D.eqf, int_beq]
    by_cases e : i = v
    · subst e; simp
    · simp [e, Ne.symm e]
theorem cIn_its {l : List D} {d : D} (e : d.its h = some l) (hf : l.all D.flat = true) : cIn h (.int v) d = some (l.any fun z => D.eqf z (.int v)) := by
  unfold cIn
  dsimp only
  rw [e]
  dsimp only
  rw [hf, D.flat]
  rfl
theorem cIn_fI : cIn h (.int v) (.fl (l.map .int)) = some (decide (v ∈ l)) := by rw [cIn_its its_fl (flat_int l), any_eqI]
theorem cIn_nI : cIn h (.int v) (.nl (l.map .int)) = some (decide (v ∈ l)) := by rw [cIn_its its_nl (flat_int l), any_eqI]
theorem cIn_tI : cIn h (.int v) (.tup (l.map .int)) = some (decide (v ∈ l)) := by rw [cIn_its its_tup (flat_int l), any_eqI]
end
theorem enum_zip : ∀ (l : List D) (i : Nat), enumD i l = (l.zipIdx i).map fun p => D.tup [.int (p.2 : Int), p.1]
  | [], i => by rw [List.zipIdx_nil, List.map_nil, enumD]
  | d :: l, i => by rw [enumD, enum_zip l (i + 1), List.zipIdx_cons, List.map_cons]
theorem enum_nil {i : Nat} : enumD i [] = [] := by unfold enumD; rfl
theorem enum_cons {i : Nat} {d : D} {l : List D} : enumD i (d :: l) = .tup [.int (i : Int), d] :: enumD (i + 1) l := by rw [enumD]
theorem lst_fl {l : List D} : (D.fl l).lst = some l := by unfold D.lst; rfl
theorem lst_kl {l : List D} : (D.kl l).lst = some l := by unfold D.lst; rfl
theorem lst_tup {l : List D} : (D.tup l).lst = some l := by unfold D.lst; rfl
theorem app_len {α : Type} {h l : List α} : (h ++ l)[h.length]? = l[0]? := by rw [List.getElem?_append_right (Nat.le_refl _), Nat.sub_self]
theorem app_at {α : Type} {h l : List α} {k : Nat} : (h ++ l)[h.length + k]? = l[k]? := by rw [List.getElem?_append_right (Nat.le_add_right _ _), Nat.add_sub_cancel_left]
theorem set_len {α : Type} {h l : List α} {v : α} : (h ++ l).set h.length v = h ++ l.set 0 v := by rw [List.set_append_right _ _ (Nat.le_refl _), Nat.sub_self]
theorem set_at {α : Type} {h l : List α} {k : Nat} {v : α} : (h ++ l).set (h.length + k) v = h ++ l.set k v := by rw [List.set_append_right _ _ (Nat.le_add_right _ _), Nat.add_sub_cancel_left]
def psI (d : D) : Option Int := match d with
  | .int i => some i
  | _ => none
theorem psI_int {i : Int} : psI (.int i) = some i := by unfold psI; rfl
theorem wp_Psi {m : M D} {I : Option Int → Fr → Hh → Prop} {E : Exn → Fr → Hh → Prop} {fr : Fr} {h : Hh} : Wp (mPs m fr h) I E = Wp (m fr h) (fun d fr h => Op (psI d) fun i => I (some i) fr h) E := by
  rw [wp_Ps]
  congr 1
theorem take_min {α : Type} {l : List α} {k : Nat} : l.take (min k l.length) = l.take k := by
  by_cases hk : k ≤ l.length
  · rw [Nat.min_eq_left hk]
  · rw [Nat.min_eq_right (by omega), List.take_length, List.take_of_length_le (by omega)]
theorem cut_hi {α : Type} {l : List α} {k : Int} (h0 : 0 ≤ k) : cutD l none (some k) = l.take k.toNat := by
  unfold cutD HT.sIx
  dsimp only
  rw [if_neg (by omega), List.drop_zero, Nat.sub_zero, take_min]
theorem cut_lo {α : Type} {l : List α} {k : Int} (h0 : 0 ≤ k) : cutD l (some k) none = l.drop k.toNat := by
  unfold cutD HT.sIx
  dsimp only
  rw [if_neg (by omega)]
  by_cases hk : k.toNat ≤ l.length
  · rw [Nat.min_eq_left hk, List.take_of_length_le (by rw [List.length_drop]; omega)]
  · rw [Nat.min_eq_right (by omega), List.drop_of_length_le (Nat.le_refl _), List.drop_of_length_le (by omega), List.take_nil]
theorem cut_m1 {α : Type} {l : List α} : cutD l none (some (-1)) = l.dropLast := by
  unfold cutD HT.sIx
  dsimp only
  rw [if_pos (by decide), List.drop_zero, Nat.sub_zero, List.dropLast_eq_take]
  congr 1
  omega
theorem bCut_tup {h : Hh} {l : List D} {p : Option Int × Option Int} : bCut h (.tup l) p = some (.tup (cutD l p.1 p.2)) := by unfold bCut; rfl
theorem bCut_fl {h : Hh} {l : List D} {p : Option Int × Option Int} : bCut h (.fl l) p = some (.nl (cutD l p.1 p.2)) := by unfold bCut; rfl
theorem bCut_nl {h : Hh} {l : List D} {p : Option Int × Option Int} : bCut h (.nl l) p = some (.nl (cutD l p.1 p.2)) := by unfold bCut; rfl
theorem bCut_kl {h : Hh} {l : List D} {p : Option Int × Option Int} : bCut h (.kl l) p = some (.nl (cutD l p.1 p.2)) := by unfold bCut; rfl
theorem cEq_ss {h : Hh} {a b : Str} (ha : strG a = true) (hb : strG b = true) : cEq h (.str a) (.str b) = some (decide (a = b)) := cEq_em Em.str (toP_str a) (toP_str b) ha hb (by decide)
theorem wp_lcs0 {vs : List Nat} {g : D → M Unit} {t : M Bool} {e : M D} {Q : List D → Fr → Hh → Prop} {E : Exn → Fr → Hh → Prop} {fr : Fr} {h : Hh} : Wp (mLcs vs g t e [] fr h) Q E = Q [] fr h := by rw [lcs_nil, wp_ok]
theorem wp_lcs1 {vs : List Nat} {g : D → M Unit} {t : M Bool} {e : M D} {Q : List D → Fr → Hh → Prop} {E : Exn → Fr → Hh → Prop} {fr : Fr} {h : Hh} {d : D} {ds : List D} : Wp (mLcs vs g t e (d :: ds) fr h) Q E = Wp (mTurn vs g t e d fr h) (fun o fr h => Wp (mLcs vs g t e ds fr h) (fun r fr h => Q (optL o r) fr h) E) E := by
  rw [mLcs, wp_bind]
  have : (fun (a : Option D) (fr : Fr) (h : Hh) => Wp ((mLcs vs g t e ds).bind (fun r => M.ret (optL a r)) fr h) Q E) = fun o fr h => Wp (mLcs vs g t e ds fr h) (fun r fr h => Q (optL o r) fr h) E := by
    funext a fr h
    rw [wp_bind]
    have : (fun (r : List D) (fr : Fr) (h : Hh) => Wp (M.ret (optL a r) fr h) Q E) = fun r fr h => Q (optL a r) fr h := by
      funext r fr h
      exact wp_ret
    rw [this]
  rw [this]
theorem optL_some {α : Type} {y : α} {r : List α} : optL (some y) r = y :: r := by unfold optL; rfl
theorem optL_none {α : Type} {r : List α} : optL none r = r := by unfold optL; rfl
theorem csm_of {i : Int} (h1 : -100000 ≤ i) (h2 : i ≤ 100000) : cSm i = true := by
  unfold cSm
  rw [decide_eq_true (show -(2 ^ 62) ≤ i by omega), decide_eq_true (show i < 2 ^ 62 by omega)]
  rfl
/-- a law's outer loop over its cells -/
theorem law_top {n : Nat} {N : Int} {b : M Fl} {ns : List Int} (hn : 2 ≤ n) (h1 : 1 ≤ N) (hN : N ≤ 63)
    (hb : ∀ (k : Nat) (xs : Fr) (h : Hh), (k : Int) < N → xs.length = n - 2 → Wp (b (some (.kl (ns.map .int)) :: some (.int k) :: xs) h) (fun f fr _ => (f = .nx ∨ f = .ct) ∧ ∃ x1 ys, fr = some (.kl (ns.map .int)) :: x1 :: ys ∧ ys.length = n - 2) NoE) :
    ∃ fr h, runF n (mSeq (mForI (mRng1 (mOp bMax2 (mC (.int 1)) (mOp bMin2 (mC (.int N)) (mUn bLen (mBor 0))))) (tgNm 1) b) (mRet (mC (.bl true)))) [.kl (ns.map .int)] [] = .ok (.bl true) fr h := by
  have w : Wp (runF n (mSeq (mForI (mRng1 (mOp bMax2 (mC (.int 1)) (mOp bMin2 (mC (.int N)) (mUn bLen (mBor 0))))) (tgNm 1) b) (mRet (mC (.bl true)))) [.kl (ns.map .int)] []) (fun d _ _ => d = .bl true) NoE := by
    have es : startF n [.kl (ns.map .int)] = some (.kl (ns.map .int)) :: none :: List.replicate (n - 2) none := by
      unfold startF
      obtain ⟨m, rfl⟩ : ∃ m, n = m + 2 := ⟨n - 2, by omega⟩
      simp [List.replicate_succ]
    simp only [wp_runF, es, bx_cons, ↓wp_Seq, ↓wp_ForI, ↓wp_Rng1, ↓wp_Op, ↓wp_C, ↓wp_Un, ↓wp_Bor, List.getElem?_cons_zero, sl_some, bLen_kl, op_some, op_int, c_yes, true_and, rgA, List.length_map]
    generalize hz : (if (if (ns.length : Int) < N then (ns.length : Int) else N) > 1 then (if (ns.length : Int) < N then (ns.length : Int) else N) else 1) = z
    have z1 : 1 ≤ z := by rw [← hz]; split <;> omega
    have z2 : z ≤ N := by rw [← hz]; split <;> split at * <;> omega
    rw [csm_of (by omega) (by omega)]
    simp only [↓reduceIte, op_some]
    refine wp_forR (fun _ fr _ => ∃ x1 ys, fr = some (.kl (ns.map .int)) :: x1 :: ys ∧ ys.length = n - 2) ⟨none, _, rfl, by simp⟩ ?_ ?_
    · rintro j fr h j0 j1 ⟨x1, ys, rfl, hy⟩
      simp only [↓wp_tgNm, List.set_cons_succ, List.set_cons_zero, bx_cons]
      have ej : ((j.toNat : Nat) : Int) = j := by omega
      have := hb j.toNat ys h (by omega) hy
      rw [ej] at this
      refine this.mono ?_
      rintro f fr h ⟨rfl | rfl, q⟩
      · rw [lpk_nx]; exact q
      · rw [lpk_ct]; exact q
    · rintro fr h ⟨x1, ys, rfl, hy⟩
      simp only [flk_nx, ↓wp_Ret, ↓wp_C, rtk_rt]
  obtain ⟨d, fr, h, e, rfl⟩ := w.ex
  exact ⟨fr, h, e⟩
end Pk

/-! Wp4: star calls, own operators, texts in lists, comprehensions that change the frame once. -/
namespace Pk
open PySem PySem.Spec L2
section
variable {Q : D → Fr → Hh → Prop} {E : Exn → Fr → Hh → Prop} {fr : Fr} {h : Hh} {ma mb : M D} {mk : M (List D)} {F : Fn} {m : Nat} {mt : Nat → Option Fn}
theorem qwp_Star : Wq (mStar m F ma mk fr h) Q E = Wq (ma fr h) (fun d fr h => Wq (mk fr h) (fun es fr h => Oq (d.its []) fun ds => ds.length ≤ big ∧ es.length = m ∧ Wq (F (starG ds es) h) (fun d _ h => Q d fr h) (fun x _ h => E x fr h)) E) E := by
  unfold mStar
  rw [qwp_bind]
  congr 1
  funext d fr h
  rw [qwp_bind]
  congr 1
  funext es fr h
  cases d.its [] with
  | none => exact (qwp_err (Q := Q) (E := E)).trans (qop_none (α := List D)).symm
  | some ds =>
    rw [qop_some]
    dsimp only
    split
    · rename_i hb; rw [qwp_lift]; simp only [hb.1, hb.2, true_and]
    · rename_i hb
      rw [qwp_err, eq_iff_iff]
      exact ⟨False.elim, fun z => hb ⟨z.1, z.2.1⟩⟩
theorem wp_Star : Wp (mStar m F ma mk fr h) Q E = Wp (ma fr h) (fun d fr h => Wp (mk fr h) (fun es fr h => Op (d.its []) fun ds => ds.length ≤ big ∧ es.length = m ∧ Wp (F (starG ds es) h) (fun d _ h => Q d fr h) (fun x _ h => E x fr h)) E) E := qwp_Star
theorem starG_eq {ds es : List D} : starG ds es = es ++ [.tup ds] := by unfold starG; rfl
theorem qwp_Dun : Wq (mDun mt ma mb fr h) Q E = Wq (ma fr h) (fun x fr h => Wq (mb fr h) (fun y fr h => Oq (dunFn mt h x y) fun F => Wq (F [x, y] h) (fun d _ h => Q d fr h) (fun x _ h => E x fr h)) E) E := by
  unfold mDun
  rw [qwp_bind]
  congr 1
  funext x fr h
  rw [qwp_bind]
  congr 1
  funext y fr h
  cases dunFn mt h x y with
  | none => exact (qwp_err (Q := Q) (E := E)).trans (qop_none (α := Fn)).symm
  | some F => rw [qop_some]; exact qwp_lift
theorem wp_Dun : Wp (mDun mt ma mb fr h) Q E = Wp (ma fr h) (fun x fr h => Wp (mb fr h) (fun y fr h => Op (dunFn mt h x y) fun F => Wp (F [x, y] h) (fun d _ h => Q d fr h) (fun x _ h => E x fr h)) E) E := qwp_Dun
theorem dun_obj {c : Nat} {fs gs : List D} : dunFn mt h (.obj c fs) (.obj c gs) = mt c := by
  unfold dunFn sameC D.ins D.der
  dsimp only
  rw [if_pos rfl]
end
section
variable {h : Hh} {l m : List Str} {w : Str}
theorem flat_str : ∀ l : List Str, (l.map D.str).all D.flat = true
  | [] => by rw [List.map_nil]; rfl
  | i :: l => by rw [List.map_cons, List.all_cons, flat_str l, D.flat]; rfl
theorem str_beq (a b : Str) : (a == b) = decide (a = b) := by
  by_cases e : a = b
  · subst e; simp
  · simp [e]
theorem any_eqS (v : Str) : ∀ l : List Str, ((l.map D.str).any fun z => D.eqf z (.str v)) = decide (v ∈ l)
  | [] => by simp
  | i :: l => by
    rw [List.map_cons, List.any_cons, any_eqS v l, D.eqf, str_beq]
    by_cases e : i = v
    · subst e; simp
    · simp [e, Ne.symm e]
theorem cIn_itsS {l : List D} {d : D} (e : d.its h = some l) (hd : ∀ z, d ≠ .str z) (hf : l.all D.flat = true) : cIn h (.str w) d = some (l.any fun z => D.eqf z (.str w)) := by
  unfold cIn
  cases d with
  | str z => exact absurd rfl (hd z)
  | _ => dsimp only; rw [e]; dsimp only; rw [hf, D.flat]; rfl
theorem cIn_fS : cIn h (.str w) (.fl (l.map .str)) = some (decide (w ∈ l)) := by rw [cIn_itsS its_fl (fun z e => by cases e) (flat_str l), any_eqS]
theorem cIn_nS : cIn h (.str w) (.nl (l.map .str)) = some (decide (w ∈ l)) := by rw [cIn_itsS its_nl (fun z e => by cases e) (flat_str l), any_eqS]
theorem cIn_tS : cIn h (.str w) (.tup (l.map .str)) = some (decide (w ∈ l)) := by rw [cIn_itsS its_tup (fun z e => by cases e) (flat_str l), any_eqS]
theorem cEq_ffS (hl : ∀ s ∈ l, strG s = true) (hm : ∀ s ∈ m, strG s = true) : cEq h (.fl (l.map .str)) (.fl (m.map .str)) = some (decide (l = m)) := cEq_em Em.str.list (toP_fl Em.str toP_str l) (toP_fl Em.str toP_str m) hl hm (by decide)
theorem cEq_fnS (hl : ∀ s ∈ l, strG s = true) (hm : ∀ s ∈ m, strG s = true) : cEq h (.fl (l.map .str)) (.nl (m.map .str)) = some (decide (l = m)) := cEq_em Em.str.list (toP_fl Em.str toP_str l) (toP_nl Em.str toP_str m) hl hm (by decide)
end
section
variable {vs : List Nat} {g : D → M Unit} {t : M Bool} {e : M D}
/-- the first turn changes the frame, the others do not -/
theorem lcs_map2 {α : Type} {F G : α → D} {fr fr' : Fr} {h : Hh} {xs : List α} (hx : xs ≠ []) (h1 : ∀ a ∈ xs, Wp (mTurn vs g t e (F a) fr h) (fun o fr1 h1 => o = some (G a) ∧ fr1 = fr' ∧ h1 = h) NoE)
    (h2 : ∀ a ∈ xs, Wp (mTurn vs g t e (F a) fr' h) (fun o fr1 h1 => o = some (G a) ∧ fr1 = fr' ∧ h1 = h) NoE) : mLcs vs g t e (xs.map F) fr h = .ok (xs.map G) fr' h := by
  cases xs with
  | nil => exact absurd rfl hx
  | cons a xs =>
    rw [List.map_cons]
    unfold mLcs
    rw [M.bind_ok ((h1 a List.mem_cons_self).eq), M.bind_ok (lcs_map fun x hx => h2 x (List.mem_cons_of_mem _ hx))]
    rfl
end
end Pk

/-! Wp5: raise, try, own products. -/
namespace Pk
open PySem PySem.Spec L2
/-- where a named handler ends -/
def endF (i : Nat) (f : Fl) (fr : Fr) : Fr := match f with
  | .rt _ => fr
  | _ => fr.set i none
section
variable {Q : Fl → Fr → Hh → Prop} {S : D → Fr → Hh → Prop} {E : Exn → Fr → Hh → Prop} {fr : Fr} {h : Hh} {i : Nat} {cond : Nat → Option Bool} {mb : M Fl} {ms : Exn → M Fl} {ma mc : M D} {mt : Nat → Option Fn}
theorem endF_nx : endF i .nx fr = fr.set i none := rfl
theorem endF_brk : endF i .brk fr = fr.set i none := rfl
theorem endF_ct : endF i .ct fr = fr.set i none := rfl
theorem endF_rt {d : D} : endF i (.rt d) fr = fr := rfl
theorem wp_endA {r : R Fl} : Wq (endA i r) Q E = Wq r (fun f fr h => Q f (endF i f fr) h) E := by
  cases r with
  | ok f fr h => cases f <;> rfl
  | exc x fr h => rfl
  | err => rfl
theorem wp_TryA : Wp (mTryA i cond mb ms fr h) Q E = Wp (mb fr h) Q (fun x fr1 h1 => Op (cond x.c) fun b => Cd b (i < fr1.length ∧ Bx (fr1.set i none) fun fr2 => Wp (ms x fr2 h1) (fun f fr3 h3 => Q f (endF i f fr3) h3) E) (E x fr1 h1)) := by
  show Wq (mTryA i cond mb ms fr h) Q E = Wq (mb fr h) Q (fun x fr1 h1 => Oq (cond x.c) fun b => Cdq b (i < fr1.length ∧ Bq (fr1.set i none) fun fr2 => Wq (ms x fr2 h1) (fun f fr3 h3 => Q f (endF i f fr3) h3) E) (E x fr1 h1))
  unfold mTryA
  cases e : mb fr h with
  | err => rfl
  | ok f fr1 h1 => cases f <;> rfl
  | exc x fr1 h1 =>
    rw [qwp_exc]
    dsimp only
    cases cond x.c with
    | none => rw [qop_none]; exact qwp_err
    | some b =>
      rw [qop_some]
      cases b with
      | false => rw [qcd_f]; exact qwp_exc
      | true =>
        rw [qcd_t]
        dsimp only
        by_cases hl : i < fr1.length
        · rw [if_pos hl, wp_endA]
          unfold Bq
          simp only [hl, true_and]
        · rw [if_neg hl, qwp_err]
          simp only [hl, false_and]
theorem wp_TryO : Wp (mTryO cond mb ms fr h) Q E = Wp (mb fr h) Q (fun x fr1 h1 => Op (cond x.c) fun b => Cd b (Wp (ms x fr1 h1) Q E) (E x fr1 h1)) := by
  show Wq (mTryO cond mb ms fr h) Q E = Wq (mb fr h) Q (fun x fr1 h1 => Oq (cond x.c) fun b => Cdq b (Wq (ms x fr1 h1) Q E) (E x fr1 h1))
  unfold mTryO
  cases e : mb fr h with
  | err => rfl
  | ok f fr1 h1 => cases f <;> rfl
  | exc x fr1 h1 =>
    rw [qwp_exc]
    dsimp only
    cases cond x.c with
    | none => rw [qop_none]; exact qwp_err
    | some b =>
      rw [qop_some]
      cases b with
      | false => rw [qcd_f]; exact qwp_exc
      | true => rw [qcd_t]
theorem wp_Raise {c n : Nat} {chk : List D → Bool} {mas : M (List D)} : Wp (mRaise c n chk mas fr h) Q E = Wp (mas fr h) (fun ds fr h => ds.length = n ∧ chk ds = true ∧ E ⟨c, ds⟩ fr h) E := by
  show Wq (mRaise c n chk mas fr h) Q E = Wq (mas fr h) (fun ds fr h => ds.length = n ∧ chk ds = true ∧ E ⟨c, ds⟩ fr h) E
  unfold mRaise
  rw [qwp_bind]
  congr 1
  funext ds fr h
  by_cases hl : ds.length = n ∧ chk ds = true
  · rw [if_pos hl, qwp_exc]
    simp only [hl.1, hl.2, true_and]
  · rw [if_neg hl, qwp_err]
    refine propext ⟨False.elim, fun z => hl ⟨z.1, z.2.1⟩⟩
theorem wp_IsX {tab : Tg → Tg → Option Bool} {c : Nat} : Wp (mIsX tab c mc fr h) S E = Wp (mc fr h) (fun d fr h => Op (bIsX tab c d) fun b => S (.bl b) fr h) E := by
  show Wq (mIsX tab c mc fr h) S E = Wq (mc fr h) (fun d fr h => Oq (bIsX tab c d) fun b => S (.bl b) fr h) E
  unfold mIsX
  rw [qwp_bind]
  congr 1
  funext d fr h
  rw [qwp_opt, qop_map]
theorem wp_XF {ix : Nat → Option Nat} {x : Exn} : Wp (mXF ix x fr h) S E = Op (ix x.c) fun j => Op (x.fs[j]?) fun d => S d fr h := by
  show Wq (mXF ix x fr h) S E = Oq (ix x.c) fun j => Oq (x.fs[j]?) fun d => S d fr h
  unfold mXF
  cases ix x.c with
  | none => exact qwp_err.trans qop_none.symm
  | some j =>
    rw [qop_some]
    show Wq (mXf j x fr h) S E = _
    unfold mXf
    cases x.fs[j]? with
    | none => exact qwp_err.trans qop_none.symm
    | some d => rw [qop_some]; exact qwp_ok
theorem wp_MulL : Wp (mMulL mt ma mc fr h) S E = Wp (ma fr h) (fun x fr h => Wp (mc fr h) (fun y fr h => Op (fnOf mt h x) fun F => Op (y.bty h) fun _ => Wp (F [x, y] h) (fun d _ h => S d fr h) (fun x _ h => E x fr h)) E) E := by
  show Wq (mMulL mt ma mc fr h) S E = Wq (ma fr h) (fun x fr h => Wq (mc fr h) (fun y fr h => Oq (fnOf mt h x) fun F => Oq (y.bty h) fun _ => Wq (F [x, y] h) (fun d _ h => S d fr h) (fun x _ h => E x fr h)) E) E
  unfold mMulL
  simp only [qwp_bind]
  congr 1
  funext x fr h
  congr 1
  funext y fr h
  cases fnOf mt h x with
  | none => exact qwp_err.trans qop_none.symm
  | some F =>
    rw [qop_some]
    cases y.bty h with
    | none => exact qwp_err.trans qop_none.symm
    | some t => rw [qop_some]; exact qwp_lift
theorem wp_MulR : Wp (mMulR mt ma mc fr h) S E = Wp (ma fr h) (fun x fr h => Wp (mc fr h) (fun y fr h => Op (fnOf mt h y) fun F => x.smp = true ∧ Wp (F [y, x] h) (fun d _ h => S d fr h) (fun x _ h => E x fr h)) E) E := by
  show Wq (mMulR mt ma mc fr h) S E = Wq (ma fr h) (fun x fr h => Wq (mc fr h) (fun y fr h => Oq (fnOf mt h y) fun F => x.smp = true ∧ Wq (F [y, x] h) (fun d _ h => S d fr h) (fun x _ h => E x fr h)) E) E
  unfold mMulR
  simp only [qwp_bind]
  congr 1
  funext x fr h
  congr 1
  funext y fr h
  cases fnOf mt h y with
  | none => exact qwp_err.trans qop_none.symm
  | some F =>
    rw [qop_some]
    cases x.smp with
    | false =>
      refine qwp_err.trans ?_
      simp
    | true =>
      simp only [true_and]
      exact qwp_lift
end
section
variable {h : Hh} {i : Int} {b : Bool} {z : Str} {l : List D}
theorem smp_non : D.smp .non = true := rfl
theorem smp_bl : D.smp (.bl b) = true := rfl
theorem smp_int : D.smp (.int i) = true := rfl
theorem bty_non : D.bty h .non = some "NoneType" := rfl
theorem bty_bl : D.bty h (.bl b) = some "bool" := rfl
theorem bty_int : D.bty h (.int i) = some "int" := rfl
theorem bty_str : D.bty h (.str z) = some "str" := rfl
theorem bty_tup : D.bty h (.tup l) = some "tuple" := rfl
theorem bty_fl : D.bty h (.fl l) = some "list" := rfl
theorem bty_kl : D.bty h (.kl l) = some "list" := rfl
end
end Pk

/-! Wp6: len(o), o[i], x in o by own methods. -/
namespace Pk
open PySem PySem.Spec L2
def NatK (d : D) (K : Int → Prop) : Prop := match d with
  | .int i => 0 ≤ i ∧ i < 2 ^ 60 ∧ K i
  | _ => False
section
variable {Q : Bool → Fr → Hh → Prop} {S : D → Fr → Hh → Prop} {E : Exn → Fr → Hh → Prop} {fr : Fr} {h : Hh} {ma mb : M D} {mt : Nat → Option Fn}
theorem natk_int {i : Int} {K : Int → Prop} : NatK (.int i) K = (0 ≤ i ∧ i < 2 ^ 60 ∧ K i) := by unfold NatK; rfl
theorem qwp_Own {o : D} {as : List D} : Wq (mOwn mt o as fr h) S E = Oq (fnOf mt h o) fun F => Wq (F (o :: as) h) (fun d _ h => S d fr h) NoE := by
  unfold mOwn
  cases fnOf mt h o with
  | none => exact qwp_err.trans qop_none.symm
  | some F =>
    rw [qop_some]
    dsimp only
    cases F (o :: as) h <;> (unfold Wq; rfl)
theorem qwp_OwnX {o : D} {as : List D} : Wq (mOwnX mt o as fr h) S E = Oq (fnOf mt h o) fun F => Wq (F (o :: as) h) (fun d _ h => S d fr h) (fun x _ h => E x fr h) := by
  unfold mOwnX
  cases fnOf mt h o with
  | none => exact qwp_err.trans qop_none.symm
  | some F =>
    rw [qop_some]
    dsimp only
    exact qwp_lift
theorem wp_LenI : Wp (mLenI mt ma fr h) S E = Wp (ma fr h) (fun o fr h => Op (fnOf mt h o) fun F => Wp (F [o] h) (fun d _ h => NatK d fun i => S (.int i) fr h) NoE) E := by
  show Wq (mLenI mt ma fr h) S E = Wq (ma fr h) (fun o fr h => Oq (fnOf mt h o) fun F => Wq (F [o] h) (fun d _ h => NatK d fun i => S (.int i) fr h) NoE) E
  unfold mLenI
  rw [qwp_bind]
  congr 1
  funext o fr h
  rw [qwp_bind, qwp_Own]
  congr 1
  funext F
  congr 1
  funext d fr1 h1
  unfold natM NatK
  cases d with
  | int i =>
    dsimp only
    by_cases hi : 0 ≤ i ∧ i < 2 ^ 60
    · rw [if_pos hi, qwp_ok]
      exact propext ⟨fun z => ⟨hi.1, hi.2, z⟩, fun z => z.2.2⟩
    · rw [if_neg hi, qwp_err]
      exact propext ⟨False.elim, fun z => hi ⟨z.1, z.2.1⟩⟩
  | _ => exact qwp_err
theorem wp_GetI : Wp (mGetI mt ma mb fr h) S E = Wp (ma fr h) (fun o fr h => Wp (mb fr h) (fun i fr h => Op (fnOf mt h o) fun F => Wp (F [o, i] h) (fun d _ h => S d fr h) (fun x _ h => E x fr h)) E) E := by
  show Wq (mGetI mt ma mb fr h) S E = Wq (ma fr h) (fun o fr h => Wq (mb fr h) (fun i fr h => Oq (fnOf mt h o) fun F => Wq (F [o, i] h) (fun d _ h => S d fr h) (fun x _ h => E x fr h)) E) E
  unfold mGetI
  rw [qwp_bind]
  congr 1
  funext o fr h
  rw [qwp_bind]
  congr 1
  funext i fr h
  exact qwp_OwnX
theorem wp_OpM {α : Type} {P : α → Fr → Hh → Prop} {g : D → D → M α} : Wp (mOpM g ma mb fr h) P E = Wp (ma fr h) (fun x fr h => Wp (mb fr h) (fun y fr h => Wp (g x y fr h) P E) E) E := by
  show Wq (mOpM g ma mb fr h) P E = Wq (ma fr h) (fun x fr h => Wq (mb fr h) (fun y fr h => Wq (g x y fr h) P E) E) E
  unfold mOpM
  simp only [qwp_bind]
theorem qwp_tb {d : D} {c : Bool → Bool} : Wq (((tbM d).bind fun b => M.ret (c b)) fr h) Q E = Oq d.tb fun b => Q (c b) fr h := by
  unfold tbM
  rw [qwp_bind, qwp_opt]
  rfl
theorem wp_gIn {c : Bool → Bool} {x o : D} : Wp (gIn mt c x o fr h) Q E = Op (fnOf mt h o) fun F => Wp (F [o, x] h) (fun d _ h => Op d.tb fun b => Q (c b) fr h) NoE := by
  show Wq (gIn mt c x o fr h) Q E = Oq (fnOf mt h o) fun F => Wq (F [o, x] h) (fun d _ h => Oq d.tb fun b => Q (c b) fr h) NoE
  unfold gIn
  rw [qwp_bind, qwp_Own]
  congr 1
  funext F
  congr 1
  funext d fr1 h1
  exact qwp_tb
end
end Pk

/-! Wp7: == and != by an own __eq__. -/
namespace Pk
open PySem PySem.Spec L2
section
variable {Q : Bool → Fr → Hh → Prop} {E : Exn → Fr → Hh → Prop} {fr : Fr} {h : Hh} {mt : Nat → Option Fn} {n m : Nat} {fs gs : List D}
theorem wp_gEq {c : Bool → Bool} {x y : D} : Wp (gEq mt c x y fr h) Q E = (((y.bty h).isSome || (sameC h x y).isSome) = true ∧ Op (fnOf mt h x) fun F => Wp (F [x, y] h) (fun d _ h => Op d.tb fun b => Q (c b) fr h) NoE) := by
  show Wq (gEq mt c x y fr h) Q E = (((y.bty h).isSome || (sameC h x y).isSome) = true ∧ Oq (fnOf mt h x) fun F => Wq (F [x, y] h) (fun d _ h => Oq d.tb fun b => Q (c b) fr h) NoE)
  unfold gEq
  cases hc : ((y.bty h).isSome || (sameC h x y).isSome) with
  | false =>
    rw [if_neg (by simp), qwp_err]
    simp
  | true =>
    rw [if_pos rfl, qwp_bind, qwp_Own]
    simp only [true_and]
    congr 1
    funext F
    congr 1
    funext d fr1 h1
    exact qwp_tb
theorem same_obj : sameC h (.obj n fs) (.obj n gs) = some n := by
  unfold sameC D.ins D.der
  dsimp only
  rw [if_pos rfl]
theorem same_ne (hn : n ≠ m) : sameC h (.obj n fs) (.obj m gs) = none := by
  unfold sameC D.ins D.der
  dsimp only
  rw [if_neg hn]
theorem bty_obj : D.bty h (.obj n fs) = none := rfl
theorem bty_no : D.bty h (.no n fs) = none := rfl
theorem bty_nl : D.bty h (.nl fs) = some "list" := rfl
end
end Pk

/-! Wp8: bool(o), x.pop(i), classmethods. -/
namespace Pk
open PySem PySem.Spec L2
def popQ (l : List D) (d : D) : Option (D × List D) := match d with
  | .int j => if -(2 ^ 63) ≤ j ∧ j < 2 ^ 63 then (match seqIndex? j l.length with
    | some q => (match l[q]? with
      | some y => some (y, l.eraseIdx q)
      | none => none)
    | none => none) else none
  | _ => none
def PopK (x d : D) (K : D → List D → Prop) : Prop := match x with
  | .nl l => Oq (popQ l d) fun p => K p.1 p.2
  | _ => False
section
variable {S : D → Fr → Hh → Prop} {E : Exn → Fr → Hh → Prop} {fr : Fr} {h : Hh} {ma : M D} {mas : M (List D)} {mt : Nat → Option Fn} {i n c : Nat} {d : D} {l : List D}
theorem popk_nl {K : D → List D → Prop} : PopK (.nl l) d K = Op (popQ l d) fun p => K p.1 p.2 := by unfold PopK; rfl
theorem popQ_nat {j : Int} {y : D} (h0 : 0 ≤ j) (hl : l.length ≤ 100000) (e : l[j.toNat]? = some y) : popQ l (.int j) = some (y, l.eraseIdx j.toNat) := by
  have hj := (List.getElem?_eq_some_iff.mp e).1
  have es : seqIndex? j l.length = some j.toNat := by
    unfold seqIndex?
    simp only
    first
      | (rw [if_neg (by omega)]; simp only [show (0 ≤ j) from h0, show (j < (l.length : Int)) from by omega, and_self, if_true]; done)
      | (split <;> first | rfl | omega | (split <;> first | rfl | omega))
      | (simp; omega)
  unfold popQ
  dsimp only
  rw [if_pos ⟨by omega, by omega⟩, es]
  dsimp only
  rw [e]
theorem wp_pop : Wp (popSlot i d fr h) S E = Sl fr[i]? fun x => PopK x d fun y l' => Bx (fr.set i (some (.nl l'))) fun fr => S y fr h := by
  show Wq (popSlot i d fr h) S E = Sq fr[i]? fun x => PopK x d fun y l' => Bq (fr.set i (some (.nl l'))) fun fr => S y fr h
  unfold popSlot
  cases fr[i]? with
  | none => exact qwp_err
  | some o =>
    cases o with
    | none => exact qwp_err.trans qsl_none.symm
    | some x =>
      rw [qsl_some]
      unfold PopK
      cases x with
      | nl l =>
        dsimp only
        unfold popQ
        cases d with
        | int j =>
          dsimp only
          by_cases hj : -(2 ^ 63) ≤ j ∧ j < 2 ^ 63
          · rw [if_pos hj, if_pos hj]
            cases seqIndex? j l.length with
            | none => exact qwp_err.trans qop_none.symm
            | some q =>
              dsimp only
              cases l[q]? with
              | none => exact qwp_err.trans qop_none.symm
              | some y => exact qwp_ok.trans qop_some.symm
          · rw [if_neg hj, if_neg hj]
            exact qwp_err.trans qop_none.symm
        | _ => exact qwp_err.trans qop_none.symm
      | _ => exact qwp_err
theorem wp_PopS : Wp (mPopS i ma fr h) S E = Wp (mutSlot i keepF fr h) (fun _ fr h => Wp (ma fr h) (fun d fr h => Wp (popSlot i d fr h) S E) E) E := by
  show Wq (mPopS i ma fr h) S E = Wq (mutSlot i keepF fr h) (fun _ fr h => Wq (ma fr h) (fun d fr h => Wq (popSlot i d fr h) S E) E) E
  unfold mPopS
  simp only [qwp_bind]
theorem wp_BoolI : Wp (mBoolI mt ma fr h) S E = Wp (ma fr h) (fun o fr h => Op (fnOf mt h o) fun F => Wp (F [o] h) (fun d _ h => NatK d fun i => S (.bl (i != 0)) fr h) NoE) E := by
  show Wq (mBoolI mt ma fr h) S E = Wq (ma fr h) (fun o fr h => Oq (fnOf mt h o) fun F => Wq (F [o] h) (fun d _ h => NatK d fun i => S (.bl (i != 0)) fr h) NoE) E
  unfold mBoolI
  rw [qwp_bind]
  congr 1
  funext o fr h
  rw [qwp_bind, qwp_Own]
  congr 1
  funext F
  congr 1
  funext d fr1 h1
  rw [qwp_bind]
  unfold natM NatK
  cases d with
  | int i =>
    dsimp only
    by_cases hi : 0 ≤ i ∧ i < 2 ^ 60
    · rw [if_pos hi, qwp_ok, qwp_opt, qop_some]
      exact propext ⟨fun z => ⟨hi.1, hi.2, z⟩, fun z => z.2.2⟩
    · rw [if_neg hi, qwp_err]
      exact propext ⟨False.elim, fun z => hi ⟨z.1, z.2.1⟩⟩
  | _ => exact qwp_err
theorem wp_Cm {F : Fn} : Wp (mCm n c F mas fr h) S E = Wp (mas fr h) (fun ds fr h => ds.length = n ∧ Wp (F (.cls c :: ds) h) (fun d _ h => S d fr h) (fun x _ h => E x fr h)) E := by
  show Wq (mCm n c F mas fr h) S E = Wq (mas fr h) (fun ds fr h => ds.length = n ∧ Wq (F (.cls c :: ds) h) (fun d _ h => S d fr h) (fun x _ h => E x fr h)) E
  unfold mCm
  rw [qwp_bind]
  congr 1
  funext ds fr h
  by_cases hl : ds.length = n
  · rw [if_pos hl, qwp_lift]
    simp only [hl, true_and]
  · rw [if_neg hl, qwp_err]
    exact propext ⟨False.elim, fun z => hl z.1⟩
end
end Pk

/-! Wp9: comparisons that read their left name late. -/
namespace Pk
open PySem PySem.Spec L2
section
variable {Q : Bool → Fr → Hh → Prop} {E : Exn → Fr → Hh → Prop} {fr : Fr} {h : Hh} {mb : M D} {i : Nat}
theorem wp_LateB {f : Hh → D → D → Option Bool} : Wp (mLateB i f mb fr h) Q E = Sl fr[i]? fun _ => Wp (mb fr h) (fun y fr h => Sl fr[i]? fun d => Op (f h d y) fun z => Q z fr h) E := by
  show Wq (mLateB i f mb fr h) Q E = Sq fr[i]? fun _ => Wq (mb fr h) (fun y fr h => Sq fr[i]? fun d => Oq (f h d y) fun z => Q z fr h) E
  unfold mLateB
  rw [qwp_bind]
  unfold mHas
  cases e : fr[i]? with
  | none => exact qwp_err
  | some o =>
    cases o with
    | none => exact qwp_err.trans qsl_none.symm
    | some x =>
      dsimp only
      rw [qwp_ok, qsl_some, qwp_bind]
      congr 1
      funext y fr1 h1
      rw [qwp_bind]
      unfold mBor
      cases fr1[i]? with
      | none => exact qwp_err
      | some o1 =>
        cases o1 with
        | none => exact qwp_err.trans qsl_none.symm
        | some d => dsimp only; rw [qwp_ok, qsl_some, qwp_opt]
end
end Pk

/-! Wp10: == by an own __eq__ on either side, is True. -/
namespace Pk
open PySem PySem.Spec L2
def EqK {α : Type} (o : Option α) (A B : Prop) : Prop := match o with
  | some _ => A
  | none => B
section
variable {Q : Bool → Fr → Hh → Prop} {E : Exn → Fr → Hh → Prop} {fr : Fr} {h : Hh} {mt : Nat → Option Fn} {i : Int} {b c : Bool} {z : Str} {l : List D}
theorem eqk_some {α : Type} {a : α} {A B : Prop} : EqK (some a) A B = A := by unfold EqK; rfl
theorem eqk_none {α : Type} {A B : Prop} : EqK (none : Option α) A B = B := by unfold EqK; rfl
theorem wp_gEqX {c : Bool → Bool} {x y : D} : Wp (gEqX mt c x y fr h) Q E = EqK (fnOf mt h x) (Wp (gEq mt c x y fr h) Q E) ((x.bty h).isSome = true ∧ Op (fnOf mt h y) fun F => Wp (F [y, x] h) (fun d _ h => Op d.tb fun b => Q (c b) fr h) NoE) := by
  show Wq (gEqX mt c x y fr h) Q E = EqK (fnOf mt h x) (Wq (gEq mt c x y fr h) Q E) ((x.bty h).isSome = true ∧ Oq (fnOf mt h y) fun F => Wq (F [y, x] h) (fun d _ h => Oq d.tb fun b => Q (c b) fr h) NoE)
  unfold gEqX
  cases fnOf mt h x with
  | some G => rw [eqk_some]
  | none =>
    rw [eqk_none]
    dsimp only
    cases hc : (x.bty h).isSome with
    | false =>
      rw [if_neg (by simp), qwp_err]
      simp
    | true =>
      rw [if_pos rfl, qwp_bind, qwp_Own]
      simp only [true_and]
      congr 1
      funext F
      congr 1
      funext d fr1 h1
      exact qwp_tb
theorem fnOf_non : fnOf mt h .non = none := rfl
theorem fnOf_bl : fnOf mt h (.bl b) = none := rfl
theorem fnOf_int : fnOf mt h (.int i) = none := rfl
theorem fnOf_str : fnOf mt h (.str z) = none := rfl
theorem fnOf_tup : fnOf mt h (.tup l) = none := rfl
theorem fnOf_fl : fnOf mt h (.fl l) = none := rfl
theorem cIsB_eq : cIsB h (.bl b) (.bl c) = some (decide (b = c)) := rfl
theorem cIsnB_eq : cIsnB h (.bl b) (.bl c) = some (!decide (b = c)) := rfl
end
end Pk

/-! Wp11: == of tuples of own instances. -/
namespace Pk
open PySem PySem.Spec L2
section
variable {Q : Bool → Fr → Hh → Prop} {E : Exn → Fr → Hh → Prop} {fr : Fr} {h : Hh} {mt : Nat → Option Fn} {nf : Nat → Nat}
theorem wp_gEqT {x y : D} : Wp (gEqT mt nf x y fr h) Q E = Op (cEqT mt nf h x y) fun b => Q b fr h := by
  show Wq (gEqT mt nf x y fr h) Q E = Oq (cEqT mt nf h x y) fun b => Q b fr h
  unfold gEqT
  exact qwp_opt
/-- two tuples of instances, told by what the own == tells of each two -/
theorem pEqs_map {α : Type} [DecidableEq α] {F : Fn} {c : Nat} {f : α → List D} (ht : mt c = some F) (hn : ∀ a, (f a).length = nf c) (he : ∀ a b, F [.obj c (f a), .obj c (f b)] h = .ok (.bl (decide (a = b))) [] h) (hs : ∀ a b, a ≠ b → D.sims (f a) (f b) = false) :
    ∀ l m : List α, pEqs mt nf h (l.map fun a => .obj c (f a)) (m.map fun a => .obj c (f a)) = some (decide (l = m))
  | [], [] => by simp [pEqs]
  | [], b :: m => by simp [pEqs]
  | a :: l, [] => by simp [pEqs]
  | a :: l, b :: m => by
    have e : pPair mt nf h (.obj c (f a)) (.obj c (f b)) = some (decide (a = b)) := by
      unfold pPair
      dsimp only
      rw [if_pos ⟨rfl, hn a, hn b⟩, ht]
      dsimp only
      rw [he]
      dsimp only
      rw [if_pos ⟨rfl, by
        by_cases hab : a = b
        · left; simp [hab]
        · right; exact hs a b hab⟩]
    simp only [List.map_cons, pEqs, e, Option.bind_some, pEqs_map ht hn he hs l m]
    by_cases hab : a = b
    · simp [hab]
    · simp [hab]
/-- .. of two classes of fields -/
theorem pEqs_ne {α β : Type} {F : Fn} {c : Nat} {f : α → List D} {g : β → List D} (ht : mt c = some F) (hn : ∀ a, (f a).length = nf c) (hm : ∀ b, (g b).length = nf c) (he : ∀ a b, F [.obj c (f a), .obj c (g b)] h = .ok (.bl false) [] h) (hs : ∀ a b, D.sims (f a) (g b) = false) :
    ∀ (l : List α) (m : List β), pEqs mt nf h (l.map fun a => .obj c (f a)) (m.map fun a => .obj c (g a)) = some (decide (l = [] ∧ m = []))
  | [], [] => by simp [pEqs]
  | [], b :: m => by simp [pEqs]
  | a :: l, [] => by simp [pEqs]
  | a :: l, b :: m => by
    have e : pPair mt nf h (.obj c (f a)) (.obj c (g b)) = some false := by
      unfold pPair
      dsimp only
      rw [if_pos ⟨rfl, hn a, hm b⟩, ht]
      dsimp only
      rw [he]
      dsimp only
      rw [if_pos ⟨rfl, .inr (hs a b)⟩]
    simp [List.map_cons, pEqs, e]
theorem cEqT_tup {l m : List D} : cEqT mt nf h (.tup l) (.tup m) = pEqs mt nf h l m := rfl
end
end Pk

/-! Wp12: several except clauses. -/
namespace Pk
open PySem PySem.Spec L2
section
variable {Q : Fl → Fr → Hh → Prop} {E : Exn → Fr → Hh → Prop} {fr : Fr} {h : Hh} {i : Nat} {cond : Nat → Option Bool} {mb : M Fl} {ms : Exn → M Fl} {x : Exn} {cs : List Hd}
theorem wp_pick0 : Wp (pickN [] x fr h) Q E = E x fr h := by
  show Wq (pickN [] x fr h) Q E = _
  unfold pickN
  exact qwp_exc
theorem wp_pickA : Wp (pickN ((some i, cond, ms) :: cs) x fr h) Q E = Op (cond x.c) fun b => Cd b (i < fr.length ∧ Bx (fr.set i none) fun fr2 => Wp (ms x fr2 h) (fun f fr3 h3 => Q f (endF i f fr3) h3) E) (Wp (pickN cs x fr h) Q E) := by
  show Wq (pickN ((some i, cond, ms) :: cs) x fr h) Q E = Oq (cond x.c) fun b => Cdq b (i < fr.length ∧ Bq (fr.set i none) fun fr2 => Wq (ms x fr2 h) (fun f fr3 h3 => Q f (endF i f fr3) h3) E) (Wq (pickN cs x fr h) Q E)
  rw [pickN]
  dsimp only
  cases cond x.c with
  | none => rw [qop_none]; exact qwp_err
  | some b =>
    rw [qop_some]
    cases b with
    | false => rw [qcd_f]
    | true =>
      rw [qcd_t]
      dsimp only
      by_cases hl : i < fr.length
      · rw [if_pos hl, wp_endA]
        unfold Bq
        simp only [hl, true_and]
      · rw [if_neg hl, qwp_err]
        simp only [hl, false_and]
theorem wp_pickO : Wp (pickN ((none, cond, ms) :: cs) x fr h) Q E = Op (cond x.c) fun b => Cd b (Wp (ms x fr h) Q E) (Wp (pickN cs x fr h) Q E) := by
  show Wq (pickN ((none, cond, ms) :: cs) x fr h) Q E = Oq (cond x.c) fun b => Cdq b (Wq (ms x fr h) Q E) (Wq (pickN cs x fr h) Q E)
  rw [pickN]
  dsimp only
  cases cond x.c with
  | none => rw [qop_none]; exact qwp_err
  | some b =>
    rw [qop_some]
    cases b with
    | false => rw [qcd_f]
    | true => rw [qcd_t]
theorem wp_TryN : Wp (mTryN cs mb fr h) Q E = Wp (mb fr h) Q (fun x fr1 h1 => Wp (pickN cs x fr1 h1) Q E) := by
  show Wq (mTryN cs mb fr h) Q E = Wq (mb fr h) Q (fun x fr1 h1 => Wq (pickN cs x fr1 h1) Q E)
  unfold mTryN
  cases e : mb fr h with
  | err => rfl
  | ok f fr1 h1 => cases f <;> rfl
  | exc x fr1 h1 => rfl
end
end Pk

/-! Wp13: repr of a truth value, bool of a built-in value. -/
namespace Pk
open PySem PySem.Spec L2
theorem bRepr_bl {h : Hh} {b : Bool} : bRepr h (.bl b) = some (.str (if b then "True" else "False")) := rfl
theorem bBool1_bl {h : Hh} {b : Bool} : bBool1 h (.bl b) = some (.bl b) := rfl
theorem bBool1_int {h : Hh} {i : Int} : bBool1 h (.int i) = some (.bl (i != 0)) := rfl
end Pk

/-! Wp14: raise of an error without an __init__ of its own. -/
namespace Pk
open PySem PySem.Spec L2
section
variable {Q : Fl → Fr → Hh → Prop} {E : Exn → Fr → Hh → Prop} {fr : Fr} {h : Hh} {c : Nat} {ma : M D}
theorem wp_RaiseB : Wp (mRaiseB c ma fr h) Q E = Wp (ma fr h) (fun _ fr h => E ⟨c, []⟩ fr h) E := by
  show Wq (mRaiseB c ma fr h) Q E = Wq (ma fr h) (fun _ fr h => E ⟨c, []⟩ fr h) E
  unfold mRaiseB
  rw [qwp_bind]
  rfl
end
end Pk

namespace L
open PySem PySem.Spec L2 Pk
/-! ### the classes -/
def cn : Nat → Str
  | 0 => "BadInstance"
  | 1 => "Unlike"
  | 2 => "BadFactor"
  | 3 => "NoInstance"
  | 4 => "BadWorld"
  | 5 => "NotAllowed"
  | 6 => "BadDeed"
  | 7 => "BadRun"
  | 8 => "BadTable"
  | 9 => "BadTerm"
  | 10 => "BadText"
  | 11 => "BadUnit"
  | 12 => "TooMany"
  | 13 => "BadWish"
  | 14 => "CountError"
  | _ => "?"
def fld : Nat → List Str
  | 0 => ["what"]
  | 1 => []
  | 2 => []
  | 3 => ["at"]
  | 4 => ["what"]
  | 5 => ["lacking"]
  | 6 => ["why"]
  | 7 => ["at", "why"]
  | 8 => ["line"]
  | 9 => []
  | 10 => ["position"]
  | 11 => ["what"]
  | 12 => ["what"]
  | 13 => []
  | 14 => []
  | _ => []
abbrev T (K : PySem.W.Frag) : Tb := Tbo cn fld K
def chk_BadInstance : List D → Bool := fun ds => match ds with | [.str z] => decide (z.length ≤ 1000) | _ => false
def chk_Unlike : List D → Bool := fun _ => true
def chk_BadFactor : List D → Bool := fun _ => true
def chk_NoInstance : List D → Bool := fun _ => true
def chk_BadWorld : List D → Bool := fun ds => match ds with | [.str z] => decide (z.length ≤ 1000) | _ => false
def chk_NotAllowed : List D → Bool := Pk.chkWords
def chk_BadDeed : List D → Bool := fun ds => match ds with | [.str z] => decide (z.length ≤ 1000) | _ => false
def chk_BadRun : List D → Bool := fun ds => match ds with | [.int i_at, .str z_why] => decide (i_at.natAbs.log2 < 1920) && decide (z_why.length ≤ 1000) | _ => false
def chk_BadTable : List D → Bool := fun ds => match ds with | [.int i_line] => decide (i_line.natAbs.log2 < 1920) | _ => false
def chk_BadTerm : List D → Bool := fun _ => true
def chk_BadText : List D → Bool := fun ds => match ds with | [.int i_position] => decide (i_position.natAbs.log2 < 1920) | _ => false
def chk_BadUnit : List D → Bool := fun ds => match ds with | [.str z] => decide (z.length ≤ 1000) | _ => false
def chk_TooMany : List D → Bool := fun ds => match ds with | [.str z] => decide (z.length ≤ 1000) | _ => false
def chk_BadWish : List D → Bool := fun _ => true
def isiTab : Tg → Tg → Option Bool := isiT []
def errTab : Tg → Tg → Option Bool := errT [((.o 0, .o 0), true), ((.o 1, .o 0), false), ((.o 2, .o 0), false), ((.o 3, .o 0), false), ((.o 4, .o 0), false), ((.o 5, .o 0), false), ((.o 6, .o 0), false), ((.o 7, .o 0), false), ((.o 8, .o 0), false), ((.o 9, .o 0), false), ((.o 10, .o 0), false), ((.o 11, .o 0), false), ((.o 12, .o 0), false), ((.o 13, .o 0), false), ((.o 14, .o 0), false), ((.o 0, .o 1), false), ((.o 1, .o 1), true), ((.o 2, .o 1), false), ((.o 3, .o 1), false), ((.o 4, .o 1), false), ((.o 5, .o 1), false), ((.o 6, .o 1), false), ((.o 7, .o 1), false), ((.o 8, .o 1), false), ((.o 9, .o 1), false), ((.o 10, .o 1), false), ((.o 11, .o 1), false), ((.o 12, .o 1), false), ((.o 13, .o 1), false), ((.o 14, .o 1), false), ((.o 0, .o 2), false), ((.o 1, .o 2), false), ((.o 2, .o 2), true), ((.o 3, .o 2), false), ((.o 4, .o 2), false), ((.o 5, .o 2), false), ((.o 6, .o 2), false), ((.o 7, .o 2), false), ((.o 8, .o 2), false), ((.o 9, .o 2), false), ((.o 10, .o 2), false), ((.o 11, .o 2), false), ((.o 12, .o 2), false), ((.o 13, .o 2), false), ((.o 14, .o 2), false), ((.o 0, .o 3), false), ((.o 1, .o 3), false), ((.o 2, .o 3), false), ((.o 3, .o 3), true), ((.o 4, .o 3), false), ((.o 5, .o 3), false), ((.o 6, .o 3), false), ((.o 7, .o 3), false), ((.o 8, .o 3), false), ((.o 9, .o 3), false), ((.o 10, .o 3), false), ((.o 11, .o 3), false), ((.o 12, .o 3), false), ((.o 13, .o 3), false), ((.o 14, .o 3), false), ((.o 0, .o 4), false), ((.o 1, .o 4), false), ((.o 2, .o 4), false), ((.o 3, .o 4), false), ((.o 4, .o 4), true), ((.o 5, .o 4), false), ((.o 6, .o 4), false), ((.o 7, .o 4), false), ((.o 8, .o 4), false), ((.o 9, .o 4), false), ((.o 10, .o 4), false), ((.o 11, .o 4), false), ((.o 12, .o 4), false), ((.o 13, .o 4), false), ((.o 14, .o 4), false), ((.o 0, .o 5), false), ((.o 1, .o 5), false), ((.o 2, .o 5), false), ((.o 3, .o 5), false), ((.o 4, .o 5), false), ((.o 5, .o 5), true), ((.o 6, .o 5), false), ((.o 7, .o 5), false), ((.o 8, .o 5), false), ((.o 9, .o 5), false), ((.o 10, .o 5), false), ((.o 11, .o 5), false), ((.o 12, .o 5), false), ((.o 13, .o 5), false), ((.o 14, .o 5), false), ((.o 0, .o 6), false), ((.o 1, .o 6), false), ((.o 2, .o 6), false), ((.o 3, .o 6), false), ((.o 4, .o 6), false), ((.o 5, .o 6), false), ((.o 6, .o 6), true), ((.o 7, .o 6), false), ((.o 8, .o 6), false), ((.o 9, .o 6), false), ((.o 10, .o 6), false), ((.o 11, .o 6), false), ((.o 12, .o 6), false), ((.o 13, .o 6), false), ((.o 14, .o 6), false), ((.o 0, .o 7), false), ((.o 1, .o 7), false), ((.o 2, .o 7), false), ((.o 3, .o 7), false), ((.o 4, .o 7), false), ((.o 5, .o 7), false), ((.o 6, .o 7), false), ((.o 7, .o 7), true), ((.o 8, .o 7), false), ((.o 9, .o 7), false), ((.o 10, .o 7), false), ((.o 11, .o 7), false), ((.o 12, .o 7), false), ((.o 13, .o 7), false), ((.o 14, .o 7), false), ((.o 0, .o 8), false), ((.o 1, .o 8), false), ((.o 2, .o 8), false), ((.o 3, .o 8), false), ((.o 4, .o 8), false), ((.o 5, .o 8), false), ((.o 6, .o 8), false), ((.o 7, .o 8), false), ((.o 8, .o 8), true), ((.o 9, .o 8), false), ((.o 10, .o 8), false), ((.o 11, .o 8), false), ((.o 12, .o 8), false), ((.o 13, .o 8), false), ((.o 14, .o 8), false), ((.o 0, .o 9), false), ((.o 1, .o 9), false), ((.o 2, .o 9), false), ((.o 3, .o 9), false), ((.o 4, .o 9), false), ((.o 5, .o 9), false), ((.o 6, .o 9), false), ((.o 7, .o 9), false), ((.o 8, .o 9), false), ((.o 9, .o 9), true), ((.o 10, .o 9), false), ((.o 11, .o 9), false), ((.o 12, .o 9), false), ((.o 13, .o 9), false), ((.o 14, .o 9), false), ((.o 0, .o 10), false), ((.o 1, .o 10), false), ((.o 2, .o 10), false), ((.o 3, .o 10), false), ((.o 4, .o 10), false), ((.o 5, .o 10), false), ((.o 6, .o 10), false), ((.o 7, .o 10), false), ((.o 8, .o 10), false), ((.o 9, .o 10), false), ((.o 10, .o 10), true), ((.o 11, .o 10), false), ((.o 12, .o 10), false), ((.o 13, .o 10), false), ((.o 14, .o 10), false), ((.o 0, .o 11), false), ((.o 1, .o 11), false), ((.o 2, .o 11), false), ((.o 3, .o 11), false), ((.o 4, .o 11), false), ((.o 5, .o 11), false), ((.o 6, .o 11), false), ((.o 7, .o 11), false), ((.o 8, .o 11), false), ((.o 9, .o 11), false), ((.o 10, .o 11), false), ((.o 11, .o 11), true), ((.o 12, .o 11), false), ((.o 13, .o 11), false), ((.o 14, .o 11), false), ((.o 0, .o 12), false), ((.o 1, .o 12), false), ((.o 2, .o 12), false), ((.o 3, .o 12), false), ((.o 4, .o 12), false), ((.o 5, .o 12), false), ((.o 6, .o 12), false), ((.o 7, .o 12), false), ((.o 8, .o 12), false), ((.o 9, .o 12), false), ((.o 10, .o 12), false), ((.o 11, .o 12), false), ((.o 12, .o 12), true), ((.o 13, .o 12), false), ((.o 14, .o 12), false), ((.o 0, .o 13), false), ((.o 1, .o 13), false), ((.o 2, .o 13), false), ((.o 3, .o 13), false), ((.o 4, .o 13), false), ((.o 5, .o 13), false), ((.o 6, .o 13), false), ((.o 7, .o 13), false), ((.o 8, .o 13), false), ((.o 9, .o 13), false), ((.o 10, .o 13), false), ((.o 11, .o 13), false), ((.o 12, .o 13), false), ((.o 13, .o 13), true), ((.o 14, .o 13), false), ((.o 0, .b "ValueError"), true), ((.o 1, .b "ValueError"), true), ((.o 2, .b "ValueError"), true), ((.o 3, .b "ValueError"), true), ((.o 4, .b "ValueError"), true), ((.o 5, .b "ValueError"), true), ((.o 6, .b "ValueError"), true), ((.o 7, .b "ValueError"), true), ((.o 8, .b "ValueError"), true), ((.o 9, .b "ValueError"), true), ((.o 10, .b "ValueError"), true), ((.o 11, .b "ValueError"), true), ((.o 12, .b "ValueError"), true), ((.o 13, .b "ValueError"), true), ((.o 14, .b "ValueError"), true)]
def cond_CountError : Nat → Option Bool := fun c => List.lookup c [(0, true), (1, true), (2, true), (3, true), (4, true), (5, true), (6, true), (7, true), (8, true), (9, true), (10, true), (11, true), (12, true), (13, true), (14, true)]
def cond_BadInstance : Nat → Option Bool := fun c => List.lookup c [(0, true), (1, false), (2, false), (3, false), (4, false), (5, false), (6, false), (7, false), (8, false), (9, false), (10, false), (11, false), (12, false), (13, false), (14, false)]
def cond_BadWorld : Nat → Option Bool := fun c => List.lookup c [(0, false), (1, false), (2, false), (3, false), (4, true), (5, false), (6, false), (7, false), (8, false), (9, false), (10, false), (11, false), (12, false), (13, false), (14, false)]
def cond_BadUnit : Nat → Option Bool := fun c => List.lookup c [(0, false), (1, false), (2, false), (3, false), (4, false), (5, false), (6, false), (7, false), (8, false), (9, false), (10, false), (11, true), (12, false), (13, false), (14, false)]
def cond_TooMany : Nat → Option Bool := fun c => List.lookup c [(0, false), (1, false), (2, false), (3, false), (4, false), (5, false), (6, false), (7, false), (8, false), (9, false), (10, false), (11, false), (12, true), (13, false), (14, false)]
def cond_NotAllowed : Nat → Option Bool := fun c => List.lookup c [(0, false), (1, false), (2, false), (3, false), (4, false), (5, true), (6, false), (7, false), (8, false), (9, false), (10, false), (11, false), (12, false), (13, false), (14, false)]
def cond_BadDeed : Nat → Option Bool := fun c => List.lookup c [(0, false), (1, false), (2, false), (3, false), (4, false), (5, false), (6, true), (7, false), (8, false), (9, false), (10, false), (11, false), (12, false), (13, false), (14, false)]
def cond_BadRun : Nat → Option Bool := fun c => List.lookup c [(0, false), (1, false), (2, false), (3, false), (4, false), (5, false), (6, false), (7, true), (8, false), (9, false), (10, false), (11, false), (12, false), (13, false), (14, false)]
def cond_NoInstance : Nat → Option Bool := fun c => List.lookup c [(0, false), (1, false), (2, false), (3, true), (4, false), (5, false), (6, false), (7, false), (8, false), (9, false), (10, false), (11, false), (12, false), (13, false), (14, false)]
def cond_BadTable : Nat → Option Bool := fun c => List.lookup c [(0, false), (1, false), (2, false), (3, false), (4, false), (5, false), (6, false), (7, false), (8, true), (9, false), (10, false), (11, false), (12, false), (13, false), (14, false)]
def cond_BadText : Nat → Option Bool := fun c => List.lookup c [(0, false), (1, false), (2, false), (3, false), (4, false), (5, false), (6, false), (7, false), (8, false), (9, false), (10, true), (11, false), (12, false), (13, false), (14, false)]
def cond_BadInstance_BadWorld_BadUnit_TooMany : Nat → Option Bool := fun c => List.lookup c [(0, true), (1, false), (2, false), (3, false), (4, true), (5, false), (6, false), (7, false), (8, false), (9, false), (10, false), (11, true), (12, true), (13, false), (14, false)]
def xf_what : Nat → Option Nat := fun c => List.lookup c [(0, 0), (4, 0), (11, 0), (12, 0)]
def xf_lacking : Nat → Option Nat := fun c => List.lookup c [(5, 0)]
def xf_why : Nat → Option Nat := fun c => List.lookup c [(6, 0), (7, 1)]
def xf_at : Nat → Option Nat := fun c => List.lookup c [(3, 0), (7, 0)]
def xf_line : Nat → Option Nat := fun c => List.lookup c [(8, 0)]
def xf_position : Nat → Option Nat := fun c => List.lookup c [(10, 0)]
/-! ### what the defs do -/
def m__law_source_k1 : M Fl :=
    (mSeq (mPut 3 (mIf (mOp cGe (mUn bAbs (mVar 2)) (mOp bPow (mC (.int 10)) (mC (.int 18)))) (mUn bAbs (mVar 2)) (mC (.int 0))))
    (mRet (mLst [(mVar 3), (mFz (mOp bAdd (mFz (mOp bAdd (mOp bMod (mUn bInt1 (mVar 2)) (mC (.int 2147483629))) (mOp bMul (mC (.int 15485863)) (mVar 1)))) (mC (.int 7919)))), (mC (.int 0))])))
def m__law_source : M Fl :=
    (mSeq (mPut 2 (mIf (mOp cLt (mVar 1) (mUn bLen (mBor 0))) (mLate 0 (mVar 1) bIdx) (mC (.int 0))))
    m__law_source_k1)
def f__law_source : Fn := runF 4 m__law_source
def m__law_draw_k3 : M Fl :=
    (mSeq (mPut 3 (mOp bMod (mUn bInt1 (mOp bPow (mFz (mOp bAdd (mVar 3) (mOp bMul (mC (.int 49979687)) (mLate 0 (mC (.int 2)) bIdx)))) (mC (.int 2)))) (mC (.int 2305843009213693951))))
    (mRet (mOp bMod (mUn bInt1 (mOp bDiv (mVar 3) (mC (.int 4096)))) (mVar 1))))
def m__law_draw_k2 : M Fl :=
    (mSeq (mPut 3 (mOp bMod (mUn bInt1 (mOp bPow (mFz (mOp bAdd (mLate 0 (mC (.int 1)) bIdx) (mOp bMul (mC (.int 32452843)) (mLate 0 (mC (.int 2)) bIdx)))) (mC (.int 3)))) (mC (.int 2305843009213693921))))
    m__law_draw_k3)
def m__law_draw_k1 : M Fl :=
    (mSeq (mSetS 0 (mFz (mOp bAdd (mLate 0 (mC (.int 2)) bIdx) (mC (.int 1)))) (mC (.int 2)))
    m__law_draw_k2)
def m__law_draw : M Fl :=
    (mSeq (mIfS (mOp cGt (mLate 0 (mC (.int 0)) bIdx) (mC (.int 0)))
    (mSeq (mPut 2 (mOp bMod (mUn bInt1 (mLate 0 (mC (.int 0)) bIdx)) (mVar 1)))
    (mSeq (mSetS 0 (mOp bDiv (mLate 0 (mC (.int 0)) bIdx) (mVar 1)) (mC (.int 0)))
    (mRet (mMove 2))))
    (M.ret .nx))
    m__law_draw_k1)
def f__law_draw : Fn := runF 4 m__law_draw
def m__law_of : M Fl :=
    (mRet (mLate 1 (mFz (mCall 2 0 f__law_draw (gPos []) (mArgs [(mVar 0), (mUn bLen (mBor 1))]) (mArgs []))) bIdx))
def f__law_of : Fn := runF 2 m__law_of
def m__law_raise_early_k6 : M Fl :=
    (mSeq (mIfS (mOp cEq (mVar 0) (mC (.int 6)))
    (mRaise 6 1 chk_BadDeed (mArgs [(mVar 1)]))
    (M.ret .nx))
    (mRaise 7 2 chk_BadRun (mArgs [(mVar 2), (mVar 1)])))
def m__law_raise_early_k5 : M Fl :=
    (mSeq (mIfS (mOp cEq (mVar 0) (mC (.int 5)))
    (mRaise 5 1 chk_NotAllowed (mArgs [(mTup [(mVar 1), (mC (.str "past"))])]))
    (M.ret .nx))
    m__law_raise_early_k6)
def m__law_raise_early_k4 : M Fl :=
    (mSeq (mIfS (mOp cEq (mVar 0) (mC (.int 4)))
    (mRaise 4 1 chk_BadWorld (mArgs [(mVar 1)]))
    (M.ret .nx))
    m__law_raise_early_k5)
def m__law_raise_early_k3 : M Fl :=
    (mSeq (mIfS (mOp cEq (mVar 0) (mC (.int 3)))
    (mRaise 3 1 chk_NoInstance (mArgs [(mVar 2)]))
    (M.ret .nx))
    m__law_raise_early_k4)
def m__law_raise_early_k2 : M Fl :=
    (mSeq (mIfS (mOp cEq (mVar 0) (mC (.int 2)))
    (fun fr h => .exc ⟨2, []⟩ fr h)
    (M.ret .nx))
    m__law_raise_early_k3)
def m__law_raise_early_k1 : M Fl :=
    (mSeq (mIfS (mOp cEq (mVar 0) (mC (.int 1)))
    (fun fr h => .exc ⟨1, []⟩ fr h)
    (M.ret .nx))
    m__law_raise_early_k2)
def m__law_raise_early : M Fl :=
    (mSeq (mIfS (mOp cEq (mVar 0) (mC (.int 0)))
    (mRaise 0 1 chk_BadInstance (mArgs [(mVar 1)]))
    (M.ret .nx))
    m__law_raise_early_k1)
def f__law_raise_early : Fn := runF 3 m__law_raise_early
def m__law_raise_k6 : M Fl :=
    (mSeq (mIfS (mOp cEq (mVar 0) (mC (.int 13)))
    (fun fr h => .exc ⟨13, []⟩ fr h)
    (M.ret .nx))
    (mRaiseB 14 (mC (.str "plain"))))
def m__law_raise_k5 : M Fl :=
    (mSeq (mIfS (mOp cEq (mVar 0) (mC (.int 12)))
    (mRaise 12 1 chk_TooMany (mArgs [(mVar 1)]))
    (M.ret .nx))
    m__law_raise_k6)
def m__law_raise_k4 : M Fl :=
    (mSeq (mIfS (mOp cEq (mVar 0) (mC (.int 11)))
    (mRaise 11 1 chk_BadUnit (mArgs [(mVar 1)]))
    (M.ret .nx))
    m__law_raise_k5)
def m__law_raise_k3 : M Fl :=
    (mSeq (mIfS (mOp cEq (mVar 0) (mC (.int 10)))
    (mRaise 10 1 chk_BadText (mArgs [(mVar 2)]))
    (M.ret .nx))
    m__law_raise_k4)
def m__law_raise_k2 : M Fl :=
    (mSeq (mIfS (mOp cEq (mVar 0) (mC (.int 9)))
    (fun fr h => .exc ⟨9, []⟩ fr h)
    (M.ret .nx))
    m__law_raise_k3)
def m__law_raise_k1 : M Fl :=
    (mSeq (mIfS (mOp cEq (mVar 0) (mC (.int 8)))
    (mRaise 8 1 chk_BadTable (mArgs [(mVar 2)]))
    (M.ret .nx))
    m__law_raise_k2)
def m__law_raise : M Fl :=
    (mSeq (mIfS (mOp cLt (mVar 0) (mC (.int 8)))
    (mDrop (mCall 3 0 f__law_raise_early (gPos []) (mArgs [(mVar 0), (mVar 1), (mVar 2)]) (mArgs [])))
    (M.ret .nx))
    m__law_raise_k1)
def f__law_raise : Fn := runF 3 m__law_raise
def m__law_kinds_y1 : M Fl :=
    (mDrop (mCall 3 0 f__law_raise (gPos []) (mArgs [(mVar 0), (mVar 1), (mVar 2)]) (mArgs [])))
def m__law_kinds : M Fl :=
    (mSeq (mTryA 3 cond_CountError m__law_kinds_y1 (fun y => (mSeq (mPut 4 (mLst [(mIsX errTab y.c (mC (.cls 0))), (mIsX errTab y.c (mC (.cls 1))), (mIsX errTab y.c (mC (.cls 2))), (mIsX errTab y.c (mC (.cls 3)))])) (mSeq (mPut 4 (mOp bAdd (mVar 4) (mFz (mLst [(mIsX errTab y.c (mC (.cls 4))), (mIsX errTab y.c (mC (.cls 5))), (mIsX errTab y.c (mC (.cls 6)))])))) (mSeq (mPut 4 (mOp bAdd (mVar 4) (mFz (mLst [(mIsX errTab y.c (mC (.cls 7))), (mIsX errTab y.c (mC (.cls 8))), (mIsX errTab y.c (mC (.cls 9))), (mIsX errTab y.c (mC (.cls 10)))])))) (mSeq (mPut 4 (mOp bAdd (mVar 4) (mFz (mLst [(mIsX errTab y.c (mC (.cls 11))), (mIsX errTab y.c (mC (.cls 12))), (mIsX errTab y.c (mC (.cls 13)))])))) (mRet (mOp bAdd (mVar 4) (mFz (mLst [(mIsX errTab y.c (mC (.ty "ValueError")))]))))))))))
    (mRet (mLst [])))
def f__law_kinds : Fn := runF 5 m__law_kinds
def m__law_words_borne_y1 : M Fl :=
    (mDrop (mCall 3 0 f__law_raise (gPos []) (mArgs [(mVar 0), (mVar 1), (mVar 2)]) (mArgs [])))
def m__law_words_borne : M Fl :=
    (mSeq (mTryN [(some 3, cond_BadInstance_BadWorld_BadUnit_TooMany, fun y => (mRet (mLst [(mXF xf_what y)]))), (some 3, cond_NotAllowed, fun y => (mRet (mLst [(mXF xf_lacking y)]))), (some 3, cond_BadDeed, fun y => (mRet (mLst [(mXF xf_why y)]))), (some 3, cond_BadRun, fun y => (mRet (mLst [(mXF xf_at y), (mXF xf_why y)]))), (none, cond_CountError, fun y => (mRet (mLst [])))] m__law_words_borne_y1)
    (mRet (mC .non)))
def f__law_words_borne : Fn := runF 4 m__law_words_borne
def m__law_numbers_borne_y1 : M Fl :=
    (mDrop (mCall 3 0 f__law_raise (gPos []) (mArgs [(mVar 0), (mVar 1), (mVar 2)]) (mArgs [])))
def m__law_numbers_borne : M Fl :=
    (mSeq (mTryN [(some 3, cond_NoInstance, fun y => (mRet (mLst [(mXF xf_at y)]))), (some 3, cond_BadTable, fun y => (mRet (mLst [(mXF xf_line y)]))), (some 3, cond_BadText, fun y => (mRet (mLst [(mXF xf_position y)]))), (none, cond_CountError, fun y => (mRet (mLst [])))] m__law_numbers_borne_y1)
    (mRet (mC .non)))
def f__law_numbers_borne : Fn := runF 4 m__law_numbers_borne
def m_law_g1 : D → M Unit :=
    (tgNm 7)
def m_law_t1 : M Bool :=
    (M.ret true)
def m_law_e1 : M D :=
    (mOp (fun h x y => (cEq h x y).map .bl) (mVar 7) (mBor 3))
def m_law_b4 : M Fl :=
    (mSeq (mPut 4 (mCall 2 0 f__law_of (gPos []) (mArgs [(mVar 2), (mFz (mLst [(mC (.str "tests")), (mC (.str "counts")), (mC (.str "over")), (mC (.str "x")), (mC (.str "terms")), (mC (.str "readings")), (mC (.str "lost"))]))]) (mArgs [])))
    (mSeq (mPut 5 (mOp bMul (mFz (mOp bAdd (mFz (mCall 2 0 f__law_draw (gPos []) (mArgs [(mVar 2), (mOp bPow (mC (.int 10)) (mC (.int 30)))]) (mArgs []))) (mC (.int 2)))) (mFz (mCall 2 0 f__law_of (gPos []) (mArgs [(mVar 2), (mFz (mLst [(mC (.int 1)), (mUn (fun _ => bNeg) (mC (.int 1)))]))]) (mArgs [])))))
    (mSeq (mIfS (mOp cNe (mFz (mCall 3 0 f__law_kinds (gPos []) (mArgs [(mVar 3), (mVar 4), (mVar 5)]) (mArgs []))) (mOp bAdd (mFz (mLc [7] (mRng1 (mC (.int 14))) m_law_g1 m_law_t1 m_law_e1)) (mFz (mLst [(mC (.bl true))]))))
    (mRet (mC (.bl false)))
    (M.ret .nx))
    (mSeq (mPut 6 (mIf (mOp cIn (mVar 3) (mTup [(mC (.int 0)), (mC (.int 4)), (mC (.int 6)), (mC (.int 11)), (mC (.int 12))])) (mLst [(mVar 4)]) (mLst [])))
    (mSeq (mIfS (mOp cEq (mVar 3) (mC (.int 5)))
    (mPut 6 (mLst [(mTup [(mVar 4), (mC (.str "past"))])]))
    (M.ret .nx))
    (mSeq (mIfS (mOp cEq (mVar 3) (mC (.int 7)))
    (mPut 6 (mLst [(mVar 5), (mVar 4)]))
    (M.ret .nx))
    (mSeq (mIfS (mOp cNe (mFz (mCall 3 0 f__law_words_borne (gPos []) (mArgs [(mVar 3), (mVar 4), (mVar 5)]) (mArgs []))) (mBor 6))
    (mRet (mC (.bl false)))
    (M.ret .nx))
    (mIfS (mOp cNe (mFz (mCall 3 0 f__law_numbers_borne (gPos []) (mArgs [(mVar 3), (mVar 4), (mVar 5)]) (mArgs []))) (mIf (mOp cIn (mVar 3) (mTup [(mC (.int 3)), (mC (.int 8)), (mC (.int 10))])) (mLst [(mVar 5)]) (mLst [])))
    (mRet (mC (.bl false)))
    (M.ret .nx)))))))))
def m_law_b5 : M Fl :=
    (mSeq (mPut 2 (mCell (mCall 2 0 f__law_source (gPos []) (mArgs [(mVar 0), (mVar 1)]) (mArgs []))))
    (mForI (mRng1 (mC (.int 15))) (tgNm 3) m_law_b4))
def m_law : M Fl :=
    (mSeq (mForI (mRng1 (mOp bMax2 (mC (.int 1)) (mOp bMin2 (mC (.int 10)) (mUn bLen (mBor 0))))) (tgNm 1) m_law_b5)
    (mRet (mC (.bl true))))
def f_law : Fn := runF 8 m_law
end L

namespace L
open PySem PySem.Spec L2 Pk
/-! ### where the defs stand -/
def top (i : Nat) : Stmt := PySem.Challenge.pw_countrestarts_k97_errors_apart.main.body.getD i (.Pass ⟨0, 0, 0, 0⟩)
abbrev s__law_source : Stmt := top 17
abbrev N__law_source : List Str := ["_law_script", "_law_at", "_law_cell", "_law_large"]
abbrev P__law_source : List Str := ["_law_script", "_law_at"]
theorem sc__law_source : FnScope N__law_source P__law_source (defScope s__law_source) := ⟨rfl, rfl, rfl, by decide +kernel, rfl, by decide +kernel, by decide +kernel⟩
def d__law_source : PD := ⟨fun K => He.ga K "_law_source", "_law_source", "_law_source", defArgs s__law_source, defBody s__law_source, defScope s__law_source, [], [], false⟩
abbrev s__law_draw : Stmt := top 18
abbrev N__law_draw : List Str := ["_law_source_here", "_law_many", "_law_digit", "_law_mixed"]
abbrev P__law_draw : List Str := ["_law_source_here", "_law_many"]
theorem sc__law_draw : FnScope N__law_draw P__law_draw (defScope s__law_draw) := ⟨rfl, rfl, rfl, by decide +kernel, rfl, by decide +kernel, by decide +kernel⟩
def d__law_draw : PD := ⟨fun K => He.ga K "_law_draw", "_law_draw", "_law_draw", defArgs s__law_draw, defBody s__law_draw, defScope s__law_draw, [], [], false⟩
abbrev s__law_of : Stmt := top 19
abbrev N__law_of : List Str := ["_law_source_here", "_law_some"]
abbrev P__law_of : List Str := ["_law_source_here", "_law_some"]
theorem sc__law_of : FnScope N__law_of P__law_of (defScope s__law_of) := ⟨rfl, rfl, rfl, by decide +kernel, rfl, by decide +kernel, by decide +kernel⟩
def d__law_of : PD := ⟨fun K => He.ga K "_law_of", "_law_of", "_law_of", defArgs s__law_of, defBody s__law_of, defScope s__law_of, [], [], false⟩
abbrev s__law_raise_early : Stmt := top 20
abbrev N__law_raise_early : List Str := ["_law_road", "_law_word", "_law_number"]
abbrev P__law_raise_early : List Str := ["_law_road", "_law_word", "_law_number"]
theorem sc__law_raise_early : FnScope N__law_raise_early P__law_raise_early (defScope s__law_raise_early) := ⟨rfl, rfl, rfl, by decide +kernel, rfl, by decide +kernel, by decide +kernel⟩
def d__law_raise_early : PD := ⟨fun K => He.ga K "_law_raise_early", "_law_raise_early", "_law_raise_early", defArgs s__law_raise_early, defBody s__law_raise_early, defScope s__law_raise_early, [], [], false⟩
abbrev s__law_raise : Stmt := top 21
abbrev N__law_raise : List Str := ["_law_road", "_law_word", "_law_number"]
abbrev P__law_raise : List Str := ["_law_road", "_law_word", "_law_number"]
theorem sc__law_raise : FnScope N__law_raise P__law_raise (defScope s__law_raise) := ⟨rfl, rfl, rfl, by decide +kernel, rfl, by decide +kernel, by decide +kernel⟩
def d__law_raise : PD := ⟨fun K => He.ga K "_law_raise", "_law_raise", "_law_raise", defArgs s__law_raise, defBody s__law_raise, defScope s__law_raise, [], [], false⟩
abbrev s__law_kinds : Stmt := top 22
abbrev N__law_kinds : List Str := ["_law_road", "_law_word", "_law_number", "e", "_law_found"]
abbrev P__law_kinds : List Str := ["_law_road", "_law_word", "_law_number"]
theorem sc__law_kinds : FnScope N__law_kinds P__law_kinds (defScope s__law_kinds) := ⟨rfl, rfl, rfl, by decide +kernel, rfl, by decide +kernel, by decide +kernel⟩
def d__law_kinds : PD := ⟨fun K => He.ga K "_law_kinds", "_law_kinds", "_law_kinds", defArgs s__law_kinds, defBody s__law_kinds, defScope s__law_kinds, [], [], false⟩
abbrev s__law_words_borne : Stmt := top 23
abbrev N__law_words_borne : List Str := ["_law_road", "_law_word", "_law_number", "e"]
abbrev P__law_words_borne : List Str := ["_law_road", "_law_word", "_law_number"]
theorem sc__law_words_borne : FnScope N__law_words_borne P__law_words_borne (defScope s__law_words_borne) := ⟨rfl, rfl, rfl, by decide +kernel, rfl, by decide +kernel, by decide +kernel⟩
def d__law_words_borne : PD := ⟨fun K => He.ga K "_law_words_borne", "_law_words_borne", "_law_words_borne", defArgs s__law_words_borne, defBody s__law_words_borne, defScope s__law_words_borne, [], [], false⟩
abbrev s__law_numbers_borne : Stmt := top 24
abbrev N__law_numbers_borne : List Str := ["_law_road", "_law_word", "_law_number", "e"]
abbrev P__law_numbers_borne : List Str := ["_law_road", "_law_word", "_law_number"]
theorem sc__law_numbers_borne : FnScope N__law_numbers_borne P__law_numbers_borne (defScope s__law_numbers_borne) := ⟨rfl, rfl, rfl, by decide +kernel, rfl, by decide +kernel, by decide +kernel⟩
def d__law_numbers_borne : PD := ⟨fun K => He.ga K "_law_numbers_borne", "_law_numbers_borne", "_law_numbers_borne", defArgs s__law_numbers_borne, defBody s__law_numbers_borne, defScope s__law_numbers_borne, [], [], false⟩
abbrev s_law : Stmt := top 25
abbrev N_law : List Str := ["_law_script", "_law_at", "_law_source_here", "_law_road", "_law_word", "_law_number", "_law_due", "_law_k"]
abbrev P_law : List Str := ["_law_script"]
theorem sc_law : FnScope N_law P_law (defScope s_law) := ⟨rfl, rfl, rfl, by decide +kernel, rfl, by decide +kernel, by decide +kernel⟩
def d_law : PD := ⟨fun K => He.ga K "law", "law", "law", defArgs s_law, defBody s_law, defScope s_law, [], [], false⟩
abbrev s_BadInstance____init__ : Stmt := inClass (top 2) 0
def d_BadInstance____init__ : PD := ⟨fun K => He.ma K (He.ga K "BadInstance") "__init__", "__init__", "BadInstance.__init__", defArgs s_BadInstance____init__, defBody s_BadInstance____init__, defScope s_BadInstance____init__, [], [], true⟩
abbrev gs_BadInstance : List PySem.ExS.Asg := [("what", ⟨8, 8, 8, 12⟩, ⟨8, 8, 8, 17⟩, ⟨8, 20, 8, 24⟩, ⟨8, 8, 8, 24⟩)]
def Ok_BadInstance (K : PySem.W.Frag) (H : Hp) (vs : List V) : Prop := ∃ z : Str, vs = [.str z] ∧ z.length ≤ 1000
theorem hok_BadInstance {K : PySem.W.Frag} {T : Tb} : ∀ (w : Wd) (H : Hp) (vs : List V) (ds : List D), (∀ a o, w.F a = some o → H a = some o) → RelDs K T w vs ds → chk_BadInstance ds = true → Ok_BadInstance K H vs := by
  intro w H vs ds sub r e
  unfold chk_BadInstance at e
  split at e
  · exact Pk.hok_str r e
  · cases e
theorem xs_BadInstance {K : PySem.W.Frag} : PySem.ExS.ExSt K (defArgs s_BadInstance____init__) (defScope s_BadInstance____init__) "BadInstance.__init__" (.BinOp (.Constant (.str "invalid instance: ") 0 ⟨7, 25, 7, 45⟩) .Add (.Name "what" ⟨7, 48, 7, 52⟩) ⟨7, 25, 7, 52⟩) ⟨7, 8, 7, 13⟩ ⟨7, 8, 7, 15⟩ ⟨7, 8, 7, 24⟩ ⟨7, 8, 7, 53⟩ ⟨7, 8, 7, 53⟩ gs_BadInstance (Ok_BadInstance K) where
  bind := fun _ _ _ _ _ _ _ _ us hl => match us, hl with | [_], _ => (by kernel_rfl)
  nd := by decide +kernel
  len := by decide
  loc := by decide +kernel
  dbg := by decide +kernel
  cell := by decide +kernel
  hp := ⟨_, rfl, rfl⟩
  ks := rfl
  kc := rfl
  co := rfl
  gen := rfl
  k := rfl
  hE := fun H0 vs us ok rv hl cda cc L x fI prog w A h0 h g d t os E Q X hH kp hn hq => Pk.hE_one "invalid instance: " "what" ok rv (by decide +kernel) rfl rfl (by decide) hn hq
  hin := fun _ _ _ _ => rfl
  hev := fun _ _ _ _ => ⟨_, rfl⟩
  hsw := fun _ _ _ _ => rfl
  hst := fun _ => rfl
  hsw2 := fun _ _ _ _ _ => rfl
theorem bd_BadInstance : (d_BadInstance____init__).body = PySem.ExS.sup (.BinOp (.Constant (.str "invalid instance: ") 0 ⟨7, 25, 7, 45⟩) .Add (.Name "what" ⟨7, 48, 7, 52⟩) ⟨7, 25, 7, 52⟩) ⟨7, 8, 7, 13⟩ ⟨7, 8, 7, 15⟩ ⟨7, 8, 7, 24⟩ ⟨7, 8, 7, 53⟩ ⟨7, 8, 7, 53⟩ :: PySem.ExS.asgs gs_BadInstance := rfl
abbrev s_Unlike____init__ : Stmt := inClass (top 3) 0
def d_Unlike____init__ : PD := ⟨fun K => He.ma K (He.ga K "Unlike") "__init__", "__init__", "Unlike.__init__", defArgs s_Unlike____init__, defBody s_Unlike____init__, defScope s_Unlike____init__, [], [], true⟩
abbrev gs_Unlike : List PySem.ExS.Asg := []
def Ok_Unlike (K : PySem.W.Frag) (H : Hp) (vs : List V) : Prop := True
theorem hok_Unlike {K : PySem.W.Frag} {T : Tb} : ∀ (w : Wd) (H : Hp) (vs : List V) (ds : List D), (∀ a o, w.F a = some o → H a = some o) → RelDs K T w vs ds → chk_Unlike ds = true → Ok_Unlike K H vs := fun _ _ _ _ _ _ _ => trivial
theorem xs_Unlike {K : PySem.W.Frag} : PySem.ExS.ExSt K (defArgs s_Unlike____init__) (defScope s_Unlike____init__) "Unlike.__init__" (.Constant (.str "the windows have different numbers of moments") 0 ⟨12, 25, 12, 72⟩) ⟨12, 8, 12, 13⟩ ⟨12, 8, 12, 15⟩ ⟨12, 8, 12, 24⟩ ⟨12, 8, 12, 73⟩ ⟨12, 8, 12, 73⟩ gs_Unlike (Ok_Unlike K) where
  bind := fun _ _ _ _ _ _ _ _ us hl => match us, hl with | [], _ => (by kernel_rfl)
  nd := by decide +kernel
  len := by decide
  loc := by decide +kernel
  dbg := by decide +kernel
  cell := by decide +kernel
  hp := ⟨_, rfl, rfl⟩
  ks := rfl
  kc := rfl
  co := rfl
  gen := rfl
  k := rfl
  hE := fun _ _ _ _ _ _ _ _ _ _ _ _ _ _ _ _ _ _ _ _ _ _ _ _ _ _ hq => hE_con hq
  hin := fun _ _ _ _ => rfl
  hev := fun _ _ _ _ => ⟨_, rfl⟩
  hsw := fun _ _ _ _ => rfl
  hst := fun _ => rfl
  hsw2 := fun _ _ _ _ _ => rfl
theorem bd_Unlike : (d_Unlike____init__).body = PySem.ExS.sup (.Constant (.str "the windows have different numbers of moments") 0 ⟨12, 25, 12, 72⟩) ⟨12, 8, 12, 13⟩ ⟨12, 8, 12, 15⟩ ⟨12, 8, 12, 24⟩ ⟨12, 8, 12, 73⟩ ⟨12, 8, 12, 73⟩ :: PySem.ExS.asgs gs_Unlike := rfl
abbrev s_BadFactor____init__ : Stmt := inClass (top 4) 0
def d_BadFactor____init__ : PD := ⟨fun K => He.ma K (He.ga K "BadFactor") "__init__", "__init__", "BadFactor.__init__", defArgs s_BadFactor____init__, defBody s_BadFactor____init__, defScope s_BadFactor____init__, [], [], true⟩
abbrev gs_BadFactor : List PySem.ExS.Asg := []
def Ok_BadFactor (K : PySem.W.Frag) (H : Hp) (vs : List V) : Prop := True
theorem hok_BadFactor {K : PySem.W.Frag} {T : Tb} : ∀ (w : Wd) (H : Hp) (vs : List V) (ds : List D), (∀ a o, w.F a = some o → H a = some o) → RelDs K T w vs ds → chk_BadFactor ds = true → Ok_BadFactor K H vs := fun _ _ _ _ _ _ _ => trivial
theorem xs_BadFactor {K : PySem.W.Frag} : PySem.ExS.ExSt K (defArgs s_BadFactor____init__) (defScope s_BadFactor____init__) "BadFactor.__init__" (.Constant (.str "the factor must be an integer of at least 1") 0 ⟨16, 25, 16, 70⟩) ⟨16, 8, 16, 13⟩ ⟨16, 8, 16, 15⟩ ⟨16, 8, 16, 24⟩ ⟨16, 8, 16, 71⟩ ⟨16, 8, 16, 71⟩ gs_BadFactor (Ok_BadFactor K) where
  bind := fun _ _ _ _ _ _ _ _ us hl => match us, hl with | [], _ => (by kernel_rfl)
  nd := by decide +kernel
  len := by decide
  loc := by decide +kernel
  dbg := by decide +kernel
  cell := by decide +kernel
  hp := ⟨_, rfl, rfl⟩
  ks := rfl
  kc := rfl
  co := rfl
  gen := rfl
  k := rfl
  hE := fun _ _ _ _ _ _ _ _ _ _ _ _ _ _ _ _ _ _ _ _ _ _ _ _ _ _ hq => hE_con hq
  hin := fun _ _ _ _ => rfl
  hev := fun _ _ _ _ => ⟨_, rfl⟩
  hsw := fun _ _ _ _ => rfl
  hst := fun _ => rfl
  hsw2 := fun _ _ _ _ _ => rfl
theorem bd_BadFactor : (d_BadFactor____init__).body = PySem.ExS.sup (.Constant (.str "the factor must be an integer of at least 1") 0 ⟨16, 25, 16, 70⟩) ⟨16, 8, 16, 13⟩ ⟨16, 8, 16, 15⟩ ⟨16, 8, 16, 24⟩ ⟨16, 8, 16, 71⟩ ⟨16, 8, 16, 71⟩ :: PySem.ExS.asgs gs_BadFactor := rfl
abbrev s_NoInstance____init__ : Stmt := inClass (top 5) 0
def d_NoInstance____init__ : PD := ⟨fun K => He.ma K (He.ga K "NoInstance") "__init__", "__init__", "NoInstance.__init__", defArgs s_NoInstance____init__, defBody s_NoInstance____init__, defScope s_NoInstance____init__, [], [], true⟩
abbrev gs_NoInstance : List PySem.ExS.Asg := [("at", ⟨21, 8, 21, 12⟩, ⟨21, 8, 21, 15⟩, ⟨21, 18, 21, 20⟩, ⟨21, 8, 21, 20⟩)]
def Ok_NoInstance (K : PySem.W.Frag) (H : Hp) (vs : List V) : Prop := True
theorem hok_NoInstance {K : PySem.W.Frag} {T : Tb} : ∀ (w : Wd) (H : Hp) (vs : List V) (ds : List D), (∀ a o, w.F a = some o → H a = some o) → RelDs K T w vs ds → chk_NoInstance ds = true → Ok_NoInstance K H vs := fun _ _ _ _ _ _ _ => trivial
theorem xs_NoInstance {K : PySem.W.Frag} : PySem.ExS.ExSt K (defArgs s_NoInstance____init__) (defScope s_NoInstance____init__) "NoInstance.__init__" (.Constant (.str "there is no instance with this index") 0 ⟨20, 25, 20, 63⟩) ⟨20, 8, 20, 13⟩ ⟨20, 8, 20, 15⟩ ⟨20, 8, 20, 24⟩ ⟨20, 8, 20, 64⟩ ⟨20, 8, 20, 64⟩ gs_NoInstance (Ok_NoInstance K) where
  bind := fun _ _ _ _ _ _ _ _ us hl => match us, hl with | [_], _ => (by kernel_rfl)
  nd := by decide +kernel
  len := by decide
  loc := by decide +kernel
  dbg := by decide +kernel
  cell := by decide +kernel
  hp := ⟨_, rfl, rfl⟩
  ks := rfl
  kc := rfl
  co := rfl
  gen := rfl
  k := rfl
  hE := fun _ _ _ _ _ _ _ _ _ _ _ _ _ _ _ _ _ _ _ _ _ _ _ _ _ _ hq => hE_con hq
  hin := fun _ _ _ _ => rfl
  hev := fun _ _ _ _ => ⟨_, rfl⟩
  hsw := fun _ _ _ _ => rfl
  hst := fun _ => rfl
  hsw2 := fun _ _ _ _ _ => rfl
theorem bd_NoInstance : (d_NoInstance____init__).body = PySem.ExS.sup (.Constant (.str "there is no instance with this index") 0 ⟨20, 25, 20, 63⟩) ⟨20, 8, 20, 13⟩ ⟨20, 8, 20, 15⟩ ⟨20, 8, 20, 24⟩ ⟨20, 8, 20, 64⟩ ⟨20, 8, 20, 64⟩ :: PySem.ExS.asgs gs_NoInstance := rfl
abbrev s_BadWorld____init__ : Stmt := inClass (top 6) 0
def d_BadWorld____init__ : PD := ⟨fun K => He.ma K (He.ga K "BadWorld") "__init__", "__init__", "BadWorld.__init__", defArgs s_BadWorld____init__, defBody s_BadWorld____init__, defScope s_BadWorld____init__, [], [], true⟩
abbrev gs_BadWorld : List PySem.ExS.Asg := [("what", ⟨26, 8, 26, 12⟩, ⟨26, 8, 26, 17⟩, ⟨26, 20, 26, 24⟩, ⟨26, 8, 26, 24⟩)]
def Ok_BadWorld (K : PySem.W.Frag) (H : Hp) (vs : List V) : Prop := ∃ z : Str, vs = [.str z] ∧ z.length ≤ 1000
theorem hok_BadWorld {K : PySem.W.Frag} {T : Tb} : ∀ (w : Wd) (H : Hp) (vs : List V) (ds : List D), (∀ a o, w.F a = some o → H a = some o) → RelDs K T w vs ds → chk_BadWorld ds = true → Ok_BadWorld K H vs := by
  intro w H vs ds sub r e
  unfold chk_BadWorld at e
  split at e
  · exact Pk.hok_str r e
  · cases e
theorem xs_BadWorld {K : PySem.W.Frag} : PySem.ExS.ExSt K (defArgs s_BadWorld____init__) (defScope s_BadWorld____init__) "BadWorld.__init__" (.BinOp (.Constant (.str "invalid world: ") 0 ⟨25, 25, 25, 42⟩) .Add (.Name "what" ⟨25, 45, 25, 49⟩) ⟨25, 25, 25, 49⟩) ⟨25, 8, 25, 13⟩ ⟨25, 8, 25, 15⟩ ⟨25, 8, 25, 24⟩ ⟨25, 8, 25, 50⟩ ⟨25, 8, 25, 50⟩ gs_BadWorld (Ok_BadWorld K) where
  bind := fun _ _ _ _ _ _ _ _ us hl => match us, hl with | [_], _ => (by kernel_rfl)
  nd := by decide +kernel
  len := by decide
  loc := by decide +kernel
  dbg := by decide +kernel
  cell := by decide +kernel
  hp := ⟨_, rfl, rfl⟩
  ks := rfl
  kc := rfl
  co := rfl
  gen := rfl
  k := rfl
  hE := fun H0 vs us ok rv hl cda cc L x fI prog w A h0 h g d t os E Q X hH kp hn hq => Pk.hE_one "invalid world: " "what" ok rv (by decide +kernel) rfl rfl (by decide) hn hq
  hin := fun _ _ _ _ => rfl
  hev := fun _ _ _ _ => ⟨_, rfl⟩
  hsw := fun _ _ _ _ => rfl
  hst := fun _ => rfl
  hsw2 := fun _ _ _ _ _ => rfl
theorem bd_BadWorld : (d_BadWorld____init__).body = PySem.ExS.sup (.BinOp (.Constant (.str "invalid world: ") 0 ⟨25, 25, 25, 42⟩) .Add (.Name "what" ⟨25, 45, 25, 49⟩) ⟨25, 25, 25, 49⟩) ⟨25, 8, 25, 13⟩ ⟨25, 8, 25, 15⟩ ⟨25, 8, 25, 24⟩ ⟨25, 8, 25, 50⟩ ⟨25, 8, 25, 50⟩ :: PySem.ExS.asgs gs_BadWorld := rfl
abbrev s_NotAllowed____init__ : Stmt := inClass (top 7) 0
def d_NotAllowed____init__ : PD := ⟨fun K => He.ma K (He.ga K "NotAllowed") "__init__", "__init__", "NotAllowed.__init__", defArgs s_NotAllowed____init__, defBody s_NotAllowed____init__, defScope s_NotAllowed____init__, [], [], true⟩
abbrev gs_NotAllowed : List PySem.ExS.Asg := [("lacking", ⟨31, 8, 31, 12⟩, ⟨31, 8, 31, 20⟩, ⟨31, 23, 31, 30⟩, ⟨31, 8, 31, 30⟩)]
def Ok_NotAllowed (K : PySem.W.Frag) (H : Hp) (vs : List V) : Prop := Pk.okWords K H vs
theorem hok_NotAllowed {K : PySem.W.Frag} {T : Tb} : ∀ (w : Wd) (H : Hp) (vs : List V) (ds : List D), (∀ a o, w.F a = some o → H a = some o) → RelDs K T w vs ds → chk_NotAllowed ds = true → Ok_NotAllowed K H vs := fun _ _ _ _ sub r e => Pk.hok_words sub r e
theorem xs_NotAllowed {K : PySem.W.Frag} : PySem.ExS.ExSt K (defArgs s_NotAllowed____init__) (defScope s_NotAllowed____init__) "NotAllowed.__init__" (.BinOp (.Constant (.str "the world lacks: ") 0 ⟨30, 25, 30, 44⟩) .Add (.Call (.Attribute (.Constant (.str " ") 0 ⟨30, 47, 30, 50⟩) "join" ⟨30, 47, 30, 55⟩) [.Name "lacking" ⟨30, 56, 30, 63⟩] [] ⟨30, 47, 30, 64⟩) ⟨30, 25, 30, 64⟩) ⟨30, 8, 30, 13⟩ ⟨30, 8, 30, 15⟩ ⟨30, 8, 30, 24⟩ ⟨30, 8, 30, 65⟩ ⟨30, 8, 30, 65⟩ gs_NotAllowed (Ok_NotAllowed K) where
  bind := fun _ _ _ _ _ _ _ _ us hl => match us, hl with | [_], _ => (by kernel_rfl)
  nd := by decide +kernel
  len := by decide
  loc := by decide +kernel
  dbg := by decide +kernel
  cell := by decide +kernel
  hp := ⟨_, rfl, rfl⟩
  ks := rfl
  kc := rfl
  co := rfl
  gen := rfl
  k := rfl
  hE := fun H0 vs us ok rv hl cda cc L x fI prog w A h0 h g d t os E Q X hH kp hn hq => Pk.hE_join "the world lacks: " " " "lacking" ok rv (by decide +kernel) (by decide +kernel) rfl rfl (by decide) X hH kp hn hq rfl (Pk.join_len (by decide +kernel) (by decide +kernel))
  hin := fun _ _ _ _ => rfl
  hev := fun _ _ _ _ => ⟨_, rfl⟩
  hsw := fun _ _ _ _ => rfl
  hst := fun _ => rfl
  hsw2 := fun _ _ _ _ _ => rfl
theorem bd_NotAllowed : (d_NotAllowed____init__).body = PySem.ExS.sup (.BinOp (.Constant (.str "the world lacks: ") 0 ⟨30, 25, 30, 44⟩) .Add (.Call (.Attribute (.Constant (.str " ") 0 ⟨30, 47, 30, 50⟩) "join" ⟨30, 47, 30, 55⟩) [.Name "lacking" ⟨30, 56, 30, 63⟩] [] ⟨30, 47, 30, 64⟩) ⟨30, 25, 30, 64⟩) ⟨30, 8, 30, 13⟩ ⟨30, 8, 30, 15⟩ ⟨30, 8, 30, 24⟩ ⟨30, 8, 30, 65⟩ ⟨30, 8, 30, 65⟩ :: PySem.ExS.asgs gs_NotAllowed := rfl
abbrev s_BadDeed____init__ : Stmt := inClass (top 8) 0
def d_BadDeed____init__ : PD := ⟨fun K => He.ma K (He.ga K "BadDeed") "__init__", "__init__", "BadDeed.__init__", defArgs s_BadDeed____init__, defBody s_BadDeed____init__, defScope s_BadDeed____init__, [], [], true⟩
abbrev gs_BadDeed : List PySem.ExS.Asg := [("why", ⟨36, 8, 36, 12⟩, ⟨36, 8, 36, 16⟩, ⟨36, 19, 36, 22⟩, ⟨36, 8, 36, 22⟩)]
def Ok_BadDeed (K : PySem.W.Frag) (H : Hp) (vs : List V) : Prop := ∃ z : Str, vs = [.str z] ∧ z.length ≤ 1000
theorem hok_BadDeed {K : PySem.W.Frag} {T : Tb} : ∀ (w : Wd) (H : Hp) (vs : List V) (ds : List D), (∀ a o, w.F a = some o → H a = some o) → RelDs K T w vs ds → chk_BadDeed ds = true → Ok_BadDeed K H vs := by
  intro w H vs ds sub r e
  unfold chk_BadDeed at e
  split at e
  · exact Pk.hok_str r e
  · cases e
theorem xs_BadDeed {K : PySem.W.Frag} : PySem.ExS.ExSt K (defArgs s_BadDeed____init__) (defScope s_BadDeed____init__) "BadDeed.__init__" (.BinOp (.Constant (.str "the deed cannot be done: ") 0 ⟨35, 25, 35, 52⟩) .Add (.Name "why" ⟨35, 55, 35, 58⟩) ⟨35, 25, 35, 58⟩) ⟨35, 8, 35, 13⟩ ⟨35, 8, 35, 15⟩ ⟨35, 8, 35, 24⟩ ⟨35, 8, 35, 59⟩ ⟨35, 8, 35, 59⟩ gs_BadDeed (Ok_BadDeed K) where
  bind := fun _ _ _ _ _ _ _ _ us hl => match us, hl with | [_], _ => (by kernel_rfl)
  nd := by decide +kernel
  len := by decide
  loc := by decide +kernel
  dbg := by decide +kernel
  cell := by decide +kernel
  hp := ⟨_, rfl, rfl⟩
  ks := rfl
  kc := rfl
  co := rfl
  gen := rfl
  k := rfl
  hE := fun H0 vs us ok rv hl cda cc L x fI prog w A h0 h g d t os E Q X hH kp hn hq => Pk.hE_one "the deed cannot be done: " "why" ok rv (by decide +kernel) rfl rfl (by decide) hn hq
  hin := fun _ _ _ _ => rfl
  hev := fun _ _ _ _ => ⟨_, rfl⟩
  hsw := fun _ _ _ _ => rfl
  hst := fun _ => rfl
  hsw2 := fun _ _ _ _ _ => rfl
theorem bd_BadDeed : (d_BadDeed____init__).body = PySem.ExS.sup (.BinOp (.Constant (.str "the deed cannot be done: ") 0 ⟨35, 25, 35, 52⟩) .Add (.Name "why" ⟨35, 55, 35, 58⟩) ⟨35, 25, 35, 58⟩) ⟨35, 8, 35, 13⟩ ⟨35, 8, 35, 15⟩ ⟨35, 8, 35, 24⟩ ⟨35, 8, 35, 59⟩ ⟨35, 8, 35, 59⟩ :: PySem.ExS.asgs gs_BadDeed := rfl
abbrev s_BadRun____init__ : Stmt := inClass (top 9) 0
def d_BadRun____init__ : PD := ⟨fun K => He.ma K (He.ga K "BadRun") "__init__", "__init__", "BadRun.__init__", defArgs s_BadRun____init__, defBody s_BadRun____init__, defScope s_BadRun____init__, [], [], true⟩
abbrev gs_BadRun : List PySem.ExS.Asg := [("at", ⟨41, 8, 41, 12⟩, ⟨41, 8, 41, 15⟩, ⟨41, 18, 41, 20⟩, ⟨41, 8, 41, 20⟩), ("why", ⟨42, 8, 42, 12⟩, ⟨42, 8, 42, 16⟩, ⟨42, 19, 42, 22⟩, ⟨42, 8, 42, 22⟩)]
theorem fe_BadRun : ∃ p0 p1 p2 p3 p4 p5 p6 : Pos, Pk.exArg (defBody s_BadRun____init__) = .JoinedStr [.Constant (.str "deed ") 0 p0, .FormattedValue (.Name "at" p1) (-1) none p2, .Constant (.str " cannot be done: ") 0 p3, .FormattedValue (.Name "why" p4) (-1) none p5] p6 := ⟨_, _, _, _, _, _, _, rfl⟩
def Ok_BadRun (K : PySem.W.Frag) (H : Hp) (vs : List V) : Prop := ∃ (i_at : Int) (z_why : Str), vs = [.int i_at, .str z_why] ∧ i_at.natAbs.log2 < 1920 ∧ z_why.length ≤ 1000
theorem hok_BadRun {K : PySem.W.Frag} {T : Tb} : ∀ (w : Wd) (H : Hp) (vs : List V) (ds : List D), (∀ a o, w.F a = some o → H a = some o) → RelDs K T w vs ds → chk_BadRun ds = true → Ok_BadRun K H vs := by
  intro w H vs ds sub r e
  unfold chk_BadRun at e
  split at e
  · obtain ⟨e1, e2⟩ := Bool.and_eq_true_iff.mp e
    cases r with | cons r0 r =>
    cases r0
    cases r with | cons r1 r =>
    cases r1
    cases r
    exact ⟨_, _, rfl, of_decide_eq_true e1, of_decide_eq_true e2⟩
  · cases e
theorem xs_BadRun {K : PySem.W.Frag} : PySem.ExS.ExSt K (defArgs s_BadRun____init__) (defScope s_BadRun____init__) "BadRun.__init__" (Pk.exArg (defBody s_BadRun____init__)) ⟨40, 8, 40, 13⟩ ⟨40, 8, 40, 15⟩ ⟨40, 8, 40, 24⟩ ⟨40, 8, 40, 60⟩ ⟨40, 8, 40, 60⟩ gs_BadRun (Ok_BadRun K) where
  bind := fun _ _ _ _ _ _ _ _ us hl => match us, hl with | [_, _], _ => (by kernel_rfl)
  nd := by decide +kernel
  len := by decide
  loc := by decide +kernel
  dbg := by decide +kernel
  cell := by decide +kernel
  hp := ⟨_, rfl, rfl⟩
  ks := rfl
  kc := rfl
  co := rfl
  gen := rfl
  k := rfl
  hE := by
    intro H0 vs us ok rv hl cda cc L x fI prog w A h0 h g d t os E Q X hH kp hn hq
    obtain ⟨i_at, z_why, rfl, c_at, c_why⟩ := ok
    cases rv with | cons r0 rv =>
    obtain ⟨t0, rfl⟩ := r0
    cases rv with | cons r1 rv =>
    obtain ⟨t1, rfl⟩ := r1
    cases rv
    obtain ⟨p0, p1, p2, p3, p4, p5, p6, e⟩ := fe_BadRun
    rw [e]
    exact Pk.hE_fmt rfl hn (.con (by decide +kernel) (.int rfl (by decide) (by first | rfl | simp [List.lookup]) c_at (.con (by decide +kernel) (.str rfl (by decide) (by first | rfl | simp [List.lookup]) (Nat.le_trans c_why (by decide)) .nil)))) (Nat.le_of_ble_eq_true rfl) hq
  hin := fun _ _ _ _ => rfl
  hev := fun _ _ _ _ => ⟨_, rfl⟩
  hsw := fun _ _ _ _ => rfl
  hst := fun _ => rfl
  hsw2 := fun _ _ _ _ _ => rfl
theorem bd_BadRun : (d_BadRun____init__).body = PySem.ExS.sup (Pk.exArg (defBody s_BadRun____init__)) ⟨40, 8, 40, 13⟩ ⟨40, 8, 40, 15⟩ ⟨40, 8, 40, 24⟩ ⟨40, 8, 40, 60⟩ ⟨40, 8, 40, 60⟩ :: PySem.ExS.asgs gs_BadRun := rfl
abbrev s_BadTable____init__ : Stmt := inClass (top 10) 0
def d_BadTable____init__ : PD := ⟨fun K => He.ma K (He.ga K "BadTable") "__init__", "__init__", "BadTable.__init__", defArgs s_BadTable____init__, defBody s_BadTable____init__, defScope s_BadTable____init__, [], [], true⟩
abbrev gs_BadTable : List PySem.ExS.Asg := [("line", ⟨47, 8, 47, 12⟩, ⟨47, 8, 47, 17⟩, ⟨47, 20, 47, 24⟩, ⟨47, 8, 47, 24⟩)]
theorem fe_BadTable : ∃ p0 p1 p2 p3 p4 : Pos, Pk.exArg (defBody s_BadTable____init__) = .JoinedStr [.Constant (.str "line ") 0 p0, .FormattedValue (.Name "line" p1) (-1) none p2, .Constant (.str " of the table is wrong") 0 p3] p4 := ⟨_, _, _, _, _, rfl⟩
def Ok_BadTable (K : PySem.W.Frag) (H : Hp) (vs : List V) : Prop := ∃ (i_line : Int), vs = [.int i_line] ∧ i_line.natAbs.log2 < 1920
theorem hok_BadTable {K : PySem.W.Frag} {T : Tb} : ∀ (w : Wd) (H : Hp) (vs : List V) (ds : List D), (∀ a o, w.F a = some o → H a = some o) → RelDs K T w vs ds → chk_BadTable ds = true → Ok_BadTable K H vs := by
  intro w H vs ds sub r e
  unfold chk_BadTable at e
  split at e
  · cases r with | cons r0 r =>
    cases r0
    cases r
    exact ⟨_, rfl, of_decide_eq_true e⟩
  · cases e
theorem xs_BadTable {K : PySem.W.Frag} : PySem.ExS.ExSt K (defArgs s_BadTable____init__) (defScope s_BadTable____init__) "BadTable.__init__" (Pk.exArg (defBody s_BadTable____init__)) ⟨46, 8, 46, 13⟩ ⟨46, 8, 46, 15⟩ ⟨46, 8, 46, 24⟩ ⟨46, 8, 46, 62⟩ ⟨46, 8, 46, 62⟩ gs_BadTable (Ok_BadTable K) where
  bind := fun _ _ _ _ _ _ _ _ us hl => match us, hl with | [_], _ => (by kernel_rfl)
  nd := by decide +kernel
  len := by decide
  loc := by decide +kernel
  dbg := by decide +kernel
  cell := by decide +kernel
  hp := ⟨_, rfl, rfl⟩
  ks := rfl
  kc := rfl
  co := rfl
  gen := rfl
  k := rfl
  hE := by
    intro H0 vs us ok rv hl cda cc L x fI prog w A h0 h g d t os E Q X hH kp hn hq
    obtain ⟨i_line, rfl, c_line⟩ := ok
    cases rv with | cons r0 rv =>
    obtain ⟨t0, rfl⟩ := r0
    cases rv
    obtain ⟨p0, p1, p2, p3, p4, e⟩ := fe_BadTable
    rw [e]
    exact Pk.hE_fmt rfl hn (.con (by decide +kernel) (.int rfl (by decide) (by first | rfl | simp [List.lookup]) c_line (.con (by decide +kernel) .nil))) (Nat.le_of_ble_eq_true rfl) hq
  hin := fun _ _ _ _ => rfl
  hev := fun _ _ _ _ => ⟨_, rfl⟩
  hsw := fun _ _ _ _ => rfl
  hst := fun _ => rfl
  hsw2 := fun _ _ _ _ _ => rfl
theorem bd_BadTable : (d_BadTable____init__).body = PySem.ExS.sup (Pk.exArg (defBody s_BadTable____init__)) ⟨46, 8, 46, 13⟩ ⟨46, 8, 46, 15⟩ ⟨46, 8, 46, 24⟩ ⟨46, 8, 46, 62⟩ ⟨46, 8, 46, 62⟩ :: PySem.ExS.asgs gs_BadTable := rfl
abbrev s_BadTerm____init__ : Stmt := inClass (top 11) 0
def d_BadTerm____init__ : PD := ⟨fun K => He.ma K (He.ga K "BadTerm") "__init__", "__init__", "BadTerm.__init__", defArgs s_BadTerm____init__, defBody s_BadTerm____init__, defScope s_BadTerm____init__, [], [], true⟩
abbrev gs_BadTerm : List PySem.ExS.Asg := []
def Ok_BadTerm (K : PySem.W.Frag) (H : Hp) (vs : List V) : Prop := True
theorem hok_BadTerm {K : PySem.W.Frag} {T : Tb} : ∀ (w : Wd) (H : Hp) (vs : List V) (ds : List D), (∀ a o, w.F a = some o → H a = some o) → RelDs K T w vs ds → chk_BadTerm ds = true → Ok_BadTerm K H vs := fun _ _ _ _ _ _ _ => trivial
theorem xs_BadTerm {K : PySem.W.Frag} : PySem.ExS.ExSt K (defArgs s_BadTerm____init__) (defScope s_BadTerm____init__) "BadTerm.__init__" (.Constant (.str "no term can be built so") 0 ⟨51, 25, 51, 50⟩) ⟨51, 8, 51, 13⟩ ⟨51, 8, 51, 15⟩ ⟨51, 8, 51, 24⟩ ⟨51, 8, 51, 51⟩ ⟨51, 8, 51, 51⟩ gs_BadTerm (Ok_BadTerm K) where
  bind := fun _ _ _ _ _ _ _ _ us hl => match us, hl with | [], _ => (by kernel_rfl)
  nd := by decide +kernel
  len := by decide
  loc := by decide +kernel
  dbg := by decide +kernel
  cell := by decide +kernel
  hp := ⟨_, rfl, rfl⟩
  ks := rfl
  kc := rfl
  co := rfl
  gen := rfl
  k := rfl
  hE := fun _ _ _ _ _ _ _ _ _ _ _ _ _ _ _ _ _ _ _ _ _ _ _ _ _ _ hq => hE_con hq
  hin := fun _ _ _ _ => rfl
  hev := fun _ _ _ _ => ⟨_, rfl⟩
  hsw := fun _ _ _ _ => rfl
  hst := fun _ => rfl
  hsw2 := fun _ _ _ _ _ => rfl
theorem bd_BadTerm : (d_BadTerm____init__).body = PySem.ExS.sup (.Constant (.str "no term can be built so") 0 ⟨51, 25, 51, 50⟩) ⟨51, 8, 51, 13⟩ ⟨51, 8, 51, 15⟩ ⟨51, 8, 51, 24⟩ ⟨51, 8, 51, 51⟩ ⟨51, 8, 51, 51⟩ :: PySem.ExS.asgs gs_BadTerm := rfl
abbrev s_BadText____init__ : Stmt := inClass (top 12) 0
def d_BadText____init__ : PD := ⟨fun K => He.ma K (He.ga K "BadText") "__init__", "__init__", "BadText.__init__", defArgs s_BadText____init__, defBody s_BadText____init__, defScope s_BadText____init__, [], [], true⟩
abbrev gs_BadText : List PySem.ExS.Asg := [("position", ⟨56, 8, 56, 12⟩, ⟨56, 8, 56, 21⟩, ⟨56, 24, 56, 32⟩, ⟨56, 8, 56, 32⟩)]
theorem fe_BadText : ∃ p0 p1 p2 p3 : Pos, Pk.exArg (defBody s_BadText____init__) = .JoinedStr [.Constant (.str "no term is written so: position ") 0 p0, .FormattedValue (.Name "position" p1) (-1) none p2] p3 := ⟨_, _, _, _, rfl⟩
def Ok_BadText (K : PySem.W.Frag) (H : Hp) (vs : List V) : Prop := ∃ (i_position : Int), vs = [.int i_position] ∧ i_position.natAbs.log2 < 1920
theorem hok_BadText {K : PySem.W.Frag} {T : Tb} : ∀ (w : Wd) (H : Hp) (vs : List V) (ds : List D), (∀ a o, w.F a = some o → H a = some o) → RelDs K T w vs ds → chk_BadText ds = true → Ok_BadText K H vs := by
  intro w H vs ds sub r e
  unfold chk_BadText at e
  split at e
  · cases r with | cons r0 r =>
    cases r0
    cases r
    exact ⟨_, rfl, of_decide_eq_true e⟩
  · cases e
theorem xs_BadText {K : PySem.W.Frag} : PySem.ExS.ExSt K (defArgs s_BadText____init__) (defScope s_BadText____init__) "BadText.__init__" (Pk.exArg (defBody s_BadText____init__)) ⟨55, 8, 55, 13⟩ ⟨55, 8, 55, 15⟩ ⟨55, 8, 55, 24⟩ ⟨55, 8, 55, 71⟩ ⟨55, 8, 55, 71⟩ gs_BadText (Ok_BadText K) where
  bind := fun _ _ _ _ _ _ _ _ us hl => match us, hl with | [_], _ => (by kernel_rfl)
  nd := by decide +kernel
  len := by decide
  loc := by decide +kernel
  dbg := by decide +kernel
  cell := by decide +kernel
  hp := ⟨_, rfl, rfl⟩
  ks := rfl
  kc := rfl
  co := rfl
  gen := rfl
  k := rfl
  hE := by
    intro H0 vs us ok rv hl cda cc L x fI prog w A h0 h g d t os E Q X hH kp hn hq
    obtain ⟨i_position, rfl, c_position⟩ := ok
    cases rv with | cons r0 rv =>
    obtain ⟨t0, rfl⟩ := r0
    cases rv
    obtain ⟨p0, p1, p2, p3, e⟩ := fe_BadText
    rw [e]
    exact Pk.hE_fmt rfl hn (.con (by decide +kernel) (.int rfl (by decide) (by first | rfl | simp [List.lookup]) c_position .nil)) (Nat.le_of_ble_eq_true rfl) hq
  hin := fun _ _ _ _ => rfl
  hev := fun _ _ _ _ => ⟨_, rfl⟩
  hsw := fun _ _ _ _ => rfl
  hst := fun _ => rfl
  hsw2 := fun _ _ _ _ _ => rfl
theorem bd_BadText : (d_BadText____init__).body = PySem.ExS.sup (Pk.exArg (defBody s_BadText____init__)) ⟨55, 8, 55, 13⟩ ⟨55, 8, 55, 15⟩ ⟨55, 8, 55, 24⟩ ⟨55, 8, 55, 71⟩ ⟨55, 8, 55, 71⟩ :: PySem.ExS.asgs gs_BadText := rfl
abbrev s_BadUnit____init__ : Stmt := inClass (top 13) 0
def d_BadUnit____init__ : PD := ⟨fun K => He.ma K (He.ga K "BadUnit") "__init__", "__init__", "BadUnit.__init__", defArgs s_BadUnit____init__, defBody s_BadUnit____init__, defScope s_BadUnit____init__, [], [], true⟩
abbrev gs_BadUnit : List PySem.ExS.Asg := [("what", ⟨61, 8, 61, 12⟩, ⟨61, 8, 61, 17⟩, ⟨61, 20, 61, 24⟩, ⟨61, 8, 61, 24⟩)]
def Ok_BadUnit (K : PySem.W.Frag) (H : Hp) (vs : List V) : Prop := ∃ z : Str, vs = [.str z] ∧ z.length ≤ 1000
theorem hok_BadUnit {K : PySem.W.Frag} {T : Tb} : ∀ (w : Wd) (H : Hp) (vs : List V) (ds : List D), (∀ a o, w.F a = some o → H a = some o) → RelDs K T w vs ds → chk_BadUnit ds = true → Ok_BadUnit K H vs := by
  intro w H vs ds sub r e
  unfold chk_BadUnit at e
  split at e
  · exact Pk.hok_str r e
  · cases e
theorem xs_BadUnit {K : PySem.W.Frag} : PySem.ExS.ExSt K (defArgs s_BadUnit____init__) (defScope s_BadUnit____init__) "BadUnit.__init__" (.BinOp (.Constant (.str "invalid unit: ") 0 ⟨60, 25, 60, 41⟩) .Add (.Name "what" ⟨60, 44, 60, 48⟩) ⟨60, 25, 60, 48⟩) ⟨60, 8, 60, 13⟩ ⟨60, 8, 60, 15⟩ ⟨60, 8, 60, 24⟩ ⟨60, 8, 60, 49⟩ ⟨60, 8, 60, 49⟩ gs_BadUnit (Ok_BadUnit K) where
  bind := fun _ _ _ _ _ _ _ _ us hl => match us, hl with | [_], _ => (by kernel_rfl)
  nd := by decide +kernel
  len := by decide
  loc := by decide +kernel
  dbg := by decide +kernel
  cell := by decide +kernel
  hp := ⟨_, rfl, rfl⟩
  ks := rfl
  kc := rfl
  co := rfl
  gen := rfl
  k := rfl
  hE := fun H0 vs us ok rv hl cda cc L x fI prog w A h0 h g d t os E Q X hH kp hn hq => Pk.hE_one "invalid unit: " "what" ok rv (by decide +kernel) rfl rfl (by decide) hn hq
  hin := fun _ _ _ _ => rfl
  hev := fun _ _ _ _ => ⟨_, rfl⟩
  hsw := fun _ _ _ _ => rfl
  hst := fun _ => rfl
  hsw2 := fun _ _ _ _ _ => rfl
theorem bd_BadUnit : (d_BadUnit____init__).body = PySem.ExS.sup (.BinOp (.Constant (.str "invalid unit: ") 0 ⟨60, 25, 60, 41⟩) .Add (.Name "what" ⟨60, 44, 60, 48⟩) ⟨60, 25, 60, 48⟩) ⟨60, 8, 60, 13⟩ ⟨60, 8, 60, 15⟩ ⟨60, 8, 60, 24⟩ ⟨60, 8, 60, 49⟩ ⟨60, 8, 60, 49⟩ :: PySem.ExS.asgs gs_BadUnit := rfl
abbrev s_TooMany____init__ : Stmt := inClass (top 14) 0
def d_TooMany____init__ : PD := ⟨fun K => He.ma K (He.ga K "TooMany") "__init__", "__init__", "TooMany.__init__", defArgs s_TooMany____init__, defBody s_TooMany____init__, defScope s_TooMany____init__, [], [], true⟩
abbrev gs_TooMany : List PySem.ExS.Asg := [("what", ⟨66, 8, 66, 12⟩, ⟨66, 8, 66, 17⟩, ⟨66, 20, 66, 24⟩, ⟨66, 8, 66, 24⟩)]
def Ok_TooMany (K : PySem.W.Frag) (H : Hp) (vs : List V) : Prop := ∃ z : Str, vs = [.str z] ∧ z.length ≤ 1000
theorem hok_TooMany {K : PySem.W.Frag} {T : Tb} : ∀ (w : Wd) (H : Hp) (vs : List V) (ds : List D), (∀ a o, w.F a = some o → H a = some o) → RelDs K T w vs ds → chk_TooMany ds = true → Ok_TooMany K H vs := by
  intro w H vs ds sub r e
  unfold chk_TooMany at e
  split at e
  · exact Pk.hok_str r e
  · cases e
theorem xs_TooMany {K : PySem.W.Frag} : PySem.ExS.ExSt K (defArgs s_TooMany____init__) (defScope s_TooMany____init__) "TooMany.__init__" (.BinOp (.Constant (.str "too many ") 0 ⟨65, 25, 65, 36⟩) .Add (.Name "what" ⟨65, 39, 65, 43⟩) ⟨65, 25, 65, 43⟩) ⟨65, 8, 65, 13⟩ ⟨65, 8, 65, 15⟩ ⟨65, 8, 65, 24⟩ ⟨65, 8, 65, 44⟩ ⟨65, 8, 65, 44⟩ gs_TooMany (Ok_TooMany K) where
  bind := fun _ _ _ _ _ _ _ _ us hl => match us, hl with | [_], _ => (by kernel_rfl)
  nd := by decide +kernel
  len := by decide
  loc := by decide +kernel
  dbg := by decide +kernel
  cell := by decide +kernel
  hp := ⟨_, rfl, rfl⟩
  ks := rfl
  kc := rfl
  co := rfl
  gen := rfl
  k := rfl
  hE := fun H0 vs us ok rv hl cda cc L x fI prog w A h0 h g d t os E Q X hH kp hn hq => Pk.hE_one "too many " "what" ok rv (by decide +kernel) rfl rfl (by decide) hn hq
  hin := fun _ _ _ _ => rfl
  hev := fun _ _ _ _ => ⟨_, rfl⟩
  hsw := fun _ _ _ _ => rfl
  hst := fun _ => rfl
  hsw2 := fun _ _ _ _ _ => rfl
theorem bd_TooMany : (d_TooMany____init__).body = PySem.ExS.sup (.BinOp (.Constant (.str "too many ") 0 ⟨65, 25, 65, 36⟩) .Add (.Name "what" ⟨65, 39, 65, 43⟩) ⟨65, 25, 65, 43⟩) ⟨65, 8, 65, 13⟩ ⟨65, 8, 65, 15⟩ ⟨65, 8, 65, 24⟩ ⟨65, 8, 65, 44⟩ ⟨65, 8, 65, 44⟩ :: PySem.ExS.asgs gs_TooMany := rfl
abbrev s_BadWish____init__ : Stmt := inClass (top 15) 0
def d_BadWish____init__ : PD := ⟨fun K => He.ma K (He.ga K "BadWish") "__init__", "__init__", "BadWish.__init__", defArgs s_BadWish____init__, defBody s_BadWish____init__, defScope s_BadWish____init__, [], [], true⟩
abbrev gs_BadWish : List PySem.ExS.Asg := []
def Ok_BadWish (K : PySem.W.Frag) (H : Hp) (vs : List V) : Prop := True
theorem hok_BadWish {K : PySem.W.Frag} {T : Tb} : ∀ (w : Wd) (H : Hp) (vs : List V) (ds : List D), (∀ a o, w.F a = some o → H a = some o) → RelDs K T w vs ds → chk_BadWish ds = true → Ok_BadWish K H vs := fun _ _ _ _ _ _ _ => trivial
theorem xs_BadWish {K : PySem.W.Frag} : PySem.ExS.ExSt K (defArgs s_BadWish____init__) (defScope s_BadWish____init__) "BadWish.__init__" (.Constant (.str "there is no such wish") 0 ⟨70, 25, 70, 48⟩) ⟨70, 8, 70, 13⟩ ⟨70, 8, 70, 15⟩ ⟨70, 8, 70, 24⟩ ⟨70, 8, 70, 49⟩ ⟨70, 8, 70, 49⟩ gs_BadWish (Ok_BadWish K) where
  bind := fun _ _ _ _ _ _ _ _ us hl => match us, hl with | [], _ => (by kernel_rfl)
  nd := by decide +kernel
  len := by decide
  loc := by decide +kernel
  dbg := by decide +kernel
  cell := by decide +kernel
  hp := ⟨_, rfl, rfl⟩
  ks := rfl
  kc := rfl
  co := rfl
  gen := rfl
  k := rfl
  hE := fun _ _ _ _ _ _ _ _ _ _ _ _ _ _ _ _ _ _ _ _ _ _ _ _ _ _ hq => hE_con hq
  hin := fun _ _ _ _ => rfl
  hev := fun _ _ _ _ => ⟨_, rfl⟩
  hsw := fun _ _ _ _ => rfl
  hst := fun _ => rfl
  hsw2 := fun _ _ _ _ _ => rfl
theorem bd_BadWish : (d_BadWish____init__).body = PySem.ExS.sup (.Constant (.str "there is no such wish") 0 ⟨70, 25, 70, 48⟩) ⟨70, 8, 70, 13⟩ ⟨70, 8, 70, 15⟩ ⟨70, 8, 70, 24⟩ ⟨70, 8, 70, 49⟩ ⟨70, 8, 70, 49⟩ :: PySem.ExS.asgs gs_BadWish := rfl
/-! ### facts of the head -/
def fa : List Fx := [.he (.free "len"),
  .he (.free "abs"),
  .he (.free "int"),
  .he (.glo "_law_draw"),
  .he (.free "super"),
  .he (.glo "BadInstance"),
  .he (.glo "Unlike"),
  .he (.glo "BadFactor"),
  .he (.glo "NoInstance"),
  .he (.glo "BadWorld"),
  .he (.glo "NotAllowed"),
  .he (.glo "BadDeed"),
  .he (.glo "BadRun"),
  .he (.glo "_law_raise_early"),
  .he (.glo "BadTable"),
  .he (.glo "BadTerm"),
  .he (.glo "BadText"),
  .he (.glo "BadUnit"),
  .he (.glo "TooMany"),
  .he (.glo "BadWish"),
  .he (.glo "CountError"),
  .he (.glo "_law_raise"),
  .he (.free "isinstance"),
  .he (.free "ValueError"),
  .he (.free "min"),
  .he (.free "max"),
  .he (.free "range"),
  .he (.glo "_law_source"),
  .he (.glo "_law_of"),
  .he (.glo "_law_kinds"),
  .he (.glo "_law_words_borne"),
  .he (.glo "_law_numbers_borne"),
  .own "BadInstance" (PySem.Str.ofString "/claim/cut.py") ["what"],
  .own "Unlike" (PySem.Str.ofString "/claim/cut.py") [],
  .own "BadFactor" (PySem.Str.ofString "/claim/cut.py") [],
  .own "NoInstance" (PySem.Str.ofString "/claim/cut.py") ["at"],
  .own "BadWorld" (PySem.Str.ofString "/claim/cut.py") ["what"],
  .own "NotAllowed" (PySem.Str.ofString "/claim/cut.py") ["lacking"],
  .own "BadDeed" (PySem.Str.ofString "/claim/cut.py") ["why"],
  .own "BadRun" (PySem.Str.ofString "/claim/cut.py") ["at", "why"],
  .own "BadTable" (PySem.Str.ofString "/claim/cut.py") ["line"],
  .own "BadTerm" (PySem.Str.ofString "/claim/cut.py") [],
  .own "BadText" (PySem.Str.ofString "/claim/cut.py") ["position"],
  .own "BadUnit" (PySem.Str.ofString "/claim/cut.py") ["what"],
  .own "TooMany" (PySem.Str.ofString "/claim/cut.py") ["what"],
  .own "BadWish" (PySem.Str.ofString "/claim/cut.py") [],
  .kit (.o 0) (.o 0) true,
  .exi "BadInstance",
  .kit (.o 1) (.o 0) false,
  .exi "Unlike",
  .kit (.o 2) (.o 0) false,
  .exi "BadFactor",
  .kit (.o 3) (.o 0) false,
  .exi "NoInstance",
  .kit (.o 4) (.o 0) false,
  .exi "BadWorld",
  .kit (.o 5) (.o 0) false,
  .exi "NotAllowed",
  .kit (.o 6) (.o 0) false,
  .exi "BadDeed",
  .kit (.o 7) (.o 0) false,
  .exi "BadRun",
  .kit (.o 8) (.o 0) false,
  .exi "BadTable",
  .kit (.o 9) (.o 0) false,
  .exi "BadTerm",
  .kit (.o 10) (.o 0) false,
  .exi "BadText",
  .kit (.o 11) (.o 0) false,
  .exi "BadUnit",
  .kit (.o 12) (.o 0) false,
  .exi "TooMany",
  .kit (.o 13) (.o 0) false,
  .exi "BadWish",
  .kit (.o 14) (.o 0) false,
  .exi "CountError",
  .kit (.o 0) (.o 1) false,
  .kit (.o 1) (.o 1) true,
  .kit (.o 2) (.o 1) false,
  .kit (.o 3) (.o 1) false,
  .kit (.o 4) (.o 1) false,
  .kit (.o 5) (.o 1) false,
  .kit (.o 6) (.o 1) false,
  .kit (.o 7) (.o 1) false,
  .kit (.o 8) (.o 1) false,
  .kit (.o 9) (.o 1) false,
  .kit (.o 10) (.o 1) false,
  .kit (.o 11) (.o 1) false,
  .kit (.o 12) (.o 1) false,
  .kit (.o 13) (.o 1) false,
  .kit (.o 14) (.o 1) false,
  .kit (.o 0) (.o 2) false,
  .kit (.o 1) (.o 2) false,
  .kit (.o 2) (.o 2) true,
  .kit (.o 3) (.o 2) false,
  .kit (.o 4) (.o 2) false,
  .kit (.o 5) (.o 2) false,
  .kit (.o 6) (.o 2) false,
  .kit (.o 7) (.o 2) false,
  .kit (.o 8) (.o 2) false,
  .kit (.o 9) (.o 2) false,
  .kit (.o 10) (.o 2) false,
  .kit (.o 11) (.o 2) false,
  .kit (.o 12) (.o 2) false,
  .kit (.o 13) (.o 2) false,
  .kit (.o 14) (.o 2) false,
  .kit (.o 0) (.o 3) false,
  .kit (.o 1) (.o 3) false,
  .kit (.o 2) (.o 3) false,
  .kit (.o 3) (.o 3) true,
  .kit (.o 4) (.o 3) false,
  .kit (.o 5) (.o 3) false,
  .kit (.o 6) (.o 3) false,
  .kit (.o 7) (.o 3) false,
  .kit (.o 8) (.o 3) false,
  .kit (.o 9) (.o 3) false,
  .kit (.o 10) (.o 3) false,
  .kit (.o 11) (.o 3) false,
  .kit (.o 12) (.o 3) false,
  .kit (.o 13) (.o 3) false,
  .kit (.o 14) (.o 3) false,
  .kit (.o 0) (.o 4) false,
  .kit (.o 1) (.o 4) false,
  .kit (.o 2) (.o 4) false,
  .kit (.o 3) (.o 4) false,
  .kit (.o 4) (.o 4) true,
  .kit (.o 5) (.o 4) false,
  .kit (.o 6) (.o 4) false,
  .kit (.o 7) (.o 4) false,
  .kit (.o 8) (.o 4) false,
  .kit (.o 9) (.o 4) false,
  .kit (.o 10) (.o 4) false,
  .kit (.o 11) (.o 4) false,
  .kit (.o 12) (.o 4) false,
  .kit (.o 13) (.o 4) false,
  .kit (.o 14) (.o 4) false,
  .kit (.o 0) (.o 5) false,
  .kit (.o 1) (.o 5) false,
  .kit (.o 2) (.o 5) false,
  .kit (.o 3) (.o 5) false,
  .kit (.o 4) (.o 5) false,
  .kit (.o 5) (.o 5) true,
  .kit (.o 6) (.o 5) false,
  .kit (.o 7) (.o 5) false,
  .kit (.o 8) (.o 5) false,
  .kit (.o 9) (.o 5) false,
  .kit (.o 10) (.o 5) false,
  .kit (.o 11) (.o 5) false,
  .kit (.o 12) (.o 5) false,
  .kit (.o 13) (.o 5) false,
  .kit (.o 14) (.o 5) false,
  .kit (.o 0) (.o 6) false,
  .kit (.o 1) (.o 6) false,
  .kit (.o 2) (.o 6) false,
  .kit (.o 3) (.o 6) false,
  .kit (.o 4) (.o 6) false,
  .kit (.o 5) (.o 6) false,
  .kit (.o 6) (.o 6) true,
  .kit (.o 7) (.o 6) false,
  .kit (.o 8) (.o 6) false,
  .kit (.o 9) (.o 6) false,
  .kit (.o 10) (.o 6) false,
  .kit (.o 11) (.o 6) false,
  .kit (.o 12) (.o 6) false,
  .kit (.o 13) (.o 6) false,
  .kit (.o 14) (.o 6) false,
  .kit (.o 0) (.o 7) false,
  .kit (.o 1) (.o 7) false,
  .kit (.o 2) (.o 7) false,
  .kit (.o 3) (.o 7) false,
  .kit (.o 4) (.o 7) false,
  .kit (.o 5) (.o 7) false,
  .kit (.o 6) (.o 7) false,
  .kit (.o 7) (.o 7) true,
  .kit (.o 8) (.o 7) false,
  .kit (.o 9) (.o 7) false,
  .kit (.o 10) (.o 7) false,
  .kit (.o 11) (.o 7) false,
  .kit (.o 12) (.o 7) false,
  .kit (.o 13) (.o 7) false,
  .kit (.o 14) (.o 7) false,
  .kit (.o 0) (.o 8) false,
  .kit (.o 1) (.o 8) false,
  .kit (.o 2) (.o 8) false,
  .kit (.o 3) (.o 8) false,
  .kit (.o 4) (.o 8) false,
  .kit (.o 5) (.o 8) false,
  .kit (.o 6) (.o 8) false,
  .kit (.o 7) (.o 8) false,
  .kit (.o 8) (.o 8) true,
  .kit (.o 9) (.o 8) false,
  .kit (.o 10) (.o 8) false,
  .kit (.o 11) (.o 8) false,
  .kit (.o 12) (.o 8) false,
  .kit (.o 13) (.o 8) false,
  .kit (.o 14) (.o 8) false,
  .kit (.o 0) (.o 9) false,
  .kit (.o 1) (.o 9) false,
  .kit (.o 2) (.o 9) false,
  .kit (.o 3) (.o 9) false,
  .kit (.o 4) (.o 9) false,
  .kit (.o 5) (.o 9) false,
  .kit (.o 6) (.o 9) false,
  .kit (.o 7) (.o 9) false,
  .kit (.o 8) (.o 9) false,
  .kit (.o 9) (.o 9) true,
  .kit (.o 10) (.o 9) false,
  .kit (.o 11) (.o 9) false,
  .kit (.o 12) (.o 9) false,
  .kit (.o 13) (.o 9) false,
  .kit (.o 14) (.o 9) false,
  .kit (.o 0) (.o 10) false,
  .kit (.o 1) (.o 10) false,
  .kit (.o 2) (.o 10) false,
  .kit (.o 3) (.o 10) false,
  .kit (.o 4) (.o 10) false,
  .kit (.o 5) (.o 10) false,
  .kit (.o 6) (.o 10) false,
  .kit (.o 7) (.o 10) false,
  .kit (.o 8) (.o 10) false,
  .kit (.o 9) (.o 10) false,
  .kit (.o 10) (.o 10) true,
  .kit (.o 11) (.o 10) false,
  .kit (.o 12) (.o 10) false,
  .kit (.o 13) (.o 10) false,
  .kit (.o 14) (.o 10) false,
  .kit (.o 0) (.o 11) false,
  .kit (.o 1) (.o 11) false,
  .kit (.o 2) (.o 11) false,
  .kit (.o 3) (.o 11) false,
  .kit (.o 4) (.o 11) false,
  .kit (.o 5) (.o 11) false,
  .kit (.o 6) (.o 11) false,
  .kit (.o 7) (.o 11) false,
  .kit (.o 8) (.o 11) false,
  .kit (.o 9) (.o 11) false,
  .kit (.o 10) (.o 11) false,
  .kit (.o 11) (.o 11) true,
  .kit (.o 12) (.o 11) false,
  .kit (.o 13) (.o 11) false,
  .kit (.o 14) (.o 11) false,
  .kit (.o 0) (.o 12) false,
  .kit (.o 1) (.o 12) false,
  .kit (.o 2) (.o 12) false,
  .kit (.o 3) (.o 12) false,
  .kit (.o 4) (.o 12) false,
  .kit (.o 5) (.o 12) false,
  .kit (.o 6) (.o 12) false,
  .kit (.o 7) (.o 12) false,
  .kit (.o 8) (.o 12) false,
  .kit (.o 9) (.o 12) false,
  .kit (.o 10) (.o 12) false,
  .kit (.o 11) (.o 12) false,
  .kit (.o 12) (.o 12) true,
  .kit (.o 13) (.o 12) false,
  .kit (.o 14) (.o 12) false,
  .kit (.o 0) (.o 13) false,
  .kit (.o 1) (.o 13) false,
  .kit (.o 2) (.o 13) false,
  .kit (.o 3) (.o 13) false,
  .kit (.o 4) (.o 13) false,
  .kit (.o 5) (.o 13) false,
  .kit (.o 6) (.o 13) false,
  .kit (.o 7) (.o 13) false,
  .kit (.o 8) (.o 13) false,
  .kit (.o 9) (.o 13) false,
  .kit (.o 10) (.o 13) false,
  .kit (.o 11) (.o 13) false,
  .kit (.o 12) (.o 13) false,
  .kit (.o 13) (.o 13) true,
  .kit (.o 14) (.o 13) false,
  .kit (.o 0) (.b "ValueError") true,
  .kit (.o 1) (.b "ValueError") true,
  .kit (.o 2) (.b "ValueError") true,
  .kit (.o 3) (.b "ValueError") true,
  .kit (.o 4) (.b "ValueError") true,
  .kit (.o 5) (.b "ValueError") true,
  .kit (.o 6) (.b "ValueError") true,
  .kit (.o 7) (.b "ValueError") true,
  .kit (.o 8) (.b "ValueError") true,
  .kit (.o 9) (.b "ValueError") true,
  .kit (.o 10) (.b "ValueError") true,
  .kit (.o 11) (.b "ValueError") true,
  .kit (.o 12) (.b "ValueError") true,
  .kit (.o 13) (.b "ValueError") true,
  .kit (.o 14) (.b "ValueError") true,
  .raw (fun K => basX K (He.ga K "CountError")),
  .he (.exm "BadInstance" "CountError" true),
  .he (.exm "Unlike" "CountError" true),
  .he (.exm "BadFactor" "CountError" true),
  .he (.exm "NoInstance" "CountError" true),
  .he (.exm "BadWorld" "CountError" true),
  .he (.exm "NotAllowed" "CountError" true),
  .he (.exm "BadDeed" "CountError" true),
  .he (.exm "BadRun" "CountError" true),
  .he (.exm "BadTable" "CountError" true),
  .he (.exm "BadTerm" "CountError" true),
  .he (.exm "BadText" "CountError" true),
  .he (.exm "BadUnit" "CountError" true),
  .he (.exm "TooMany" "CountError" true),
  .he (.exm "BadWish" "CountError" true),
  .he (.exm "CountError" "CountError" true),
  .he (.exm "BadInstance" "BadInstance" true),
  .he (.exm "Unlike" "BadInstance" false),
  .he (.exm "BadFactor" "BadInstance" false),
  .he (.exm "NoInstance" "BadInstance" false),
  .he (.exm "BadWorld" "BadInstance" false),
  .he (.exm "NotAllowed" "BadInstance" false),
  .he (.exm "BadDeed" "BadInstance" false),
  .he (.exm "BadRun" "BadInstance" false),
  .he (.exm "BadTable" "BadInstance" false),
  .he (.exm "BadTerm" "BadInstance" false),
  .he (.exm "BadText" "BadInstance" false),
  .he (.exm "BadUnit" "BadInstance" false),
  .he (.exm "TooMany" "BadInstance" false),
  .he (.exm "BadWish" "BadInstance" false),
  .he (.exm "CountError" "BadInstance" false),
  .he (.exm "BadInstance" "BadWorld" false),
  .he (.exm "Unlike" "BadWorld" false),
  .he (.exm "BadFactor" "BadWorld" false),
  .he (.exm "NoInstance" "BadWorld" false),
  .he (.exm "BadWorld" "BadWorld" true),
  .he (.exm "NotAllowed" "BadWorld" false),
  .he (.exm "BadDeed" "BadWorld" false),
  .he (.exm "BadRun" "BadWorld" false),
  .he (.exm "BadTable" "BadWorld" false),
  .he (.exm "BadTerm" "BadWorld" false),
  .he (.exm "BadText" "BadWorld" false),
  .he (.exm "BadUnit" "BadWorld" false),
  .he (.exm "TooMany" "BadWorld" false),
  .he (.exm "BadWish" "BadWorld" false),
  .he (.exm "CountError" "BadWorld" false),
  .he (.exm "BadInstance" "BadUnit" false),
  .he (.exm "Unlike" "BadUnit" false),
  .he (.exm "BadFactor" "BadUnit" false),
  .he (.exm "NoInstance" "BadUnit" false),
  .he (.exm "BadWorld" "BadUnit" false),
  .he (.exm "NotAllowed" "BadUnit" false),
  .he (.exm "BadDeed" "BadUnit" false),
  .he (.exm "BadRun" "BadUnit" false),
  .he (.exm "BadTable" "BadUnit" false),
  .he (.exm "BadTerm" "BadUnit" false),
  .he (.exm "BadText" "BadUnit" false),
  .he (.exm "BadUnit" "BadUnit" true),
  .he (.exm "TooMany" "BadUnit" false),
  .he (.exm "BadWish" "BadUnit" false),
  .he (.exm "CountError" "BadUnit" false),
  .he (.exm "BadInstance" "TooMany" false),
  .he (.exm "Unlike" "TooMany" false),
  .he (.exm "BadFactor" "TooMany" false),
  .he (.exm "NoInstance" "TooMany" false),
  .he (.exm "BadWorld" "TooMany" false),
  .he (.exm "NotAllowed" "TooMany" false),
  .he (.exm "BadDeed" "TooMany" false),
  .he (.exm "BadRun" "TooMany" false),
  .he (.exm "BadTable" "TooMany" false),
  .he (.exm "BadTerm" "TooMany" false),
  .he (.exm "BadText" "TooMany" false),
  .he (.exm "BadUnit" "TooMany" false),
  .he (.exm "TooMany" "TooMany" true),
  .he (.exm "BadWish" "TooMany" false),
  .he (.exm "CountError" "TooMany" false),
  .he (.exm "BadInstance" "NotAllowed" false),
  .he (.exm "Unlike" "NotAllowed" false),
  .he (.exm "BadFactor" "NotAllowed" false),
  .he (.exm "NoInstance" "NotAllowed" false),
  .he (.exm "BadWorld" "NotAllowed" false),
  .he (.exm "NotAllowed" "NotAllowed" true),
  .he (.exm "BadDeed" "NotAllowed" false),
  .he (.exm "BadRun" "NotAllowed" false),
  .he (.exm "BadTable" "NotAllowed" false),
  .he (.exm "BadTerm" "NotAllowed" false),
  .he (.exm "BadText" "NotAllowed" false),
  .he (.exm "BadUnit" "NotAllowed" false),
  .he (.exm "TooMany" "NotAllowed" false),
  .he (.exm "BadWish" "NotAllowed" false),
  .he (.exm "CountError" "NotAllowed" false),
  .he (.exm "BadInstance" "BadDeed" false),
  .he (.exm "Unlike" "BadDeed" false),
  .he (.exm "BadFactor" "BadDeed" false),
  .he (.exm "NoInstance" "BadDeed" false),
  .he (.exm "BadWorld" "BadDeed" false),
  .he (.exm "NotAllowed" "BadDeed" false),
  .he (.exm "BadDeed" "BadDeed" true),
  .he (.exm "BadRun" "BadDeed" false),
  .he (.exm "BadTable" "BadDeed" false),
  .he (.exm "BadTerm" "BadDeed" false),
  .he (.exm "BadText" "BadDeed" false),
  .he (.exm "BadUnit" "BadDeed" false),
  .he (.exm "TooMany" "BadDeed" false),
  .he (.exm "BadWish" "BadDeed" false),
  .he (.exm "CountError" "BadDeed" false),
  .he (.exm "BadInstance" "BadRun" false),
  .he (.exm "Unlike" "BadRun" false),
  .he (.exm "BadFactor" "BadRun" false),
  .he (.exm "NoInstance" "BadRun" false),
  .he (.exm "BadWorld" "BadRun" false),
  .he (.exm "NotAllowed" "BadRun" false),
  .he (.exm "BadDeed" "BadRun" false),
  .he (.exm "BadRun" "BadRun" true),
  .he (.exm "BadTable" "BadRun" false),
  .he (.exm "BadTerm" "BadRun" false),
  .he (.exm "BadText" "BadRun" false),
  .he (.exm "BadUnit" "BadRun" false),
  .he (.exm "TooMany" "BadRun" false),
  .he (.exm "BadWish" "BadRun" false),
  .he (.exm "CountError" "BadRun" false),
  .he (.exm "BadInstance" "NoInstance" false),
  .he (.exm "Unlike" "NoInstance" false),
  .he (.exm "BadFactor" "NoInstance" false),
  .he (.exm "NoInstance" "NoInstance" true),
  .he (.exm "BadWorld" "NoInstance" false),
  .he (.exm "NotAllowed" "NoInstance" false),
  .he (.exm "BadDeed" "NoInstance" false),
  .he (.exm "BadRun" "NoInstance" false),
  .he (.exm "BadTable" "NoInstance" false),
  .he (.exm "BadTerm" "NoInstance" false),
  .he (.exm "BadText" "NoInstance" false),
  .he (.exm "BadUnit" "NoInstance" false),
  .he (.exm "TooMany" "NoInstance" false),
  .he (.exm "BadWish" "NoInstance" false),
  .he (.exm "CountError" "NoInstance" false),
  .he (.exm "BadInstance" "BadTable" false),
  .he (.exm "Unlike" "BadTable" false),
  .he (.exm "BadFactor" "BadTable" false),
  .he (.exm "NoInstance" "BadTable" false),
  .he (.exm "BadWorld" "BadTable" false),
  .he (.exm "NotAllowed" "BadTable" false),
  .he (.exm "BadDeed" "BadTable" false),
  .he (.exm "BadRun" "BadTable" false),
  .he (.exm "BadTable" "BadTable" true),
  .he (.exm "BadTerm" "BadTable" false),
  .he (.exm "BadText" "BadTable" false),
  .he (.exm "BadUnit" "BadTable" false),
  .he (.exm "TooMany" "BadTable" false),
  .he (.exm "BadWish" "BadTable" false),
  .he (.exm "CountError" "BadTable" false),
  .he (.exm "BadInstance" "BadText" false),
  .he (.exm "Unlike" "BadText" false),
  .he (.exm "BadFactor" "BadText" false),
  .he (.exm "NoInstance" "BadText" false),
  .he (.exm "BadWorld" "BadText" false),
  .he (.exm "NotAllowed" "BadText" false),
  .he (.exm "BadDeed" "BadText" false),
  .he (.exm "BadRun" "BadText" false),
  .he (.exm "BadTable" "BadText" false),
  .he (.exm "BadTerm" "BadText" false),
  .he (.exm "BadText" "BadText" true),
  .he (.exm "BadUnit" "BadText" false),
  .he (.exm "TooMany" "BadText" false),
  .he (.exm "BadWish" "BadText" false),
  .he (.exm "CountError" "BadText" false),
  .he (.glo "law")]
def fn : List PD := [d_BadInstance____init__, d_Unlike____init__, d_BadFactor____init__, d_NoInstance____init__, d_BadWorld____init__, d_NotAllowed____init__, d_BadDeed____init__, d_BadRun____init__, d_BadTable____init__, d_BadTerm____init__, d_BadText____init__, d_BadUnit____init__, d_TooMany____init__, d_BadWish____init__, d__law_source, d__law_draw, d__law_of, d__law_raise_early, d__law_raise, d__law_kinds, d__law_words_borne, d__law_numbers_borne, d_law]
class PF (P : Program) : Prop where
  f : ((P.main.file : Str) == (PySem.Str.ofString "/claim/cut.py")) = true
  t : (P.main.scope.names.lookup ("super" : Str)).isSome = false
abbrev Says (K : PySem.W.Frag) : Prop := SaysP cn fa fn K
section
variable {P : Program} {w : World} {K : PySem.W.Frag} {mg : Str → Option Value} {base : Heap} [hp_ : PF P]
theorem gl__law_draw (c : Says K) (Y : K.In base) (G : base.Ns mainGlobals mg) : mg "_law_draw" = some (.ref (He.ga K "_law_draw")) := He.glo_ok Y G (c.fact 3 (f := .he (.glo "_law_draw")) rfl)
theorem gl_BadInstance (c : Says K) (Y : K.In base) (G : base.Ns mainGlobals mg) : mg "BadInstance" = some (.ref (He.ga K "BadInstance")) := He.glo_ok Y G (c.fact 5 (f := .he (.glo "BadInstance")) rfl)
theorem gl_Unlike (c : Says K) (Y : K.In base) (G : base.Ns mainGlobals mg) : mg "Unlike" = some (.ref (He.ga K "Unlike")) := He.glo_ok Y G (c.fact 6 (f := .he (.glo "Unlike")) rfl)
theorem gl_BadFactor (c : Says K) (Y : K.In base) (G : base.Ns mainGlobals mg) : mg "BadFactor" = some (.ref (He.ga K "BadFactor")) := He.glo_ok Y G (c.fact 7 (f := .he (.glo "BadFactor")) rfl)
theorem gl_NoInstance (c : Says K) (Y : K.In base) (G : base.Ns mainGlobals mg) : mg "NoInstance" = some (.ref (He.ga K "NoInstance")) := He.glo_ok Y G (c.fact 8 (f := .he (.glo "NoInstance")) rfl)
theorem gl_BadWorld (c : Says K) (Y : K.In base) (G : base.Ns mainGlobals mg) : mg "BadWorld" = some (.ref (He.ga K "BadWorld")) := He.glo_ok Y G (c.fact 9 (f := .he (.glo "BadWorld")) rfl)
theorem gl_NotAllowed (c : Says K) (Y : K.In base) (G : base.Ns mainGlobals mg) : mg "NotAllowed" = some (.ref (He.ga K "NotAllowed")) := He.glo_ok Y G (c.fact 10 (f := .he (.glo "NotAllowed")) rfl)
theorem gl_BadDeed (c : Says K) (Y : K.In base) (G : base.Ns mainGlobals mg) : mg "BadDeed" = some (.ref (He.ga K "BadDeed")) := He.glo_ok Y G (c.fact 11 (f := .he (.glo "BadDeed")) rfl)
theorem gl_BadRun (c : Says K) (Y : K.In base) (G : base.Ns mainGlobals mg) : mg "BadRun" = some (.ref (He.ga K "BadRun")) := He.glo_ok Y G (c.fact 12 (f := .he (.glo "BadRun")) rfl)
theorem gl__law_raise_early (c : Says K) (Y : K.In base) (G : base.Ns mainGlobals mg) : mg "_law_raise_early" = some (.ref (He.ga K "_law_raise_early")) := He.glo_ok Y G (c.fact 13 (f := .he (.glo "_law_raise_early")) rfl)
theorem gl_BadTable (c : Says K) (Y : K.In base) (G : base.Ns mainGlobals mg) : mg "BadTable" = some (.ref (He.ga K "BadTable")) := He.glo_ok Y G (c.fact 14 (f := .he (.glo "BadTable")) rfl)
theorem gl_BadTerm (c : Says K) (Y : K.In base) (G : base.Ns mainGlobals mg) : mg "BadTerm" = some (.ref (He.ga K "BadTerm")) := He.glo_ok Y G (c.fact 15 (f := .he (.glo "BadTerm")) rfl)
theorem gl_BadText (c : Says K) (Y : K.In base) (G : base.Ns mainGlobals mg) : mg "BadText" = some (.ref (He.ga K "BadText")) := He.glo_ok Y G (c.fact 16 (f := .he (.glo "BadText")) rfl)
theorem gl_BadUnit (c : Says K) (Y : K.In base) (G : base.Ns mainGlobals mg) : mg "BadUnit" = some (.ref (He.ga K "BadUnit")) := He.glo_ok Y G (c.fact 17 (f := .he (.glo "BadUnit")) rfl)
theorem gl_TooMany (c : Says K) (Y : K.In base) (G : base.Ns mainGlobals mg) : mg "TooMany" = some (.ref (He.ga K "TooMany")) := He.glo_ok Y G (c.fact 18 (f := .he (.glo "TooMany")) rfl)
theorem gl_BadWish (c : Says K) (Y : K.In base) (G : base.Ns mainGlobals mg) : mg "BadWish" = some (.ref (He.ga K "BadWish")) := He.glo_ok Y G (c.fact 19 (f := .he (.glo "BadWish")) rfl)
theorem gl_CountError (c : Says K) (Y : K.In base) (G : base.Ns mainGlobals mg) : mg "CountError" = some (.ref (He.ga K "CountError")) := He.glo_ok Y G (c.fact 20 (f := .he (.glo "CountError")) rfl)
theorem gl__law_raise (c : Says K) (Y : K.In base) (G : base.Ns mainGlobals mg) : mg "_law_raise" = some (.ref (He.ga K "_law_raise")) := He.glo_ok Y G (c.fact 21 (f := .he (.glo "_law_raise")) rfl)
theorem gl__law_source (c : Says K) (Y : K.In base) (G : base.Ns mainGlobals mg) : mg "_law_source" = some (.ref (He.ga K "_law_source")) := He.glo_ok Y G (c.fact 27 (f := .he (.glo "_law_source")) rfl)
theorem gl__law_of (c : Says K) (Y : K.In base) (G : base.Ns mainGlobals mg) : mg "_law_of" = some (.ref (He.ga K "_law_of")) := He.glo_ok Y G (c.fact 28 (f := .he (.glo "_law_of")) rfl)
theorem gl__law_kinds (c : Says K) (Y : K.In base) (G : base.Ns mainGlobals mg) : mg "_law_kinds" = some (.ref (He.ga K "_law_kinds")) := He.glo_ok Y G (c.fact 29 (f := .he (.glo "_law_kinds")) rfl)
theorem gl__law_words_borne (c : Says K) (Y : K.In base) (G : base.Ns mainGlobals mg) : mg "_law_words_borne" = some (.ref (He.ga K "_law_words_borne")) := He.glo_ok Y G (c.fact 30 (f := .he (.glo "_law_words_borne")) rfl)
theorem gl__law_numbers_borne (c : Says K) (Y : K.In base) (G : base.Ns mainGlobals mg) : mg "_law_numbers_borne" = some (.ref (He.ga K "_law_numbers_borne")) := He.glo_ok Y G (c.fact 31 (f := .he (.glo "_law_numbers_borne")) rfl)
theorem fr_len (c : Says K) (Y : K.In base) (G : base.Ns mainGlobals mg) : mg "len" = none := He.free_ok Y G (c.fact 0 (f := .he (.free "len")) rfl)
theorem fr_abs (c : Says K) (Y : K.In base) (G : base.Ns mainGlobals mg) : mg "abs" = none := He.free_ok Y G (c.fact 1 (f := .he (.free "abs")) rfl)
theorem fr_int (c : Says K) (Y : K.In base) (G : base.Ns mainGlobals mg) : mg "int" = none := He.free_ok Y G (c.fact 2 (f := .he (.free "int")) rfl)
theorem fr_super (c : Says K) (Y : K.In base) (G : base.Ns mainGlobals mg) : mg "super" = none := He.free_ok Y G (c.fact 4 (f := .he (.free "super")) rfl)
theorem fr_isinstance (c : Says K) (Y : K.In base) (G : base.Ns mainGlobals mg) : mg "isinstance" = none := He.free_ok Y G (c.fact 22 (f := .he (.free "isinstance")) rfl)
theorem fr_ValueError (c : Says K) (Y : K.In base) (G : base.Ns mainGlobals mg) : mg "ValueError" = none := He.free_ok Y G (c.fact 23 (f := .he (.free "ValueError")) rfl)
theorem fr_min (c : Says K) (Y : K.In base) (G : base.Ns mainGlobals mg) : mg "min" = none := He.free_ok Y G (c.fact 24 (f := .he (.free "min")) rfl)
theorem fr_max (c : Says K) (Y : K.In base) (G : base.Ns mainGlobals mg) : mg "max" = none := He.free_ok Y G (c.fact 25 (f := .he (.free "max")) rfl)
theorem fr_range (c : Says K) (Y : K.In base) (G : base.Ns mainGlobals mg) : mg "range" = none := He.free_ok Y G (c.fact 26 (f := .he (.free "range")) rfl)
theorem isi_ok (c : Says K) : IsiF K (T K) isiTab := isi_of .nil
theorem xc_BadInstance (c : Says K) : Pk.ExC P K (T K) 0 (Ok_BadInstance K) := exC_mk (c.fact 32 (f := .own "BadInstance" (PySem.Str.ofString "/claim/cut.py") ["what"]) rfl) rfl rfl (c.wrote 0 (d := d_BadInstance____init__) rfl) rfl rfl bd_BadInstance xs_BadInstance rfl rfl (by decide +kernel) hp_.f hp_.t
theorem xc_Unlike (c : Says K) : Pk.ExC P K (T K) 1 (Ok_Unlike K) := exC_mk (c.fact 33 (f := .own "Unlike" (PySem.Str.ofString "/claim/cut.py") []) rfl) rfl rfl (c.wrote 1 (d := d_Unlike____init__) rfl) rfl rfl bd_Unlike xs_Unlike rfl rfl (by decide +kernel) hp_.f hp_.t
theorem xc_BadFactor (c : Says K) : Pk.ExC P K (T K) 2 (Ok_BadFactor K) := exC_mk (c.fact 34 (f := .own "BadFactor" (PySem.Str.ofString "/claim/cut.py") []) rfl) rfl rfl (c.wrote 2 (d := d_BadFactor____init__) rfl) rfl rfl bd_BadFactor xs_BadFactor rfl rfl (by decide +kernel) hp_.f hp_.t
theorem xc_NoInstance (c : Says K) : Pk.ExC P K (T K) 3 (Ok_NoInstance K) := exC_mk (c.fact 35 (f := .own "NoInstance" (PySem.Str.ofString "/claim/cut.py") ["at"]) rfl) rfl rfl (c.wrote 3 (d := d_NoInstance____init__) rfl) rfl rfl bd_NoInstance xs_NoInstance rfl rfl (by decide +kernel) hp_.f hp_.t
theorem xc_BadWorld (c : Says K) : Pk.ExC P K (T K) 4 (Ok_BadWorld K) := exC_mk (c.fact 36 (f := .own "BadWorld" (PySem.Str.ofString "/claim/cut.py") ["what"]) rfl) rfl rfl (c.wrote 4 (d := d_BadWorld____init__) rfl) rfl rfl bd_BadWorld xs_BadWorld rfl rfl (by decide +kernel) hp_.f hp_.t
theorem xc_NotAllowed (c : Says K) : Pk.ExC P K (T K) 5 (Ok_NotAllowed K) := exC_mk (c.fact 37 (f := .own "NotAllowed" (PySem.Str.ofString "/claim/cut.py") ["lacking"]) rfl) rfl rfl (c.wrote 5 (d := d_NotAllowed____init__) rfl) rfl rfl bd_NotAllowed xs_NotAllowed rfl rfl (by decide +kernel) hp_.f hp_.t
theorem xc_BadDeed (c : Says K) : Pk.ExC P K (T K) 6 (Ok_BadDeed K) := exC_mk (c.fact 38 (f := .own "BadDeed" (PySem.Str.ofString "/claim/cut.py") ["why"]) rfl) rfl rfl (c.wrote 6 (d := d_BadDeed____init__) rfl) rfl rfl bd_BadDeed xs_BadDeed rfl rfl (by decide +kernel) hp_.f hp_.t
theorem xc_BadRun (c : Says K) : Pk.ExC P K (T K) 7 (Ok_BadRun K) := exC_mk (c.fact 39 (f := .own "BadRun" (PySem.Str.ofString "/claim/cut.py") ["at", "why"]) rfl) rfl rfl (c.wrote 7 (d := d_BadRun____init__) rfl) rfl rfl bd_BadRun xs_BadRun rfl rfl (by decide +kernel) hp_.f hp_.t
theorem xc_BadTable (c : Says K) : Pk.ExC P K (T K) 8 (Ok_BadTable K) := exC_mk (c.fact 40 (f := .own "BadTable" (PySem.Str.ofString "/claim/cut.py") ["line"]) rfl) rfl rfl (c.wrote 8 (d := d_BadTable____init__) rfl) rfl rfl bd_BadTable xs_BadTable rfl rfl (by decide +kernel) hp_.f hp_.t
theorem xc_BadTerm (c : Says K) : Pk.ExC P K (T K) 9 (Ok_BadTerm K) := exC_mk (c.fact 41 (f := .own "BadTerm" (PySem.Str.ofString "/claim/cut.py") []) rfl) rfl rfl (c.wrote 9 (d := d_BadTerm____init__) rfl) rfl rfl bd_BadTerm xs_BadTerm rfl rfl (by decide +kernel) hp_.f hp_.t
theorem xc_BadText (c : Says K) : Pk.ExC P K (T K) 10 (Ok_BadText K) := exC_mk (c.fact 42 (f := .own "BadText" (PySem.Str.ofString "/claim/cut.py") ["position"]) rfl) rfl rfl (c.wrote 10 (d := d_BadText____init__) rfl) rfl rfl bd_BadText xs_BadText rfl rfl (by decide +kernel) hp_.f hp_.t
theorem xc_BadUnit (c : Says K) : Pk.ExC P K (T K) 11 (Ok_BadUnit K) := exC_mk (c.fact 43 (f := .own "BadUnit" (PySem.Str.ofString "/claim/cut.py") ["what"]) rfl) rfl rfl (c.wrote 11 (d := d_BadUnit____init__) rfl) rfl rfl bd_BadUnit xs_BadUnit rfl rfl (by decide +kernel) hp_.f hp_.t
theorem xc_TooMany (c : Says K) : Pk.ExC P K (T K) 12 (Ok_TooMany K) := exC_mk (c.fact 44 (f := .own "TooMany" (PySem.Str.ofString "/claim/cut.py") ["what"]) rfl) rfl rfl (c.wrote 12 (d := d_TooMany____init__) rfl) rfl rfl bd_TooMany xs_TooMany rfl rfl (by decide +kernel) hp_.f hp_.t
theorem xc_BadWish (c : Says K) : Pk.ExC P K (T K) 13 (Ok_BadWish K) := exC_mk (c.fact 45 (f := .own "BadWish" (PySem.Str.ofString "/claim/cut.py") []) rfl) rfl rfl (c.wrote 13 (d := d_BadWish____init__) rfl) rfl rfl bd_BadWish xs_BadWish rfl rfl (by decide +kernel) hp_.f hp_.t
theorem err_ok (c : Says K) : ErrF K (T K) errTab := err_of (.cons (kit_ok (c.fact 46 (f := .kit (.o 0) (.o 0) true) rfl)) (exiX_ok (c.fact 47 (f := .exi "BadInstance") rfl)) (.cons (kit_ok (c.fact 48 (f := .kit (.o 1) (.o 0) false) rfl)) (exiX_ok (c.fact 49 (f := .exi "Unlike") rfl)) (.cons (kit_ok (c.fact 50 (f := .kit (.o 2) (.o 0) false) rfl)) (exiX_ok (c.fact 51 (f := .exi "BadFactor") rfl)) (.cons (kit_ok (c.fact 52 (f := .kit (.o 3) (.o 0) false) rfl)) (exiX_ok (c.fact 53 (f := .exi "NoInstance") rfl)) (.cons (kit_ok (c.fact 54 (f := .kit (.o 4) (.o 0) false) rfl)) (exiX_ok (c.fact 55 (f := .exi "BadWorld") rfl)) (.cons (kit_ok (c.fact 56 (f := .kit (.o 5) (.o 0) false) rfl)) (exiX_ok (c.fact 57 (f := .exi "NotAllowed") rfl)) (.cons (kit_ok (c.fact 58 (f := .kit (.o 6) (.o 0) false) rfl)) (exiX_ok (c.fact 59 (f := .exi "BadDeed") rfl)) (.cons (kit_ok (c.fact 60 (f := .kit (.o 7) (.o 0) false) rfl)) (exiX_ok (c.fact 61 (f := .exi "BadRun") rfl)) (.cons (kit_ok (c.fact 62 (f := .kit (.o 8) (.o 0) false) rfl)) (exiX_ok (c.fact 63 (f := .exi "BadTable") rfl)) (.cons (kit_ok (c.fact 64 (f := .kit (.o 9) (.o 0) false) rfl)) (exiX_ok (c.fact 65 (f := .exi "BadTerm") rfl)) (.cons (kit_ok (c.fact 66 (f := .kit (.o 10) (.o 0) false) rfl)) (exiX_ok (c.fact 67 (f := .exi "BadText") rfl)) (.cons (kit_ok (c.fact 68 (f := .kit (.o 11) (.o 0) false) rfl)) (exiX_ok (c.fact 69 (f := .exi "BadUnit") rfl)) (.cons (kit_ok (c.fact 70 (f := .kit (.o 12) (.o 0) false) rfl)) (exiX_ok (c.fact 71 (f := .exi "TooMany") rfl)) (.cons (kit_ok (c.fact 72 (f := .kit (.o 13) (.o 0) false) rfl)) (exiX_ok (c.fact 73 (f := .exi "BadWish") rfl)) (.cons (kit_ok (c.fact 74 (f := .kit (.o 14) (.o 0) false) rfl)) (exiX_ok (c.fact 75 (f := .exi "CountError") rfl)) (.cons (kit_ok (c.fact 76 (f := .kit (.o 0) (.o 1) false) rfl)) (exiX_ok (c.fact 47 (f := .exi "BadInstance") rfl)) (.cons (kit_ok (c.fact 77 (f := .kit (.o 1) (.o 1) true) rfl)) (exiX_ok (c.fact 49 (f := .exi "Unlike") rfl)) (.cons (kit_ok (c.fact 78 (f := .kit (.o 2) (.o 1) false) rfl)) (exiX_ok (c.fact 51 (f := .exi "BadFactor") rfl)) (.cons (kit_ok (c.fact 79 (f := .kit (.o 3) (.o 1) false) rfl)) (exiX_ok (c.fact 53 (f := .exi "NoInstance") rfl)) (.cons (kit_ok (c.fact 80 (f := .kit (.o 4) (.o 1) false) rfl)) (exiX_ok (c.fact 55 (f := .exi "BadWorld") rfl)) (.cons (kit_ok (c.fact 81 (f := .kit (.o 5) (.o 1) false) rfl)) (exiX_ok (c.fact 57 (f := .exi "NotAllowed") rfl)) (.cons (kit_ok (c.fact 82 (f := .kit (.o 6) (.o 1) false) rfl)) (exiX_ok (c.fact 59 (f := .exi "BadDeed") rfl)) (.cons (kit_ok (c.fact 83 (f := .kit (.o 7) (.o 1) false) rfl)) (exiX_ok (c.fact 61 (f := .exi "BadRun") rfl)) (.cons (kit_ok (c.fact 84 (f := .kit (.o 8) (.o 1) false) rfl)) (exiX_ok (c.fact 63 (f := .exi "BadTable") rfl)) (.cons (kit_ok (c.fact 85 (f := .kit (.o 9) (.o 1) false) rfl)) (exiX_ok (c.fact 65 (f := .exi "BadTerm") rfl)) (.cons (kit_ok (c.fact 86 (f := .kit (.o 10) (.o 1) false) rfl)) (exiX_ok (c.fact 67 (f := .exi "BadText") rfl)) (.cons (kit_ok (c.fact 87 (f := .kit (.o 11) (.o 1) false) rfl)) (exiX_ok (c.fact 69 (f := .exi "BadUnit") rfl)) (.cons (kit_ok (c.fact 88 (f := .kit (.o 12) (.o 1) false) rfl)) (exiX_ok (c.fact 71 (f := .exi "TooMany") rfl)) (.cons (kit_ok (c.fact 89 (f := .kit (.o 13) (.o 1) false) rfl)) (exiX_ok (c.fact 73 (f := .exi "BadWish") rfl)) (.cons (kit_ok (c.fact 90 (f := .kit (.o 14) (.o 1) false) rfl)) (exiX_ok (c.fact 75 (f := .exi "CountError") rfl)) (.cons (kit_ok (c.fact 91 (f := .kit (.o 0) (.o 2) false) rfl)) (exiX_ok (c.fact 47 (f := .exi "BadInstance") rfl)) (.cons (kit_ok (c.fact 92 (f := .kit (.o 1) (.o 2) false) rfl)) (exiX_ok (c.fact 49 (f := .exi "Unlike") rfl)) (.cons (kit_ok (c.fact 93 (f := .kit (.o 2) (.o 2) true) rfl)) (exiX_ok (c.fact 51 (f := .exi "BadFactor") rfl)) (.cons (kit_ok (c.fact 94 (f := .kit (.o 3) (.o 2) false) rfl)) (exiX_ok (c.fact 53 (f := .exi "NoInstance") rfl)) (.cons (kit_ok (c.fact 95 (f := .kit (.o 4) (.o 2) false) rfl)) (exiX_ok (c.fact 55 (f := .exi "BadWorld") rfl)) (.cons (kit_ok (c.fact 96 (f := .kit (.o 5) (.o 2) false) rfl)) (exiX_ok (c.fact 57 (f := .exi "NotAllowed") rfl)) (.cons (kit_ok (c.fact 97 (f := .kit (.o 6) (.o 2) false) rfl)) (exiX_ok (c.fact 59 (f := .exi "BadDeed") rfl)) (.cons (kit_ok (c.fact 98 (f := .kit (.o 7) (.o 2) false) rfl)) (exiX_ok (c.fact 61 (f := .exi "BadRun") rfl)) (.cons (kit_ok (c.fact 99 (f := .kit (.o 8) (.o 2) false) rfl)) (exiX_ok (c.fact 63 (f := .exi "BadTable") rfl)) (.cons (kit_ok (c.fact 100 (f := .kit (.o 9) (.o 2) false) rfl)) (exiX_ok (c.fact 65 (f := .exi "BadTerm") rfl)) (.cons (kit_ok (c.fact 101 (f := .kit (.o 10) (.o 2) false) rfl)) (exiX_ok (c.fact 67 (f := .exi "BadText") rfl)) (.cons (kit_ok (c.fact 102 (f := .kit (.o 11) (.o 2) false) rfl)) (exiX_ok (c.fact 69 (f := .exi "BadUnit") rfl)) (.cons (kit_ok (c.fact 103 (f := .kit (.o 12) (.o 2) false) rfl)) (exiX_ok (c.fact 71 (f := .exi "TooMany") rfl)) (.cons (kit_ok (c.fact 104 (f := .kit (.o 13) (.o 2) false) rfl)) (exiX_ok (c.fact 73 (f := .exi "BadWish") rfl)) (.cons (kit_ok (c.fact 105 (f := .kit (.o 14) (.o 2) false) rfl)) (exiX_ok (c.fact 75 (f := .exi "CountError") rfl)) (.cons (kit_ok (c.fact 106 (f := .kit (.o 0) (.o 3) false) rfl)) (exiX_ok (c.fact 47 (f := .exi "BadInstance") rfl)) (.cons (kit_ok (c.fact 107 (f := .kit (.o 1) (.o 3) false) rfl)) (exiX_ok (c.fact 49 (f := .exi "Unlike") rfl)) (.cons (kit_ok (c.fact 108 (f := .kit (.o 2) (.o 3) false) rfl)) (exiX_ok (c.fact 51 (f := .exi "BadFactor") rfl)) (.cons (kit_ok (c.fact 109 (f := .kit (.o 3) (.o 3) true) rfl)) (exiX_ok (c.fact 53 (f := .exi "NoInstance") rfl)) (.cons (kit_ok (c.fact 110 (f := .kit (.o 4) (.o 3) false) rfl)) (exiX_ok (c.fact 55 (f := .exi "BadWorld") rfl)) (.cons (kit_ok (c.fact 111 (f := .kit (.o 5) (.o 3) false) rfl)) (exiX_ok (c.fact 57 (f := .exi "NotAllowed") rfl)) (.cons (kit_ok (c.fact 112 (f := .kit (.o 6) (.o 3) false) rfl)) (exiX_ok (c.fact 59 (f := .exi "BadDeed") rfl)) (.cons (kit_ok (c.fact 113 (f := .kit (.o 7) (.o 3) false) rfl)) (exiX_ok (c.fact 61 (f := .exi "BadRun") rfl)) (.cons (kit_ok (c.fact 114 (f := .kit (.o 8) (.o 3) false) rfl)) (exiX_ok (c.fact 63 (f := .exi "BadTable") rfl)) (.cons (kit_ok (c.fact 115 (f := .kit (.o 9) (.o 3) false) rfl)) (exiX_ok (c.fact 65 (f := .exi "BadTerm") rfl)) (.cons (kit_ok (c.fact 116 (f := .kit (.o 10) (.o 3) false) rfl)) (exiX_ok (c.fact 67 (f := .exi "BadText") rfl)) (.cons (kit_ok (c.fact 117 (f := .kit (.o 11) (.o 3) false) rfl)) (exiX_ok (c.fact 69 (f := .exi "BadUnit") rfl)) (.cons (kit_ok (c.fact 118 (f := .kit (.o 12) (.o 3) false) rfl)) (exiX_ok (c.fact 71 (f := .exi "TooMany") rfl)) (.cons (kit_ok (c.fact 119 (f := .kit (.o 13) (.o 3) false) rfl)) (exiX_ok (c.fact 73 (f := .exi "BadWish") rfl)) (.cons (kit_ok (c.fact 120 (f := .kit (.o 14) (.o 3) false) rfl)) (exiX_ok (c.fact 75 (f := .exi "CountError") rfl)) (.cons (kit_ok (c.fact 121 (f := .kit (.o 0) (.o 4) false) rfl)) (exiX_ok (c.fact 47 (f := .exi "BadInstance") rfl)) (.cons (kit_ok (c.fact 122 (f := .kit (.o 1) (.o 4) false) rfl)) (exiX_ok (c.fact 49 (f := .exi "Unlike") rfl)) (.cons (kit_ok (c.fact 123 (f := .kit (.o 2) (.o 4) false) rfl)) (exiX_ok (c.fact 51 (f := .exi "BadFactor") rfl)) (.cons (kit_ok (c.fact 124 (f := .kit (.o 3) (.o 4) false) rfl)) (exiX_ok (c.fact 53 (f := .exi "NoInstance") rfl)) (.cons (kit_ok (c.fact 125 (f := .kit (.o 4) (.o 4) true) rfl)) (exiX_ok (c.fact 55 (f := .exi "BadWorld") rfl)) (.cons (kit_ok (c.fact 126 (f := .kit (.o 5) (.o 4) false) rfl)) (exiX_ok (c.fact 57 (f := .exi "NotAllowed") rfl)) (.cons (kit_ok (c.fact 127 (f := .kit (.o 6) (.o 4) false) rfl)) (exiX_ok (c.fact 59 (f := .exi "BadDeed") rfl)) (.cons (kit_ok (c.fact 128 (f := .kit (.o 7) (.o 4) false) rfl)) (exiX_ok (c.fact 61 (f := .exi "BadRun") rfl)) (.cons (kit_ok (c.fact 129 (f := .kit (.o 8) (.o 4) false) rfl)) (exiX_ok (c.fact 63 (f := .exi "BadTable") rfl)) (.cons (kit_ok (c.fact 130 (f := .kit (.o 9) (.o 4) false) rfl)) (exiX_ok (c.fact 65 (f := .exi "BadTerm") rfl)) (.cons (kit_ok (c.fact 131 (f := .kit (.o 10) (.o 4) false) rfl)) (exiX_ok (c.fact 67 (f := .exi "BadText") rfl)) (.cons (kit_ok (c.fact 132 (f := .kit (.o 11) (.o 4) false) rfl)) (exiX_ok (c.fact 69 (f := .exi "BadUnit") rfl)) (.cons (kit_ok (c.fact 133 (f := .kit (.o 12) (.o 4) false) rfl)) (exiX_ok (c.fact 71 (f := .exi "TooMany") rfl)) (.cons (kit_ok (c.fact 134 (f := .kit (.o 13) (.o 4) false) rfl)) (exiX_ok (c.fact 73 (f := .exi "BadWish") rfl)) (.cons (kit_ok (c.fact 135 (f := .kit (.o 14) (.o 4) false) rfl)) (exiX_ok (c.fact 75 (f := .exi "CountError") rfl)) (.cons (kit_ok (c.fact 136 (f := .kit (.o 0) (.o 5) false) rfl)) (exiX_ok (c.fact 47 (f := .exi "BadInstance") rfl)) (.cons (kit_ok (c.fact 137 (f := .kit (.o 1) (.o 5) false) rfl)) (exiX_ok (c.fact 49 (f := .exi "Unlike") rfl)) (.cons (kit_ok (c.fact 138 (f := .kit (.o 2) (.o 5) false) rfl)) (exiX_ok (c.fact 51 (f := .exi "BadFactor") rfl)) (.cons (kit_ok (c.fact 139 (f := .kit (.o 3) (.o 5) false) rfl)) (exiX_ok (c.fact 53 (f := .exi "NoInstance") rfl)) (.cons (kit_ok (c.fact 140 (f := .kit (.o 4) (.o 5) false) rfl)) (exiX_ok (c.fact 55 (f := .exi "BadWorld") rfl)) (.cons (kit_ok (c.fact 141 (f := .kit (.o 5) (.o 5) true) rfl)) (exiX_ok (c.fact 57 (f := .exi "NotAllowed") rfl)) (.cons (kit_ok (c.fact 142 (f := .kit (.o 6) (.o 5) false) rfl)) (exiX_ok (c.fact 59 (f := .exi "BadDeed") rfl)) (.cons (kit_ok (c.fact 143 (f := .kit (.o 7) (.o 5) false) rfl)) (exiX_ok (c.fact 61 (f := .exi "BadRun") rfl)) (.cons (kit_ok (c.fact 144 (f := .kit (.o 8) (.o 5) false) rfl)) (exiX_ok (c.fact 63 (f := .exi "BadTable") rfl)) (.cons (kit_ok (c.fact 145 (f := .kit (.o 9) (.o 5) false) rfl)) (exiX_ok (c.fact 65 (f := .exi "BadTerm") rfl)) (.cons (kit_ok (c.fact 146 (f := .kit (.o 10) (.o 5) false) rfl)) (exiX_ok (c.fact 67 (f := .exi "BadText") rfl)) (.cons (kit_ok (c.fact 147 (f := .kit (.o 11) (.o 5) false) rfl)) (exiX_ok (c.fact 69 (f := .exi "BadUnit") rfl)) (.cons (kit_ok (c.fact 148 (f := .kit (.o 12) (.o 5) false) rfl)) (exiX_ok (c.fact 71 (f := .exi "TooMany") rfl)) (.cons (kit_ok (c.fact 149 (f := .kit (.o 13) (.o 5) false) rfl)) (exiX_ok (c.fact 73 (f := .exi "BadWish") rfl)) (.cons (kit_ok (c.fact 150 (f := .kit (.o 14) (.o 5) false) rfl)) (exiX_ok (c.fact 75 (f := .exi "CountError") rfl)) (.cons (kit_ok (c.fact 151 (f := .kit (.o 0) (.o 6) false) rfl)) (exiX_ok (c.fact 47 (f := .exi "BadInstance") rfl)) (.cons (kit_ok (c.fact 152 (f := .kit (.o 1) (.o 6) false) rfl)) (exiX_ok (c.fact 49 (f := .exi "Unlike") rfl)) (.cons (kit_ok (c.fact 153 (f := .kit (.o 2) (.o 6) false) rfl)) (exiX_ok (c.fact 51 (f := .exi "BadFactor") rfl)) (.cons (kit_ok (c.fact 154 (f := .kit (.o 3) (.o 6) false) rfl)) (exiX_ok (c.fact 53 (f := .exi "NoInstance") rfl)) (.cons (kit_ok (c.fact 155 (f := .kit (.o 4) (.o 6) false) rfl)) (exiX_ok (c.fact 55 (f := .exi "BadWorld") rfl)) (.cons (kit_ok (c.fact 156 (f := .kit (.o 5) (.o 6) false) rfl)) (exiX_ok (c.fact 57 (f := .exi "NotAllowed") rfl)) (.cons (kit_ok (c.fact 157 (f := .kit (.o 6) (.o 6) true) rfl)) (exiX_ok (c.fact 59 (f := .exi "BadDeed") rfl)) (.cons (kit_ok (c.fact 158 (f := .kit (.o 7) (.o 6) false) rfl)) (exiX_ok (c.fact 61 (f := .exi "BadRun") rfl)) (.cons (kit_ok (c.fact 159 (f := .kit (.o 8) (.o 6) false) rfl)) (exiX_ok (c.fact 63 (f := .exi "BadTable") rfl)) (.cons (kit_ok (c.fact 160 (f := .kit (.o 9) (.o 6) false) rfl)) (exiX_ok (c.fact 65 (f := .exi "BadTerm") rfl)) (.cons (kit_ok (c.fact 161 (f := .kit (.o 10) (.o 6) false) rfl)) (exiX_ok (c.fact 67 (f := .exi "BadText") rfl)) (.cons (kit_ok (c.fact 162 (f := .kit (.o 11) (.o 6) false) rfl)) (exiX_ok (c.fact 69 (f := .exi "BadUnit") rfl)) (.cons (kit_ok (c.fact 163 (f := .kit (.o 12) (.o 6) false) rfl)) (exiX_ok (c.fact 71 (f := .exi "TooMany") rfl)) (.cons (kit_ok (c.fact 164 (f := .kit (.o 13) (.o 6) false) rfl)) (exiX_ok (c.fact 73 (f := .exi "BadWish") rfl)) (.cons (kit_ok (c.fact 165 (f := .kit (.o 14) (.o 6) false) rfl)) (exiX_ok (c.fact 75 (f := .exi "CountError") rfl)) (.cons (kit_ok (c.fact 166 (f := .kit (.o 0) (.o 7) false) rfl)) (exiX_ok (c.fact 47 (f := .exi "BadInstance") rfl)) (.cons (kit_ok (c.fact 167 (f := .kit (.o 1) (.o 7) false) rfl)) (exiX_ok (c.fact 49 (f := .exi "Unlike") rfl)) (.cons (kit_ok (c.fact 168 (f := .kit (.o 2) (.o 7) false) rfl)) (exiX_ok (c.fact 51 (f := .exi "BadFactor") rfl)) (.cons (kit_ok (c.fact 169 (f := .kit (.o 3) (.o 7) false) rfl)) (exiX_ok (c.fact 53 (f := .exi "NoInstance") rfl)) (.cons (kit_ok (c.fact 170 (f := .kit (.o 4) (.o 7) false) rfl)) (exiX_ok (c.fact 55 (f := .exi "BadWorld") rfl)) (.cons (kit_ok (c.fact 171 (f := .kit (.o 5) (.o 7) false) rfl)) (exiX_ok (c.fact 57 (f := .exi "NotAllowed") rfl)) (.cons (kit_ok (c.fact 172 (f := .kit (.o 6) (.o 7) false) rfl)) (exiX_ok (c.fact 59 (f := .exi "BadDeed") rfl)) (.cons (kit_ok (c.fact 173 (f := .kit (.o 7) (.o 7) true) rfl)) (exiX_ok (c.fact 61 (f := .exi "BadRun") rfl)) (.cons (kit_ok (c.fact 174 (f := .kit (.o 8) (.o 7) false) rfl)) (exiX_ok (c.fact 63 (f := .exi "BadTable") rfl)) (.cons (kit_ok (c.fact 175 (f := .kit (.o 9) (.o 7) false) rfl)) (exiX_ok (c.fact 65 (f := .exi "BadTerm") rfl)) (.cons (kit_ok (c.fact 176 (f := .kit (.o 10) (.o 7) false) rfl)) (exiX_ok (c.fact 67 (f := .exi "BadText") rfl)) (.cons (kit_ok (c.fact 177 (f := .kit (.o 11) (.o 7) false) rfl)) (exiX_ok (c.fact 69 (f := .exi "BadUnit") rfl)) (.cons (kit_ok (c.fact 178 (f := .kit (.o 12) (.o 7) false) rfl)) (exiX_ok (c.fact 71 (f := .exi "TooMany") rfl)) (.cons (kit_ok (c.fact 179 (f := .kit (.o 13) (.o 7) false) rfl)) (exiX_ok (c.fact 73 (f := .exi "BadWish") rfl)) (.cons (kit_ok (c.fact 180 (f := .kit (.o 14) (.o 7) false) rfl)) (exiX_ok (c.fact 75 (f := .exi "CountError") rfl)) (.cons (kit_ok (c.fact 181 (f := .kit (.o 0) (.o 8) false) rfl)) (exiX_ok (c.fact 47 (f := .exi "BadInstance") rfl)) (.cons (kit_ok (c.fact 182 (f := .kit (.o 1) (.o 8) false) rfl)) (exiX_ok (c.fact 49 (f := .exi "Unlike") rfl)) (.cons (kit_ok (c.fact 183 (f := .kit (.o 2) (.o 8) false) rfl)) (exiX_ok (c.fact 51 (f := .exi "BadFactor") rfl)) (.cons (kit_ok (c.fact 184 (f := .kit (.o 3) (.o 8) false) rfl)) (exiX_ok (c.fact 53 (f := .exi "NoInstance") rfl)) (.cons (kit_ok (c.fact 185 (f := .kit (.o 4) (.o 8) false) rfl)) (exiX_ok (c.fact 55 (f := .exi "BadWorld") rfl)) (.cons (kit_ok (c.fact 186 (f := .kit (.o 5) (.o 8) false) rfl)) (exiX_ok (c.fact 57 (f := .exi "NotAllowed") rfl)) (.cons (kit_ok (c.fact 187 (f := .kit (.o 6) (.o 8) false) rfl)) (exiX_ok (c.fact 59 (f := .exi "BadDeed") rfl)) (.cons (kit_ok (c.fact 188 (f := .kit (.o 7) (.o 8) false) rfl)) (exiX_ok (c.fact 61 (f := .exi "BadRun") rfl)) (.cons (kit_ok (c.fact 189 (f := .kit (.o 8) (.o 8) true) rfl)) (exiX_ok (c.fact 63 (f := .exi "BadTable") rfl)) (.cons (kit_ok (c.fact 190 (f := .kit (.o 9) (.o 8) false) rfl)) (exiX_ok (c.fact 65 (f := .exi "BadTerm") rfl)) (.cons (kit_ok (c.fact 191 (f := .kit (.o 10) (.o 8) false) rfl)) (exiX_ok (c.fact 67 (f := .exi "BadText") rfl)) (.cons (kit_ok (c.fact 192 (f := .kit (.o 11) (.o 8) false) rfl)) (exiX_ok (c.fact 69 (f := .exi "BadUnit") rfl)) (.cons (kit_ok (c.fact 193 (f := .kit (.o 12) (.o 8) false) rfl)) (exiX_ok (c.fact 71 (f := .exi "TooMany") rfl)) (.cons (kit_ok (c.fact 194 (f := .kit (.o 13) (.o 8) false) rfl)) (exiX_ok (c.fact 73 (f := .exi "BadWish") rfl)) (.cons (kit_ok (c.fact 195 (f := .kit (.o 14) (.o 8) false) rfl)) (exiX_ok (c.fact 75 (f := .exi "CountError") rfl)) (.cons (kit_ok (c.fact 196 (f := .kit (.o 0) (.o 9) false) rfl)) (exiX_ok (c.fact 47 (f := .exi "BadInstance") rfl)) (.cons (kit_ok (c.fact 197 (f := .kit (.o 1) (.o 9) false) rfl)) (exiX_ok (c.fact 49 (f := .exi "Unlike") rfl)) (.cons (kit_ok (c.fact 198 (f := .kit (.o 2) (.o 9) false) rfl)) (exiX_ok (c.fact 51 (f := .exi "BadFactor") rfl)) (.cons (kit_ok (c.fact 199 (f := .kit (.o 3) (.o 9) false) rfl)) (exiX_ok (c.fact 53 (f := .exi "NoInstance") rfl)) (.cons (kit_ok (c.fact 200 (f := .kit (.o 4) (.o 9) false) rfl)) (exiX_ok (c.fact 55 (f := .exi "BadWorld") rfl)) (.cons (kit_ok (c.fact 201 (f := .kit (.o 5) (.o 9) false) rfl)) (exiX_ok (c.fact 57 (f := .exi "NotAllowed") rfl)) (.cons (kit_ok (c.fact 202 (f := .kit (.o 6) (.o 9) false) rfl)) (exiX_ok (c.fact 59 (f := .exi "BadDeed") rfl)) (.cons (kit_ok (c.fact 203 (f := .kit (.o 7) (.o 9) false) rfl)) (exiX_ok (c.fact 61 (f := .exi "BadRun") rfl)) (.cons (kit_ok (c.fact 204 (f := .kit (.o 8) (.o 9) false) rfl)) (exiX_ok (c.fact 63 (f := .exi "BadTable") rfl)) (.cons (kit_ok (c.fact 205 (f := .kit (.o 9) (.o 9) true) rfl)) (exiX_ok (c.fact 65 (f := .exi "BadTerm") rfl)) (.cons (kit_ok (c.fact 206 (f := .kit (.o 10) (.o 9) false) rfl)) (exiX_ok (c.fact 67 (f := .exi "BadText") rfl)) (.cons (kit_ok (c.fact 207 (f := .kit (.o 11) (.o 9) false) rfl)) (exiX_ok (c.fact 69 (f := .exi "BadUnit") rfl)) (.cons (kit_ok (c.fact 208 (f := .kit (.o 12) (.o 9) false) rfl)) (exiX_ok (c.fact 71 (f := .exi "TooMany") rfl)) (.cons (kit_ok (c.fact 209 (f := .kit (.o 13) (.o 9) false) rfl)) (exiX_ok (c.fact 73 (f := .exi "BadWish") rfl)) (.cons (kit_ok (c.fact 210 (f := .kit (.o 14) (.o 9) false) rfl)) (exiX_ok (c.fact 75 (f := .exi "CountError") rfl)) (.cons (kit_ok (c.fact 211 (f := .kit (.o 0) (.o 10) false) rfl)) (exiX_ok (c.fact 47 (f := .exi "BadInstance") rfl)) (.cons (kit_ok (c.fact 212 (f := .kit (.o 1) (.o 10) false) rfl)) (exiX_ok (c.fact 49 (f := .exi "Unlike") rfl)) (.cons (kit_ok (c.fact 213 (f := .kit (.o 2) (.o 10) false) rfl)) (exiX_ok (c.fact 51 (f := .exi "BadFactor") rfl)) (.cons (kit_ok (c.fact 214 (f := .kit (.o 3) (.o 10) false) rfl)) (exiX_ok (c.fact 53 (f := .exi "NoInstance") rfl)) (.cons (kit_ok (c.fact 215 (f := .kit (.o 4) (.o 10) false) rfl)) (exiX_ok (c.fact 55 (f := .exi "BadWorld") rfl)) (.cons (kit_ok (c.fact 216 (f := .kit (.o 5) (.o 10) false) rfl)) (exiX_ok (c.fact 57 (f := .exi "NotAllowed") rfl)) (.cons (kit_ok (c.fact 217 (f := .kit (.o 6) (.o 10) false) rfl)) (exiX_ok (c.fact 59 (f := .exi "BadDeed") rfl)) (.cons (kit_ok (c.fact 218 (f := .kit (.o 7) (.o 10) false) rfl)) (exiX_ok (c.fact 61 (f := .exi "BadRun") rfl)) (.cons (kit_ok (c.fact 219 (f := .kit (.o 8) (.o 10) false) rfl)) (exiX_ok (c.fact 63 (f := .exi "BadTable") rfl)) (.cons (kit_ok (c.fact 220 (f := .kit (.o 9) (.o 10) false) rfl)) (exiX_ok (c.fact 65 (f := .exi "BadTerm") rfl)) (.cons (kit_ok (c.fact 221 (f := .kit (.o 10) (.o 10) true) rfl)) (exiX_ok (c.fact 67 (f := .exi "BadText") rfl)) (.cons (kit_ok (c.fact 222 (f := .kit (.o 11) (.o 10) false) rfl)) (exiX_ok (c.fact 69 (f := .exi "BadUnit") rfl)) (.cons (kit_ok (c.fact 223 (f := .kit (.o 12) (.o 10) false) rfl)) (exiX_ok (c.fact 71 (f := .exi "TooMany") rfl)) (.cons (kit_ok (c.fact 224 (f := .kit (.o 13) (.o 10) false) rfl)) (exiX_ok (c.fact 73 (f := .exi "BadWish") rfl)) (.cons (kit_ok (c.fact 225 (f := .kit (.o 14) (.o 10) false) rfl)) (exiX_ok (c.fact 75 (f := .exi "CountError") rfl)) (.cons (kit_ok (c.fact 226 (f := .kit (.o 0) (.o 11) false) rfl)) (exiX_ok (c.fact 47 (f := .exi "BadInstance") rfl)) (.cons (kit_ok (c.fact 227 (f := .kit (.o 1) (.o 11) false) rfl)) (exiX_ok (c.fact 49 (f := .exi "Unlike") rfl)) (.cons (kit_ok (c.fact 228 (f := .kit (.o 2) (.o 11) false) rfl)) (exiX_ok (c.fact 51 (f := .exi "BadFactor") rfl)) (.cons (kit_ok (c.fact 229 (f := .kit (.o 3) (.o 11) false) rfl)) (exiX_ok (c.fact 53 (f := .exi "NoInstance") rfl)) (.cons (kit_ok (c.fact 230 (f := .kit (.o 4) (.o 11) false) rfl)) (exiX_ok (c.fact 55 (f := .exi "BadWorld") rfl)) (.cons (kit_ok (c.fact 231 (f := .kit (.o 5) (.o 11) false) rfl)) (exiX_ok (c.fact 57 (f := .exi "NotAllowed") rfl)) (.cons (kit_ok (c.fact 232 (f := .kit (.o 6) (.o 11) false) rfl)) (exiX_ok (c.fact 59 (f := .exi "BadDeed") rfl)) (.cons (kit_ok (c.fact 233 (f := .kit (.o 7) (.o 11) false) rfl)) (exiX_ok (c.fact 61 (f := .exi "BadRun") rfl)) (.cons (kit_ok (c.fact 234 (f := .kit (.o 8) (.o 11) false) rfl)) (exiX_ok (c.fact 63 (f := .exi "BadTable") rfl)) (.cons (kit_ok (c.fact 235 (f := .kit (.o 9) (.o 11) false) rfl)) (exiX_ok (c.fact 65 (f := .exi "BadTerm") rfl)) (.cons (kit_ok (c.fact 236 (f := .kit (.o 10) (.o 11) false) rfl)) (exiX_ok (c.fact 67 (f := .exi "BadText") rfl)) (.cons (kit_ok (c.fact 237 (f := .kit (.o 11) (.o 11) true) rfl)) (exiX_ok (c.fact 69 (f := .exi "BadUnit") rfl)) (.cons (kit_ok (c.fact 238 (f := .kit (.o 12) (.o 11) false) rfl)) (exiX_ok (c.fact 71 (f := .exi "TooMany") rfl)) (.cons (kit_ok (c.fact 239 (f := .kit (.o 13) (.o 11) false) rfl)) (exiX_ok (c.fact 73 (f := .exi "BadWish") rfl)) (.cons (kit_ok (c.fact 240 (f := .kit (.o 14) (.o 11) false) rfl)) (exiX_ok (c.fact 75 (f := .exi "CountError") rfl)) (.cons (kit_ok (c.fact 241 (f := .kit (.o 0) (.o 12) false) rfl)) (exiX_ok (c.fact 47 (f := .exi "BadInstance") rfl)) (.cons (kit_ok (c.fact 242 (f := .kit (.o 1) (.o 12) false) rfl)) (exiX_ok (c.fact 49 (f := .exi "Unlike") rfl)) (.cons (kit_ok (c.fact 243 (f := .kit (.o 2) (.o 12) false) rfl)) (exiX_ok (c.fact 51 (f := .exi "BadFactor") rfl)) (.cons (kit_ok (c.fact 244 (f := .kit (.o 3) (.o 12) false) rfl)) (exiX_ok (c.fact 53 (f := .exi "NoInstance") rfl)) (.cons (kit_ok (c.fact 245 (f := .kit (.o 4) (.o 12) false) rfl)) (exiX_ok (c.fact 55 (f := .exi "BadWorld") rfl)) (.cons (kit_ok (c.fact 246 (f := .kit (.o 5) (.o 12) false) rfl)) (exiX_ok (c.fact 57 (f := .exi "NotAllowed") rfl)) (.cons (kit_ok (c.fact 247 (f := .kit (.o 6) (.o 12) false) rfl)) (exiX_ok (c.fact 59 (f := .exi "BadDeed") rfl)) (.cons (kit_ok (c.fact 248 (f := .kit (.o 7) (.o 12) false) rfl)) (exiX_ok (c.fact 61 (f := .exi "BadRun") rfl)) (.cons (kit_ok (c.fact 249 (f := .kit (.o 8) (.o 12) false) rfl)) (exiX_ok (c.fact 63 (f := .exi "BadTable") rfl)) (.cons (kit_ok (c.fact 250 (f := .kit (.o 9) (.o 12) false) rfl)) (exiX_ok (c.fact 65 (f := .exi "BadTerm") rfl)) (.cons (kit_ok (c.fact 251 (f := .kit (.o 10) (.o 12) false) rfl)) (exiX_ok (c.fact 67 (f := .exi "BadText") rfl)) (.cons (kit_ok (c.fact 252 (f := .kit (.o 11) (.o 12) false) rfl)) (exiX_ok (c.fact 69 (f := .exi "BadUnit") rfl)) (.cons (kit_ok (c.fact 253 (f := .kit (.o 12) (.o 12) true) rfl)) (exiX_ok (c.fact 71 (f := .exi "TooMany") rfl)) (.cons (kit_ok (c.fact 254 (f := .kit (.o 13) (.o 12) false) rfl)) (exiX_ok (c.fact 73 (f := .exi "BadWish") rfl)) (.cons (kit_ok (c.fact 255 (f := .kit (.o 14) (.o 12) false) rfl)) (exiX_ok (c.fact 75 (f := .exi "CountError") rfl)) (.cons (kit_ok (c.fact 256 (f := .kit (.o 0) (.o 13) false) rfl)) (exiX_ok (c.fact 47 (f := .exi "BadInstance") rfl)) (.cons (kit_ok (c.fact 257 (f := .kit (.o 1) (.o 13) false) rfl)) (exiX_ok (c.fact 49 (f := .exi "Unlike") rfl)) (.cons (kit_ok (c.fact 258 (f := .kit (.o 2) (.o 13) false) rfl)) (exiX_ok (c.fact 51 (f := .exi "BadFactor") rfl)) (.cons (kit_ok (c.fact 259 (f := .kit (.o 3) (.o 13) false) rfl)) (exiX_ok (c.fact 53 (f := .exi "NoInstance") rfl)) (.cons (kit_ok (c.fact 260 (f := .kit (.o 4) (.o 13) false) rfl)) (exiX_ok (c.fact 55 (f := .exi "BadWorld") rfl)) (.cons (kit_ok (c.fact 261 (f := .kit (.o 5) (.o 13) false) rfl)) (exiX_ok (c.fact 57 (f := .exi "NotAllowed") rfl)) (.cons (kit_ok (c.fact 262 (f := .kit (.o 6) (.o 13) false) rfl)) (exiX_ok (c.fact 59 (f := .exi "BadDeed") rfl)) (.cons (kit_ok (c.fact 263 (f := .kit (.o 7) (.o 13) false) rfl)) (exiX_ok (c.fact 61 (f := .exi "BadRun") rfl)) (.cons (kit_ok (c.fact 264 (f := .kit (.o 8) (.o 13) false) rfl)) (exiX_ok (c.fact 63 (f := .exi "BadTable") rfl)) (.cons (kit_ok (c.fact 265 (f := .kit (.o 9) (.o 13) false) rfl)) (exiX_ok (c.fact 65 (f := .exi "BadTerm") rfl)) (.cons (kit_ok (c.fact 266 (f := .kit (.o 10) (.o 13) false) rfl)) (exiX_ok (c.fact 67 (f := .exi "BadText") rfl)) (.cons (kit_ok (c.fact 267 (f := .kit (.o 11) (.o 13) false) rfl)) (exiX_ok (c.fact 69 (f := .exi "BadUnit") rfl)) (.cons (kit_ok (c.fact 268 (f := .kit (.o 12) (.o 13) false) rfl)) (exiX_ok (c.fact 71 (f := .exi "TooMany") rfl)) (.cons (kit_ok (c.fact 269 (f := .kit (.o 13) (.o 13) true) rfl)) (exiX_ok (c.fact 73 (f := .exi "BadWish") rfl)) (.cons (kit_ok (c.fact 270 (f := .kit (.o 14) (.o 13) false) rfl)) (exiX_ok (c.fact 75 (f := .exi "CountError") rfl)) (.cons (kit_ok (c.fact 271 (f := .kit (.o 0) (.b "ValueError") true) rfl)) (exiX_ok (c.fact 47 (f := .exi "BadInstance") rfl)) (.cons (kit_ok (c.fact 272 (f := .kit (.o 1) (.b "ValueError") true) rfl)) (exiX_ok (c.fact 49 (f := .exi "Unlike") rfl)) (.cons (kit_ok (c.fact 273 (f := .kit (.o 2) (.b "ValueError") true) rfl)) (exiX_ok (c.fact 51 (f := .exi "BadFactor") rfl)) (.cons (kit_ok (c.fact 274 (f := .kit (.o 3) (.b "ValueError") true) rfl)) (exiX_ok (c.fact 53 (f := .exi "NoInstance") rfl)) (.cons (kit_ok (c.fact 275 (f := .kit (.o 4) (.b "ValueError") true) rfl)) (exiX_ok (c.fact 55 (f := .exi "BadWorld") rfl)) (.cons (kit_ok (c.fact 276 (f := .kit (.o 5) (.b "ValueError") true) rfl)) (exiX_ok (c.fact 57 (f := .exi "NotAllowed") rfl)) (.cons (kit_ok (c.fact 277 (f := .kit (.o 6) (.b "ValueError") true) rfl)) (exiX_ok (c.fact 59 (f := .exi "BadDeed") rfl)) (.cons (kit_ok (c.fact 278 (f := .kit (.o 7) (.b "ValueError") true) rfl)) (exiX_ok (c.fact 61 (f := .exi "BadRun") rfl)) (.cons (kit_ok (c.fact 279 (f := .kit (.o 8) (.b "ValueError") true) rfl)) (exiX_ok (c.fact 63 (f := .exi "BadTable") rfl)) (.cons (kit_ok (c.fact 280 (f := .kit (.o 9) (.b "ValueError") true) rfl)) (exiX_ok (c.fact 65 (f := .exi "BadTerm") rfl)) (.cons (kit_ok (c.fact 281 (f := .kit (.o 10) (.b "ValueError") true) rfl)) (exiX_ok (c.fact 67 (f := .exi "BadText") rfl)) (.cons (kit_ok (c.fact 282 (f := .kit (.o 11) (.b "ValueError") true) rfl)) (exiX_ok (c.fact 69 (f := .exi "BadUnit") rfl)) (.cons (kit_ok (c.fact 283 (f := .kit (.o 12) (.b "ValueError") true) rfl)) (exiX_ok (c.fact 71 (f := .exi "TooMany") rfl)) (.cons (kit_ok (c.fact 284 (f := .kit (.o 13) (.b "ValueError") true) rfl)) (exiX_ok (c.fact 73 (f := .exi "BadWish") rfl)) (.cons (kit_ok (c.fact 285 (f := .kit (.o 14) (.b "ValueError") true) rfl)) (exiX_ok (c.fact 75 (f := .exi "CountError") rfl)) .nil)))))))))))))))))))))))))))))))))))))))))))))))))))))))))))))))))))))))))))))))))))))))))))))))))))))))))))))))))))))))))))))))))))))))))))))))))))))))))))))))))))))))))))))))))))))))))))))))))))))))))))))))))))))))))))))))))
theorem xb_CountError (c : Says K) {X : Cx} (hK : X.K = K) : ExB X.K ((T X.K).cad 14) := by
  subst hK
  exact basX_ok (raw_ok (c.fact 286 (f := .raw (fun K => basX K (He.ga K "CountError"))) rfl))
theorem cd_CountError (c : Says K) {X : Cx} (hK : X.K = K) : ∀ cc b, cond_CountError cc = some b → PySem.W.exmOne X.K (.ref ((T K).cad cc)) (.ref (He.ga K "CountError")) = some b := by
  subst hK
  exact lk_all (Q := fun cc b => PySem.W.exmOne X.K (.ref ((T X.K).cad cc)) (.ref (He.ga X.K "CountError")) = some b) (.cons (He.exm_ok (c.fact 287 (f := .he (.exm "BadInstance" "CountError" true)) rfl)) (.cons (He.exm_ok (c.fact 288 (f := .he (.exm "Unlike" "CountError" true)) rfl)) (.cons (He.exm_ok (c.fact 289 (f := .he (.exm "BadFactor" "CountError" true)) rfl)) (.cons (He.exm_ok (c.fact 290 (f := .he (.exm "NoInstance" "CountError" true)) rfl)) (.cons (He.exm_ok (c.fact 291 (f := .he (.exm "BadWorld" "CountError" true)) rfl)) (.cons (He.exm_ok (c.fact 292 (f := .he (.exm "NotAllowed" "CountError" true)) rfl)) (.cons (He.exm_ok (c.fact 293 (f := .he (.exm "BadDeed" "CountError" true)) rfl)) (.cons (He.exm_ok (c.fact 294 (f := .he (.exm "BadRun" "CountError" true)) rfl)) (.cons (He.exm_ok (c.fact 295 (f := .he (.exm "BadTable" "CountError" true)) rfl)) (.cons (He.exm_ok (c.fact 296 (f := .he (.exm "BadTerm" "CountError" true)) rfl)) (.cons (He.exm_ok (c.fact 297 (f := .he (.exm "BadText" "CountError" true)) rfl)) (.cons (He.exm_ok (c.fact 298 (f := .he (.exm "BadUnit" "CountError" true)) rfl)) (.cons (He.exm_ok (c.fact 299 (f := .he (.exm "TooMany" "CountError" true)) rfl)) (.cons (He.exm_ok (c.fact 300 (f := .he (.exm "BadWish" "CountError" true)) rfl)) (.cons (He.exm_ok (c.fact 301 (f := .he (.exm "CountError" "CountError" true)) rfl)) .nil)))))))))))))))
theorem cd_BadInstance (c : Says K) {X : Cx} (hK : X.K = K) : ∀ cc b, cond_BadInstance cc = some b → PySem.W.exmOne X.K (.ref ((T K).cad cc)) (.ref (He.ga K "BadInstance")) = some b := by
  subst hK
  exact lk_all (Q := fun cc b => PySem.W.exmOne X.K (.ref ((T X.K).cad cc)) (.ref (He.ga X.K "BadInstance")) = some b) (.cons (He.exm_ok (c.fact 302 (f := .he (.exm "BadInstance" "BadInstance" true)) rfl)) (.cons (He.exm_ok (c.fact 303 (f := .he (.exm "Unlike" "BadInstance" false)) rfl)) (.cons (He.exm_ok (c.fact 304 (f := .he (.exm "BadFactor" "BadInstance" false)) rfl)) (.cons (He.exm_ok (c.fact 305 (f := .he (.exm "NoInstance" "BadInstance" false)) rfl)) (.cons (He.exm_ok (c.fact 306 (f := .he (.exm "BadWorld" "BadInstance" false)) rfl)) (.cons (He.exm_ok (c.fact 307 (f := .he (.exm "NotAllowed" "BadInstance" false)) rfl)) (.cons (He.exm_ok (c.fact 308 (f := .he (.exm "BadDeed" "BadInstance" false)) rfl)) (.cons (He.exm_ok (c.fact 309 (f := .he (.exm "BadRun" "BadInstance" false)) rfl)) (.cons (He.exm_ok (c.fact 310 (f := .he (.exm "BadTable" "BadInstance" false)) rfl)) (.cons (He.exm_ok (c.fact 311 (f := .he (.exm "BadTerm" "BadInstance" false)) rfl)) (.cons (He.exm_ok (c.fact 312 (f := .he (.exm "BadText" "BadInstance" false)) rfl)) (.cons (He.exm_ok (c.fact 313 (f := .he (.exm "BadUnit" "BadInstance" false)) rfl)) (.cons (He.exm_ok (c.fact 314 (f := .he (.exm "TooMany" "BadInstance" false)) rfl)) (.cons (He.exm_ok (c.fact 315 (f := .he (.exm "BadWish" "BadInstance" false)) rfl)) (.cons (He.exm_ok (c.fact 316 (f := .he (.exm "CountError" "BadInstance" false)) rfl)) .nil)))))))))))))))
theorem cd_BadWorld (c : Says K) {X : Cx} (hK : X.K = K) : ∀ cc b, cond_BadWorld cc = some b → PySem.W.exmOne X.K (.ref ((T K).cad cc)) (.ref (He.ga K "BadWorld")) = some b := by
  subst hK
  exact lk_all (Q := fun cc b => PySem.W.exmOne X.K (.ref ((T X.K).cad cc)) (.ref (He.ga X.K "BadWorld")) = some b) (.cons (He.exm_ok (c.fact 317 (f := .he (.exm "BadInstance" "BadWorld" false)) rfl)) (.cons (He.exm_ok (c.fact 318 (f := .he (.exm "Unlike" "BadWorld" false)) rfl)) (.cons (He.exm_ok (c.fact 319 (f := .he (.exm "BadFactor" "BadWorld" false)) rfl)) (.cons (He.exm_ok (c.fact 320 (f := .he (.exm "NoInstance" "BadWorld" false)) rfl)) (.cons (He.exm_ok (c.fact 321 (f := .he (.exm "BadWorld" "BadWorld" true)) rfl)) (.cons (He.exm_ok (c.fact 322 (f := .he (.exm "NotAllowed" "BadWorld" false)) rfl)) (.cons (He.exm_ok (c.fact 323 (f := .he (.exm "BadDeed" "BadWorld" false)) rfl)) (.cons (He.exm_ok (c.fact 324 (f := .he (.exm "BadRun" "BadWorld" false)) rfl)) (.cons (He.exm_ok (c.fact 325 (f := .he (.exm "BadTable" "BadWorld" false)) rfl)) (.cons (He.exm_ok (c.fact 326 (f := .he (.exm "BadTerm" "BadWorld" false)) rfl)) (.cons (He.exm_ok (c.fact 327 (f := .he (.exm "BadText" "BadWorld" false)) rfl)) (.cons (He.exm_ok (c.fact 328 (f := .he (.exm "BadUnit" "BadWorld" false)) rfl)) (.cons (He.exm_ok (c.fact 329 (f := .he (.exm "TooMany" "BadWorld" false)) rfl)) (.cons (He.exm_ok (c.fact 330 (f := .he (.exm "BadWish" "BadWorld" false)) rfl)) (.cons (He.exm_ok (c.fact 331 (f := .he (.exm "CountError" "BadWorld" false)) rfl)) .nil)))))))))))))))
theorem cd_BadUnit (c : Says K) {X : Cx} (hK : X.K = K) : ∀ cc b, cond_BadUnit cc = some b → PySem.W.exmOne X.K (.ref ((T K).cad cc)) (.ref (He.ga K "BadUnit")) = some b := by
  subst hK
  exact lk_all (Q := fun cc b => PySem.W.exmOne X.K (.ref ((T X.K).cad cc)) (.ref (He.ga X.K "BadUnit")) = some b) (.cons (He.exm_ok (c.fact 332 (f := .he (.exm "BadInstance" "BadUnit" false)) rfl)) (.cons (He.exm_ok (c.fact 333 (f := .he (.exm "Unlike" "BadUnit" false)) rfl)) (.cons (He.exm_ok (c.fact 334 (f := .he (.exm "BadFactor" "BadUnit" false)) rfl)) (.cons (He.exm_ok (c.fact 335 (f := .he (.exm "NoInstance" "BadUnit" false)) rfl)) (.cons (He.exm_ok (c.fact 336 (f := .he (.exm "BadWorld" "BadUnit" false)) rfl)) (.cons (He.exm_ok (c.fact 337 (f := .he (.exm "NotAllowed" "BadUnit" false)) rfl)) (.cons (He.exm_ok (c.fact 338 (f := .he (.exm "BadDeed" "BadUnit" false)) rfl)) (.cons (He.exm_ok (c.fact 339 (f := .he (.exm "BadRun" "BadUnit" false)) rfl)) (.cons (He.exm_ok (c.fact 340 (f := .he (.exm "BadTable" "BadUnit" false)) rfl)) (.cons (He.exm_ok (c.fact 341 (f := .he (.exm "BadTerm" "BadUnit" false)) rfl)) (.cons (He.exm_ok (c.fact 342 (f := .he (.exm "BadText" "BadUnit" false)) rfl)) (.cons (He.exm_ok (c.fact 343 (f := .he (.exm "BadUnit" "BadUnit" true)) rfl)) (.cons (He.exm_ok (c.fact 344 (f := .he (.exm "TooMany" "BadUnit" false)) rfl)) (.cons (He.exm_ok (c.fact 345 (f := .he (.exm "BadWish" "BadUnit" false)) rfl)) (.cons (He.exm_ok (c.fact 346 (f := .he (.exm "CountError" "BadUnit" false)) rfl)) .nil)))))))))))))))
theorem cd_TooMany (c : Says K) {X : Cx} (hK : X.K = K) : ∀ cc b, cond_TooMany cc = some b → PySem.W.exmOne X.K (.ref ((T K).cad cc)) (.ref (He.ga K "TooMany")) = some b := by
  subst hK
  exact lk_all (Q := fun cc b => PySem.W.exmOne X.K (.ref ((T X.K).cad cc)) (.ref (He.ga X.K "TooMany")) = some b) (.cons (He.exm_ok (c.fact 347 (f := .he (.exm "BadInstance" "TooMany" false)) rfl)) (.cons (He.exm_ok (c.fact 348 (f := .he (.exm "Unlike" "TooMany" false)) rfl)) (.cons (He.exm_ok (c.fact 349 (f := .he (.exm "BadFactor" "TooMany" false)) rfl)) (.cons (He.exm_ok (c.fact 350 (f := .he (.exm "NoInstance" "TooMany" false)) rfl)) (.cons (He.exm_ok (c.fact 351 (f := .he (.exm "BadWorld" "TooMany" false)) rfl)) (.cons (He.exm_ok (c.fact 352 (f := .he (.exm "NotAllowed" "TooMany" false)) rfl)) (.cons (He.exm_ok (c.fact 353 (f := .he (.exm "BadDeed" "TooMany" false)) rfl)) (.cons (He.exm_ok (c.fact 354 (f := .he (.exm "BadRun" "TooMany" false)) rfl)) (.cons (He.exm_ok (c.fact 355 (f := .he (.exm "BadTable" "TooMany" false)) rfl)) (.cons (He.exm_ok (c.fact 356 (f := .he (.exm "BadTerm" "TooMany" false)) rfl)) (.cons (He.exm_ok (c.fact 357 (f := .he (.exm "BadText" "TooMany" false)) rfl)) (.cons (He.exm_ok (c.fact 358 (f := .he (.exm "BadUnit" "TooMany" false)) rfl)) (.cons (He.exm_ok (c.fact 359 (f := .he (.exm "TooMany" "TooMany" true)) rfl)) (.cons (He.exm_ok (c.fact 360 (f := .he (.exm "BadWish" "TooMany" false)) rfl)) (.cons (He.exm_ok (c.fact 361 (f := .he (.exm "CountError" "TooMany" false)) rfl)) .nil)))))))))))))))
theorem cd_NotAllowed (c : Says K) {X : Cx} (hK : X.K = K) : ∀ cc b, cond_NotAllowed cc = some b → PySem.W.exmOne X.K (.ref ((T K).cad cc)) (.ref (He.ga K "NotAllowed")) = some b := by
  subst hK
  exact lk_all (Q := fun cc b => PySem.W.exmOne X.K (.ref ((T X.K).cad cc)) (.ref (He.ga X.K "NotAllowed")) = some b) (.cons (He.exm_ok (c.fact 362 (f := .he (.exm "BadInstance" "NotAllowed" false)) rfl)) (.cons (He.exm_ok (c.fact 363 (f := .he (.exm "Unlike" "NotAllowed" false)) rfl)) (.cons (He.exm_ok (c.fact 364 (f := .he (.exm "BadFactor" "NotAllowed" false)) rfl)) (.cons (He.exm_ok (c.fact 365 (f := .he (.exm "NoInstance" "NotAllowed" false)) rfl)) (.cons (He.exm_ok (c.fact 366 (f := .he (.exm "BadWorld" "NotAllowed" false)) rfl)) (.cons (He.exm_ok (c.fact 367 (f := .he (.exm "NotAllowed" "NotAllowed" true)) rfl)) (.cons (He.exm_ok (c.fact 368 (f := .he (.exm "BadDeed" "NotAllowed" false)) rfl)) (.cons (He.exm_ok (c.fact 369 (f := .he (.exm "BadRun" "NotAllowed" false)) rfl)) (.cons (He.exm_ok (c.fact 370 (f := .he (.exm "BadTable" "NotAllowed" false)) rfl)) (.cons (He.exm_ok (c.fact 371 (f := .he (.exm "BadTerm" "NotAllowed" false)) rfl)) (.cons (He.exm_ok (c.fact 372 (f := .he (.exm "BadText" "NotAllowed" false)) rfl)) (.cons (He.exm_ok (c.fact 373 (f := .he (.exm "BadUnit" "NotAllowed" false)) rfl)) (.cons (He.exm_ok (c.fact 374 (f := .he (.exm "TooMany" "NotAllowed" false)) rfl)) (.cons (He.exm_ok (c.fact 375 (f := .he (.exm "BadWish" "NotAllowed" false)) rfl)) (.cons (He.exm_ok (c.fact 376 (f := .he (.exm "CountError" "NotAllowed" false)) rfl)) .nil)))))))))))))))
theorem cd_BadDeed (c : Says K) {X : Cx} (hK : X.K = K) : ∀ cc b, cond_BadDeed cc = some b → PySem.W.exmOne X.K (.ref ((T K).cad cc)) (.ref (He.ga K "BadDeed")) = some b := by
  subst hK
  exact lk_all (Q := fun cc b => PySem.W.exmOne X.K (.ref ((T X.K).cad cc)) (.ref (He.ga X.K "BadDeed")) = some b) (.cons (He.exm_ok (c.fact 377 (f := .he (.exm "BadInstance" "BadDeed" false)) rfl)) (.cons (He.exm_ok (c.fact 378 (f := .he (.exm "Unlike" "BadDeed" false)) rfl)) (.cons (He.exm_ok (c.fact 379 (f := .he (.exm "BadFactor" "BadDeed" false)) rfl)) (.cons (He.exm_ok (c.fact 380 (f := .he (.exm "NoInstance" "BadDeed" false)) rfl)) (.cons (He.exm_ok (c.fact 381 (f := .he (.exm "BadWorld" "BadDeed" false)) rfl)) (.cons (He.exm_ok (c.fact 382 (f := .he (.exm "NotAllowed" "BadDeed" false)) rfl)) (.cons (He.exm_ok (c.fact 383 (f := .he (.exm "BadDeed" "BadDeed" true)) rfl)) (.cons (He.exm_ok (c.fact 384 (f := .he (.exm "BadRun" "BadDeed" false)) rfl)) (.cons (He.exm_ok (c.fact 385 (f := .he (.exm "BadTable" "BadDeed" false)) rfl)) (.cons (He.exm_ok (c.fact 386 (f := .he (.exm "BadTerm" "BadDeed" false)) rfl)) (.cons (He.exm_ok (c.fact 387 (f := .he (.exm "BadText" "BadDeed" false)) rfl)) (.cons (He.exm_ok (c.fact 388 (f := .he (.exm "BadUnit" "BadDeed" false)) rfl)) (.cons (He.exm_ok (c.fact 389 (f := .he (.exm "TooMany" "BadDeed" false)) rfl)) (.cons (He.exm_ok (c.fact 390 (f := .he (.exm "BadWish" "BadDeed" false)) rfl)) (.cons (He.exm_ok (c.fact 391 (f := .he (.exm "CountError" "BadDeed" false)) rfl)) .nil)))))))))))))))
theorem cd_BadRun (c : Says K) {X : Cx} (hK : X.K = K) : ∀ cc b, cond_BadRun cc = some b → PySem.W.exmOne X.K (.ref ((T K).cad cc)) (.ref (He.ga K "BadRun")) = some b := by
  subst hK
  exact lk_all (Q := fun cc b => PySem.W.exmOne X.K (.ref ((T X.K).cad cc)) (.ref (He.ga X.K "BadRun")) = some b) (.cons (He.exm_ok (c.fact 392 (f := .he (.exm "BadInstance" "BadRun" false)) rfl)) (.cons (He.exm_ok (c.fact 393 (f := .he (.exm "Unlike" "BadRun" false)) rfl)) (.cons (He.exm_ok (c.fact 394 (f := .he (.exm "BadFactor" "BadRun" false)) rfl)) (.cons (He.exm_ok (c.fact 395 (f := .he (.exm "NoInstance" "BadRun" false)) rfl)) (.cons (He.exm_ok (c.fact 396 (f := .he (.exm "BadWorld" "BadRun" false)) rfl)) (.cons (He.exm_ok (c.fact 397 (f := .he (.exm "NotAllowed" "BadRun" false)) rfl)) (.cons (He.exm_ok (c.fact 398 (f := .he (.exm "BadDeed" "BadRun" false)) rfl)) (.cons (He.exm_ok (c.fact 399 (f := .he (.exm "BadRun" "BadRun" true)) rfl)) (.cons (He.exm_ok (c.fact 400 (f := .he (.exm "BadTable" "BadRun" false)) rfl)) (.cons (He.exm_ok (c.fact 401 (f := .he (.exm "BadTerm" "BadRun" false)) rfl)) (.cons (He.exm_ok (c.fact 402 (f := .he (.exm "BadText" "BadRun" false)) rfl)) (.cons (He.exm_ok (c.fact 403 (f := .he (.exm "BadUnit" "BadRun" false)) rfl)) (.cons (He.exm_ok (c.fact 404 (f := .he (.exm "TooMany" "BadRun" false)) rfl)) (.cons (He.exm_ok (c.fact 405 (f := .he (.exm "BadWish" "BadRun" false)) rfl)) (.cons (He.exm_ok (c.fact 406 (f := .he (.exm "CountError" "BadRun" false)) rfl)) .nil)))))))))))))))
theorem cd_NoInstance (c : Says K) {X : Cx} (hK : X.K = K) : ∀ cc b, cond_NoInstance cc = some b → PySem.W.exmOne X.K (.ref ((T K).cad cc)) (.ref (He.ga K "NoInstance")) = some b := by
  subst hK
  exact lk_all (Q := fun cc b => PySem.W.exmOne X.K (.ref ((T X.K).cad cc)) (.ref (He.ga X.K "NoInstance")) = some b) (.cons (He.exm_ok (c.fact 407 (f := .he (.exm "BadInstance" "NoInstance" false)) rfl)) (.cons (He.exm_ok (c.fact 408 (f := .he (.exm "Unlike" "NoInstance" false)) rfl)) (.cons (He.exm_ok (c.fact 409 (f := .he (.exm "BadFactor" "NoInstance" false)) rfl)) (.cons (He.exm_ok (c.fact 410 (f := .he (.exm "NoInstance" "NoInstance" true)) rfl)) (.cons (He.exm_ok (c.fact 411 (f := .he (.exm "BadWorld" "NoInstance" false)) rfl)) (.cons (He.exm_ok (c.fact 412 (f := .he (.exm "NotAllowed" "NoInstance" false)) rfl)) (.cons (He.exm_ok (c.fact 413 (f := .he (.exm "BadDeed" "NoInstance" false)) rfl)) (.cons (He.exm_ok (c.fact 414 (f := .he (.exm "BadRun" "NoInstance" false)) rfl)) (.cons (He.exm_ok (c.fact 415 (f := .he (.exm "BadTable" "NoInstance" false)) rfl)) (.cons (He.exm_ok (c.fact 416 (f := .he (.exm "BadTerm" "NoInstance" false)) rfl)) (.cons (He.exm_ok (c.fact 417 (f := .he (.exm "BadText" "NoInstance" false)) rfl)) (.cons (He.exm_ok (c.fact 418 (f := .he (.exm "BadUnit" "NoInstance" false)) rfl)) (.cons (He.exm_ok (c.fact 419 (f := .he (.exm "TooMany" "NoInstance" false)) rfl)) (.cons (He.exm_ok (c.fact 420 (f := .he (.exm "BadWish" "NoInstance" false)) rfl)) (.cons (He.exm_ok (c.fact 421 (f := .he (.exm "CountError" "NoInstance" false)) rfl)) .nil)))))))))))))))
theorem cd_BadTable (c : Says K) {X : Cx} (hK : X.K = K) : ∀ cc b, cond_BadTable cc = some b → PySem.W.exmOne X.K (.ref ((T K).cad cc)) (.ref (He.ga K "BadTable")) = some b := by
  subst hK
  exact lk_all (Q := fun cc b => PySem.W.exmOne X.K (.ref ((T X.K).cad cc)) (.ref (He.ga X.K "BadTable")) = some b) (.cons (He.exm_ok (c.fact 422 (f := .he (.exm "BadInstance" "BadTable" false)) rfl)) (.cons (He.exm_ok (c.fact 423 (f := .he (.exm "Unlike" "BadTable" false)) rfl)) (.cons (He.exm_ok (c.fact 424 (f := .he (.exm "BadFactor" "BadTable" false)) rfl)) (.cons (He.exm_ok (c.fact 425 (f := .he (.exm "NoInstance" "BadTable" false)) rfl)) (.cons (He.exm_ok (c.fact 426 (f := .he (.exm "BadWorld" "BadTable" false)) rfl)) (.cons (He.exm_ok (c.fact 427 (f := .he (.exm "NotAllowed" "BadTable" false)) rfl)) (.cons (He.exm_ok (c.fact 428 (f := .he (.exm "BadDeed" "BadTable" false)) rfl)) (.cons (He.exm_ok (c.fact 429 (f := .he (.exm "BadRun" "BadTable" false)) rfl)) (.cons (He.exm_ok (c.fact 430 (f := .he (.exm "BadTable" "BadTable" true)) rfl)) (.cons (He.exm_ok (c.fact 431 (f := .he (.exm "BadTerm" "BadTable" false)) rfl)) (.cons (He.exm_ok (c.fact 432 (f := .he (.exm "BadText" "BadTable" false)) rfl)) (.cons (He.exm_ok (c.fact 433 (f := .he (.exm "BadUnit" "BadTable" false)) rfl)) (.cons (He.exm_ok (c.fact 434 (f := .he (.exm "TooMany" "BadTable" false)) rfl)) (.cons (He.exm_ok (c.fact 435 (f := .he (.exm "BadWish" "BadTable" false)) rfl)) (.cons (He.exm_ok (c.fact 436 (f := .he (.exm "CountError" "BadTable" false)) rfl)) .nil)))))))))))))))
theorem cd_BadText (c : Says K) {X : Cx} (hK : X.K = K) : ∀ cc b, cond_BadText cc = some b → PySem.W.exmOne X.K (.ref ((T K).cad cc)) (.ref (He.ga K "BadText")) = some b := by
  subst hK
  exact lk_all (Q := fun cc b => PySem.W.exmOne X.K (.ref ((T X.K).cad cc)) (.ref (He.ga X.K "BadText")) = some b) (.cons (He.exm_ok (c.fact 437 (f := .he (.exm "BadInstance" "BadText" false)) rfl)) (.cons (He.exm_ok (c.fact 438 (f := .he (.exm "Unlike" "BadText" false)) rfl)) (.cons (He.exm_ok (c.fact 439 (f := .he (.exm "BadFactor" "BadText" false)) rfl)) (.cons (He.exm_ok (c.fact 440 (f := .he (.exm "NoInstance" "BadText" false)) rfl)) (.cons (He.exm_ok (c.fact 441 (f := .he (.exm "BadWorld" "BadText" false)) rfl)) (.cons (He.exm_ok (c.fact 442 (f := .he (.exm "NotAllowed" "BadText" false)) rfl)) (.cons (He.exm_ok (c.fact 443 (f := .he (.exm "BadDeed" "BadText" false)) rfl)) (.cons (He.exm_ok (c.fact 444 (f := .he (.exm "BadRun" "BadText" false)) rfl)) (.cons (He.exm_ok (c.fact 445 (f := .he (.exm "BadTable" "BadText" false)) rfl)) (.cons (He.exm_ok (c.fact 446 (f := .he (.exm "BadTerm" "BadText" false)) rfl)) (.cons (He.exm_ok (c.fact 447 (f := .he (.exm "BadText" "BadText" true)) rfl)) (.cons (He.exm_ok (c.fact 448 (f := .he (.exm "BadUnit" "BadText" false)) rfl)) (.cons (He.exm_ok (c.fact 449 (f := .he (.exm "TooMany" "BadText" false)) rfl)) (.cons (He.exm_ok (c.fact 450 (f := .he (.exm "BadWish" "BadText" false)) rfl)) (.cons (He.exm_ok (c.fact 451 (f := .he (.exm "CountError" "BadText" false)) rfl)) .nil)))))))))))))))
theorem cd_BadInstance_BadWorld_BadUnit_TooMany (c : Says K) {X : Cx} (hK : X.K = K) : ∀ cc b, cond_BadInstance_BadWorld_BadUnit_TooMany cc = some b → PySem.W.exmAny X.K (.ref ((T K).cad cc)) [.ref (He.ga K "BadInstance"), .ref (He.ga K "BadWorld"), .ref (He.ga K "BadUnit"), .ref (He.ga K "TooMany")] = some b := by
  subst hK
  exact lk_all (Q := fun cc b => PySem.W.exmAny X.K (.ref ((T X.K).cad cc)) [.ref (He.ga X.K "BadInstance"), .ref (He.ga X.K "BadWorld"), .ref (He.ga X.K "BadUnit"), .ref (He.ga X.K "TooMany")] = some b) (.cons (any4 (He.exm_ok (c.fact 302 (f := .he (.exm "BadInstance" "BadInstance" true)) rfl)) (He.exm_ok (c.fact 317 (f := .he (.exm "BadInstance" "BadWorld" false)) rfl)) (He.exm_ok (c.fact 332 (f := .he (.exm "BadInstance" "BadUnit" false)) rfl)) (He.exm_ok (c.fact 347 (f := .he (.exm "BadInstance" "TooMany" false)) rfl))) (.cons (any4 (He.exm_ok (c.fact 303 (f := .he (.exm "Unlike" "BadInstance" false)) rfl)) (He.exm_ok (c.fact 318 (f := .he (.exm "Unlike" "BadWorld" false)) rfl)) (He.exm_ok (c.fact 333 (f := .he (.exm "Unlike" "BadUnit" false)) rfl)) (He.exm_ok (c.fact 348 (f := .he (.exm "Unlike" "TooMany" false)) rfl))) (.cons (any4 (He.exm_ok (c.fact 304 (f := .he (.exm "BadFactor" "BadInstance" false)) rfl)) (He.exm_ok (c.fact 319 (f := .he (.exm "BadFactor" "BadWorld" false)) rfl)) (He.exm_ok (c.fact 334 (f := .he (.exm "BadFactor" "BadUnit" false)) rfl)) (He.exm_ok (c.fact 349 (f := .he (.exm "BadFactor" "TooMany" false)) rfl))) (.cons (any4 (He.exm_ok (c.fact 305 (f := .he (.exm "NoInstance" "BadInstance" false)) rfl)) (He.exm_ok (c.fact 320 (f := .he (.exm "NoInstance" "BadWorld" false)) rfl)) (He.exm_ok (c.fact 335 (f := .he (.exm "NoInstance" "BadUnit" false)) rfl)) (He.exm_ok (c.fact 350 (f := .he (.exm "NoInstance" "TooMany" false)) rfl))) (.cons (any4 (He.exm_ok (c.fact 306 (f := .he (.exm "BadWorld" "BadInstance" false)) rfl)) (He.exm_ok (c.fact 321 (f := .he (.exm "BadWorld" "BadWorld" true)) rfl)) (He.exm_ok (c.fact 336 (f := .he (.exm "BadWorld" "BadUnit" false)) rfl)) (He.exm_ok (c.fact 351 (f := .he (.exm "BadWorld" "TooMany" false)) rfl))) (.cons (any4 (He.exm_ok (c.fact 307 (f := .he (.exm "NotAllowed" "BadInstance" false)) rfl)) (He.exm_ok (c.fact 322 (f := .he (.exm "NotAllowed" "BadWorld" false)) rfl)) (He.exm_ok (c.fact 337 (f := .he (.exm "NotAllowed" "BadUnit" false)) rfl)) (He.exm_ok (c.fact 352 (f := .he (.exm "NotAllowed" "TooMany" false)) rfl))) (.cons (any4 (He.exm_ok (c.fact 308 (f := .he (.exm "BadDeed" "BadInstance" false)) rfl)) (He.exm_ok (c.fact 323 (f := .he (.exm "BadDeed" "BadWorld" false)) rfl)) (He.exm_ok (c.fact 338 (f := .he (.exm "BadDeed" "BadUnit" false)) rfl)) (He.exm_ok (c.fact 353 (f := .he (.exm "BadDeed" "TooMany" false)) rfl))) (.cons (any4 (He.exm_ok (c.fact 309 (f := .he (.exm "BadRun" "BadInstance" false)) rfl)) (He.exm_ok (c.fact 324 (f := .he (.exm "BadRun" "BadWorld" false)) rfl)) (He.exm_ok (c.fact 339 (f := .he (.exm "BadRun" "BadUnit" false)) rfl)) (He.exm_ok (c.fact 354 (f := .he (.exm "BadRun" "TooMany" false)) rfl))) (.cons (any4 (He.exm_ok (c.fact 310 (f := .he (.exm "BadTable" "BadInstance" false)) rfl)) (He.exm_ok (c.fact 325 (f := .he (.exm "BadTable" "BadWorld" false)) rfl)) (He.exm_ok (c.fact 340 (f := .he (.exm "BadTable" "BadUnit" false)) rfl)) (He.exm_ok (c.fact 355 (f := .he (.exm "BadTable" "TooMany" false)) rfl))) (.cons (any4 (He.exm_ok (c.fact 311 (f := .he (.exm "BadTerm" "BadInstance" false)) rfl)) (He.exm_ok (c.fact 326 (f := .he (.exm "BadTerm" "BadWorld" false)) rfl)) (He.exm_ok (c.fact 341 (f := .he (.exm "BadTerm" "BadUnit" false)) rfl)) (He.exm_ok (c.fact 356 (f := .he (.exm "BadTerm" "TooMany" false)) rfl))) (.cons (any4 (He.exm_ok (c.fact 312 (f := .he (.exm "BadText" "BadInstance" false)) rfl)) (He.exm_ok (c.fact 327 (f := .he (.exm "BadText" "BadWorld" false)) rfl)) (He.exm_ok (c.fact 342 (f := .he (.exm "BadText" "BadUnit" false)) rfl)) (He.exm_ok (c.fact 357 (f := .he (.exm "BadText" "TooMany" false)) rfl))) (.cons (any4 (He.exm_ok (c.fact 313 (f := .he (.exm "BadUnit" "BadInstance" false)) rfl)) (He.exm_ok (c.fact 328 (f := .he (.exm "BadUnit" "BadWorld" false)) rfl)) (He.exm_ok (c.fact 343 (f := .he (.exm "BadUnit" "BadUnit" true)) rfl)) (He.exm_ok (c.fact 358 (f := .he (.exm "BadUnit" "TooMany" false)) rfl))) (.cons (any4 (He.exm_ok (c.fact 314 (f := .he (.exm "TooMany" "BadInstance" false)) rfl)) (He.exm_ok (c.fact 329 (f := .he (.exm "TooMany" "BadWorld" false)) rfl)) (He.exm_ok (c.fact 344 (f := .he (.exm "TooMany" "BadUnit" false)) rfl)) (He.exm_ok (c.fact 359 (f := .he (.exm "TooMany" "TooMany" true)) rfl))) (.cons (any4 (He.exm_ok (c.fact 315 (f := .he (.exm "BadWish" "BadInstance" false)) rfl)) (He.exm_ok (c.fact 330 (f := .he (.exm "BadWish" "BadWorld" false)) rfl)) (He.exm_ok (c.fact 345 (f := .he (.exm "BadWish" "BadUnit" false)) rfl)) (He.exm_ok (c.fact 360 (f := .he (.exm "BadWish" "TooMany" false)) rfl))) (.cons (any4 (He.exm_ok (c.fact 316 (f := .he (.exm "CountError" "BadInstance" false)) rfl)) (He.exm_ok (c.fact 331 (f := .he (.exm "CountError" "BadWorld" false)) rfl)) (He.exm_ok (c.fact 346 (f := .he (.exm "CountError" "BadUnit" false)) rfl)) (He.exm_ok (c.fact 361 (f := .he (.exm "CountError" "TooMany" false)) rfl))) .nil)))))))))))))))
theorem xf_ok_what (c : Says K) {X : Cx} (hK : X.K = K) : XfF X.K (T K) "what" xf_what := by
  subst hK
  exact ⟨lk_all (.cons ⟨rfl, (by show (fld 0).Nodup; decide +kernel), (own_xf (f := PySem.Str.ofString "what") (c.fact 32 (f := .own "BadInstance" (PySem.Str.ofString "/claim/cut.py") ["what"]) rfl) (by decide)).1, (own_xf (f := PySem.Str.ofString "what") (c.fact 32 (f := .own "BadInstance" (PySem.Str.ofString "/claim/cut.py") ["what"]) rfl) (by decide)).2⟩ (.cons ⟨rfl, (by show (fld 4).Nodup; decide +kernel), (own_xf (f := PySem.Str.ofString "what") (c.fact 36 (f := .own "BadWorld" (PySem.Str.ofString "/claim/cut.py") ["what"]) rfl) (by decide)).1, (own_xf (f := PySem.Str.ofString "what") (c.fact 36 (f := .own "BadWorld" (PySem.Str.ofString "/claim/cut.py") ["what"]) rfl) (by decide)).2⟩ (.cons ⟨rfl, (by show (fld 11).Nodup; decide +kernel), (own_xf (f := PySem.Str.ofString "what") (c.fact 43 (f := .own "BadUnit" (PySem.Str.ofString "/claim/cut.py") ["what"]) rfl) (by decide)).1, (own_xf (f := PySem.Str.ofString "what") (c.fact 43 (f := .own "BadUnit" (PySem.Str.ofString "/claim/cut.py") ["what"]) rfl) (by decide)).2⟩ (.cons ⟨rfl, (by show (fld 12).Nodup; decide +kernel), (own_xf (f := PySem.Str.ofString "what") (c.fact 44 (f := .own "TooMany" (PySem.Str.ofString "/claim/cut.py") ["what"]) rfl) (by decide)).1, (own_xf (f := PySem.Str.ofString "what") (c.fact 44 (f := .own "TooMany" (PySem.Str.ofString "/claim/cut.py") ["what"]) rfl) (by decide)).2⟩ .nil))))⟩
theorem xf_ok_lacking (c : Says K) {X : Cx} (hK : X.K = K) : XfF X.K (T K) "lacking" xf_lacking := by
  subst hK
  exact ⟨lk_all (.cons ⟨rfl, (by show (fld 5).Nodup; decide +kernel), (own_xf (f := PySem.Str.ofString "lacking") (c.fact 37 (f := .own "NotAllowed" (PySem.Str.ofString "/claim/cut.py") ["lacking"]) rfl) (by decide)).1, (own_xf (f := PySem.Str.ofString "lacking") (c.fact 37 (f := .own "NotAllowed" (PySem.Str.ofString "/claim/cut.py") ["lacking"]) rfl) (by decide)).2⟩ .nil)⟩
theorem xf_ok_why (c : Says K) {X : Cx} (hK : X.K = K) : XfF X.K (T K) "why" xf_why := by
  subst hK
  exact ⟨lk_all (.cons ⟨rfl, (by show (fld 6).Nodup; decide +kernel), (own_xf (f := PySem.Str.ofString "why") (c.fact 38 (f := .own "BadDeed" (PySem.Str.ofString "/claim/cut.py") ["why"]) rfl) (by decide)).1, (own_xf (f := PySem.Str.ofString "why") (c.fact 38 (f := .own "BadDeed" (PySem.Str.ofString "/claim/cut.py") ["why"]) rfl) (by decide)).2⟩ (.cons ⟨rfl, (by show (fld 7).Nodup; decide +kernel), (own_xf (f := PySem.Str.ofString "why") (c.fact 39 (f := .own "BadRun" (PySem.Str.ofString "/claim/cut.py") ["at", "why"]) rfl) (by decide)).1, (own_xf (f := PySem.Str.ofString "why") (c.fact 39 (f := .own "BadRun" (PySem.Str.ofString "/claim/cut.py") ["at", "why"]) rfl) (by decide)).2⟩ .nil))⟩
theorem xf_ok_at (c : Says K) {X : Cx} (hK : X.K = K) : XfF X.K (T K) "at" xf_at := by
  subst hK
  exact ⟨lk_all (.cons ⟨rfl, (by show (fld 3).Nodup; decide +kernel), (own_xf (f := PySem.Str.ofString "at") (c.fact 35 (f := .own "NoInstance" (PySem.Str.ofString "/claim/cut.py") ["at"]) rfl) (by decide)).1, (own_xf (f := PySem.Str.ofString "at") (c.fact 35 (f := .own "NoInstance" (PySem.Str.ofString "/claim/cut.py") ["at"]) rfl) (by decide)).2⟩ (.cons ⟨rfl, (by show (fld 7).Nodup; decide +kernel), (own_xf (f := PySem.Str.ofString "at") (c.fact 39 (f := .own "BadRun" (PySem.Str.ofString "/claim/cut.py") ["at", "why"]) rfl) (by decide)).1, (own_xf (f := PySem.Str.ofString "at") (c.fact 39 (f := .own "BadRun" (PySem.Str.ofString "/claim/cut.py") ["at", "why"]) rfl) (by decide)).2⟩ .nil))⟩
theorem xf_ok_line (c : Says K) {X : Cx} (hK : X.K = K) : XfF X.K (T K) "line" xf_line := by
  subst hK
  exact ⟨lk_all (.cons ⟨rfl, (by show (fld 8).Nodup; decide +kernel), (own_xf (f := PySem.Str.ofString "line") (c.fact 40 (f := .own "BadTable" (PySem.Str.ofString "/claim/cut.py") ["line"]) rfl) (by decide)).1, (own_xf (f := PySem.Str.ofString "line") (c.fact 40 (f := .own "BadTable" (PySem.Str.ofString "/claim/cut.py") ["line"]) rfl) (by decide)).2⟩ .nil)⟩
theorem xf_ok_position (c : Says K) {X : Cx} (hK : X.K = K) : XfF X.K (T K) "position" xf_position := by
  subst hK
  exact ⟨lk_all (.cons ⟨rfl, (by show (fld 10).Nodup; decide +kernel), (own_xf (f := PySem.Str.ofString "position") (c.fact 42 (f := .own "BadText" (PySem.Str.ofString "/claim/cut.py") ["position"]) rfl) (by decide)).1, (own_xf (f := PySem.Str.ofString "position") (c.fact 42 (f := .own "BadText" (PySem.Str.ofString "/claim/cut.py") ["position"]) rfl) (by decide)).2⟩ .nil)⟩
/-! ### each def does what its mirror says -/
theorem does__law_source (c : Says K) (Y : K.In base) (G : base.Ns mainGlobals mg) : Does P w K mg base (T K) 0 N__law_source "_law_source" (defScope s__law_source) (defBody s__law_source) m__law_source := by
  intro f cdv A outer s H E C
  exact (ss_cons (s_putV C 2 (s_if (st_cmp cmp_lt (sv_var 1) (sv_len (so_var 0) (fr_len c Y G))) (sv_idxV 0 (sv_var 1)) sv_int))
    (ss_cons (s_putV C 3 (s_if (st_cmp cmp_ge (sv_abs (sv_var 2) (fr_abs c Y G)) (sv_pow sv_int sv_int)) (sv_abs (sv_var 2) (fr_abs c Y G)) sv_int))
    (ss_one (s_ret (se_lst (sa_cons (sv_var 3) (sa_cons (sv_of (se_add (sv_of (se_add (sv_mod (sv_intf (sv_var 2) (fr_int c Y G)) sv_int) (sv_mul sv_int (sv_var 1)))) sv_int)) (sa_cons sv_int sa_nil))))))))
theorem ok__law_source (c : Says K) (Y : K.In base) (G : base.Ns mainGlobals mg) : ∃ fd : FuncData, FnP P w K mg base (T K) 1 (d__law_source.adr K) fd P__law_source f__law_source ∧ Bn K (T K) fd P__law_source 2 [] (gPos []) := by
  obtain ⟨fd, F⟩ := c.def_ 14 (d := d__law_source) rfl
  exact ⟨fd, ⟨fn_sim F sc__law_source (does__law_source c Y G), F.kp⟩, (bn_all (FunD.bindsN F fun _ _ _ _ _ _ us hl => match us, hl with | [_, _], _ => (by kernel_rfl)))⟩
theorem does__law_draw (c : Says K) (Y : K.In base) (G : base.Ns mainGlobals mg) : Does P w K mg base (T K) 0 N__law_draw "_law_draw" (defScope s__law_draw) (defBody s__law_draw) m__law_draw := by
  intro f cdv A outer s H E C
  exact (ss_cons (s_ifS (st_cmp cmp_gt (sv_idxV 0 sv_int) sv_int)
    (ss_cons (s_putV C 2 (sv_mod (sv_intf (sv_idxV 0 sv_int) (fr_int c Y G)) (sv_var 1)))
    (ss_cons (s_setS 0 (sv_div (sv_idxV 0 sv_int) (sv_var 1)) sv_int)
    (ss_one (s_ret (se_move 2)))))
    ss_nil)
    (ss_cons (s_setS 0 (sv_of (se_add (sv_idxV 0 sv_int) sv_int)) sv_int)
    (ss_cons (s_putV C 3 (sv_mod (sv_intf (sv_pow (sv_of (se_add (sv_idxV 0 sv_int) (sv_mul sv_int (sv_idxV 0 sv_int)))) sv_int) (fr_int c Y G)) sv_int))
    (ss_cons (s_putV C 3 (sv_mod (sv_intf (sv_pow (sv_of (se_add (sv_var 3) (sv_mul sv_int (sv_idxV 0 sv_int)))) sv_int) (fr_int c Y G)) sv_int))
    (ss_one (s_ret (se_of (sv_mod (sv_intf (sv_div (sv_var 3) sv_int) (fr_int c Y G)) (sv_var 1)))))))))
theorem ok__law_draw (c : Says K) (Y : K.In base) (G : base.Ns mainGlobals mg) : ∃ fd : FuncData, FnP P w K mg base (T K) 1 (d__law_draw.adr K) fd P__law_draw f__law_draw ∧ Bn K (T K) fd P__law_draw 2 [] (gPos []) := by
  obtain ⟨fd, F⟩ := c.def_ 15 (d := d__law_draw) rfl
  exact ⟨fd, ⟨fn_sim F sc__law_draw (does__law_draw c Y G), F.kp⟩, (bn_all (FunD.bindsN F fun _ _ _ _ _ _ us hl => match us, hl with | [_, _], _ => (by kernel_rfl)))⟩
theorem does__law_of (c : Says K) (Y : K.In base) (G : base.Ns mainGlobals mg) : Does P w K mg base (T K) 1 N__law_of "_law_of" (defScope s__law_of) (defBody s__law_of) m__law_of := by
  obtain ⟨fd__law_draw, F__law_draw, B__law_draw_0⟩ := ok__law_draw (P := P) (w := w) c Y G
  intro f cdv A outer s H E C
  exact (ss_one (s_ret (se_of (sv_idxV 1 (sv_of (se_call C F__law_draw (by decide) B__law_draw_0 (gl__law_draw c Y G) (sa_cons (sv_var 0) (sa_cons (sv_len (so_var 1) (fr_len c Y G)) sa_nil))))))))
theorem ok__law_of (c : Says K) (Y : K.In base) (G : base.Ns mainGlobals mg) : ∃ fd : FuncData, FnP P w K mg base (T K) 2 (d__law_of.adr K) fd P__law_of f__law_of ∧ Bn K (T K) fd P__law_of 2 [] (gPos []) := by
  obtain ⟨fd, F⟩ := c.def_ 16 (d := d__law_of) rfl
  exact ⟨fd, ⟨fn_sim F sc__law_of (does__law_of c Y G), F.kp⟩, (bn_all (FunD.bindsN F fun _ _ _ _ _ _ us hl => match us, hl with | [_, _], _ => (by kernel_rfl)))⟩
theorem does__law_raise_early (c : Says K) (Y : K.In base) (G : base.Ns mainGlobals mg) : Does P w K mg base (T K) 0 N__law_raise_early "_law_raise_early" (defScope s__law_raise_early) (defBody s__law_raise_early) m__law_raise_early := by
  intro f cdv A outer s H E C
  exact (ss_cons (s_ifS (st_cmp (cmp_eq C) (sv_var 0) (so_of sv_int))
    (ss_one (s_raise C (xc_BadInstance (P := P) c) rfl hok_BadInstance (fr_super c Y G) (gl_BadInstance c Y G) (sa_cons (sv_var 1) sa_nil)))
    ss_nil)
    (ss_cons (s_ifS (st_cmp (cmp_eq C) (sv_var 0) (so_of sv_int))
    (ss_one (s_raise0 C (xc_Unlike (P := P) c) rfl (fun _ => trivial) (fr_super c Y G) (gl_Unlike c Y G)))
    ss_nil)
    (ss_cons (s_ifS (st_cmp (cmp_eq C) (sv_var 0) (so_of sv_int))
    (ss_one (s_raise0 C (xc_BadFactor (P := P) c) rfl (fun _ => trivial) (fr_super c Y G) (gl_BadFactor c Y G)))
    ss_nil)
    (ss_cons (s_ifS (st_cmp (cmp_eq C) (sv_var 0) (so_of sv_int))
    (ss_one (s_raise C (xc_NoInstance (P := P) c) rfl hok_NoInstance (fr_super c Y G) (gl_NoInstance c Y G) (sa_cons (sv_var 2) sa_nil)))
    ss_nil)
    (ss_cons (s_ifS (st_cmp (cmp_eq C) (sv_var 0) (so_of sv_int))
    (ss_one (s_raise C (xc_BadWorld (P := P) c) rfl hok_BadWorld (fr_super c Y G) (gl_BadWorld c Y G) (sa_cons (sv_var 1) sa_nil)))
    ss_nil)
    (ss_cons (s_ifS (st_cmp (cmp_eq C) (sv_var 0) (so_of sv_int))
    (ss_one (s_raise C (xc_NotAllowed (P := P) c) rfl hok_NotAllowed (fr_super c Y G) (gl_NotAllowed c Y G) (sa_cons (sv_tup (sa_cons (sv_var 1) (sa_cons sv_str sa_nil))) sa_nil)))
    ss_nil)
    (ss_cons (s_ifS (st_cmp (cmp_eq C) (sv_var 0) (so_of sv_int))
    (ss_one (s_raise C (xc_BadDeed (P := P) c) rfl hok_BadDeed (fr_super c Y G) (gl_BadDeed c Y G) (sa_cons (sv_var 1) sa_nil)))
    ss_nil)
    (ss_one (s_raise C (xc_BadRun (P := P) c) rfl hok_BadRun (fr_super c Y G) (gl_BadRun c Y G) (sa_cons (sv_var 2) (sa_cons (sv_var 1) sa_nil)))))))))))
theorem ok__law_raise_early (c : Says K) (Y : K.In base) (G : base.Ns mainGlobals mg) : ∃ fd : FuncData, FnP P w K mg base (T K) 1 (d__law_raise_early.adr K) fd P__law_raise_early f__law_raise_early ∧ Bn K (T K) fd P__law_raise_early 3 [] (gPos []) := by
  obtain ⟨fd, F⟩ := c.def_ 17 (d := d__law_raise_early) rfl
  exact ⟨fd, ⟨fn_sim F sc__law_raise_early (does__law_raise_early c Y G), F.kp⟩, (bn_all (FunD.bindsN F fun _ _ _ _ _ _ us hl => match us, hl with | [_, _, _], _ => (by kernel_rfl)))⟩
theorem does__law_raise (c : Says K) (Y : K.In base) (G : base.Ns mainGlobals mg) : Does P w K mg base (T K) 1 N__law_raise "_law_raise" (defScope s__law_raise) (defBody s__law_raise) m__law_raise := by
  obtain ⟨fd__law_raise_early, F__law_raise_early, B__law_raise_early_0⟩ := ok__law_raise_early (P := P) (w := w) c Y G
  intro f cdv A outer s H E C
  exact (ss_cons (s_ifS (st_cmp cmp_lt (sv_var 0) sv_int)
    (ss_one (s_expr (se_call C F__law_raise_early (by decide) B__law_raise_early_0 (gl__law_raise_early c Y G) (sa_cons (sv_var 0) (sa_cons (sv_var 1) (sa_cons (sv_var 2) sa_nil))))))
    ss_nil)
    (ss_cons (s_ifS (st_cmp (cmp_eq C) (sv_var 0) (so_of sv_int))
    (ss_one (s_raise C (xc_BadTable (P := P) c) rfl hok_BadTable (fr_super c Y G) (gl_BadTable c Y G) (sa_cons (sv_var 2) sa_nil)))
    ss_nil)
    (ss_cons (s_ifS (st_cmp (cmp_eq C) (sv_var 0) (so_of sv_int))
    (ss_one (s_raise0 C (xc_BadTerm (P := P) c) rfl (fun _ => trivial) (fr_super c Y G) (gl_BadTerm c Y G)))
    ss_nil)
    (ss_cons (s_ifS (st_cmp (cmp_eq C) (sv_var 0) (so_of sv_int))
    (ss_one (s_raise C (xc_BadText (P := P) c) rfl hok_BadText (fr_super c Y G) (gl_BadText c Y G) (sa_cons (sv_var 2) sa_nil)))
    ss_nil)
    (ss_cons (s_ifS (st_cmp (cmp_eq C) (sv_var 0) (so_of sv_int))
    (ss_one (s_raise C (xc_BadUnit (P := P) c) rfl hok_BadUnit (fr_super c Y G) (gl_BadUnit c Y G) (sa_cons (sv_var 1) sa_nil)))
    ss_nil)
    (ss_cons (s_ifS (st_cmp (cmp_eq C) (sv_var 0) (so_of sv_int))
    (ss_one (s_raise C (xc_TooMany (P := P) c) rfl hok_TooMany (fr_super c Y G) (gl_TooMany c Y G) (sa_cons (sv_var 1) sa_nil)))
    ss_nil)
    (ss_cons (s_ifS (st_cmp (cmp_eq C) (sv_var 0) (so_of sv_int))
    (ss_one (s_raise0 C (xc_BadWish (P := P) c) rfl (fun _ => trivial) (fr_super c Y G) (gl_BadWish c Y G)))
    ss_nil)
    (ss_one (s_raiseB C (xb_CountError c rfl) (gl_CountError c Y G) sv_str)))))))))
theorem ok__law_raise (c : Says K) (Y : K.In base) (G : base.Ns mainGlobals mg) : ∃ fd : FuncData, FnP P w K mg base (T K) 2 (d__law_raise.adr K) fd P__law_raise f__law_raise ∧ Bn K (T K) fd P__law_raise 3 [] (gPos []) := by
  obtain ⟨fd, F⟩ := c.def_ 18 (d := d__law_raise) rfl
  exact ⟨fd, ⟨fn_sim F sc__law_raise (does__law_raise c Y G), F.kp⟩, (bn_all (FunD.bindsN F fun _ _ _ _ _ _ us hl => match us, hl with | [_, _, _], _ => (by kernel_rfl)))⟩
theorem does__law_kinds (c : Says K) (Y : K.In base) (G : base.Ns mainGlobals mg) : Does P w K mg base (T K) 2 N__law_kinds "_law_kinds" (defScope s__law_kinds) (defBody s__law_kinds) m__law_kinds := by
  obtain ⟨fd__law_raise, F__law_raise, B__law_raise_0⟩ := ok__law_raise (P := P) (w := w) c Y G
  intro f cdv A outer s H E C
  exact (ss_cons (s_tryA C 3 rfl rfl rfl rfl ⟨rfl, by decide, Or.inl (gl_CountError c Y G)⟩ (cd_CountError c rfl) (fun W' pn xe C' => (ss_one (s_expr (se_call C' F__law_raise (by decide) B__law_raise_0 (gl__law_raise c Y G) (sa_cons (sv_var 0) (sa_cons (sv_var 1) (sa_cons (sv_var 2) sa_nil)))))))
    (fun a oe cls dd pn y S_ => (qss_cons (qs_put S_.mon C.nd 4 S_.st (qe_lst (qa_cons S_.mon (qv_isX S_ (err_ok c) (q_of (sv_cls (c := 0) (gl_BadInstance c Y G))) (fr_isinstance c Y G)) (qa_cons S_.mon (qv_isX S_ (err_ok c) (q_of (sv_cls (c := 1) (gl_Unlike c Y G))) (fr_isinstance c Y G)) (qa_cons S_.mon (qv_isX S_ (err_ok c) (q_of (sv_cls (c := 2) (gl_BadFactor c Y G))) (fr_isinstance c Y G)) (qa_cons S_.mon (qv_isX S_ (err_ok c) (q_of (sv_cls (c := 3) (gl_NoInstance c Y G))) (fr_isinstance c Y G)) qa_nil)))))) (qss_cons (qs_put S_.mon C.nd 4 S_.st (qe_add S_.mon (q_of (sv_var 4)) (qv_fz (qe_lst (qa_cons S_.mon (qv_isX S_ (err_ok c) (q_of (sv_cls (c := 4) (gl_BadWorld c Y G))) (fr_isinstance c Y G)) (qa_cons S_.mon (qv_isX S_ (err_ok c) (q_of (sv_cls (c := 5) (gl_NotAllowed c Y G))) (fr_isinstance c Y G)) (qa_cons S_.mon (qv_isX S_ (err_ok c) (q_of (sv_cls (c := 6) (gl_BadDeed c Y G))) (fr_isinstance c Y G)) qa_nil))))))) (qss_cons (qs_put S_.mon C.nd 4 S_.st (qe_add S_.mon (q_of (sv_var 4)) (qv_fz (qe_lst (qa_cons S_.mon (qv_isX S_ (err_ok c) (q_of (sv_cls (c := 7) (gl_BadRun c Y G))) (fr_isinstance c Y G)) (qa_cons S_.mon (qv_isX S_ (err_ok c) (q_of (sv_cls (c := 8) (gl_BadTable c Y G))) (fr_isinstance c Y G)) (qa_cons S_.mon (qv_isX S_ (err_ok c) (q_of (sv_cls (c := 9) (gl_BadTerm c Y G))) (fr_isinstance c Y G)) (qa_cons S_.mon (qv_isX S_ (err_ok c) (q_of (sv_cls (c := 10) (gl_BadText c Y G))) (fr_isinstance c Y G)) qa_nil)))))))) (qss_cons (qs_put S_.mon C.nd 4 S_.st (qe_add S_.mon (q_of (sv_var 4)) (qv_fz (qe_lst (qa_cons S_.mon (qv_isX S_ (err_ok c) (q_of (sv_cls (c := 11) (gl_BadUnit c Y G))) (fr_isinstance c Y G)) (qa_cons S_.mon (qv_isX S_ (err_ok c) (q_of (sv_cls (c := 12) (gl_TooMany c Y G))) (fr_isinstance c Y G)) (qa_cons S_.mon (qv_isX S_ (err_ok c) (q_of (sv_cls (c := 13) (gl_BadWish c Y G))) (fr_isinstance c Y G)) qa_nil))))))) (qss_one (qs_ret (qe_add S_.mon (q_of (sv_var 4)) (qv_fz (qe_lst (qa_cons S_.mon (qv_isX S_ (err_ok c) (q_of (sv_ty (t := "ValueError") (fr_ValueError c Y G))) (fr_isinstance c Y G)) qa_nil))))))))))))
    (ss_one (s_ret (se_lst sa_nil))))
theorem ok__law_kinds (c : Says K) (Y : K.In base) (G : base.Ns mainGlobals mg) : ∃ fd : FuncData, FnP P w K mg base (T K) 3 (d__law_kinds.adr K) fd P__law_kinds f__law_kinds ∧ Bn K (T K) fd P__law_kinds 3 [] (gPos []) := by
  obtain ⟨fd, F⟩ := c.def_ 19 (d := d__law_kinds) rfl
  exact ⟨fd, ⟨fn_sim F sc__law_kinds (does__law_kinds c Y G), F.kp⟩, (bn_all (FunD.bindsN F fun _ _ _ _ _ _ us hl => match us, hl with | [_, _, _], _ => (by kernel_rfl)))⟩
theorem does__law_words_borne (c : Says K) (Y : K.In base) (G : base.Ns mainGlobals mg) : Does P w K mg base (T K) 2 N__law_words_borne "_law_words_borne" (defScope s__law_words_borne) (defBody s__law_words_borne) m__law_words_borne := by
  obtain ⟨fd__law_raise, F__law_raise, B__law_raise_0⟩ := ok__law_raise (P := P) (w := w) c Y G
  intro f cdv A outer s H E C
  exact (ss_cons (s_tryT C rfl rfl (fun W' pn xe C' => (ss_one (s_expr (se_call C' F__law_raise (by decide) B__law_raise_0 (gl__law_raise c Y G) (sa_cons (sv_var 0) (sa_cons (sv_var 1) (sa_cons (sv_var 2) sa_nil)))))))
    (.named (i := 3) rfl rfl (test_four ⟨rfl, by decide, Or.inl (gl_BadInstance c Y G)⟩ ⟨rfl, by decide, Or.inl (gl_BadWorld c Y G)⟩ ⟨rfl, by decide, Or.inl (gl_BadUnit c Y G)⟩ ⟨rfl, by decide, Or.inl (gl_TooMany c Y G)⟩) (cd_BadInstance_BadWorld_BadUnit_TooMany c rfl) (fun a oe cls dd pn y S_ => (qss_one (qs_ret (qe_lst (qa_cons S_.mon (qv_xf S_ (xf_ok_what c rfl)) qa_nil)))))
    (.named (i := 3) rfl rfl (test_one ⟨rfl, by decide, Or.inl (gl_NotAllowed c Y G)⟩) (cd_NotAllowed c rfl) (fun a oe cls dd pn y S_ => (qss_one (qs_ret (qe_lst (qa_cons S_.mon (qv_xf S_ (xf_ok_lacking c rfl)) qa_nil)))))
    (.named (i := 3) rfl rfl (test_one ⟨rfl, by decide, Or.inl (gl_BadDeed c Y G)⟩) (cd_BadDeed c rfl) (fun a oe cls dd pn y S_ => (qss_one (qs_ret (qe_lst (qa_cons S_.mon (qv_xf S_ (xf_ok_why c rfl)) qa_nil)))))
    (.named (i := 3) rfl rfl (test_one ⟨rfl, by decide, Or.inl (gl_BadRun c Y G)⟩) (cd_BadRun c rfl) (fun a oe cls dd pn y S_ => (qss_one (qs_ret (qe_lst (qa_cons S_.mon (qv_xf S_ (xf_ok_at c rfl)) (qa_cons S_.mon (qv_xf S_ (xf_ok_why c rfl)) qa_nil))))))
    (.only (test_one ⟨rfl, by decide, Or.inl (gl_CountError c Y G)⟩) (cd_CountError c rfl) (fun a oe pn y => (qss_one (qs_ret (q_of (se_lst sa_nil)))))
    .nil))))))
    (ss_one (s_ret (se_of sv_non))))
theorem ok__law_words_borne (c : Says K) (Y : K.In base) (G : base.Ns mainGlobals mg) : ∃ fd : FuncData, FnP P w K mg base (T K) 3 (d__law_words_borne.adr K) fd P__law_words_borne f__law_words_borne ∧ Bn K (T K) fd P__law_words_borne 3 [] (gPos []) := by
  obtain ⟨fd, F⟩ := c.def_ 20 (d := d__law_words_borne) rfl
  exact ⟨fd, ⟨fn_sim F sc__law_words_borne (does__law_words_borne c Y G), F.kp⟩, (bn_all (FunD.bindsN F fun _ _ _ _ _ _ us hl => match us, hl with | [_, _, _], _ => (by kernel_rfl)))⟩
theorem does__law_numbers_borne (c : Says K) (Y : K.In base) (G : base.Ns mainGlobals mg) : Does P w K mg base (T K) 2 N__law_numbers_borne "_law_numbers_borne" (defScope s__law_numbers_borne) (defBody s__law_numbers_borne) m__law_numbers_borne := by
  obtain ⟨fd__law_raise, F__law_raise, B__law_raise_0⟩ := ok__law_raise (P := P) (w := w) c Y G
  intro f cdv A outer s H E C
  exact (ss_cons (s_tryN C rfl rfl (fun W' pn xe C' => (ss_one (s_expr (se_call C' F__law_raise (by decide) B__law_raise_0 (gl__law_raise c Y G) (sa_cons (sv_var 0) (sa_cons (sv_var 1) (sa_cons (sv_var 2) sa_nil)))))))
    (.named (i := 3) rfl rfl ⟨rfl, by decide, Or.inl (gl_NoInstance c Y G)⟩ (cd_NoInstance c rfl) (fun a oe cls dd pn y S_ => (qss_one (qs_ret (qe_lst (qa_cons S_.mon (qv_xf S_ (xf_ok_at c rfl)) qa_nil)))))
    (.named (i := 3) rfl rfl ⟨rfl, by decide, Or.inl (gl_BadTable c Y G)⟩ (cd_BadTable c rfl) (fun a oe cls dd pn y S_ => (qss_one (qs_ret (qe_lst (qa_cons S_.mon (qv_xf S_ (xf_ok_line c rfl)) qa_nil)))))
    (.named (i := 3) rfl rfl ⟨rfl, by decide, Or.inl (gl_BadText c Y G)⟩ (cd_BadText c rfl) (fun a oe cls dd pn y S_ => (qss_one (qs_ret (qe_lst (qa_cons S_.mon (qv_xf S_ (xf_ok_position c rfl)) qa_nil)))))
    (.only ⟨rfl, by decide, Or.inl (gl_CountError c Y G)⟩ (cd_CountError c rfl) (fun a oe pn y => (qss_one (qs_ret (q_of (se_lst sa_nil)))))
    .nil)))))
    (ss_one (s_ret (se_of sv_non))))
theorem ok__law_numbers_borne (c : Says K) (Y : K.In base) (G : base.Ns mainGlobals mg) : ∃ fd : FuncData, FnP P w K mg base (T K) 3 (d__law_numbers_borne.adr K) fd P__law_numbers_borne f__law_numbers_borne ∧ Bn K (T K) fd P__law_numbers_borne 3 [] (gPos []) := by
  obtain ⟨fd, F⟩ := c.def_ 21 (d := d__law_numbers_borne) rfl
  exact ⟨fd, ⟨fn_sim F sc__law_numbers_borne (does__law_numbers_borne c Y G), F.kp⟩, (bn_all (FunD.bindsN F fun _ _ _ _ _ _ us hl => match us, hl with | [_, _, _], _ => (by kernel_rfl)))⟩
theorem does_law (c : Says K) (Y : K.In base) (G : base.Ns mainGlobals mg) : Does P w K mg base (T K) 3 N_law "law" (defScope s_law) (defBody s_law) m_law := by
  obtain ⟨fd__law_draw, F__law_draw, B__law_draw_0⟩ := ok__law_draw (P := P) (w := w) c Y G
  obtain ⟨fd__law_kinds, F__law_kinds, B__law_kinds_0⟩ := ok__law_kinds (P := P) (w := w) c Y G
  obtain ⟨fd__law_numbers_borne, F__law_numbers_borne, B__law_numbers_borne_0⟩ := ok__law_numbers_borne (P := P) (w := w) c Y G
  obtain ⟨fd__law_of, F__law_of, B__law_of_0⟩ := ok__law_of (P := P) (w := w) c Y G
  obtain ⟨fd__law_source, F__law_source, B__law_source_0⟩ := ok__law_source (P := P) (w := w) c Y G
  obtain ⟨fd__law_words_borne, F__law_words_borne, B__law_words_borne_0⟩ := ok__law_words_borne (P := P) (w := w) c Y G
  intro f cdv A outer s H E C
  exact (ss_cons (s_for C (si_rng1 (sv_max2 C sv_int (sv_min2 C sv_int (sv_len (so_var 0) (fr_len c Y G)) (fr_min c Y G)) (fr_max c Y G)) (fr_range c Y G)) (sg_name C 1)
    (ss_cons (s_putV C 2 (sv_cell (se_call C F__law_source (by decide) B__law_source_0 (gl__law_source c Y G) (sa_cons (sv_var 0) (sa_cons (sv_var 1) sa_nil)))))
    (ss_one (s_for C (si_rng1 sv_int (fr_range c Y G)) (sg_name C 3)
    (ss_cons (s_put C 4 (se_call C F__law_of (by decide) B__law_of_0 (gl__law_of c Y G) (sa_cons (sv_var 2) (sa_cons (sv_of (se_lst (sa_cons sv_str (sa_cons sv_str (sa_cons sv_str (sa_cons sv_str (sa_cons sv_str (sa_cons sv_str (sa_cons sv_str sa_nil))))))))) sa_nil))))
    (ss_cons (s_putV C 5 (sv_mul (sv_of (se_add (sv_of (se_call C F__law_draw (by decide) B__law_draw_0 (gl__law_draw c Y G) (sa_cons (sv_var 2) (sa_cons (sv_pow sv_int sv_int) sa_nil)))) sv_int)) (sv_of (se_call C F__law_of (by decide) B__law_of_0 (gl__law_of c Y G) (sa_cons (sv_var 2) (sa_cons (sv_of (se_lst (sa_cons sv_int (sa_cons (sv_neg sv_int) sa_nil)))) sa_nil))))))
    (ss_cons (s_ifS (st_cmp (cmp_ne C) (sv_of (se_call C F__law_kinds (by decide) B__law_kinds_0 (gl__law_kinds c Y G) (sa_cons (sv_var 3) (sa_cons (sv_var 4) (sa_cons (sv_var 5) sa_nil))))) (so_ofE (se_add (sv_of (se_lc C [("_law_k", 7)] (si_rng1 sv_int (fr_range c Y G)) (by decide) (fun _ _ _ _ _ => (sg_name (Cq.blk C) 7)) (fun _ _ _ _ _ => sts_nil) (fun _ _ _ _ _ => (sv_cmp (cmp_eq (Cq.blk C)) (sv_var 7) (so_var 3))) (blkOk_by rfl))) (sv_of (se_lst (sa_cons sv_bl sa_nil))))))
    (ss_one (s_ret (se_of sv_bl)))
    ss_nil)
    (ss_cons (s_put C 6 (s_if (st_cmp (cmp_in) (sv_var 3) (so_of (sv_tup (sa_cons sv_int (sa_cons sv_int (sa_cons sv_int (sa_cons sv_int (sa_cons sv_int sa_nil)))))))) (se_lst (sa_cons (sv_var 4) sa_nil)) (se_lst sa_nil)))
    (ss_cons (s_ifS (st_cmp (cmp_eq C) (sv_var 3) (so_of sv_int))
    (ss_one (s_put C 6 (se_lst (sa_cons (sv_tup (sa_cons (sv_var 4) (sa_cons sv_str sa_nil))) sa_nil))))
    ss_nil)
    (ss_cons (s_ifS (st_cmp (cmp_eq C) (sv_var 3) (so_of sv_int))
    (ss_one (s_put C 6 (se_lst (sa_cons (sv_var 5) (sa_cons (sv_var 4) sa_nil)))))
    ss_nil)
    (ss_cons (s_ifS (st_cmp (cmp_ne C) (sv_of (se_call C F__law_words_borne (by decide) B__law_words_borne_0 (gl__law_words_borne c Y G) (sa_cons (sv_var 3) (sa_cons (sv_var 4) (sa_cons (sv_var 5) sa_nil))))) (so_var 6))
    (ss_one (s_ret (se_of sv_bl)))
    ss_nil)
    (ss_one (s_ifS (st_cmp (cmp_ne C) (sv_of (se_call C F__law_numbers_borne (by decide) B__law_numbers_borne_0 (gl__law_numbers_borne c Y G) (sa_cons (sv_var 3) (sa_cons (sv_var 4) (sa_cons (sv_var 5) sa_nil))))) (so_ofE (s_if (st_cmp (cmp_in) (sv_var 3) (so_of (sv_tup (sa_cons sv_int (sa_cons sv_int (sa_cons sv_int sa_nil)))))) (se_lst (sa_cons (sv_var 5) sa_nil)) (se_lst sa_nil))))
    (ss_one (s_ret (se_of sv_bl)))
    ss_nil)))))))))))))
    (ss_one (s_ret (se_of sv_bl))))
theorem ok_law (c : Says K) (Y : K.In base) (G : base.Ns mainGlobals mg) : ∃ fd : FuncData, FnP P w K mg base (T K) 4 (d_law.adr K) fd P_law f_law ∧ Bn K (T K) fd P_law 1 [] (gPos []) := by
  obtain ⟨fd, F⟩ := c.def_ 22 (d := d_law) rfl
  exact ⟨fd, ⟨fn_sim F sc_law (does_law c Y G), F.kp⟩, (bn_all (FunD.bindsN F fun _ _ _ _ _ _ us hl => match us, hl with | [_], _ => (by kernel_rfl)))⟩
end
end L

namespace L
open PySem PySem.Spec L2 Pk
theorem w__law_source_k1 {fr : Fr} {h : Hh} {Q : Fl → Fr → Hh → Prop} {E : Exn → Fr → Hh → Prop} : Wp (m__law_source_k1 fr h) Q E = Wp ((
    (mSeq (mPut 3 (mIf (mOp cGe (mUn bAbs (mVar 2)) (mOp bPow (mC (.int 10)) (mC (.int 18)))) (mUn bAbs (mVar 2)) (mC (.int 0))))
    (mRet (mLst [(mVar 3), (mFz (mOp bAdd (mFz (mOp bAdd (mOp bMod (mUn bInt1 (mVar 2)) (mC (.int 2147483629))) (mOp bMul (mC (.int 15485863)) (mVar 1)))) (mC (.int 7919)))), (mC (.int 0))])))) fr h) Q E := congrArg (fun m => Wp (m fr h) Q E) m__law_source_k1.eq_1
theorem w__law_source {fr : Fr} {h : Hh} {Q : Fl → Fr → Hh → Prop} {E : Exn → Fr → Hh → Prop} : Wp (m__law_source fr h) Q E = Wp ((
    (mSeq (mPut 2 (mIf (mOp cLt (mVar 1) (mUn bLen (mBor 0))) (mLate 0 (mVar 1) bIdx) (mC (.int 0))))
    m__law_source_k1)) fr h) Q E := congrArg (fun m => Wp (m fr h) Q E) m__law_source.eq_1
theorem w__law_draw_k3 {fr : Fr} {h : Hh} {Q : Fl → Fr → Hh → Prop} {E : Exn → Fr → Hh → Prop} : Wp (m__law_draw_k3 fr h) Q E = Wp ((
    (mSeq (mPut 3 (mOp bMod (mUn bInt1 (mOp bPow (mFz (mOp bAdd (mVar 3) (mOp bMul (mC (.int 49979687)) (mLate 0 (mC (.int 2)) bIdx)))) (mC (.int 2)))) (mC (.int 2305843009213693951))))
    (mRet (mOp bMod (mUn bInt1 (mOp bDiv (mVar 3) (mC (.int 4096)))) (mVar 1))))) fr h) Q E := congrArg (fun m => Wp (m fr h) Q E) m__law_draw_k3.eq_1
theorem w__law_draw_k2 {fr : Fr} {h : Hh} {Q : Fl → Fr → Hh → Prop} {E : Exn → Fr → Hh → Prop} : Wp (m__law_draw_k2 fr h) Q E = Wp ((
    (mSeq (mPut 3 (mOp bMod (mUn bInt1 (mOp bPow (mFz (mOp bAdd (mLate 0 (mC (.int 1)) bIdx) (mOp bMul (mC (.int 32452843)) (mLate 0 (mC (.int 2)) bIdx)))) (mC (.int 3)))) (mC (.int 2305843009213693921))))
    m__law_draw_k3)) fr h) Q E := congrArg (fun m => Wp (m fr h) Q E) m__law_draw_k2.eq_1
theorem w__law_draw_k1 {fr : Fr} {h : Hh} {Q : Fl → Fr → Hh → Prop} {E : Exn → Fr → Hh → Prop} : Wp (m__law_draw_k1 fr h) Q E = Wp ((
    (mSeq (mSetS 0 (mFz (mOp bAdd (mLate 0 (mC (.int 2)) bIdx) (mC (.int 1)))) (mC (.int 2)))
    m__law_draw_k2)) fr h) Q E := congrArg (fun m => Wp (m fr h) Q E) m__law_draw_k1.eq_1
theorem w__law_draw {fr : Fr} {h : Hh} {Q : Fl → Fr → Hh → Prop} {E : Exn → Fr → Hh → Prop} : Wp (m__law_draw fr h) Q E = Wp ((
    (mSeq (mIfS (mOp cGt (mLate 0 (mC (.int 0)) bIdx) (mC (.int 0)))
    (mSeq (mPut 2 (mOp bMod (mUn bInt1 (mLate 0 (mC (.int 0)) bIdx)) (mVar 1)))
    (mSeq (mSetS 0 (mOp bDiv (mLate 0 (mC (.int 0)) bIdx) (mVar 1)) (mC (.int 0)))
    (mRet (mMove 2))))
    (M.ret .nx))
    m__law_draw_k1)) fr h) Q E := congrArg (fun m => Wp (m fr h) Q E) m__law_draw.eq_1
theorem w__law_of {fr : Fr} {h : Hh} {Q : Fl → Fr → Hh → Prop} {E : Exn → Fr → Hh → Prop} : Wp (m__law_of fr h) Q E = Wp ((
    (mRet (mLate 1 (mFz (mCall 2 0 f__law_draw (gPos []) (mArgs [(mVar 0), (mUn bLen (mBor 1))]) (mArgs []))) bIdx))) fr h) Q E := congrArg (fun m => Wp (m fr h) Q E) m__law_of.eq_1
theorem w__law_raise_early_k6 {fr : Fr} {h : Hh} {Q : Fl → Fr → Hh → Prop} {E : Exn → Fr → Hh → Prop} : Wp (m__law_raise_early_k6 fr h) Q E = Wp ((
    (mSeq (mIfS (mOp cEq (mVar 0) (mC (.int 6)))
    (mRaise 6 1 chk_BadDeed (mArgs [(mVar 1)]))
    (M.ret .nx))
    (mRaise 7 2 chk_BadRun (mArgs [(mVar 2), (mVar 1)])))) fr h) Q E := congrArg (fun m => Wp (m fr h) Q E) m__law_raise_early_k6.eq_1
theorem w__law_raise_early_k5 {fr : Fr} {h : Hh} {Q : Fl → Fr → Hh → Prop} {E : Exn → Fr → Hh → Prop} : Wp (m__law_raise_early_k5 fr h) Q E = Wp ((
    (mSeq (mIfS (mOp cEq (mVar 0) (mC (.int 5)))
    (mRaise 5 1 chk_NotAllowed (mArgs [(mTup [(mVar 1), (mC (.str "past"))])]))
    (M.ret .nx))
    m__law_raise_early_k6)) fr h) Q E := congrArg (fun m => Wp (m fr h) Q E) m__law_raise_early_k5.eq_1
theorem w__law_raise_early_k4 {fr : Fr} {h : Hh} {Q : Fl → Fr → Hh → Prop} {E : Exn → Fr → Hh → Prop} : Wp (m__law_raise_early_k4 fr h) Q E = Wp ((
    (mSeq (mIfS (mOp cEq (mVar 0) (mC (.int 4)))
    (mRaise 4 1 chk_BadWorld (mArgs [(mVar 1)]))
    (M.ret .nx))
    m__law_raise_early_k5)) fr h) Q E := congrArg (fun m => Wp (m fr h) Q E) m__law_raise_early_k4.eq_1
theorem w__law_raise_early_k3 {fr : Fr} {h : Hh} {Q : Fl → Fr → Hh → Prop} {E : Exn → Fr → Hh → Prop} : Wp (m__law_raise_early_k3 fr h) Q E = Wp ((
    (mSeq (mIfS (mOp cEq (mVar 0) (mC (.int 3)))
    (mRaise 3 1 chk_NoInstance (mArgs [(mVar 2)]))
    (M.ret .nx))
    m__law_raise_early_k4)) fr h) Q E := congrArg (fun m => Wp (m fr h) Q E) m__law_raise_early_k3.eq_1
theorem w__law_raise_early_k2 {fr : Fr} {h : Hh} {Q : Fl → Fr → Hh → Prop} {E : Exn → Fr → Hh → Prop} : Wp (m__law_raise_early_k2 fr h) Q E = Wp ((
    (mSeq (mIfS (mOp cEq (mVar 0) (mC (.int 2)))
    (fun fr h => .exc ⟨2, []⟩ fr h)
    (M.ret .nx))
    m__law_raise_early_k3)) fr h) Q E := congrArg (fun m => Wp (m fr h) Q E) m__law_raise_early_k2.eq_1
theorem w__law_raise_early_k1 {fr : Fr} {h : Hh} {Q : Fl → Fr → Hh → Prop} {E : Exn → Fr → Hh → Prop} : Wp (m__law_raise_early_k1 fr h) Q E = Wp ((
    (mSeq (mIfS (mOp cEq (mVar 0) (mC (.int 1)))
    (fun fr h => .exc ⟨1, []⟩ fr h)
    (M.ret .nx))
    m__law_raise_early_k2)) fr h) Q E := congrArg (fun m => Wp (m fr h) Q E) m__law_raise_early_k1.eq_1
theorem w__law_raise_early {fr : Fr} {h : Hh} {Q : Fl → Fr → Hh → Prop} {E : Exn → Fr → Hh → Prop} : Wp (m__law_raise_early fr h) Q E = Wp ((
    (mSeq (mIfS (mOp cEq (mVar 0) (mC (.int 0)))
    (mRaise 0 1 chk_BadInstance (mArgs [(mVar 1)]))
    (M.ret .nx))
    m__law_raise_early_k1)) fr h) Q E := congrArg (fun m => Wp (m fr h) Q E) m__law_raise_early.eq_1
theorem w__law_raise_k6 {fr : Fr} {h : Hh} {Q : Fl → Fr → Hh → Prop} {E : Exn → Fr → Hh → Prop} : Wp (m__law_raise_k6 fr h) Q E = Wp ((
    (mSeq (mIfS (mOp cEq (mVar 0) (mC (.int 13)))
    (fun fr h => .exc ⟨13, []⟩ fr h)
    (M.ret .nx))
    (mRaiseB 14 (mC (.str "plain"))))) fr h) Q E := congrArg (fun m => Wp (m fr h) Q E) m__law_raise_k6.eq_1
theorem w__law_raise_k5 {fr : Fr} {h : Hh} {Q : Fl → Fr → Hh → Prop} {E : Exn → Fr → Hh → Prop} : Wp (m__law_raise_k5 fr h) Q E = Wp ((
    (mSeq (mIfS (mOp cEq (mVar 0) (mC (.int 12)))
    (mRaise 12 1 chk_TooMany (mArgs [(mVar 1)]))
    (M.ret .nx))
    m__law_raise_k6)) fr h) Q E := congrArg (fun m => Wp (m fr h) Q E) m__law_raise_k5.eq_1
theorem w__law_raise_k4 {fr : Fr} {h : Hh} {Q : Fl → Fr → Hh → Prop} {E : Exn → Fr → Hh → Prop} : Wp (m__law_raise_k4 fr h) Q E = Wp ((
    (mSeq (mIfS (mOp cEq (mVar 0) (mC (.int 11)))
    (mRaise 11 1 chk_BadUnit (mArgs [(mVar 1)]))
    (M.ret .nx))
    m__law_raise_k5)) fr h) Q E := congrArg (fun m => Wp (m fr h) Q E) m__law_raise_k4.eq_1
theorem w__law_raise_k3 {fr : Fr} {h : Hh} {Q : Fl → Fr → Hh → Prop} {E : Exn → Fr → Hh → Prop} : Wp (m__law_raise_k3 fr h) Q E = Wp ((
    (mSeq (mIfS (mOp cEq (mVar 0) (mC (.int 10)))
    (mRaise 10 1 chk_BadText (mArgs [(mVar 2)]))
    (M.ret .nx))
    m__law_raise_k4)) fr h) Q E := congrArg (fun m => Wp (m fr h) Q E) m__law_raise_k3.eq_1
theorem w__law_raise_k2 {fr : Fr} {h : Hh} {Q : Fl → Fr → Hh → Prop} {E : Exn → Fr → Hh → Prop} : Wp (m__law_raise_k2 fr h) Q E = Wp ((
    (mSeq (mIfS (mOp cEq (mVar 0) (mC (.int 9)))
    (fun fr h => .exc ⟨9, []⟩ fr h)
    (M.ret .nx))
    m__law_raise_k3)) fr h) Q E := congrArg (fun m => Wp (m fr h) Q E) m__law_raise_k2.eq_1
theorem w__law_raise_k1 {fr : Fr} {h : Hh} {Q : Fl → Fr → Hh → Prop} {E : Exn → Fr → Hh → Prop} : Wp (m__law_raise_k1 fr h) Q E = Wp ((
    (mSeq (mIfS (mOp cEq (mVar 0) (mC (.int 8)))
    (mRaise 8 1 chk_BadTable (mArgs [(mVar 2)]))
    (M.ret .nx))
    m__law_raise_k2)) fr h) Q E := congrArg (fun m => Wp (m fr h) Q E) m__law_raise_k1.eq_1
theorem w__law_raise {fr : Fr} {h : Hh} {Q : Fl → Fr → Hh → Prop} {E : Exn → Fr → Hh → Prop} : Wp (m__law_raise fr h) Q E = Wp ((
    (mSeq (mIfS (mOp cLt (mVar 0) (mC (.int 8)))
    (mDrop (mCall 3 0 f__law_raise_early (gPos []) (mArgs [(mVar 0), (mVar 1), (mVar 2)]) (mArgs [])))
    (M.ret .nx))
    m__law_raise_k1)) fr h) Q E := congrArg (fun m => Wp (m fr h) Q E) m__law_raise.eq_1
theorem w__law_kinds_y1 {fr : Fr} {h : Hh} {Q : Fl → Fr → Hh → Prop} {E : Exn → Fr → Hh → Prop} : Wp (m__law_kinds_y1 fr h) Q E = Wp ((
    (mDrop (mCall 3 0 f__law_raise (gPos []) (mArgs [(mVar 0), (mVar 1), (mVar 2)]) (mArgs [])))) fr h) Q E := congrArg (fun m => Wp (m fr h) Q E) m__law_kinds_y1.eq_1
theorem w__law_kinds {fr : Fr} {h : Hh} {Q : Fl → Fr → Hh → Prop} {E : Exn → Fr → Hh → Prop} : Wp (m__law_kinds fr h) Q E = Wp ((
    (mSeq (mTryA 3 cond_CountError m__law_kinds_y1 (fun y => (mSeq (mPut 4 (mLst [(mIsX errTab y.c (mC (.cls 0))), (mIsX errTab y.c (mC (.cls 1))), (mIsX errTab y.c (mC (.cls 2))), (mIsX errTab y.c (mC (.cls 3)))])) (mSeq (mPut 4 (mOp bAdd (mVar 4) (mFz (mLst [(mIsX errTab y.c (mC (.cls 4))), (mIsX errTab y.c (mC (.cls 5))), (mIsX errTab y.c (mC (.cls 6)))])))) (mSeq (mPut 4 (mOp bAdd (mVar 4) (mFz (mLst [(mIsX errTab y.c (mC (.cls 7))), (mIsX errTab y.c (mC (.cls 8))), (mIsX errTab y.c (mC (.cls 9))), (mIsX errTab y.c (mC (.cls 10)))])))) (mSeq (mPut 4 (mOp bAdd (mVar 4) (mFz (mLst [(mIsX errTab y.c (mC (.cls 11))), (mIsX errTab y.c (mC (.cls 12))), (mIsX errTab y.c (mC (.cls 13)))])))) (mRet (mOp bAdd (mVar 4) (mFz (mLst [(mIsX errTab y.c (mC (.ty "ValueError")))]))))))))))
    (mRet (mLst [])))) fr h) Q E := congrArg (fun m => Wp (m fr h) Q E) m__law_kinds.eq_1
theorem w__law_words_borne_y1 {fr : Fr} {h : Hh} {Q : Fl → Fr → Hh → Prop} {E : Exn → Fr → Hh → Prop} : Wp (m__law_words_borne_y1 fr h) Q E = Wp ((
    (mDrop (mCall 3 0 f__law_raise (gPos []) (mArgs [(mVar 0), (mVar 1), (mVar 2)]) (mArgs [])))) fr h) Q E := congrArg (fun m => Wp (m fr h) Q E) m__law_words_borne_y1.eq_1
theorem w__law_words_borne {fr : Fr} {h : Hh} {Q : Fl → Fr → Hh → Prop} {E : Exn → Fr → Hh → Prop} : Wp (m__law_words_borne fr h) Q E = Wp ((
    (mSeq (mTryN [(some 3, cond_BadInstance_BadWorld_BadUnit_TooMany, fun y => (mRet (mLst [(mXF xf_what y)]))), (some 3, cond_NotAllowed, fun y => (mRet (mLst [(mXF xf_lacking y)]))), (some 3, cond_BadDeed, fun y => (mRet (mLst [(mXF xf_why y)]))), (some 3, cond_BadRun, fun y => (mRet (mLst [(mXF xf_at y), (mXF xf_why y)]))), (none, cond_CountError, fun y => (mRet (mLst [])))] m__law_words_borne_y1)
    (mRet (mC .non)))) fr h) Q E := congrArg (fun m => Wp (m fr h) Q E) m__law_words_borne.eq_1
theorem w__law_numbers_borne_y1 {fr : Fr} {h : Hh} {Q : Fl → Fr → Hh → Prop} {E : Exn → Fr → Hh → Prop} : Wp (m__law_numbers_borne_y1 fr h) Q E = Wp ((
    (mDrop (mCall 3 0 f__law_raise (gPos []) (mArgs [(mVar 0), (mVar 1), (mVar 2)]) (mArgs [])))) fr h) Q E := congrArg (fun m => Wp (m fr h) Q E) m__law_numbers_borne_y1.eq_1
theorem w__law_numbers_borne {fr : Fr} {h : Hh} {Q : Fl → Fr → Hh → Prop} {E : Exn → Fr → Hh → Prop} : Wp (m__law_numbers_borne fr h) Q E = Wp ((
    (mSeq (mTryN [(some 3, cond_NoInstance, fun y => (mRet (mLst [(mXF xf_at y)]))), (some 3, cond_BadTable, fun y => (mRet (mLst [(mXF xf_line y)]))), (some 3, cond_BadText, fun y => (mRet (mLst [(mXF xf_position y)]))), (none, cond_CountError, fun y => (mRet (mLst [])))] m__law_numbers_borne_y1)
    (mRet (mC .non)))) fr h) Q E := congrArg (fun m => Wp (m fr h) Q E) m__law_numbers_borne.eq_1
theorem w_law_g1 {d : D} {fr : Fr} {h : Hh} {Q : Unit → Fr → Hh → Prop} {E : Exn → Fr → Hh → Prop} : Wp (m_law_g1 d fr h) Q E = Wp ((
    (tgNm 7)) d fr h) Q E := congrArg (fun m => Wp (m d fr h) Q E) m_law_g1.eq_1
theorem w_law_t1 {fr : Fr} {h : Hh} {Q : Bool → Fr → Hh → Prop} {E : Exn → Fr → Hh → Prop} : Wp (m_law_t1 fr h) Q E = Wp ((
    (M.ret true)) fr h) Q E := congrArg (fun m => Wp (m fr h) Q E) m_law_t1.eq_1
theorem w_law_e1 {fr : Fr} {h : Hh} {Q : D → Fr → Hh → Prop} {E : Exn → Fr → Hh → Prop} : Wp (m_law_e1 fr h) Q E = Wp ((
    (mOp (fun h x y => (cEq h x y).map .bl) (mVar 7) (mBor 3))) fr h) Q E := congrArg (fun m => Wp (m fr h) Q E) m_law_e1.eq_1
theorem w_law_b4 {fr : Fr} {h : Hh} {Q : Fl → Fr → Hh → Prop} {E : Exn → Fr → Hh → Prop} : Wp (m_law_b4 fr h) Q E = Wp ((
    (mSeq (mPut 4 (mCall 2 0 f__law_of (gPos []) (mArgs [(mVar 2), (mFz (mLst [(mC (.str "tests")), (mC (.str "counts")), (mC (.str "over")), (mC (.str "x")), (mC (.str "terms")), (mC (.str "readings")), (mC (.str "lost"))]))]) (mArgs [])))
    (mSeq (mPut 5 (mOp bMul (mFz (mOp bAdd (mFz (mCall 2 0 f__law_draw (gPos []) (mArgs [(mVar 2), (mOp bPow (mC (.int 10)) (mC (.int 30)))]) (mArgs []))) (mC (.int 2)))) (mFz (mCall 2 0 f__law_of (gPos []) (mArgs [(mVar 2), (mFz (mLst [(mC (.int 1)), (mUn (fun _ => bNeg) (mC (.int 1)))]))]) (mArgs [])))))
    (mSeq (mIfS (mOp cNe (mFz (mCall 3 0 f__law_kinds (gPos []) (mArgs [(mVar 3), (mVar 4), (mVar 5)]) (mArgs []))) (mOp bAdd (mFz (mLc [7] (mRng1 (mC (.int 14))) m_law_g1 m_law_t1 m_law_e1)) (mFz (mLst [(mC (.bl true))]))))
    (mRet (mC (.bl false)))
    (M.ret .nx))
    (mSeq (mPut 6 (mIf (mOp cIn (mVar 3) (mTup [(mC (.int 0)), (mC (.int 4)), (mC (.int 6)), (mC (.int 11)), (mC (.int 12))])) (mLst [(mVar 4)]) (mLst [])))
    (mSeq (mIfS (mOp cEq (mVar 3) (mC (.int 5)))
    (mPut 6 (mLst [(mTup [(mVar 4), (mC (.str "past"))])]))
    (M.ret .nx))
    (mSeq (mIfS (mOp cEq (mVar 3) (mC (.int 7)))
    (mPut 6 (mLst [(mVar 5), (mVar 4)]))
    (M.ret .nx))
    (mSeq (mIfS (mOp cNe (mFz (mCall 3 0 f__law_words_borne (gPos []) (mArgs [(mVar 3), (mVar 4), (mVar 5)]) (mArgs []))) (mBor 6))
    (mRet (mC (.bl false)))
    (M.ret .nx))
    (mIfS (mOp cNe (mFz (mCall 3 0 f__law_numbers_borne (gPos []) (mArgs [(mVar 3), (mVar 4), (mVar 5)]) (mArgs []))) (mIf (mOp cIn (mVar 3) (mTup [(mC (.int 3)), (mC (.int 8)), (mC (.int 10))])) (mLst [(mVar 5)]) (mLst [])))
    (mRet (mC (.bl false)))
    (M.ret .nx)))))))))) fr h) Q E := congrArg (fun m => Wp (m fr h) Q E) m_law_b4.eq_1
theorem w_law_b5 {fr : Fr} {h : Hh} {Q : Fl → Fr → Hh → Prop} {E : Exn → Fr → Hh → Prop} : Wp (m_law_b5 fr h) Q E = Wp ((
    (mSeq (mPut 2 (mCell (mCall 2 0 f__law_source (gPos []) (mArgs [(mVar 0), (mVar 1)]) (mArgs []))))
    (mForI (mRng1 (mC (.int 15))) (tgNm 3) m_law_b4))) fr h) Q E := congrArg (fun m => Wp (m fr h) Q E) m_law_b5.eq_1
theorem w_law {fr : Fr} {h : Hh} {Q : Fl → Fr → Hh → Prop} {E : Exn → Fr → Hh → Prop} : Wp (m_law fr h) Q E = Wp ((
    (mSeq (mForI (mRng1 (mOp bMax2 (mC (.int 1)) (mOp bMin2 (mC (.int 10)) (mUn bLen (mBor 0))))) (tgNm 1) m_law_b5)
    (mRet (mC (.bl true))))) fr h) Q E := congrArg (fun m => Wp (m fr h) Q E) m_law.eq_1
theorem wf__law_source {ds : List D} {h : Hh} {Q : D → Fr → Hh → Prop} {E : Exn → Fr → Hh → Prop} : Wp (f__law_source ds h) Q E = Wp (runF 4 m__law_source ds h) Q E := congrArg (fun m => Wp (m ds h) Q E) f__law_source.eq_1
theorem wf__law_draw {ds : List D} {h : Hh} {Q : D → Fr → Hh → Prop} {E : Exn → Fr → Hh → Prop} : Wp (f__law_draw ds h) Q E = Wp (runF 4 m__law_draw ds h) Q E := congrArg (fun m => Wp (m ds h) Q E) f__law_draw.eq_1
theorem wf__law_of {ds : List D} {h : Hh} {Q : D → Fr → Hh → Prop} {E : Exn → Fr → Hh → Prop} : Wp (f__law_of ds h) Q E = Wp (runF 2 m__law_of ds h) Q E := congrArg (fun m => Wp (m ds h) Q E) f__law_of.eq_1
theorem wf__law_raise_early {ds : List D} {h : Hh} {Q : D → Fr → Hh → Prop} {E : Exn → Fr → Hh → Prop} : Wp (f__law_raise_early ds h) Q E = Wp (runF 3 m__law_raise_early ds h) Q E := congrArg (fun m => Wp (m ds h) Q E) f__law_raise_early.eq_1
theorem wf__law_raise {ds : List D} {h : Hh} {Q : D → Fr → Hh → Prop} {E : Exn → Fr → Hh → Prop} : Wp (f__law_raise ds h) Q E = Wp (runF 3 m__law_raise ds h) Q E := congrArg (fun m => Wp (m ds h) Q E) f__law_raise.eq_1
theorem wf__law_kinds {ds : List D} {h : Hh} {Q : D → Fr → Hh → Prop} {E : Exn → Fr → Hh → Prop} : Wp (f__law_kinds ds h) Q E = Wp (runF 5 m__law_kinds ds h) Q E := congrArg (fun m => Wp (m ds h) Q E) f__law_kinds.eq_1
theorem wf__law_words_borne {ds : List D} {h : Hh} {Q : D → Fr → Hh → Prop} {E : Exn → Fr → Hh → Prop} : Wp (f__law_words_borne ds h) Q E = Wp (runF 4 m__law_words_borne ds h) Q E := congrArg (fun m => Wp (m ds h) Q E) f__law_words_borne.eq_1
theorem wf__law_numbers_borne {ds : List D} {h : Hh} {Q : D → Fr → Hh → Prop} {E : Exn → Fr → Hh → Prop} : Wp (f__law_numbers_borne ds h) Q E = Wp (runF 4 m__law_numbers_borne ds h) Q E := congrArg (fun m => Wp (m ds h) Q E) f__law_numbers_borne.eq_1
theorem wf_law {ds : List D} {h : Hh} {Q : D → Fr → Hh → Prop} {E : Exn → Fr → Hh → Prop} : Wp (f_law ds h) Q E = Wp (runF 8 m_law ds h) Q E := congrArg (fun m => Wp (m ds h) Q E) f_law.eq_1
theorem v_cond_CountError_0 : cond_CountError 0 = some true := by unfold cond_CountError; rfl
theorem v_cond_CountError_1 : cond_CountError 1 = some true := by unfold cond_CountError; rfl
theorem v_cond_CountError_2 : cond_CountError 2 = some true := by unfold cond_CountError; rfl
theorem v_cond_CountError_3 : cond_CountError 3 = some true := by unfold cond_CountError; rfl
theorem v_cond_CountError_4 : cond_CountError 4 = some true := by unfold cond_CountError; rfl
theorem v_cond_CountError_5 : cond_CountError 5 = some true := by unfold cond_CountError; rfl
theorem v_cond_CountError_6 : cond_CountError 6 = some true := by unfold cond_CountError; rfl
theorem v_cond_CountError_7 : cond_CountError 7 = some true := by unfold cond_CountError; rfl
theorem v_cond_CountError_8 : cond_CountError 8 = some true := by unfold cond_CountError; rfl
theorem v_cond_CountError_9 : cond_CountError 9 = some true := by unfold cond_CountError; rfl
theorem v_cond_CountError_10 : cond_CountError 10 = some true := by unfold cond_CountError; rfl
theorem v_cond_CountError_11 : cond_CountError 11 = some true := by unfold cond_CountError; rfl
theorem v_cond_CountError_12 : cond_CountError 12 = some true := by unfold cond_CountError; rfl
theorem v_cond_CountError_13 : cond_CountError 13 = some true := by unfold cond_CountError; rfl
theorem v_cond_CountError_14 : cond_CountError 14 = some true := by unfold cond_CountError; rfl
theorem v_cond_BadInstance_0 : cond_BadInstance 0 = some true := by unfold cond_BadInstance; rfl
theorem v_cond_BadInstance_1 : cond_BadInstance 1 = some false := by unfold cond_BadInstance; rfl
theorem v_cond_BadInstance_2 : cond_BadInstance 2 = some false := by unfold cond_BadInstance; rfl
theorem v_cond_BadInstance_3 : cond_BadInstance 3 = some false := by unfold cond_BadInstance; rfl
theorem v_cond_BadInstance_4 : cond_BadInstance 4 = some false := by unfold cond_BadInstance; rfl
theorem v_cond_BadInstance_5 : cond_BadInstance 5 = some false := by unfold cond_BadInstance; rfl
theorem v_cond_BadInstance_6 : cond_BadInstance 6 = some false := by unfold cond_BadInstance; rfl
theorem v_cond_BadInstance_7 : cond_BadInstance 7 = some false := by unfold cond_BadInstance; rfl
theorem v_cond_BadInstance_8 : cond_BadInstance 8 = some false := by unfold cond_BadInstance; rfl
theorem v_cond_BadInstance_9 : cond_BadInstance 9 = some false := by unfold cond_BadInstance; rfl
theorem v_cond_BadInstance_10 : cond_BadInstance 10 = some false := by unfold cond_BadInstance; rfl
theorem v_cond_BadInstance_11 : cond_BadInstance 11 = some false := by unfold cond_BadInstance; rfl
theorem v_cond_BadInstance_12 : cond_BadInstance 12 = some false := by unfold cond_BadInstance; rfl
theorem v_cond_BadInstance_13 : cond_BadInstance 13 = some false := by unfold cond_BadInstance; rfl
theorem v_cond_BadInstance_14 : cond_BadInstance 14 = some false := by unfold cond_BadInstance; rfl
theorem v_cond_BadWorld_0 : cond_BadWorld 0 = some false := by unfold cond_BadWorld; rfl
theorem v_cond_BadWorld_1 : cond_BadWorld 1 = some false := by unfold cond_BadWorld; rfl
theorem v_cond_BadWorld_2 : cond_BadWorld 2 = some false := by unfold cond_BadWorld; rfl
theorem v_cond_BadWorld_3 : cond_BadWorld 3 = some false := by unfold cond_BadWorld; rfl
theorem v_cond_BadWorld_4 : cond_BadWorld 4 = some true := by unfold cond_BadWorld; rfl
theorem v_cond_BadWorld_5 : cond_BadWorld 5 = some false := by unfold cond_BadWorld; rfl
theorem v_cond_BadWorld_6 : cond_BadWorld 6 = some false := by unfold cond_BadWorld; rfl
theorem v_cond_BadWorld_7 : cond_BadWorld 7 = some false := by unfold cond_BadWorld; rfl
theorem v_cond_BadWorld_8 : cond_BadWorld 8 = some false := by unfold cond_BadWorld; rfl
theorem v_cond_BadWorld_9 : cond_BadWorld 9 = some false := by unfold cond_BadWorld; rfl
theorem v_cond_BadWorld_10 : cond_BadWorld 10 = some false := by unfold cond_BadWorld; rfl
theorem v_cond_BadWorld_11 : cond_BadWorld 11 = some false := by unfold cond_BadWorld; rfl
theorem v_cond_BadWorld_12 : cond_BadWorld 12 = some false := by unfold cond_BadWorld; rfl
theorem v_cond_BadWorld_13 : cond_BadWorld 13 = some false := by unfold cond_BadWorld; rfl
theorem v_cond_BadWorld_14 : cond_BadWorld 14 = some false := by unfold cond_BadWorld; rfl
theorem v_cond_BadUnit_0 : cond_BadUnit 0 = some false := by unfold cond_BadUnit; rfl
theorem v_cond_BadUnit_1 : cond_BadUnit 1 = some false := by unfold cond_BadUnit; rfl
theorem v_cond_BadUnit_2 : cond_BadUnit 2 = some false := by unfold cond_BadUnit; rfl
theorem v_cond_BadUnit_3 : cond_BadUnit 3 = some false := by unfold cond_BadUnit; rfl
theorem v_cond_BadUnit_4 : cond_BadUnit 4 = some false := by unfold cond_BadUnit; rfl
theorem v_cond_BadUnit_5 : cond_BadUnit 5 = some false := by unfold cond_BadUnit; rfl
theorem v_cond_BadUnit_6 : cond_BadUnit 6 = some false := by unfold cond_BadUnit; rfl
theorem v_cond_BadUnit_7 : cond_BadUnit 7 = some false := by unfold cond_BadUnit; rfl
theorem v_cond_BadUnit_8 : cond_BadUnit 8 = some false := by unfold cond_BadUnit; rfl
theorem v_cond_BadUnit_9 : cond_BadUnit 9 = some false := by unfold cond_BadUnit; rfl
theorem v_cond_BadUnit_10 : cond_BadUnit 10 = some false := by unfold cond_BadUnit; rfl
theorem v_cond_BadUnit_11 : cond_BadUnit 11 = some true := by unfold cond_BadUnit; rfl
theorem v_cond_BadUnit_12 : cond_BadUnit 12 = some false := by unfold cond_BadUnit; rfl
theorem v_cond_BadUnit_13 : cond_BadUnit 13 = some false := by unfold cond_BadUnit; rfl
theorem v_cond_BadUnit_14 : cond_BadUnit 14 = some false := by unfold cond_BadUnit; rfl
theorem v_cond_TooMany_0 : cond_TooMany 0 = some false := by unfold cond_TooMany; rfl
theorem v_cond_TooMany_1 : cond_TooMany 1 = some false := by unfold cond_TooMany; rfl
theorem v_cond_TooMany_2 : cond_TooMany 2 = some false := by unfold cond_TooMany; rfl
theorem v_cond_TooMany_3 : cond_TooMany 3 = some false := by unfold cond_TooMany; rfl
theorem v_cond_TooMany_4 : cond_TooMany 4 = some false := by unfold cond_TooMany; rfl
theorem v_cond_TooMany_5 : cond_TooMany 5 = some false := by unfold cond_TooMany; rfl
theorem v_cond_TooMany_6 : cond_TooMany 6 = some false := by unfold cond_TooMany; rfl
theorem v_cond_TooMany_7 : cond_TooMany 7 = some false := by unfold cond_TooMany; rfl
theorem v_cond_TooMany_8 : cond_TooMany 8 = some false := by unfold cond_TooMany; rfl
theorem v_cond_TooMany_9 : cond_TooMany 9 = some false := by unfold cond_TooMany; rfl
theorem v_cond_TooMany_10 : cond_TooMany 10 = some false := by unfold cond_TooMany; rfl
theorem v_cond_TooMany_11 : cond_TooMany 11 = some false := by unfold cond_TooMany; rfl
theorem v_cond_TooMany_12 : cond_TooMany 12 = some true := by unfold cond_TooMany; rfl
theorem v_cond_TooMany_13 : cond_TooMany 13 = some false := by unfold cond_TooMany; rfl
theorem v_cond_TooMany_14 : cond_TooMany 14 = some false := by unfold cond_TooMany; rfl
theorem v_cond_NotAllowed_0 : cond_NotAllowed 0 = some false := by unfold cond_NotAllowed; rfl
theorem v_cond_NotAllowed_1 : cond_NotAllowed 1 = some false := by unfold cond_NotAllowed; rfl
theorem v_cond_NotAllowed_2 : cond_NotAllowed 2 = some false := by unfold cond_NotAllowed; rfl
theorem v_cond_NotAllowed_3 : cond_NotAllowed 3 = some false := by unfold cond_NotAllowed; rfl
theorem v_cond_NotAllowed_4 : cond_NotAllowed 4 = some false := by unfold cond_NotAllowed; rfl
theorem v_cond_NotAllowed_5 : cond_NotAllowed 5 = some true := by unfold cond_NotAllowed; rfl
theorem v_cond_NotAllowed_6 : cond_NotAllowed 6 = some false := by unfold cond_NotAllowed; rfl
theorem v_cond_NotAllowed_7 : cond_NotAllowed 7 = some false := by unfold cond_NotAllowed; rfl
theorem v_cond_NotAllowed_8 : cond_NotAllowed 8 = some false := by unfold cond_NotAllowed; rfl
theorem v_cond_NotAllowed_9 : cond_NotAllowed 9 = some false := by unfold cond_NotAllowed; rfl
theorem v_cond_NotAllowed_10 : cond_NotAllowed 10 = some false := by unfold cond_NotAllowed; rfl
theorem v_cond_NotAllowed_11 : cond_NotAllowed 11 = some false := by unfold cond_NotAllowed; rfl
theorem v_cond_NotAllowed_12 : cond_NotAllowed 12 = some false := by unfold cond_NotAllowed; rfl
theorem v_cond_NotAllowed_13 : cond_NotAllowed 13 = some false := by unfold cond_NotAllowed; rfl
theorem v_cond_NotAllowed_14 : cond_NotAllowed 14 = some false := by unfold cond_NotAllowed; rfl
theorem v_cond_BadDeed_0 : cond_BadDeed 0 = some false := by unfold cond_BadDeed; rfl
theorem v_cond_BadDeed_1 : cond_BadDeed 1 = some false := by unfold cond_BadDeed; rfl
theorem v_cond_BadDeed_2 : cond_BadDeed 2 = some false := by unfold cond_BadDeed; rfl
theorem v_cond_BadDeed_3 : cond_BadDeed 3 = some false := by unfold cond_BadDeed; rfl
theorem v_cond_BadDeed_4 : cond_BadDeed 4 = some false := by unfold cond_BadDeed; rfl
theorem v_cond_BadDeed_5 : cond_BadDeed 5 = some false := by unfold cond_BadDeed; rfl
theorem v_cond_BadDeed_6 : cond_BadDeed 6 = some true := by unfold cond_BadDeed; rfl
theorem v_cond_BadDeed_7 : cond_BadDeed 7 = some false := by unfold cond_BadDeed; rfl
theorem v_cond_BadDeed_8 : cond_BadDeed 8 = some false := by unfold cond_BadDeed; rfl
theorem v_cond_BadDeed_9 : cond_BadDeed 9 = some false := by unfold cond_BadDeed; rfl
theorem v_cond_BadDeed_10 : cond_BadDeed 10 = some false := by unfold cond_BadDeed; rfl
theorem v_cond_BadDeed_11 : cond_BadDeed 11 = some false := by unfold cond_BadDeed; rfl
theorem v_cond_BadDeed_12 : cond_BadDeed 12 = some false := by unfold cond_BadDeed; rfl
theorem v_cond_BadDeed_13 : cond_BadDeed 13 = some false := by unfold cond_BadDeed; rfl
theorem v_cond_BadDeed_14 : cond_BadDeed 14 = some false := by unfold cond_BadDeed; rfl
theorem v_cond_BadRun_0 : cond_BadRun 0 = some false := by unfold cond_BadRun; rfl
theorem v_cond_BadRun_1 : cond_BadRun 1 = some false := by unfold cond_BadRun; rfl
theorem v_cond_BadRun_2 : cond_BadRun 2 = some false := by unfold cond_BadRun; rfl
theorem v_cond_BadRun_3 : cond_BadRun 3 = some false := by unfold cond_BadRun; rfl
theorem v_cond_BadRun_4 : cond_BadRun 4 = some false := by unfold cond_BadRun; rfl
theorem v_cond_BadRun_5 : cond_BadRun 5 = some false := by unfold cond_BadRun; rfl
theorem v_cond_BadRun_6 : cond_BadRun 6 = some false := by unfold cond_BadRun; rfl
theorem v_cond_BadRun_7 : cond_BadRun 7 = some true := by unfold cond_BadRun; rfl
theorem v_cond_BadRun_8 : cond_BadRun 8 = some false := by unfold cond_BadRun; rfl
theorem v_cond_BadRun_9 : cond_BadRun 9 = some false := by unfold cond_BadRun; rfl
theorem v_cond_BadRun_10 : cond_BadRun 10 = some false := by unfold cond_BadRun; rfl
theorem v_cond_BadRun_11 : cond_BadRun 11 = some false := by unfold cond_BadRun; rfl
theorem v_cond_BadRun_12 : cond_BadRun 12 = some false := by unfold cond_BadRun; rfl
theorem v_cond_BadRun_13 : cond_BadRun 13 = some false := by unfold cond_BadRun; rfl
theorem v_cond_BadRun_14 : cond_BadRun 14 = some false := by unfold cond_BadRun; rfl
theorem v_cond_NoInstance_0 : cond_NoInstance 0 = some false := by unfold cond_NoInstance; rfl
theorem v_cond_NoInstance_1 : cond_NoInstance 1 = some false := by unfold cond_NoInstance; rfl
theorem v_cond_NoInstance_2 : cond_NoInstance 2 = some false := by unfold cond_NoInstance; rfl
theorem v_cond_NoInstance_3 : cond_NoInstance 3 = some true := by unfold cond_NoInstance; rfl
theorem v_cond_NoInstance_4 : cond_NoInstance 4 = some false := by unfold cond_NoInstance; rfl
theorem v_cond_NoInstance_5 : cond_NoInstance 5 = some false := by unfold cond_NoInstance; rfl
theorem v_cond_NoInstance_6 : cond_NoInstance 6 = some false := by unfold cond_NoInstance; rfl
theorem v_cond_NoInstance_7 : cond_NoInstance 7 = some false := by unfold cond_NoInstance; rfl
theorem v_cond_NoInstance_8 : cond_NoInstance 8 = some false := by unfold cond_NoInstance; rfl
theorem v_cond_NoInstance_9 : cond_NoInstance 9 = some false := by unfold cond_NoInstance; rfl
theorem v_cond_NoInstance_10 : cond_NoInstance 10 = some false := by unfold cond_NoInstance; rfl
theorem v_cond_NoInstance_11 : cond_NoInstance 11 = some false := by unfold cond_NoInstance; rfl
theorem v_cond_NoInstance_12 : cond_NoInstance 12 = some false := by unfold cond_NoInstance; rfl
theorem v_cond_NoInstance_13 : cond_NoInstance 13 = some false := by unfold cond_NoInstance; rfl
theorem v_cond_NoInstance_14 : cond_NoInstance 14 = some false := by unfold cond_NoInstance; rfl
theorem v_cond_BadTable_0 : cond_BadTable 0 = some false := by unfold cond_BadTable; rfl
theorem v_cond_BadTable_1 : cond_BadTable 1 = some false := by unfold cond_BadTable; rfl
theorem v_cond_BadTable_2 : cond_BadTable 2 = some false := by unfold cond_BadTable; rfl
theorem v_cond_BadTable_3 : cond_BadTable 3 = some false := by unfold cond_BadTable; rfl
theorem v_cond_BadTable_4 : cond_BadTable 4 = some false := by unfold cond_BadTable; rfl
theorem v_cond_BadTable_5 : cond_BadTable 5 = some false := by unfold cond_BadTable; rfl
theorem v_cond_BadTable_6 : cond_BadTable 6 = some false := by unfold cond_BadTable; rfl
theorem v_cond_BadTable_7 : cond_BadTable 7 = some false := by unfold cond_BadTable; rfl
theorem v_cond_BadTable_8 : cond_BadTable 8 = some true := by unfold cond_BadTable; rfl
theorem v_cond_BadTable_9 : cond_BadTable 9 = some false := by unfold cond_BadTable; rfl
theorem v_cond_BadTable_10 : cond_BadTable 10 = some false := by unfold cond_BadTable; rfl
theorem v_cond_BadTable_11 : cond_BadTable 11 = some false := by unfold cond_BadTable; rfl
theorem v_cond_BadTable_12 : cond_BadTable 12 = some false := by unfold cond_BadTable; rfl
theorem v_cond_BadTable_13 : cond_BadTable 13 = some false := by unfold cond_BadTable; rfl
theorem v_cond_BadTable_14 : cond_BadTable 14 = some false := by unfold cond_BadTable; rfl
theorem v_cond_BadText_0 : cond_BadText 0 = some false := by unfold cond_BadText; rfl
theorem v_cond_BadText_1 : cond_BadText 1 = some false := by unfold cond_BadText; rfl
theorem v_cond_BadText_2 : cond_BadText 2 = some false := by unfold cond_BadText; rfl
theorem v_cond_BadText_3 : cond_BadText 3 = some false := by unfold cond_BadText; rfl
theorem v_cond_BadText_4 : cond_BadText 4 = some false := by unfold cond_BadText; rfl
theorem v_cond_BadText_5 : cond_BadText 5 = some false := by unfold cond_BadText; rfl
theorem v_cond_BadText_6 : cond_BadText 6 = some false := by unfold cond_BadText; rfl
theorem v_cond_BadText_7 : cond_BadText 7 = some false := by unfold cond_BadText; rfl
theorem v_cond_BadText_8 : cond_BadText 8 = some false := by unfold cond_BadText; rfl
theorem v_cond_BadText_9 : cond_BadText 9 = some false := by unfold cond_BadText; rfl
theorem v_cond_BadText_10 : cond_BadText 10 = some true := by unfold cond_BadText; rfl
theorem v_cond_BadText_11 : cond_BadText 11 = some false := by unfold cond_BadText; rfl
theorem v_cond_BadText_12 : cond_BadText 12 = some false := by unfold cond_BadText; rfl
theorem v_cond_BadText_13 : cond_BadText 13 = some false := by unfold cond_BadText; rfl
theorem v_cond_BadText_14 : cond_BadText 14 = some false := by unfold cond_BadText; rfl
theorem v_cond_BadInstance_BadWorld_BadUnit_TooMany_0 : cond_BadInstance_BadWorld_BadUnit_TooMany 0 = some true := by unfold cond_BadInstance_BadWorld_BadUnit_TooMany; rfl
theorem v_cond_BadInstance_BadWorld_BadUnit_TooMany_1 : cond_BadInstance_BadWorld_BadUnit_TooMany 1 = some false := by unfold cond_BadInstance_BadWorld_BadUnit_TooMany; rfl
theorem v_cond_BadInstance_BadWorld_BadUnit_TooMany_2 : cond_BadInstance_BadWorld_BadUnit_TooMany 2 = some false := by unfold cond_BadInstance_BadWorld_BadUnit_TooMany; rfl
theorem v_cond_BadInstance_BadWorld_BadUnit_TooMany_3 : cond_BadInstance_BadWorld_BadUnit_TooMany 3 = some false := by unfold cond_BadInstance_BadWorld_BadUnit_TooMany; rfl
theorem v_cond_BadInstance_BadWorld_BadUnit_TooMany_4 : cond_BadInstance_BadWorld_BadUnit_TooMany 4 = some true := by unfold cond_BadInstance_BadWorld_BadUnit_TooMany; rfl
theorem v_cond_BadInstance_BadWorld_BadUnit_TooMany_5 : cond_BadInstance_BadWorld_BadUnit_TooMany 5 = some false := by unfold cond_BadInstance_BadWorld_BadUnit_TooMany; rfl
theorem v_cond_BadInstance_BadWorld_BadUnit_TooMany_6 : cond_BadInstance_BadWorld_BadUnit_TooMany 6 = some false := by unfold cond_BadInstance_BadWorld_BadUnit_TooMany; rfl
theorem v_cond_BadInstance_BadWorld_BadUnit_TooMany_7 : cond_BadInstance_BadWorld_BadUnit_TooMany 7 = some false := by unfold cond_BadInstance_BadWorld_BadUnit_TooMany; rfl
theorem v_cond_BadInstance_BadWorld_BadUnit_TooMany_8 : cond_BadInstance_BadWorld_BadUnit_TooMany 8 = some false := by unfold cond_BadInstance_BadWorld_BadUnit_TooMany; rfl
theorem v_cond_BadInstance_BadWorld_BadUnit_TooMany_9 : cond_BadInstance_BadWorld_BadUnit_TooMany 9 = some false := by unfold cond_BadInstance_BadWorld_BadUnit_TooMany; rfl
theorem v_cond_BadInstance_BadWorld_BadUnit_TooMany_10 : cond_BadInstance_BadWorld_BadUnit_TooMany 10 = some false := by unfold cond_BadInstance_BadWorld_BadUnit_TooMany; rfl
theorem v_cond_BadInstance_BadWorld_BadUnit_TooMany_11 : cond_BadInstance_BadWorld_BadUnit_TooMany 11 = some true := by unfold cond_BadInstance_BadWorld_BadUnit_TooMany; rfl
theorem v_cond_BadInstance_BadWorld_BadUnit_TooMany_12 : cond_BadInstance_BadWorld_BadUnit_TooMany 12 = some true := by unfold cond_BadInstance_BadWorld_BadUnit_TooMany; rfl
theorem v_cond_BadInstance_BadWorld_BadUnit_TooMany_13 : cond_BadInstance_BadWorld_BadUnit_TooMany 13 = some false := by unfold cond_BadInstance_BadWorld_BadUnit_TooMany; rfl
theorem v_cond_BadInstance_BadWorld_BadUnit_TooMany_14 : cond_BadInstance_BadWorld_BadUnit_TooMany 14 = some false := by unfold cond_BadInstance_BadWorld_BadUnit_TooMany; rfl
theorem v_xf_what_0 : xf_what 0 = some 0 := by unfold xf_what; rfl
theorem v_xf_what_4 : xf_what 4 = some 0 := by unfold xf_what; rfl
theorem v_xf_what_11 : xf_what 11 = some 0 := by unfold xf_what; rfl
theorem v_xf_what_12 : xf_what 12 = some 0 := by unfold xf_what; rfl
theorem v_xf_lacking_5 : xf_lacking 5 = some 0 := by unfold xf_lacking; rfl
theorem v_xf_why_6 : xf_why 6 = some 0 := by unfold xf_why; rfl
theorem v_xf_why_7 : xf_why 7 = some 1 := by unfold xf_why; rfl
theorem v_xf_at_3 : xf_at 3 = some 0 := by unfold xf_at; rfl
theorem v_xf_at_7 : xf_at 7 = some 0 := by unfold xf_at; rfl
theorem v_xf_line_8 : xf_line 8 = some 0 := by unfold xf_line; rfl
theorem v_xf_position_10 : xf_position 10 = some 0 := by unfold xf_position; rfl
end L

namespace L
open PySem PySem.Spec L2 Pk
/-- the source's cell -/
def Src (h : Hh) (n : Nat) (C : Int) : Prop := ∃ a b c : Int, h[n]? = some (.nl [.int a, .int b, .int c]) ∧ 0 ≤ b ∧ b < 2 ^ 33 ∧ 0 ≤ c ∧ c ≤ C
theorem log2_lt {i : Int} {k : Nat} (h : i.natAbs < 2 ^ k) (hk : 0 < k) : i.natAbs.log2 < k := by
  by_cases h0 : i.natAbs = 0
  · rw [h0]; simpa using hk
  · exact (Nat.log2_lt h0).mpr h
theorem cMod_pos {i j : Int} (h : 0 < j) : cMod i j = true := decide_eq_true h
theorem draw_spec {h : Hh} {n : Nat} {C m : Int} (S : Src h n C) (hC : C ≤ 100000) (hm : 0 < m) (hl : m < 2 ^ 200) :
    ∃ r h', f__law_draw [.ref n, .int m] h = .ok (.int r) [] h' ∧ Src h' n (C + 1) ∧ 0 ≤ r ∧ r < m := by
  obtain ⟨a, b, c, e, b0, b1, c0, c1⟩ := S
  have hn : n < h.length := (List.getElem?_eq_some_iff.mp e).1
  have hml : m.natAbs.log2 < 9000 := by
    refine Nat.lt_of_lt_of_le (log2_lt (k := 200) ?_ (by decide)) (by decide)
    omega
  by_cases ha : 0 < a
  · refine ⟨a % m, h.set n (.nl [.int (a / m), .int b, .int c]), ?_, ⟨a / m, b, c, by rw [List.getElem?_set_self hn], b0, b1, c0, by omega⟩, Int.emod_nonneg _ (by omega), Int.emod_lt_of_pos _ hm⟩
    simp [f__law_draw, runF, m__law_draw, m__law_draw_k1, m__law_draw_k2, m__law_draw_k3, startF, mSeq, mIfS, M.bind, M.ret, M.opt, mOp, mLate, mHas, mBor, mC, bIdx, D.its, D.der, e, atI, ixN, cInt, ha, mPut, mUn, bInt1, mVar, D.own, bInt, cMod, hm, mSetS, mutSlot, setF, cDiv, hml, mRet, mMove]
  · have z1 : (b + 32452843 * (c + 1)).natAbs < 2 ^ 64 := by omega
    generalize hx : (b + 32452843 * (c + 1)) ^ 3 % 2305843009213693921 = x
    have hx0 : 0 ≤ x := by rw [← hx]; exact Int.emod_nonneg _ (by decide)
    have hx1 : x < 2305843009213693921 := by rw [← hx]; exact Int.emod_lt_of_pos _ (by decide)
    have z2 : (x + 49979687 * (c + 1)).natAbs < 2 ^ 64 := by omega
    have l1 : (c + 1).natAbs.log2 < 64 := log2_lt (by omega) (by decide)
    have l2 : ((32452843 : Int)).natAbs.log2 < 64 := log2_lt (by decide) (by decide)
    have l3 : ((49979687 : Int)).natAbs.log2 < 64 := log2_lt (by decide) (by decide)
    have l4 : ((4096 : Int)).natAbs.log2 < 9000 := Nat.lt_trans (log2_lt (k := 64) (by decide) (by decide)) (by decide)
    have c1' : cMul 32452843 (c + 1) = true := decide_eq_true (by omega)
    have c2' : cMul 49979687 (c + 1) = true := decide_eq_true (by omega)
    have c3' : cPow (b + 32452843 * (c + 1)) 3 = true := by
      unfold cPow
      rw [decide_eq_true z1]
      rfl
    have c4' : cPow (x + 49979687 * (c + 1)) 2 = true := by
      unfold cPow
      rw [decide_eq_true z2]
      rfl
    have c5' : cDiv ((x + 49979687 * (c + 1)) ^ 2 % 2305843009213693951) 4096 = true := by
      unfold cDiv
      rw [decide_eq_true l4]
      rfl
    refine ⟨((x + 49979687 * (c + 1)) ^ 2 % 2305843009213693951) / 4096 % m, h.set n (.nl [.int a, .int b, .int (c + 1)]), ?_, ⟨a, b, c + 1, by rw [List.getElem?_set_self hn], b0, b1, by omega, by omega⟩, Int.emod_nonneg _ (by omega), Int.emod_lt_of_pos _ hm⟩
    have ha' : decide (0 < a) = false := decide_eq_false ha
    have e2 : ∀ v : D, (h.set n v)[n]? = some v := fun v => List.getElem?_set_self hn
    simp [f__law_draw, runF, m__law_draw, m__law_draw_k1, m__law_draw_k2, m__law_draw_k3, startF, mSeq, mIfS, M.bind, M.ret, M.opt, mOp, mLate, mHas, mBor, mC, bIdx, D.its, D.der, e, atI, ixN, cInt, ha', mPut, mUn, bInt1, mVar, D.own, bInt, mSetS, mutSlot, setF, mRet, mMove, mFz, D.fz, bAdd, e2, c1', c2', c3', c4', c5', cMod_pos, hm, hx]
end L

/-! draws for laws without instances -/
namespace L
open PySem PySem.Spec L2 Pk
theorem of_spec {h : Hh} {n : Nat} {C : Int} {l : List D} (S : Src h n C) (hC : C ≤ 100000) (h0 : 0 < l.length) (hl : l.length ≤ 1000) :
    ∃ i d h', i < l.length ∧ l[i]? = some d ∧ f__law_of [.ref n, .fl l] h = .ok d [] h' ∧ Src h' n (C + 1) := by
  obtain ⟨r, h', e, S', r0, r1⟩ := draw_spec (m := (l.length : Int)) S hC (by omega) (by omega)
  have hi : r.toNat < l.length := by omega
  refine ⟨r.toNat, l[r.toNat], h', hi, List.getElem?_eq_getElem hi, ?_, S'⟩
  have er : ((r.toNat : Nat) : Int) = r := Int.toNat_of_nonneg r0
  simp [f__law_of, runF, m__law_of, startF, mRet, mLate, mHas, mBor, mFz, mCall, mArgs, M.bind, M.ret, M.opt, mVar, D.own, D.fz, mUn, bLen, D.its, D.der, gPos, e, liftR, bIdx, atI, ixN, r0, r1, hi]
theorem Src.up {h : Hh} {n : Nat} {C C' : Int} (S : Src h n C) (hC : C ≤ C') : Src h n C' := by
  obtain ⟨a, b, c, q1, q2, q3, q4, q5⟩ := S
  exact ⟨a, b, c, q1, q2, q3, q4, by omega⟩
theorem bIdx_fl {h : Hh} {l : List Int} {i : Nat} {t : Int} {j : Int} (hj : j = (i : Int)) (e : l[i]? = some t) : bIdx h (.fl (l.map .int)) (.int j) = some (.int t) := by
  subst hj
  have hl := (List.getElem?_eq_some_iff.mp e).1
  show atI (l.map D.int) i = _
  unfold atI
  have : ixN (l.map D.int).length (i : Int) = some i := by
    unfold ixN
    rw [List.length_map, if_pos (by omega), if_pos (by omega)]
    congr 1
  rw [this]
  simp [e]
theorem source_spec {h : Hh} {ns : List Int} {k : Nat} (hk : k ≤ 62) : ∃ a b, f__law_source [.kl (ns.map .int), .int k] h = .ok (.nl [.int a, .int b, .int 0]) [] h ∧ 0 ≤ b ∧ b < 2 ^ 33 := by
  have p18 : cPow 10 18 = true := by decide
  have b3 : 3 ≤ big := by decide
  have c1 : cMul 15485863 (k : Int) = true := by
    have l2 : ((15485863 : Int)).natAbs.log2 < 64 := log2_lt (by decide) (by decide)
    have l1 : ((k : Int)).natAbs.log2 < 64 := log2_lt (by omega) (by decide)
    exact decide_eq_true (by omega)
  have main : ∀ v : Int, (if (k : Int) < ns.length then bIdx h (.kl (ns.map .int)) (.int k) = some (.int v) else v = 0) → ∃ a b, f__law_source [.kl (ns.map .int), .int k] h = .ok (.nl [.int a, .int b, .int 0]) [] h ∧ 0 ≤ b ∧ b < 2 ^ 33 := fun v hv => by
    have hb0 : 0 ≤ v % 2147483629 := Int.emod_nonneg _ (by decide)
    have hb1 : v % 2147483629 < 2147483629 := Int.emod_lt_of_pos _ (by decide)
    refine ⟨if (1000000000000000000 : Int) ≤ (if v < 0 then -v else v) then (if v < 0 then -v else v) else 0, v % 2147483629 + 15485863 * (k : Int) + 7919, ?_, by omega, by omega⟩
    by_cases hl : (k : Int) < ns.length
    · rw [if_pos hl] at hv
      have hl' : k < ns.length := by omega
      by_cases hbig : (1000000000000000000 : Int) ≤ (if v < 0 then -v else v)
      · simp [f__law_source, runF, m__law_source, m__law_source_k1, startF, mSeq, mPut, mIf, mOp, mVar, D.own, M.bind, M.ret, M.opt, mUn, bLen, mBor, D.its, D.der, cInt, hl, hl', mLate, mHas, hv, mC, bAbs, bInt, p18, hbig, mRet, mLst, mArgs, mFz, bAdd, D.fz, bInt1, cMod_pos, c1, b3]
      · simp [f__law_source, runF, m__law_source, m__law_source_k1, startF, mSeq, mPut, mIf, mOp, mVar, D.own, M.bind, M.ret, M.opt, mUn, bLen, mBor, D.its, D.der, cInt, hl, hl', mLate, mHas, hv, mC, bAbs, bInt, p18, hbig, mRet, mLst, mArgs, mFz, bAdd, D.fz, bInt1, cMod_pos, c1, b3]
    · rw [if_neg hl] at hv
      subst hv
      have hl' : ¬ k < ns.length := by omega
      simp [f__law_source, runF, m__law_source, m__law_source_k1, startF, mSeq, mPut, mIf, mOp, mVar, D.own, M.bind, M.ret, M.opt, mUn, bLen, mBor, D.its, D.der, cInt, hl, hl', mC, bAbs, bInt, p18, mRet, mLst, mArgs, mFz, bAdd, D.fz, bInt1, cMod_pos, c1, b3]
  by_cases hl : (k : Int) < ns.length
  · have e : ns[k]? = some (ns[k]'(by omega)) := List.getElem?_eq_getElem _
    exact main _ (by rw [if_pos hl]; exact bIdx_fl (h := h) rfl e)
  · exact main 0 (by rw [if_neg hl])
end L

/-! k97: the errors one by one -/
namespace L
open PySem PySem.Spec L2 Pk
/-- the error of a road -/
def exnOf (road : Nat) (w : Str) (z : Int) : Exn := match road with
  | 0 => ⟨0, [.str w]⟩
  | 1 => ⟨1, []⟩
  | 2 => ⟨2, []⟩
  | 3 => ⟨3, [.int z]⟩
  | 4 => ⟨4, [.str w]⟩
  | 5 => ⟨5, [.tup [.str w, .str "past"]]⟩
  | 6 => ⟨6, [.str w]⟩
  | 7 => ⟨7, [.int z, .str w]⟩
  | 8 => ⟨8, [.int z]⟩
  | 9 => ⟨9, []⟩
  | 10 => ⟨10, [.int z]⟩
  | 11 => ⟨11, [.str w]⟩
  | 12 => ⟨12, [.str w]⟩
  | 13 => ⟨13, []⟩
  | _ => ⟨14, []⟩
def seven : List Str := ["tests", "counts", "over", "x", "terms", "readings", "lost"]
theorem ck1 : ∀ w ∈ seven, (decide (w.length ≤ 1000) = true) ∧ Pk.chkWords [.tup [.str w, .str "past"]] = true ∧ strG w = true := by decide +kernel
section
variable {w : Str} {z : Int} {h : Hh} {E : Exn → Fr → Hh → Prop} {Q : D → Fr → Hh → Prop}
theorem raise_spec {road : Nat} (hr : road < 15) (hw : w ∈ seven) (hz : z.natAbs.log2 < 1920) : Wp (f__law_raise [.int road, .str w, .int z] h) Q E = E (exnOf road w z) [] h := by
  obtain ⟨c1, c2, c3⟩ := ck1 w hw
  have k0 : chk_BadInstance [.str w] = true := c1
  have k4 : chk_BadWorld [.str w] = true := c1
  have k6 : chk_BadDeed [.str w] = true := c1
  have k11 : chk_BadUnit [.str w] = true := c1
  have k12 : chk_TooMany [.str w] = true := c1
  have k3 : chk_NoInstance [.int z] = true := rfl
  have k5 : chk_NotAllowed [.tup [.str w, .str "past"]] = true := c2
  have k7 : chk_BadRun [.int z, .str w] = true := by
    show (decide (z.natAbs.log2 < 1920) && decide (w.length ≤ 1000)) = true
    rw [c1, decide_eq_true hz]; rfl
  have k8 : chk_BadTable [.int z] = true := decide_eq_true hz
  have k10 : chk_BadText [.int z] = true := decide_eq_true hz
  match road, hr with
  | 0, _ | 1, _ | 2, _ | 3, _ | 4, _ | 5, _ | 6, _ | 7, _ | 8, _ | 9, _ | 10, _ | 11, _ | 12, _ | 13, _ | 14, _ =>
    simp only [↓wp_ok, ↓wp_ret, ↓wp_bind, ↓wp_opt, ↓wp_C, ↓wp_Fz, ↓wp_Var, ↓wp_Move, ↓wp_Bor, ↓wp_Has, ↓wp_Op, ↓wp_Un, ↓wp_Bl, ↓wp_Not, ↓wp_iteM, ↓wp_And, ↓wp_Or, ↓wp_NotV, ↓wp_AndV, ↓wp_OrV, ↓wp_Chain, ↓wp_If, ↓wp_Args0, ↓wp_Args1, ↓wp_Tup, ↓wp_Lst, ↓wp_Late, ↓wp_Pn, ↓wp_Psi, ↓wp_Pair, ↓wp_Cut, ↓wp_It, ↓wp_Rng1, ↓wp_Rng2, ↓wp_Enum, ↓wp_Seq, ↓wp_IfS, ↓wp_Drop, ↓wp_Ret, ↓wp_Put, ↓wp_Asg, ↓wp_PutE, ↓wp_ForI, ↓wp_Lc, ↓wp_tgNm, ↓wp_tgNil, ↓wp_tgCons, ↓wp_tgTup, ↓wp_mut, ↓wp_AppS, ↓wp_ClrS, ↓wp_AppR, ↓wp_ClrR, ↓wp_SetS, ↓wp_SetR, ↓wp_Cell, ↓wp_PutFld, ↓wp_mutF, ↓wp_Call, ↓wp_Meth, ↓wp_Star, ↓wp_Dun, ↓wp_Prop, ↓wp_runF, ↓wp_runI, ↓wp_turn, ↓wp_lcs0, ↓wp_lcs1, ↓wp_for0, ↓wp_for1, op_some, op_map, op_ite, op_int, sl_some, cd_t, cd_f, bx_cons, bx_nil, flk_nx, flk_rt, flk_brk, flk_ct, rtk_nx, rtk_rt, lpk_nx, lpk_ct, lpk_brk, lpk_rt, nok_some, fld_obj, fld_no, wp_mutR, ↓wp_TryA, ↓wp_TryO, ↓wp_Raise, ↓wp_IsX, ↓wp_XF, ↓wp_MulL, ↓wp_MulR, ↓wp_exc, ↓wp_LenI, ↓wp_GetI, ↓wp_OpM, ↓wp_gIn, ↓wp_gEq, ↓wp_pop, ↓wp_PopS, ↓wp_BoolI, ↓wp_Cm, ↓wp_LateB, ↓wp_gEqX, ↓wp_gEqT, ↓wp_TryN, ↓wp_pick0, ↓wp_pickA, ↓wp_pickO, ↓wp_RaiseB, own_int, fz_int, own_bl, fz_bl, own_str, fz_str, own_non, fz_non, own_tup, fz_tup, own_fl, fz_fl, own_kl, fz_kl, own_obj, fz_obj, own_ref, fz_ref, own_cls, fz_cls, own_ty, fz_ty, own_nl, fz_nl, own_no, fz_no, its_tup, its_fl, its_kl, its_nl, bLen_tup, bLen_fl, bLen_kl, bLen_nl, bIdx_tup, bIdx_f, bIdx_kl, bIdx_nl, at_0, at_1, at_2, at_3, at_4, at_5, at_6, at_m1, at_nat, c_yes, bAdd_int, bAdd_tup, bAdd_fl, bNeg_int, bAbs_int, bInt1_int, bInt1_bl, bList_eq, bTuple_eq, cInt_int, cEq_ii, cEq_bb, cEq_nn, cNe_eq, cNin_eq, cIs_non, cIsn_non, tb_bl, tru_non, tru_bl, tru_int, tru_tup, tru_fl, tru_nl, sum_n, sum_f, fnOf_obj, fnOf_no, puts_nil, puts_cons, wipe_nil, wipe_cons, gPos_eq, pick_nil, pick_cons, toL_some, keepF_eq, clrF_eq, appF_eq, gKwD, rgA, rgB, optL_some, optL_none, starG_eq, dun_obj, enum_nil, enum_cons, lst_fl, lst_kl, lst_tup, bCut_tup, bCut_fl, bCut_nl, bCut_kl, cut_m1, psI_int, cut_hi, cut_lo, List.take_succ_cons, List.take_zero, List.drop_succ_cons, List.drop_zero, Int.reduceToNat, isNon_non, isNon_int, isNon_bl, isNon_str, isNon_tup, isNon_fl, isNon_nl, isNon_obj, isNon_ref, natk_int, same_obj, bty_obj, bty_no, bty_nl, Option.isSome_some, Option.isSome_none, popk_nl, Int.reduceEq, beq_self_eq_true, eqk_some, eqk_none, fnOf_non, fnOf_bl, fnOf_int, fnOf_str, fnOf_tup, fnOf_fl, cIsB_eq, cIsnB_eq, cEqT_tup, bRepr_bl, bBool1_bl, bBool1_int, endF_nx, endF_rt, endF_brk, endF_ct, smp_non, smp_bl, smp_int, bty_non, bty_bl, bty_int, bty_str, bty_tup, bty_fl, bty_kl, startF, List.map_cons, List.map_nil, List.cons_append, List.nil_append, List.append_nil, List.length_cons, List.length_nil, List.replicate_succ, List.replicate_zero, List.getElem?_cons_succ, List.getElem?_cons_zero, List.set_cons_succ, List.set_cons_zero, Nat.reduceAdd, Nat.reduceSub, Nat.reduceLeDiff, Nat.reduceLT, Nat.zero_add, and_true, true_and, and_self, false_and, and_false, not_true_eq_false, not_false_eq_true, eq_self, decide_true, decide_false, Bool.not_true, Bool.not_false, Bool.true_and, Bool.false_and, Bool.and_true, Bool.and_false, Bool.or_true, Bool.or_false, Bool.true_or, Bool.false_or, Option.map_some, Option.map_none, Int.toNat_natCast, ↓reduceIte, Bool.false_eq_true, reduceCtorEq, Int.cast_ofNat_Int, Int.reduceLT, Int.reduceLE, Int.reduceAdd, Int.reduceSub, Int.reduceNeg, Int.natCast_zero, big_eq, and_assoc, ↓w__law_source_k1, ↓w__law_source, ↓w__law_draw_k3, ↓w__law_draw_k2, ↓w__law_draw_k1, ↓w__law_draw, ↓w__law_of, ↓w__law_raise_early_k6, ↓w__law_raise_early_k5, ↓w__law_raise_early_k4, ↓w__law_raise_early_k3, ↓w__law_raise_early_k2, ↓w__law_raise_early_k1, ↓w__law_raise_early, ↓w__law_raise_k6, ↓w__law_raise_k5, ↓w__law_raise_k4, ↓w__law_raise_k3, ↓w__law_raise_k2, ↓w__law_raise_k1, ↓w__law_raise, ↓w__law_kinds_y1, ↓w__law_kinds, ↓w__law_words_borne_y1, ↓w__law_words_borne, ↓w__law_numbers_borne_y1, ↓w__law_numbers_borne, ↓w_law_g1, ↓w_law_t1, ↓w_law_e1, ↓w_law_b4, ↓w_law_b5, ↓w_law, v_cond_CountError_0, v_cond_CountError_1, v_cond_CountError_2, v_cond_CountError_3, v_cond_CountError_4, v_cond_CountError_5, v_cond_CountError_6, v_cond_CountError_7, v_cond_CountError_8, v_cond_CountError_9, v_cond_CountError_10, v_cond_CountError_11, v_cond_CountError_12, v_cond_CountError_13, v_cond_CountError_14, v_cond_BadInstance_0, v_cond_BadInstance_1, v_cond_BadInstance_2, v_cond_BadInstance_3, v_cond_BadInstance_4, v_cond_BadInstance_5, v_cond_BadInstance_6, v_cond_BadInstance_7, v_cond_BadInstance_8, v_cond_BadInstance_9, v_cond_BadInstance_10, v_cond_BadInstance_11, v_cond_BadInstance_12, v_cond_BadInstance_13, v_cond_BadInstance_14, v_cond_BadWorld_0, v_cond_BadWorld_1, v_cond_BadWorld_2, v_cond_BadWorld_3, v_cond_BadWorld_4, v_cond_BadWorld_5, v_cond_BadWorld_6, v_cond_BadWorld_7, v_cond_BadWorld_8, v_cond_BadWorld_9, v_cond_BadWorld_10, v_cond_BadWorld_11, v_cond_BadWorld_12, v_cond_BadWorld_13, v_cond_BadWorld_14, v_cond_BadUnit_0, v_cond_BadUnit_1, v_cond_BadUnit_2, v_cond_BadUnit_3, v_cond_BadUnit_4, v_cond_BadUnit_5, v_cond_BadUnit_6, v_cond_BadUnit_7, v_cond_BadUnit_8, v_cond_BadUnit_9, v_cond_BadUnit_10, v_cond_BadUnit_11, v_cond_BadUnit_12, v_cond_BadUnit_13, v_cond_BadUnit_14, v_cond_TooMany_0, v_cond_TooMany_1, v_cond_TooMany_2, v_cond_TooMany_3, v_cond_TooMany_4, v_cond_TooMany_5, v_cond_TooMany_6, v_cond_TooMany_7, v_cond_TooMany_8, v_cond_TooMany_9, v_cond_TooMany_10, v_cond_TooMany_11, v_cond_TooMany_12, v_cond_TooMany_13, v_cond_TooMany_14, v_cond_NotAllowed_0, v_cond_NotAllowed_1, v_cond_NotAllowed_2, v_cond_NotAllowed_3, v_cond_NotAllowed_4, v_cond_NotAllowed_5, v_cond_NotAllowed_6, v_cond_NotAllowed_7, v_cond_NotAllowed_8, v_cond_NotAllowed_9, v_cond_NotAllowed_10, v_cond_NotAllowed_11, v_cond_NotAllowed_12, v_cond_NotAllowed_13, v_cond_NotAllowed_14, v_cond_BadDeed_0, v_cond_BadDeed_1, v_cond_BadDeed_2, v_cond_BadDeed_3, v_cond_BadDeed_4, v_cond_BadDeed_5, v_cond_BadDeed_6, v_cond_BadDeed_7, v_cond_BadDeed_8, v_cond_BadDeed_9, v_cond_BadDeed_10, v_cond_BadDeed_11, v_cond_BadDeed_12, v_cond_BadDeed_13, v_cond_BadDeed_14, v_cond_BadRun_0, v_cond_BadRun_1, v_cond_BadRun_2, v_cond_BadRun_3, v_cond_BadRun_4, v_cond_BadRun_5, v_cond_BadRun_6, v_cond_BadRun_7, v_cond_BadRun_8, v_cond_BadRun_9, v_cond_BadRun_10, v_cond_BadRun_11, v_cond_BadRun_12, v_cond_BadRun_13, v_cond_BadRun_14, v_cond_NoInstance_0, v_cond_NoInstance_1, v_cond_NoInstance_2, v_cond_NoInstance_3, v_cond_NoInstance_4, v_cond_NoInstance_5, v_cond_NoInstance_6, v_cond_NoInstance_7, v_cond_NoInstance_8, v_cond_NoInstance_9, v_cond_NoInstance_10, v_cond_NoInstance_11, v_cond_NoInstance_12, v_cond_NoInstance_13, v_cond_NoInstance_14, v_cond_BadTable_0, v_cond_BadTable_1, v_cond_BadTable_2, v_cond_BadTable_3, v_cond_BadTable_4, v_cond_BadTable_5, v_cond_BadTable_6, v_cond_BadTable_7, v_cond_BadTable_8, v_cond_BadTable_9, v_cond_BadTable_10, v_cond_BadTable_11, v_cond_BadTable_12, v_cond_BadTable_13, v_cond_BadTable_14, v_cond_BadText_0, v_cond_BadText_1, v_cond_BadText_2, v_cond_BadText_3, v_cond_BadText_4, v_cond_BadText_5, v_cond_BadText_6, v_cond_BadText_7, v_cond_BadText_8, v_cond_BadText_9, v_cond_BadText_10, v_cond_BadText_11, v_cond_BadText_12, v_cond_BadText_13, v_cond_BadText_14, v_cond_BadInstance_BadWorld_BadUnit_TooMany_0, v_cond_BadInstance_BadWorld_BadUnit_TooMany_1, v_cond_BadInstance_BadWorld_BadUnit_TooMany_2, v_cond_BadInstance_BadWorld_BadUnit_TooMany_3, v_cond_BadInstance_BadWorld_BadUnit_TooMany_4, v_cond_BadInstance_BadWorld_BadUnit_TooMany_5, v_cond_BadInstance_BadWorld_BadUnit_TooMany_6, v_cond_BadInstance_BadWorld_BadUnit_TooMany_7, v_cond_BadInstance_BadWorld_BadUnit_TooMany_8, v_cond_BadInstance_BadWorld_BadUnit_TooMany_9, v_cond_BadInstance_BadWorld_BadUnit_TooMany_10, v_cond_BadInstance_BadWorld_BadUnit_TooMany_11, v_cond_BadInstance_BadWorld_BadUnit_TooMany_12, v_cond_BadInstance_BadWorld_BadUnit_TooMany_13, v_cond_BadInstance_BadWorld_BadUnit_TooMany_14, v_xf_what_0, v_xf_what_4, v_xf_what_11, v_xf_what_12, v_xf_lacking_5, v_xf_why_6, v_xf_why_7, v_xf_at_3, v_xf_at_7, v_xf_line_8, v_xf_position_10, ↓wf__law_raise, ↓wf__law_raise_early, exnOf, k0, k3, k4, k5, k6, k7, k8, k10, k11, k12, Int.reduceEq, Int.reduceBEq]
end
end L

/-! k97: what the law asks of each error -/
namespace L
open PySem PySem.Spec L2 Pk
def kindsD (road : Nat) : List D := [.bl (road == 0), .bl (road == 1), .bl (road == 2), .bl (road == 3), .bl (road == 4), .bl (road == 5), .bl (road == 6), .bl (road == 7), .bl (road == 8), .bl (road == 9), .bl (road == 10), .bl (road == 11), .bl (road == 12), .bl (road == 13), .bl true]
theorem isx : ∀ c ∈ List.range 15, ∀ k ∈ List.range 14, bIsX errTab c (.cls k) = some (c == k) := by decide +kernel
theorem isx' {c k : Nat} (hc : c < 15) (hk : k < 14) : bIsX errTab c (.cls k) = some (c == k) := isx c (List.mem_range.mpr hc) k (List.mem_range.mpr hk)
theorem isv : ∀ c ∈ List.range 15, bIsX errTab c (.ty "ValueError") = some true := by decide +kernel
theorem ccond : ∀ c ∈ List.range 15, cond_CountError c = some true := by decide +kernel
theorem exn_c {road : Nat} {w : Str} {z : Int} (hr : road < 15) : (exnOf road w z).c = road := by
  match road, hr with
  | 0, _ | 1, _ | 2, _ | 3, _ | 4, _ | 5, _ | 6, _ | 7, _ | 8, _ | 9, _ | 10, _ | 11, _ | 12, _ | 13, _ | 14, _ => rfl
section
variable {w : Str} {z : Int} {h : Hh}
theorem kinds_spec {road : Nat} (hr : road < 15) (hw : w ∈ seven) (hz : z.natAbs.log2 < 1920) : f__law_kinds [.int road, .str w, .int z] h = .ok (.nl (kindsD road)) [] h := by
  have e := fun Q E => raise_spec (h := h) hr hw hz (Q := Q) (E := E)
  have hx := exn_c (w := w) (z := z) hr
  have cc := ccond road (List.mem_range.mpr hr)
  have vv := isv road (List.mem_range.mpr hr)
  have i0 := isx' (k := 0) hr (by decide)
  have i1 := isx' (k := 1) hr (by decide)
  have i2 := isx' (k := 2) hr (by decide)
  have i3 := isx' (k := 3) hr (by decide)
  have i4 := isx' (k := 4) hr (by decide)
  have i5 := isx' (k := 5) hr (by decide)
  have i6 := isx' (k := 6) hr (by decide)
  have i7 := isx' (k := 7) hr (by decide)
  have i8 := isx' (k := 8) hr (by decide)
  have i9 := isx' (k := 9) hr (by decide)
  have i10 := isx' (k := 10) hr (by decide)
  have i11 := isx' (k := 11) hr (by decide)
  have i12 := isx' (k := 12) hr (by decide)
  have i13 := isx' (k := 13) hr (by decide)
  generalize exnOf road w z = x at *
  subst hx
  apply Wp.eq
  simp only [↓wp_ok, ↓wp_ret, ↓wp_bind, ↓wp_opt, ↓wp_C, ↓wp_Fz, ↓wp_Var, ↓wp_Move, ↓wp_Bor, ↓wp_Has, ↓wp_Op, ↓wp_Un, ↓wp_Bl, ↓wp_Not, ↓wp_iteM, ↓wp_And, ↓wp_Or, ↓wp_NotV, ↓wp_AndV, ↓wp_OrV, ↓wp_Chain, ↓wp_If, ↓wp_Args0, ↓wp_Args1, ↓wp_Tup, ↓wp_Lst, ↓wp_Late, ↓wp_Pn, ↓wp_Psi, ↓wp_Pair, ↓wp_Cut, ↓wp_It, ↓wp_Rng1, ↓wp_Rng2, ↓wp_Enum, ↓wp_Seq, ↓wp_IfS, ↓wp_Drop, ↓wp_Ret, ↓wp_Put, ↓wp_Asg, ↓wp_PutE, ↓wp_ForI, ↓wp_Lc, ↓wp_tgNm, ↓wp_tgNil, ↓wp_tgCons, ↓wp_tgTup, ↓wp_mut, ↓wp_AppS, ↓wp_ClrS, ↓wp_AppR, ↓wp_ClrR, ↓wp_SetS, ↓wp_SetR, ↓wp_Cell, ↓wp_PutFld, ↓wp_mutF, ↓wp_Call, ↓wp_Meth, ↓wp_Star, ↓wp_Dun, ↓wp_Prop, ↓wp_runF, ↓wp_runI, ↓wp_turn, ↓wp_lcs0, ↓wp_lcs1, ↓wp_for0, ↓wp_for1, op_some, op_map, op_ite, op_int, sl_some, cd_t, cd_f, bx_cons, bx_nil, flk_nx, flk_rt, flk_brk, flk_ct, rtk_nx, rtk_rt, lpk_nx, lpk_ct, lpk_brk, lpk_rt, nok_some, fld_obj, fld_no, wp_mutR, ↓wp_TryA, ↓wp_TryO, ↓wp_Raise, ↓wp_IsX, ↓wp_XF, ↓wp_MulL, ↓wp_MulR, ↓wp_exc, ↓wp_LenI, ↓wp_GetI, ↓wp_OpM, ↓wp_gIn, ↓wp_gEq, ↓wp_pop, ↓wp_PopS, ↓wp_BoolI, ↓wp_Cm, ↓wp_LateB, ↓wp_gEqX, ↓wp_gEqT, ↓wp_TryN, ↓wp_pick0, ↓wp_pickA, ↓wp_pickO, ↓wp_RaiseB, own_int, fz_int, own_bl, fz_bl, own_str, fz_str, own_non, fz_non, own_tup, fz_tup, own_fl, fz_fl, own_kl, fz_kl, own_obj, fz_obj, own_ref, fz_ref, own_cls, fz_cls, own_ty, fz_ty, own_nl, fz_nl, own_no, fz_no, its_tup, its_fl, its_kl, its_nl, bLen_tup, bLen_fl, bLen_kl, bLen_nl, bIdx_tup, bIdx_f, bIdx_kl, bIdx_nl, at_0, at_1, at_2, at_3, at_4, at_5, at_6, at_m1, at_nat, c_yes, bAdd_int, bAdd_tup, bAdd_fl, bNeg_int, bAbs_int, bInt1_int, bInt1_bl, bList_eq, bTuple_eq, cInt_int, cEq_ii, cEq_bb, cEq_nn, cNe_eq, cNin_eq, cIs_non, cIsn_non, tb_bl, tru_non, tru_bl, tru_int, tru_tup, tru_fl, tru_nl, sum_n, sum_f, fnOf_obj, fnOf_no, puts_nil, puts_cons, wipe_nil, wipe_cons, gPos_eq, pick_nil, pick_cons, toL_some, keepF_eq, clrF_eq, appF_eq, gKwD, rgA, rgB, optL_some, optL_none, starG_eq, dun_obj, enum_nil, enum_cons, lst_fl, lst_kl, lst_tup, bCut_tup, bCut_fl, bCut_nl, bCut_kl, cut_m1, psI_int, cut_hi, cut_lo, List.take_succ_cons, List.take_zero, List.drop_succ_cons, List.drop_zero, Int.reduceToNat, isNon_non, isNon_int, isNon_bl, isNon_str, isNon_tup, isNon_fl, isNon_nl, isNon_obj, isNon_ref, natk_int, same_obj, bty_obj, bty_no, bty_nl, Option.isSome_some, Option.isSome_none, popk_nl, Int.reduceEq, beq_self_eq_true, eqk_some, eqk_none, fnOf_non, fnOf_bl, fnOf_int, fnOf_str, fnOf_tup, fnOf_fl, cIsB_eq, cIsnB_eq, cEqT_tup, bRepr_bl, bBool1_bl, bBool1_int, endF_nx, endF_rt, endF_brk, endF_ct, smp_non, smp_bl, smp_int, bty_non, bty_bl, bty_int, bty_str, bty_tup, bty_fl, bty_kl, startF, List.map_cons, List.map_nil, List.cons_append, List.nil_append, List.append_nil, List.length_cons, List.length_nil, List.replicate_succ, List.replicate_zero, List.getElem?_cons_succ, List.getElem?_cons_zero, List.set_cons_succ, List.set_cons_zero, Nat.reduceAdd, Nat.reduceSub, Nat.reduceLeDiff, Nat.reduceLT, Nat.zero_add, and_true, true_and, and_self, false_and, and_false, not_true_eq_false, not_false_eq_true, eq_self, decide_true, decide_false, Bool.not_true, Bool.not_false, Bool.true_and, Bool.false_and, Bool.and_true, Bool.and_false, Bool.or_true, Bool.or_false, Bool.true_or, Bool.false_or, Option.map_some, Option.map_none, Int.toNat_natCast, ↓reduceIte, Bool.false_eq_true, reduceCtorEq, Int.cast_ofNat_Int, Int.reduceLT, Int.reduceLE, Int.reduceAdd, Int.reduceSub, Int.reduceNeg, Int.natCast_zero, big_eq, and_assoc, ↓w__law_source_k1, ↓w__law_source, ↓w__law_draw_k3, ↓w__law_draw_k2, ↓w__law_draw_k1, ↓w__law_draw, ↓w__law_of, ↓w__law_raise_early_k6, ↓w__law_raise_early_k5, ↓w__law_raise_early_k4, ↓w__law_raise_early_k3, ↓w__law_raise_early_k2, ↓w__law_raise_early_k1, ↓w__law_raise_early, ↓w__law_raise_k6, ↓w__law_raise_k5, ↓w__law_raise_k4, ↓w__law_raise_k3, ↓w__law_raise_k2, ↓w__law_raise_k1, ↓w__law_raise, ↓w__law_kinds_y1, ↓w__law_kinds, ↓w__law_words_borne_y1, ↓w__law_words_borne, ↓w__law_numbers_borne_y1, ↓w__law_numbers_borne, ↓w_law_g1, ↓w_law_t1, ↓w_law_e1, ↓w_law_b4, ↓w_law_b5, ↓w_law, v_cond_CountError_0, v_cond_CountError_1, v_cond_CountError_2, v_cond_CountError_3, v_cond_CountError_4, v_cond_CountError_5, v_cond_CountError_6, v_cond_CountError_7, v_cond_CountError_8, v_cond_CountError_9, v_cond_CountError_10, v_cond_CountError_11, v_cond_CountError_12, v_cond_CountError_13, v_cond_CountError_14, v_cond_BadInstance_0, v_cond_BadInstance_1, v_cond_BadInstance_2, v_cond_BadInstance_3, v_cond_BadInstance_4, v_cond_BadInstance_5, v_cond_BadInstance_6, v_cond_BadInstance_7, v_cond_BadInstance_8, v_cond_BadInstance_9, v_cond_BadInstance_10, v_cond_BadInstance_11, v_cond_BadInstance_12, v_cond_BadInstance_13, v_cond_BadInstance_14, v_cond_BadWorld_0, v_cond_BadWorld_1, v_cond_BadWorld_2, v_cond_BadWorld_3, v_cond_BadWorld_4, v_cond_BadWorld_5, v_cond_BadWorld_6, v_cond_BadWorld_7, v_cond_BadWorld_8, v_cond_BadWorld_9, v_cond_BadWorld_10, v_cond_BadWorld_11, v_cond_BadWorld_12, v_cond_BadWorld_13, v_cond_BadWorld_14, v_cond_BadUnit_0, v_cond_BadUnit_1, v_cond_BadUnit_2, v_cond_BadUnit_3, v_cond_BadUnit_4, v_cond_BadUnit_5, v_cond_BadUnit_6, v_cond_BadUnit_7, v_cond_BadUnit_8, v_cond_BadUnit_9, v_cond_BadUnit_10, v_cond_BadUnit_11, v_cond_BadUnit_12, v_cond_BadUnit_13, v_cond_BadUnit_14, v_cond_TooMany_0, v_cond_TooMany_1, v_cond_TooMany_2, v_cond_TooMany_3, v_cond_TooMany_4, v_cond_TooMany_5, v_cond_TooMany_6, v_cond_TooMany_7, v_cond_TooMany_8, v_cond_TooMany_9, v_cond_TooMany_10, v_cond_TooMany_11, v_cond_TooMany_12, v_cond_TooMany_13, v_cond_TooMany_14, v_cond_NotAllowed_0, v_cond_NotAllowed_1, v_cond_NotAllowed_2, v_cond_NotAllowed_3, v_cond_NotAllowed_4, v_cond_NotAllowed_5, v_cond_NotAllowed_6, v_cond_NotAllowed_7, v_cond_NotAllowed_8, v_cond_NotAllowed_9, v_cond_NotAllowed_10, v_cond_NotAllowed_11, v_cond_NotAllowed_12, v_cond_NotAllowed_13, v_cond_NotAllowed_14, v_cond_BadDeed_0, v_cond_BadDeed_1, v_cond_BadDeed_2, v_cond_BadDeed_3, v_cond_BadDeed_4, v_cond_BadDeed_5, v_cond_BadDeed_6, v_cond_BadDeed_7, v_cond_BadDeed_8, v_cond_BadDeed_9, v_cond_BadDeed_10, v_cond_BadDeed_11, v_cond_BadDeed_12, v_cond_BadDeed_13, v_cond_BadDeed_14, v_cond_BadRun_0, v_cond_BadRun_1, v_cond_BadRun_2, v_cond_BadRun_3, v_cond_BadRun_4, v_cond_BadRun_5, v_cond_BadRun_6, v_cond_BadRun_7, v_cond_BadRun_8, v_cond_BadRun_9, v_cond_BadRun_10, v_cond_BadRun_11, v_cond_BadRun_12, v_cond_BadRun_13, v_cond_BadRun_14, v_cond_NoInstance_0, v_cond_NoInstance_1, v_cond_NoInstance_2, v_cond_NoInstance_3, v_cond_NoInstance_4, v_cond_NoInstance_5, v_cond_NoInstance_6, v_cond_NoInstance_7, v_cond_NoInstance_8, v_cond_NoInstance_9, v_cond_NoInstance_10, v_cond_NoInstance_11, v_cond_NoInstance_12, v_cond_NoInstance_13, v_cond_NoInstance_14, v_cond_BadTable_0, v_cond_BadTable_1, v_cond_BadTable_2, v_cond_BadTable_3, v_cond_BadTable_4, v_cond_BadTable_5, v_cond_BadTable_6, v_cond_BadTable_7, v_cond_BadTable_8, v_cond_BadTable_9, v_cond_BadTable_10, v_cond_BadTable_11, v_cond_BadTable_12, v_cond_BadTable_13, v_cond_BadTable_14, v_cond_BadText_0, v_cond_BadText_1, v_cond_BadText_2, v_cond_BadText_3, v_cond_BadText_4, v_cond_BadText_5, v_cond_BadText_6, v_cond_BadText_7, v_cond_BadText_8, v_cond_BadText_9, v_cond_BadText_10, v_cond_BadText_11, v_cond_BadText_12, v_cond_BadText_13, v_cond_BadText_14, v_cond_BadInstance_BadWorld_BadUnit_TooMany_0, v_cond_BadInstance_BadWorld_BadUnit_TooMany_1, v_cond_BadInstance_BadWorld_BadUnit_TooMany_2, v_cond_BadInstance_BadWorld_BadUnit_TooMany_3, v_cond_BadInstance_BadWorld_BadUnit_TooMany_4, v_cond_BadInstance_BadWorld_BadUnit_TooMany_5, v_cond_BadInstance_BadWorld_BadUnit_TooMany_6, v_cond_BadInstance_BadWorld_BadUnit_TooMany_7, v_cond_BadInstance_BadWorld_BadUnit_TooMany_8, v_cond_BadInstance_BadWorld_BadUnit_TooMany_9, v_cond_BadInstance_BadWorld_BadUnit_TooMany_10, v_cond_BadInstance_BadWorld_BadUnit_TooMany_11, v_cond_BadInstance_BadWorld_BadUnit_TooMany_12, v_cond_BadInstance_BadWorld_BadUnit_TooMany_13, v_cond_BadInstance_BadWorld_BadUnit_TooMany_14, v_xf_what_0, v_xf_what_4, v_xf_what_11, v_xf_what_12, v_xf_lacking_5, v_xf_why_6, v_xf_why_7, v_xf_at_3, v_xf_at_7, v_xf_line_8, v_xf_position_10, Nat.reduceLT, ↓wf__law_kinds, e, cc, vv, i0, i1, i2, i3, i4, i5, i6, i7, i8, i9, i10, i11, i12, i13, kindsD]
/-- the words that an error of a road bears -/
def wordsOf (road : Nat) (w : Str) (z : Int) : List D := match road with
  | 0 => [.str w]
  | 4 => [.str w]
  | 5 => [.tup [.str w, .str "past"]]
  | 6 => [.str w]
  | 7 => [.int z, .str w]
  | 11 => [.str w]
  | 12 => [.str w]
  | _ => []
def numsOf (road : Nat) (z : Int) : List D := match road with
  | 3 => [.int z]
  | 8 => [.int z]
  | 10 => [.int z]
  | _ => []
theorem words_borne {road : Nat} (hr : road < 15) (hw : w ∈ seven) (hz : z.natAbs.log2 < 1920) : f__law_words_borne [.int road, .str w, .int z] h = .ok (.nl (wordsOf road w z)) [] h := by
  have e := fun Q E => raise_spec (h := h) hr hw hz (Q := Q) (E := E)
  match road, hr with
  | 0, _ | 1, _ | 2, _ | 3, _ | 4, _ | 5, _ | 6, _ | 7, _ | 8, _ | 9, _ | 10, _ | 11, _ | 12, _ | 13, _ | 14, _ =>
    simp only [Int.cast_ofNat_Int, Int.natCast_zero, Int.natCast_one] at e ⊢
    apply Wp.eq
    simp only [↓wp_ok, ↓wp_ret, ↓wp_bind, ↓wp_opt, ↓wp_C, ↓wp_Fz, ↓wp_Var, ↓wp_Move, ↓wp_Bor, ↓wp_Has, ↓wp_Op, ↓wp_Un, ↓wp_Bl, ↓wp_Not, ↓wp_iteM, ↓wp_And, ↓wp_Or, ↓wp_NotV, ↓wp_AndV, ↓wp_OrV, ↓wp_Chain, ↓wp_If, ↓wp_Args0, ↓wp_Args1, ↓wp_Tup, ↓wp_Lst, ↓wp_Late, ↓wp_Pn, ↓wp_Psi, ↓wp_Pair, ↓wp_Cut, ↓wp_It, ↓wp_Rng1, ↓wp_Rng2, ↓wp_Enum, ↓wp_Seq, ↓wp_IfS, ↓wp_Drop, ↓wp_Ret, ↓wp_Put, ↓wp_Asg, ↓wp_PutE, ↓wp_ForI, ↓wp_Lc, ↓wp_tgNm, ↓wp_tgNil, ↓wp_tgCons, ↓wp_tgTup, ↓wp_mut, ↓wp_AppS, ↓wp_ClrS, ↓wp_AppR, ↓wp_ClrR, ↓wp_SetS, ↓wp_SetR, ↓wp_Cell, ↓wp_PutFld, ↓wp_mutF, ↓wp_Call, ↓wp_Meth, ↓wp_Star, ↓wp_Dun, ↓wp_Prop, ↓wp_runF, ↓wp_runI, ↓wp_turn, ↓wp_lcs0, ↓wp_lcs1, ↓wp_for0, ↓wp_for1, op_some, op_map, op_ite, op_int, sl_some, cd_t, cd_f, bx_cons, bx_nil, flk_nx, flk_rt, flk_brk, flk_ct, rtk_nx, rtk_rt, lpk_nx, lpk_ct, lpk_brk, lpk_rt, nok_some, fld_obj, fld_no, wp_mutR, ↓wp_TryA, ↓wp_TryO, ↓wp_Raise, ↓wp_IsX, ↓wp_XF, ↓wp_MulL, ↓wp_MulR, ↓wp_exc, ↓wp_LenI, ↓wp_GetI, ↓wp_OpM, ↓wp_gIn, ↓wp_gEq, ↓wp_pop, ↓wp_PopS, ↓wp_BoolI, ↓wp_Cm, ↓wp_LateB, ↓wp_gEqX, ↓wp_gEqT, ↓wp_TryN, ↓wp_pick0, ↓wp_pickA, ↓wp_pickO, ↓wp_RaiseB, own_int, fz_int, own_bl, fz_bl, own_str, fz_str, own_non, fz_non, own_tup, fz_tup, own_fl, fz_fl, own_kl, fz_kl, own_obj, fz_obj, own_ref, fz_ref, own_cls, fz_cls, own_ty, fz_ty, own_nl, fz_nl, own_no, fz_no, its_tup, its_fl, its_kl, its_nl, bLen_tup, bLen_fl, bLen_kl, bLen_nl, bIdx_tup, bIdx_f, bIdx_kl, bIdx_nl, at_0, at_1, at_2, at_3, at_4, at_5, at_6, at_m1, at_nat, c_yes, bAdd_int, bAdd_tup, bAdd_fl, bNeg_int, bAbs_int, bInt1_int, bInt1_bl, bList_eq, bTuple_eq, cInt_int, cEq_ii, cEq_bb, cEq_nn, cNe_eq, cNin_eq, cIs_non, cIsn_non, tb_bl, tru_non, tru_bl, tru_int, tru_tup, tru_fl, tru_nl, sum_n, sum_f, fnOf_obj, fnOf_no, puts_nil, puts_cons, wipe_nil, wipe_cons, gPos_eq, pick_nil, pick_cons, toL_some, keepF_eq, clrF_eq, appF_eq, gKwD, rgA, rgB, optL_some, optL_none, starG_eq, dun_obj, enum_nil, enum_cons, lst_fl, lst_kl, lst_tup, bCut_tup, bCut_fl, bCut_nl, bCut_kl, cut_m1, psI_int, cut_hi, cut_lo, List.take_succ_cons, List.take_zero, List.drop_succ_cons, List.drop_zero, Int.reduceToNat, isNon_non, isNon_int, isNon_bl, isNon_str, isNon_tup, isNon_fl, isNon_nl, isNon_obj, isNon_ref, natk_int, same_obj, bty_obj, bty_no, bty_nl, Option.isSome_some, Option.isSome_none, popk_nl, Int.reduceEq, beq_self_eq_true, eqk_some, eqk_none, fnOf_non, fnOf_bl, fnOf_int, fnOf_str, fnOf_tup, fnOf_fl, cIsB_eq, cIsnB_eq, cEqT_tup, bRepr_bl, bBool1_bl, bBool1_int, endF_nx, endF_rt, endF_brk, endF_ct, smp_non, smp_bl, smp_int, bty_non, bty_bl, bty_int, bty_str, bty_tup, bty_fl, bty_kl, startF, List.map_cons, List.map_nil, List.cons_append, List.nil_append, List.append_nil, List.length_cons, List.length_nil, List.replicate_succ, List.replicate_zero, List.getElem?_cons_succ, List.getElem?_cons_zero, List.set_cons_succ, List.set_cons_zero, Nat.reduceAdd, Nat.reduceSub, Nat.reduceLeDiff, Nat.reduceLT, Nat.zero_add, and_true, true_and, and_self, false_and, and_false, not_true_eq_false, not_false_eq_true, eq_self, decide_true, decide_false, Bool.not_true, Bool.not_false, Bool.true_and, Bool.false_and, Bool.and_true, Bool.and_false, Bool.or_true, Bool.or_false, Bool.true_or, Bool.false_or, Option.map_some, Option.map_none, Int.toNat_natCast, ↓reduceIte, Bool.false_eq_true, reduceCtorEq, Int.cast_ofNat_Int, Int.reduceLT, Int.reduceLE, Int.reduceAdd, Int.reduceSub, Int.reduceNeg, Int.natCast_zero, big_eq, and_assoc, ↓w__law_source_k1, ↓w__law_source, ↓w__law_draw_k3, ↓w__law_draw_k2, ↓w__law_draw_k1, ↓w__law_draw, ↓w__law_of, ↓w__law_raise_early_k6, ↓w__law_raise_early_k5, ↓w__law_raise_early_k4, ↓w__law_raise_early_k3, ↓w__law_raise_early_k2, ↓w__law_raise_early_k1, ↓w__law_raise_early, ↓w__law_raise_k6, ↓w__law_raise_k5, ↓w__law_raise_k4, ↓w__law_raise_k3, ↓w__law_raise_k2, ↓w__law_raise_k1, ↓w__law_kinds_y1, ↓w__law_kinds, ↓w__law_words_borne_y1, ↓w__law_words_borne, ↓w__law_numbers_borne_y1, ↓w__law_numbers_borne, ↓w_law_g1, ↓w_law_t1, ↓w_law_e1, ↓w_law_b4, ↓w_law_b5, ↓w_law, v_cond_CountError_0, v_cond_CountError_1, v_cond_CountError_2, v_cond_CountError_3, v_cond_CountError_4, v_cond_CountError_5, v_cond_CountError_6, v_cond_CountError_7, v_cond_CountError_8, v_cond_CountError_9, v_cond_CountError_10, v_cond_CountError_11, v_cond_CountError_12, v_cond_CountError_13, v_cond_CountError_14, v_cond_BadInstance_0, v_cond_BadInstance_1, v_cond_BadInstance_2, v_cond_BadInstance_3, v_cond_BadInstance_4, v_cond_BadInstance_5, v_cond_BadInstance_6, v_cond_BadInstance_7, v_cond_BadInstance_8, v_cond_BadInstance_9, v_cond_BadInstance_10, v_cond_BadInstance_11, v_cond_BadInstance_12, v_cond_BadInstance_13, v_cond_BadInstance_14, v_cond_BadWorld_0, v_cond_BadWorld_1, v_cond_BadWorld_2, v_cond_BadWorld_3, v_cond_BadWorld_4, v_cond_BadWorld_5, v_cond_BadWorld_6, v_cond_BadWorld_7, v_cond_BadWorld_8, v_cond_BadWorld_9, v_cond_BadWorld_10, v_cond_BadWorld_11, v_cond_BadWorld_12, v_cond_BadWorld_13, v_cond_BadWorld_14, v_cond_BadUnit_0, v_cond_BadUnit_1, v_cond_BadUnit_2, v_cond_BadUnit_3, v_cond_BadUnit_4, v_cond_BadUnit_5, v_cond_BadUnit_6, v_cond_BadUnit_7, v_cond_BadUnit_8, v_cond_BadUnit_9, v_cond_BadUnit_10, v_cond_BadUnit_11, v_cond_BadUnit_12, v_cond_BadUnit_13, v_cond_BadUnit_14, v_cond_TooMany_0, v_cond_TooMany_1, v_cond_TooMany_2, v_cond_TooMany_3, v_cond_TooMany_4, v_cond_TooMany_5, v_cond_TooMany_6, v_cond_TooMany_7, v_cond_TooMany_8, v_cond_TooMany_9, v_cond_TooMany_10, v_cond_TooMany_11, v_cond_TooMany_12, v_cond_TooMany_13, v_cond_TooMany_14, v_cond_NotAllowed_0, v_cond_NotAllowed_1, v_cond_NotAllowed_2, v_cond_NotAllowed_3, v_cond_NotAllowed_4, v_cond_NotAllowed_5, v_cond_NotAllowed_6, v_cond_NotAllowed_7, v_cond_NotAllowed_8, v_cond_NotAllowed_9, v_cond_NotAllowed_10, v_cond_NotAllowed_11, v_cond_NotAllowed_12, v_cond_NotAllowed_13, v_cond_NotAllowed_14, v_cond_BadDeed_0, v_cond_BadDeed_1, v_cond_BadDeed_2, v_cond_BadDeed_3, v_cond_BadDeed_4, v_cond_BadDeed_5, v_cond_BadDeed_6, v_cond_BadDeed_7, v_cond_BadDeed_8, v_cond_BadDeed_9, v_cond_BadDeed_10, v_cond_BadDeed_11, v_cond_BadDeed_12, v_cond_BadDeed_13, v_cond_BadDeed_14, v_cond_BadRun_0, v_cond_BadRun_1, v_cond_BadRun_2, v_cond_BadRun_3, v_cond_BadRun_4, v_cond_BadRun_5, v_cond_BadRun_6, v_cond_BadRun_7, v_cond_BadRun_8, v_cond_BadRun_9, v_cond_BadRun_10, v_cond_BadRun_11, v_cond_BadRun_12, v_cond_BadRun_13, v_cond_BadRun_14, v_cond_NoInstance_0, v_cond_NoInstance_1, v_cond_NoInstance_2, v_cond_NoInstance_3, v_cond_NoInstance_4, v_cond_NoInstance_5, v_cond_NoInstance_6, v_cond_NoInstance_7, v_cond_NoInstance_8, v_cond_NoInstance_9, v_cond_NoInstance_10, v_cond_NoInstance_11, v_cond_NoInstance_12, v_cond_NoInstance_13, v_cond_NoInstance_14, v_cond_BadTable_0, v_cond_BadTable_1, v_cond_BadTable_2, v_cond_BadTable_3, v_cond_BadTable_4, v_cond_BadTable_5, v_cond_BadTable_6, v_cond_BadTable_7, v_cond_BadTable_8, v_cond_BadTable_9, v_cond_BadTable_10, v_cond_BadTable_11, v_cond_BadTable_12, v_cond_BadTable_13, v_cond_BadTable_14, v_cond_BadText_0, v_cond_BadText_1, v_cond_BadText_2, v_cond_BadText_3, v_cond_BadText_4, v_cond_BadText_5, v_cond_BadText_6, v_cond_BadText_7, v_cond_BadText_8, v_cond_BadText_9, v_cond_BadText_10, v_cond_BadText_11, v_cond_BadText_12, v_cond_BadText_13, v_cond_BadText_14, v_cond_BadInstance_BadWorld_BadUnit_TooMany_0, v_cond_BadInstance_BadWorld_BadUnit_TooMany_1, v_cond_BadInstance_BadWorld_BadUnit_TooMany_2, v_cond_BadInstance_BadWorld_BadUnit_TooMany_3, v_cond_BadInstance_BadWorld_BadUnit_TooMany_4, v_cond_BadInstance_BadWorld_BadUnit_TooMany_5, v_cond_BadInstance_BadWorld_BadUnit_TooMany_6, v_cond_BadInstance_BadWorld_BadUnit_TooMany_7, v_cond_BadInstance_BadWorld_BadUnit_TooMany_8, v_cond_BadInstance_BadWorld_BadUnit_TooMany_9, v_cond_BadInstance_BadWorld_BadUnit_TooMany_10, v_cond_BadInstance_BadWorld_BadUnit_TooMany_11, v_cond_BadInstance_BadWorld_BadUnit_TooMany_12, v_cond_BadInstance_BadWorld_BadUnit_TooMany_13, v_cond_BadInstance_BadWorld_BadUnit_TooMany_14, v_xf_what_0, v_xf_what_4, v_xf_what_11, v_xf_what_12, v_xf_lacking_5, v_xf_why_6, v_xf_why_7, v_xf_at_3, v_xf_at_7, v_xf_line_8, v_xf_position_10, Nat.reduceLT, ↓wf__law_words_borne, e, exnOf]
    rfl
theorem nums_borne {road : Nat} (hr : road < 15) (hw : w ∈ seven) (hz : z.natAbs.log2 < 1920) : f__law_numbers_borne [.int road, .str w, .int z] h = .ok (.nl (numsOf road z)) [] h := by
  have e := fun Q E => raise_spec (h := h) hr hw hz (Q := Q) (E := E)
  match road, hr with
  | 0, _ | 1, _ | 2, _ | 3, _ | 4, _ | 5, _ | 6, _ | 7, _ | 8, _ | 9, _ | 10, _ | 11, _ | 12, _ | 13, _ | 14, _ =>
    simp only [Int.cast_ofNat_Int, Int.natCast_zero, Int.natCast_one] at e ⊢
    apply Wp.eq
    simp only [↓wp_ok, ↓wp_ret, ↓wp_bind, ↓wp_opt, ↓wp_C, ↓wp_Fz, ↓wp_Var, ↓wp_Move, ↓wp_Bor, ↓wp_Has, ↓wp_Op, ↓wp_Un, ↓wp_Bl, ↓wp_Not, ↓wp_iteM, ↓wp_And, ↓wp_Or, ↓wp_NotV, ↓wp_AndV, ↓wp_OrV, ↓wp_Chain, ↓wp_If, ↓wp_Args0, ↓wp_Args1, ↓wp_Tup, ↓wp_Lst, ↓wp_Late, ↓wp_Pn, ↓wp_Psi, ↓wp_Pair, ↓wp_Cut, ↓wp_It, ↓wp_Rng1, ↓wp_Rng2, ↓wp_Enum, ↓wp_Seq, ↓wp_IfS, ↓wp_Drop, ↓wp_Ret, ↓wp_Put, ↓wp_Asg, ↓wp_PutE, ↓wp_ForI, ↓wp_Lc, ↓wp_tgNm, ↓wp_tgNil, ↓wp_tgCons, ↓wp_tgTup, ↓wp_mut, ↓wp_AppS, ↓wp_ClrS, ↓wp_AppR, ↓wp_ClrR, ↓wp_SetS, ↓wp_SetR, ↓wp_Cell, ↓wp_PutFld, ↓wp_mutF, ↓wp_Call, ↓wp_Meth, ↓wp_Star, ↓wp_Dun, ↓wp_Prop, ↓wp_runF, ↓wp_runI, ↓wp_turn, ↓wp_lcs0, ↓wp_lcs1, ↓wp_for0, ↓wp_for1, op_some, op_map, op_ite, op_int, sl_some, cd_t, cd_f, bx_cons, bx_nil, flk_nx, flk_rt, flk_brk, flk_ct, rtk_nx, rtk_rt, lpk_nx, lpk_ct, lpk_brk, lpk_rt, nok_some, fld_obj, fld_no, wp_mutR, ↓wp_TryA, ↓wp_TryO, ↓wp_Raise, ↓wp_IsX, ↓wp_XF, ↓wp_MulL, ↓wp_MulR, ↓wp_exc, ↓wp_LenI, ↓wp_GetI, ↓wp_OpM, ↓wp_gIn, ↓wp_gEq, ↓wp_pop, ↓wp_PopS, ↓wp_BoolI, ↓wp_Cm, ↓wp_LateB, ↓wp_gEqX, ↓wp_gEqT, ↓wp_TryN, ↓wp_pick0, ↓wp_pickA, ↓wp_pickO, ↓wp_RaiseB, own_int, fz_int, own_bl, fz_bl, own_str, fz_str, own_non, fz_non, own_tup, fz_tup, own_fl, fz_fl, own_kl, fz_kl, own_obj, fz_obj, own_ref, fz_ref, own_cls, fz_cls, own_ty, fz_ty, own_nl, fz_nl, own_no, fz_no, its_tup, its_fl, its_kl, its_nl, bLen_tup, bLen_fl, bLen_kl, bLen_nl, bIdx_tup, bIdx_f, bIdx_kl, bIdx_nl, at_0, at_1, at_2, at_3, at_4, at_5, at_6, at_m1, at_nat, c_yes, bAdd_int, bAdd_tup, bAdd_fl, bNeg_int, bAbs_int, bInt1_int, bInt1_bl, bList_eq, bTuple_eq, cInt_int, cEq_ii, cEq_bb, cEq_nn, cNe_eq, cNin_eq, cIs_non, cIsn_non, tb_bl, tru_non, tru_bl, tru_int, tru_tup, tru_fl, tru_nl, sum_n, sum_f, fnOf_obj, fnOf_no, puts_nil, puts_cons, wipe_nil, wipe_cons, gPos_eq, pick_nil, pick_cons, toL_some, keepF_eq, clrF_eq, appF_eq, gKwD, rgA, rgB, optL_some, optL_none, starG_eq, dun_obj, enum_nil, enum_cons, lst_fl, lst_kl, lst_tup, bCut_tup, bCut_fl, bCut_nl, bCut_kl, cut_m1, psI_int, cut_hi, cut_lo, List.take_succ_cons, List.take_zero, List.drop_succ_cons, List.drop_zero, Int.reduceToNat, isNon_non, isNon_int, isNon_bl, isNon_str, isNon_tup, isNon_fl, isNon_nl, isNon_obj, isNon_ref, natk_int, same_obj, bty_obj, bty_no, bty_nl, Option.isSome_some, Option.isSome_none, popk_nl, Int.reduceEq, beq_self_eq_true, eqk_some, eqk_none, fnOf_non, fnOf_bl, fnOf_int, fnOf_str, fnOf_tup, fnOf_fl, cIsB_eq, cIsnB_eq, cEqT_tup, bRepr_bl, bBool1_bl, bBool1_int, endF_nx, endF_rt, endF_brk, endF_ct, smp_non, smp_bl, smp_int, bty_non, bty_bl, bty_int, bty_str, bty_tup, bty_fl, bty_kl, startF, List.map_cons, List.map_nil, List.cons_append, List.nil_append, List.append_nil, List.length_cons, List.length_nil, List.replicate_succ, List.replicate_zero, List.getElem?_cons_succ, List.getElem?_cons_zero, List.set_cons_succ, List.set_cons_zero, Nat.reduceAdd, Nat.reduceSub, Nat.reduceLeDiff, Nat.reduceLT, Nat.zero_add, and_true, true_and, and_self, false_and, and_false, not_true_eq_false, not_false_eq_true, eq_self, decide_true, decide_false, Bool.not_true, Bool.not_false, Bool.true_and, Bool.false_and, Bool.and_true, Bool.and_false, Bool.or_true, Bool.or_false, Bool.true_or, Bool.false_or, Option.map_some, Option.map_none, Int.toNat_natCast, ↓reduceIte, Bool.false_eq_true, reduceCtorEq, Int.cast_ofNat_Int, Int.reduceLT, Int.reduceLE, Int.reduceAdd, Int.reduceSub, Int.reduceNeg, Int.natCast_zero, big_eq, and_assoc, ↓w__law_source_k1, ↓w__law_source, ↓w__law_draw_k3, ↓w__law_draw_k2, ↓w__law_draw_k1, ↓w__law_draw, ↓w__law_of, ↓w__law_raise_early_k6, ↓w__law_raise_early_k5, ↓w__law_raise_early_k4, ↓w__law_raise_early_k3, ↓w__law_raise_early_k2, ↓w__law_raise_early_k1, ↓w__law_raise_early, ↓w__law_raise_k6, ↓w__law_raise_k5, ↓w__law_raise_k4, ↓w__law_raise_k3, ↓w__law_raise_k2, ↓w__law_raise_k1, ↓w__law_kinds_y1, ↓w__law_kinds, ↓w__law_words_borne_y1, ↓w__law_words_borne, ↓w__law_numbers_borne_y1, ↓w__law_numbers_borne, ↓w_law_g1, ↓w_law_t1, ↓w_law_e1, ↓w_law_b4, ↓w_law_b5, ↓w_law, v_cond_CountError_0, v_cond_CountError_1, v_cond_CountError_2, v_cond_CountError_3, v_cond_CountError_4, v_cond_CountError_5, v_cond_CountError_6, v_cond_CountError_7, v_cond_CountError_8, v_cond_CountError_9, v_cond_CountError_10, v_cond_CountError_11, v_cond_CountError_12, v_cond_CountError_13, v_cond_CountError_14, v_cond_BadInstance_0, v_cond_BadInstance_1, v_cond_BadInstance_2, v_cond_BadInstance_3, v_cond_BadInstance_4, v_cond_BadInstance_5, v_cond_BadInstance_6, v_cond_BadInstance_7, v_cond_BadInstance_8, v_cond_BadInstance_9, v_cond_BadInstance_10, v_cond_BadInstance_11, v_cond_BadInstance_12, v_cond_BadInstance_13, v_cond_BadInstance_14, v_cond_BadWorld_0, v_cond_BadWorld_1, v_cond_BadWorld_2, v_cond_BadWorld_3, v_cond_BadWorld_4, v_cond_BadWorld_5, v_cond_BadWorld_6, v_cond_BadWorld_7, v_cond_BadWorld_8, v_cond_BadWorld_9, v_cond_BadWorld_10, v_cond_BadWorld_11, v_cond_BadWorld_12, v_cond_BadWorld_13, v_cond_BadWorld_14, v_cond_BadUnit_0, v_cond_BadUnit_1, v_cond_BadUnit_2, v_cond_BadUnit_3, v_cond_BadUnit_4, v_cond_BadUnit_5, v_cond_BadUnit_6, v_cond_BadUnit_7, v_cond_BadUnit_8, v_cond_BadUnit_9, v_cond_BadUnit_10, v_cond_BadUnit_11, v_cond_BadUnit_12, v_cond_BadUnit_13, v_cond_BadUnit_14, v_cond_TooMany_0, v_cond_TooMany_1, v_cond_TooMany_2, v_cond_TooMany_3, v_cond_TooMany_4, v_cond_TooMany_5, v_cond_TooMany_6, v_cond_TooMany_7, v_cond_TooMany_8, v_cond_TooMany_9, v_cond_TooMany_10, v_cond_TooMany_11, v_cond_TooMany_12, v_cond_TooMany_13, v_cond_TooMany_14, v_cond_NotAllowed_0, v_cond_NotAllowed_1, v_cond_NotAllowed_2, v_cond_NotAllowed_3, v_cond_NotAllowed_4, v_cond_NotAllowed_5, v_cond_NotAllowed_6, v_cond_NotAllowed_7, v_cond_NotAllowed_8, v_cond_NotAllowed_9, v_cond_NotAllowed_10, v_cond_NotAllowed_11, v_cond_NotAllowed_12, v_cond_NotAllowed_13, v_cond_NotAllowed_14, v_cond_BadDeed_0, v_cond_BadDeed_1, v_cond_BadDeed_2, v_cond_BadDeed_3, v_cond_BadDeed_4, v_cond_BadDeed_5, v_cond_BadDeed_6, v_cond_BadDeed_7, v_cond_BadDeed_8, v_cond_BadDeed_9, v_cond_BadDeed_10, v_cond_BadDeed_11, v_cond_BadDeed_12, v_cond_BadDeed_13, v_cond_BadDeed_14, v_cond_BadRun_0, v_cond_BadRun_1, v_cond_BadRun_2, v_cond_BadRun_3, v_cond_BadRun_4, v_cond_BadRun_5, v_cond_BadRun_6, v_cond_BadRun_7, v_cond_BadRun_8, v_cond_BadRun_9, v_cond_BadRun_10, v_cond_BadRun_11, v_cond_BadRun_12, v_cond_BadRun_13, v_cond_BadRun_14, v_cond_NoInstance_0, v_cond_NoInstance_1, v_cond_NoInstance_2, v_cond_NoInstance_3, v_cond_NoInstance_4, v_cond_NoInstance_5, v_cond_NoInstance_6, v_cond_NoInstance_7, v_cond_NoInstance_8, v_cond_NoInstance_9, v_cond_NoInstance_10, v_cond_NoInstance_11, v_cond_NoInstance_12, v_cond_NoInstance_13, v_cond_NoInstance_14, v_cond_BadTable_0, v_cond_BadTable_1, v_cond_BadTable_2, v_cond_BadTable_3, v_cond_BadTable_4, v_cond_BadTable_5, v_cond_BadTable_6, v_cond_BadTable_7, v_cond_BadTable_8, v_cond_BadTable_9, v_cond_BadTable_10, v_cond_BadTable_11, v_cond_BadTable_12, v_cond_BadTable_13, v_cond_BadTable_14, v_cond_BadText_0, v_cond_BadText_1, v_cond_BadText_2, v_cond_BadText_3, v_cond_BadText_4, v_cond_BadText_5, v_cond_BadText_6, v_cond_BadText_7, v_cond_BadText_8, v_cond_BadText_9, v_cond_BadText_10, v_cond_BadText_11, v_cond_BadText_12, v_cond_BadText_13, v_cond_BadText_14, v_cond_BadInstance_BadWorld_BadUnit_TooMany_0, v_cond_BadInstance_BadWorld_BadUnit_TooMany_1, v_cond_BadInstance_BadWorld_BadUnit_TooMany_2, v_cond_BadInstance_BadWorld_BadUnit_TooMany_3, v_cond_BadInstance_BadWorld_BadUnit_TooMany_4, v_cond_BadInstance_BadWorld_BadUnit_TooMany_5, v_cond_BadInstance_BadWorld_BadUnit_TooMany_6, v_cond_BadInstance_BadWorld_BadUnit_TooMany_7, v_cond_BadInstance_BadWorld_BadUnit_TooMany_8, v_cond_BadInstance_BadWorld_BadUnit_TooMany_9, v_cond_BadInstance_BadWorld_BadUnit_TooMany_10, v_cond_BadInstance_BadWorld_BadUnit_TooMany_11, v_cond_BadInstance_BadWorld_BadUnit_TooMany_12, v_cond_BadInstance_BadWorld_BadUnit_TooMany_13, v_cond_BadInstance_BadWorld_BadUnit_TooMany_14, v_xf_what_0, v_xf_what_4, v_xf_what_11, v_xf_what_12, v_xf_lacking_5, v_xf_why_6, v_xf_why_7, v_xf_at_3, v_xf_at_7, v_xf_line_8, v_xf_position_10, Nat.reduceLT, ↓wf__law_numbers_borne, e, exnOf]
    rfl
end
theorem kc {h : Hh} : ∀ road : Nat, road < 15 → cEq h (.fl (kindsD road)) (.nl (kindsD road)) = some true := by
  intro road hr
  match road, hr with
  | 0, _ | 1, _ | 2, _ | 3, _ | 4, _ | 5, _ | 6, _ | 7, _ | 8, _ | 9, _ | 10, _ | 11, _ | 12, _ | 13, _ | 14, _ => kernel_rfl
end L

/-! k97: the law -/
namespace L
open PySem PySem.Spec L2 Pk
theorem rg14 : rngD 0 14 = [.int 0, .int 1, .int 2, .int 3, .int 4, .int 5, .int 6, .int 7, .int 8, .int 9, .int 10, .int 11, .int 12, .int 13] := rfl
theorem sm14 : cSm 14 = true := csm_of (by decide) (by decide)
theorem sm15 : cSm 15 = true := csm_of (by decide) (by decide)
theorem words_eq {h : Hh} {road : Nat} {w : Str} {z : Int} (hr : road < 15) (hg : strG w = true) : cEq h (.fl (wordsOf road w z)) (.nl (wordsOf road w z)) = some true := by
  have gp : strG "past" = true := by decide +kernel
  have a1 : ∀ l m : List PyData, (D.fl []).toP = some (.list []) := fun _ _ => rfl
  have key : ∀ (l : List D) (ps : List PyData), D.toPs l = some ps → SeqAt.shaped (.list ps) = true → PyData.eqv (.list ps) (.list ps) = true → cEq h (.fl l) (.nl l) = some true := fun l ps e1 e2 e3 => by
    have f1 : (D.fl l).toP = some (.list ps) := by unfold D.toP; rw [e1]; rfl
    have f2 : (D.nl l).toP = some (.list ps) := by unfold D.toP; rw [e1]; rfl
    unfold cEq
    rw [f1, f2]
    dsimp only
    rw [e2, e3]
    rfl
  have e0 := key [] [] rfl (by decide) rfl
  have es := cEq_fnS (h := h) (l := [w]) (m := [w]) (by simpa using hg) (by simpa using hg)
  rw [decide_eq_true rfl, List.map_cons, List.map_nil] at es
  have hw : PyData.strOk w = true := hg
  have hp : PyData.strOk "past" = true := gp
  have e5 := key [.tup [.str w, .str "past"]] [.tuple [.str w, .str "past"]] rfl (by
    unfold SeqAt.shaped
    simp only [PyData.canLay0, PyData.canLayAll0, hw, hp, PyData.depth, PyData.depthAll]
    rfl) (by simp [PyData.eqv, PyData.eqvAll])
  have e7 := key [.int z, .str w] [.int z, .str w] rfl (by
    unfold SeqAt.shaped
    simp only [PyData.canLay0, PyData.canLayAll0, hw, PyData.depth, PyData.depthAll]
    rfl) (by simp [PyData.eqv, PyData.eqvAll])
  match road, hr with
  | 0, _ | 4, _ | 6, _ | 11, _ | 12, _ => exact es
  | 5, _ => exact e5
  | 7, _ => exact e7
  | 1, _ | 2, _ | 3, _ | 8, _ | 9, _ | 10, _ | 13, _ | 14, _ => exact e0
theorem nums_eq {h : Hh} {road : Nat} {z : Int} (hr : road < 15) : cEq h (.fl (numsOf road z)) (.nl (numsOf road z)) = some true := by
  have e0 : cEq h (.fl []) (.nl []) = some true := rfl
  have e1 : cEq h (.fl [.int z]) (.nl [.int z]) = some true := by
    have := cEq_fnI (h := h) (l := [z]) (m := [z])
    rw [decide_eq_true rfl, List.map_cons, List.map_nil] at this
    exact this
  match road, hr with
  | 3, _ | 8, _ | 10, _ => exact e1
  | 0, _ | 1, _ | 2, _ | 4, _ | 5, _ | 6, _ | 7, _ | 9, _ | 11, _ | 12, _ | 13, _ | 14, _ => exact e0
theorem turn {ns : List Int} {k n : Nat} {C : Int} {h : Hh} (S : Src h n C) (hC : C ≤ 50000) (road : Nat) (hr : road < 15) (x4 x5 x6 x7 : Option D) :
    Wp (m_law_b4 [some (.kl (ns.map .int)), some (.int k), some (.ref n), some (.int road), x4, x5, x6, x7] h) (fun f fr h' => f = .nx ∧ Src h' n (C + 3) ∧ ∃ y3 y4 y5 y6 y7, fr = [some (.kl (ns.map .int)), some (.int k), some (.ref n), y3, y4, y5, y6, y7]) NoE := by
  obtain ⟨i, d, h1, hi, ed, e1, S1⟩ := of_spec (l := [.str "tests", .str "counts", .str "over", .str "x", .str "terms", .str "readings", .str "lost"]) S (by omega) (by decide) (by decide)
  have hd : ∃ w : Str, d = .str w ∧ w ∈ seven := by
    have hm := List.mem_of_getElem? ed
    simp only [List.mem_cons, List.not_mem_nil, or_false] at hm
    rcases hm with rfl | rfl | rfl | rfl | rfl | rfl | rfl <;> exact ⟨_, rfl, by decide⟩
  obtain ⟨w, rfl, hw⟩ := hd
  obtain ⟨r, h2, e2, S2, r0, r1⟩ := draw_spec (m := 10 ^ 30) S1 (by omega) (by decide) (by decide)
  obtain ⟨j, d2, h3, hj, ed2, e3, S3⟩ := of_spec (l := [.int 1, .int (-1)]) S2 (by omega) (by decide) (by decide)
  have hd2 : ∃ s : Int, d2 = .int s ∧ (s = 1 ∨ s = -1) := by
    have hm := List.mem_of_getElem? ed2
    simp only [List.mem_cons, List.not_mem_nil, or_false] at hm
    rcases hm with rfl | rfl
    · exact ⟨1, rfl, .inl rfl⟩
    · exact ⟨-1, rfl, .inr rfl⟩
  obtain ⟨s, rfl, hs⟩ := hd2
  have hb : ((r + 2) * s).natAbs < 2 ^ 200 := by
    rcases hs with rfl | rfl <;> omega
  have hz : ((r + 2) * s).natAbs.log2 < 1920 := Nat.lt_trans (log2_lt hb (by decide)) (by decide)
  have m1 : cMul (r + 2) s = true := by
    have l1 : (r + 2).natAbs.log2 < 200 := log2_lt (by omega) (by decide)
    have l2 : s.natAbs.log2 < 2 := log2_lt (by rcases hs with rfl | rfl <;> decide) (by decide)
    exact decide_eq_true (by omega)
  have p30 : cPow 10 30 = true := by decide
  have S4 : Src h3 n (C + 3) := S3.up (by omega)
  have k1 := kinds_spec (h := h3) hr hw hz
  have k2 := words_borne (h := h3) hr hw hz
  have k3 := nums_borne (h := h3) hr hw hz
  have c1 := kc (h := h3) road hr
  have c2 := words_eq (h := h3) (z := (r + 2) * s) hr (ck1 w hw).2.2
  have c3 := nums_eq (h := h3) (z := (r + 2) * s) hr
  have gm : ∀ a b : Int, bMul h3 (.int a) (.int b) = if cMul a b then some (.int (a * b)) else none := fun _ _ => rfl
  have q1 := cIn_tI (h := h3) (v := (road : Int)) (l := [0, 4, 6, 11, 12])
  have q2 := cIn_tI (h := h3) (v := (road : Int)) (l := [3, 8, 10])
  simp only [List.map_cons, List.map_nil] at q1 q2
  simp only [Int.reducePow] at e2
  match road, hr with
  | 0, _ | 1, _ | 2, _ | 3, _ | 4, _ | 5, _ | 6, _ | 7, _ | 8, _ | 9, _ | 10, _ | 11, _ | 12, _ | 13, _ | 14, _ =>
    simp only [kindsD, wordsOf, numsOf, Int.cast_ofNat_Int, Int.natCast_zero, Int.natCast_one, Nat.reduceBEq] at k1 k2 k3 c1 c2 c3 q1 q2
    simp only [↓wp_ok, ↓wp_ret, ↓wp_bind, ↓wp_opt, ↓wp_C, ↓wp_Fz, ↓wp_Var, ↓wp_Move, ↓wp_Bor, ↓wp_Has, ↓wp_Op, ↓wp_Un, ↓wp_Bl, ↓wp_Not, ↓wp_iteM, ↓wp_And, ↓wp_Or, ↓wp_NotV, ↓wp_AndV, ↓wp_OrV, ↓wp_Chain, ↓wp_If, ↓wp_Args0, ↓wp_Args1, ↓wp_Tup, ↓wp_Lst, ↓wp_Late, ↓wp_Pn, ↓wp_Psi, ↓wp_Pair, ↓wp_Cut, ↓wp_It, ↓wp_Rng1, ↓wp_Rng2, ↓wp_Enum, ↓wp_Seq, ↓wp_IfS, ↓wp_Drop, ↓wp_Ret, ↓wp_Put, ↓wp_Asg, ↓wp_PutE, ↓wp_ForI, ↓wp_Lc, ↓wp_tgNm, ↓wp_tgNil, ↓wp_tgCons, ↓wp_tgTup, ↓wp_mut, ↓wp_AppS, ↓wp_ClrS, ↓wp_AppR, ↓wp_ClrR, ↓wp_SetS, ↓wp_SetR, ↓wp_Cell, ↓wp_PutFld, ↓wp_mutF, ↓wp_Call, ↓wp_Meth, ↓wp_Star, ↓wp_Dun, ↓wp_Prop, ↓wp_runF, ↓wp_runI, ↓wp_turn, ↓wp_lcs0, ↓wp_lcs1, ↓wp_for0, ↓wp_for1, op_some, op_map, op_ite, op_int, sl_some, cd_t, cd_f, bx_cons, bx_nil, flk_nx, flk_rt, flk_brk, flk_ct, rtk_nx, rtk_rt, lpk_nx, lpk_ct, lpk_brk, lpk_rt, nok_some, fld_obj, fld_no, wp_mutR, ↓wp_TryA, ↓wp_TryO, ↓wp_Raise, ↓wp_IsX, ↓wp_XF, ↓wp_MulL, ↓wp_MulR, ↓wp_exc, ↓wp_LenI, ↓wp_GetI, ↓wp_OpM, ↓wp_gIn, ↓wp_gEq, ↓wp_pop, ↓wp_PopS, ↓wp_BoolI, ↓wp_Cm, ↓wp_LateB, ↓wp_gEqX, ↓wp_gEqT, ↓wp_TryN, ↓wp_pick0, ↓wp_pickA, ↓wp_pickO, ↓wp_RaiseB, own_int, fz_int, own_bl, fz_bl, own_str, fz_str, own_non, fz_non, own_tup, fz_tup, own_fl, fz_fl, own_kl, fz_kl, own_obj, fz_obj, own_ref, fz_ref, own_cls, fz_cls, own_ty, fz_ty, own_nl, fz_nl, own_no, fz_no, its_tup, its_fl, its_kl, its_nl, bLen_tup, bLen_fl, bLen_kl, bLen_nl, bIdx_tup, bIdx_f, bIdx_kl, bIdx_nl, at_0, at_1, at_2, at_3, at_4, at_5, at_6, at_m1, at_nat, c_yes, bAdd_int, bAdd_tup, bAdd_fl, bNeg_int, bAbs_int, bInt1_int, bInt1_bl, bList_eq, bTuple_eq, cInt_int, cEq_ii, cEq_bb, cEq_nn, cNe_eq, cNin_eq, cIs_non, cIsn_non, tb_bl, tru_non, tru_bl, tru_int, tru_tup, tru_fl, tru_nl, sum_n, sum_f, fnOf_obj, fnOf_no, puts_nil, puts_cons, wipe_nil, wipe_cons, gPos_eq, pick_nil, pick_cons, toL_some, keepF_eq, clrF_eq, appF_eq, gKwD, rgA, rgB, optL_some, optL_none, starG_eq, dun_obj, enum_nil, enum_cons, lst_fl, lst_kl, lst_tup, bCut_tup, bCut_fl, bCut_nl, bCut_kl, cut_m1, psI_int, cut_hi, cut_lo, List.take_succ_cons, List.take_zero, List.drop_succ_cons, List.drop_zero, Int.reduceToNat, isNon_non, isNon_int, isNon_bl, isNon_str, isNon_tup, isNon_fl, isNon_nl, isNon_obj, isNon_ref, natk_int, same_obj, bty_obj, bty_no, bty_nl, Option.isSome_some, Option.isSome_none, popk_nl, Int.reduceEq, beq_self_eq_true, eqk_some, eqk_none, fnOf_non, fnOf_bl, fnOf_int, fnOf_str, fnOf_tup, fnOf_fl, cIsB_eq, cIsnB_eq, cEqT_tup, bRepr_bl, bBool1_bl, bBool1_int, endF_nx, endF_rt, endF_brk, endF_ct, smp_non, smp_bl, smp_int, bty_non, bty_bl, bty_int, bty_str, bty_tup, bty_fl, bty_kl, startF, List.map_cons, List.map_nil, List.cons_append, List.nil_append, List.append_nil, List.length_cons, List.length_nil, List.replicate_succ, List.replicate_zero, List.getElem?_cons_succ, List.getElem?_cons_zero, List.set_cons_succ, List.set_cons_zero, Nat.reduceAdd, Nat.reduceSub, Nat.reduceLeDiff, Nat.reduceLT, Nat.zero_add, and_true, true_and, and_self, false_and, and_false, not_true_eq_false, not_false_eq_true, eq_self, decide_true, decide_false, Bool.not_true, Bool.not_false, Bool.true_and, Bool.false_and, Bool.and_true, Bool.and_false, Bool.or_true, Bool.or_false, Bool.true_or, Bool.false_or, Option.map_some, Option.map_none, Int.toNat_natCast, ↓reduceIte, Bool.false_eq_true, reduceCtorEq, Int.cast_ofNat_Int, Int.reduceLT, Int.reduceLE, Int.reduceAdd, Int.reduceSub, Int.reduceNeg, Int.natCast_zero, big_eq, and_assoc, ↓w__law_source_k1, ↓w__law_source, ↓w__law_draw_k3, ↓w__law_draw_k2, ↓w__law_draw_k1, ↓w__law_draw, ↓w__law_of, ↓w__law_raise_early_k6, ↓w__law_raise_early_k5, ↓w__law_raise_early_k4, ↓w__law_raise_early_k3, ↓w__law_raise_early_k2, ↓w__law_raise_early_k1, ↓w__law_raise_early, ↓w__law_raise_k6, ↓w__law_raise_k5, ↓w__law_raise_k4, ↓w__law_raise_k3, ↓w__law_raise_k2, ↓w__law_raise_k1, ↓w__law_raise, ↓w__law_kinds_y1, ↓w__law_kinds, ↓w__law_words_borne_y1, ↓w__law_words_borne, ↓w__law_numbers_borne_y1, ↓w__law_numbers_borne, ↓w_law_g1, ↓w_law_t1, ↓w_law_e1, ↓w_law_b4, ↓w_law_b5, ↓w_law, v_cond_CountError_0, v_cond_CountError_1, v_cond_CountError_2, v_cond_CountError_3, v_cond_CountError_4, v_cond_CountError_5, v_cond_CountError_6, v_cond_CountError_7, v_cond_CountError_8, v_cond_CountError_9, v_cond_CountError_10, v_cond_CountError_11, v_cond_CountError_12, v_cond_CountError_13, v_cond_CountError_14, v_cond_BadInstance_0, v_cond_BadInstance_1, v_cond_BadInstance_2, v_cond_BadInstance_3, v_cond_BadInstance_4, v_cond_BadInstance_5, v_cond_BadInstance_6, v_cond_BadInstance_7, v_cond_BadInstance_8, v_cond_BadInstance_9, v_cond_BadInstance_10, v_cond_BadInstance_11, v_cond_BadInstance_12, v_cond_BadInstance_13, v_cond_BadInstance_14, v_cond_BadWorld_0, v_cond_BadWorld_1, v_cond_BadWorld_2, v_cond_BadWorld_3, v_cond_BadWorld_4, v_cond_BadWorld_5, v_cond_BadWorld_6, v_cond_BadWorld_7, v_cond_BadWorld_8, v_cond_BadWorld_9, v_cond_BadWorld_10, v_cond_BadWorld_11, v_cond_BadWorld_12, v_cond_BadWorld_13, v_cond_BadWorld_14, v_cond_BadUnit_0, v_cond_BadUnit_1, v_cond_BadUnit_2, v_cond_BadUnit_3, v_cond_BadUnit_4, v_cond_BadUnit_5, v_cond_BadUnit_6, v_cond_BadUnit_7, v_cond_BadUnit_8, v_cond_BadUnit_9, v_cond_BadUnit_10, v_cond_BadUnit_11, v_cond_BadUnit_12, v_cond_BadUnit_13, v_cond_BadUnit_14, v_cond_TooMany_0, v_cond_TooMany_1, v_cond_TooMany_2, v_cond_TooMany_3, v_cond_TooMany_4, v_cond_TooMany_5, v_cond_TooMany_6, v_cond_TooMany_7, v_cond_TooMany_8, v_cond_TooMany_9, v_cond_TooMany_10, v_cond_TooMany_11, v_cond_TooMany_12, v_cond_TooMany_13, v_cond_TooMany_14, v_cond_NotAllowed_0, v_cond_NotAllowed_1, v_cond_NotAllowed_2, v_cond_NotAllowed_3, v_cond_NotAllowed_4, v_cond_NotAllowed_5, v_cond_NotAllowed_6, v_cond_NotAllowed_7, v_cond_NotAllowed_8, v_cond_NotAllowed_9, v_cond_NotAllowed_10, v_cond_NotAllowed_11, v_cond_NotAllowed_12, v_cond_NotAllowed_13, v_cond_NotAllowed_14, v_cond_BadDeed_0, v_cond_BadDeed_1, v_cond_BadDeed_2, v_cond_BadDeed_3, v_cond_BadDeed_4, v_cond_BadDeed_5, v_cond_BadDeed_6, v_cond_BadDeed_7, v_cond_BadDeed_8, v_cond_BadDeed_9, v_cond_BadDeed_10, v_cond_BadDeed_11, v_cond_BadDeed_12, v_cond_BadDeed_13, v_cond_BadDeed_14, v_cond_BadRun_0, v_cond_BadRun_1, v_cond_BadRun_2, v_cond_BadRun_3, v_cond_BadRun_4, v_cond_BadRun_5, v_cond_BadRun_6, v_cond_BadRun_7, v_cond_BadRun_8, v_cond_BadRun_9, v_cond_BadRun_10, v_cond_BadRun_11, v_cond_BadRun_12, v_cond_BadRun_13, v_cond_BadRun_14, v_cond_NoInstance_0, v_cond_NoInstance_1, v_cond_NoInstance_2, v_cond_NoInstance_3, v_cond_NoInstance_4, v_cond_NoInstance_5, v_cond_NoInstance_6, v_cond_NoInstance_7, v_cond_NoInstance_8, v_cond_NoInstance_9, v_cond_NoInstance_10, v_cond_NoInstance_11, v_cond_NoInstance_12, v_cond_NoInstance_13, v_cond_NoInstance_14, v_cond_BadTable_0, v_cond_BadTable_1, v_cond_BadTable_2, v_cond_BadTable_3, v_cond_BadTable_4, v_cond_BadTable_5, v_cond_BadTable_6, v_cond_BadTable_7, v_cond_BadTable_8, v_cond_BadTable_9, v_cond_BadTable_10, v_cond_BadTable_11, v_cond_BadTable_12, v_cond_BadTable_13, v_cond_BadTable_14, v_cond_BadText_0, v_cond_BadText_1, v_cond_BadText_2, v_cond_BadText_3, v_cond_BadText_4, v_cond_BadText_5, v_cond_BadText_6, v_cond_BadText_7, v_cond_BadText_8, v_cond_BadText_9, v_cond_BadText_10, v_cond_BadText_11, v_cond_BadText_12, v_cond_BadText_13, v_cond_BadText_14, v_cond_BadInstance_BadWorld_BadUnit_TooMany_0, v_cond_BadInstance_BadWorld_BadUnit_TooMany_1, v_cond_BadInstance_BadWorld_BadUnit_TooMany_2, v_cond_BadInstance_BadWorld_BadUnit_TooMany_3, v_cond_BadInstance_BadWorld_BadUnit_TooMany_4, v_cond_BadInstance_BadWorld_BadUnit_TooMany_5, v_cond_BadInstance_BadWorld_BadUnit_TooMany_6, v_cond_BadInstance_BadWorld_BadUnit_TooMany_7, v_cond_BadInstance_BadWorld_BadUnit_TooMany_8, v_cond_BadInstance_BadWorld_BadUnit_TooMany_9, v_cond_BadInstance_BadWorld_BadUnit_TooMany_10, v_cond_BadInstance_BadWorld_BadUnit_TooMany_11, v_cond_BadInstance_BadWorld_BadUnit_TooMany_12, v_cond_BadInstance_BadWorld_BadUnit_TooMany_13, v_cond_BadInstance_BadWorld_BadUnit_TooMany_14, v_xf_what_0, v_xf_what_4, v_xf_what_11, v_xf_what_12, v_xf_lacking_5, v_xf_why_6, v_xf_why_7, v_xf_at_3, v_xf_at_7, v_xf_line_8, v_xf_position_10, p30, e1, e2, e3, m1, k1, k2, k3, c1, c2, c3, rg14, sm14, Int.reduceBEq, Int.natCast_one, q1, q2, List.mem_cons, List.not_mem_nil, Int.reduceEq, or_false, false_or, or_true, true_or, S4, Int.reducePow]
    try simp [S4]
end L

/-! k97: the law, whole -/
namespace L
open PySem PySem.Spec L2 Pk
theorem rng_nat (n : Nat) : rngD 0 n = (List.range n).map fun (k : Nat) => D.int (k : Int) := by unfold rngD; simp only [Int.zero_add]
theorem body {ns : List Int} {k : Nat} (hk : k ≤ 62) (h : Hh) (x2 x3 x4 x5 x6 x7 : Option D) : Wp (m_law_b5 [some (.kl (ns.map .int)), some (.int k), x2, x3, x4, x5, x6, x7] h) (fun f fr _ => (f = .nx ∨ f = .ct) ∧ ∃ x1 ys, fr = some (.kl (ns.map .int)) :: x1 :: ys ∧ ys.length = 8 - 2) NoE := by
  obtain ⟨a, b, e1, b0, b1⟩ := source_spec (h := h) (ns := ns) hk
  have S1 : Src (h ++ [.nl [.int a, .int b, .int 0]]) h.length 0 := ⟨a, b, 0, by rw [List.getElem?_append_right (Nat.le_refl _), Nat.sub_self]; rfl, b0, b1, by decide, by decide⟩
  unfold m_law_b5
  simp only [↓wp_ok, ↓wp_ret, ↓wp_bind, ↓wp_opt, ↓wp_C, ↓wp_Fz, ↓wp_Var, ↓wp_Move, ↓wp_Bor, ↓wp_Has, ↓wp_Op, ↓wp_Un, ↓wp_Bl, ↓wp_Not, ↓wp_iteM, ↓wp_And, ↓wp_Or, ↓wp_NotV, ↓wp_AndV, ↓wp_OrV, ↓wp_Chain, ↓wp_If, ↓wp_Args0, ↓wp_Args1, ↓wp_Tup, ↓wp_Lst, ↓wp_Late, ↓wp_Pn, ↓wp_Psi, ↓wp_Pair, ↓wp_Cut, ↓wp_It, ↓wp_Rng1, ↓wp_Rng2, ↓wp_Enum, ↓wp_Seq, ↓wp_IfS, ↓wp_Drop, ↓wp_Ret, ↓wp_Put, ↓wp_Asg, ↓wp_PutE, ↓wp_ForI, ↓wp_Lc, ↓wp_tgNm, ↓wp_tgNil, ↓wp_tgCons, ↓wp_tgTup, ↓wp_mut, ↓wp_AppS, ↓wp_ClrS, ↓wp_AppR, ↓wp_ClrR, ↓wp_SetS, ↓wp_SetR, ↓wp_Cell, ↓wp_PutFld, ↓wp_mutF, ↓wp_Call, ↓wp_Meth, ↓wp_Star, ↓wp_Dun, ↓wp_Prop, ↓wp_runF, ↓wp_runI, ↓wp_turn, op_some, op_map, op_ite, op_int, sl_some, cd_t, cd_f, bx_cons, bx_nil, flk_nx, flk_rt, flk_brk, flk_ct, rtk_nx, rtk_rt, lpk_nx, lpk_ct, lpk_brk, lpk_rt, nok_some, fld_obj, fld_no, wp_mutR, ↓wp_TryA, ↓wp_TryO, ↓wp_Raise, ↓wp_IsX, ↓wp_XF, ↓wp_MulL, ↓wp_MulR, ↓wp_exc, ↓wp_LenI, ↓wp_GetI, ↓wp_OpM, ↓wp_gIn, ↓wp_gEq, ↓wp_pop, ↓wp_PopS, ↓wp_BoolI, ↓wp_Cm, ↓wp_LateB, ↓wp_gEqX, ↓wp_gEqT, ↓wp_TryN, ↓wp_pick0, ↓wp_pickA, ↓wp_pickO, ↓wp_RaiseB, own_int, fz_int, own_bl, fz_bl, own_str, fz_str, own_non, fz_non, own_tup, fz_tup, own_fl, fz_fl, own_kl, fz_kl, own_obj, fz_obj, own_ref, fz_ref, own_cls, fz_cls, own_ty, fz_ty, own_nl, fz_nl, own_no, fz_no, its_tup, its_fl, its_kl, its_nl, bLen_tup, bLen_fl, bLen_kl, bLen_nl, bIdx_tup, bIdx_f, bIdx_kl, bIdx_nl, at_0, at_1, at_2, at_3, at_4, at_5, at_6, at_m1, at_nat, c_yes, bAdd_int, bAdd_tup, bAdd_fl, bNeg_int, bAbs_int, bInt1_int, bInt1_bl, bList_eq, bTuple_eq, cInt_int, cEq_ii, cEq_bb, cEq_nn, cNe_eq, cNin_eq, cIs_non, cIsn_non, tb_bl, tru_non, tru_bl, tru_int, tru_tup, tru_fl, tru_nl, sum_n, sum_f, fnOf_obj, fnOf_no, puts_nil, puts_cons, wipe_nil, wipe_cons, gPos_eq, pick_nil, pick_cons, toL_some, keepF_eq, clrF_eq, appF_eq, gKwD, rgA, rgB, optL_some, optL_none, starG_eq, dun_obj, enum_nil, enum_cons, lst_fl, lst_kl, lst_tup, bCut_tup, bCut_fl, bCut_nl, bCut_kl, cut_m1, psI_int, cut_hi, cut_lo, List.take_succ_cons, List.take_zero, List.drop_succ_cons, List.drop_zero, Int.reduceToNat, isNon_non, isNon_int, isNon_bl, isNon_str, isNon_tup, isNon_fl, isNon_nl, isNon_obj, isNon_ref, natk_int, same_obj, bty_obj, bty_no, bty_nl, Option.isSome_some, Option.isSome_none, popk_nl, Int.reduceEq, beq_self_eq_true, eqk_some, eqk_none, fnOf_non, fnOf_bl, fnOf_int, fnOf_str, fnOf_tup, fnOf_fl, cIsB_eq, cIsnB_eq, cEqT_tup, bRepr_bl, bBool1_bl, bBool1_int, endF_nx, endF_rt, endF_brk, endF_ct, smp_non, smp_bl, smp_int, bty_non, bty_bl, bty_int, bty_str, bty_tup, bty_fl, bty_kl, startF, List.map_cons, List.map_nil, List.cons_append, List.nil_append, List.append_nil, List.length_cons, List.length_nil, List.replicate_succ, List.replicate_zero, List.getElem?_cons_succ, List.getElem?_cons_zero, List.set_cons_succ, List.set_cons_zero, Nat.reduceAdd, Nat.reduceSub, Nat.reduceLeDiff, Nat.reduceLT, Nat.zero_add, and_true, true_and, and_self, false_and, and_false, not_true_eq_false, not_false_eq_true, eq_self, decide_true, decide_false, Bool.not_true, Bool.not_false, Bool.true_and, Bool.false_and, Bool.and_true, Bool.and_false, Bool.or_true, Bool.or_false, Bool.true_or, Bool.false_or, Option.map_some, Option.map_none, Int.toNat_natCast, ↓reduceIte, Bool.false_eq_true, reduceCtorEq, Int.cast_ofNat_Int, Int.reduceLT, Int.reduceLE, Int.reduceAdd, Int.reduceSub, Int.reduceNeg, Int.natCast_zero, big_eq, and_assoc, ↓w__law_source_k1, ↓w__law_source, ↓w__law_draw_k3, ↓w__law_draw_k2, ↓w__law_draw_k1, ↓w__law_draw, ↓w__law_of, ↓w__law_raise_early_k6, ↓w__law_raise_early_k5, ↓w__law_raise_early_k4, ↓w__law_raise_early_k3, ↓w__law_raise_early_k2, ↓w__law_raise_early_k1, ↓w__law_raise_early, ↓w__law_raise_k6, ↓w__law_raise_k5, ↓w__law_raise_k4, ↓w__law_raise_k3, ↓w__law_raise_k2, ↓w__law_raise_k1, ↓w__law_raise, ↓w__law_kinds_y1, ↓w__law_kinds, ↓w__law_words_borne_y1, ↓w__law_words_borne, ↓w__law_numbers_borne_y1, ↓w__law_numbers_borne, ↓w_law_g1, ↓w_law_t1, ↓w_law_e1, ↓w_law_b5, ↓w_law, v_cond_CountError_0, v_cond_CountError_1, v_cond_CountError_2, v_cond_CountError_3, v_cond_CountError_4, v_cond_CountError_5, v_cond_CountError_6, v_cond_CountError_7, v_cond_CountError_8, v_cond_CountError_9, v_cond_CountError_10, v_cond_CountError_11, v_cond_CountError_12, v_cond_CountError_13, v_cond_CountError_14, v_cond_BadInstance_0, v_cond_BadInstance_1, v_cond_BadInstance_2, v_cond_BadInstance_3, v_cond_BadInstance_4, v_cond_BadInstance_5, v_cond_BadInstance_6, v_cond_BadInstance_7, v_cond_BadInstance_8, v_cond_BadInstance_9, v_cond_BadInstance_10, v_cond_BadInstance_11, v_cond_BadInstance_12, v_cond_BadInstance_13, v_cond_BadInstance_14, v_cond_BadWorld_0, v_cond_BadWorld_1, v_cond_BadWorld_2, v_cond_BadWorld_3, v_cond_BadWorld_4, v_cond_BadWorld_5, v_cond_BadWorld_6, v_cond_BadWorld_7, v_cond_BadWorld_8, v_cond_BadWorld_9, v_cond_BadWorld_10, v_cond_BadWorld_11, v_cond_BadWorld_12, v_cond_BadWorld_13, v_cond_BadWorld_14, v_cond_BadUnit_0, v_cond_BadUnit_1, v_cond_BadUnit_2, v_cond_BadUnit_3, v_cond_BadUnit_4, v_cond_BadUnit_5, v_cond_BadUnit_6, v_cond_BadUnit_7, v_cond_BadUnit_8, v_cond_BadUnit_9, v_cond_BadUnit_10, v_cond_BadUnit_11, v_cond_BadUnit_12, v_cond_BadUnit_13, v_cond_BadUnit_14, v_cond_TooMany_0, v_cond_TooMany_1, v_cond_TooMany_2, v_cond_TooMany_3, v_cond_TooMany_4, v_cond_TooMany_5, v_cond_TooMany_6, v_cond_TooMany_7, v_cond_TooMany_8, v_cond_TooMany_9, v_cond_TooMany_10, v_cond_TooMany_11, v_cond_TooMany_12, v_cond_TooMany_13, v_cond_TooMany_14, v_cond_NotAllowed_0, v_cond_NotAllowed_1, v_cond_NotAllowed_2, v_cond_NotAllowed_3, v_cond_NotAllowed_4, v_cond_NotAllowed_5, v_cond_NotAllowed_6, v_cond_NotAllowed_7, v_cond_NotAllowed_8, v_cond_NotAllowed_9, v_cond_NotAllowed_10, v_cond_NotAllowed_11, v_cond_NotAllowed_12, v_cond_NotAllowed_13, v_cond_NotAllowed_14, v_cond_BadDeed_0, v_cond_BadDeed_1, v_cond_BadDeed_2, v_cond_BadDeed_3, v_cond_BadDeed_4, v_cond_BadDeed_5, v_cond_BadDeed_6, v_cond_BadDeed_7, v_cond_BadDeed_8, v_cond_BadDeed_9, v_cond_BadDeed_10, v_cond_BadDeed_11, v_cond_BadDeed_12, v_cond_BadDeed_13, v_cond_BadDeed_14, v_cond_BadRun_0, v_cond_BadRun_1, v_cond_BadRun_2, v_cond_BadRun_3, v_cond_BadRun_4, v_cond_BadRun_5, v_cond_BadRun_6, v_cond_BadRun_7, v_cond_BadRun_8, v_cond_BadRun_9, v_cond_BadRun_10, v_cond_BadRun_11, v_cond_BadRun_12, v_cond_BadRun_13, v_cond_BadRun_14, v_cond_NoInstance_0, v_cond_NoInstance_1, v_cond_NoInstance_2, v_cond_NoInstance_3, v_cond_NoInstance_4, v_cond_NoInstance_5, v_cond_NoInstance_6, v_cond_NoInstance_7, v_cond_NoInstance_8, v_cond_NoInstance_9, v_cond_NoInstance_10, v_cond_NoInstance_11, v_cond_NoInstance_12, v_cond_NoInstance_13, v_cond_NoInstance_14, v_cond_BadTable_0, v_cond_BadTable_1, v_cond_BadTable_2, v_cond_BadTable_3, v_cond_BadTable_4, v_cond_BadTable_5, v_cond_BadTable_6, v_cond_BadTable_7, v_cond_BadTable_8, v_cond_BadTable_9, v_cond_BadTable_10, v_cond_BadTable_11, v_cond_BadTable_12, v_cond_BadTable_13, v_cond_BadTable_14, v_cond_BadText_0, v_cond_BadText_1, v_cond_BadText_2, v_cond_BadText_3, v_cond_BadText_4, v_cond_BadText_5, v_cond_BadText_6, v_cond_BadText_7, v_cond_BadText_8, v_cond_BadText_9, v_cond_BadText_10, v_cond_BadText_11, v_cond_BadText_12, v_cond_BadText_13, v_cond_BadText_14, v_cond_BadInstance_BadWorld_BadUnit_TooMany_0, v_cond_BadInstance_BadWorld_BadUnit_TooMany_1, v_cond_BadInstance_BadWorld_BadUnit_TooMany_2, v_cond_BadInstance_BadWorld_BadUnit_TooMany_3, v_cond_BadInstance_BadWorld_BadUnit_TooMany_4, v_cond_BadInstance_BadWorld_BadUnit_TooMany_5, v_cond_BadInstance_BadWorld_BadUnit_TooMany_6, v_cond_BadInstance_BadWorld_BadUnit_TooMany_7, v_cond_BadInstance_BadWorld_BadUnit_TooMany_8, v_cond_BadInstance_BadWorld_BadUnit_TooMany_9, v_cond_BadInstance_BadWorld_BadUnit_TooMany_10, v_cond_BadInstance_BadWorld_BadUnit_TooMany_11, v_cond_BadInstance_BadWorld_BadUnit_TooMany_12, v_cond_BadInstance_BadWorld_BadUnit_TooMany_13, v_cond_BadInstance_BadWorld_BadUnit_TooMany_14, v_xf_what_0, v_xf_what_4, v_xf_what_11, v_xf_what_12, v_xf_lacking_5, v_xf_why_6, v_xf_why_7, v_xf_at_3, v_xf_at_7, v_xf_line_8, v_xf_position_10, e1, sm15]
  rw [rng_nat]
  refine wp_for (fun pre fr h' => ∃ y3 y4 y5 y6 y7, fr = [some (.kl (ns.map .int)), some (.int k), some (.ref h.length), y3, y4, y5, y6, y7] ∧ Src h' h.length (3 * (pre.length : Int))) ⟨_, _, _, _, _, rfl, by simpa using S1⟩ ?_ ?_
  · rintro pre road suf fr h' e ⟨y3, y4, y5, y6, y7, rfl, S⟩
    have hm : road ∈ List.range 15 := by rw [e]; simp
    have hl := congrArg List.length e
    simp only [List.length_range, List.length_append, List.length_cons] at hl
    have tt := turn (ns := ns) (k := k) S (by omega) road (List.mem_range.mp hm) y4 y5 y6 y7
    generalize m_law_b4 = B at tt ⊢
    simp only [↓wp_ok, ↓wp_ret, ↓wp_bind, ↓wp_opt, ↓wp_C, ↓wp_Fz, ↓wp_Var, ↓wp_Move, ↓wp_Bor, ↓wp_Has, ↓wp_Op, ↓wp_Un, ↓wp_Bl, ↓wp_Not, ↓wp_iteM, ↓wp_And, ↓wp_Or, ↓wp_NotV, ↓wp_AndV, ↓wp_OrV, ↓wp_Chain, ↓wp_If, ↓wp_Args0, ↓wp_Args1, ↓wp_Tup, ↓wp_Lst, ↓wp_Late, ↓wp_Pn, ↓wp_Psi, ↓wp_Pair, ↓wp_Cut, ↓wp_It, ↓wp_Rng1, ↓wp_Rng2, ↓wp_Enum, ↓wp_Seq, ↓wp_IfS, ↓wp_Drop, ↓wp_Ret, ↓wp_Put, ↓wp_Asg, ↓wp_PutE, ↓wp_ForI, ↓wp_Lc, ↓wp_tgNm, ↓wp_tgNil, ↓wp_tgCons, ↓wp_tgTup, ↓wp_mut, ↓wp_AppS, ↓wp_ClrS, ↓wp_AppR, ↓wp_ClrR, ↓wp_SetS, ↓wp_SetR, ↓wp_Cell, ↓wp_PutFld, ↓wp_mutF, ↓wp_Call, ↓wp_Meth, ↓wp_Star, ↓wp_Dun, ↓wp_Prop, ↓wp_runF, ↓wp_runI, ↓wp_turn, op_some, op_map, op_ite, op_int, sl_some, cd_t, cd_f, bx_cons, bx_nil, flk_nx, flk_rt, flk_brk, flk_ct, rtk_nx, rtk_rt, lpk_nx, lpk_ct, lpk_brk, lpk_rt, nok_some, fld_obj, fld_no, wp_mutR, ↓wp_TryA, ↓wp_TryO, ↓wp_Raise, ↓wp_IsX, ↓wp_XF, ↓wp_MulL, ↓wp_MulR, ↓wp_exc, ↓wp_LenI, ↓wp_GetI, ↓wp_OpM, ↓wp_gIn, ↓wp_gEq, ↓wp_pop, ↓wp_PopS, ↓wp_BoolI, ↓wp_Cm, ↓wp_LateB, ↓wp_gEqX, ↓wp_gEqT, ↓wp_TryN, ↓wp_pick0, ↓wp_pickA, ↓wp_pickO, ↓wp_RaiseB, own_int, fz_int, own_bl, fz_bl, own_str, fz_str, own_non, fz_non, own_tup, fz_tup, own_fl, fz_fl, own_kl, fz_kl, own_obj, fz_obj, own_ref, fz_ref, own_cls, fz_cls, own_ty, fz_ty, own_nl, fz_nl, own_no, fz_no, its_tup, its_fl, its_kl, its_nl, bLen_tup, bLen_fl, bLen_kl, bLen_nl, bIdx_tup, bIdx_f, bIdx_kl, bIdx_nl, at_0, at_1, at_2, at_3, at_4, at_5, at_6, at_m1, at_nat, c_yes, bAdd_int, bAdd_tup, bAdd_fl, bNeg_int, bAbs_int, bInt1_int, bInt1_bl, bList_eq, bTuple_eq, cInt_int, cEq_ii, cEq_bb, cEq_nn, cNe_eq, cNin_eq, cIs_non, cIsn_non, tb_bl, tru_non, tru_bl, tru_int, tru_tup, tru_fl, tru_nl, sum_n, sum_f, fnOf_obj, fnOf_no, puts_nil, puts_cons, wipe_nil, wipe_cons, gPos_eq, pick_nil, pick_cons, toL_some, keepF_eq, clrF_eq, appF_eq, gKwD, rgA, rgB, optL_some, optL_none, starG_eq, dun_obj, enum_nil, enum_cons, lst_fl, lst_kl, lst_tup, bCut_tup, bCut_fl, bCut_nl, bCut_kl, cut_m1, psI_int, cut_hi, cut_lo, List.take_succ_cons, List.take_zero, List.drop_succ_cons, List.drop_zero, Int.reduceToNat, isNon_non, isNon_int, isNon_bl, isNon_str, isNon_tup, isNon_fl, isNon_nl, isNon_obj, isNon_ref, natk_int, same_obj, bty_obj, bty_no, bty_nl, Option.isSome_some, Option.isSome_none, popk_nl, Int.reduceEq, beq_self_eq_true, eqk_some, eqk_none, fnOf_non, fnOf_bl, fnOf_int, fnOf_str, fnOf_tup, fnOf_fl, cIsB_eq, cIsnB_eq, cEqT_tup, bRepr_bl, bBool1_bl, bBool1_int, endF_nx, endF_rt, endF_brk, endF_ct, smp_non, smp_bl, smp_int, bty_non, bty_bl, bty_int, bty_str, bty_tup, bty_fl, bty_kl, startF, List.map_cons, List.map_nil, List.cons_append, List.nil_append, List.append_nil, List.length_cons, List.length_nil, List.replicate_succ, List.replicate_zero, List.getElem?_cons_succ, List.getElem?_cons_zero, List.set_cons_succ, List.set_cons_zero, Nat.reduceAdd, Nat.reduceSub, Nat.reduceLeDiff, Nat.reduceLT, Nat.zero_add, and_true, true_and, and_self, false_and, and_false, not_true_eq_false, not_false_eq_true, eq_self, decide_true, decide_false, Bool.not_true, Bool.not_false, Bool.true_and, Bool.false_and, Bool.and_true, Bool.and_false, Bool.or_true, Bool.or_false, Bool.true_or, Bool.false_or, Option.map_some, Option.map_none, Int.toNat_natCast, ↓reduceIte, Bool.false_eq_true, reduceCtorEq, Int.cast_ofNat_Int, Int.reduceLT, Int.reduceLE, Int.reduceAdd, Int.reduceSub, Int.reduceNeg, Int.natCast_zero, big_eq, and_assoc, ↓w__law_source_k1, ↓w__law_source, ↓w__law_draw_k3, ↓w__law_draw_k2, ↓w__law_draw_k1, ↓w__law_draw, ↓w__law_of, ↓w__law_raise_early_k6, ↓w__law_raise_early_k5, ↓w__law_raise_early_k4, ↓w__law_raise_early_k3, ↓w__law_raise_early_k2, ↓w__law_raise_early_k1, ↓w__law_raise_early, ↓w__law_raise_k6, ↓w__law_raise_k5, ↓w__law_raise_k4, ↓w__law_raise_k3, ↓w__law_raise_k2, ↓w__law_raise_k1, ↓w__law_raise, ↓w__law_kinds_y1, ↓w__law_kinds, ↓w__law_words_borne_y1, ↓w__law_words_borne, ↓w__law_numbers_borne_y1, ↓w__law_numbers_borne, ↓w_law_g1, ↓w_law_t1, ↓w_law_e1, ↓w_law_b4, ↓w_law_b5, ↓w_law, v_cond_CountError_0, v_cond_CountError_1, v_cond_CountError_2, v_cond_CountError_3, v_cond_CountError_4, v_cond_CountError_5, v_cond_CountError_6, v_cond_CountError_7, v_cond_CountError_8, v_cond_CountError_9, v_cond_CountError_10, v_cond_CountError_11, v_cond_CountError_12, v_cond_CountError_13, v_cond_CountError_14, v_cond_BadInstance_0, v_cond_BadInstance_1, v_cond_BadInstance_2, v_cond_BadInstance_3, v_cond_BadInstance_4, v_cond_BadInstance_5, v_cond_BadInstance_6, v_cond_BadInstance_7, v_cond_BadInstance_8, v_cond_BadInstance_9, v_cond_BadInstance_10, v_cond_BadInstance_11, v_cond_BadInstance_12, v_cond_BadInstance_13, v_cond_BadInstance_14, v_cond_BadWorld_0, v_cond_BadWorld_1, v_cond_BadWorld_2, v_cond_BadWorld_3, v_cond_BadWorld_4, v_cond_BadWorld_5, v_cond_BadWorld_6, v_cond_BadWorld_7, v_cond_BadWorld_8, v_cond_BadWorld_9, v_cond_BadWorld_10, v_cond_BadWorld_11, v_cond_BadWorld_12, v_cond_BadWorld_13, v_cond_BadWorld_14, v_cond_BadUnit_0, v_cond_BadUnit_1, v_cond_BadUnit_2, v_cond_BadUnit_3, v_cond_BadUnit_4, v_cond_BadUnit_5, v_cond_BadUnit_6, v_cond_BadUnit_7, v_cond_BadUnit_8, v_cond_BadUnit_9, v_cond_BadUnit_10, v_cond_BadUnit_11, v_cond_BadUnit_12, v_cond_BadUnit_13, v_cond_BadUnit_14, v_cond_TooMany_0, v_cond_TooMany_1, v_cond_TooMany_2, v_cond_TooMany_3, v_cond_TooMany_4, v_cond_TooMany_5, v_cond_TooMany_6, v_cond_TooMany_7, v_cond_TooMany_8, v_cond_TooMany_9, v_cond_TooMany_10, v_cond_TooMany_11, v_cond_TooMany_12, v_cond_TooMany_13, v_cond_TooMany_14, v_cond_NotAllowed_0, v_cond_NotAllowed_1, v_cond_NotAllowed_2, v_cond_NotAllowed_3, v_cond_NotAllowed_4, v_cond_NotAllowed_5, v_cond_NotAllowed_6, v_cond_NotAllowed_7, v_cond_NotAllowed_8, v_cond_NotAllowed_9, v_cond_NotAllowed_10, v_cond_NotAllowed_11, v_cond_NotAllowed_12, v_cond_NotAllowed_13, v_cond_NotAllowed_14, v_cond_BadDeed_0, v_cond_BadDeed_1, v_cond_BadDeed_2, v_cond_BadDeed_3, v_cond_BadDeed_4, v_cond_BadDeed_5, v_cond_BadDeed_6, v_cond_BadDeed_7, v_cond_BadDeed_8, v_cond_BadDeed_9, v_cond_BadDeed_10, v_cond_BadDeed_11, v_cond_BadDeed_12, v_cond_BadDeed_13, v_cond_BadDeed_14, v_cond_BadRun_0, v_cond_BadRun_1, v_cond_BadRun_2, v_cond_BadRun_3, v_cond_BadRun_4, v_cond_BadRun_5, v_cond_BadRun_6, v_cond_BadRun_7, v_cond_BadRun_8, v_cond_BadRun_9, v_cond_BadRun_10, v_cond_BadRun_11, v_cond_BadRun_12, v_cond_BadRun_13, v_cond_BadRun_14, v_cond_NoInstance_0, v_cond_NoInstance_1, v_cond_NoInstance_2, v_cond_NoInstance_3, v_cond_NoInstance_4, v_cond_NoInstance_5, v_cond_NoInstance_6, v_cond_NoInstance_7, v_cond_NoInstance_8, v_cond_NoInstance_9, v_cond_NoInstance_10, v_cond_NoInstance_11, v_cond_NoInstance_12, v_cond_NoInstance_13, v_cond_NoInstance_14, v_cond_BadTable_0, v_cond_BadTable_1, v_cond_BadTable_2, v_cond_BadTable_3, v_cond_BadTable_4, v_cond_BadTable_5, v_cond_BadTable_6, v_cond_BadTable_7, v_cond_BadTable_8, v_cond_BadTable_9, v_cond_BadTable_10, v_cond_BadTable_11, v_cond_BadTable_12, v_cond_BadTable_13, v_cond_BadTable_14, v_cond_BadText_0, v_cond_BadText_1, v_cond_BadText_2, v_cond_BadText_3, v_cond_BadText_4, v_cond_BadText_5, v_cond_BadText_6, v_cond_BadText_7, v_cond_BadText_8, v_cond_BadText_9, v_cond_BadText_10, v_cond_BadText_11, v_cond_BadText_12, v_cond_BadText_13, v_cond_BadText_14, v_cond_BadInstance_BadWorld_BadUnit_TooMany_0, v_cond_BadInstance_BadWorld_BadUnit_TooMany_1, v_cond_BadInstance_BadWorld_BadUnit_TooMany_2, v_cond_BadInstance_BadWorld_BadUnit_TooMany_3, v_cond_BadInstance_BadWorld_BadUnit_TooMany_4, v_cond_BadInstance_BadWorld_BadUnit_TooMany_5, v_cond_BadInstance_BadWorld_BadUnit_TooMany_6, v_cond_BadInstance_BadWorld_BadUnit_TooMany_7, v_cond_BadInstance_BadWorld_BadUnit_TooMany_8, v_cond_BadInstance_BadWorld_BadUnit_TooMany_9, v_cond_BadInstance_BadWorld_BadUnit_TooMany_10, v_cond_BadInstance_BadWorld_BadUnit_TooMany_11, v_cond_BadInstance_BadWorld_BadUnit_TooMany_12, v_cond_BadInstance_BadWorld_BadUnit_TooMany_13, v_cond_BadInstance_BadWorld_BadUnit_TooMany_14, v_xf_what_0, v_xf_what_4, v_xf_what_11, v_xf_what_12, v_xf_lacking_5, v_xf_why_6, v_xf_why_7, v_xf_at_3, v_xf_at_7, v_xf_line_8, v_xf_position_10]
    refine tt.mono ?_
    rintro f fr h2 ⟨rfl, S2, z3, z4, z5, z6, z7, rfl⟩
    simp only [↓wp_ok, ↓wp_ret, ↓wp_bind, ↓wp_opt, ↓wp_C, ↓wp_Fz, ↓wp_Var, ↓wp_Move, ↓wp_Bor, ↓wp_Has, ↓wp_Op, ↓wp_Un, ↓wp_Bl, ↓wp_Not, ↓wp_iteM, ↓wp_And, ↓wp_Or, ↓wp_NotV, ↓wp_AndV, ↓wp_OrV, ↓wp_Chain, ↓wp_If, ↓wp_Args0, ↓wp_Args1, ↓wp_Tup, ↓wp_Lst, ↓wp_Late, ↓wp_Pn, ↓wp_Psi, ↓wp_Pair, ↓wp_Cut, ↓wp_It, ↓wp_Rng1, ↓wp_Rng2, ↓wp_Enum, ↓wp_Seq, ↓wp_IfS, ↓wp_Drop, ↓wp_Ret, ↓wp_Put, ↓wp_Asg, ↓wp_PutE, ↓wp_ForI, ↓wp_Lc, ↓wp_tgNm, ↓wp_tgNil, ↓wp_tgCons, ↓wp_tgTup, ↓wp_mut, ↓wp_AppS, ↓wp_ClrS, ↓wp_AppR, ↓wp_ClrR, ↓wp_SetS, ↓wp_SetR, ↓wp_Cell, ↓wp_PutFld, ↓wp_mutF, ↓wp_Call, ↓wp_Meth, ↓wp_Star, ↓wp_Dun, ↓wp_Prop, ↓wp_runF, ↓wp_runI, ↓wp_turn, op_some, op_map, op_ite, op_int, sl_some, cd_t, cd_f, bx_cons, bx_nil, flk_nx, flk_rt, flk_brk, flk_ct, rtk_nx, rtk_rt, lpk_nx, lpk_ct, lpk_brk, lpk_rt, nok_some, fld_obj, fld_no, wp_mutR, ↓wp_TryA, ↓wp_TryO, ↓wp_Raise, ↓wp_IsX, ↓wp_XF, ↓wp_MulL, ↓wp_MulR, ↓wp_exc, ↓wp_LenI, ↓wp_GetI, ↓wp_OpM, ↓wp_gIn, ↓wp_gEq, ↓wp_pop, ↓wp_PopS, ↓wp_BoolI, ↓wp_Cm, ↓wp_LateB, ↓wp_gEqX, ↓wp_gEqT, ↓wp_TryN, ↓wp_pick0, ↓wp_pickA, ↓wp_pickO, ↓wp_RaiseB, own_int, fz_int, own_bl, fz_bl, own_str, fz_str, own_non, fz_non, own_tup, fz_tup, own_fl, fz_fl, own_kl, fz_kl, own_obj, fz_obj, own_ref, fz_ref, own_cls, fz_cls, own_ty, fz_ty, own_nl, fz_nl, own_no, fz_no, its_tup, its_fl, its_kl, its_nl, bLen_tup, bLen_fl, bLen_kl, bLen_nl, bIdx_tup, bIdx_f, bIdx_kl, bIdx_nl, at_0, at_1, at_2, at_3, at_4, at_5, at_6, at_m1, at_nat, c_yes, bAdd_int, bAdd_tup, bAdd_fl, bNeg_int, bAbs_int, bInt1_int, bInt1_bl, bList_eq, bTuple_eq, cInt_int, cEq_ii, cEq_bb, cEq_nn, cNe_eq, cNin_eq, cIs_non, cIsn_non, tb_bl, tru_non, tru_bl, tru_int, tru_tup, tru_fl, tru_nl, sum_n, sum_f, fnOf_obj, fnOf_no, puts_nil, puts_cons, wipe_nil, wipe_cons, gPos_eq, pick_nil, pick_cons, toL_some, keepF_eq, clrF_eq, appF_eq, gKwD, rgA, rgB, optL_some, optL_none, starG_eq, dun_obj, enum_nil, enum_cons, lst_fl, lst_kl, lst_tup, bCut_tup, bCut_fl, bCut_nl, bCut_kl, cut_m1, psI_int, cut_hi, cut_lo, List.take_succ_cons, List.take_zero, List.drop_succ_cons, List.drop_zero, Int.reduceToNat, isNon_non, isNon_int, isNon_bl, isNon_str, isNon_tup, isNon_fl, isNon_nl, isNon_obj, isNon_ref, natk_int, same_obj, bty_obj, bty_no, bty_nl, Option.isSome_some, Option.isSome_none, popk_nl, Int.reduceEq, beq_self_eq_true, eqk_some, eqk_none, fnOf_non, fnOf_bl, fnOf_int, fnOf_str, fnOf_tup, fnOf_fl, cIsB_eq, cIsnB_eq, cEqT_tup, bRepr_bl, bBool1_bl, bBool1_int, endF_nx, endF_rt, endF_brk, endF_ct, smp_non, smp_bl, smp_int, bty_non, bty_bl, bty_int, bty_str, bty_tup, bty_fl, bty_kl, startF, List.map_cons, List.map_nil, List.cons_append, List.nil_append, List.append_nil, List.length_cons, List.length_nil, List.replicate_succ, List.replicate_zero, List.getElem?_cons_succ, List.getElem?_cons_zero, List.set_cons_succ, List.set_cons_zero, Nat.reduceAdd, Nat.reduceSub, Nat.reduceLeDiff, Nat.reduceLT, Nat.zero_add, and_true, true_and, and_self, false_and, and_false, not_true_eq_false, not_false_eq_true, eq_self, decide_true, decide_false, Bool.not_true, Bool.not_false, Bool.true_and, Bool.false_and, Bool.and_true, Bool.and_false, Bool.or_true, Bool.or_false, Bool.true_or, Bool.false_or, Option.map_some, Option.map_none, Int.toNat_natCast, ↓reduceIte, Bool.false_eq_true, reduceCtorEq, Int.cast_ofNat_Int, Int.reduceLT, Int.reduceLE, Int.reduceAdd, Int.reduceSub, Int.reduceNeg, Int.natCast_zero, big_eq, and_assoc, ↓w__law_source_k1, ↓w__law_source, ↓w__law_draw_k3, ↓w__law_draw_k2, ↓w__law_draw_k1, ↓w__law_draw, ↓w__law_of, ↓w__law_raise_early_k6, ↓w__law_raise_early_k5, ↓w__law_raise_early_k4, ↓w__law_raise_early_k3, ↓w__law_raise_early_k2, ↓w__law_raise_early_k1, ↓w__law_raise_early, ↓w__law_raise_k6, ↓w__law_raise_k5, ↓w__law_raise_k4, ↓w__law_raise_k3, ↓w__law_raise_k2, ↓w__law_raise_k1, ↓w__law_raise, ↓w__law_kinds_y1, ↓w__law_kinds, ↓w__law_words_borne_y1, ↓w__law_words_borne, ↓w__law_numbers_borne_y1, ↓w__law_numbers_borne, ↓w_law_g1, ↓w_law_t1, ↓w_law_e1, ↓w_law_b4, ↓w_law_b5, ↓w_law, v_cond_CountError_0, v_cond_CountError_1, v_cond_CountError_2, v_cond_CountError_3, v_cond_CountError_4, v_cond_CountError_5, v_cond_CountError_6, v_cond_CountError_7, v_cond_CountError_8, v_cond_CountError_9, v_cond_CountError_10, v_cond_CountError_11, v_cond_CountError_12, v_cond_CountError_13, v_cond_CountError_14, v_cond_BadInstance_0, v_cond_BadInstance_1, v_cond_BadInstance_2, v_cond_BadInstance_3, v_cond_BadInstance_4, v_cond_BadInstance_5, v_cond_BadInstance_6, v_cond_BadInstance_7, v_cond_BadInstance_8, v_cond_BadInstance_9, v_cond_BadInstance_10, v_cond_BadInstance_11, v_cond_BadInstance_12, v_cond_BadInstance_13, v_cond_BadInstance_14, v_cond_BadWorld_0, v_cond_BadWorld_1, v_cond_BadWorld_2, v_cond_BadWorld_3, v_cond_BadWorld_4, v_cond_BadWorld_5, v_cond_BadWorld_6, v_cond_BadWorld_7, v_cond_BadWorld_8, v_cond_BadWorld_9, v_cond_BadWorld_10, v_cond_BadWorld_11, v_cond_BadWorld_12, v_cond_BadWorld_13, v_cond_BadWorld_14, v_cond_BadUnit_0, v_cond_BadUnit_1, v_cond_BadUnit_2, v_cond_BadUnit_3, v_cond_BadUnit_4, v_cond_BadUnit_5, v_cond_BadUnit_6, v_cond_BadUnit_7, v_cond_BadUnit_8, v_cond_BadUnit_9, v_cond_BadUnit_10, v_cond_BadUnit_11, v_cond_BadUnit_12, v_cond_BadUnit_13, v_cond_BadUnit_14, v_cond_TooMany_0, v_cond_TooMany_1, v_cond_TooMany_2, v_cond_TooMany_3, v_cond_TooMany_4, v_cond_TooMany_5, v_cond_TooMany_6, v_cond_TooMany_7, v_cond_TooMany_8, v_cond_TooMany_9, v_cond_TooMany_10, v_cond_TooMany_11, v_cond_TooMany_12, v_cond_TooMany_13, v_cond_TooMany_14, v_cond_NotAllowed_0, v_cond_NotAllowed_1, v_cond_NotAllowed_2, v_cond_NotAllowed_3, v_cond_NotAllowed_4, v_cond_NotAllowed_5, v_cond_NotAllowed_6, v_cond_NotAllowed_7, v_cond_NotAllowed_8, v_cond_NotAllowed_9, v_cond_NotAllowed_10, v_cond_NotAllowed_11, v_cond_NotAllowed_12, v_cond_NotAllowed_13, v_cond_NotAllowed_14, v_cond_BadDeed_0, v_cond_BadDeed_1, v_cond_BadDeed_2, v_cond_BadDeed_3, v_cond_BadDeed_4, v_cond_BadDeed_5, v_cond_BadDeed_6, v_cond_BadDeed_7, v_cond_BadDeed_8, v_cond_BadDeed_9, v_cond_BadDeed_10, v_cond_BadDeed_11, v_cond_BadDeed_12, v_cond_BadDeed_13, v_cond_BadDeed_14, v_cond_BadRun_0, v_cond_BadRun_1, v_cond_BadRun_2, v_cond_BadRun_3, v_cond_BadRun_4, v_cond_BadRun_5, v_cond_BadRun_6, v_cond_BadRun_7, v_cond_BadRun_8, v_cond_BadRun_9, v_cond_BadRun_10, v_cond_BadRun_11, v_cond_BadRun_12, v_cond_BadRun_13, v_cond_BadRun_14, v_cond_NoInstance_0, v_cond_NoInstance_1, v_cond_NoInstance_2, v_cond_NoInstance_3, v_cond_NoInstance_4, v_cond_NoInstance_5, v_cond_NoInstance_6, v_cond_NoInstance_7, v_cond_NoInstance_8, v_cond_NoInstance_9, v_cond_NoInstance_10, v_cond_NoInstance_11, v_cond_NoInstance_12, v_cond_NoInstance_13, v_cond_NoInstance_14, v_cond_BadTable_0, v_cond_BadTable_1, v_cond_BadTable_2, v_cond_BadTable_3, v_cond_BadTable_4, v_cond_BadTable_5, v_cond_BadTable_6, v_cond_BadTable_7, v_cond_BadTable_8, v_cond_BadTable_9, v_cond_BadTable_10, v_cond_BadTable_11, v_cond_BadTable_12, v_cond_BadTable_13, v_cond_BadTable_14, v_cond_BadText_0, v_cond_BadText_1, v_cond_BadText_2, v_cond_BadText_3, v_cond_BadText_4, v_cond_BadText_5, v_cond_BadText_6, v_cond_BadText_7, v_cond_BadText_8, v_cond_BadText_9, v_cond_BadText_10, v_cond_BadText_11, v_cond_BadText_12, v_cond_BadText_13, v_cond_BadText_14, v_cond_BadInstance_BadWorld_BadUnit_TooMany_0, v_cond_BadInstance_BadWorld_BadUnit_TooMany_1, v_cond_BadInstance_BadWorld_BadUnit_TooMany_2, v_cond_BadInstance_BadWorld_BadUnit_TooMany_3, v_cond_BadInstance_BadWorld_BadUnit_TooMany_4, v_cond_BadInstance_BadWorld_BadUnit_TooMany_5, v_cond_BadInstance_BadWorld_BadUnit_TooMany_6, v_cond_BadInstance_BadWorld_BadUnit_TooMany_7, v_cond_BadInstance_BadWorld_BadUnit_TooMany_8, v_cond_BadInstance_BadWorld_BadUnit_TooMany_9, v_cond_BadInstance_BadWorld_BadUnit_TooMany_10, v_cond_BadInstance_BadWorld_BadUnit_TooMany_11, v_cond_BadInstance_BadWorld_BadUnit_TooMany_12, v_cond_BadInstance_BadWorld_BadUnit_TooMany_13, v_cond_BadInstance_BadWorld_BadUnit_TooMany_14, v_xf_what_0, v_xf_what_4, v_xf_what_11, v_xf_what_12, v_xf_lacking_5, v_xf_why_6, v_xf_why_7, v_xf_at_3, v_xf_at_7, v_xf_line_8, v_xf_position_10]
    refine ⟨_, _, _, _, _, rfl, ?_⟩
    rw [List.length_append, List.length_singleton]
    exact S2.up (by omega)
  · rintro fr h' ⟨y3, y4, y5, y6, y7, rfl, S⟩
    exact ⟨.inl rfl, _, _, rfl, rfl⟩
theorem plain (ns : List Int) (hl : ns.length ≤ 63) : ∃ fr h, f_law [.kl (ns.map Pk.D.int)] [] = .ok (.bl true) fr h := by
  unfold f_law m_law
  refine law_top (by decide) (by decide) (by decide) fun k xs h hk hx => ?_
  match xs, hx with
  | [x2, x3, x4, x5, x6, x7], _ => exact body (by omega) h x2 x3 x4 x5 x6 x7
end L

namespace L
open PySem PySem.Spec PyProof.Rows L2
/-! ### the head -/
abbrev Rw : PySem.W.OpenRow := PySem.W.OpenLaw.row PySem.Challenge.rw_countrestarts_k97_errors_apart
abbrev hk : PySem.W.Hook := Pk.hookP 7 cn fa fn
def ob (s : PySem.W.SharedT) : Pk.AlP := Pk.obsPG 7 cn fa fn (HandSHeadRun.getT s)
theorem ob_eq (s : PySem.W.SharedT) : ob s = hk.obs s.abs := Pk.obsPG_eq (HandSHeadRun.getT_eq s)
def names : List PySem.Str := ["CountError", "BadInstance", "Unlike", "BadFactor", "NoInstance", "BadWorld", "NotAllowed", "BadDeed", "BadRun", "BadTable", "BadTerm", "BadText", "BadUnit", "TooMany", "BadWish", "_law_source", "_law_draw", "_law_of", "_law_raise_early", "_law_raise", "_law_kinds", "_law_words_borne", "_law_numbers_borne"]
set_option maxHeartbeats 0 in
theorem run (w : World) : HandSHeadRun.RunEq Rw (PySem.W.view Rw.prog [25]) hk ob 20000 names w := by
  intro os
  kernel_rfl
instance : PF (PySem.Challenge.rw_countrestarts_k97_errors_apart).prog := ⟨by kernel_rfl, by kernel_rfl⟩
theorem facts {P : Program} [PF P] {w : World} {K : PySem.W.Frag} {h : Heap} {mg : Str → Option Value} {f : Addr} (X : K.In h) (G : h.Ns mainGlobals mg) (hfa : mg ("law" : Str) = some (.ref f)) (c : Says K) :
    ∃ fd : FuncData, (∀ (s : Shared) (v : Value), BindsTo s fd ⟨[v], []⟩ [("_law_script", v)]) ∧ ∀ base : Heap, K.In base → base.Ns mainGlobals mg → FnOk P w K mg base (L2.CX P w) 4 f fd ["_law_script"] (Pk.spF K (T K) 1 f_law) := by
  obtain ⟨fd, F⟩ := c.def_ (fn.length - 1) (d := d_law) rfl
  have e := hfa.symm.trans (He.glo_ok X G (c.fact (fa.length - 1) (f := .he (.glo "law")) rfl))
  cases e
  have b := FunD.bindsA (ps := ["_law_script"]) F fun _ _ _ _ _ _ us hl => match us, hl with | [_], _ => rfl
  exact ⟨fd, fun s v => b s [v] rfl, fun base Y Gb => Pk.fn_sim F sc_law (does_law c Y Gb)⟩
end L
open PySem PySem.W PySem.Calls PyProof.Rows
theorem PySem.Challenge.cw_countrestarts_k97_errors_apart_holds : PySem.Challenge.rw_countrestarts_k97_errors_apart.Holds := by
  w_on; o_law
  refine HandSHeadRun.head_any (r := OpenLaw.row PySem.Challenge.rw_countrestarts_k97_errors_apart) (q := view (OpenLaw.row PySem.Challenge.rw_countrestarts_k97_errors_apart).prog [25]) (H := L.hk) (ob := L.ob) (M := 20000) (loose := L.names) (d := HandSHeadRun.topDef (OpenLaw.row PySem.Challenge.rw_countrestarts_k97_errors_apart).prog 25) (kwd := []) L.ob_eq
    (by kernel_rfl) (fun s => by kernel_rfl) L.run (by kernel_rfl) (by kernel_rfl) (by kernel_rfl) (by rfl) (by first | assumption | decide +kernel) (by decide +kernel) ⟨rfl, rfl, rfl, rfl, rfl, by decide +kernel⟩ ?hw ?hc
  case hw => w_witness2
  case hc =>
    refine L2.walk_ofE (l := PySem.Challenge.rw_countrestarts_k97_errors_apart) (n := 63) (k := 4) (x := "_law_script") (CX := L2.CX0) rfl (by decide) (by kernel_rfl) ⟨rfl, by decide, by decide⟩ ?F (fun _ _ _ _ z => z)
    intro w mg fa h Y G hmg0
    obtain ⟨K, KX, c⟩ := Y
    have hmg : mg ("law" : PySem.Str) = some (.ref fa) := by
      have e : (HandSHeadRun.topDef (OpenLaw.row PySem.Challenge.rw_countrestarts_k97_errors_apart).prog 25).name = ("law" : PySem.Str) := by kernel_rfl
      rw [← e]
      exact hmg0
    obtain ⟨fd, hb, hF⟩ := L.facts (P := (PySem.Challenge.rw_countrestarts_k97_errors_apart).prog) (w := w) KX G hmg c
    exact ⟨K, fd, _, KX, hb, fun H a ns hl _ hS => (let ⟨fr, h, e⟩ := L.plain ns hl; Pk.law_sp hS e), fun base Y Gb => Pk.fn_cx0 (hF base Y Gb)⟩


