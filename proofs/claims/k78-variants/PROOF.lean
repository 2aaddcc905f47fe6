import PyProof.Rows.All
import Wide.All
import OpenK.AllK
import Wide.FinOn
import HandS.ForMost
import HandS.Exc
import HandS.IsInst
import HandS.Wide
import HandS.TupAny
import HandS.Conv
import HandS.Deep
import HandS.Property
import HandS.MakeKwOnly
import HandS.SortInts
import HandS.RaiseMore
import HandS.Style
import HandS.Zip
import HandS.CallSlots
import HandS.Defaults
import HandS.HeadHook1
import HandS.HeadHook2
import HandS.HeadHook3
import HandS.HeadHook4
import HandS.HeadEnd
import HandS.ExcIs
import HandS.ExcField
import KE.GoesMore
import PyProof.EnumMake
import PyProof.EnumFor
import HandS.Iter
import HandS.Star
import KE.KExcSuper
import KE.KSuper
import HandS.ExcInit
import KE.KStateDown
import HandS.Head0
import HandS.Head1
import HandS.Head2
import PySem.Challenge.RW_countrestarts_k78_variants
import KE.KExcIs
import HandS.TryOnly
import HandS.TryMany
import HandS.ClsMeth
import HandS.OwnEq
import PyProof.CallFns
import HandS.FStr
import PyProof.Rows.StrWeight2
import PyProof.Rows.StrSplitJoin
import PyProof.Rows.StrFin3
import HandS.ExcOwn
import KE.GoesSet
import HandS.Strs
import KE.KTupSum
import PyProof.Rows.RuleN_abs
import KE.KOpsOwn
import KE.KMethU
import HandS.Dict
import HandS.Flow
import HandS.MethStar
set_option Elab.async false
set_option linter.all false
set_option maxRecDepth 100000
set_option maxHeartbeats 40000000
set_option autoImplicit false
open List renaming map_cons → aiU, append_nil → aiV, map_nil → aiW, length_cons → aiX, drop_zero → aiY, set_cons_succ → aiZ, set_cons_zero → ai0, cons_append → ai1, getElem?_cons_zero → ai2, length_nil → ai3, replicate_succ → ai4, nil_append → ai5, take_succ_cons → ai6, take_zero → ai7, drop_succ_cons → ai8, replicate_zero → ai9, getElem?_cons_succ → aja, mem_cons_self → ajb, getElem?_eq_getElem → ajc, lookup → ajd, length_map → aje, mem_cons_of_mem → ajf, getElem?_set_ne → ajg, getElem?_set_self → ajh, length_set → aji, mem_of_getElem? → ajj, length_append → ajk, getElem?_append_right → ajl, getElem?_map → ajm
namespace Pk
open PySem PySem.Spec L2
inductive D where
 | non | bl (b : Bool) | int (i : Int) | str (s : Str)
 | tup (l : List D) | fl (l : List D) | nl (l : List D) | kl (l : List D)
 | obj (c : Nat) (fs : List D) | no (c : Nat) (fs : List D) | ref (n : Nat) | cls (c : Nat) | ty (t : String)
 | sl (lo hi : Option Int)
 /-- a dict with tuples for keys, in a cell: its keys, its values -/
 | dc (ks : List (List (Sum Int Str))) (ds : List D)
 deriving Inhabited
def D.own : D → Bool
 | .nl _ => true
 | .no _ _ => true
 | _ => false
def D.fz : D → D
 | .nl l => .fl l
 | .no c fs => .obj c fs
 | d => d
abbrev Fr := List (Option D)
abbrev Hh := List D
structure Tb where
 cad : Nat → Addr
 fld : Nat → List Str
structure Wd where
 F : Hp
 I : List Addr
def Wd.le (w w' : Wd) : Prop := (∀ a o, w.F a = some o → w'.F a = some o) ∧ ∃ r, w'.I = w.I ++ r
theorem Wd.le_refl (w : Wd) : w.le w := ⟨fun _ _ h => h, [], by simp⟩
theorem Wd.le_trans {a b c : Wd} (x : a.le b) (y : b.le c) : a.le c :=
 ⟨fun p o h => y.1 p o (x.1 p o h), by
  obtain ⟨r, e⟩ := x.2
  obtain ⟨q, f⟩ := y.2
  exact ⟨r ++ q, by rw [f, e, List.append_assoc]⟩⟩
theorem Wd.le_at {w w' : Wd} (x : w.le w') {n : Nat} {a : Addr} (h : w.I[n]? = some a) : w'.I[n]? = some a := by
 obtain ⟨r, e⟩ := x.2
 rw [e, List.getElem?_append_left (List.getElem?_eq_some_iff.mp h).1]
 exact h
theorem Wd.le_mem {w w' : Wd} (x : w.le w') {a : Addr} (h : a ∈ w.I) : a ∈ w'.I := by
 obtain ⟨r, e⟩ := x.2
 rw [e]
 exact List.mem_append_left _ h
theorem aey {F F' : Hp} (x : ∀ a o, F a = some o → F' a = some o) {a : Addr} {u : HO} (h : Rd F a u) : Rd F' a u := by
 rcases h with h | ⟨o, h⟩
 · exact .inl (x _ _ h)
 · exact .inr ⟨o, x _ _ h⟩
theorem Ba {K : PySem.W.Frag} {F F' : Hp} (x : ∀ a o, F a = some o → F' a = some o) {a : Addr} {vs : List V} (h : SqL K F a vs) : SqL K F' a vs := by
 rcases h with h | h
 · exact .inl (aey x h)
 · exact .inr h
theorem wM {K : PySem.W.Frag} {F F' : Hp} (x : ∀ a o, F a = some o → F' a = some o) {a : Addr} {vs : List V} (h : SqT K F a vs) : SqT K F' a vs := by
 rcases h with h | h
 · exact .inl (aey x h)
 · exact .inr h
def SlO (a : Addr) (lo hi : Option Int) (h : Heap) : Prop := ∃ vl vu, h.IsSliceOf a vl vu .none ∧ IsPart vl lo ∧ IsPart vu hi
mutual
inductive rC (K : PySem.W.Frag) (T : Tb) (w : Wd) : V → D → Prop where
 | non : rC K T w .non .non
 | bl (b : Bool) : rC K T w (.bl b) (.bl b)
 | int (i : Int) : rC K T w (.int i) (.int i)
 | str (s : Str) : rC K T w (.str s) (.str s)
 | tup {a : Addr} {vs : List V} {ds : List D} : SqT K w.F a vs → aO K T w vs ds → rC K T w (.ref a) (.tup ds)
 | fl {a : Addr} {vs : List V} {ds : List D} : w.F a = some (.lst vs) → aO K T w vs ds → rC K T w (.ref a) (.fl ds)
 | kl {a : Addr} {vs : List V} {ds : List D} : SqL K w.F a vs → aO K T w vs ds → rC K T w (.ref a) (.kl ds)
 | obj {a dx : Addr} {c : Nat} {vs : List V} {ds : List D} : w.F a = some (.ins (T.cad c) dx ((T.fld c).zip vs)) → aO K T w vs ds → rC K T w (.ref a) (.obj c ds)
 | ref {a : Addr} {n : Nat} : w.I[n]? = some a → rC K T w (.ref a) (.ref n)
 | cls (c : Nat) : rC K T w (.ref (T.cad c)) (.cls c)
 | ty (t : String) : rC K T w (.ty t) (.ty t)
 | sl {a : Addr} {lo hi : Option Int} : w.F a = some (.ext (SlO a lo hi)) → rC K T w (.ref a) (.sl lo hi)
inductive aO (K : PySem.W.Frag) (T : Tb) (w : Wd) : List V → List D → Prop where
 | nil : aO K T w [] []
 | cons {v : V} {d : D} {vs : List V} {ds : List D} : rC K T w v d → aO K T w vs ds → aO K T w (v :: vs) (d :: ds)
end
section
variable {K : PySem.W.Frag} {T : Tb} {w w' : Wd}
mutual
theorem rC.mono (x : w.le w') : ∀ {v : V} {d : D}, rC K T w v d → rC K T w' v d
 | _, _, .non => .non
 | _, _, .bl b => .bl b
 | _, _, .int i => .int i
 | _, _, .str s => .str s
 | _, _, .tup h t => .tup (wM x.1 h) (aO.mono x t)
 | _, _, .fl h t => .fl (x.1 _ _ h) (aO.mono x t)
 | _, _, .kl h t => .kl (Ba x.1 h) (aO.mono x t)
 | _, _, .obj h t => .obj (x.1 _ _ h) (aO.mono x t)
 | _, _, .ref h => .ref (Wd.le_at x h)
 | _, _, .cls c => .cls c
 | _, _, .ty t => .ty t
 | _, _, .sl h => .sl (x.1 _ _ h)
theorem aO.mono (x : w.le w') : ∀ {vs : List V} {ds : List D}, aO K T w vs ds → aO K T w' vs ds
 | _, _, .nil => .nil
 | _, _, .cons h t => .cons (rC.mono x h) (aO.mono x t)
end
theorem aO.length : ∀ {vs : List V} {ds : List D}, aO K T w vs ds → vs.length = ds.length
 | _, _, .nil => rfl
 | _, _, .cons _ t => congrArg Nat.succ (aO.length t)
theorem aO.get : ∀ {vs : List V} {ds : List D} {i : Nat} {d : D}, aO K T w vs ds → ds[i]? = some d → ∃ v, vs[i]? = some v ∧ rC K T w v d
 | _, _, _, _, .nil, e => by simp at e
 | _, _, 0, _, .cons h _, e => by
   simp at e
   subst e
   exact ⟨_, rfl, h⟩
 | _, _, i + 1, d, .cons _ t, e => by
   obtain ⟨v, h1, h2⟩ := aO.get (i := i) (d := d) t (by simpa using e)
   exact ⟨v, by simpa using h1, h2⟩
theorem aO.append : ∀ {vs us : List V} {ds es : List D}, aO K T w vs ds → aO K T w us es → aO K T w (vs ++ us) (ds ++ es)
 | _, _, _, _, .nil, t => t
 | _, _, _, _, .cons h r, t => .cons h (aO.append r t)
theorem aO.drop : ∀ {vs : List V} {ds : List D} (n : Nat), aO K T w vs ds → aO K T w (vs.drop n) (ds.drop n)
 | _, _, 0, h => h
 | _, _, _ + 1, .nil => .nil
 | _, _, n + 1, .cons _ t => aO.drop n t
theorem aO.take : ∀ {vs : List V} {ds : List D} (n : Nat), aO K T w vs ds → aO K T w (vs.take n) (ds.take n)
 | _, _, 0, _ => .nil
 | _, _, _ + 1, .nil => .nil
 | _, _, n + 1, .cons h t => .cons h (aO.take n t)
theorem aO.set : ∀ {vs : List V} {ds : List D} {v : V} {d : D} (n : Nat), aO K T w vs ds → rC K T w v d → aO K T w (vs.set n v) (ds.set n d)
 | _, _, _, _, _, .nil, _ => .nil
 | _, _, _, _, 0, .cons _ t, h => .cons h t
 | _, _, _, _, n + 1, .cons h t, k => .cons h (aO.set n t k)
theorem aO.ints : ∀ {vs : List V} {is : List Int}, aO K T w vs (is.map D.int) → vs = is.map V.int
 | _, [], .nil => rfl
 | _, i :: is, .cons h t => by
   cases h
   rw [aO.ints t]
   rfl
end
structure Bs where
 w0 : Wd
 H0 : Hp
 P : List (Addr × HO)
 /-- where an __init__'s own instance is: in slot 0, as long as that holds an object of the body's own -/
 me : Option Addr
abbrev Bs.of (w : Wd) (H : Hp) : Bs := ⟨w, H, [], none⟩
structure Own (B : Bs) (w : Wd) (p : Addr) : Prop where
 f : w.F p = none
 i : p ∉ w.I
 e : B.H0 p = none
 p : ∀ q ∈ B.P, q.1 ≠ p
inductive Bb (K : PySem.W.Frag) (T : Tb) (w : Wd) : HO → D → Prop where
 | lst {vs : List V} {ds : List D} : aO K T w vs ds → Bb K T w (.lst vs) (.nl ds)
 | obj {dx : Addr} {c : Nat} {vs : List V} {ds : List D} : aO K T w vs ds → Bb K T w (.ins (T.cad c) dx ((T.fld c).zip vs)) (.no c ds)
theorem Bb.own {K : PySem.W.Frag} {T : Tb} {w : Wd} {o : HO} {d : D} (x : Bb K T w o d) : d.own = true := by
 cases x <;> rfl
theorem Bb.mono {K : PySem.W.Frag} {T : Tb} {w w' : Wd} {o : HO} {d : D} (l : w.le w') (x : Bb K T w o d) : Bb K T w' o d := by
 cases x with
 | lst r => exact .lst (r.mono l)
 | obj r => exact .obj (r.mono l)
theorem Bb.fz {K : PySem.W.Frag} {T : Tb} {w w' : Wd} {o : HO} {d : D} {p : Addr} (l : w.le w') (e : w'.F p = some o) (x : Bb K T w o d) : rC K T w' (.ref p) d.fz := by
 cases x with
 | lst r => exact .fl e (r.mono l)
 | obj r => exact .obj e (r.mono l)
theorem N6 {K : PySem.W.Frag} {T : Tb} {w : Wd} {v : V} {d : D} (r : rC K T w v d) : d.own = false := by
 cases r <;> rfl
theorem aeU {K : PySem.W.Frag} {T : Tb} {w : Wd} {v : V} {d : D} (r : rC K T w v d) : d.fz = d := by
 cases r <;> rfl
theorem Di {K : PySem.W.Frag} {T : Tb} {w : Wd} {v : V} {d : D} (o : d.own = true) (r : rC K T w v d) : False := by
 rw [N6 r] at o
 cases o
theorem ab9 (d : D) : d.fz.own = false := by
 cases d <;> rfl
inductive N7 (K : PySem.W.Frag) (T : Tb) (B : Bs) (w : Wd) (H : Hp) : Option V → Option D → Prop where
 | none {v : Option V} : N7 K T B w H v none
 | val {v : V} {d : D} : rC K T w v d → N7 K T B w H (some v) (some d)
 | own {p : Addr} {o : HO} {d : D} : Own B w p → H p = some o → Bb K T w o d → N7 K T B w H (some (.ref p)) (some d)
inductive JH (K : PySem.W.Frag) (T : Tb) (w : Wd) : HO → D → Prop where
 | lst {vs : List V} {ds : List D} : aO K T w vs ds → JH K T w (.lst vs) (.nl ds)
 | obj {dx : Addr} {c : Nat} {vs : List V} {ds : List D} : aO K T w vs ds → JH K T w (.ins (T.cad c) dx ((T.fld c).zip vs)) (.no c ds)
 | dct {ks : List (List Key)} {vs : List V} {ds : List D} : ks.length = ds.length → aO K T w vs ds → JH K T w (.dT (ks.zip vs)) (.dc ks ds)
theorem Bb.cel {K : PySem.W.Frag} {T : Tb} {w : Wd} {o : HO} {d : D} (x : Bb K T w o d) : JH K T w o d := by
 cases x with
 | lst r => exact .lst r
 | obj r => exact .obj r
theorem JH.mono {K : PySem.W.Frag} {T : Tb} {w w' : Wd} {o : HO} {d : D} (l : w.le w') (x : JH K T w o d) : JH K T w' o d := by
 cases x with
 | lst r => exact .lst (r.mono l)
 | obj r => exact .obj (r.mono l)
 | dct h r => exact .dct h (r.mono l)
def Ms (K : PySem.W.Frag) (T : Tb) (w : Wd) (H : Hp) (a : Addr) (d : D) : Prop := ∃ o, H a = some o ∧ JH K T w o d
def Ft (σ : St) (fr : Fr) (i : Nat) (p : Addr) : Prop := σ[i]? = some (some (.ref p)) ∧ ∃ d, fr[i]? = some (some d) ∧ d.own = true
structure Rel (K : PySem.W.Frag) (T : Tb) (B : Bs) (w : Wd) (σ : St) (H : Hp) (fr : Fr) (h : Hh) : Prop where
 le : B.w0.le w
 nF : ∀ a, w.F a ≠ none → B.w0.F a ≠ none ∨ B.H0 a = none
 nI : ∀ a ∈ w.I, a ∈ B.w0.I ∨ B.H0 a = none
 keep : ∀ a o, B.H0 a = some o → a ∉ B.w0.I → H a = some o
 prot : ∀ q ∈ B.P, H q.1 = some q.2 ∧ w.F q.1 = none ∧ q.1 ∉ w.I
 sub : ∀ a o, w.F a = some o → H a = some o
 len : w.I.length = h.length
 nd : w.I.Nodup
 dis : ∀ a ∈ w.I, w.F a = none
 cel : ∀ (n : Nat) a c, w.I[n]? = some a → h[n]? = some c → Ms K T w H a c
 fl : fr.length = σ.length
 sl : ∀ (i : Nat) s d, σ[i]? = some s → fr[i]? = some d → N7 K T B w H s d
 sep : ∀ i j p, i ≠ j → Ft σ fr i p → Ft σ fr j p → False
 me : ∀ x d, B.me = some x → fr[0]? = some (some d) → d.own = true → σ[0]? = some (some (.ref x))
section
variable {K : PySem.W.Frag} {T : Tb} {B : Bs} {w w' : Wd} {σ : St} {H H' : Hp} {fr : Fr} {h : Hh}
theorem Rel.nP (R : Rel K T B w σ H fr h) {p : Addr} (np : H p = none) : w.F p = none ∧ p ∉ w.I ∧ (∀ q ∈ B.P, q.1 ≠ p) := by
 refine ⟨?_, fun hm => ?_, fun q hq e => ?_⟩
 · cases e : w.F p with
   | none => rfl
   | some o =>
     have := R.sub p o e
     rw [np] at this
     cases this
 · obtain ⟨n, hn, e⟩ := List.getElem_of_mem hm
   have hl : n < h.length := by rw [← R.len]; exact hn
   obtain ⟨o, q, _⟩ := R.cel n p h[n] (by rw [ajc hn, e]) (ajc hl)
   rw [np] at q
   cases q
 · have z := (R.prot q hq).1
   rw [e, np] at z
   cases z
theorem Rel.iSome (R : Rel K T B w σ H fr h) {a : Addr} (hm : a ∈ w.I) : H a ≠ none := fun np => (R.nP np).2.1 hm
theorem Ms.keep {a : Addr} {c : D} (x : w.le w') (e : H' a = H a) (z : Ms K T w H a c) : Ms K T w' H' a c := by
 obtain ⟨o, q, r⟩ := z
 exact ⟨o, by rw [e]; exact q, r.mono x⟩
theorem Rel.grow (R : Rel K T B w σ H fr h) (x : w.le w') (eI : w'.I = w.I) (hk : ∀ a o, H a = some o → H' a = some o) (hF : ∀ a o, w'.F a = some o → H' a = some o)
 (hn : ∀ a, w'.F a ≠ none → w.F a ≠ none ∨ H a = none) (he : ∀ a, H a = none → B.H0 a = none ∨ True) : Rel K T B w' σ H' fr h where
 le := Wd.le_trans R.le x
 nF := fun a ha => by
  rcases hn a ha with q | q
  · exact R.nF a q
  · right
    cases e : B.H0 a with
    | none => rfl
    | some o =>
      by_cases hm : a ∈ B.w0.I
      · exact absurd q (R.iSome (Wd.le_mem R.le hm))
      · have := R.keep a o e hm
        rw [q] at this
        cases this
 nI := fun a ha => R.nI a (by rw [← eI]; exact ha)
 keep := fun a o e hm => hk a o (R.keep a o e hm)
 prot := fun q hq => by
  obtain ⟨h1, h2, h3⟩ := R.prot q hq
  refine ⟨hk _ _ h1, ?_, by rw [eI]; exact h3⟩
  cases e : w'.F q.1 with
  | none => rfl
  | some o =>
    rcases hn q.1 (by rw [e]; simp) with z | z
    · exact absurd h2 z
    · rw [h1] at z
      cases z
 sub := hF
 len := by rw [eI]; exact R.len
 nd := by rw [eI]; exact R.nd
 dis := fun a ha => by
  have hm : a ∈ w.I := by rw [← eI]; exact ha
  cases e : w'.F a with
  | none => rfl
  | some o =>
    rcases hn a (by rw [e]; simp) with z | z
    · exact absurd (R.dis a hm) z
    · exact absurd z (R.iSome hm)
 cel := fun n a c e1 e2 => by
  have e1' : w.I[n]? = some a := by rw [← eI]; exact e1
  have z := R.cel n a c e1' e2
  refine Ms.keep x ?_ z
  have hs := R.iSome (ajj e1')
  cases q : H a with
  | none => exact absurd q hs
  | some o => exact hk a o q
 fl := R.fl
 sl := fun i s d e1 e2 => by
  have z := R.sl i s d e1 e2
  cases z with
  | none => exact .none
  | val r => exact .val (r.mono x)
  | own o e r =>
    refine .own ⟨?_, by rw [eI]; exact o.i, o.e, o.p⟩ (hk _ _ e) (r.mono x)
    cases q : w'.F _ with
    | none => rfl
    | some u =>
      rcases hn _ (by rw [q]; simp) with z | z
      · exact absurd o.f z
      · rw [e] at z
        cases z
 sep := R.sep
 me := R.me
def Wd.add (w : Wd) (p : Addr) (o : HO) : Wd := ⟨upd w.F p o, w.I⟩
theorem Wd.le_add {p : Addr} {o : HO} (e : w.F p = none) : w.le (w.add p o) :=
 ⟨fun a u h => by
  show upd w.F p o a = some u
  rw [upd_ne (ne_of_none h e)]
  exact h, [], by simp [Wd.add]⟩
theorem Rel.laid (R : Rel K T B w σ H fr h) {p : Addr} {o : HO} (np : H p = none) : Rel K T B (w.add p o) σ (upd H p o) fr h := by
 refine R.grow (Wd.le_add (R.nP np).1) rfl (fun a u e => ?_) (fun a u e => ?_) (fun a e => ?_) (fun _ _ => .inr trivial)
 · rw [upd_ne (ne_of_none e np)]
   exact e
 · have e' : upd w.F p o a = some u := e
   by_cases ha : a = p
   · subst ha
     rw [upd_same] at e' ⊢
     exact e'
   · rw [upd_ne ha] at e' ⊢
     exact R.sub a u e'
 · have e' : upd w.F p o a ≠ none := e
   by_cases ha : a = p
   · subst ha
     exact .inr np
   · rw [upd_ne ha] at e'
     exact .inl e'
theorem Rel.temp (R : Rel K T B w σ H fr h) {p : Addr} {o : HO} (np : H p = none) : Rel K T B w σ (upd H p o) fr h :=
 R.grow (Wd.le_refl w) rfl (fun a u e => by rw [upd_ne (ne_of_none e np)]; exact e) (fun a u e => by rw [upd_ne (ne_of_none (R.sub a u e) np)]; exact R.sub a u e) (fun a e => .inl e) (fun _ _ => .inr trivial)
theorem Rel.own_new (R : Rel K T B w σ H fr h) {p : Addr} (np : H p = none) : Own B w p := by
 obtain ⟨h1, h2, h3⟩ := R.nP np
 refine ⟨h1, h2, ?_, h3⟩
 cases e : B.H0 p with
 | none => rfl
 | some o =>
   by_cases hm : p ∈ B.w0.I
   · exact absurd np (R.iSome (Wd.le_mem R.le hm))
   · have := R.keep p o e hm
     rw [np] at this
     cases this
def Fv (σ : St) (fr : Fr) (p : Addr) : Prop := ∀ i, ¬ Ft σ fr i p
theorem Rel.loose_new (R : Rel K T B w σ H fr h) {p : Addr} (np : H p = none) : Fv σ fr p := fun i ⟨e1, d, e2, od⟩ => by
 have z := R.sl i _ _ e1 e2
 cases z with
 | val r => exact Di od r
 | own o e r =>
   rw [np] at e
   cases e
theorem Rel.freeze (R : Rel K T B w σ H fr h) {p : Addr} {o : HO} (O : Own B w p) (l : Fv σ fr p) (e : H p = some o) : Rel K T B (w.add p o) σ H fr h where
 le := Wd.le_trans R.le (Wd.le_add O.f)
 nF := fun a ha => by
  have e' : upd w.F p o a ≠ none := ha
  by_cases hp : a = p
  · subst hp
    exact .inr O.e
  · rw [upd_ne hp] at e'
    exact R.nF a e'
 nI := R.nI
 keep := R.keep
 prot := fun q hq => by
  obtain ⟨h1, h2, h3⟩ := R.prot q hq
  refine ⟨h1, ?_, h3⟩
  show upd w.F p o q.1 = none
  rw [upd_ne (O.p q hq)]
  exact h2
 sub := fun a u ha => by
  have e' : upd w.F p o a = some u := ha
  by_cases hp : a = p
  · subst hp
    rw [upd_same] at e'
    rw [← e']
    exact e
  · rw [upd_ne hp] at e'
    exact R.sub a u e'
 len := R.len
 nd := R.nd
 dis := fun a ha => by
  show upd w.F p o a = none
  have hne : a ≠ p := fun z => O.i (by rw [← z]; exact ha)
  rw [upd_ne hne]
  exact R.dis a ha
 cel := fun n a c e1 e2 => Ms.keep (Wd.le_add O.f) rfl (R.cel n a c e1 e2)
 fl := R.fl
 sl := fun i s d e1 e2 => by
  have z := R.sl i s d e1 e2
  cases z with
  | none => exact .none
  | val r => exact .val (r.mono (Wd.le_add O.f))
  | @own q _ _ o' e' r =>
    refine .own ⟨?_, o'.i, o'.e, o'.p⟩ e' (r.mono (Wd.le_add O.f))
    show upd w.F p o q = none
    have hne : q ≠ p := fun z => l i ⟨by rw [← z]; exact e1, _, e2, r.own⟩
    rw [upd_ne hne]
    exact o'.f
 sep := R.sep
 me := R.me
theorem Qa {σ : St} {fr : Fr} {i j : Nat} {s : Option V} {d : Option D} {p : Addr} (hi : i ≠ j) (o : Ft (σ.set j s) (fr.set j d) i p) : Ft σ fr i p := by
 obtain ⟨e1, dd, e2, od⟩ := o
 rw [ajg (Ne.symm hi)] at e1 e2
 exact ⟨e1, dd, e2, od⟩
theorem Rel.set_slot (R : Rel K T B w σ H fr h) {i : Nat} {s : Option V} {d : Option D} (r : N7 K T B w H s d) (hp : ∀ p d', s = some (.ref p) → d = some d' → d'.own = true → Fv σ fr p) (hm : i = 0 → ∀ d', d = some d' → d'.own = false) : Rel K T B w (σ.set i s) H (fr.set i d) h :=
 { R with
   me := fun x d' bx e od => by
    by_cases hi : i = 0
    · subst hi
      have l2 : 0 < fr.length := by
       have := (List.getElem?_eq_some_iff.mp e).1
       rwa [aji] at this
      rw [ajh l2] at e
      rw [hm rfl d' (Option.some.inj e)] at od
      cases od
    · rw [ajg hi] at e ⊢
      exact R.me x d' bx e od
   fl := by rw [aji, aji]; exact R.fl
   sl := fun j s' d' e1 e2 => by
    by_cases hj : i = j
    · subst hj
      have l1 : i < σ.length := by
       have := (List.getElem?_eq_some_iff.mp e1).1
       rwa [aji] at this
      rw [ajh l1] at e1
      rw [ajh (by rw [R.fl]; exact l1)] at e2
      cases e1
      cases e2
      exact r
    · rw [ajg hj] at e1 e2
      exact R.sl j s' d' e1 e2
   sep := fun a b p hab o1 o2 => by
    have key : ∀ a b, a ≠ b → a = i → Ft (σ.set i s) (fr.set i d) a p → Ft (σ.set i s) (fr.set i d) b p → False := fun a b hab ha o1 o2 => by
     subst ha
     have o2' := Qa (Ne.symm hab) o2
     obtain ⟨e1, dd, e2, od⟩ := o1
     have l1 : a < σ.length := by
      have := (List.getElem?_eq_some_iff.mp e1).1
      rwa [aji] at this
     rw [ajh l1] at e1
     rw [ajh (by rw [R.fl]; exact l1)] at e2
     cases e1
     cases e2
     exact hp p dd rfl rfl od b o2'
    by_cases ha : a = i
    · exact key a b hab ha o1 o2
    · by_cases hb : b = i
      · exact key b a (Ne.symm hab) hb o2 o1
      · exact R.sep a b p hab (Qa ha o1) (Qa hb o2) }
theorem Rel.drop_slot (R : Rel K T B w σ H fr h) (i : Nat) : Rel K T B w σ H (fr.set i none) h :=
 { R with
   me := fun x d' bx e od => by
    by_cases hi : i = 0
    · subst hi
      have l2 : 0 < fr.length := by
       have := (List.getElem?_eq_some_iff.mp e).1
       rwa [aji] at this
      rw [ajh l2] at e
      cases e
    · rw [ajg hi] at e
      exact R.me x d' bx e od
   fl := by rw [aji]; exact R.fl
   sl := fun j s' d' e1 e2 => by
    by_cases hj : i = j
    · subst hj
      have l2 : i < fr.length := by
       have := (List.getElem?_eq_some_iff.mp e2).1
       rwa [aji] at this
      rw [ajh l2] at e2
      cases e2
      exact .none
    · rw [ajg hj] at e2
      exact R.sl j s' d' e1 e2
   sep := fun a b p hab o1 o2 => by
    have key : ∀ a, Ft σ (fr.set i none) a p → Ft σ fr a p := fun a o => by
     obtain ⟨e1, dd, e2, od⟩ := o
     by_cases ha : i = a
     · subst ha
       have l2 : i < fr.length := by
        have := (List.getElem?_eq_some_iff.mp e2).1
        rwa [aji] at this
       rw [ajh l2] at e2
       cases e2
     · rw [ajg ha] at e2
       exact ⟨e1, dd, e2, od⟩
    exact R.sep a b p hab (key a o1) (key b o2) }
theorem Rel.freeze_slot (R : Rel K T B w σ H fr h) {i : Nat} {d : D} (e : fr[i]? = some (some d)) (od : d.own = true) :
 ∃ p o, σ[i]? = some (some (.ref p)) ∧ H p = some o ∧ Bb K T w o d ∧ w.F p = none ∧ Rel K T B (w.add p o) σ H (fr.set i (some d.fz)) h := by
 have l2 : i < fr.length := (List.getElem?_eq_some_iff.mp e).1
 have l1 : i < σ.length := by rw [← R.fl]; exact l2
 have e1 : σ[i]? = some σ[i] := ajc l1
 have z := R.sl i _ _ e1 e
 generalize hs : σ[i] = s at z e1
 cases z with
 | val r => exact (Di od r).elim
 | @own p o _ O eH r =>
   refine ⟨p, o, e1, eH, r, O.f, ?_⟩
   have R1 := R.drop_slot i
   have lo : Fv σ (fr.set i none) p := fun j q => by
    obtain ⟨q1, dq, q2, oq⟩ := q
    by_cases hj : i = j
    · subst hj
      rw [ajh l2] at q2
      cases q2
    · rw [ajg hj] at q2
      exact R.sep i j p hj ⟨e1, d, e, od⟩ ⟨q1, dq, q2, oq⟩
   have R2 := R1.freeze O lo eH
   have R3 := R2.set_slot (i := i) (s := some (.ref p)) (d := some d.fz) (.val (r.fz (Wd.le_add O.f) (by show upd w.F p _ p = _; rw [upd_same]))) (fun _ _ _ q oq => by
    cases q
    rw [ab9] at oq
    cases oq) (fun _ d' q => by
    cases q
    exact ab9 d)
   rw [List.set_set] at R3
   have es : σ.set i (some (.ref p)) = σ := by
    have := List.set_getElem_self (as := σ) (h := l1)
    rw [hs] at this
    exact this
   rw [es] at R3
   exact R3
theorem Yg {α : Type} : ∀ {l : List α} {i j : Nat} {a : α}, l.Nodup → l[i]? = some a → l[j]? = some a → i = j
 | [], _, _, _, _, e, _ => by simp at e
 | b :: l, 0, 0, _, _, _, _ => rfl
 | b :: l, 0, j + 1, a, n, e1, e2 => by
   simp at e1 e2
   subst e1
   exact absurd (ajj e2) (List.nodup_cons.mp n).1
 | b :: l, i + 1, 0, a, n, e1, e2 => by
   simp at e1 e2
   subst e2
   exact absurd (ajj e1) (List.nodup_cons.mp n).1
 | b :: l, i + 1, j + 1, a, n, e1, e2 => by
   simp at e1 e2
   rw [Yg (List.nodup_cons.mp n).2 e1 e2]
theorem Rel.change_slot (R : Rel K T B w σ H fr h) {i : Nat} {d d' : D} {p : Addr} {o o' : HO} (e1 : σ[i]? = some (some (.ref p))) (e : fr[i]? = some (some d)) (O : Own B w p) (eH : H p = some o) (od : d.own = true) (r' : Bb K T w o' d') :
 Rel K T B w σ (upd H p o') (fr.set i (some d')) h := by
 have l2 : i < fr.length := (List.getElem?_eq_some_iff.mp e).1
 have l1 : i < σ.length := by rw [← R.fl]; exact l2
 refine { R with keep := fun a u ha hm => ?_, prot := fun q hq => ?_, sub := fun a u ha => ?_, cel := fun n a c q1 q2 => ?_, fl := by rw [aji]; exact R.fl, sl := fun j s dj q1 q2 => ?_, sep := fun a b q hab o1 o2 => ?_, me := fun x dx bx q od' => ?_ }
 · rw [upd_ne (fun z => by rw [z, O.e] at ha; cases ha)]
   exact R.keep a u ha hm
 · obtain ⟨h1, h2, h3⟩ := R.prot q hq
   exact ⟨by rw [upd_ne (O.p q hq)]; exact h1, h2, h3⟩
 · rw [upd_ne (fun z => by rw [z, O.f] at ha; cases ha)]
   exact R.sub a u ha
 · refine Ms.keep (Wd.le_refl w) ?_ (R.cel n a c q1 q2)
   exact upd_ne (fun z => O.i (z ▸ ajj q1))
 · by_cases hj : i = j
   · subst hj
     rw [e1] at q1
     rw [ajh l2] at q2
     cases q1
     cases q2
     exact .own O upd_same r'
   · rw [ajg hj] at q2
     have z := R.sl j s dj q1 q2
     cases z with
     | none => exact .none
     | val r => exact .val r
     | @own q u _ O' eH' rr =>
       refine .own O' ?_ rr
       have hne : q ≠ p := fun z => R.sep i j p hj ⟨e1, d, e, od⟩ ⟨by rw [← z]; exact q1, _, q2, rr.own⟩
       rw [upd_ne hne]
       exact eH'
 · have key : ∀ a, Ft σ (fr.set i (some d')) a q → Ft σ fr a q := fun a ⟨q1, dq, q2, oq⟩ => by
    by_cases ha : i = a
    · subst ha
      exact ⟨q1, d, e, od⟩
    · rw [ajg ha] at q2
      exact ⟨q1, dq, q2, oq⟩
   exact R.sep a b q hab (key a o1) (key b o2)
 · by_cases hi : i = 0
   · subst hi
     exact R.me x d bx e od
   · rw [ajg hi] at q
     exact R.me x dx bx q od'
theorem Rel.change_cell (R : Rel K T B w σ H fr h) {n : Nat} {a : Addr} {d d' : D} {o' : HO} (e1 : w.I[n]? = some a) (e : h[n]? = some d) (r' : JH K T w o' d') : Rel K T B w σ (upd H a o') fr (h.set n d') := by
 have hm : a ∈ w.I := ajj e1
 have lh : n < h.length := (List.getElem?_eq_some_iff.mp e).1
 refine { R with keep := fun b u hb hn => ?_, prot := fun q hq => ?_, sub := fun b u hb => ?_, len := by rw [aji]; exact R.len, cel := fun k b c q1 q2 => ?_, sl := fun j s dj q1 q2 => ?_ }
 · rw [upd_ne (fun z => by
    subst z
    rcases R.nI _ hm with q | q
    · exact hn q
    · rw [q] at hb
      cases hb)]
   exact R.keep b u hb hn
 · obtain ⟨h1, h2, h3⟩ := R.prot q hq
   have hne : q.1 ≠ a := fun z => h3 (by rw [z]; exact hm)
   exact ⟨by rw [upd_ne hne]; exact h1, h2, h3⟩
 · rw [upd_ne (fun z => by rw [z, R.dis a hm] at hb; cases hb)]
   exact R.sub b u hb
 · by_cases hk : n = k
   · subst hk
     rw [e1] at q1
     rw [ajh lh] at q2
     cases q1
     cases q2
     exact ⟨o', upd_same, r'⟩
   · rw [ajg hk] at q2
     refine Ms.keep (Wd.le_refl w) (upd_ne fun z => ?_) (R.cel k b c q1 q2)
     subst z
     exact hk (Yg R.nd e1 q1)
 · have z := R.sl j s dj q1 q2
   cases z with
   | none => exact .none
   | val r => exact .val r
   | @own q u _ O' eH' rr =>
     have hne : q ≠ a := fun z => O'.i (by rw [z]; exact hm)
     exact .own O' (by rw [upd_ne hne]; exact eH') rr
theorem Rel.to_cellO (R : Rel K T B w σ H fr h) {p : Addr} {o : HO} {d : D} (O : Own B w p) (lo : Fv σ fr p) (e : H p = some o) (r : JH K T w o d) : Rel K T B ⟨w.F, w.I ++ [p]⟩ σ H fr (h ++ [d]) := by
 have le : w.le ⟨w.F, w.I ++ [p]⟩ := ⟨fun _ _ q => q, [p], rfl⟩
 refine ⟨Wd.le_trans R.le le, R.nF, fun a ha => ?_, R.keep, fun q hq => ?_, R.sub, ?_, ?_, fun a ha => ?_, fun n a c q1 q2 => ?_, R.fl, fun j s dj q1 q2 => ?_, R.sep, R.me⟩
 · rcases List.mem_append.mp ha with q | q
   · exact R.nI a q
   · rw [List.mem_singleton] at q
     subst q
     exact .inr O.e
 · obtain ⟨h1, h2, h3⟩ := R.prot q hq
   refine ⟨h1, h2, fun z => ?_⟩
   rcases List.mem_append.mp z with y | y
   · exact h3 y
   · rw [List.mem_singleton] at y
     exact O.p q hq y
 · show (w.I ++ [p]).length = (h ++ [d]).length
   rw [ajk, ajk, R.len]
   rfl
 · show (w.I ++ [p]).Nodup
   rw [List.nodup_append]
   exact ⟨R.nd, by simp, fun a ha b hb => by
    rw [List.mem_singleton] at hb
    subst hb
    exact fun z => O.i (z ▸ ha)⟩
 · rcases List.mem_append.mp ha with q | q
   · exact R.dis a q
   · rw [List.mem_singleton] at q
     subst q
     exact O.f
 · have q1' : (w.I ++ [p])[n]? = some a := q1
   by_cases hn : n < w.I.length
   · rw [List.getElem?_append_left hn] at q1'
     rw [List.getElem?_append_left (by rw [← R.len]; exact hn)] at q2
     exact Ms.keep le rfl (R.cel n a c q1' q2)
   · have hn' : w.I.length ≤ n := Nat.le_of_not_lt hn
     rw [ajl hn'] at q1'
     rw [ajl (by rw [← R.len]; exact hn'), ← R.len] at q2
     cases k : n - w.I.length with
     | zero =>
       rw [k] at q1' q2
       cases q1'
       cases q2
       exact ⟨o, e, r.mono le⟩
     | succ m =>
       rw [k] at q1'
       simp at q1'
 · have z := R.sl j s dj q1 q2
   cases z with
   | none => exact .none
   | val r => exact .val (r.mono le)
   | @own q u _ O' eH' rr =>
     refine .own ⟨O'.f, fun z => ?_, O'.e, O'.p⟩ eH' (rr.mono le)
     rcases List.mem_append.mp z with y | y
     · exact O'.i y
     · rw [List.mem_singleton] at y
       exact lo j ⟨by rw [← y]; exact q1, _, q2, rr.own⟩
theorem Rel.to_cell (R : Rel K T B w σ H fr h) {p : Addr} {o : HO} {d : D} (O : Own B w p) (lo : Fv σ fr p) (e : H p = some o) (r : Bb K T w o d) : Rel K T B ⟨w.F, w.I ++ [p]⟩ σ H fr (h ++ [d]) := R.to_cellO O lo e r.cel
theorem Qc {i : Nat} {p : Addr} : ¬ Ft [] [] i p := fun ⟨q, _⟩ => by simp at q
theorem Rel.enter (R : Rel K T B w σ H fr h) : Rel K T (Bs.of w H) w [] H [] h where
 le := Wd.le_refl w
 nF := fun _ q => .inl q
 nI := fun _ q => .inl q
 keep := fun _ _ q _ => q
 prot := fun _ q => by cases q
 sub := R.sub
 len := R.len
 nd := R.nd
 dis := R.dis
 cel := R.cel
 fl := rfl
 sl := fun _ _ _ q => by simp at q
 sep := fun _ _ _ _ q => (Qc q).elim
 me := fun _ _ _ q _ => by simp at q
theorem Rel.unframe (R : Rel K T B w σ H fr h) : Rel K T B w [] H [] h where
 le := R.le
 nF := R.nF
 nI := R.nI
 keep := R.keep
 prot := R.prot
 sub := R.sub
 len := R.len
 nd := R.nd
 dis := R.dis
 cel := R.cel
 fl := rfl
 sl := fun _ _ _ q => by simp at q
 sep := fun _ _ _ _ q => (Qc q).elim
 me := fun _ _ _ q _ => by simp at q
theorem Rel.back {h' : Hh} (R : Rel K T B w σ H fr h) (x : w.le w') (C : Rel K T (Bs.of w H) w' [] H' [] h') : Rel K T B w' σ H' fr h' where
 le := Wd.le_trans R.le x
 nF := fun a ha => by
  rcases C.nF a ha with q | q
  · exact R.nF a q
  · exact .inr (R.own_new q).e
 nI := fun a ha => by
  rcases C.nI a ha with q | q
  · exact R.nI a q
  · exact .inr (R.own_new q).e
 keep := fun a o e hm => C.keep a o (R.keep a o e hm) fun z => by
  rcases R.nI a z with q | q
  · exact hm q
  · rw [q] at e
    cases e
 prot := fun q hq => by
  obtain ⟨h1, h2, h3⟩ := R.prot q hq
  refine ⟨C.keep _ _ h1 h3, ?_, fun z => ?_⟩
  · cases e : w'.F q.1 with
    | none => rfl
    | some o =>
      rcases C.nF q.1 (by rw [e]; simp) with y | y
      · exact absurd h2 y
      · have y' : H q.1 = none := y
        rw [h1] at y'
        cases y'
  · rcases C.nI _ z with y | y
    · exact h3 y
    · have y' : H q.1 = none := y
      rw [h1] at y'
      cases y'
 sub := C.sub
 len := C.len
 nd := C.nd
 dis := C.dis
 cel := C.cel
 fl := R.fl
 sl := fun i s d e1 e2 => by
  have z := R.sl i s d e1 e2
  cases z with
  | none => exact .none
  | val r => exact .val (r.mono x)
  | @own p o _ O eH rr =>
    refine .own ⟨?_, fun z => ?_, O.e, O.p⟩ (C.keep _ _ eH O.i) (rr.mono x)
    · cases e : w'.F p with
      | none => rfl
      | some o =>
        rcases C.nF p (by rw [e]; simp) with y | y
        · exact absurd O.f y
        · have y' : H p = none := y
          rw [eH] at y'
          cases y'
    · rcases C.nI _ z with y | y
      · exact O.i y
      · have y' : H p = none := y
        rw [eH] at y'
        cases y'
 sep := R.sep
 me := R.me
end
end Pk
namespace Pk
open PySem PySem.Spec L2
structure bh where
 c : Nat
 fs : List D
inductive R (α : Type) where
 | ok (a : α) (fr : Fr) (h : Hh)
 | exc (x : bh) (fr : Fr) (h : Hh)
 | err
abbrev M (α : Type) := Fr → Hh → R α
def M.ret {α : Type} (a : α) : M α := fun fr h => .ok a fr h
def M.bind {α β : Type} (m : M α) (f : α → M β) : M β := fun fr h => match m fr h with
 | .ok a fr h => f a fr h
 | .exc x fr h => .exc x fr h
 | .err => .err
def M.opt {α : Type} (o : Option α) : M α := fun fr h => match o with
 | some a => .ok a fr h
 | none => .err
@[simp] theorem M.bind_ret {α β : Type} (a : α) (f : α → M β) : (M.ret a).bind f = f a := rfl
@[simp] theorem M.ret_ap {α : Type} (a : α) (fr : Fr) (h : Hh) : M.ret a fr h = .ok a fr h := rfl
@[simp] theorem M.opt_some {α : Type} (a : α) (fr : Fr) (h : Hh) : M.opt (some a) fr h = .ok a fr h := rfl
@[simp] theorem M.opt_none {α : Type} (fr : Fr) (h : Hh) : M.opt (none : Option α) fr h = .err := rfl
theorem M.bind_ok {α β : Type} {m : M α} {f : α → M β} {fr fr1 : Fr} {h h1 : Hh} {a : α} (e : m fr h = .ok a fr1 h1) : m.bind f fr h = f a fr1 h1 := by
 unfold M.bind
 rw [e]
theorem M.bind_exc {α β : Type} {m : M α} {f : α → M β} {fr fr1 : Fr} {h h1 : Hh} {x : bh} (e : m fr h = .exc x fr1 h1) : m.bind f fr h = .exc x fr1 h1 := by
 unfold M.bind
 rw [e]
theorem M.bind_err {α β : Type} {m : M α} {f : α → M β} {fr : Fr} {h : Hh} (e : m fr h = .err) : m.bind f fr h = .err := by
 unfold M.bind
 rw [e]
def VP (K : PySem.W.Frag) (T : Tb) (w : Wd) (x : bh) (cls : Value) (dd : Option Addr) : Prop :=
 cls = .ref (T.cad x.c) ∧ ((x.fs = [] ∧ dd = none) ∨ ∃ d vs, dd = some d ∧ w.F d = some (.xd ((T.fld x.c).zip vs)) ∧ aO K T w vs x.fs)
section
variable {α β : Type}
def bu (K : PySem.W.Frag) (T : Tb) (B : Bs) (W : WX) (VR : Wd → Hp → Fr → β → α → Prop) (w : Wd) (σ : L2.St) (r : R α) (Q : β → Hp → Prop) : Prop :=
 match r with
 | .ok d fr h => ∀ w' H' v, w.le w' → Rel K T B w' σ H' fr h → VR w' H' fr v d → Q v H'
 | .exc x fr h => ∀ w' H' cls dd, w.le w' → Rel K T B w' σ H' fr h → VP K T w' x cls dd → W cls dd σ H'
 | .err => False
end
abbrev wI (β α : Type) := PySem.W.Frag → Tb → Bs → L2.St → Wd → Hp → Fr → β → α → Prop
def vV : wI V D := fun K T _ _ w _ _ v d => rC K T w v d
def vE : wI V D := fun K T B σ w H fr v d => rC K T w v d ∨ ∃ p o, v = .ref p ∧ Own B w p ∧ Fv σ fr p ∧ H p = some o ∧ Bb K T w o d
def vO : wI V D := fun K T _ _ w H _ v d => rC K T w v d ∨ ∃ p o, v = .ref p ∧ H p = some o ∧ Bb K T w o d
def vB : wI Bool Bool := fun _ _ _ _ _ _ _ b c => b = c
def vA : wI (List V) (List D) := fun K T _ _ w _ _ vs ds => aO K T w vs ds
def wF {α β : Type} (run : L2.St → Hp → (β → Hp → Prop) → Prop) (K : PySem.W.Frag) (T : Tb) (W : WX) (VR : wI β α) (m : M α) : Prop :=
 ∀ (B : Bs) (w : Wd) (σ : L2.St) (H : Hp) (fr : Fr) (h : Hh) (Q : β → Hp → Prop), Rel K T B w σ H fr h → bu K T B W (VR K T B σ) w σ (m fr h) Q → run σ H Q
section
variable {α β γ δ : Type} {K : PySem.W.Frag} {T : Tb} {B : Bs} {W : WX} {w w' : Wd} {σ : L2.St} {H : Hp}
theorem bu.le {VR : Wd → Hp → Fr → β → α → Prop} {r : R α} {Q : β → Hp → Prop} (x : w.le w') (p : bu K T B W VR w σ r Q) : bu K T B W VR w' σ r Q := by
 cases r with
 | ok d fr h => exact fun w2 H2 v y => p w2 H2 v (Wd.le_trans x y)
 | exc e fr h => exact fun w2 H2 c d y => p w2 H2 c d (Wd.le_trans x y)
 | err => exact p
theorem bu.imp {VR : Wd → Hp → Fr → β → α → Prop} {r : R α} {Q Q' : β → Hp → Prop} (p : bu K T B W VR w σ r Q) (hq : ∀ v H, Q v H → Q' v H) : bu K T B W VR w σ r Q' := by
 cases r with
 | ok d fr h => exact fun w2 H2 v y r z => hq _ _ (p w2 H2 v y r z)
 | exc e fr h => exact p
 | err => exact p
theorem bu.bind {VR : Wd → Hp → Fr → γ → δ → Prop} {VR' : Wd → Hp → Fr → β → α → Prop} {m : M δ} {f : δ → M α} {fr : Fr} {h : Hh} {Q : β → Hp → Prop} {Q' : γ → Hp → Prop} (p : bu K T B W VR' w σ (m.bind f fr h) Q)
 (k : ∀ d fr1 h1 w1 H1 v, m fr h = .ok d fr1 h1 → w.le w1 → Rel K T B w1 σ H1 fr1 h1 → VR w1 H1 fr1 v d → bu K T B W VR' w1 σ (f d fr1 h1) Q → Q' v H1) : bu K T B W VR w σ (m fr h) Q' := by
 cases e : m fr h with
 | ok d fr1 h1 =>
   rw [M.bind_ok e] at p
   exact fun w1 H1 v x r z => k d fr1 h1 w1 H1 v e x r z (p.le x)
 | exc y fr1 h1 =>
   rw [M.bind_exc e] at p
   exact p
 | err =>
   rw [M.bind_err e] at p
   exact p
theorem wF.bind {run1 : L2.St → Hp → (γ → Hp → Prop) → Prop} {run2 : γ → L2.St → Hp → (β → Hp → Prop) → Prop} {VR1 : wI γ δ} {VR : wI β α} {m : M δ} {f : δ → M α} (s1 : wF run1 K T W VR1 m)
 (s2 : ∀ B w σ H fr h d v Q, Rel K T B w σ H fr h → VR1 K T B σ w H fr v d → bu K T B W (VR K T B σ) w σ (f d fr h) Q → run2 v σ H Q) :
 wF (fun σ H Q => run1 σ H fun v H1 => run2 v σ H1 Q) K T W VR (m.bind f) := fun B w σ H fr h Q r p =>
 s1 B w σ H fr h _ r (p.bind fun d fr1 h1 w1 H1 v e x r1 z p1 => s2 B w1 σ H1 fr1 h1 d v Q r1 z p1)
end
structure WE (X : Cx) (e : Expr) (σ : L2.St) (H : Hp) (Q : VK) : Prop where
 go : ∀ pins s, Inv X pins σ H s → wpAny (model X.prog X.w) X.A (eval e X.env) (EP X pins σ Q) X.xe s
structure WT (X : Cx) (e : Expr) (σ : L2.St) (H : Hp) (Q : Bool → Hp → Prop) : Prop where
 go : ∀ pins s, Inv X pins σ H s → wpAny (model X.prog X.w) X.A (isTrue e X.env (eval e X.env)) (TP X pins σ Q) X.xe s
structure WW (X : Cx) (e : Expr) (σ : L2.St) (H : Hp) (Q : Bool → Hp → Prop) : Prop where
 go : ∀ whole pins s, Inv X pins σ H s → wpAny (model X.prog X.w) X.A (isTrue e X.env whole) (TP X pins σ Q) X.xe s
structure WA (X : Cx) (es : List Expr) (σ : L2.St) (H : Hp) (Q : List V → Hp → Prop) : Prop where
 go : ∀ pos pins s, Inv X pins σ H s → wpAny (model X.prog X.w) X.A (spliced (backTo pos (starEach es X.env))) (AP X pins σ Q) X.xe s
structure WS (X : Cx) (st : Stmt) (D : Ends) (σ : L2.St) (H : Hp) : Prop where
 go : ∀ pins s, Inv X pins σ H s → wpAny (model X.prog X.w) X.A (exec st X.env) (SP X pins D) X.xe s
structure Yh (X : Cx) (st : List Stmt) (D : Ends) (σ : L2.St) (H : Hp) : Prop where
 go : ∀ pins s, Inv X pins σ H s → wpAny (model X.prog X.w) X.A (execs st X.env) (SP X pins D) X.xe s
def rM (X : Cx) (f : Value → Value → Sem Value) : R2 := fun x y H Q => ∀ pins s σ v u, Inv X pins σ H s → RelV x v → RelV y u → wpAny (model X.prog X.w) X.A (f v u) (EP X pins σ Q) X.xe s
def uM (X : Cx) (f : Value → Sem Value) : V → Hp → VK → Prop := fun x H Q => ∀ pins s σ v, Inv X pins σ H s → RelV x v → wpAny (model X.prog X.w) X.A (f v) (EP X pins σ Q) X.xe s
def cM (X : Cx) (f : Value) : List V → Hp → VK → Prop := fun xs H Q => ∀ pins s σ us, Inv X pins σ H s → Vals xs us → wpAny (model X.prog X.w) X.A (call f us) (EP X pins σ Q) X.xe s
section
variable {X : Cx} {e : Expr} {es : List Expr} {st : Stmt} {sts : List Stmt}
theorem mZ : PE X e (WE X e) := ⟨fun pins s σ H Q I h => h.go pins s I⟩
theorem GJ : PT X e (WT X e) := ⟨fun pins s σ H Q I h => h.go pins s I⟩
theorem Yi : PW X e (WW X e) := ⟨fun wh pins s σ H Q I h => h.go wh pins s I⟩
theorem Ko : PA X es (WA X es) := ⟨fun pos pins s σ H Q I h => h.go pos pins s I⟩
theorem aca : PS X st (WS X st) := ⟨fun pins s σ H D I h => h.go pins s I⟩
theorem Dj : PSs X sts (Yh X sts) := ⟨fun pins s σ H D I h => h.go pins s I⟩
theorem uP {t : TE} (p : PE X e t) {σ : L2.St} {H : Hp} {Q : VK} (h : t σ H Q) : WE X e σ H Q := ⟨fun pins s I => p.run pins s σ H Q I h⟩
theorem Rv {t : TT} (p : PT X e t) {σ : L2.St} {H : Hp} {Q : Bool → Hp → Prop} (h : t σ H Q) : WT X e σ H Q := ⟨fun pins s I => p.run pins s σ H Q I h⟩
theorem XR {t : TT} (p : PW X e t) {σ : L2.St} {H : Hp} {Q : Bool → Hp → Prop} (h : t σ H Q) : WW X e σ H Q := ⟨fun wh pins s I => p.run wh pins s σ H Q I h⟩
theorem Rx {t : TA} (p : PA X es t) {σ : L2.St} {H : Hp} {Q : List V → Hp → Prop} (h : t σ H Q) : WA X es σ H Q := ⟨fun pos pins s I => p.run pos pins s σ H Q I h⟩
theorem Ak {t : TS} (p : PS X st t) {D : Ends} {σ : L2.St} {H : Hp} (h : t D σ H) : WS X st D σ H := ⟨fun pins s I => p.run pins s σ H D I h⟩
theorem V1 {t : TS} (p : PSs X sts t) {D : Ends} {σ : L2.St} {H : Hp} (h : t D σ H) : Yh X sts D σ H := ⟨fun pins s I => p.run pins s σ H D I h⟩
theorem Jm {f : Value → Value → Sem Value} : OpR X f (rM X f) := fun pins s σ H x y v u Q I rx ry h => h pins s σ v u I rx ry
theorem Cy {f : Value → Value → Sem Value} {r : R2} (o : OpR X f r) {x y : V} {H : Hp} {Q : VK} (h : r x y H Q) : rM X f x y H Q := fun pins s σ v u I rx ry => o pins s σ H x y v u Q I rx ry h
theorem afX {f : Value → Sem Value} : UnR X f (uM X f) := fun pins s σ H x v Q I rx h => h pins s σ v I rx
theorem ag7 {f : Value → Sem Value} {r : V → Hp → VK → Prop} (o : UnR X f r) {x : V} {H : Hp} {Q : VK} (h : r x H Q) : uM X f x H Q := fun pins s σ v I rx => o pins s σ H x v Q I rx h
theorem T8 {f : Value} : CallR X f (cM X f) := fun pins s σ H xs us Q I r h => h pins s σ us I r
theorem yD {f : Value} {r : List V → Hp → VK → Prop} (o : CallR X f r) {xs : List V} {H : Hp} {Q : VK} (h : r xs H Q) : cM X f xs H Q := fun pins s σ us I rr => o pins s σ H xs us Q I rr h
end
abbrev zQ (X : Cx) (T : Tb) (W : WX) (e : Expr) (m : M D) : Prop := wF (WE X e) X.K T W vE m
abbrev cO (X : Cx) (T : Tb) (W : WX) (e : Expr) (m : M D) : Prop := wF (WE X e) X.K T W vV m
abbrev Gh (X : Cx) (T : Tb) (W : WX) (e : Expr) (m : M Bool) : Prop := wF (WT X e) X.K T W vB m
abbrev T9 (X : Cx) (T : Tb) (W : WX) (e : Expr) (m : M Bool) : Prop := wF (WW X e) X.K T W vB m
abbrev CP (X : Cx) (T : Tb) (W : WX) (es : List Expr) (m : M (List D)) : Prop := wF (WA X es) X.K T W vA m
abbrev V2 (X : Cx) (T : Tb) (W : WX) (e : Expr) (m : M D) : Prop := wF (WE X e) X.K T W vO m
def mJ (m : M D) : M D := m.bind fun d => M.ret d.fz
def mC (d : D) : M D := M.ret d
def ak (i : Nat) : M D := fun fr h => match fr[i]? with
 | some (some d) => if d.own then .ok d.fz (fr.set i (some d.fz)) h else .ok d fr h
 | _ => .err
def za (i : Nat) : M D := fun fr h => match fr[i]? with
 | some (some d) => .ok d (fr.set i none) h
 | _ => .err
def iz (i : Nat) : M D := fun fr h => match fr[i]? with
 | some (some d) => .ok d fr h
 | _ => .err
section
variable {X : Cx} {T : Tb} {W : WX} {e a b c : Expr} {es : List Expr} {m ma mb mc : M D} {pos : Pos}
theorem V3 {α β : Type} {run : L2.St → Hp → (β → Hp → Prop) → Prop} {K : PySem.W.Frag} {VR VR' : wI β α} {m : M α} (s : wF run K T W VR m) (h : ∀ B σ w H fr v d, VR K T B σ w H fr v d → VR' K T B σ w H fr v d) : wF run K T W VR' m :=
 fun B w σ H fr hh Q r p => s B w σ H fr hh Q r (by
  cases q : m fr hh with
  | ok d fr1 h1 =>
    rw [q] at p
    exact fun w1 H1 v x r1 z => p w1 H1 v x r1 (h _ _ _ _ _ _ _ z)
  | exc y fr1 h1 => rw [q] at p; exact p
  | err => rw [q] at p; exact p)
theorem uH (s : cO X T W e m) : zQ X T W e m := V3 s fun _ _ _ _ _ _ _ z => .inl z
theorem u5 (s : cO X T W e m) : V2 X T W e m := V3 s fun _ _ _ _ _ _ _ z => .inl z
theorem GP (s : zQ X T W e m) : V2 X T W e m := V3 s fun _ _ _ _ _ _ _ z => by
 rcases z with z | ⟨p, o, e1, _, _, e2, r⟩
 · exact .inl z
 · exact .inr ⟨p, o, e1, e2, r⟩
theorem rG (s : zQ X T W e m) : cO X T W e (mJ m) := fun B w σ H fr h Q r p => s B w σ H fr h Q r (by
 refine bu.bind (VR := vE X.K T B σ) p fun d fr1 h1 w1 H1 v eq x r1 z p1 => ?_
 rcases z with z | ⟨p', o, rfl, O, lo, eH, rd⟩
 · rw [aeU z] at p1
   exact p1 w1 H1 v (Wd.le_refl _) r1 z
 · exact p1 (w1.add p' o) H1 (.ref p') (Wd.le_add O.f) (r1.freeze O lo eH) (rd.fz (Wd.le_add O.f) (by show upd w1.F p' _ p' = _; rw [upd_same])))
theorem aR {i : Int} {j : Nat} : cO X T W (.Constant (.int i) j pos) (mC (.int i)) := fun B w σ H fr h Q r p => uP pe_int (p w H _ (Wd.le_refl _) r (.int i))
theorem Ls {i : Bool} {j : Nat} : cO X T W (.Constant (.bool i) j pos) (mC (.bl i)) := fun B w σ H fr h Q r p => uP pe_bl (p w H _ (Wd.le_refl _) r (.bl i))
theorem aq {i : Str} {j : Nat} : cO X T W (.Constant (.str i) j pos) (mC (.str i)) := fun B w σ H fr h Q r p => uP pe_str (p w H _ (Wd.le_refl _) r (.str i))
theorem vm {K : PySem.W.Frag} {T : Tb} {B : Bs} {w : Wd} {σ : L2.St} {H : Hp} {fr : Fr} {h : Hh} (R : Rel K T B w σ H fr h) {i : Nat} {d : D} (e : fr[i]? = some (some d)) :
 ∃ v, σ[i]? = some (some v) ∧ N7 K T B w H (some v) (some d) := by
 have l2 : i < fr.length := (List.getElem?_eq_some_iff.mp e).1
 have l1 : i < σ.length := by rw [← R.fl]; exact l2
 have e1 : σ[i]? = some σ[i] := ajc l1
 have z := R.sl i _ _ e1 e
 generalize σ[i] = s at z e1
 cases z with
 | val r => exact ⟨_, e1, .val r⟩
 | own O eH r => exact ⟨_, e1, .own O eH r⟩
theorem ao (i : Nat) {x : Str} (hN : X.N[i]? = some x := by rfl) (hv : Vis X.env.scope x := by first | exact Or.inl rfl | exact Or.inr (Or.inl rfl) | exact Or.inr (Or.inr rfl)) (hd : (x == ("__debug__" : Str)) = false := by decide)
 (hcd : (x == ("__classdict__" : Str)) = false := by decide) : cO X T W (.Name x pos) (ak i) := fun B w σ H fr h Q r p => uP (pe_var hN hv hd hcd) (by
 unfold ak at p
 split at p
 · rename_i d e1
   cases od : d.own with
   | true =>
     rw [od] at p
     obtain ⟨q, o, e2, eH, rd, nf, r1⟩ := r.freeze_slot e1 od
     exact ⟨_, e2, p (w.add q o) H (.ref q) (Wd.le_add nf) r1 (rd.fz (Wd.le_add nf) (by show upd w.F q _ q = _; rw [upd_same]))⟩
   | false =>
     rw [od] at p
     obtain ⟨v, e2, z⟩ := vm r e1
     cases z with
     | val rd => exact ⟨v, e2, p w H v (Wd.le_refl _) r rd⟩
     | own O eH rd =>
       rw [rd.own] at od
       cases od
 · exact p.elim)
theorem t8 (i : Nat) {x : Str} (hN : X.N[i]? = some x := by rfl) (hv : Vis X.env.scope x := by first | exact Or.inl rfl | exact Or.inr (Or.inl rfl) | exact Or.inr (Or.inr rfl)) (hd : (x == ("__debug__" : Str)) = false := by decide)
 (hcd : (x == ("__classdict__" : Str)) = false := by decide) : V2 X T W (.Name x pos) (iz i) := fun B w σ H fr h Q r p => uP (pe_var hN hv hd hcd) (by
 unfold iz at p
 split at p
 · rename_i d e1
   obtain ⟨v, e2, z⟩ := vm r e1
   refine ⟨v, e2, p w H v (Wd.le_refl _) r ?_⟩
   cases z with
   | val rd => exact .inl rd
   | own O eH rd => exact .inr ⟨_, _, rfl, eH, rd⟩
 · exact p.elim)
theorem Hv (i : Nat) {x : Str} (hN : X.N[i]? = some x := by rfl) (hv : Vis X.env.scope x := by first | exact Or.inl rfl | exact Or.inr (Or.inl rfl) | exact Or.inr (Or.inr rfl)) (hd : (x == ("__debug__" : Str)) = false := by decide)
 (hcd : (x == ("__classdict__" : Str)) = false := by decide) : zQ X T W (.Name x pos) (za i) := fun B w σ H fr h Q r p => uP (pe_var hN hv hd hcd) (by
 unfold za at p
 split at p
 · rename_i d e1
   obtain ⟨v, e2, z⟩ := vm r e1
   refine ⟨v, e2, p w H v (Wd.le_refl _) (r.drop_slot i) ?_⟩
   cases z with
   | val rd => exact .inl rd
   | @own q o _ O eH rd =>
     refine .inr ⟨q, o, rfl, O, fun j z => ?_, eH, rd⟩
     obtain ⟨q1, dq, q2, oq⟩ := z
     by_cases hj : i = j
     · subst hj
       rw [ajh (List.getElem?_eq_some_iff.mp e1).1] at q2
       cases q2
     · rw [ajg hj] at q2
       exact r.sep i j q hj ⟨e2, d, e1, rd.own⟩ ⟨q1, dq, q2, oq⟩
 · exact p.elim)
def big : Nat := 100000
theorem xN {n : Nat} (h : n ≤ big) : n ≤ sizeLine := Nat.le_trans h (by decide)
def D.der (h : Hh) : D → D
 | .ref n => (h[n]?).getD .non
 | d => d
def D.its (h : Hh) (d : D) : Option (List D) := match d.der h with
 | .tup l => some l
 | .fl l => some l
 | .kl l => some l
 | .nl l => some l
 | _ => none
theorem Hw {K : PySem.W.Frag} {T : Tb} {B : Bs} {w : Wd} {σ : L2.St} {H : Hp} {fr : Fr} {h : Hh} {v : V} {d : D} {ds : List D} (R : Rel K T B w σ H fr h) (z : vO K T B σ w H fr v d) (e : d.its h = some ds) :
 ∃ p vs, v = .ref p ∧ aO K T w vs ds ∧ (SqL K H p vs ∨ SqT K H p vs) := by
 rcases z with z | ⟨p, o, rfl, eH, z⟩
 · cases z with
   | tup s r =>
     have e' : some _ = some ds := e
     cases e'
     exact ⟨_, _, rfl, r, .inr (wM R.sub s)⟩
   | fl s r =>
     have e' : some _ = some ds := e
     cases e'
     exact ⟨_, _, rfl, r, .inl (SqL.of (R.sub _ _ s))⟩
   | kl s r =>
     have e' : some _ = some ds := e
     cases e'
     exact ⟨_, _, rfl, r, .inl (Ba R.sub s)⟩
   | @ref a n s =>
     have ln : n < h.length := by
      rw [← R.len]
      exact (List.getElem?_eq_some_iff.mp s).1
     obtain ⟨o, q, rr⟩ := R.cel n a h[n] s (ajc ln)
     have e0 : (h[n]?).getD .non = h[n] := by rw [ajc ln]; rfl
     unfold D.its D.der at e
     dsimp only at e
     rw [e0] at e
     generalize h[n] = c at rr e
     cases rr with
     | lst r =>
       have e' : some _ = some ds := e
       cases e'
       exact ⟨_, _, rfl, r, .inl (SqL.of q)⟩
     | obj r => cases e
     | dct _ r => cases e
   | non => cases e
   | bl _ => cases e
   | int _ => cases e
   | str _ => cases e
   | obj _ _ => cases e
   | cls _ => cases e
   | ty _ => cases e
   | sl _ => cases e
 · cases z with
   | lst r =>
     have e' : some _ = some ds := e
     cases e'
     exact ⟨_, _, rfl, r, .inl (SqL.of eH)⟩
   | obj r => cases e
def bf {α : Type} (f : Hh → D → D → Option α) (ma mb : M D) : M α := ma.bind fun x => mb.bind fun y fr h => M.opt (f h x y) fr h
theorem V4 {α β : Type} {VR2 : wI V D} {VR : wI β α} {f : Hh → D → D → Option α} {r : V → V → Hp → (β → Hp → Prop) → Prop} (sa : cO X T W a ma) (sb : wF (WE X b) X.K T W VR2 mb)
 (hr : ∀ B w σ H fr h x y d e z Q, Rel X.K T B w σ H fr h → rC X.K T w x d → VR2 X.K T B σ w H fr y e → f h d e = some z → (∀ w' H' v, w.le w' → Rel X.K T B w' σ H' fr h → VR X.K T B σ w' H' fr v z → Q v H') → r x y H Q) :
 wF (fun σ H Q => WE X a σ H fun x H1 => WE X b σ H1 fun y H2 => r x y H2 Q) X.K T W VR (bf f ma mb) := fun B w σ H fr h Q r1 p =>
 sa B w σ H fr h _ r1 (bu.bind (VR := vV X.K T B σ) p fun d fr1 h1 w1 H1 x e1 l1 r1 rx p1 => sb B w1 σ H1 fr1 h1 _ r1 (bu.bind (VR := VR2 X.K T B σ) p1 fun e fr2 h2 w2 H2 y e2 l2 r2 ry p2 => by
  cases q : f h2 d e with
  | none => rw [q] at p2; exact p2.elim
  | some z =>
    rw [q] at p2
    exact hr B w2 σ H2 fr2 h2 x y d e z Q r2 (rx.mono l2) ry q p2))
end
end Pk
namespace Pk
open PySem PySem.Spec L2
structure Cq (X : Cx) (T : Tb) (W : WX) (k : Nat) : Prop where
 calm : X.calm = true
 nd : X.N.Nodup
 room : Room k X.A
 takes : Takes X W
 po : PassesOwn (model X.prog X.w) X.A X.env X.xe
theorem Cq.u {X : Cx} {T : Tb} {W : WX} {k : Nat} (C : Cq X T W k) : X.A.units + 65 < cLine := by
 have := C.room.un
 omega
section
variable {X : Cx} {T : Tb} {W : WX} {k : Nat} {e a b c : Expr} {es : List Expr} {m ma mb mc : M D} {pos : Pos}
mutual
def D.toP : D → Option PyData
 | .non => some .none
 | .bl b => some (.bool b)
 | .int i => some (.int i)
 | .str s => some (.str s)
 | .tup l => (D.toPs l).map .tuple
 | .fl l => (D.toPs l).map .list
 | .kl l => (D.toPs l).map .list
 | .nl l => (D.toPs l).map .list
 | _ => none
def D.toPs : List D → Option (List PyData)
 | [] => some []
 | d :: ds => match D.toP d, D.toPs ds with
   | some p, some ps => some (p :: ps)
   | _, _ => none
end
section
variable {K : PySem.W.Frag} {w : Wd} {H : Hp}
mutual
theorem XS (hs : ∀ a o, w.F a = some o → H a = some o) : ∀ {v : V} {d : D} {p : PyData}, rC K T w v d → d.toP = some p → Dp K H v p
 | _, _, _, .non, e => by cases e; exact .non
 | _, _, _, .bl b, e => by cases e; exact .bl b
 | _, _, _, .int i, e => by cases e; exact .int i
 | _, _, _, .str s, e => by cases e; exact .str s
 | _, _, _, .tup s r, e => by
   unfold D.toP at e
   obtain ⟨ps, e1, e2⟩ := Option.map_eq_some_iff.mp e
   subst e2
   exact .tup (wM hs s) (Qe hs r e1)
 | _, _, _, .fl s r, e => by
   unfold D.toP at e
   obtain ⟨ps, e1, e2⟩ := Option.map_eq_some_iff.mp e
   subst e2
   exact .lst (SqL.of (hs _ _ s)) (Qe hs r e1)
 | _, _, _, .kl s r, e => by
   unfold D.toP at e
   obtain ⟨ps, e1, e2⟩ := Option.map_eq_some_iff.mp e
   subst e2
   exact .lst (Ba hs s) (Qe hs r e1)
 | _, _, _, .obj _ _, e => by cases e
 | _, _, _, .ref _, e => by cases e
 | _, _, _, .cls _, e => by cases e
 | _, _, _, .ty _, e => by cases e
 | _, _, _, .sl _, e => by cases e
theorem Qe (hs : ∀ a o, w.F a = some o → H a = some o) : ∀ {vs : List V} {ds : List D} {ps : List PyData}, aO K T w vs ds → D.toPs ds = some ps → DpAll K H vs ps
 | _, _, _, .nil, e => by cases e; exact .nil
 | _, _, _, @aO.cons _ _ _ _ d _ ds h t, e => by
   unfold D.toPs at e
   cases e1 : d.toP with
   | none => rw [e1] at e; cases e
   | some p =>
     cases e2 : D.toPs ds with
     | none => rw [e1, e2] at e; cases e
     | some ps =>
       rw [e1, e2] at e
       cases e
       exact .cons (XS hs h e1) (Qe hs t e2)
end
theorem acb {B : Bs} {σ : L2.St} {fr : Fr} {h : Hh} {v : V} {d : D} {p : PyData} (R : Rel K T B w σ H fr h) (z : vO K T B σ w H fr v d) (e : d.toP = some p) : Dp K H v p := by
 rcases z with z | ⟨q, o, rfl, eH, z⟩
 · exact XS R.sub z e
 · cases z with
   | lst r =>
     unfold D.toP at e
     obtain ⟨ps, e1, e2⟩ := Option.map_eq_some_iff.mp e
     subst e2
     exact .lst (SqL.of eH) (Qe R.sub r e1)
   | obj r => cases e
end
def tV (h : Hh) : D → D → Option D
 | .int i, .int j => some (.int (i + j))
 | .str a, .str b => if a.length + b.length ≤ big then some (.str (a ++ b)) else none
 | .tup a, .tup b => if a.length + b.length ≤ big then some (.tup (a ++ b)) else none
 | .fl a, .fl b => if a.length + b.length ≤ big then some (.nl (a ++ b)) else none
 | _, _ => none
theorem Ua {w : Wd} {K : PySem.W.Frag} {v : V} {ds : List D} (r : rC K T w v (.fl ds)) : ∃ a vs, v = .ref a ∧ w.F a = some (.lst vs) ∧ aO K T w vs ds := by
 cases r with
 | fl s t => exact ⟨_, _, rfl, s, t⟩
theorem J8 {w : Wd} {K : PySem.W.Frag} {v : V} {ds : List D} (r : rC K T w v (.tup ds)) : ∃ a vs, v = .ref a ∧ SqT K w.F a vs ∧ aO K T w vs ds := by
 cases r with
 | tup s t => exact ⟨_, _, rfl, s, t⟩
theorem vp {w : Wd} {K : PySem.W.Frag} {v : V} {i : Int} (r : rC K T w v (.int i)) : v = .int i := by
 cases r
 rfl
theorem acd {w : Wd} {K : PySem.W.Frag} {v : V} {i : Bool} (r : rC K T w v (.bl i)) : v = .bl i := by
 cases r
 rfl
theorem zV {w : Wd} {K : PySem.W.Frag} {v : V} {i : Str} (r : rC K T w v (.str i)) : v = .str i := by
 cases r
 rfl
theorem Ry {K : PySem.W.Frag} {B : Bs} {w : Wd} {σ : L2.St} {H : Hp} {fr : Fr} {h : Hh} {p : Addr} {vs : List V} {ds : List D} {Q : V → Hp → Prop} (R : Rel K T B w σ H fr h) (r : aO K T w vs ds) (np : H p = none)
 (q : ∀ w' H' v, w.le w' → Rel K T B w' σ H' fr h → rC K T w' v (.tup ds) → Q v H') : Q (.ref p) (upd H p (.tup vs)) :=
 q (w.add p (.tup vs)) _ _ (Wd.le_add (R.nP np).1) (R.laid np) (.tup (SqT.of (by show upd w.F p _ p = _; rw [upd_same])) (r.mono (Wd.le_add (R.nP np).1)))
theorem V5 {K : PySem.W.Frag} {B : Bs} {w : Wd} {σ : L2.St} {H : Hp} {fr : Fr} {h : Hh} {p : Addr} {vs : List V} {ds : List D} {Q : V → Hp → Prop} (R : Rel K T B w σ H fr h) (r : aO K T w vs ds) (np : H p = none)
 (q : ∀ w' H' v, w.le w' → Rel K T B w' σ H' fr h → vE K T B σ w' H' fr v (.nl ds) → Q v H') : Q (.ref p) (upd H p (.lst vs)) :=
 q w _ _ (Wd.le_refl w) (R.temp np) (.inr ⟨p, _, rfl, R.own_new np, R.loose_new np, upd_same, .lst r⟩)
theorem uQ (sa : cO X T W a ma) (sb : cO X T W b mb) : zQ X T W (.BinOp a .Add b pos) (bf tV ma mb) := fun B w σ H fr h Q r1 p =>
 uP (pe_op Jm mZ mZ) (V4 (VR := vE) sa sb (fun B w σ H fr h x y d e z Q R rx ry q k => by
  unfold tV at q
  split at q
  · cases q
    rw [vp rx, vp ry]
    exact Cy op_add ⟨_, _, rfl, rfl, k w H _ (Wd.le_refl _) R (.inl (.int _))⟩
  · split at q
    · rename_i hl
      cases q
      rw [zV rx, zV ry]
      exact Cy op_add_str ⟨_, _, rfl, rfl, xN hl, k w H _ (Wd.le_refl _) R (.inl (.str _))⟩
    · cases q
  · split at q
    · rename_i ds es hl
      cases q
      obtain ⟨p1, vs, rfl, s1, r1⟩ := J8 rx
      obtain ⟨p2, us, rfl, s2, r2⟩ := J8 ry
      refine Cy op_catA ⟨p1, p2, vs, us, rfl, rfl, wM R.sub s1, wM R.sub s2, by rw [r1.length, r2.length]; exact xN hl, fun e0 => ?_, fun _ e0 => ?_, fun _ _ p np => ?_⟩
      · subst e0
        cases r1
        exact k w H _ (Wd.le_refl _) R (.inl ry)
      · subst e0
        cases r2
        rw [aiV] at k
        exact k w H _ (Wd.le_refl _) R (.inl rx)
      · exact Ry R (r1.append r2) np fun w' H' v l R' r' => k w' H' v l R' (.inl r')
    · cases q
  · split at q
    · rename_i ds es hl
      cases q
      obtain ⟨p1, vs, rfl, s1, r1⟩ := Ua rx
      obtain ⟨p2, us, rfl, s2, r2⟩ := Ua ry
      refine Cy op_cat ⟨p1, p2, vs, us, rfl, rfl, R.sub _ _ s1, R.sub _ _ s2, by rw [r1.length, r2.length]; exact xN hl, fun p np => ?_⟩
      exact V5 R (r1.append r2) np k
    · cases q
  · cases q) B w σ H fr h Q r1 p)
def Cv (C : Int → Int → Bool) (g : Int → Int → Int) (_ : Hh) : D → D → Option D
 | .int i, .int j => if C i j then some (.int (g i j)) else none
 | _, _ => none
theorem Kr {op : Operator} {P : Int → Int → Prop} {C : Int → Int → Bool} {g : Int → Int → Int} (o : OpR X (binaryOp op) (rI P fun i j => .int (g i j))) (hC : ∀ i j, C i j = true → P i j) (sa : cO X T W a ma) (sb : cO X T W b mb) :
 cO X T W (.BinOp a op b pos) (bf (Cv C g) ma mb) := fun B w σ H fr h Q r1 p =>
 uP (pe_op Jm mZ mZ) (V4 (VR := vV) sa sb (fun B w σ H fr h x y d e z Q R rx ry q k => by
  unfold Cv at q
  split at q
  · split at q
    · rename_i hc
      cases q
      rw [vp rx, vp ry]
      exact Cy o ⟨_, _, rfl, rfl, hC _ _ hc, k w H _ (Wd.le_refl _) R (.int _)⟩
    · cases q
  · cases q) B w σ H fr h Q r1 p)
def Yj (_ _ : Int) : Bool := true
def aa6 (i j : Int) : Bool := decide (i.natAbs.log2 + j.natAbs.log2 < 1000000)
def ac4 (_ j : Int) : Bool := decide (0 < j)
def aa7 (_ j : Int) : Bool := decide (0 < j) && decide (j.natAbs.log2 < 9000)
def V6 (i j : Int) : Bool := decide (0 ≤ j) && decide (j ≤ 1000000) && decide (i.natAbs < 2 ^ 64)
abbrev Yk := Cv Yj (fun i j => i - j)
abbrev aa8 := Cv aa6 (fun i j => i * j)
abbrev V7 := Cv ac4 (fun i j => i % j)
abbrev ac5 := Cv aa7 (fun i j => i / j)
abbrev aa9 := Cv V6 (fun i j => i ^ j.toNat)
theorem aeV : OpR X (binaryOp .Sub) (rI (fun _ _ => True) fun i j => .int (i - j)) := fun pins s σ H x y v u Q I rx ry ⟨i, j, e1, e2, _, q⟩ => op_sub pins s σ H x y v u Q I rx ry ⟨i, j, e1, e2, q⟩
theorem ace (sa : cO X T W a ma) (sb : cO X T W b mb) : cO X T W (.BinOp a .Sub b pos) (bf Yk ma mb) := Kr aeV (fun _ _ _ => trivial) sa sb
theorem Yl (sa : cO X T W a ma) (sb : cO X T W b mb) : cO X T W (.BinOp a .Mult b pos) (bf aa8 ma mb) := Kr op_mulW (fun i j h => by
 have h' : decide (i.natAbs.log2 + j.natAbs.log2 < 1000000) = true := h
 have h2 : i.natAbs.log2 + j.natAbs.log2 < 1000000 := of_decide_eq_true h'
 exact h2) sa sb
theorem Qg (sa : cO X T W a ma) (sb : cO X T W b mb) : cO X T W (.BinOp a .Mod b pos) (bf V7 ma mb) := Kr op_mod (fun _ j h => by
 have h' : decide (0 < j) = true := h
 exact of_decide_eq_true h') sa sb
theorem acf (sa : cO X T W a ma) (sb : cO X T W b mb) : cO X T W (.BinOp a .FloorDiv b pos) (bf ac5 ma mb) := Kr op_fdivW (fun _ _ h => by
 obtain ⟨h1, h2⟩ := Bool.and_eq_true_iff.mp h
 exact ⟨of_decide_eq_true h1, of_decide_eq_true h2⟩) sa sb
theorem Ym (sa : cO X T W a ma) (sb : cO X T W b mb) : cO X T W (.BinOp a .Pow b pos) (bf aa9 ma mb) := Kr op_pow (fun _ _ h => by
 obtain ⟨h1, h3⟩ := Bool.and_eq_true_iff.mp h
 obtain ⟨h1, h2⟩ := Bool.and_eq_true_iff.mp h1
 exact ⟨of_decide_eq_true h1, of_decide_eq_true h2, of_decide_eq_true h3⟩) sa sb
def Hz : D → Option D
 | .int i => some (.int (-i))
 | _ => none
def mQ {α : Type} (f : Hh → D → Option α) (ma : M D) : M α := ma.bind fun x fr h => M.opt (f h x) fr h
theorem aba {α β : Type} {VR1 : wI V D} {VR : wI β α} {f : Hh → D → Option α} {r : V → Hp → (β → Hp → Prop) → Prop} (sa : wF (WE X a) X.K T W VR1 ma)
 (hr : ∀ B w σ H fr h x d z Q, Rel X.K T B w σ H fr h → VR1 X.K T B σ w H fr x d → f h d = some z → (∀ w' H' v, w.le w' → Rel X.K T B w' σ H' fr h → VR X.K T B σ w' H' fr v z → Q v H') → r x H Q) :
 wF (fun σ H Q => WE X a σ H fun x H1 => r x H1 Q) X.K T W VR (mQ f ma) := fun B w σ H fr h Q r1 p =>
 sa B w σ H fr h _ r1 (bu.bind (VR := VR1 X.K T B σ) p fun d fr1 h1 w1 H1 x e1 l1 r1 rx p1 => by
  cases q : f h1 d with
  | none => rw [q] at p1; exact p1.elim
  | some z =>
    rw [q] at p1
    exact hr B w1 σ H1 fr1 h1 x d z Q r1 rx q p1)
theorem Qh (sa : cO X T W a ma) : cO X T W (.UnaryOp .USub a pos) (mQ (fun _ => Hz) ma) := fun B w σ H fr h Q r1 p =>
 uP (pe_un afX mZ) (aba (VR := vV) sa (fun B w σ H fr h x d z Q R rx q k => by
  unfold Hz at q
  split at q
  · cases q
    rw [vp rx]
    exact ag7 un_neg ⟨_, rfl, k w H _ (Wd.le_refl _) R (.int _)⟩
  · cases q) B w σ H fr h Q r1 p)
def Cz (X : Cx) (T : Tb) (VR2 : wI V D) (op : CmpOp) (f : Hh → D → D → Option Bool) : Prop :=
 ∀ B w σ H fr h x y d e c Q, Rel X.K T B w σ H fr h → rC X.K T w x d → VR2 X.K T B σ w H fr y e → f h d e = some c → Q (.bl c) H → rM X (compareOp op) x y H Q
def cInt (p : Int → Int → Bool) (_ : Hh) : D → D → Option Bool
 | .int i, .int j => some (p i j)
 | _, _ => none
theorem Rz {op : CmpOp} {p : Int → Int → Bool} (o : OpR X (compareOp op) (rI0 fun i j => .bl (p i j))) : Cz X T vV op (cInt p) := fun B w σ H fr h x y d e c Q R rx ry q k => by
 unfold cInt at q
 split at q
 · cases q
   rw [vp rx, vp ry]
   exact Cy o ⟨_, _, rfl, rfl, k⟩
 · cases q
abbrev O6 := cInt fun i j => decide (i < j)
abbrev cLe := cInt fun i j => decide (i ≤ j)
abbrev cGt := cInt fun i j => decide (j < i)
abbrev cGe := cInt fun i j => decide (j ≤ i)
theorem cmp_lt : Cz X T vV .Lt O6 := Rz op_lt
theorem cmp_le : Cz X T vV .LtE cLe := Rz op_le
theorem cmp_gt : Cz X T vV .Gt cGt := Rz op_gt
theorem cmp_ge : Cz X T vV .GtE cGe := Rz op_ge
def uE (_ : Hh) (d e : D) : Option Bool := match d.toP, e.toP with
 | some p, some q => if SeqAt.shaped p && SeqAt.shaped q then some (PyData.eqv p q) else none
 | _, _ => none
def Ew (h : Hh) (d e : D) : Option Bool := (uE h d e).map (!·)
theorem Yn {h : Hh} {d e : D} {c : Bool} (q : uE h d e = some c) : ∃ p p', d.toP = some p ∧ e.toP = some p' ∧ SeqAt.shaped p = true ∧ SeqAt.shaped p' = true ∧ c = PyData.eqv p p' := by
 unfold uE at q
 split at q
 · rename_i p p' e1 e2
   split at q
   · rename_i hs
     obtain ⟨h1, h2⟩ := Bool.and_eq_true_iff.mp hs
     cases q
     exact ⟨p, p', e1, e2, h1, h2, rfl⟩
   · cases q
 · cases q
theorem cmp_eq (C : Cq X T W k) : Cz X T vO .Eq uE := fun B w σ H fr h x y d e c Q R rx ry q kk => by
 obtain ⟨p, p', e1, e2, s1, s2, rfl⟩ := Yn q
 exact Cy (op_eqD (by have := C.u; omega)) ⟨p, p', XS R.sub rx e1, acb R ry e2, s1, s2, kk⟩
theorem GX (C : Cq X T W k) : Cz X T vO .NotEq Ew := fun B w σ H fr h x y d e c Q R rx ry q kk => by
 obtain ⟨c', q', rfl⟩ := Option.map_eq_some_iff.mp q
 obtain ⟨p, p', e1, e2, s1, s2, rfl⟩ := Yn q'
 exact Cy (op_neD (by have := C.u; omega)) ⟨p, p', XS R.sub rx e1, acb R ry e2, s1, s2, kk⟩
def D.flat : D → Bool
 | .non => true
 | .bl _ => true
 | .int _ => true
 | .str _ => true
 | _ => false
def D.eqf : D → D → Bool
 | .non, .non => true
 | .bl a, .bl b => a == b
 | .bl a, .int b => (if a then 1 else 0) == b
 | .int a, .bl b => a == (if b then 1 else 0)
 | .int a, .int b => a == b
 | .str a, .str b => a == b
 | _, _ => false
theorem Ub {K : PySem.W.Frag} {w : Wd} {v : V} {d : D} (r : rC K T w v d) (f : d.flat = true) : flatV v = true := by
 cases r <;> first | rfl | cases f
theorem Qi {K : PySem.W.Frag} {w : Wd} : ∀ {vs : List V} {ds : List D}, aO K T w vs ds → ds.all D.flat = true → vs.all flatV = true
 | _, _, .nil, _ => rfl
 | _, _, .cons h t, f => by
   rw [List.all_cons, Bool.and_eq_true] at f ⊢
   exact ⟨Ub h f.1, Qi t f.2⟩
theorem aeW {K : PySem.W.Frag} {w : Wd} {v u : V} {d e : D} (r : rC K T w v d) (s : rC K T w u e) : eqV v u = D.eqf d e := by
 cases r <;> cases s <;> rfl
theorem V8 {K : PySem.W.Frag} {w : Wd} {u : V} {e : D} (s : rC K T w u e) : ∀ {vs : List V} {ds : List D}, aO K T w vs ds → inV u vs = ds.any fun z => D.eqf z e
 | _, _, .nil => rfl
 | _, _, @aO.cons _ _ _ v d vs ds h t => by
   have q := V8 s t
   unfold inV at q ⊢
   rw [List.any_cons, List.any_cons, aeW h s, q]
def Aj (h : Hh) (x y : D) : Option Bool := match x, y with
 | .str c, .str z => if c.length = 1 then some (decide (c.cps.toList.headD 0 ∈ z.cps.toList)) else some (!(Builtin.Str.occurrences z c 0 z.length 1).isEmpty)
 | x, y => match y.its h with
   | some l => if x.flat && l.all D.flat then some (l.any fun z => D.eqf z x) else none
   | none => none
def Ql (h : Hh) (x y : D) : Option Bool := (Aj h x y).map (!·)
theorem str1 {c : Str} (h : c.length = 1) : c = ⟨#[c.cps.toList.headD 0]⟩ := by
 obtain ⟨⟨l⟩⟩ := c
 have h' : l.length = 1 := h
 match l, h' with
 | [x], _ => rfl
theorem Ks : Cz X T vO .In Aj := fun B w σ H fr h x y d e c Q R rx ry q kk => by
 unfold Aj at q
 split at q
 · rename_i cc z
   have ey : y = .str z := by
    rcases ry with ry | ⟨_, _, _, _, r⟩
    · exact zV ry
    · cases r
   rw [zV rx, ey]
   split at q
   · rename_i h1
     cases q
     exact Cy op_in_sign ⟨_, z, by rw [← str1 h1], rfl, kk⟩
   · cases q
     exact Cy op_in_str ⟨cc, z, rfl, rfl, kk⟩
 · split at q
   · rename_i l el
     split at q
     · rename_i hf
       obtain ⟨f1, f2⟩ := Bool.and_eq_true_iff.mp hf
       cases q
       obtain ⟨p, vs, rfl, rl, sq⟩ := Hw R ry el
       refine Cy op_in_seq ⟨p, vs, rfl, sq, Ub rx f1, Qi rl f2, ?_⟩
       rw [if_neg Bool.false_ne_true, V8 rx rl]
       exact kk
     · cases q
   · cases q
theorem V9 : Cz X T vO .NotIn Ql := fun B w σ H fr h x y d e c Q R rx ry q kk => by
 obtain ⟨c', q', rfl⟩ := Option.map_eq_some_iff.mp q
 clear q
 have q := q'
 clear q'
 unfold Aj at q
 split at q
 · rename_i cc z
   have ey : y = .str z := by
    rcases ry with ry | ⟨_, _, _, _, r⟩
    · exact zV ry
    · cases r
   rw [zV rx, ey]
   split at q
   · rename_i h1
     cases q
     exact Cy op_notIn_sign ⟨_, z, by rw [← str1 h1], rfl, kk⟩
   · cases q
     exact Cy op_notin_str ⟨cc, z, rfl, rfl, kk⟩
 · split at q
   · rename_i l el
     split at q
     · rename_i hf
       obtain ⟨f1, f2⟩ := Bool.and_eq_true_iff.mp hf
       cases q
       obtain ⟨p, vs, rfl, rl, sq⟩ := Hw R ry el
       refine Cy op_notIn_seq ⟨p, vs, rfl, sq, Ub rx f1, Qi rl f2, ?_⟩
       rw [if_pos rfl, V8 rx rl]
       exact kk
     · cases q
   · cases q
def D.isNon : D → Bool
 | .non => true
 | _ => false
def cIs (_ : Hh) (d e : D) : Option Bool := if e.isNon then some d.isNon else none
def afY (_ : Hh) (d e : D) : Option Bool := if e.isNon then some (!d.isNon) else none
theorem rP {op : CmpOp} {VR2 : wI V D} {f : Hh → D → D → Option Bool} (o : Cz X T VR2 op f) (sa : cO X T W a ma) (sb : wF (WE X b) X.K T W VR2 mb) (hm : behindInMarks op b = false := by with_unfolding_all rfl) :
 Gh X T W (.Compare a [op] [b] pos) (bf f ma mb) := fun B w σ H fr h Q r1 p =>
 Rv (pt_cmpR Jm mZ mZ hm) (V4 (VR := vB) (r := fun x y H Q => rM X (compareOp op) x y H fun z H' => ∃ k, z = .bl k ∧ Q k H') sa sb (fun B w σ H fr h x y d e z Q R rx ry q k =>
  o B w σ H fr h x y d e z _ R rx ry q ⟨z, rfl, k w H z (Wd.le_refl _) R rfl⟩) B w σ H fr h Q r1 p)
def mBl (m : M Bool) : M D := m.bind fun b => M.ret (.bl b)
theorem Uz {op : CmpOp} {VR2 : wI V D} {f : Hh → D → D → Option Bool} (o : Cz X T VR2 op f) (sa : cO X T W a ma) (sb : wF (WE X b) X.K T W VR2 mb) (hm : behindInMarks op b = false := by with_unfolding_all rfl) :
 cO X T W (.Compare a [op] [b] pos) (bf (fun h x y => (f h x y).map .bl) ma mb) := fun B w σ H fr h Q r1 p =>
 uP (pe_cmpR Jm mZ mZ hm) (V4 (VR := vV) sa sb (fun B w σ H fr h x y d e z Q R rx ry q k => by
  obtain ⟨c, q', rfl⟩ := Option.map_eq_some_iff.mp q
  exact o B w σ H fr h x y d e c _ R rx ry q' (k w H _ (Wd.le_refl _) R (.bl c))) B w σ H fr h Q r1 p)
def Nk (f g : Hh → D → D → Option Bool) (ma mb mc : M D) : M Bool := ma.bind fun x => mb.bind fun y fr h => match f h x y with
 | some true => (mc.bind fun z fr h => M.opt (g h y z) fr h) fr h
 | some false => .ok false fr h
 | none => .err
theorem ac6 {op op' : CmpOp} {f g : Hh → D → D → Option Bool} (o : Cz X T vV op f) (o' : Cz X T vV op' g) (sa : cO X T W a ma) (sb : cO X T W b mb) (sc : cO X T W c mc) (hm : lastMarks [op, op'] [b, c] = false := by with_unfolding_all rfl) :
 Gh X T W (.Compare a [op, op'] [b, c] pos) (Nk f g ma mb mc) := fun B w σ H fr h Q r1 p =>
 Rv (pt_chain Jm Jm mZ mZ mZ hm) (sa B w σ H fr h _ r1 (bu.bind (VR := vV X.K T B σ) p fun d fr1 h1 w1 H1 x e1 l1 r1 rx p1 => sb B w1 σ H1 fr1 h1 _ r1 (bu.bind (VR := vV X.K T B σ) p1 fun e fr2 h2 w2 H2 y e2 l2 r2 ry p2 => by
  cases q : f h2 d e with
  | none => rw [q] at p2; exact p2.elim
  | some k =>
    rw [q] at p2
    cases k with
    | false => exact o B w2 σ H2 fr2 h2 x y d e false _ r2 (rx.mono l2) ry q ⟨false, rfl, ⟨false, rfl, p2 w2 H2 false (Wd.le_refl _) r2 rfl⟩⟩
    | true => exact o B w2 σ H2 fr2 h2 x y d e true _ r2 (rx.mono l2) ry q ⟨true, rfl, by
     show WE X c σ H2 _
     exact sc B w2 σ H2 fr2 h2 _ r2 (bu.bind (VR := vV X.K T B σ) p2 fun z fr3 h3 w3 H3 zv e3 l3 r3 rz p3 => by
      cases q' : g h3 e z with
      | none => rw [q'] at p3; exact p3.elim
      | some k' =>
        rw [q'] at p3
        exact o' B w3 σ H3 fr3 h3 y zv e z k' _ r3 (ry.mono l3) rz q' ⟨k', rfl, p3 w3 H3 k' (Wd.le_refl _) r3 rfl⟩)⟩)))
def D.tb : D → Option Bool
 | .bl b => some b
 | _ => none
theorem af0 {K : PySem.W.Frag} {B : Bs} {σ : L2.St} {w : Wd} {H : Hp} {fr : Fr} {v : V} {d : D} {b : Bool} (r : vO K T B σ w H fr v d) (e : d.tb = some b) : v = .bl b := by
 rcases r with r | ⟨_, _, _, _, r⟩
 · cases r <;> first | (cases e; rfl) | cases e
 · cases r <;> cases e
def D.tru (h : Hh) (d : D) : Option Bool := match d with
 | .non => some false
 | .bl b => some b
 | .int i => some (i != 0)
 | .str z => if z.length ≤ big then some ((z.length : Int) != 0) else none
 | d => (d.its h).map fun l => !l.isEmpty
theorem Xe {K : PySem.W.Frag} {w : Wd} {vs : List V} {ds : List D} (r : aO K T w vs ds) : vs.isEmpty = ds.isEmpty := by
 cases r <;> rfl
theorem Ey (s : V2 X T W e m) (he : ∀ whole, isTrue e X.env whole = (do let v ← whole; standAt e.pos; holding [v] (truthy v)) := by intro _; rfl) : Gh X T W e (mQ D.tru m) := fun B w σ H fr h Q r1 p =>
 Rv (pt_truth mZ he) (aba (VR := vB) (r := fun x H Q => ∃ k, TruV X.K x H k ∧ Q k H) s (fun B w σ H fr h x d z Q R rx q k => by
  refine ⟨z, ?_, k w H z (Wd.le_refl _) R rfl⟩
  have viaIts : ∀ {l : List D}, d.its h = some l → (!l.isEmpty) = z → TruV X.K x H z := fun {l} el ez => by
   obtain ⟨p, vs, rfl, rl, sq⟩ := Hw R rx el
   rcases sq with sq | sq
   · exact .inl ⟨vs, sq, by rw [← ez, Xe rl]⟩
   · exact .inr (.inl ⟨vs, sq, by rw [← ez, Xe rl]⟩)
  unfold D.tru at q
  split at q
  · rcases rx with rx | ⟨_, _, _, _, rx⟩
    · cases rx
      cases q
      rfl
    · cases rx
  · rcases rx with rx | ⟨_, _, _, _, rx⟩
    · cases rx
      cases q
      rfl
    · cases rx
  · rcases rx with rx | ⟨_, _, _, _, rx⟩
    · cases rx
      cases q
      rfl
    · cases rx
  · split at q
    · rename_i hl
      rcases rx with rx | ⟨_, _, _, _, rx⟩
      · cases rx
        cases q
        exact ⟨xN hl, rfl⟩
      · cases rx
    · cases q
  · obtain ⟨l, e1, e2⟩ := Option.map_eq_some_iff.mp q
    exact viaIts e1 e2) B w σ H fr h Q r1 p)
def Ku (m : M Bool) : M Bool := m.bind fun b => M.ret !b
def Mu (m n : M Bool) : M Bool := m.bind fun b => if b then n else M.ret false
def O7 (m n : M Bool) : M Bool := m.bind fun b => if b then M.ret true else n
variable {n ta tb tc : M Bool} {rest : List Expr}
theorem UG (s : Gh X T W a n) : Gh X T W (.UnaryOp .Not a pos) (Ku n) := fun B w σ H fr h Q r1 p =>
 Rv (pt_not GJ) (s B w σ H fr h _ r1 (bu.bind (VR := vB X.K T B σ) p fun d fr1 h1 w1 H1 x e1 l1 r1 rx p1 => by
  have rx' : x = d := rx
  subst rx'
  exact p1 w1 H1 _ (Wd.le_refl _) r1 rfl))
theorem RB (s : T9 X T W e n) : Gh X T W e n := fun B w σ H fr h Q r1 p => Rv Yi.pt (s B w σ H fr h Q r1 p)
theorem Wb (s : Gh X T W a ta) : T9 X T W (.BoolOp .And [a] pos) ta := fun B w σ H fr h Q r1 p => XR (pw_and1 GJ) (s B w σ H fr h Q r1 p)
theorem Yo (s : Gh X T W a ta) : T9 X T W (.BoolOp .Or [a] pos) ta := fun B w σ H fr h Q r1 p => XR (pw_or1 GJ) (s B w σ H fr h Q r1 p)
theorem Yp (s : Gh X T W a ta) (t : T9 X T W (.BoolOp .And (b :: rest) pos) tb) : T9 X T W (.BoolOp .And (a :: b :: rest) pos) (Mu ta tb) := fun B w σ H fr h Q r1 p =>
 XR (pw_and GJ Yi) (s B w σ H fr h _ r1 (bu.bind (VR := vB X.K T B σ) p fun d fr1 h1 w1 H1 x e1 l1 r1 rx p1 => by
  have rx' : x = d := rx
  subst rx'
  cases x with
  | true => exact t B w1 σ H1 fr1 h1 Q r1 p1
  | false => exact p1 w1 H1 false (Wd.le_refl _) r1 rfl))
theorem XX (s : Gh X T W a ta) (t : T9 X T W (.BoolOp .Or (b :: rest) pos) tb) : T9 X T W (.BoolOp .Or (a :: b :: rest) pos) (O7 ta tb) := fun B w σ H fr h Q r1 p =>
 XR (pw_or GJ Yi) (s B w σ H fr h _ r1 (bu.bind (VR := vB X.K T B σ) p fun d fr1 h1 w1 H1 x e1 l1 r1 rx p1 => by
  have rx' : x = d := rx
  subst rx'
  cases x with
  | false => exact t B w1 σ H1 fr1 h1 Q r1 p1
  | true => exact p1 w1 H1 true (Wd.le_refl _) r1 rfl))
def abb (m : M D) : M D := m.bind fun d => M.opt (d.tb.map fun b => .bl (!b))
def N8 (m n : M D) : M D := m.bind fun d => match d.tb with
 | some true => n
 | some false => M.ret (.bl false)
 | none => M.opt none
def ac7 (m n : M D) : M D := m.bind fun d => match d.tb with
 | some true => M.ret (.bl true)
 | some false => n
 | none => M.opt none
theorem ach {op : BoolOp} (s : cO X T W a ma) : cO X T W (.BoolOp op [a] pos) ma := fun B w σ H fr h Q r1 p => uP (pe_one mZ) (s B w σ H fr h Q r1 p)
theorem aci (s : cO X T W a ma) (t : cO X T W (.BoolOp .And (b :: rest) pos) mb) : cO X T W (.BoolOp .And (a :: b :: rest) pos) (N8 ma mb) := fun B w σ H fr h Q r1 p =>
 uP (pe_and mZ mZ) (s B w σ H fr h _ r1 (bu.bind (VR := vV X.K T B σ) p fun d fr1 h1 w1 H1 x e1 l1 r1 rx p1 => by
  cases q : d.tb with
  | none => rw [q] at p1; exact p1.elim
  | some c =>
    rw [q] at p1
    refine ⟨c, af0 (fr := fr1) (B := B) (σ := σ) (H := H1) (.inl rx) q, ?_⟩
    cases c with
    | true => exact t B w1 σ H1 fr1 h1 Q r1 p1
    | false => exact p1 w1 H1 _ (Wd.le_refl _) r1 (.bl _)))
def BW {α : Type} (t : M Bool) (m n : M α) : M α := t.bind fun b => if b then m else n
theorem s_if {VR : wI V D} (st : Gh X T W c tc) (sa : wF (WE X a) X.K T W VR ma) (sb : wF (WE X b) X.K T W VR mb) : wF (WE X (.IfExp c a b pos)) X.K T W VR (BW tc ma mb) := fun B w σ H fr h Q r1 p =>
 uP (pe_ifExp GJ mZ mZ) (st B w σ H fr h _ r1 (bu.bind (VR := vB X.K T B σ) p fun d fr1 h1 w1 H1 x e1 l1 r1 rx p1 => by
  have rx' : x = d := rx
  subst rx'
  cases x with
  | true => exact sa B w1 σ H1 fr1 h1 Q r1 p1
  | false => exact sb B w1 σ H1 fr1 h1 Q r1 p1))
def ag8 : Expr → Bool
 | .Starred .. => true
 | _ => false
theorem uG {e : Expr} {es : List Expr} {env : Env} (h : ag8 e = false) : starEach (e :: es) env = (false, eval e env) :: starEach es env := by
 cases e <;> first | (cases h; done) | rfl
def aj : List (M D) → M (List D)
 | [] => M.ret []
 | m :: ms => m.bind fun d => (aj ms).bind fun ds => M.ret (d :: ds)
variable {ms : List (M D)}
theorem aJ : CP X T W [] (aj []) := fun B w σ H fr h Q r1 p => Rx pa_nil (p w H _ (Wd.le_refl _) r1 .nil)
theorem aa (s : cO X T W e m) (t : CP X T W es (aj ms)) (hs : starEach (e :: es) X.env = (false, eval e X.env) :: starEach es X.env := by exact uG rfl) : CP X T W (e :: es) (aj (m :: ms)) := fun B w σ H fr h Q r1 p =>
 Rx (pa_cons mZ Ko hs) (s B w σ H fr h _ r1 (bu.bind (VR := vV X.K T B σ) p fun d fr1 h1 w1 H1 x e1 l1 r1 rx p1 =>
  t B w1 σ H1 fr1 h1 _ r1 (bu.bind (VR := vA X.K T B σ) p1 fun ds fr2 h2 w2 H2 vs e2 l2 r2 rs p2 => p2 w2 H2 _ (Wd.le_refl _) r2 (.cons (rx.mono l2) rs))))
def oh (ms : List (M D)) : M D := (aj ms).bind fun ds => M.opt (if ds.length ≤ big then some (.tup ds) else none)
def vq (ms : List (M D)) : M D := (aj ms).bind fun ds => M.opt (if ds.length ≤ big then some (.nl ds) else none)
theorem tU {x1 : Nat} (s : CP X T W es (aj ms)) : cO X T W (.Tuple es x1 pos) (oh ms) := fun B w σ H fr h Q r1 p =>
 uP (pe_tup Ko) (s B w σ H fr h _ r1 (bu.bind (VR := vA X.K T B σ) p fun ds fr1 h1 w1 H1 vs e1 l1 r1 rs p1 => by
  by_cases hl : ds.length ≤ big
  · rw [if_pos hl] at p1
    exact ⟨by rw [aO.length rs]; exact xN hl, fun q nq => Ry r1 rs nq p1⟩
  · rw [if_neg hl] at p1
    exact p1.elim))
theorem yt (s : CP X T W es (aj ms)) : zQ X T W (.List es pos) (vq ms) := fun B w σ H fr h Q r1 p =>
 uP (pe_lst Ko) (s B w σ H fr h _ r1 (bu.bind (VR := vA X.K T B σ) p fun ds fr1 h1 w1 H1 vs e1 l1 r1 rs p1 => by
  by_cases hl : ds.length ≤ big
  · rw [if_pos hl] at p1
    exact ⟨by rw [aO.length rs]; exact xN hl, fun q nq => V5 r1 rs nq p1⟩
  · rw [if_neg hl] at p1
    exact p1.elim))
end
end Pk
namespace Pk
open PySem PySem.Spec L2
section
variable {X : Cx} {T : Tb} {W : WX} {k : Nat} {e a b c o : Expr} {es : List Expr} {m ma mb mc : M D} {pos p2 pf : Pos}
def gJ (h : Hh) (d i : D) : Option D := match d, i with
 | .str z, .int i => if z.length ≤ big then (atI z.cps.toList i).map fun c => .str ⟨#[c]⟩ else none
 | d, .int i => match d.its h with
   | some l => atI l i
   | none => none
 | _, _ => none
def ixM (X : Cx) : R2 := fun x y H Q => ∀ value slice pins s σ v u, Inv X pins σ H s → RelV x v → RelV y u → subscripted slice false v u = operate [v, u] (getItem v u) → wpAny (model X.prog X.w) X.A (PyProof.Rows.subscriptTail value slice v u) (EP X pins σ Q) X.xe s
theorem acj : IxR X (ixM X) := fun value slice pins s σ H x y v u Q I rx ry h hs => h value slice pins s σ v u I rx ry hs
theorem Yq {r : R2} (o : IxR X r) {x y : V} {H : Hp} {Q : VK} (h : r x y H Q) : ixM X x y H Q := fun value slice pins s σ v u I rx ry hs => o value slice pins s σ H x y v u Q I rx ry h hs
theorem aeX {K : PySem.W.Frag} {w : Wd} {vs : List V} {ds : List D} {i : Int} {d : D} (r : aO K T w vs ds) (e : atI ds i = some d) : ∃ v, atI vs i = some v ∧ rC K T w v d := by
 unfold atI at e ⊢
 rw [r.length]
 cases q : ixN ds.length i with
 | none => rw [q] at e; cases e
 | some j =>
   rw [q] at e
   exact r.get (show ds[j]? = some d from e)
theorem Yr {K : PySem.W.Frag} {B : Bs} {σ : L2.St} {w : Wd} {H : Hp} {fr : Fr} {v : V} {z : Str} (r : vO K T B σ w H fr v (.str z)) : v = .str z := by
 rcases r with r | ⟨_, _, _, _, r⟩
 · exact zV r
 · cases r
theorem ack {B : Bs} {w : Wd} {σ : L2.St} {H : Hp} {fr : Fr} {h : Hh} {x y : V} {d i z : D} {Q : VK} (R : Rel X.K T B w σ H fr h) (rx : vO X.K T B σ w H fr x d) (ry : rC X.K T w y i) (q : gJ h d i = some z)
 (k : ∀ v, rC X.K T w v z → Q v H) : ixM X x y H Q := by
 unfold gJ at q
 split at q
 · rename_i z' i'
   split at q
   · rename_i hl
     obtain ⟨c, ec, rfl⟩ := Option.map_eq_some_iff.mp q
     rw [Yr rx, vp ry]
     exact Yq ix_str ⟨z', i', c, rfl, rfl, xN hl, ec, k _ (.str _)⟩
   · cases q
 · rename_i i' _
   split at q
   · rename_i l el
     obtain ⟨p, vs, rfl, rl, sq⟩ := Hw R rx el
     obtain ⟨v, ev, rv⟩ := aeX rl q
     rw [vp ry]
     rcases sq with sq | sq
     · exact Yq ix_list ⟨p, vs, i', v, rfl, rfl, sq, ev, k v rv⟩
     · exact Yq ix_tup ⟨p, vs, i', v, rfl, rfl, sq, ev, k v rv⟩
   · cases q
 · cases q
theorem UJ (sa : cO X T W a ma) (sb : cO X T W b mb) (hs : PlainIx b := by intro _ _; rfl) : cO X T W (.Subscript a b pos) (bf gJ ma mb) := fun B w σ H fr h Q r1 p =>
 uP (pe_ix acj mZ mZ hs) (V4 (VR := vV) sa sb (fun B w σ H fr h x y d e z Q R rx ry q k => ack R (.inl rx) ry q fun v rv => k w H v (Wd.le_refl _) R rv) B w σ H fr h Q r1 p)
def yu (i : Nat) : M Unit := fun fr h => match fr[i]? with
 | some (some _) => .ok () fr h
 | _ => .err
def gH {α : Type} (i : Nat) (m : M α) (f : Hh → D → α → Option D) : M D := (yu i).bind fun _ => m.bind fun y => (iz i).bind fun d fr h => M.opt (f h d y) fr h
theorem Ys {K : PySem.W.Frag} {B : Bs} {w : Wd} {σ : L2.St} {H : Hp} {fr : Fr} {h : Hh} {i : Nat} {α β : Type} {VR : Wd → Hp → Fr → β → α → Prop} {m : M α} {Q : β → Hp → Prop} (R : Rel K T B w σ H fr h) (p : bu K T B W VR w σ ((yu i).bind (fun _ => m) fr h) Q) :
 (∃ v, σ[i]? = some (some v)) ∧ bu K T B W VR w σ (m fr h) Q := by
 cases e1 : fr[i]? with
 | none =>
   have q : yu i fr h = .err := by unfold yu; rw [e1]
   rw [M.bind_err q] at p
   exact p.elim
 | some o =>
   cases o with
   | none =>
     have q : yu i fr h = .err := by unfold yu; rw [e1]
     rw [M.bind_err q] at p
     exact p.elim
   | some d =>
     have q : yu i fr h = .ok () fr h := by unfold yu; rw [e1]
     rw [M.bind_ok q] at p
     obtain ⟨v, e2, z⟩ := vm R e1
     exact ⟨⟨v, e2⟩, p⟩
theorem Yt {K : PySem.W.Frag} {B : Bs} {w : Wd} {σ : L2.St} {H : Hp} {fr : Fr} {h : Hh} {i : Nat} {v : V} {α β : Type} {VR : Wd → Hp → Fr → β → α → Prop} {f : D → M α} {Q : β → Hp → Prop} (R : Rel K T B w σ H fr h) (ev : σ[i]? = some (some v))
 (p : bu K T B W VR w σ ((iz i).bind f fr h) Q) : ∃ d, vO K T B σ w H fr v d ∧ bu K T B W VR w σ (f d fr h) Q := by
 cases e1 : fr[i]? with
 | none =>
   have q : iz i fr h = .err := by unfold iz; rw [e1]
   rw [M.bind_err q] at p
   exact p.elim
 | some o =>
   cases o with
   | none =>
     have q : iz i fr h = .err := by unfold iz; rw [e1]
     rw [M.bind_err q] at p
     exact p.elim
   | some d =>
     have q : iz i fr h = .ok d fr h := by unfold iz; rw [e1]
     rw [M.bind_ok q] at p
     obtain ⟨v', e2, z⟩ := vm R e1
     rw [ev] at e2
     cases e2
     refine ⟨d, ?_, p⟩
     cases z with
     | val rd => exact .inl rd
     | own O eH rd => exact .inr ⟨_, _, rfl, eH, rd⟩
theorem iD (i : Nat) {x : Str} {px : Pos} (sb : cO X T W b mb) (hs : PlainIx b := by intro _ _; rfl) (hN : X.N[i]? = some x := by rfl) (hv : Vis X.env.scope x := by first | exact Or.inl rfl | exact Or.inr (Or.inl rfl) | exact Or.inr (Or.inr rfl)) (hd : (x == ("__debug__" : Str)) = false := by decide)
 (hcd : (x == ("__classdict__" : Str)) = false := by decide) : cO X T W (.Subscript (.Name x px) b pos) (gH i mb gJ) := fun B w σ H fr h Q r1 p => by
 obtain ⟨⟨v, ev⟩, p⟩ := Ys r1 p
 refine uP (pe_ix acj (pe_var hN hv hd hcd) mZ hs) ⟨v, ev, sb B w σ H fr h _ r1 (bu.bind (VR := vV X.K T B σ) p fun y fr1 h1 w1 H1 u e1 l1 r2 ru p1 => ?_)⟩
 obtain ⟨d, rd, p2⟩ := Yt r2 ev p1
 cases q : gJ h1 d y with
 | none => rw [q] at p2; exact p2.elim
 | some z =>
   rw [q] at p2
   exact ack r2 rd ru q fun v' rv => p2 w1 H1 v' (Wd.le_refl _) r2 rv
def slM (X : Cx) : V → Option Int → Option Int → Hp → VK → Prop := fun x lo hi H Q => ∀ pins s σ v vl vu sl, Inv X pins σ H s → RelV x v → s.heap.IsSliceOf sl vl vu .none → IsPart vl lo → IsPart vu hi →
    ∃ T id, typeLookup (.type T) "__getitem__" = pure (some (.builtin id)) ∧ s.TypeIs v T ∧ wpAny (model X.prog X.w) X.A (getItem v (.ref sl)) (EP X pins σ Q) X.xe s
theorem af2 : SlR X (slM X) := fun pins s σ H x v vl vu lo hi sl Q I rx hs pl pu h => h pins s σ v vl vu sl I rx hs pl pu
theorem Yu {r : V → Option Int → Option Int → Hp → VK → Prop} (o : SlR X r) {x : V} {lo hi : Option Int} {H : Hp} {Q : VK} (h : r x lo hi H Q) : slM X x lo hi H Q := fun pins s σ v vl vu sl I rx hs pl pu => o pins s σ H x v vl vu lo hi sl Q I rx hs pl pu h
def WO (X : Cx) (e : Option Expr) : TO := fun σ H Q => ∀ pins s, Inv X pins σ H s → wpAny (model X.prog X.w) X.A (evalPart e X.env) (fun u s' => ∃ o H', Inv X pins σ H' s' ∧ IsPart u o ∧ Q o H') X.xe s
theorem acl {e : Option Expr} : PO X e (WO X e) := ⟨fun pins s σ H Q I h => h pins s I⟩
theorem ag9 {e : Option Expr} {t : TO} (p : PO X e t) {σ : L2.St} {H : Hp} {Q : Option Int → Hp → Prop} (h : t σ H Q) : WO X e σ H Q := fun pins s I => p.run pins s σ H Q I h
def vI : wI (Option Int) (Option Int) := fun _ _ _ _ _ _ _ b c => b = c
abbrev ac8 (X : Cx) (T : Tb) (W : WX) (e : Option Expr) (m : M (Option Int)) : Prop := wF (WO X e) X.K T W vI m
def mPn : M (Option Int) := M.ret none
def UL (m : M D) : M (Option Int) := m.bind fun d => M.opt (match d with | .int i => some (some i) | _ => none)
theorem aar (s : cO X T W e m) : ac8 X T W (some e) (UL m) := fun B w σ H fr h Q r p =>
 ag9 (po_some mZ) (s B w σ H fr h _ r (bu.bind (VR := vV X.K T B σ) p fun d fr1 h1 w1 H1 x e1 l1 r1 rx p1 => by
  cases rx with
  | int i => exact ⟨i, rfl, p1 w1 H1 _ (Wd.le_refl _) r1 rfl⟩
  | _ => exact (show False from p1).elim))
def cutD {α : Type} (xs : List α) (lo hi : Option Int) : List α := (xs.drop (HT.sIx xs.length 0 lo)).take (HT.sIx xs.length xs.length hi - HT.sIx xs.length 0 lo)
theorem aas {K : PySem.W.Frag} {w : Wd} {vs : List V} {ds : List D} {lo hi : Option Int} (r : aO K T w vs ds) : aO K T w (cutV vs lo hi) (cutD ds lo hi) := by
 unfold cutV cutD
 rw [r.length]
 exact (r.drop _).take _
def zR (h : Hh) (d : D) (p : Option Int × Option Int) : Option D := match d with
 | .str z => if z.length ≤ big then some (.str (cutS z p.1 p.2)) else none
 | .tup l => some (.tup (cutD l p.1 p.2))
 | d => match d.der h with
   | .fl l => some (.nl (cutD l p.1 p.2))
   | .nl l => some (.nl (cutD l p.1 p.2))
   | .kl l => some (.nl (cutD l p.1 p.2))
   | _ => none
theorem acn {α : Type} {xs : List α} {lo hi : Option Int} (h1 : HT.sIx xs.length 0 lo = 0) (h2 : HT.sIx xs.length xs.length hi = xs.length) : cutD xs lo hi = xs := by
 unfold cutD
 rw [h1, h2, aiY, Nat.sub_zero, List.take_length]
theorem aeY {K : PySem.W.Frag} {B : Bs} {w : Wd} {σ : L2.St} {H : Hp} {fr : Fr} {h : Hh} {v : V} {d : D} {l : List D} (R : Rel K T B w σ H fr h) (z : vO K T B σ w H fr v d) (e : d.der h = .fl l ∨ d.der h = .nl l ∨ d.der h = .kl l) :
 ∃ p vs, v = .ref p ∧ aO K T w vs l ∧ SqL K H p vs := by
 rcases z with z | ⟨p, o, rfl, eH, z⟩
 · cases z with
   | fl s r =>
     rcases e with e | e | e <;> cases e
     exact ⟨_, _, rfl, r, SqL.of (R.sub _ _ s)⟩
   | kl s r =>
     rcases e with e | e | e <;> cases e
     exact ⟨_, _, rfl, r, Ba R.sub s⟩
   | @ref a n s =>
     have ln : n < h.length := by
      rw [← R.len]
      exact (List.getElem?_eq_some_iff.mp s).1
     obtain ⟨o, q, rr⟩ := R.cel n a h[n] s (ajc ln)
     have e0 : D.der h (.ref n) = h[n] := by
      unfold D.der
      dsimp only
      rw [ajc ln]
      rfl
     rw [e0] at e
     generalize h[n] = c at rr e
     cases rr with
     | lst r =>
       rcases e with e | e | e <;> cases e
       exact ⟨_, _, rfl, r, SqL.of q⟩
     | obj r => rcases e with e | e | e <;> cases e
     | dct _ r => rcases e with e | e | e <;> cases e
   | _ => rcases e with e | e | e <;> cases e
 · cases z with
   | lst r =>
     rcases e with e | e | e <;> cases e
     exact ⟨_, _, rfl, r, SqL.of eH⟩
   | obj r => rcases e with e | e | e <;> cases e
theorem af3 {B : Bs} {w : Wd} {σ : L2.St} {H : Hp} {fr : Fr} {h : Hh} {x : V} {d z : D} {lo hi : Option Int} {Q : VK} (R : Rel X.K T B w σ H fr h) (rx : vO X.K T B σ w H fr x d) (q : zR h d (lo, hi) = some z)
 (k : ∀ w' H' v, w.le w' → Rel X.K T B w' σ H' fr h → vE X.K T B σ w' H' fr v z → Q v H') : slM X x lo hi H Q := by
 have fin : ∀ {l : List D}, (d.der h = .fl l ∨ d.der h = .nl l ∨ d.der h = .kl l) → z = .nl (cutD l lo hi) → slM X x lo hi H Q := fun {l} el ez => by
  obtain ⟨p, vs, rfl, rl, sq⟩ := aeY R rx el
  subst ez
  exact Yu sl_list ⟨p, vs, rfl, sq, fun q nq => V5 R (aas rl) nq k⟩
 unfold zR at q
 split at q
 · split at q
   · rename_i hl
     cases q
     rw [Yr rx]
     exact Yu sl_str ⟨_, rfl, xN hl, k w H _ (Wd.le_refl _) R (.inl (.str _))⟩
   · cases q
 · cases q
   rcases rx with rx | ⟨_, _, _, _, r⟩
   · obtain ⟨p, vs, rfl, s, rl⟩ := J8 rx
     refine Yu sl_tupA ⟨p, vs, rfl, wM R.sub s, fun hw => ?_, fun _ q nq => Ry R (aas rl) nq fun w' H' v l R' r' => k w' H' v l R' (.inl r')⟩
     rw [rl.length] at hw
     refine k w H _ (Wd.le_refl _) R (.inl ?_)
     rw [acn hw.1 hw.2]
     exact rx
   · cases r
 · split at q
   · rename_i l el
     exact fin (.inl el) (by cases q; rfl)
   · rename_i l el
     exact fin (.inr (.inl el)) (by cases q; rfl)
   · rename_i l el
     exact fin (.inr (.inr el)) (by cases q; rfl)
   · cases q
def Lw (ml mh : M (Option Int)) : M (Option Int × Option Int) := ml.bind fun l => mh.bind fun u => M.ret (l, u)
variable {lo hi : Option Expr} {ml mh : M (Option Int)}
theorem aeZ (i : Nat) {x : Str} {px : Pos} (sl : ac8 X T W lo ml) (sh : ac8 X T W hi mh) (hN : X.N[i]? = some x := by rfl) (hv : Vis X.env.scope x := by first | exact Or.inl rfl | exact Or.inr (Or.inl rfl) | exact Or.inr (Or.inr rfl)) (hd : (x == ("__debug__" : Str)) = false := by decide)
 (hcd : (x == ("__classdict__" : Str)) = false := by decide) : zQ X T W (.Subscript (.Name x px) (.Slice lo hi none p2) pos) (gH i (Lw ml mh) zR) := fun B w σ H fr h Q r1 p => by
 obtain ⟨⟨v, ev⟩, p⟩ := Ys r1 p
 have p0 : bu X.K T B W (vE X.K T B σ) w σ ((ml.bind fun l => mh.bind fun u => (iz i).bind fun d fr h => M.opt (zR h d (l, u)) fr h) fr h) Q := by
  have e : (Lw ml mh).bind (fun y => (iz i).bind fun d fr h => M.opt (zR h d y) fr h) fr h = (ml.bind fun l => mh.bind fun u => (iz i).bind fun d fr h => M.opt (zR h d (l, u)) fr h) fr h := by
   unfold Lw M.bind
   cases ml fr h with
   | ok l fr1 h1 => dsimp only; cases mh fr1 h1 <;> rfl
   | exc _ _ _ => rfl
   | err => rfl
  rw [← e]
  exact p
 refine uP (pe_slice af2 (pe_var hN hv hd hcd) acl acl) ⟨v, ev, sl B w σ H fr h _ r1 (bu.bind (VR := vI X.K T B σ) p0 fun l fr1 h1 w1 H1 l' e1 l1 r2 rl p1 => sh B w1 σ H1 fr1 h1 _ r2 (bu.bind (VR := vI X.K T B σ) p1 fun u fr2 h2 w2 H2 u' e2 l2 r3 ru p2 => ?_))⟩
 have rl' : l' = l := rl
 have ru' : u' = u := ru
 subst rl' ru'
 obtain ⟨d, rd, p3⟩ := Yt r3 ev p2
 cases q : zR h2 d (l', u') with
 | none => rw [q] at p3; exact p3.elim
 | some z =>
   rw [q] at p3
   exact af3 r3 rd q p3
def ac9 (ma : M D) (ml mh : M (Option Int)) : M D := ma.bind fun d => ml.bind fun l => mh.bind fun u fr h => M.opt (zR h d (l, u)) fr h
variable {x : Str}
theorem af4 {VR1 VR : wI V D} {id : String} {f : Hh → D → Option D} (sa : wF (WE X a) X.K T W VR1 ma) (hr : ∀ B w σ H fr h x d z Q, Rel X.K T B w σ H fr h → VR1 X.K T B σ w H fr x d → f h d = some z → (∀ w' H' v, w.le w' → Rel X.K T B w' σ H' fr h → VR X.K T B σ w' H' fr v z → Q v H') → cM X (.builtin id) [x] H Q)
 (hm : X.mg x = none) (hg : Gl X x := by rfl) (hv : bootBuiltins x = some (.builtin id) := by decide +kernel) (hn : x ≠ "__name__" := by decide) (hdb : (x == ("__debug__" : Str)) = false := by decide)
 (he : starEach (a :: []) X.env = (false, eval a X.env) :: starEach [] X.env := by exact uG rfl) (hpl : (backTo pos (starEach [] X.env)).any (·.1) = false := by rfl) : wF (WE X (.Call (.Name x pf) [a] [] pos)) X.K T W VR (mQ f ma) := fun B w σ H fr h Q r1 p =>
 uP (pe_callB T8 hg hm hv (pa_cons mZ pa_nil he) hn hdb he hpl) (aba (r := fun x H Q => cM X (.builtin id) [x] H Q) sa hr B w σ H fr h Q r1 p)
theorem af5 {VR1 VR : wI V D} {id : String} {f : Hh → D → Option D} (sa : wF (WE X a) X.K T W VR1 ma) (hr : ∀ B w σ H fr h x d z Q, Rel X.K T B w σ H fr h → VR1 X.K T B σ w H fr x d → f h d = some z → (∀ w' H' v, w.le w' → Rel X.K T B w' σ H' fr h → VR X.K T B σ w' H' fr v z → Q v H') → cM X (.type id) [x] H Q)
 (hm : X.mg x = none) (hg : Gl X x := by rfl) (hv : bootBuiltins x = some (.type id) := by decide +kernel) (hn : x ≠ "__name__" := by decide) (hdb : (x == ("__debug__" : Str)) = false := by decide)
 (he : starEach (a :: []) X.env = (false, eval a X.env) :: starEach [] X.env := by exact uG rfl) (hpl : (backTo pos (starEach [] X.env)).any (·.1) = false := by rfl) : wF (WE X (.Call (.Name x pf) [a] [] pos)) X.K T W VR (mQ f ma) := fun B w σ H fr h Q r1 p =>
 uP (pe_callTy T8 hg hm hv (pa_cons mZ pa_nil he) hn hdb he hpl) (aba (r := fun x H Q => cM X (.type id) [x] H Q) sa hr B w σ H fr h Q r1 p)
def vh (h : Hh) (d : D) : Option D := match d with
 | .str z => if z.length ≤ big then some (.int z.length) else none
 | d => (d.its h).map fun l => .int l.length
theorem Ez (sa : V2 X T W a ma) (hm : X.mg "len" = none) (hg : Gl X "len" := by rfl) (he : starEach (a :: []) X.env = (false, eval a X.env) :: starEach [] X.env := by exact uG rfl) : cO X T W (.Call (.Name "len" pf) [a] [] pos) (mQ vh ma) :=
 af4 (id := "len") sa (fun B w σ H fr h x d z Q R rx q k => by
  unfold vh at q
  split at q
  · split at q
    · rename_i hl
      cases q
      rw [Yr rx]
      exact yD call_len_str ⟨_, rfl, xN hl, k w H _ (Wd.le_refl _) R (.int _)⟩
    · cases q
  · obtain ⟨l, el, rfl⟩ := Option.map_eq_some_iff.mp q
    obtain ⟨p, vs, rfl, rl, sq⟩ := Hw R rx el
    refine yD call_len_seq ⟨p, vs, rfl, sq, ?_⟩
    rw [rl.length]
    exact k w H _ (Wd.le_refl _) R (.int _)) hm hg (by decide +kernel) (by decide) (by decide) he
def yo (_ : Hh) (d : D) : Option D := match d with
 | .int i => some (.int i)
 | .bl b => some (.int (if b then 1 else 0))
 | .str z => if z.length ≤ 640 then (PySem.intText? z).map .int else none
 | _ => none
theorem HD (sa : cO X T W a ma) (hm : X.mg "int" = none) (hg : Gl X "int" := by rfl) (he : starEach (a :: []) X.env = (false, eval a X.env) :: starEach [] X.env := by exact uG rfl) : cO X T W (.Call (.Name "int" pf) [a] [] pos) (mQ yo ma) :=
 af5 (id := "int") sa (fun B w σ H fr h x d z Q R rx q k => by
  unfold yo at q
  split at q
  · cases q
    rw [vp rx]
    exact yD call_int1 (.inl ⟨_, rfl, k w H _ (Wd.le_refl _) R (.int _)⟩)
  · cases q
    rw [acd rx]
    exact yD call_int1 (.inr ⟨_, rfl, k w H _ (Wd.le_refl _) R (.int _)⟩)
  · split at q
    · rename_i hl
      obtain ⟨n, en, rfl⟩ := Option.map_eq_some_iff.mp q
      rw [zV rx]
      exact yD call_int_str ⟨_, n, rfl, en, hl, k w H _ (Wd.le_refl _) R (.int _)⟩
    · cases q
  · cases q) hm hg (by decide +kernel) (by decide) (by decide) he
def Oa (_ : Hh) (d : D) : Option D := match d with
 | .int i => some (.int (if i < 0 then -i else i))
 | _ => none
theorem aco (sa : cO X T W a ma) (hm : X.mg "abs" = none) (hg : Gl X "abs" := by rfl) (he : starEach (a :: []) X.env = (false, eval a X.env) :: starEach [] X.env := by exact uG rfl) : cO X T W (.Call (.Name "abs" pf) [a] [] pos) (mQ Oa ma) :=
 af4 (id := "abs") sa (fun B w σ H fr h x d z Q R rx q k => by
  unfold Oa at q
  split at q
  · cases q
    rw [vp rx]
    exact yD call_abs ⟨_, rfl, k w H _ (Wd.le_refl _) R (.int _)⟩
  · cases q) hm hg (by decide +kernel) (by decide) (by decide) he
def aeA (h : Hh) (d : D) : Option D := (d.its h).map .nl
def acp (h : Hh) (d : D) : Option D := (d.its h).map .tup
def D.ints : List D → Option (List Int)
 | [] => some []
 | .int i :: r => (D.ints r).map (i :: ·)
 | _ :: _ => none
def D.lints (h : Hh) (d : D) : Option (List Int) := match d.der h with
 | .fl l => D.ints l
 | .nl l => D.ints l
 | .kl l => D.ints l
 | _ => none
def Yv (h : Hh) (d : D) : Option D := (d.lints h).map fun l => .int l.sum
def abd : Int → List Int → Int
 | a, [] => a
 | a, b :: r => abd (if b > a then b else a) r
def af6 : Int → List Int → Int
 | a, [] => a
 | a, b :: r => af6 (if b < a then b else a) r
def aha (h : Hh) (d : D) : Option D := match d.lints h with
 | some (a :: r) => some (.int (abd a r))
 | _ => none
def ah6 (h : Hh) (d : D) : Option D := match d.lints h with
 | some (a :: r) => some (.int (af6 a r))
 | _ => none
theorem ada {VR2 VR : wI V D} {id : String} {f : Hh → D → D → Option D} (sa : cO X T W a ma) (sb : wF (WE X b) X.K T W VR2 mb)
 (hr : ∀ B w σ H fr h x y d e z Q, Rel X.K T B w σ H fr h → rC X.K T w x d → VR2 X.K T B σ w H fr y e → f h d e = some z → (∀ w' H' v, w.le w' → Rel X.K T B w' σ H' fr h → VR X.K T B σ w' H' fr v z → Q v H') → cM X (.builtin id) [x, y] H Q)
 (hm : X.mg x = none) (hg : Gl X x := by rfl) (hv : bootBuiltins x = some (.builtin id) := by decide +kernel) (hn : x ≠ "__name__" := by decide) (hdb : (x == ("__debug__" : Str)) = false := by decide)
 (he : starEach (a :: b :: []) X.env = (false, eval a X.env) :: starEach (b :: []) X.env := by exact uG rfl) (he2 : starEach (b :: []) X.env = (false, eval b X.env) :: starEach [] X.env := by exact uG rfl)
 (hpl : (backTo pos (starEach (b :: []) X.env)).any (·.1) = false := by rfl) : wF (WE X (.Call (.Name x pf) [a, b] [] pos)) X.K T W VR (bf f ma mb) := fun B w σ H fr h Q r1 p =>
 uP (pe_callB T8 hg hm hv (pa_cons mZ (pa_cons mZ pa_nil he2) he) hn hdb he hpl) (V4 (r := fun x y H Q => cM X (.builtin id) [x, y] H Q) sa sb hr B w σ H fr h Q r1 p)
abbrev RD := Cv Yj fun i j => if j > i then j else i
abbrev RG := Cv Yj fun i j => if j < i then j else i
theorem ae0 (C : Cq X T W k) (sa : cO X T W a ma) (sb : cO X T W b mb) (hm : X.mg "max" = none) (hg : Gl X "max" := by rfl) (he : starEach (a :: b :: []) X.env = (false, eval a X.env) :: starEach (b :: []) X.env := by exact uG rfl) (he2 : starEach (b :: []) X.env = (false, eval b X.env) :: starEach [] X.env := by exact uG rfl)
 (hpl : (backTo pos (starEach (b :: []) X.env)).any (·.1) = false := by rfl) : cO X T W (.Call (.Name "max" pf) [a, b] [] pos) (bf RD ma mb) :=
 ada (id := "max") sa sb (fun B w σ H fr h x y d e z Q R rx ry q kk => by
  unfold RD Cv at q
  split at q
  · cases q
    rw [vp rx, vp ry]
    exact yD (call_max2 C.calm) ⟨_, _, rfl, kk w H _ (Wd.le_refl _) R (.int _)⟩
  · cases q) hm hg (by decide +kernel) (by decide) (by decide) he he2 hpl
theorem ae1 (C : Cq X T W k) (sa : cO X T W a ma) (sb : cO X T W b mb) (hm : X.mg "min" = none) (hg : Gl X "min" := by rfl) (he : starEach (a :: b :: []) X.env = (false, eval a X.env) :: starEach (b :: []) X.env := by exact uG rfl) (he2 : starEach (b :: []) X.env = (false, eval b X.env) :: starEach [] X.env := by exact uG rfl)
 (hpl : (backTo pos (starEach (b :: []) X.env)).any (·.1) = false := by rfl) : cO X T W (.Call (.Name "min" pf) [a, b] [] pos) (bf RG ma mb) :=
 ada (id := "min") sa sb (fun B w σ H fr h x y d e z Q R rx ry q kk => by
  unfold RG Cv at q
  split at q
  · cases q
    rw [vp rx, vp ry]
    exact yD (call_min2 C.calm) ⟨_, _, rfl, kk w H _ (Wd.le_refl _) R (.int _)⟩
  · cases q) hm hg (by decide +kernel) (by decide) (by decide) he he2 hpl
end
end Pk
namespace Pk
open PySem PySem.Spec L2
def Bs.pr (B : Bs) (p : Addr) (o : HO) : Bs := ⟨B.w0, B.H0, (p, o) :: B.P, B.me⟩
section
variable {K : PySem.W.Frag} {T : Tb} {B : Bs} {w w' : Wd} {σ : L2.St} {H H' : Hp} {fr : Fr} {h : Hh} {p : Addr} {o : HO}
theorem Own.pr (O : Own B w p) {q : Addr} {u : HO} (hq : q ≠ p) : Own (B.pr q u) w p := ⟨O.f, O.i, O.e, fun z hz => by
 rcases List.mem_cons.mp hz with e | hz
 · rw [e]
   exact hq
 · exact O.p z hz⟩
theorem Own.unpr {q : Addr} {u : HO} (O : Own (B.pr q u) w p) : Own B w p := ⟨O.f, O.i, O.e, fun z hz => O.p z (ajf _ hz)⟩
theorem Rel.protect (R : Rel K T B w σ H fr h) (O : Own B w p) (lo : Fv σ fr p) (e : H p = some o) : Rel K T (B.pr p o) w σ H fr h :=
 { R with
   prot := fun q hq => by
    rcases List.mem_cons.mp hq with z | hq
    · rw [z]
      exact ⟨e, O.f, O.i⟩
    · exact R.prot q hq
   sl := fun i s d e1 e2 => by
    have z := R.sl i s d e1 e2
    cases z with
    | none => exact .none
    | val r => exact .val r
    | @own q u _ O' eH' rr =>
      have hne : p ≠ q := fun z => lo i ⟨by rw [z]; exact e1, _, e2, rr.own⟩
      exact .own (O'.pr hne) eH' rr }
theorem Rel.unprotect (R : Rel K T (B.pr p o) w σ H fr h) (e0 : B.H0 p = none) (hP : ∀ q ∈ B.P, q.1 ≠ p) : Rel K T B w σ H fr h ∧ Own B w p ∧ Fv σ fr p ∧ H p = some o := by
 obtain ⟨h1, h2, h3⟩ := R.prot (p, o) (ajb)
 refine ⟨{ R with prot := fun q hq => R.prot q (ajf _ hq), sl := fun i s d e1 e2 => ?_ }, ⟨h2, h3, e0, hP⟩, fun i ⟨q1, d, q2, od⟩ => ?_, h1⟩
 · have z := R.sl i s d e1 e2
   cases z with
   | none => exact .none
   | val r => exact .val r
   | own O' eH' rr => exact .own O'.unpr eH' rr
 · have z := R.sl i _ _ q1 q2
   cases z with
   | val r => exact Di od r
   | own O' eH' rr => exact O'.p (p, o) (ajb) rfl
theorem Rel.repr {o' : HO} (R : Rel K T (B.pr p o) w σ H fr h) (e0 : B.H0 p = none) (hP : ∀ q ∈ B.P, q.1 ≠ p) : Rel K T (B.pr p o') w σ (upd H p o') fr h := by
 obtain ⟨R1, O, lo, e⟩ := R.unprotect e0 hP
 refine Rel.protect { R1 with keep := fun a u ha hm => ?_, prot := fun q hq => ?_, sub := fun a u ha => ?_, cel := fun n a c q1 q2 => ?_, sl := fun j s dj q1 q2 => ?_ } O lo upd_same
 · rw [upd_ne (fun z => by rw [z, e0] at ha; cases ha)]
   exact R1.keep a u ha hm
 · obtain ⟨h1, h2, h3⟩ := R1.prot q hq
   exact ⟨by rw [upd_ne (hP q hq)]; exact h1, h2, h3⟩
 · rw [upd_ne (fun z => by rw [z, O.f] at ha; cases ha)]
   exact R1.sub a u ha
 · have hne : a ≠ p := fun z => O.i (by rw [← z]; exact ajj q1)
   exact Ms.keep (Wd.le_refl w) (upd_ne hne) (R1.cel n a c q1 q2)
 · have z := R1.sl j s dj q1 q2
   cases z with
   | none => exact .none
   | val r => exact .val r
   | @own q u _ O' eH' rr =>
     have hne : q ≠ p := fun z => lo j ⟨by rw [← z]; exact q1, _, q2, rr.own⟩
     exact .own O' (by rw [upd_ne hne]; exact eH') rr
end
def WG (X : Cx) (tg : Expr) : TG := fun v σ H Q => ∀ pins s u, Inv X pins σ H s → RelV v u → wpAny (model X.prog X.w) X.A (assign tg X.env u) (fun _ s' => ∃ σ' H', Inv X pins σ' H' s' ∧ Q σ' H') X.xe s
structure WI (X : Cx) (tg iter : Expr) (σ : L2.St) (H : Hp) (R : It → Hp → Prop) : Prop where
 go : ∀ pins s, Inv X pins σ H s → wpAny (model X.prog X.w) X.A (eval iter X.env) (fun v s1 => wpAny (model X.prog X.w) X.A (pyIter v) (PIE X pins σ tg R) X.xe s1) X.xe s
def UT (X : Cx) (ifs : List Expr) : TT := fun σ H Q => ∀ pins s, Inv X pins σ H s →
    wpAny (model X.prog X.w) X.A (forIn ifs true fun c r => if r = true then do let ok ← isTrue c X.env (eval c X.env); pure (ForInStep.yield ok) else pure (ForInStep.yield r)) (TP X pins σ Q) X.xe s
section
variable {X : Cx} {tg iter : Expr} {ifs : List Expr}
theorem Yw : PG X tg (WG X tg) := ⟨fun pins s σ H v u Q I r h => h pins s u I r⟩
theorem UV : PI X tg iter (WI X tg iter) := ⟨fun pins s σ H R I h => h.go pins s I⟩
theorem aeB {t : TG} (p : PG X tg t) {v : V} {σ : L2.St} {H : Hp} {Q : L2.St → Hp → Prop} (h : t v σ H Q) : WG X tg v σ H Q := fun pins s u I r => p.run pins s σ H v u Q I r h
theorem abe {t : TI} (p : PI X tg iter t) {σ : L2.St} {H : Hp} {R : It → Hp → Prop} (h : t σ H R) : WI X tg iter σ H R := ⟨fun pins s I => p.run pins s σ H R I h⟩
theorem aat {t : TT} (p : PTs X ifs t) {σ : L2.St} {H : Hp} {Q : Bool → Hp → Prop} (h : t σ H Q) : UT X ifs σ H Q := fun pins s I => p.run pins s σ H Q I h
end
inductive Hq (K : PySem.W.Frag) (T : Tb) (B : Bs) (σ : L2.St) (w : Wd) (H : Hp) (fr : Fr) : List V → List D → List Addr → Prop where
 | nil : Hq K T B σ w H fr [] [] []
 | val {v : V} {d : D} {vs : List V} {ds : List D} {ps : List Addr} : rC K T w v d → Hq K T B σ w H fr vs ds ps → Hq K T B σ w H fr (v :: vs) (d :: ds) ps
 | own {p : Addr} {o : HO} {d : D} {vs : List V} {ds : List D} {ps : List Addr} : Own B w p → Fv σ fr p → H p = some o → Bb K T w o d → p ∉ ps → Hq K T B σ w H fr vs ds ps → Hq K T B σ w H fr (.ref p :: vs) (d :: ds) (p :: ps)
def vEs : wI (List V) (List D) := fun K T B σ w H fr vs ds => ∃ ps, Hq K T B σ w H fr vs ds ps
abbrev X3 (X : Cx) (T : Tb) (W : WX) (es : List Expr) (m : M (List D)) : Prop := wF (WA X es) X.K T W vEs m
theorem Hq.unpr {K : PySem.W.Frag} {T : Tb} {B : Bs} {σ : L2.St} {w : Wd} {H : Hp} {fr : Fr} {p : Addr} {o : HO} {vs : List V} {ds : List D} {ps : List Addr} (x : Hq K T (B.pr p o) σ w H fr vs ds ps) : Hq K T B σ w H fr vs ds ps ∧ p ∉ ps := by
 induction x with
 | nil => exact ⟨.nil, by simp⟩
 | val r _ ih => exact ⟨.val r ih.1, ih.2⟩
 | @own q u d vs ds ps O lo e r nq _ ih =>
   refine ⟨.own O.unpr lo e r nq ih.1, fun z => ?_⟩
   rcases List.mem_cons.mp z with z | z
   · exact O.p (p, o) (ajb) z
   · exact ih.2 z
theorem Hq.length {K : PySem.W.Frag} {T : Tb} {B : Bs} {σ : L2.St} {w : Wd} {H : Hp} {fr : Fr} {vs : List V} {ds : List D} {ps : List Addr} (x : Hq K T B σ w H fr vs ds ps) : vs.length = ds.length := by
 induction x with
 | nil => rfl
 | val _ _ ih => exact congrArg Nat.succ ih
 | own _ _ _ _ _ _ ih => exact congrArg Nat.succ ih
theorem bu.pr {α β : Type} {K : PySem.W.Frag} {T : Tb} {B : Bs} {W : WX} {VR VR' : Wd → Hp → Fr → β → α → Prop} {w : Wd} {σ : L2.St} {p : Addr} {o : HO} {r : R α} {Q Q' : β → Hp → Prop} (e0 : B.H0 p = none) (hP : ∀ q ∈ B.P, q.1 ≠ p) (x : bu K T B W VR w σ r Q)
 (k : ∀ d fr h w' H' v, r = .ok d fr h → w.le w' → Rel K T (B.pr p o) w' σ H' fr h → VR' w' H' fr v d → (∀ w2 H2 v2, w.le w2 → Rel K T B w2 σ H2 fr h → VR w2 H2 fr v2 d → Q v2 H2) → Q' v H') : bu K T (B.pr p o) W VR' w σ r Q' := by
 cases r with
 | ok d fr h => exact fun w' H' v l R z => k d fr h w' H' v rfl l R z x
 | exc e fr h => exact fun w' H' c dd l R z => x w' H' c dd l (R.unprotect e0 hP).1 z
 | err => exact x
section
variable {X : Cx} {T : Tb} {W : WX} {e : Expr} {es : List Expr} {m : M D} {ms : List (M D)}
theorem aau : X3 X T W [] (aj []) := fun B w σ H fr h Q r1 p => Rx pa_nil (p w H _ (Wd.le_refl _) r1 ⟨[], .nil⟩)
theorem HF (s : zQ X T W e m) (t : X3 X T W es (aj ms)) (hs : starEach (e :: es) X.env = (false, eval e X.env) :: starEach es X.env := by exact uG rfl) : X3 X T W (e :: es) (aj (m :: ms)) := fun B w σ H fr h Q r1 p =>
 Rx (pa_cons mZ Ko hs) (s B w σ H fr h _ r1 (bu.bind (VR := vE X.K T B σ) p fun d fr1 h1 w1 H1 x e1 l1 r1 rx p1 => by
  rcases rx with rx | ⟨q, o, rfl, O, lo, eH, rd⟩
  · exact t B w1 σ H1 fr1 h1 _ r1 (bu.bind (VR := vEs X.K T B σ) p1 fun ds fr2 h2 w2 H2 vs e2 l2 r2 ⟨ps, rs⟩ p2 => p2 w2 H2 _ (Wd.le_refl _) r2 ⟨ps, .val (rx.mono l2) rs⟩)
  · refine t (B.pr q o) w1 σ H1 fr1 h1 _ (r1.protect O lo eH) ?_
    have p1' : bu X.K T B W (vEs X.K T B σ) w1 σ ((aj ms).bind (fun ds => M.ret (d :: ds)) fr1 h1) Q := p1
    cases e2 : aj ms fr1 h1 with
    | ok ds fr2 h2 =>
      rw [M.bind_ok e2] at p1'
      intro w2 H2 vs l2 r2 ⟨ps, rs⟩
      obtain ⟨r3, O3, lo3, eH3⟩ := r2.unprotect O.e O.p
      obtain ⟨rs', np⟩ := rs.unpr
      exact p1' w2 H2 (.ref q :: vs) l2 r3 ⟨q :: ps, .own O3 lo3 eH3 (rd.mono l2) np rs'⟩
    | exc y fr2 h2 =>
      rw [M.bind_exc e2] at p1'
      exact fun w' H' c dd l R z => p1' w' H' c dd l (R.unprotect O.e O.p).1 z
    | err =>
      rw [M.bind_err e2] at p1'
      exact p1'))
end
def RJ (is : List Nat) (σ' σ : L2.St) : Prop := σ'.length = σ.length ∧ ∀ j : Nat, j ∉ is → σ'[j]? = σ[j]?
def Mv (X : Cx) (T : Tb) (is : List Nat) (tg : Expr) (mg : D → M Unit) : Prop := ∀ B w σ H fr h x d (Q : L2.St → Hp → Prop), Rel X.K T B w σ H fr h → rC X.K T w x d →
 (match mg d fr h with
  | .ok _ fr' h' => ∀ w' σ' H', w.le w' → Rel X.K T B w' σ' H' fr' h' → RJ is σ' σ → Q σ' H'
  | _ => False) → WG X tg x σ H Q
def X4 (X : Cx) (T : Tb) (is : List Nat) (tgs : List Expr) (mg : List D → M Unit) : Prop := ∃ t, PGs X tgs t ∧ ∀ B w σ H fr h xs ds (Q : L2.St → Hp → Prop), Rel X.K T B w σ H fr h → aO X.K T w xs ds →
 (match mg ds fr h with
  | .ok _ fr' h' => ∀ w' σ' H', w.le w' → Rel X.K T B w' σ' H' fr' h' → RJ is σ' σ → Q σ' H'
  | _ => False) → t xs σ H Q
def wg (i : Nat) (d : D) : M Unit := fun fr h => .ok () (fr.set i (some d)) h
def Oc : List D → M Unit
 | [] => M.ret ()
 | _ => M.opt none
def BX (g : D → M Unit) (gs : List D → M Unit) : List D → M Unit
 | [] => M.opt none
 | d :: ds => (g d).bind fun _ => gs ds
def Ly (n : Nat) (gs : List D → M Unit) (d : D) : M Unit := match d with
 | .tup l => if l.length = n then gs l else M.opt none
 | _ => M.opt none
section
variable {X : Cx} {T : Tb} {W : WX} {k : Nat} {pos : Pos} {tg : Expr} {tgs : List Expr} {g : D → M Unit} {gs : List D → M Unit} {is js : List Nat}
theorem xO (C : Cq X T W k) (i : Nat) {x : Str} (hi : X.N[i]? = some x := by rfl) (hx : Loc X.env.scope x := by first | exact Or.inl rfl | exact Or.inr rfl) (hf : X.fn x = true ∨ X.env.scope.names.lookup x = some .local := by first | exact .inl rfl | exact .inr rfl) :
 Mv X T [i] (.Name x pos) (wg i) := fun B w σ H fr h v d Q R rd p => aeB (pg_name C.nd hi hx hf) (p w _ H (Wd.le_refl _) (R.set_slot (.val rd) (fun _ _ _ e od => by
 cases e
 exact (Di od rd).elim) fun _ _ e => by
 cases e
 exact N6 rd) ⟨aji, fun j hj => by
  rw [ajg]
  intro e
  exact hj (by simp [e])⟩)
theorem aav : X4 X T [] [] Oc := ⟨_, pgs_nil, fun B w σ H fr h vs ds Q R rd p => by
 cases rd with
 | nil => exact ⟨rfl, p w σ H (Wd.le_refl _) R ⟨rfl, fun _ _ => rfl⟩⟩
 | cons _ _ => exact p.elim⟩
theorem Od (s : Mv X T is tg g) (t : X4 X T js tgs gs) (hs : (assignEach (tg :: tgs) X.env).map (·.2) = assign tg X.env :: (assignEach tgs X.env).map (·.2) := by rfl) : X4 X T (is ++ js) (tg :: tgs) (BX g gs) := by
 obtain ⟨u, pu, t⟩ := t
 refine ⟨_, pgs_cons Yw pu hs, fun B w σ H fr h vs ds Q R rd p => ?_⟩
 cases rd with
 | nil => exact p.elim
 | @cons v d vr dr r rr =>
   refine ⟨v, vr, rfl, s B w σ H fr h v d _ R r ?_⟩
   have p' : (match (g d).bind (fun _ => gs dr) fr h with
    | .ok _ fr' h' => ∀ w' σ' H', w.le w' → Rel X.K T B w' σ' H' fr' h' → RJ (is ++ js) σ' σ → Q σ' H'
    | _ => False) := p
   cases e : g d fr h with
   | ok _ fr1 h1 =>
     rw [M.bind_ok e] at p'
     intro w1 σ1 H1 l1 R1 k1
     refine t B w1 σ1 H1 fr1 h1 vr dr Q R1 (rr.mono l1) ?_
     cases e2 : gs dr fr1 h1 with
     | ok _ fr2 h2 =>
       rw [e2] at p'
       exact fun w2 σ2 H2 l2 R2 k2 => p' w2 σ2 H2 (Wd.le_trans l1 l2) R2 ⟨k2.1.trans k1.1, fun j hj => by
        rw [List.mem_append, not_or] at hj
        rw [k2.2 j hj.2, k1.2 j hj.1]⟩
     | exc _ _ _ => rw [e2] at p'; exact p'
     | err => rw [e2] at p'; exact p'
   | exc y fr1 h1 =>
     rw [M.bind_exc e] at p'
     exact p'.elim
   | err =>
     rw [M.bind_err e] at p'
     exact p'.elim
theorem acq (C : Cq X T W k) {kk : Nat} {n : Nat} (t : X4 X T is tgs gs) (hn : (assignEach tgs X.env).length = n := by rfl) (hst : (assignEach tgs X.env).findIdx? (·.1) = none := by rfl) : Mv X T is (.Tuple tgs kk pos) (Ly n gs) := by
 obtain ⟨u, pu, t⟩ := t
 refine fun B w σ H fr h x d Q R rd p => aeB (pg_tup C.calm pu hn hst) ?_
 cases d with
 | tup l =>
   have p' : (match (if l.length = n then gs l else M.opt none) fr h with
    | .ok _ fr' h' => ∀ w' σ' H', w.le w' → Rel X.K T B w' σ' H' fr' h' → RJ is σ' σ → Q σ' H'
    | _ => False) := p
   by_cases hl : l.length = n
   · rw [if_pos hl] at p'
     obtain ⟨a, vs, rfl, sq, rl⟩ := J8 rd
     exact ⟨a, vs, rfl, wM R.sub sq, rl.length.trans hl, t B w σ H fr h vs l Q R rl p'⟩
   · rw [if_neg hl] at p'
     exact p'.elim
 | _ => exact (show False from p).elim
def Dk : List Nat → List D → Fr → Option Fr
 | [], [], fr => some fr
 | i :: is, d :: ds, fr => Dk is ds (fr.set i (some d))
 | _, _, _ => none
theorem Rel.putV {K : PySem.W.Frag} {B : Bs} {w : Wd} {σ : L2.St} {H : Hp} {fr : Fr} {h : Hh} {v : V} {d : D} (R : Rel K T B w σ H fr h) (i : Nat) (r : rC K T w v d) : Rel K T B w (σ.set i (some v)) H (fr.set i (some d)) h :=
 R.set_slot (.val r) (fun _ _ _ e od => by
  cases e
  exact (Di od r).elim) fun _ _ e => by
  cases e
  exact N6 r
theorem Rel.put {K : PySem.W.Frag} {B : Bs} {w : Wd} {σ : L2.St} {H : Hp} {fr : Fr} {h : Hh} {v : V} {d : D} (R : Rel K T B w σ H fr h) (i : Nat) (hi : i ≠ 0) (x : vE K T B σ w H fr v d) : Rel K T B w (σ.set i (some v)) H (fr.set i (some d)) h := by
 rcases x with r | ⟨p, o, rfl, O, lo, e, r⟩
 · exact R.putV i r
 · exact R.set_slot (.own O e r) (fun q d' e1 e2 od => by
    cases e1
    cases e2
    exact lo) fun z => (hi z).elim
theorem acr {σ : L2.St} {fr : Fr} {i : Nat} {v : V} {d : D} {p : Addr} (lo : Fv σ fr p) (hv : d.own = true → v ≠ .ref p) : Fv (σ.set i (some v)) (fr.set i (some d)) p := fun j z => by
 obtain ⟨e1, dd, e2, od⟩ := z
 by_cases hj : i = j
 · subst hj
   have l1 : i < σ.length := by
    have := (List.getElem?_eq_some_iff.mp e1).1
    rwa [aji] at this
   have l2 : i < fr.length := by
    have := (List.getElem?_eq_some_iff.mp e2).1
    rwa [aji] at this
   rw [ajh l1] at e1
   rw [ajh l2] at e2
   cases e1
   cases e2
   exact hv od rfl
 · rw [ajg hj] at e1 e2
   exact lo j ⟨e1, dd, e2, od⟩
theorem Hq.set {K : PySem.W.Frag} {B : Bs} {w : Wd} {σ : L2.St} {H : Hp} {fr : Fr} {vs : List V} {ds : List D} {ps : List Addr} {i : Nat} {v : V} {d : D} (x : Hq K T B σ w H fr vs ds ps) (hv : ∀ p ∈ ps, d.own = true → v ≠ .ref p) :
 Hq K T B (σ.set i (some v)) w H (fr.set i (some d)) vs ds ps := by
 induction x with
 | nil => exact .nil
 | val r _ ih => exact .val r (ih hv)
 | own O lo e r nq _ ih => exact .own O (acr lo (hv _ (ajb))) e r nq (ih fun q hq => hv q (ajf _ hq))
def X5 (X : Cx) (T : Tb) (is : List Nat) (tgs : List Expr) : Prop := ∃ t, PGs X tgs t ∧ ∀ B w σ H fr fr' h xs ds ps (Q : L2.St → Hp → Prop), Rel X.K T B w σ H fr h → Hq X.K T B σ w H fr xs ds ps → Dk is ds fr = some fr' →
 (∀ σ', Rel X.K T B w σ' H fr' h → Q σ' H) → t xs σ H Q
theorem aaw : X5 X T [] [] := ⟨_, pgs_nil, fun B w σ H fr fr' h xs ds ps Q R rs e q => by
 cases rs with
 | nil =>
   cases e
   exact ⟨rfl, q σ R⟩
 | val _ _ => cases e
 | own _ _ _ _ _ _ => cases e⟩
theorem HH (C : Cq X T W k) (i : Nat) {x : Str} (t : X5 X T is tgs) (hs : (assignEach (.Name x pos :: tgs) X.env).map (·.2) = assign (.Name x pos) X.env :: (assignEach tgs X.env).map (·.2) := by rfl)
 (hi : X.N[i]? = some x := by rfl) (hx : Loc X.env.scope x := by first | exact Or.inl rfl | exact Or.inr rfl) (hf : X.fn x = true ∨ X.env.scope.names.lookup x = some .local := by first | exact .inl rfl | exact .inr rfl) (h0 : i ≠ 0 := by decide) : X5 X T (i :: is) (.Name x pos :: tgs) := by
 obtain ⟨u, pu, t⟩ := t
 refine ⟨_, pgs_cons (pg_name C.nd hi hx hf) pu hs, fun B w σ H fr fr' h xs ds ps Q R rs e q => ?_⟩
 cases rs with
 | nil => cases e
 | val r rr => exact ⟨_, _, rfl, t B w _ H _ fr' h _ _ _ Q (R.put i h0 (.inl r)) (rr.set fun p _ od => (Di od r).elim) e q⟩
 | own O lo eH r nq rr => exact ⟨_, _, rfl, t B w _ H _ fr' h _ _ _ Q (R.put i h0 (.inr ⟨_, _, rfl, O, lo, eH, r⟩)) (rr.set fun p hp _ z => by
  cases z
  exact nq hp) e q⟩
end
def vJ : wI It (List D) := fun K T _ _ w _ _ J ds => ∀ i w1 H1, w.le w1 → (∀ a o, w1.F a = some o → H1 a = some o) →
 (ds.length ≤ i → J.stop i H1) ∧ ∀ d, ds[i]? = some d → J.go i H1 ∧ ∀ x H2, J.yld i H1 x H2 → ∀ B σ fr h, Rel K T B w1 σ H1 fr h → ∃ w2, w1.le w2 ∧ Rel K T B w2 σ H2 fr h ∧ rC K T w2 x d
abbrev Wc (X : Cx) (T : Tb) (W : WX) (tg iter : Expr) (m : M (List D)) : Prop := wF (WI X tg iter) X.K T W vJ m
section
variable {X : Cx} {T : Tb} {W : WX} {k : Nat} {pos p pf tpos : Pos} {tg e a b : Expr} {m ma mb : M D}
def Jo (m : M D) : M (List D) := m.bind fun d => M.opt (d.its [])
theorem ae2 {K : PySem.W.Frag} {w : Wd} {v : V} {d : D} {l : List D} (r : rC K T w v d) (e : d.its [] = some l) : ∃ p vs, v = .ref p ∧ aO K T w vs l ∧ (SqT K w.F p vs ∨ SqL K w.F p vs) := by
 cases r with
 | tup s r =>
   have e' : some _ = some l := e
   cases e'
   exact ⟨_, _, rfl, r, .inl s⟩
 | fl s r =>
   have e' : some _ = some l := e
   cases e'
   exact ⟨_, _, rfl, r, .inr (SqL.of s)⟩
 | kl s r =>
   have e' : some _ = some l := e
   cases e'
   exact ⟨_, _, rfl, r, .inr s⟩
 | ref s => cases e
 | _ => cases e
def ahE (K : PySem.W.Frag) (tl : TE) : TI := fun σ H R => tl σ H fun x H1 => ∃ a, x = .ref a ∧ (((∃ xs, SqT K H1 a xs) ∧ R (Itt K a) H1) ∨ ((∃ xs, SqL K H1 a xs) ∧ R (Itl K a) H1))
open PyProof.Rows in
theorem acs {l : Expr} {tl : TE} (hl : PE X l tl) : PI X tg l (ahE X.K tl) := by
 refine ⟨fun pins s σ H R I h => ?_⟩
 refine thn (hl.run pins s σ H _ I h) fun v s1 ⟨x, H1, I1, r1, q1⟩ => ?_
 obtain ⟨a, e, ⟨⟨xs, hq⟩, q⟩ | ⟨⟨xs, hq⟩, q⟩⟩ := q1
 · subst e
   cases r1
   obtain ⟨its, rv, p, hz⟩ := I1.tuple hq
   refine wpAny_pyIter_tuple (show s1.heap.IsTuple a its.toArray from p) ?_
   refine ⟨s1.heap.objs.size, [s1.heap.objs.size], _, _, H1, rfl, I1.kept (t' := s1.toks) fun b o e => Heap.get?_push_of_some _ e, turn_tuple a _, ⟨_, Heap.get?_push_size _ rfl, rfl, rfl⟩, fun b hb => ?_, q⟩
   have e : b = s1.heap.objs.size := by simpa using hb
   subst e
   exact I1.fpOk (Nat.le_refl _) (I1.hok.fresh (Nat.le_refl _))
 · subst e
   cases r1
   obtain ⟨its, rv, p, hz⟩ := I1.list hq
   refine wpAny_pyIter_list p.isList ?_
   refine ⟨s1.heap.objs.size, [s1.heap.objs.size], _, _, H1, rfl, I1.kept (t' := s1.toks) fun b o e => Heap.get?_push_of_some _ e, turn_list a _, ⟨_, Heap.get?_push_size _ rfl, rfl, rfl⟩, fun b hb => ?_, q⟩
   have e : b = s1.heap.objs.size := by simpa using hb
   subst e
   exact I1.fpOk (Nat.le_refl _) (I1.hok.fresh (Nat.le_refl _))
theorem af7 {K : PySem.W.Frag} {B : Bs} {σ : L2.St} {w : Wd} {H : Hp} {fr : Fr} {a : Addr} {vs : List V} {l : List D} (sq : SqT K w.F a vs) (rl : aO K T w vs l) : vJ K T B σ w H fr (Itt K a) l := fun i w2 H2 l2 hs => ⟨fun hi => ⟨vs, wM hs (wM l2.1 sq), by rw [rl.length]; exact hi⟩, fun d' hd => by
 obtain ⟨v, hv, rv⟩ := rl.get hd
 refine ⟨⟨vs, v, wM hs (wM l2.1 sq), hv⟩, fun y H3 hy B' σ' fr' h' R' => ?_⟩
 obtain ⟨rfl, hy⟩ := hy
 have z := hy vs (wM hs (wM l2.1 sq))
 rw [hv] at z
 cases z
 exact ⟨w2, Wd.le_refl _, R', rv.mono l2⟩⟩
theorem af8 {K : PySem.W.Frag} {B : Bs} {σ : L2.St} {w : Wd} {H : Hp} {fr : Fr} {a : Addr} {vs : List V} {l : List D} (sq : SqL K w.F a vs) (rl : aO K T w vs l) : vJ K T B σ w H fr (Itl K a) l := fun i w2 H2 l2 hs => ⟨fun hi => ⟨vs, Ba hs (Ba l2.1 sq), by rw [rl.length]; exact hi⟩, fun d' hd => by
 obtain ⟨v, hv, rv⟩ := rl.get hd
 refine ⟨⟨vs, v, Ba hs (Ba l2.1 sq), hv⟩, fun y H3 hy B' σ' fr' h' R' => ?_⟩
 obtain ⟨rfl, hy⟩ := hy
 have z := hy vs (Ba hs (Ba l2.1 sq))
 rw [hv] at z
 cases z
 exact ⟨w2, Wd.le_refl _, R', rv.mono l2⟩⟩
theorem Nm (s : cO X T W e m) : Wc X T W tg e (Jo m) := fun B w σ H fr h Q r p => abe (acs mZ) (s B w σ H fr h _ r (bu.bind (VR := vV X.K T B σ) p fun d fr1 h1 w1 H1 x e1 l1 r1 rx p1 => by
 cases q : d.its [] with
 | none => rw [q] at p1; exact p1.elim
 | some l =>
   rw [q] at p1
   obtain ⟨a, vs, rfl, rl, sq⟩ := ae2 rx q
   refine ⟨a, rfl, ?_⟩
   rcases sq with sq | sq
   · exact .inl ⟨⟨vs, wM r1.sub sq⟩, p1 w1 H1 (Itt X.K a) (Wd.le_refl _) r1 (af7 sq rl)⟩
   · exact .inr ⟨⟨vs, Ba r1.sub sq⟩, p1 w1 H1 (Itl X.K a) (Wd.le_refl _) r1 (af8 sq rl)⟩))
def Kv (lo : Int) (n : Nat) : List D := (List.range n).map fun (i : Nat) => D.int (lo + (i : Int))
def Tw (i : Int) : Bool := decide (-(2 ^ 62) ≤ i) && decide (i < 2 ^ 62)
theorem af9 {i : Int} (h : Tw i = true) : -(2 ^ 62) ≤ i ∧ i < 2 ^ 62 := by
 obtain ⟨h1, h2⟩ := Bool.and_eq_true_iff.mp h
 exact ⟨of_decide_eq_true h1, of_decide_eq_true h2⟩
def Jc (m : M D) : M (List D) := m.bind fun d => M.opt (match d with
 | .int j => if Tw j then some (Kv 0 j.toNat) else none
 | _ => none)
def abf (ma mb : M D) : M (List D) := ma.bind fun x => mb.bind fun y => M.opt (match x, y with
 | .int i, .int j => if Tw i && Tw j then some (Kv i (j - i).toNat) else none
 | _, _ => none)
theorem aga {K : PySem.W.Frag} {B : Bs} {σ : L2.St} {w : Wd} {H : Hp} {fr : Fr} (lo : Int) (n : Nat) : vJ K T B σ w H fr (Itr lo n) (Kv lo n) := fun i w2 H2 l2 hs => ⟨fun hi => by
 have hi' : (Kv lo n).length ≤ i := hi
 unfold Kv at hi'
 rw [aje, List.length_range] at hi'
 exact hi', fun d' hd => by
 unfold Kv at hd
 rw [ajm] at hd
 obtain ⟨j, hj, rfl⟩ := Option.map_eq_some_iff.mp hd
 obtain ⟨hl, ej⟩ := List.getElem?_eq_some_iff.mp hj
 rw [List.length_range] at hl
 rw [List.getElem_range] at ej
 subst ej
 refine ⟨hl, fun y H3 hy B' σ' fr' h' R' => ?_⟩
 obtain ⟨rfl, rfl⟩ := hy
 exact ⟨w2, Wd.le_refl _, R', .int _⟩⟩
theorem aax (s : cO X T W a ma) (hm : X.mg "range" = none) (hg : Gl X "range" := by rfl) (hs : starEach [a] X.env = [(false, eval a X.env)] := by rfl) : Wc X T W tg (.Call (.Name "range" p) [a] [] pos) (Jc ma) := fun B w σ H fr h Q r p =>
 abe (pi_range1 hg hm (pa_cons mZ pa_nil (hs.trans (by rfl))) hs) (s B w σ H fr h _ r (bu.bind (VR := vV X.K T B σ) p fun d fr1 h1 w1 H1 x e1 l1 r1 rx p1 => by
  cases rx with
  | int j =>
    dsimp only at p1
    cases hj : Tw j with
    | false => rw [hj] at p1; exact (show False from p1).elim
    | true =>
      rw [hj] at p1
      obtain ⟨h1', h2'⟩ := af9 hj
      exact ⟨j, rfl, h1', h2', p1 w1 H1 (Itr 0 j.toNat) (Wd.le_refl _) r1 (aga 0 _)⟩
  | _ => exact (show False from p1).elim))
end
end Pk
namespace Pk
open PySem PySem.Spec L2
inductive Fl where
 | nx | brk | ct | rt (d : D)
def tW (K : PySem.W.Frag) (T : Tb) (B : Bs) (W : WX) (w : Wd) (r : R Fl) (D : Ends) : Prop :=
 match r with
 | .ok .nx fr h => ∀ w' σ' H', w.le w' → Rel K T B w' σ' H' fr h → D.nx σ' H'
 | .ok .brk fr h => ∀ w' σ' H', w.le w' → Rel K T B w' σ' H' fr h → D.bk σ' H'
 | .ok .ct fr h => ∀ w' σ' H', w.le w' → Rel K T B w' σ' H' fr h → D.ct σ' H'
 | .ok (.rt d) fr h => ∀ w' σ' H' v, w.le w' → Rel K T B w' σ' H' fr h → vE K T B σ' w' H' fr v d → D.rt v H'
 | .exc x fr h => ∀ w' σ' H' cls dd, w.le w' → Rel K T B w' σ' H' fr h → VP K T w' x cls dd → W cls dd σ' H'
 | .err => False
def Bc (X : Cx) (T : Tb) (W : WX) (st : Stmt) (m : M Fl) : Prop := ∀ (B : Bs) (w : Wd) (σ : L2.St) (H : Hp) (fr : Fr) (h : Hh) (D : Ends), Rel X.K T B w σ H fr h → tW X.K T B W w (m fr h) D → WS X st D σ H
def GZ (X : Cx) (T : Tb) (W : WX) (sts : List Stmt) (m : M Fl) : Prop := ∀ (B : Bs) (w : Wd) (σ : L2.St) (H : Hp) (fr : Fr) (h : Hh) (D : Ends), Rel X.K T B w σ H fr h → tW X.K T B W w (m fr h) D → Yh X sts D σ H
section
variable {K : PySem.W.Frag} {T : Tb} {B : Bs} {W : WX} {w w' : Wd} {σ : L2.St} {H : Hp}
theorem tW.le {r : R Fl} {D : Ends} (x : w.le w') (p : tW K T B W w r D) : tW K T B W w' r D := by
 cases r with
 | ok f fr h =>
   cases f with
   | rt d => exact fun w2 σ2 H2 v y => p w2 σ2 H2 v (Wd.le_trans x y)
   | _ => exact fun w2 σ2 H2 y => p w2 σ2 H2 (Wd.le_trans x y)
 | exc e fr h => exact fun w2 σ2 H2 c d y => p w2 σ2 H2 c d (Wd.le_trans x y)
 | err => exact p
theorem tW.bind {α β : Type} {VR : Wd → Hp → Fr → β → α → Prop} {m : M α} {f : α → M Fl} {fr : Fr} {h : Hh} {D : Ends} {Q : β → Hp → Prop} (p : tW K T B W w (m.bind f fr h) D)
 (k : ∀ d fr1 h1 w1 H1 v, m fr h = .ok d fr1 h1 → w.le w1 → Rel K T B w1 σ H1 fr1 h1 → VR w1 H1 fr1 v d → tW K T B W w1 (f d fr1 h1) D → Q v H1) : bu K T B W VR w σ (m fr h) Q := by
 cases e : m fr h with
 | ok d fr1 h1 =>
   rw [M.bind_ok e] at p
   exact fun w1 H1 v x r z => k d fr1 h1 w1 H1 v e x r z (p.le x)
 | exc y fr1 h1 =>
   rw [M.bind_exc e] at p
   exact fun w1 H1 c dd x r z => p w1 σ H1 c dd x r z
 | err =>
   rw [M.bind_err e] at p
   exact p
end
def aC (m n : M Fl) : M Fl := m.bind fun f => match f with
 | .nx => n
 | f => M.ret f
def tO (t : M Bool) (m n : M Fl) : M Fl := t.bind fun b => if b then m else n
def su {α : Type} (m : M α) : M Fl := m.bind fun _ => M.ret .nx
def gK (m : M D) : M Fl := m.bind fun d => M.ret (.rt d)
def cP (i : Nat) (m : M D) : M Fl := m.bind fun d fr h => .ok .nx (fr.set i (some d)) h
def Qm (m : M D) (g : D → M Unit) : M Fl := m.bind fun d fr h => match g d fr h with
 | .ok _ fr h => .ok .nx fr h
 | _ => .err
def Oe (is : List Nat) (m : M (List D)) : M Fl := m.bind fun ds fr h => match Dk is ds fr with
 | some fr' => if ds.length ≤ big then .ok .nx fr' h else .err
 | none => .err
section
variable {X : Cx} {T : Tb} {W : WX} {k : Nat} {pos pos' p2 : Pos} {e a b c : Expr} {st : Stmt} {sts as bs : List Stmt} {m : M D} {s n : M Fl} {t : M Bool} {es : List Expr}
theorem uF : GZ X T W [] (M.ret .nx) := fun B w σ H fr h D R p => V1 pss_nil (p w σ H (Wd.le_refl _) R)
theorem aD (s1 : Bc X T W st s) (s2 : GZ X T W sts n) : GZ X T W (st :: sts) (aC s n) := fun B w σ H fr h D R p =>
 V1 (pss_cons aca Dj) (s1 B w σ H fr h _ R (by
  unfold aC at p
  cases e : s fr h with
  | ok f fr1 h1 =>
    rw [M.bind_ok e] at p
    cases f with
    | nx => exact fun w1 σ1 H1 l R1 => s2 B w1 σ1 H1 fr1 h1 D R1 (p.le l)
    | _ => exact p
  | exc y fr1 h1 => rw [M.bind_exc e] at p; exact p
  | err => rw [M.bind_err e] at p; exact p))
theorem cH (s1 : Bc X T W st s) : GZ X T W [st] s := fun B w σ H fr h D R p => V1 (pss_one aca) (s1 B w σ H fr h _ R p)
theorem agb : Bc X T W (.Continue pos) (M.ret .ct) := fun B w σ H fr h D R p => Ak ps_continue (p w σ H (Wd.le_refl _) R)
theorem vC {VR : wI V D} (s : wF (WE X e) X.K T W VR m) (hs : swapsWith e none pos.line X.env = pure false := by rfl) : Bc X T W (.Expr e pos) (su m) := fun B w σ H fr h D R p =>
 Ak (ps_expr mZ hs) (s B w σ H fr h _ R (tW.bind (VR := VR X.K T B σ) p fun d fr1 h1 w1 H1 v e1 l1 r1 rx p1 => p1 w1 σ H1 (Wd.le_refl _) r1))
theorem s_ret (s : zQ X T W e m) : Bc X T W (.Return (some e) pos) (gK m) := fun B w σ H fr h D R p =>
 Ak (ps_ret mZ) (s B w σ H fr h _ R (tW.bind (VR := vE X.K T B σ) p fun d fr1 h1 w1 H1 v e1 l1 r1 rx p1 => p1 w1 σ H1 v (Wd.le_refl _) r1 rx))
theorem uO (st : Gh X T W c t) (sa : GZ X T W as s) (sb : GZ X T W bs n) : Bc X T W (.If c as bs pos) (tO t s n) := fun B w σ H fr h D R p =>
 Ak (ps_if GJ Dj Dj) (st B w σ H fr h _ R (tW.bind (VR := vB X.K T B σ) p fun d fr1 h1 w1 H1 x e1 l1 r1 rx p1 => by
  have rx' : x = d := rx
  subst rx'
  cases x with
  | true => exact sa B w1 σ H1 fr1 h1 D r1 p1
  | false => exact sb B w1 σ H1 fr1 h1 D r1 p1))
theorem ae3 : Bc X T W st (fun _ _ => .err) := fun B w σ H fr h D R p => p.elim
theorem vz (C : Cq X T W k) (i : Nat) {x : Str} (s : zQ X T W e m) (hs : swapsWith e (some (.Name x pos')) pos.line X.env = pure false := by rfl) (hi : X.N[i]? = some x := by rfl) (hx : Loc X.env.scope x := by first | exact Or.inl rfl | exact Or.inr rfl)
 (hf : X.fn x = true ∨ X.env.scope.names.lookup x = some .local := by first | exact .inl rfl | exact .inr rfl) (h0 : i ≠ 0 := by decide) : Bc X T W (.Assign [.Name x pos'] e pos) (cP i m) := fun B w σ H fr h D R p =>
 Ak (ps_set C.nd hi hx mZ hs hf) (s B w σ H fr h _ R (tW.bind (VR := vE X.K T B σ) p fun d fr1 h1 w1 H1 v e1 l1 r1 rx p1 => p1 w1 _ H1 (Wd.le_refl _) (r1.put i h0 rx)))
theorem v4 (C : Cq X T W k) (i : Nat) {x : Str} (s : cO X T W e m) (hs : swapsWith e (some (.Name x pos')) pos.line X.env = pure false := by rfl) (hi : X.N[i]? = some x := by rfl) (hx : Loc X.env.scope x := by first | exact Or.inl rfl | exact Or.inr rfl)
 (hf : X.fn x = true ∨ X.env.scope.names.lookup x = some .local := by first | exact .inl rfl | exact .inr rfl) : Bc X T W (.Assign [.Name x pos'] e pos) (cP i m) := fun B w σ H fr h D R p =>
 Ak (ps_set C.nd hi hx mZ hs hf) (s B w σ H fr h _ R (tW.bind (VR := vV X.K T B σ) p fun d fr1 h1 w1 H1 v e1 l1 r1 rx p1 => p1 w1 _ H1 (Wd.le_refl _) (r1.putV i rx)))
theorem s_asg {tg : Expr} {is : List Nat} {g : D → M Unit} (s : cO X T W e m) (sg : Mv X T is tg g) (hs : swapsWithSole [tg] e pos.line X.env = pure false := by rfl) (hw : swappedStores [tg] e X.env = pure none := by rfl)
 (h1 : (assignEach [tg] X.env).map (·.2) = [assign tg X.env] := by rfl) : Bc X T W (.Assign [tg] e pos) (Qm m g) := fun B w σ H fr h D R p =>
 Ak (ps_asg mZ Yw hs hw h1) (s B w σ H fr h _ R (tW.bind (VR := vV X.K T B σ) p fun d fr1 h1 w1 H1 v e1 l1 r1 rx p1 => sg B w1 σ H1 fr1 h1 v d _ r1 rx (by
  cases e2 : g d fr1 h1 with
  | ok u fr2 h2 =>
    rw [e2] at p1
    exact fun w2 σ2 H2 l2 r2 _ => p1 w2 σ2 H2 l2 r2
  | exc y fr2 h2 =>
    rw [e2] at p1
    exact p1.elim
  | err =>
    rw [e2] at p1
    exact p1.elim)))
theorem Hq.temp {K : PySem.W.Frag} {B : Bs} {σ : L2.St} {w : Wd} {H : Hp} {fr : Fr} {vs : List V} {ds : List D} {ps : List Addr} {p : Addr} {o : HO} (x : Hq K T B σ w H fr vs ds ps) (np : H p = none) : Hq K T B σ w (upd H p o) fr vs ds ps := by
 induction x with
 | nil => exact .nil
 | val r _ ih => exact .val r ih
 | own O lo e r nq _ ih => exact .own O lo (by rw [upd_ne (ne_of_none e np)]; exact e) r nq ih
theorem Yx : ∀ (is : List Nat) (ds : List D) (fr fr' : Fr), Dk is ds fr = some fr' → ds.length = is.length
 | [], [], _, _, _ => rfl
 | [], _ :: _, _, _, q => by cases q
 | _ :: _, [], _, _, q => by cases q
 | _ :: is, _ :: ds, _, fr', q => congrArg Nat.succ (Yx is ds _ fr' q)
theorem acu (C : Cq X T W k) {tgs : List Expr} {is : List Nat} {kk x1 : Nat} {n : Nat} {ms : M (List D)} (se : X3 X T W es ms) (g : X5 X T is tgs) (hn : (assignEach tgs X.env).length = n := by rfl) (hl : is.length = n := by rfl) (hst : (assignEach tgs X.env).findIdx? (·.1) = none := by rfl)
 (hs : swapsWithSole [.Tuple tgs kk pos'] (.Tuple es x1 p2) pos.line X.env = pure false := by rfl) (hw : swappedStores [.Tuple tgs kk pos'] (.Tuple es x1 p2) X.env = pure none := by rfl)
 (h1 : (assignEach [.Tuple tgs kk pos'] X.env).map (·.2) = [assign (.Tuple tgs kk pos') X.env] := by rfl) : Bc X T W (.Assign [.Tuple tgs kk pos'] (.Tuple es x1 p2) pos) (Oe is ms) := by
 obtain ⟨u, pu, g⟩ := g
 refine fun B w σ H fr h D R p => Ak (ps_asg (pe_tup Ko) (pg_tup C.calm pu hn hst) hs hw h1) (se B w σ H fr h _ R (tW.bind (VR := vEs X.K T B σ) p fun ds fr1 h1 w1 H1 vs e1 l1 r1 ⟨ps, rs⟩ p1 => ?_))
 cases q : Dk is ds fr1 with
 | none => rw [q] at p1; exact p1.elim
 | some fr' =>
   rw [q] at p1
   dsimp only at p1
   by_cases hb : ds.length ≤ big
   · rw [if_pos hb] at p1
     refine ⟨by rw [rs.length]; exact xN hb, fun a na => ⟨a, vs, rfl, SqT.of upd_same, ?_, ?_⟩⟩
     · rw [rs.length, Yx _ _ _ _ q, hl]
     · exact g B w1 σ (upd H1 a (.tup vs)) fr1 fr' h1 vs ds ps _ (r1.temp na) (rs.temp na) q fun σ' R' => p1 w1 σ' _ (Wd.le_refl _) R'
   · rw [if_neg hb] at p1
     exact p1.elim
end
end Pk
namespace Pk
open PySem PySem.Spec L2
def Es (g : D → M Unit) (b : M Fl) : List D → M Fl
 | [] => M.ret .nx
 | d :: ds => fun fr h => match g d fr h with
   | .ok _ fr h => match b fr h with
     | .ok .nx fr h => Es g b ds fr h
     | .ok .ct fr h => Es g b ds fr h
     | .ok .brk fr h => .ok .nx fr h
     | .ok (.rt d) fr h => .ok (.rt d) fr h
     | .exc x fr h => .exc x fr h
     | .err => .err
   | _ => .err
def Fw (l : M (List D)) (g : D → M Unit) (b : M Fl) : M Fl := l.bind fun ds => Es g b ds
def yw (t : M Bool) (b : M Fl) : Nat → M Fl
 | 0 => fun _ _ => .err
 | n + 1 => fun fr h => match t fr h with
   | .ok true fr h => match b fr h with
     | .ok .nx fr h => yw t b n fr h
     | .ok .ct fr h => yw t b n fr h
     | .ok .brk fr h => .ok .nx fr h
     | .ok (.rt d) fr h => .ok (.rt d) fr h
     | .exc x fr h => .exc x fr h
     | .err => .err
   | .ok false fr h => .ok .nx fr h
   | .exc x fr h => .exc x fr h
   | .err => .err
section
variable {X : Cx} {T : Tb} {W : WX} {k : Nat} {pos pos' : Pos} {tg iter c : Expr} {body : List Stmt} {li : M (List D)} {g : D → M Unit} {b : M Fl} {is : List Nat} {t : M Bool}
theorem abg (C : Cq X T W k) (si : Wc X T W tg iter li) (sg : Mv X T is tg g) (sb : GZ X T W body b) (hs : ∀ x, foldedSetIterable iter X.env x = pure x := by intro _; rfl) : Bc X T W (.For tg iter body [] pos) (Fw li g b) := fun B w σ H fr h D R p =>
 Ak (ps_for C.po C.calm UV Yw Dj hs) (si B w σ H fr h _ R (tW.bind (VR := vJ X.K T B σ) p fun ds fr1 h1 w1 H1 J e1 l1 r1 vj p1 => by
  refine ⟨fun i m σ H => m = ds.length - i ∧ i ≤ ds.length ∧ ∃ w' fr' h', w1.le w' ∧ Rel X.K T B w' σ H fr' h' ∧ tW X.K T B W w' (Es g b (ds.drop i) fr' h') D, ⟨ds.length, by simp, Nat.zero_le _, w1, fr1, h1, Wd.le_refl _, r1, p1⟩, ?_⟩
  rintro i m σ2 H2 ⟨rfl, hi, w2, fr2, h2, l2, r2, p2⟩
  obtain ⟨js, jg⟩ := vj i w2 H2 l2 r2.sub
  by_cases hlt : i < ds.length
  · obtain ⟨go, y⟩ := jg ds[i] (ajc hlt)
    refine .inr ⟨go, fun σ' H' => ∃ w' fr' h', w1.le w' ∧ Rel X.K T B w' σ' H' fr' h' ∧ tW X.K T B W w' (Es g b (ds.drop (i + 1)) fr' h') D, fun σ' H' q => ⟨ds.length - (i + 1), by omega, rfl, hlt, q⟩, fun x H3 yx => ?_⟩
    obtain ⟨w3, l3, r3, rx⟩ := y x H3 yx B σ2 fr2 h2 r2
    have ed : ds.drop i = ds[i] :: ds.drop (i + 1) := List.drop_eq_getElem_cons hlt
    rw [ed] at p2
    refine sg B w3 σ2 H3 fr2 h2 x ds[i] _ r3 rx ?_
    unfold Es at p2
    cases e2 : g ds[i] fr2 h2 with
    | ok u fr3 h3 =>
      rw [e2] at p2
      intro w4 σ4 H4 l4 r4 _
      refine sb B w4 σ4 H4 fr3 h3 _ r4 ?_
      have l34 : w1.le w4 := Wd.le_trans l2 (Wd.le_trans l3 l4)
      dsimp only at p2
      cases e3 : b fr3 h3 with
      | ok f fr4 h4 =>
        rw [e3] at p2
        cases f with
        | nx => exact fun w5 σ5 H5 l5 r5 => ⟨w5, fr4, h4, Wd.le_trans l34 l5, r5, p2.le (Wd.le_trans (Wd.le_trans l3 l4) l5)⟩
        | ct => exact fun w5 σ5 H5 l5 r5 => ⟨w5, fr4, h4, Wd.le_trans l34 l5, r5, p2.le (Wd.le_trans (Wd.le_trans l3 l4) l5)⟩
        | brk => exact fun w5 σ5 H5 l5 r5 => p2 w5 σ5 H5 (Wd.le_trans (Wd.le_trans l3 l4) l5) r5
        | rt d => exact fun w5 σ5 H5 v l5 r5 rv => p2 w5 σ5 H5 v (Wd.le_trans (Wd.le_trans l3 l4) l5) r5 rv
      | exc y fr4 h4 =>
        rw [e3] at p2
        exact fun w5 σ5 H5 cc dd l5 r5 z => p2 w5 σ5 H5 cc dd (Wd.le_trans (Wd.le_trans l3 l4) l5) r5 z
      | err => rw [e3] at p2; exact p2
    | exc y fr3 h3 => rw [e2] at p2; exact p2
    | err => rw [e2] at p2; exact p2
  · have e : i = ds.length := by omega
    subst e
    rw [List.drop_length] at p2
    exact .inl ⟨js (Nat.le_refl _), p2 w2 σ2 H2 (Wd.le_refl _) r2⟩))
theorem s_while (C : Cq X T W k) (n : Nat) (st : Gh X T W c t) (sb : GZ X T W body b) : Bc X T W (.While c body [] pos) (yw t b n) := fun B w σ H fr h D R p =>
 Ak (ps_while C.po GJ Dj) ⟨fun m σ H => ∃ w' fr' h', w.le w' ∧ Rel X.K T B w' σ H fr' h' ∧ tW X.K T B W w' (yw t b m fr' h') D, ⟨n, w, fr, h, Wd.le_refl _, R, p⟩, fun m σ2 H2 ⟨w2, fr2, h2, l2, r2, p2⟩ => by
  cases m with
  | zero => exact (show False from p2).elim
  | succ m =>
    unfold yw at p2
    refine st B w2 σ2 H2 fr2 h2 _ r2 ?_
    cases e2 : t fr2 h2 with
    | ok c fr3 h3 =>
      rw [e2] at p2
      intro w3 H3 v l3 r3 rv
      have rv' : v = c := rv
      subst rv'
      cases v with
      | false => exact p2 w3 σ2 H3 l3 r3
      | true =>
        rw [if_pos rfl]
        refine ⟨fun σ' H' => ∃ w' fr' h', w.le w' ∧ Rel X.K T B w' σ' H' fr' h' ∧ tW X.K T B W w' (yw t b m fr' h') D, fun σ' H' q => ⟨m, Nat.lt_succ_self m, q⟩, ?_⟩
        refine sb B w3 σ2 H3 fr3 h3 _ r3 ?_
        dsimp only at p2
        cases e3 : b fr3 h3 with
        | ok f fr4 h4 =>
          rw [e3] at p2
          cases f with
          | nx => exact fun w5 σ5 H5 l5 r5 => ⟨w5, fr4, h4, Wd.le_trans l2 (Wd.le_trans l3 l5), r5, p2.le (Wd.le_trans l3 l5)⟩
          | ct => exact fun w5 σ5 H5 l5 r5 => ⟨w5, fr4, h4, Wd.le_trans l2 (Wd.le_trans l3 l5), r5, p2.le (Wd.le_trans l3 l5)⟩
          | brk => exact fun w5 σ5 H5 l5 r5 => p2 w5 σ5 H5 (Wd.le_trans l3 l5) r5
          | rt d => exact fun w5 σ5 H5 v l5 r5 rv => p2 w5 σ5 H5 v (Wd.le_trans l3 l5) r5 rv
        | exc y fr4 h4 =>
          rw [e3] at p2
          exact fun w5 σ5 H5 cc dd l5 r5 z => p2 w5 σ5 H5 cc dd (Wd.le_trans l3 l5) r5 z
        | err => rw [e3] at p2; exact p2
    | exc y fr3 h3 =>
      rw [e2] at p2
      exact fun w3 H3 cc dd l3 r3 z => p2 w3 σ2 H3 cc dd l3 r3 z
    | err => rw [e2] at p2; exact p2⟩
end
def WF : WX := fun _ _ _ _ => False
def vU (fr : Fr) : List Nat → Fr
 | [] => fr
 | v :: vs => (vU fr vs).set v none
theorem Qn (fr : Fr) : ∀ vs : List Nat, (vU fr vs).length = fr.length
 | [] => rfl
 | v :: vs => by unfold vU; rw [aji, Qn fr vs]
theorem Lz {fr : Fr} {i : Nat} : ∀ {vs : List Nat}, i ∉ vs → (vU fr vs)[i]? = fr[i]?
 | [], _ => rfl
 | v :: vs, h => by
   unfold vU
   rw [List.mem_cons, not_or] at h
   rw [ajg (Ne.symm h.1), Lz h.2]
theorem Af {fr : Fr} {i : Nat} {d : D} : ∀ {vs : List Nat}, i ∈ vs → (vU fr vs)[i]? ≠ some (some d)
 | [], h => by cases h
 | v :: vs, h => by
   unfold vU
   by_cases e : v = i
   · subst e
     by_cases l : v < (vU fr vs).length
     · rw [ajh l]
       exact fun z => by cases z
     · rw [List.getElem?_eq_none (by rw [aji]; omega)]
       exact fun z => by cases z
   · rw [ajg e]
     rcases List.mem_cons.mp h with z | z
     · exact absurd z.symm e
     · exact Af z
theorem wipe_out {σ : L2.St} {i : Nat} : ∀ {vs : List Nat}, i ∉ vs → (wipe σ vs)[i]? = σ[i]?
 | [], _ => rfl
 | v :: vs, h => by
   unfold wipe
   rw [List.mem_cons, not_or] at h
   rw [ajg (Ne.symm h.1), wipe_out h.2]
theorem ae4 {σ : L2.St} {i : Nat} {v : V} {vs : List Nat} (h : i ∈ vs) : (wipe σ vs)[i]? ≠ some (some v) := fun z => (wipe_some z).2 h
section
variable {K : PySem.W.Frag} {T : Tb} {B : Bs} {w w' : Wd} {σ σ' : L2.St} {H H' : Hp} {fr fr' : Fr} {h : Hh}
theorem Rel.refr (R : Rel K T B w σ H fr h) (fl : fr'.length = σ'.length) (hs : ∀ (i : Nat) (d : D), fr'[i]? = some (some d) → fr[i]? = some (some d) ∧ σ'[i]? = σ[i]?) : Rel K T B w σ' H fr' h :=
 { R with
   me := fun x d bx e od => by
    obtain ⟨h1, h2⟩ := hs 0 d e
    rw [h2]
    exact R.me x d bx h1 od
   fl := fl
   sl := fun i s d e1 e2 => by
    cases d with
    | none => exact .none
    | some d =>
      obtain ⟨h1, h2⟩ := hs i d e2
      rw [h2] at e1
      exact R.sl i s (some d) e1 h1
   sep := fun i j p hij ⟨a1, d1, a2, a3⟩ ⟨b1, d2, b2, b3⟩ => by
    obtain ⟨h1, h2⟩ := hs i d1 a2
    obtain ⟨h3, h4⟩ := hs j d2 b2
    rw [h2] at a1
    rw [h4] at b1
    exact R.sep i j p hij ⟨a1, d1, h1, a3⟩ ⟨b1, d2, h3, b3⟩ }
theorem Rel.wipe (R : Rel K T B w σ H fr h) (vs : List Nat) : Rel K T B w (wipe σ vs) H (vU fr vs) h := by
 refine R.refr (by rw [Qn, wipe_length]; exact R.fl) fun i d e => ?_
 by_cases hi : i ∈ vs
 · exact absurd e (Af hi)
 · rw [Lz hi] at e
   exact ⟨e, wipe_out hi⟩
end
def xj (vs : List Nat) (g : D → M Unit) (t : M Bool) (e : M D) (d : D) : M (Option D) := fun fr h => match g d fr h with
 | .ok _ fr h => match t fr h with
   | .ok true fr h => match e fr h with
     | .ok y fr h => .ok (some y) (vU fr vs) h
     | _ => .err
   | .ok false fr h => .ok none (vU fr vs) h
   | _ => .err
 | _ => .err
def Ag {α : Type} : Option α → List α → List α
 | some y, r => y :: r
 | none, r => r
def Be (vs : List Nat) (g : D → M Unit) (t : M Bool) (e : M D) : List D → M (List D)
 | [] => M.ret []
 | d :: ds => (xj vs g t e d).bind fun o => (Be vs g t e ds).bind fun r => M.ret (Ag o r)
def X6 (vs : List Nat) : M Unit := fun fr h => .ok () (vU fr vs) h
def Jp (vs : List Nat) (l : M (List D)) (g : D → M Unit) (t : M Bool) (e : M D) : M D := l.bind fun ds => (X6 vs).bind fun _ => if ds.length ≤ big then (Be vs g t e ds).bind fun r => M.ret (.nl r) else M.opt none
section
variable {X : Cx} {T : Tb} {W : WX} {k : Nat} {pos pos' : Pos} {tg iter elt c : Expr} {ifs : List Expr} {li : M (List D)} {g : D → M Unit} {b : M Fl} {is : List Nat} {t : M Bool} {me : M D} {scope : Scope} {own : List (Str × Nat)}
theorem Yy {σ σ2 : L2.St} {vs is : List Nat} (hl : σ2.length = σ.length) (hi : ∀ i ∈ is, i ∈ vs) (hk : ∀ (j : Nat), j ∉ is → σ2[j]? = (wipe σ vs)[j]?) : wipe σ2 vs = wipe σ vs := by
 refine List.ext_getElem? fun j => ?_
 by_cases hj : j ∈ vs
 · have key : ∀ τ : L2.St, τ.length = σ.length → (wipe τ vs)[j]? = if j < σ.length then some none else none := fun τ hτ => by
    by_cases hjl : j < σ.length
    · rw [if_pos hjl]
      have hjl' : j < (wipe τ vs).length := by rw [wipe_length, hτ]; exact hjl
      rw [ajc hjl']
      cases e : (wipe τ vs)[j] with
      | none => rfl
      | some v => exact absurd (by rw [ajc hjl', e]) (ae4 (σ := τ) (v := v) hj)
    · rw [if_neg hjl]
      exact List.getElem?_eq_none (by rw [wipe_length, hτ]; omega)
   rw [key σ2 hl, key σ rfl]
 · rw [wipe_out hj, hk j fun z => hj (hi j z), wipe_out hj]
def GB (X : Cx) (scope : Scope) (tg : Expr) : TG := fun v σ H Q => ∀ (s : Shared) (H0 : Hp) (C : Addr) (cl : List (Str × Addr)) (fp : List Addr), WG (X.blk s H0 scope (compEnvC scope cl C X.env) fp) tg v σ H Q
def TB (X : Cx) (scope : Scope) (ifs : List Expr) : TT := fun σ H Q => ∀ (s : Shared) (H0 : Hp) (C : Addr) (cl : List (Str × Addr)) (fp : List Addr), UT (X.blk s H0 scope (compEnvC scope cl C X.env) fp) ifs σ H Q
def EB (X : Cx) (scope : Scope) (e : Expr) : TE := fun σ H Q => ∀ (s : Shared) (H0 : Hp) (C : Addr) (cl : List (Str × Addr)) (fp : List Addr), WE (X.blk s H0 scope (compEnvC scope cl C X.env) fp) e σ H Q
theorem acv {B : Bs} {w : Wd} {σ : L2.St} {H : Hp} {fr : Fr} {h : Hh} {Q : VK} (si : Wc X T W tg iter li) (hi : ∀ i ∈ is, i ∈ own.map (·.2))
 (sg : ∀ (s : Shared) (H0 : Hp) (C : Addr) (cl : List (Str × Addr)) (fp : List Addr), Mv (X.blk s H0 scope (compEnvC scope cl C X.env) fp) T is tg g)
 (st : ∀ (s : Shared) (H0 : Hp) (C : Addr) (cl : List (Str × Addr)) (fp : List Addr), wF (UT (X.blk s H0 scope (compEnvC scope cl C X.env) fp) ifs) X.K T WF vB t)
 (se : ∀ (s : Shared) (H0 : Hp) (C : Addr) (cl : List (Str × Addr)) (fp : List Addr), cO (X.blk s H0 scope (compEnvC scope cl C X.env) fp) T WF elt me)
 (R : Rel X.K T B w σ H fr h) (p : bu X.K T B W (vE X.K T B σ) w σ (Jp (own.map (·.2)) li g t me fr h) Q) : tLc (WI X tg iter) (GB X scope tg) (TB X scope ifs) (EB X scope elt) (own.map (·.2)) σ H Q := by
 refine si B w σ H fr h _ R (bu.bind (VR := vJ X.K T B σ) p fun ds fr0 h0 w1 H1 J e1 l1 r0 vj p0 => ?_)
 generalize hvs : own.map (·.2) = vs at hi p0 ⊢
 intro A0 nD
 have p1 : bu X.K T B W (vE X.K T B σ) w1 σ ((if ds.length ≤ big then (Be vs g t me ds).bind fun r => M.ret (.nl r) else M.opt none) (vU fr0 vs) h0) Q := p0
 by_cases hb : ds.length ≤ big
 · rw [if_pos hb] at p1
   have rD := r0.temp (o := .lst []) nD
   have OD : Own B w1 A0 := r0.own_new nD
   refine ⟨fun i m H => m = ds.length - i ∧ i ≤ ds.length ∧ ∃ w' fr' h' acc vs', w1.le w' ∧ aO X.K T w' vs' acc ∧ acc.length ≤ i ∧ Rel X.K T (B.pr A0 (.lst vs')) w' (wipe σ vs) H fr' h' ∧ (∀ j ∈ vs, ∀ d, fr'[j]? ≠ some (some d)) ∧
    bu X.K T B W (vE X.K T B σ) w' σ (((Be vs g t me (ds.drop i)).bind fun r => M.ret (D.nl (acc ++ r))) fr' h') Q, ⟨ds.length, by simp, Nat.zero_le _, w1, vU fr0 vs, h0, [], [], Wd.le_refl _, .nil, Nat.zero_le _,
     (rD.wipe vs).protect OD (fun i ⟨z1, dd, z2, z3⟩ => r0.loose_new nD i (by
      by_cases hj : i ∈ vs
      · exact absurd z2 (Af hj)
      · rw [Lz hj] at z2
        rw [wipe_out hj] at z1
        exact ⟨z1, dd, z2, z3⟩)) upd_same, fun j hj d => Af hj, p1⟩, ?_⟩
   rintro i m H2 ⟨rfl, hil, w2, fr2, h2, acc, us, l2, ra, la, r2, hw2, p2⟩
   have hP := OD.p
   obtain ⟨js, jg⟩ := vj i w2 H2 l2 r2.sub
   by_cases hlt : i < ds.length
   · obtain ⟨go, y⟩ := jg ds[i] (ajc hlt)
     have ed : ds.drop i = ds[i] :: ds.drop (i + 1) := List.drop_eq_getElem_cons hlt
     rw [ed] at p2
     refine .inr ⟨go, fun H' => ∃ w' fr' h' acc vs', w1.le w' ∧ aO X.K T w' vs' acc ∧ acc.length ≤ i + 1 ∧ Rel X.K T (B.pr A0 (.lst vs')) w' (wipe σ vs) H' fr' h' ∧ (∀ j ∈ vs, ∀ d, fr'[j]? ≠ some (some d)) ∧
      bu X.K T B W (vE X.K T B σ) w' σ (((Be vs g t me (ds.drop (i + 1))).bind fun r => M.ret (D.nl (acc ++ r))) fr' h') Q, fun H' q => ⟨ds.length - (i + 1), by omega, rfl, hlt, q⟩, fun x H3 yx => ?_⟩
     obtain ⟨w3, l3, r3, rx⟩ := y x H3 yx (B.pr A0 (.lst us)) (wipe σ vs) fr2 h2 r2
     have turn : ∃ o fr' h', xj vs g t me ds[i] fr2 h2 = .ok o fr' h' ∧ bu X.K T B W (vE X.K T B σ) w2 σ (((Be vs g t me (ds.drop (i + 1))).bind fun r => M.ret (D.nl (acc ++ Ag o r))) fr' h') Q := by
      have p2' : bu X.K T B W (vE X.K T B σ) w2 σ (((xj vs g t me ds[i]).bind fun o => (Be vs g t me (ds.drop (i + 1))).bind fun r => M.ret (D.nl (acc ++ Ag o r))) fr2 h2) Q := by
       have ee : ((Be vs g t me (ds[i] :: ds.drop (i + 1))).bind fun r => M.ret (D.nl (acc ++ r))) fr2 h2 = ((xj vs g t me ds[i]).bind fun o => (Be vs g t me (ds.drop (i + 1))).bind fun r => M.ret (D.nl (acc ++ Ag o r))) fr2 h2 := by
        show M.bind (M.bind _ _) _ fr2 h2 = _
        unfold M.bind
        cases xj vs g t me ds[i] fr2 h2 with
        | ok o fr' h' => dsimp only; cases Be vs g t me (ds.drop (i + 1)) fr' h' <;> rfl
        | exc _ _ _ => rfl
        | err => rfl
       rw [← ee]
       exact p2
      cases q : xj vs g t me ds[i] fr2 h2 with
      | ok o fr' h' =>
        rw [M.bind_ok q] at p2'
        exact ⟨o, fr', h', rfl, p2'⟩
      | exc y fr' h' =>
        exfalso
        unfold xj at q
        split at q
        · split at q
          · split at q <;> cases q
          · cases q
          · cases q
        · cases q
      | err =>
        rw [M.bind_err q] at p2'
        exact p2'.elim
     obtain ⟨o, fro, ho, qt, p3⟩ := turn
     have upw : ∀ {u2 : L2.St} {w' : Wd} {H' : Hp} {fr' : Fr} {h' : Hh} {B' : Bs}, wipe u2 vs = wipe σ vs → Rel X.K T B' w' u2 H' fr' h' → Rel X.K T B' w' (wipe σ vs) H' (vU fr' vs) h' := fun {u2 w' H' fr' h' B'} e R' => by
      rw [← e]
      exact R'.wipe vs
     intro s0 H0 C cl fp
     refine sg s0 H0 C cl fp (B.pr A0 (.lst us)) w3 (wipe σ vs) H3 fr2 h2 x ds[i] _ r3 rx ?_
     unfold xj at qt
     cases q1 : g ds[i] fr2 h2 with
     | exc _ _ _ => rw [q1] at qt; cases qt
     | err => rw [q1] at qt; cases qt
     | ok _ fr3 h3 =>
       rw [q1] at qt
       dsimp only at qt
       intro w4 σ4 H4 l4 r4 k4
       have ew : wipe σ4 vs = wipe σ vs := Yy (k4.1.trans (wipe_length σ vs)) hi k4.2
       refine ⟨ew, fun s0 H0 C cl fp => st s0 H0 C cl fp (B.pr A0 (.lst us)) w4 σ4 H4 fr3 h3 _ r4 ?_⟩
       cases q2 : t fr3 h3 with
       | exc _ _ _ => rw [q2] at qt; cases qt
       | err => rw [q2] at qt; cases qt
       | ok b fr4 h4 =>
         rw [q2] at qt
         intro w5 H5 v l5 r5 rv
         have rv' : v = b := rv
         subst rv'
         cases v with
         | false =>
           dsimp only at qt
           cases qt
           simp only [Bool.false_eq_true, if_false]
           exact ⟨w5, _, _, acc, us, Wd.le_trans l2 (Wd.le_trans l3 (Wd.le_trans l4 l5)), ra.mono (Wd.le_trans l3 (Wd.le_trans l4 l5)), Nat.le_succ_of_le la, upw ew r5, fun j hj d => Af hj, p3.le (Wd.le_trans l3 (Wd.le_trans l4 l5))⟩
         | true =>
           dsimp only at qt
           simp only [if_true]
           intro s0 H0 C cl fp
           refine se s0 H0 C cl fp (B.pr A0 (.lst us)) w5 σ4 H5 fr4 h4 _ r5 ?_
           cases q3 : me fr4 h4 with
           | exc _ _ _ => rw [q3] at qt; cases qt
           | err => rw [q3] at qt; cases qt
           | ok yd fr5 h5 =>
             rw [q3] at qt
             cases qt
             intro w6 H6 yv l6 r6 ry
             have hD6 : H6 A0 = some (.lst us) := (r6.prot (A0, .lst us) (ajb)).1
             have lall : w2.le w6 := Wd.le_trans l3 (Wd.le_trans l4 (Wd.le_trans l5 l6))
             refine ⟨us, hD6, ?_, w6, _, _, acc ++ [yd], us ++ [yv], Wd.le_trans l2 lall, (ra.mono lall).append (.cons ry .nil), ?_, (upw ew r6).repr OD.e OD.p, fun j hj d => Af hj, ?_⟩
             · rw [ra.length]
               have : big < sizeLine := by decide
               omega
             · rw [ajk]
               show acc.length + 1 ≤ i + 1
               omega
             · have e9 : ∀ r : List _, acc ++ Ag (some yd) r = acc ++ [yd] ++ r := fun r => by
                show acc ++ yd :: r = _
                rw [List.append_assoc]
                rfl
               simp only [e9] at p3
               exact p3.le lall
   · have e : i = ds.length := by omega
     subst e
     rw [List.drop_length] at p2
     obtain ⟨r3, O3, lo3, eD⟩ := r2.unprotect OD.e OD.p
     refine .inl ⟨js (Nat.le_refl _), ?_⟩
     have p3 : bu X.K T B W (vE X.K T B σ) w2 σ (.ok (D.nl (acc ++ [])) fr2 h2) Q := p2
     rw [aiV] at p3
     have r4 : Rel X.K T B w2 σ H2 fr2 h2 := r3.refr (by rw [← wipe_length σ vs]; exact r3.fl) fun j d ej => ⟨ej, by
      by_cases hj : j ∈ vs
      · exact absurd ej (hw2 j hj d)
      · exact (wipe_out hj).symm⟩
     refine p3 w2 H2 (.ref A0) (Wd.le_refl _) r4 (.inr ⟨A0, _, rfl, O3, fun j ⟨z1, dd, z2, z3⟩ => lo3 j ⟨?_, dd, z2, z3⟩, eD, .lst ra⟩)
     by_cases hj : j ∈ vs
     · exact absurd z2 (hw2 j hj dd)
     · rw [wipe_out hj]
       exact z1
 · rw [if_neg hb] at p1
   exact p1.elim
theorem abh (C : Cq X T W k) (own : List (Str × Nat)) (si : Wc X T W tg iter li) (hi : ∀ i ∈ is, i ∈ own.map (·.2))
 (sg : ∀ (s : Shared) (H0 : Hp) (C : Addr) (cl : List (Str × Addr)) (fp : List Addr), Mv (X.blk s H0 scope (compEnvC scope cl C X.env) fp) T is tg g)
 (st : ∀ (s : Shared) (H0 : Hp) (C : Addr) (cl : List (Str × Addr)) (fp : List Addr), wF (UT (X.blk s H0 scope (compEnvC scope cl C X.env) fp) ifs) X.K T WF vB t)
 (se : ∀ (s : Shared) (H0 : Hp) (C : Addr) (cl : List (Str × Addr)) (fp : List Addr), cO (X.blk s H0 scope (compEnvC scope cl C X.env) fp) T WF elt me)
 (ok : BlkOk X.N X.env.scope scope own) (hs : ∀ x, foldedSetIterable iter X.env x = pure x := by intro _; rfl) : zQ X T W (.ListComp elt [⟨tg, iter, ifs, 0⟩] scope pos) (Jp (own.map (·.2)) li g t me) := fun B w σ H fr h Q R p =>
 uP (pe_lc C.calm C.nd UV ok (fun s H C cl fp => ⟨fun pins s' σ H v u Q I r hh => hh s _ C cl fp pins s' u I r⟩) (fun s H C cl fp => ⟨fun pins s' σ H Q I hh => hh s _ C cl fp pins s' I⟩) (fun s H C cl fp => ⟨fun pins s' σ H Q I hh => (hh s _ C cl fp).go pins s' I⟩) hs) (acv si hi sg st se R p)
theorem aay (C : Cq X T W k) (j : Nat) {y : Str} {py spos : Pos} (own : List (Str × Nat)) (si : Wc X T W tg iter li) (hi : ∀ i ∈ is, i ∈ own.map (·.2))
 (sg : ∀ (s : Shared) (H0 : Hp) (C : Addr) (cl : List (Str × Addr)) (fp : List Addr), Mv (X.blk s H0 scope (compEnvC scope cl C X.env) fp) T is tg g)
 (st : ∀ (s : Shared) (H0 : Hp) (C : Addr) (cl : List (Str × Addr)) (fp : List Addr), wF (UT (X.blk s H0 scope (compEnvC scope cl C X.env) fp) ifs) X.K T WF vB t)
 (se : ∀ (s : Shared) (H0 : Hp) (C : Addr) (cl : List (Str × Addr)) (fp : List Addr), cO (X.blk s H0 scope (compEnvC scope cl C X.env) fp) T WF elt me)
 (ok : BlkOk X.N X.env.scope scope own) (hsw : swapsWith (.ListComp elt [⟨tg, iter, ifs, 0⟩] scope pos) (some (.Name y py)) spos.line X.env = pure true) (hy : X.N[j]? = some y := by rfl) (j0 : j ≠ 0 := by decide) (hyl : X.env.scope.names.lookup y = some .local := by rfl)
 (hs : ∀ x, foldedSetIterable iter X.env x = pure x := by intro _; rfl) : Bc X T W (.Assign [.Name y py] (.ListComp elt [⟨tg, iter, ifs, 0⟩] scope pos) spos) (cP j (Jp (own.map (·.2)) li g t me)) := fun B w σ H fr h D R p =>
 Ak (ps_setLc C.calm C.nd hy hyl hsw UV ok (fun s H C cl fp => ⟨fun pins s' σ H v u Q I r hh => hh s _ C cl fp pins s' u I r⟩) (fun s H C cl fp => ⟨fun pins s' σ H Q I hh => hh s _ C cl fp pins s' I⟩) (fun s H C cl fp => ⟨fun pins s' σ H Q I hh => (hh s _ C cl fp).go pins s' I⟩) hs)
  (acv si hi sg st se R (tW.bind (VR := vE X.K T B σ) p fun d fr1 h1 w1 H1 v e1 l1 r1 rx p1 => p1 w1 _ H1 (Wd.le_refl _) (r1.put j j0 rx)))
theorem J9 : wF (UT X []) X.K T W vB (M.ret true) := fun B w σ H fr h Q R p => aat pts_nil (p w H true (Wd.le_refl _) R rfl)
theorem aaz (s : Gh X T W c t) : wF (UT X [c]) X.K T W vB t := fun B w σ H fr h Q R p => aat (pts_one GJ) (s B w σ H fr h Q R p)
theorem Cq.blk (C : Cq X T W k) {s : Shared} {H0 : Hp} {A0 : Addr} {cl : List (Str × Addr)} {fp : List Addr} : Cq (X.blk s H0 scope (compEnvC scope cl A0 X.env) fp) T WF k :=
 ⟨C.calm, C.nd, C.room, fun u s' ⟨_, _, _, _, _, _, _, _, _, _, _, _, _, _, _, _, w⟩ => w.elim, fun _ _ z => z.elim⟩
end
def mO (i : Nat) (f : List D → Option (List D)) : M Unit := fun fr h => match fr[i]? with
 | some (some (.nl l)) => match f l with
   | some l' => .ok () (fr.set i (some (.nl l'))) h
   | none => .err
 | some (some (.ref n)) => match h[n]? with
   | some (.nl l) => match f l with
     | some l' => .ok () fr (h.set n (.nl l'))
     | none => .err
   | _ => .err
 | _ => .err
def xm (d : D) (f : List D → Option (List D)) : M Unit := fun fr h => match d with
 | .ref n => match h[n]? with
   | some (.nl l) => match f l with
     | some l' => .ok () fr (h.set n (.nl l'))
     | none => .err
   | _ => .err
 | _ => .err
def wj (l : List D) : Option (List D) := some l
def Et (d : D) (l : List D) : Option (List D) := if l.length < big then some (l ++ [d]) else none
def HJ (j : D) (d : D) (l : List D) : Option (List D) := match j with
 | .int j => (ixN l.length j).map fun n => l.set n d
 | _ => none
def Qo (_ : List D) : Option (List D) := some []
def JS (K : PySem.W.Frag) (T : Tb) (B : Bs) (w : Wd) (σ : L2.St) (H : Hp) (v : V) (f : List D → Option (List D)) (fr' : Fr) (h' : Hh) : Prop :=
 ∃ p vs l l', v = .ref p ∧ H p = some (.lst vs) ∧ aO K T w vs l ∧ f l = some l' ∧ ∀ vs', aO K T w vs' l' → Rel K T B w σ (upd H p (.lst vs')) fr' h'
section
variable {K : PySem.W.Frag} {T : Tb} {B : Bs} {w : Wd} {σ : L2.St} {H : Hp} {fr : Fr} {h : Hh}
theorem Uc (R : Rel K T B w σ H fr h) {n : Nat} {v : V} (rv : rC K T w v (.ref n)) {f : List D → Option (List D)} {l l' : List D} (e : h[n]? = some (.nl l)) (ef : f l = some l') : JS K T B w σ H v f fr (h.set n (.nl l')) := by
 cases rv with
 | @ref a n s =>
   obtain ⟨o, q, rr⟩ := R.cel n a _ s e
   cases rr with
   | lst r => exact ⟨a, _, l, l', rfl, q, r, ef, fun vs' rs => R.change_cell s e (.lst rs)⟩
theorem aaA {α β : Type} {VR : Wd → Hp → Fr → β → α → Prop} {W : WX} {d : D} {v : V} {f : List D → Option (List D)} {m : M α} {Q : β → Hp → Prop} (R : Rel K T B w σ H fr h) (rv : rC K T w v d) (p : bu K T B W VR w σ ((xm d f).bind (fun _ => m) fr h) Q) :
 ∃ fr' h', JS K T B w σ H v f fr' h' ∧ bu K T B W VR w σ (m fr' h') Q := by
 cases q : xm d f fr h with
 | ok u fr' h' =>
   rw [M.bind_ok q] at p
   refine ⟨fr', h', ?_, p⟩
   unfold xm at q
   split at q
   · split at q
     · split at q
       · cases q
         exact Uc R rv (by assumption) (by assumption)
       · cases q
     · cases q
   · cases q
 | exc y fr' h' =>
   exfalso
   unfold xm at q
   split at q
   · split at q
     · split at q <;> cases q
     · cases q
   · cases q
 | err =>
   rw [M.bind_err q] at p
   exact p.elim
theorem Og {α β : Type} {VR : Wd → Hp → Fr → β → α → Prop} {W : WX} {i : Nat} {v : V} {f : List D → Option (List D)} {m : M α} {Q : β → Hp → Prop} (R : Rel K T B w σ H fr h) (ev : σ[i]? = some (some v)) (p : bu K T B W VR w σ ((mO i f).bind (fun _ => m) fr h) Q) :
 ∃ fr' h', JS K T B w σ H v f fr' h' ∧ bu K T B W VR w σ (m fr' h') Q := by
 cases q : mO i f fr h with
 | ok u fr' h' =>
   rw [M.bind_ok q] at p
   refine ⟨fr', h', ?_, p⟩
   unfold mO at q
   split at q
   · rename_i l e1
     split at q
     · rename_i l' ef
       cases q
       obtain ⟨v', e2, z⟩ := vm R e1
       rw [ev] at e2
       cases e2
       cases z with
       | val r => cases r
       | own O eH r =>
         cases r with
         | lst r => exact ⟨_, _, l, l', rfl, eH, r, ef, fun vs' rs => R.change_slot ev e1 O eH rfl (.lst rs)⟩
     · cases q
   · rename_i n e1
     split at q
     · split at q
       · cases q
         obtain ⟨v', e2, z⟩ := vm R e1
         rw [ev] at e2
         cases e2
         cases z with
         | val r => exact Uc R r (by assumption) (by assumption)
         | own O eH r => cases r
       · cases q
     · cases q
   · cases q
 | exc y fr' h' =>
   exfalso
   unfold mO at q
   split at q
   · split at q <;> cases q
   · split at q
     · split at q <;> cases q
     · cases q
   · cases q
 | err =>
   rw [M.bind_err q] at p
   exact p.elim
end
def Oh (i : Nat) (m : M D) : M D := (mO i wj).bind fun _ => m.bind fun d => (mO i (Et d)).bind fun _ => M.ret .non
def abi (i : Nat) : M D := (mO i Qo).bind fun _ => M.ret .non
def Jd (mo m : M D) : M D := mo.bind fun o => (xm o wj).bind fun _ => m.bind fun d => (xm o (Et d)).bind fun _ => M.ret .non
def abj (mo : M D) : M D := mo.bind fun o => (xm o Qo).bind fun _ => M.ret .non
section
variable {X : Cx} {T : Tb} {W : WX} {k : Nat} {apos cpos px : Pos} {e o : Expr} {m mo : M D}
theorem Yz {K : PySem.W.Frag} {B : Bs} {w : Wd} {σ : L2.St} {H : Hp} {v : V} {f : List D → Option (List D)} {fr' : Fr} {h' : Hh} (z : JS K T B w σ H v f fr' h') : tyV K "list" v H := by
 obtain ⟨p, vs, l, l', rfl, e, _⟩ := z
 exact .inl ⟨rfl, vs, SqL.of e⟩
theorem Ud {K : PySem.W.Frag} {B : Bs} {w : Wd} {σ : L2.St} {H : Hp} {v : V} {fr' : Fr} {h' : Hh} (z : JS K T B w σ H v wj fr' h') : Rel K T B w σ H fr' h' := by
 obtain ⟨p, vs, l, l', rfl, e, r, ef, k⟩ := z
 have e1 : l = l' := Option.some.inj ef
 subst e1
 have z := k vs r
 have : upd H p (.lst vs) = H := by
  funext a
  unfold upd
  split
  · rename_i h
    rw [h, e]
  · rfl
 rw [this] at z
 exact z
theorem aaB {K : PySem.W.Frag} {B : Bs} {w : Wd} {σ : L2.St} {H : Hp} {v y : V} {d : D} {fr' : Fr} {h' : Hh} {Q : VK} (z : JS K T B w σ H v (Et d) fr' h') (ry : rC K T w y d) (q : ∀ H', Rel K T B w σ H' fr' h' → Q .non H') : rAppend v [y] H Q := by
 obtain ⟨p, vs, l, l', rfl, e, r, ef, k⟩ := z
 unfold Et at ef
 by_cases hl : l.length < big
 · rw [if_pos hl] at ef
   cases ef
   exact ⟨p, vs, y, rfl, rfl, e, by rw [r.length]; exact Nat.lt_of_lt_of_le hl (by decide), q _ (k _ (r.append (.cons ry .nil)))⟩
 · rw [if_neg hl] at ef
   cases ef
theorem aaC (i : Nat) {x : Str} (s : cO X T W e m) (hN : X.N[i]? = some x := by rfl) (hv : Vis X.env.scope x := by first | exact Or.inl rfl | exact Or.inr (Or.inl rfl) | exact Or.inr (Or.inr rfl)) (hd : (x == ("__debug__" : Str)) = false := by decide)
 (hcd : (x == ("__classdict__" : Str)) = false := by decide)
 (hbase : attributeBase (.Name x px) "append" X.env (eval (.Name x px) X.env) = eval (.Name x px) X.env := by rfl)
 (hfew : ((backTo cpos (starEach (e :: []) X.env)).all (fun x => !x.1) && (backToKw cpos (keywordEach [] X.env)).all (fun x => x.1.isSome)
  && decide ((e :: []).length + ([] : List Keyword).length + (if ([] : List Keyword).isEmpty then 0 else 1) < 30)) = true := by rfl)
 (hline : (apos.endLine == cpos.line) = true := by rfl) (hs : starEach (e :: []) X.env = (false, eval e X.env) :: starEach [] X.env := by exact uG rfl) (hplain : (backTo cpos (starEach [] X.env)).any (·.1) = false := by rfl) :
 cO X T W (.Call (.Attribute (.Name x px) "append" apos) [e] [] cpos) (Oh i m) := fun B w σ H fr h Q R p => by
 have hh : ∃ v, σ[i]? = some (some v) := by
  cases e1 : fr[i]? with
  | none =>
    have q : mO i wj fr h = .err := by unfold mO; rw [e1]
    have p' : bu X.K T B W (vV X.K T B σ) w σ ((mO i wj).bind _ fr h) Q := p
    rw [M.bind_err q] at p'
    exact p'.elim
  | some o =>
    cases o with
    | none =>
      have q : mO i wj fr h = .err := by unfold mO; rw [e1]
      have p' : bu X.K T B W (vV X.K T B σ) w σ ((mO i wj).bind _ fr h) Q := p
      rw [M.bind_err q] at p'
      exact p'.elim
    | some d =>
      obtain ⟨v, e2, _⟩ := vm R e1
      exact ⟨v, e2⟩
 obtain ⟨v, ev⟩ := hh
 obtain ⟨fr1, h1, z1, p1⟩ := Og (VR := vV X.K T B σ) R ev p
 have R1 := Ud z1
 refine uP (pe_bm PySem.F.plainAttrs_list PySem.F.slot_list_append PySem.F.type_list_append mt_append (pe_var hN hv hd hcd) (pa_cons mZ pa_nil hs) hbase hfew hline hs hplain) ⟨v, ev, Yz z1, s B w σ H fr1 h1 _ R1 (bu.bind (VR := vV X.K T B σ) p1 fun d fr2 h2 w2 H2 y e2 l2 r2 ry p2 => ?_)⟩
 obtain ⟨fr3, h3, z3, p3⟩ := Og (VR := vV X.K T B σ) r2 ev p2
 exact aaB z3 ry fun H' R' => p3 w2 H' .non (Wd.le_refl _) R' .non
theorem We (so : cO X T W o mo) (s : cO X T W e m)
 (hbase : attributeBase o "append" X.env (eval o X.env) = eval o X.env := by rfl)
 (hfew : ((backTo cpos (starEach (e :: []) X.env)).all (fun x => !x.1) && (backToKw cpos (keywordEach [] X.env)).all (fun x => x.1.isSome)
  && decide ((e :: []).length + ([] : List Keyword).length + (if ([] : List Keyword).isEmpty then 0 else 1) < 30)) = true := by rfl)
 (hline : (apos.endLine == cpos.line) = true := by rfl) (hs : starEach (e :: []) X.env = (false, eval e X.env) :: starEach [] X.env := by exact uG rfl) (hplain : (backTo cpos (starEach [] X.env)).any (·.1) = false := by rfl) :
 cO X T W (.Call (.Attribute o "append" apos) [e] [] cpos) (Jd mo m) := fun B w σ H fr h Q R p => by
 refine uP (pe_bm PySem.F.plainAttrs_list PySem.F.slot_list_append PySem.F.type_list_append mt_append mZ (pa_cons mZ pa_nil hs) hbase hfew hline hs hplain) (so B w σ H fr h _ R (bu.bind (VR := vV X.K T B σ) p fun od fr0 h0 w0 H0 ov e0 l0 r0 ro p0 => ?_))
 obtain ⟨fr1, h1, z1, p1⟩ := aaA (VR := vV X.K T B σ) r0 ro p0
 have R1 := Ud z1
 refine ⟨Yz z1, s B w0 σ H0 fr1 h1 _ R1 (bu.bind (VR := vV X.K T B σ) p1 fun d fr2 h2 w2 H2 y e2 l2 r2 ry p2 => ?_)⟩
 obtain ⟨fr3, h3, z3, p3⟩ := aaA (VR := vV X.K T B σ) r2 (ro.mono l2) p2
 exact aaB z3 ry fun H' R' => p3 w2 H' .non (Wd.le_refl _) R' .non
def LC (i : Nat) (m mi : M D) : M Fl := m.bind fun d => (yu i).bind fun _ => mi.bind fun j => (mO i (HJ j d)).bind fun _ => M.ret .nx
def abk (mo m mi : M D) : M Fl := m.bind fun d => mo.bind fun o => mi.bind fun j => (xm o (HJ j d)).bind fun _ => M.ret .nx
end
end Pk
namespace Pk
open PySem PySem.Spec L2
section
variable {K : PySem.W.Frag} {T : Tb} {B : Bs} {w : Wd} {σ : L2.St} {H : Hp} {fr : Fr} {h : Hh}
theorem acw {i : Nat} {v : V} {f : List D → Option (List D)} (R : Rel K T B w σ H fr h) (ev : σ[i]? = some (some v)) : mO i f fr h = .err ∨ ∃ fr' h', mO i f fr h = .ok () fr' h' ∧ JS K T B w σ H v f fr' h' := by
 cases q : mO i f fr h with
 | ok u fr' h' =>
   right
   refine ⟨fr', h', rfl, ?_⟩
   unfold mO at q
   split at q
   · rename_i l e1
     split at q
     · rename_i l' ef
       cases q
       obtain ⟨v', e2, z⟩ := vm R e1
       rw [ev] at e2
       cases e2
       cases z with
       | val r => cases r
       | own O eH r =>
         cases r with
         | lst r => exact ⟨_, _, l, l', rfl, eH, r, ef, fun vs' rs => R.change_slot ev e1 O eH rfl (.lst rs)⟩
     · cases q
   · rename_i n e1
     split at q
     · split at q
       · cases q
         obtain ⟨v', e2, z⟩ := vm R e1
         rw [ev] at e2
         cases e2
         cases z with
         | val r => exact Uc R r (by assumption) (by assumption)
         | own O eH r => cases r
       · cases q
     · cases q
   · cases q
 | exc y fr' h' =>
   exfalso
   unfold mO at q
   split at q
   · split at q <;> cases q
   · split at q
     · split at q <;> cases q
     · cases q
   · cases q
 | err => exact .inl rfl
end
section
variable {X : Cx} {T : Tb} {W : WX} {k : Nat} {pos px tpos : Pos} {e o j : Expr} {m mo mj : M D}
theorem agc {K : PySem.W.Frag} {B : Bs} {w : Wd} {σ : L2.St} {H : Hp} {v y u : V} {d jd : D} {fr' : Fr} {h' : Hh} {Q : Hp → Prop} (z : JS K T B w σ H v (HJ jd d) fr' h') (ry : rC K T w y d) (rj : rC K T w u jd) (q : ∀ H', Rel K T B w σ H' fr' h' → Q H') : rSetL v u y H Q := by
 obtain ⟨p, vs, l, l', rfl, e, r, ef, k⟩ := z
 unfold HJ at ef
 split at ef
 · rename_i i
   obtain ⟨n, en, rfl⟩ := Option.map_eq_some_iff.mp ef
   rw [vp rj]
   exact ⟨p, vs, i, n, rfl, rfl, e, by rw [r.length]; exact en, q _ (k _ (r.set n ry))⟩
 · cases ef
theorem acx (i : Nat) {x : Str} (s : cO X T W e m) (sj : cO X T W j mj) (hN : X.N[i]? = some x := by rfl) (hv : Vis X.env.scope x := by first | exact Or.inl rfl | exact Or.inr (Or.inl rfl) | exact Or.inr (Or.inr rfl)) (hd : (x == ("__debug__" : Str)) = false := by decide)
 (hcd : (x == ("__classdict__" : Str)) = false := by decide)
 (ha : ∀ v, assign (.Subscript (.Name x px) j tpos) X.env v = (do
  let ov ← holding [v] (eval (.Name x px) X.env)
  let iv ← holding [v, ov] (eval j X.env)
  standAt tpos
  holding [v, ov, iv] (setItem ov iv v)
  release [v, ov, iv] []) := by intro _; rfl)
 (hs : swapsWithSole [.Subscript (.Name x px) j tpos] e pos.line X.env = pure false := by rfl) (hw : swappedStores [.Subscript (.Name x px) j tpos] e X.env = pure none := by rfl)
 (h1 : (assignEach [.Subscript (.Name x px) j tpos] X.env).map (·.2) = [assign (.Subscript (.Name x px) j tpos) X.env] := by rfl) : Bc X T W (.Assign [.Subscript (.Name x px) j tpos] e pos) (LC i m mj) := fun B w σ H fr h D R p =>
 Ak (ps_asg mZ (pg_sub (pe_var hN hv hd hcd) mZ set_list ha) hs hw h1) (s B w σ H fr h _ R (tW.bind (VR := vV X.K T B σ) p fun d fr1 h1 w1 H1 v e1 l1 r1 rx p1 => by
  have p1' : tW X.K T B W w1 ((yu i).bind (fun _ => mj.bind fun j => (mO i (HJ j d)).bind fun _ => M.ret .nx) fr1 h1) D := p1
  cases es : fr1[i]? with
  | none =>
    have q : yu i fr1 h1 = .err := by unfold yu; rw [es]
    rw [M.bind_err q] at p1'
    exact p1'.elim
  | some os =>
    cases os with
    | none =>
      have q : yu i fr1 h1 = .err := by unfold yu; rw [es]
      rw [M.bind_err q] at p1'
      exact p1'.elim
    | some ds =>
      have q : yu i fr1 h1 = .ok () fr1 h1 := by unfold yu; rw [es]
      rw [M.bind_ok q] at p1'
      obtain ⟨ov, ev, _⟩ := vm r1 es
      refine ⟨ov, ev, sj B w1 σ H1 fr1 h1 _ r1 (tW.bind (VR := vV X.K T B σ) p1' fun jd fr2 h2 w2 H2 jv e2 l2 r2 rj p2 => ?_)⟩
      have p2' : tW X.K T B W w2 ((mO i (HJ jd d)).bind (fun _ => M.ret .nx) fr2 h2) D := p2
      rcases acw (f := HJ jd d) r2 ev with q | ⟨fr3, h3, q, z⟩
      · rw [M.bind_err q] at p2'
        exact p2'.elim
      · rw [M.bind_ok q] at p2'
        exact agc z (rx.mono l2) rj fun H' R' => p2' w2 σ H' (Wd.le_refl _) R'))
def Fy (m : M D) : M D := m.bind fun d fr h => if d.own then .ok (.ref h.length) fr (h ++ [d]) else .err
theorem RK (s : zQ X T W e m) : cO X T W e (Fy m) := fun B w σ H fr h Q R p => s B w σ H fr h Q R (bu.bind (VR := vE X.K T B σ) p fun d fr1 h1 w1 H1 v e1 l1 r1 rx p1 => by
 rcases rx with rx | ⟨q, o, rfl, O, lo, eH, rd⟩
 · have p1' : bu X.K T B W (vV X.K T B σ) w1 σ (if d.own then .ok (.ref h1.length) fr1 (h1 ++ [d]) else .err) Q := p1
   rw [N6 rx] at p1'
   exact (show False from p1').elim
 · have p1' : bu X.K T B W (vV X.K T B σ) w1 σ (if d.own then .ok (.ref h1.length) fr1 (h1 ++ [d]) else .err) Q := p1
   rw [rd.own] at p1'
   have R2 := r1.to_cell O lo eH rd
   exact p1' ⟨w1.F, w1.I ++ [q]⟩ H1 (.ref q) ⟨fun _ _ z => z, [q], rfl⟩ R2 (.ref (by
    rw [← r1.len]
    show (w1.I ++ [q])[w1.I.length]? = some q
    rw [ajl (Nat.le_refl _), Nat.sub_self]
    rfl)))
theorem Oi {α : Type} {f : Str} : ∀ {fs : List Str} {vs : List α} {i : Nat}, fs.Nodup → fs[i]? = some f → (fs.zip vs).lookup f = vs[i]?
 | [], _, _, _, e => by simp at e
 | g :: fs, [], i, _, _ => by simp
 | g :: fs, v :: vs, 0, _, e => by
   simp at e
   subst e
   simp [ajd]
 | g :: fs, v :: vs, i + 1, n, e => by
   have hf : f ∈ fs := ajj (by simpa using e)
   have hne : (f == g) = false := by
    rw [beq_eq_false_iff_ne]
    rintro rfl
    exact (List.nodup_cons.mp n).1 hf
   show ajd f ((g, v) :: fs.zip vs) = (v :: vs)[i + 1]?
   rw [List.lookup_cons, hne]
   show (fs.zip vs).lookup f = _
   rw [Oi (List.nodup_cons.mp n).2 (by simpa using e)]
   simp
theorem YB {f : Str} {y : V} : ∀ {fs : List Str} {vs : List V} {i : Nat}, fs.Nodup → fs[i]? = some f → i ≤ vs.length → putF f y (fs.zip vs) = fs.zip (if i < vs.length then vs.set i y else vs ++ [y])
 | [], _, _, _, e, _ => by simp at e
 | g :: fs, [], i, _, e, hl => by
   have h0 : i = 0 := by simpa using hl
   subst h0
   simp at e
   subst e
   simp [putF]
 | g :: fs, v :: vs, 0, _, e, _ => by
   simp at e
   subst e
   show putF g y ((g, v) :: fs.zip vs) = _
   unfold putF
   rw [if_pos rfl, if_pos (show 0 < (v :: vs).length from Nat.succ_pos _)]
   rfl
 | g :: fs, v :: vs, i + 1, n, e, hl => by
   have hf : f ∈ fs := ajj (by simpa using e)
   have hne : ¬ g = f := by
    rintro rfl
    exact (List.nodup_cons.mp n).1 hf
   show putF f y ((g, v) :: fs.zip vs) = _
   unfold putF
   rw [if_neg hne, YB (List.nodup_cons.mp n).2 (i := i) (by simpa using e) (by simpa using hl)]
   by_cases h : i < vs.length
   · rw [if_pos h, if_pos (by simpa using h)]
     rfl
   · rw [if_neg h, if_neg (by simpa using h)]
     rfl
structure Qp (X : Cx) (T : Tb) (f : Str) (ix : Nat → Option Nat) : Prop where
 cls : ∀ c i, ix c = some i → Cls X.K (T.cad c)
 na : ∀ c i, ix c = some i → NoAttr X.K (T.cad c) f
 nd : ∀ c i, ix c = some i → (T.fld c).Nodup ∧ (T.fld c).length < 1000
 at_ : ∀ c i, ix c = some i → (T.fld c)[i]? = some f
def D.ins (h : Hh) (d : D) : Option (Nat × List D) := match d.der h with
 | .obj c fs => some (c, fs)
 | .no c fs => some (c, fs)
 | _ => none
def ug (ix : Nat → Option Nat) (h : Hh) (d : D) : Option D := match d.ins h with
 | some (c, fs) => match ix c with
   | some i => fs[i]?
   | none => none
 | none => none
theorem HQ {K : PySem.W.Frag} {B : Bs} {w : Wd} {σ : L2.St} {H : Hp} {fr : Fr} {h : Hh} {v : V} {d : D} {c : Nat} {fs : List D} (R : Rel K T B w σ H fr h) (z : vO K T B σ w H fr v d) (e : d.ins h = some (c, fs)) :
 ∃ a dx vs, v = .ref a ∧ H a = some (.ins (T.cad c) dx ((T.fld c).zip vs)) ∧ aO K T w vs fs := by
 rcases z with z | ⟨p, o, rfl, eH, z⟩
 · cases z with
   | obj s r =>
     cases e
     exact ⟨_, _, _, rfl, R.sub _ _ s, r⟩
   | @ref a n s =>
     have ln : n < h.length := by
      rw [← R.len]
      exact (List.getElem?_eq_some_iff.mp s).1
     obtain ⟨o, q, rr⟩ := R.cel n a h[n] s (ajc ln)
     have e0 : D.der h (.ref n) = h[n] := by
      unfold D.der
      dsimp only
      rw [ajc ln]
      rfl
     unfold D.ins at e
     rw [e0] at e
     generalize h[n] = cc at rr e
     cases rr with
     | lst r => cases e
     | dct _ r => cases e
     | obj r =>
       cases e
       exact ⟨_, _, _, rfl, q, r⟩
   | _ => cases e
 · cases z with
   | lst r => cases e
   | obj r =>
     cases e
     exact ⟨_, _, _, rfl, eH, r⟩
theorem xK {f : Str} {ix : Nat → Option Nat} (F : Qp X T f ix) (s : V2 X T W o mo) (hb : attributeBase o f X.env (eval o X.env) = eval o X.env := by rfl) : cO X T W (.Attribute o f pos) (mQ (ug ix) mo) := fun B w σ H fr h Q R p =>
 uP (pe_fld mZ hb) (s B w σ H fr h _ R (bu.bind (VR := vO X.K T B σ) p fun d fr1 h1 w1 H1 v e1 l1 r1 rx p1 => by
  have p1' : bu X.K T B W (vV X.K T B σ) w1 σ (M.opt (ug ix h1 d) fr1 h1) Q := p1
  cases q : ug ix h1 d with
  | none => rw [q] at p1'; exact p1'.elim
  | some z =>
    rw [q] at p1'
    unfold ug at q
    split at q
    · rename_i c fs ei
      split at q
      · rename_i i ec
        obtain ⟨a, dx, vs, rfl, eH, rs⟩ := HQ r1 rx ei
        obtain ⟨v, ev, rv⟩ := rs.get q
        exact ⟨a, _, dx, _, v, rfl, eH, F.cls c i ec, F.na c i ec, by rw [Oi (F.nd c i ec).1 (F.at_ c i ec)]; exact ev, p1' w1 H1 v (Wd.le_refl _) r1 rv⟩
      · cases q
    · cases q))
def xg (i : Nat) (d : D) (fs : List D) : Option (List D) := if i ≤ fs.length then some (if i < fs.length then fs.set i d else fs ++ [d]) else none
def EY (j : Nat) (ix : Nat → Option Nat) (d : D) : M Unit := fun fr h => match fr[j]? with
 | some (some (.no c fs)) => match ix c with
   | some i => match xg i d fs with
     | some fs' => .ok () (fr.set j (some (.no c fs'))) h
     | none => .err
   | none => .err
 | some (some (.ref n)) => match h[n]? with
   | some (.no c fs) => match ix c with
     | some i => match xg i d fs with
       | some fs' => .ok () fr (h.set n (.no c fs'))
       | none => .err
     | none => .err
   | _ => .err
 | _ => .err
def xF (j : Nat) (ix : Nat → Option Nat) (m : M D) : M Fl := m.bind fun d => (EY j ix d).bind fun _ => M.ret .nx
theorem Xf {K : PySem.W.Frag} {w : Wd} {f : Str} {c i : Nat} {fs fs' : List D} {vs : List V} {y : V} {d : D} (nd : (T.fld c).Nodup) (at_ : (T.fld c)[i]? = some f) (rs : aO K T w vs fs) (ry : rC K T w y d) (e : xg i d fs = some fs') :
 ∃ vs', putF f y ((T.fld c).zip vs) = (T.fld c).zip vs' ∧ aO K T w vs' fs' := by
 unfold xg at e
 by_cases hi : i ≤ fs.length
 · rw [if_pos hi] at e
   cases e
   refine ⟨_, YB nd at_ (by rw [rs.length]; exact hi), ?_⟩
   rw [rs.length]
   by_cases hl : i < fs.length
   · rw [if_pos hl, if_pos hl]
     exact rs.set i ry
   · rw [if_neg hl, if_neg hl]
     exact rs.append (.cons ry .nil)
 · rw [if_neg hi] at e
   cases e
theorem HR (j : Nat) {x f : Str} {ix : Nat → Option Nat} (F : Qp X T f ix) (s : cO X T W e m) (hs : swapsWith e (some (.Attribute (.Name x px) f tpos)) pos.line X.env = pure false := by rfl)
 (hN : X.N[j]? = some x := by rfl) (hv : Vis X.env.scope x := by first | exact Or.inl rfl | exact Or.inr (Or.inl rfl) | exact Or.inr (Or.inr rfl)) (hd : (x == ("__debug__" : Str)) = false := by decide)
 (hcd : (x == ("__classdict__" : Str)) = false := by decide) : Bc X T W (.Assign [.Attribute (.Name x px) f tpos] e pos) (xF j ix m) := fun B w σ H fr h D R p =>
 Ak (ps_fld (pe_var hN hv hd hcd) mZ hs) (s B w σ H fr h _ R (tW.bind (VR := vV X.K T B σ) p fun d fr1 h1 w1 H1 y e1 l1 r1 ry p1 => by
  have p1' : tW X.K T B W w1 ((EY j ix d).bind (fun _ => M.ret .nx) fr1 h1) D := p1
  have fin : ∀ {c i : Nat} {a dx : Addr} {vs : List V} {fs fs' : List Pk.D}, ix c = some i → H1 a = some (.ins (T.cad c) dx ((T.fld c).zip vs)) → aO X.K T w1 vs fs → xg i d fs = some fs' → (∀ vs', aO X.K T w1 vs' fs' → D.nx σ (upd H1 a (.ins (T.cad c) dx ((T.fld c).zip vs')))) → σ[j]? = some (some (.ref a)) →
   ∃ v, σ[j]? = some (some v) ∧ ∃ a C dx fs, v = .ref a ∧ H1 a = some (.ins C dx fs) ∧ Cls X.K C ∧ NoAttr X.K C f ∧ fs.length < 1000 ∧ D.nx σ (upd H1 a (.ins C dx (putF f y fs))) := fun {c i a dx vs fs fs'} ec eH rs ep kk es => by
   obtain ⟨vs', e1, rs'⟩ := Xf (F.nd c i ec).1 (F.at_ c i ec) rs ry ep
   refine ⟨_, es, a, _, dx, _, rfl, eH, F.cls c i ec, F.na c i ec, ?_, ?_⟩
   · rw [List.length_zip]
     have := (F.nd c i ec).2
     omega
   · rw [e1]
     exact kk vs' rs'
  cases q : EY j ix d fr1 h1 with
  | err => rw [M.bind_err q] at p1'; exact p1'.elim
  | exc z fr2 h2 =>
    exfalso
    unfold EY at q
    repeat' (first | (split at q) | (cases q))
  | ok u fr2 h2 =>
    rw [M.bind_ok q] at p1'
    have p2 : ∀ w' σ' H', w1.le w' → Rel X.K T B w' σ' H' fr2 h2 → D.nx σ' H' := p1'
    unfold EY at q
    split at q
    · rename_i c fs es
      split at q
      · rename_i i ec
        split at q
        · rename_i fs' ep
          cases q
          obtain ⟨v, e2, z⟩ := vm r1 es
          cases z with
          | val r => cases r
          | own O eH r =>
            cases r with
            | obj r => exact fin ec eH r ep (fun vs' rs' => p2 w1 σ _ (Wd.le_refl _) (r1.change_slot e2 es O eH rfl (.obj rs'))) e2
        · cases q
      · cases q
    · rename_i n es
      split at q
      · rename_i c fs en
        split at q
        · rename_i i ec
          split at q
          · rename_i fs' ep
            cases q
            obtain ⟨v, e2, z⟩ := vm r1 es
            cases z with
            | val r =>
              cases r with
              | ref sI =>
                obtain ⟨o, qo, rr⟩ := r1.cel n _ _ sI en
                cases rr with
                | obj r => exact fin ec qo r ep (fun vs' rs' => p2 w1 σ _ (Wd.le_refl _) (r1.change_cell sI en (.obj rs'))) e2
            | own O eH r => cases r
          · cases q
        · cases q
      · cases q
    · cases q))
end
end Pk
namespace Pk
open PySem PySem.Spec L2
abbrev Fn := List D → Hh → R D
def startF (n : Nat) (ds : List D) : Fr := ds.map some ++ List.replicate (n - ds.length) none
def tR (n : Nat) (m : M Fl) : Fn := fun ds h => match m (startF n ds) h with
 | .ok (.rt d) _ h => .ok d [] h
 | .ok .nx _ h => .ok .non [] h
 | .ok _ _ _ => .err
 | .exc x _ h => .exc x [] h
 | .err => .err
def runI (c n : Nat) (m : M Fl) : Fn := fun ds h => match m (startF n (.no c [] :: ds)) h with
 | .ok .nx fr h => match (fr : Fr)[0]? with
   | some (some (D.no c' fs)) => if c' = c then .ok (.no c fs) [] h else .err
   | _ => .err
 | .ok _ _ _ => .err
 | .exc x _ h => .exc x [] h
 | .err => .err
def spF (K : PySem.W.Frag) (T : Tb) (n : Nat) (F : Fn) : Sp := fun vs H Q E => ∃ w h ds, Rel K T (Bs.of w H) w [] H [] h ∧ aO K T w vs ds ∧ ds.length = n ∧ bu K T (Bs.of w H) (fun c d _ H' => E c d H') (vE K T (Bs.of w H) []) w [] (F ds h) Q
def vN (K : PySem.W.Frag) (T : Tb) (w : Wd) (G : Hp) (x : Addr) (w' : Wd) (H' : Hp) (_ : Fr) (v : V) (d : D) : Prop := v = .non ∧ Own (Bs.of w G) w' x ∧ ∃ o, H' x = some o ∧ Bb K T w' o d
def spI (K : PySem.W.Frag) (T : Tb) (c n : Nat) (F : Fn) : Sp := fun vs H Q E => ∃ w h ds G x dx us, vs = .ref x :: us ∧ G x = none ∧ H = upd G x (.ins (T.cad c) dx []) ∧ Rel K T (Bs.of w G) w [] G [] h ∧ aO K T w us ds ∧ ds.length + 1 = n ∧
 bu K T (Bs.of w G) (fun c d _ H' => E c d H') (vN K T w G x) w [] (F ds h) Q
section
variable {K : PySem.W.Frag} {T : Tb} {B : Bs} {w w' : Wd} {σ : L2.St} {H H' : Hp} {fr : Fr} {h : Hh}
theorem O8 {n : Nat} {ds : List D} (hl : ds.length ≤ n) : (startF n ds).length = n := by
 unfold startF
 rw [ajk, aje, List.length_replicate]
 omega
theorem Jq {n i : Nat} {ds : List D} {d : D} (e : (startF n ds)[i]? = some (some d)) : ds[i]? = some d := by
 unfold startF at e
 by_cases hi : i < ds.length
 · rw [List.getElem?_append_left (by simpa using hi), ajm] at e
   cases q : ds[i]? with
   | none => rw [q] at e; cases e
   | some a => rw [q] at e; cases e; rfl
 · rw [ajl (by simpa using hi), List.getElem?_replicate] at e
   split at e <;> cases e
theorem YC {N : List Str} {vs : List V} {i : Nat} {v : V} (e : vs[i]? = some v) : (L2.start N vs)[i]? = some (some v) := by
 unfold L2.start
 have hi : i < vs.length := (List.getElem?_eq_some_iff.mp e).1
 rw [List.getElem?_append_left (by simpa using hi), ajm, e]
 rfl
theorem Xg {N : List Str} {vs : List V} (hl : vs.length ≤ N.length) : (L2.start N vs).length = N.length := by
 unfold L2.start
 rw [ajk, aje, List.length_replicate]
 omega
theorem Rel.start (R : Rel K T B w [] H [] h) {N : List Str} {vs : List V} {ds : List D} (rs : aO K T w vs ds) (hl : ds.length ≤ N.length) : Rel K T B w (L2.start N vs) H (startF N.length ds) h :=
 { R with
   me := fun x d bx e od => by
    obtain ⟨v, ev, rv⟩ := rs.get (Jq e)
    exact (Di od rv).elim
   fl := by rw [O8 hl, Xg (by rw [rs.length]; exact hl)]
   sl := fun i s d e1 e2 => by
    cases d with
    | none => exact .none
    | some d =>
      obtain ⟨v, ev, rv⟩ := rs.get (Jq e2)
      rw [YC ev] at e1
      cases e1
      exact .val rv
   sep := fun i j p hij ⟨_, d, e, od⟩ _ => by
    obtain ⟨v, ev, rv⟩ := rs.get (Jq e)
    exact Di od rv }
theorem Rel.startI (R : Rel K T B w [] H [] h) {N : List Str} {x dx : Addr} {c : Nat} {vs : List V} {ds : List D} (hB : B.me = some x) (nx : H x = none) (rs : aO K T w vs ds) (hl : ds.length + 1 ≤ N.length) :
 Rel K T B w (L2.start N (.ref x :: vs)) (upd H x (.ins (T.cad c) dx [])) (startF N.length (.no c [] :: ds)) h := by
 have R1 : Rel K T B w [] (upd H x (.ins (T.cad c) dx [])) [] h := R.temp nx
 have O : Own B w x := R.own_new nx
 have sl : ∀ (i : Nat) s d, (L2.start N (.ref x :: vs))[i]? = some s → (startF N.length (.no c [] :: ds))[i]? = some d → N7 K T B w (upd H x (.ins (T.cad c) dx [])) s d := fun i s d e1 e2 => by
  cases d with
  | none => exact .none
  | some d =>
    have q := Jq e2
    cases i with
    | zero =>
      cases q
      cases e1
      exact .own O upd_same (by
       have z : Bb K T w (.ins (T.cad c) dx ((T.fld c).zip [])) (.no c []) := .obj .nil
       rw [List.zip_nil_right] at z
       exact z)
    | succ i =>
      obtain ⟨v, ev, rv⟩ := rs.get (show ds[i]? = some d from q)
      have e3 : (L2.start N (.ref x :: vs))[i + 1]? = some (some v) := YC (show (V.ref x :: vs)[i + 1]? = some v from ev)
      rw [e3] at e1
      cases e1
      exact .val rv
 have hown : ∀ (i : Nat) d, (startF N.length (.no c [] :: ds))[i]? = some (some d) → d.own = true → i = 0 := fun i d e od => by
  cases i with
  | zero => rfl
  | succ i =>
    have q := Jq e
    obtain ⟨v, ev, rv⟩ := rs.get (show ds[i]? = some d from q)
    exact (Di od rv).elim
 refine { R1 with fl := ?_, sl := sl, sep := fun i j p hij ⟨_, d, e, od⟩ ⟨_, d', e', od'⟩ => hij ((hown i d e od).trans (hown j d' e' od').symm), me := fun y d bx e od => ?_ }
 · rw [O8 (by simpa using hl), Xg (by rw [aiX, rs.length]; exact hl)]
 · have bx' : some x = some y := hB.symm.trans bx
   cases bx'
   rfl
theorem Rel.unme {m : Option Addr} {w0 : Wd} {G : Hp} (R : Rel K T ⟨w0, G, [], m⟩ w [] H [] h) : Rel K T (Bs.of w0 G) w [] H [] h := { R with me := (fun _ _ _ q _ => by simp at q), sl := fun _ _ _ q => by simp at q }
theorem Rel.ofme {x : Addr} {w0 : Wd} {G : Hp} (R : Rel K T (Bs.of w0 G) w [] H [] h) : Rel K T ⟨w0, G, [], some x⟩ w [] H [] h := { R with me := (fun _ _ _ q _ => by simp at q), sl := fun _ _ _ q => by simp at q }
end
section
variable {P : Program} {w : World} {K : PySem.W.Frag} {mg : Str → Option Value} {base : Heap} {T : Tb} {k : Nat} {x qual : Str} {params : Arguments} {body : List Stmt} {scope : Scope} {dvs : List V} {kws : List (Str × V)} {f : Addr} {fd : FuncData} {N ps : List Str}
abbrev Cxd (P : Program) (w : World) (K : PySem.W.Frag) (mg : Str → Option Value) (base : Heap) (N : List Str) (qual : Str) (scope : Scope) (f : Addr) (cdv : Value) (A : Around) (outer : List Env) (s : Shared) (H : Hp) (E : XK) : Cx := cxOf (L2.CX P w) P w K mg base N qual scope f cdv A outer s H E
def WX.up (E : XK) : WX := fun c d _ H' => E c d H'
def Does (P : Program) (w : World) (K : PySem.W.Frag) (mg : Str → Option Value) (base : Heap) (T : Tb) (k : Nat) (N : List Str) (qual : Str) (scope : Scope) (body : List Stmt) (m : M Fl) : Prop :=
 ∀ (f : Addr) (cdv : Value) (A : Around) (outer : List Env) (s : Shared) (H : Hp) (E : XK), Cq (Cxd P w K mg base N qual scope f cdv A outer s H E) T (WX.up E) k → GZ (Cxd P w K mg base N qual scope f cdv A outer s H E) T (WX.up E) body m
theorem abl (S : FnScope N ps scope) {cdv : Value} {A : Around} {outer : List Env} {s : Shared} {H : Hp} {E : XK} (hr : Room k (A.deeper (PyProof.Rows.envOfC qual scope s.heap.objs.size f cdv))) : Cq (Cxd P w K mg base N qual scope f cdv A outer s H E) T (WX.up E) k :=
 ⟨rfl, S.nd, hr, takes_of rfl rfl rfl rfl, passes_of rfl⟩
theorem fn_sim (F : FunD K x qual params body scope dvs kws f fd) (S : FnScope N ps scope) {m : M Fl} (dm : Does P w K mg base T k N qual scope body m) : FnOk P w K mg base (L2.CX P w) (k + 1) f fd ps (spF K T ps.length (tR N.length m)) := by
 refine F.ok S (fun vs H Q E ⟨w, h, ds, _, rs, hl, _⟩ => rs.length.trans hl) fun cdv A outer s H vs Q E hr ⟨w, h, ds, R, rs, hl, post⟩ => ⟨Yh _ body, Dj, ?_⟩
 have hpl : ps.length ≤ N.length := by
  have := congrArg List.length S.pre
  rw [List.length_take] at this
  omega
 refine dm f cdv A outer s H E (abl S hr) (Bs.of w H) w _ H (startF N.length ds) h _ (R.start rs (by rw [hl]; exact hpl)) ?_
 unfold tR at post
 cases e : m (startF N.length ds) h with
 | ok fl fr h' =>
   rw [e] at post
   cases fl with
   | nx => exact fun w' σ' H' l R' => post w' H' .non l R'.unframe (.inl .non)
   | rt d => exact fun w' σ' H' v l R' rv => post w' H' v l R'.unframe (by
    rcases rv with rv | ⟨p, o, rfl, O, lo, eH, rd⟩
    · exact .inl rv
    · exact .inr ⟨p, o, rfl, O, fun i => Qc, eH, rd⟩)
   | brk => exact post.elim
   | ct => exact post.elim
 | exc y fr h' =>
   rw [e] at post
   exact fun w' σ' H' c dd l R' z => post w' H' c dd l R'.unframe z
 | err => rw [e] at post; exact post
theorem ae5 (c : Nat) (F : FunD K x qual params body scope dvs kws f fd) (S : FnScope N ps scope) {m : M Fl} (dm : Does P w K mg base T k N qual scope body m) : FnOk P w K mg base (L2.CX P w) (k + 1) f fd ps (spI K T c ps.length (runI c N.length m)) := by
 refine F.ok S (fun vs H Q E ⟨w, h, ds, G, x, dx, us, ev, _, _, _, rs, hl, _⟩ => by rw [ev, aiX, rs.length]; exact hl) fun cdv A outer s H vs Q E hr ⟨w, h, ds, G, x, dx, us, ev, nx, eH, R, rs, hl, post⟩ => ⟨Yh _ body, Dj, ?_⟩
 have hpl : ps.length ≤ N.length := by
  have := congrArg List.length S.pre
  rw [List.length_take] at this
  omega
 subst ev eH
 refine dm f cdv A outer s _ E (abl S hr) ⟨w, G, [], some x⟩ w _ _ (startF N.length (.no c [] :: ds)) h _ (R.ofme.startI rfl nx rs (by rw [hl]; exact hpl)) ?_
 unfold runI at post
 cases e : m (startF N.length (.no c [] :: ds)) h with
 | ok fl fr h' =>
   rw [e] at post
   cases fl with
   | nx =>
     intro w' σ' H' l R'
     dsimp only at post
     cases e0 : (fr : Fr)[0]? with
     | none => rw [e0] at post; exact post.elim
     | some od =>
       rw [e0] at post
       cases od with
       | none => exact post.elim
       | some d =>
         cases d with
         | no c' fs =>
           dsimp only at post
           by_cases hc : c' = c
           · rw [if_pos hc] at post
             subst hc
             have s0 := R'.me x _ rfl e0 rfl
             obtain ⟨v, ev, z⟩ := vm R' e0
             rw [s0] at ev
             cases ev
             cases z with
             | val r => cases r
             | own O eH r => exact post w' H' .non l R'.unframe.unme ⟨rfl, ⟨O.f, O.i, O.e, fun q hq => by cases hq⟩, _, eH, r⟩
           · rw [if_neg hc] at post
             exact post.elim
         | _ => exact post.elim
   | rt d => exact post.elim
   | brk => exact post.elim
   | ct => exact post.elim
 | exc y fr h' =>
   rw [e] at post
   exact fun w' σ' H' c dd l R' z => post w' H' c dd l R'.unframe.unme z
 | err => rw [e] at post; exact post
end
end Pk
namespace Pk
open PySem PySem.Spec L2
structure WKw (X : Cx) (kws : List Keyword) (σ : L2.St) (H : Hp) (Q : List V → Hp → Prop) : Prop where
 go : ∀ pos pins s, Inv X pins σ H s → wpAny (model X.prog X.w) X.A (evalAll ((backToKw pos (keywordEach kws X.env)).map (·.2))) (AP X pins σ Q) X.xe s
abbrev aii (X : Cx) (T : Tb) (W : WX) (kws : List Keyword) (m : M (List D)) : Prop := wF (WKw X kws) X.K T W vA m
section
variable {X : Cx} {T : Tb} {W : WX} {e : Expr} {kws : List Keyword} {m : M D} {ms : List (M D)} {nm : Option Str} {kpos : Pos}
end
def vD (fr : Fr) : R D → R D
 | .ok d _ h => .ok d fr h
 | .exc x _ h => .exc x fr h
 | .err => .err
theorem RL {K : PySem.W.Frag} {T : Tb} {B : Bs} {W : WX} {w : Wd} {σ : L2.St} {H : Hp} {fr : Fr} {h : Hh} {n : Nat} {F : Fn} {vs : List V} {ds : List D} {Q : VK} (R : Rel K T B w σ H fr h) (rs : aO K T w vs ds) (hl : ds.length = n)
 (p : bu K T B W (vE K T B σ) w σ (vD fr (F ds h)) Q) : spF K T n F vs H Q (fun c d H' => W c d σ H') := by
 refine ⟨w, h, ds, R.enter, rs, hl, ?_⟩
 cases e : F ds h with
 | ok d fr' h' =>
   rw [e] at p
   intro w' H' v l R' rv
   have ef : fr' = [] := by
    have := R'.fl
    exact List.length_eq_zero_iff.mp this
   subst ef
   have R2 := R.back l R'
   refine p w' H' v l R2 ?_
   rcases rv with rv | ⟨q, o, rfl, O, lo, eH, rd⟩
   · exact .inl rv
   · have nq : H q = none := O.e
     refine .inr ⟨q, o, rfl, ⟨O.f, O.i, (R.own_new nq).e, (R.own_new nq).p⟩, fun i z => R.loose_new nq i z, eH, rd⟩
 | exc y fr' h' =>
   rw [e] at p
   intro w' H' c dd l R' z
   have ef : fr' = [] := by
    have := R'.fl
    exact List.length_eq_zero_iff.mp this
   subst ef
   exact p w' H' c dd l (R.back l R') z
 | err => rw [e] at p; exact p
theorem adb {K : PySem.W.Frag} {T : Tb} {B : Bs} {W : WX} {w : Wd} {σ : L2.St} {H : Hp} {fr : Fr} {h : Hh} {n c : Nat} {F : Fn} {vs : List V} {ds : List D} {Q : VK} {x dx : Addr} (R : Rel K T B w σ H fr h) (rs : aO K T w vs ds) (hl : ds.length + 1 = n)
 (nx : H x = none) (nd : H dx = none) (ne : dx ≠ x)
 (p : bu K T B W (vE K T B σ) w σ (vD fr (F ds h)) Q) : spI K T c n F (.ref x :: vs) (upd (upd H dx (.own x)) x (.ins (T.cad c) dx [])) (fun v H2 => v = .non ∧ Q (.ref x) H2) (fun c d H' => W c d σ H') := by
 have R1 : Rel K T B w σ (upd H dx (.own x)) fr h := R.temp nd
 have nx1 : (upd H dx (.own x)) x = none := by rw [upd_ne (Ne.symm ne)]; exact nx
 refine ⟨w, h, ds, upd H dx (.own x), x, dx, vs, rfl, nx1, rfl, R1.enter, rs, hl, ?_⟩
 cases e : F ds h with
 | ok d fr' h' =>
   rw [e] at p
   intro w' H' v l R' ⟨ev, O, o, eH, rd⟩
   have ef : fr' = [] := by
    have := R'.fl
    exact List.length_eq_zero_iff.mp this
   subst ef
   exact ⟨ev, p w' H' (.ref x) l (R1.back l R') (.inr ⟨x, o, rfl, ⟨O.f, O.i, (R1.own_new nx1).e, (R1.own_new nx1).p⟩, fun i z => R1.loose_new nx1 i z, eH, rd⟩)⟩
 | exc y fr' h' =>
   rw [e] at p
   intro w' H' c dd l R' z
   have ef : fr' = [] := by
    have := R'.fl
    exact List.length_eq_zero_iff.mp this
   subst ef
   exact p w' H' c dd l (R1.back l R') z
 | err => rw [e] at p; exact p
structure Bn (K : PySem.W.Frag) (T : Tb) (fd : FuncData) (ps : List Str) (n : Nat) (ks : List Str) (gD : List D → List D → List D) : Prop where
 ex : ∃ (g : List Value → List Value → List Value) (gV : List V → List V → List V), KBn K fd ps n ks g gV ∧
  ∀ (w : Wd) (vs zs : List V) (ds es : List D), aO K T w vs ds → aO K T w zs es → ds.length = n → es.length = ks.length → aO K T w (gV vs zs) (gD ds es) ∧ (gD ds es).length = ps.length
def aK (dfl : List D) (ds _ : List D) : List D := ds ++ dfl
structure v9 (P : Program) (w : World) (K : PySem.W.Frag) (mg : Str → Option Value) (base : Heap) (T : Tb) (k : Nat) (f : Addr) (fd : FuncData) (ps : List Str) (F : Fn) : Prop where
 ok : FnOk P w K mg base (L2.CX P w) k f fd ps (spF K T ps.length F)
 kp : PySem.W.keepIn K (.ref f) = true
structure FnI (P : Program) (w : World) (K : PySem.W.Frag) (mg : Str → Option Value) (base : Heap) (T : Tb) (k c : Nat) (f : Addr) (fd : FuncData) (ps : List Str) (F : Fn) : Prop where
 ok : FnOk P w K mg base (L2.CX P w) k f fd ps (spI K T c ps.length F)
 made : Mk K (T.cad c) f
def cJ (n m : Nat) (F : Fn) (gD : List D → List D → List D) (ma mk : M (List D)) : M D := ma.bind fun ds => mk.bind fun es fr h => if ds.length = n ∧ es.length = m then vD fr (F (gD ds es) h) else .err
theorem vo {K : PySem.W.Frag} {T : Tb} {fd : FuncData} {ps : List Str} (h : Binds K fd ps []) : Bn K T fd ps ps.length [] (aK []) :=
 ⟨fun us _ => us, fun vs _ => vs, ⟨fun s us ws X l1 _ => by
  have b := h s us X (by rw [aiV]; exact l1)
  rw [aiV] at b
  exact b, fun r _ => r⟩, fun w vs zs ds es rs _ hl _ => ⟨by
   show aO K T w vs (ds ++ [])
   rw [aiV]
   exact rs, by
   show (ds ++ []).length = _
   rw [aiV]
   exact hl⟩⟩
section
variable {X : Cx} {T : Tb} {W : WX} {k kk n : Nat} {f C : Addr} {fd : FuncData} {ps ks : List Str} {F : Fn} {x m : Str} {p pos apos : Pos} {e o : Expr} {es : List Expr} {kws : List Keyword} {mo : M D} {ma mk : M (List D)} {gD : List D → List D → List D}
theorem Wf {pins : List (Addr × Obj)} {σ : L2.St} {H : Hp} {s : Shared} {Q : VK} {us ws : List Value} {vs zs : List V} {g : List Value → List Value → List Value} {gV : List V → List V → List V} {sp : Sp} (F : FnOk X.prog X.w X.K X.mg X.base (L2.CX X.prog X.w) kk f fd ps sp) (hr : Room kk X.A) (hb : KBn X.K fd ps n ks g gV) (tk : Takes X W)
 (I : Inv X pins σ H s) (r : Vals vs us) (rz : Vals zs ws) (l1 : vs.length = n) (l2 : zs.length = ks.length) (h : sp (gV vs zs) H Q (fun c d H' => W c d σ H')) : wpAny (model X.prog X.w) X.A (call (.ref f) us (ks.zip ws)) (EP X pins σ Q) X.xe s := by
 have r2 := hb.rel r rz
 refine wpAny_call (codeAny_mono (F.run X.A X.stack s H ⟨us, ks.zip ws⟩ (g us ws) (gV vs zs) Q _ hr I.env0 (hb.to s us ws I.kIn (r.length.symm.trans l1) (rz.length.symm.trans l2)) r2 h) fun r s' hq => ?_)
 cases r with
 | error e => exact passAt tk σ pins H s e s' I hq
 | ok fl =>
   cases fl with
   | ret u => exact I.after hq
   | next => exact False.elim hq
   | brk => exact False.elim hq
   | cont => exact False.elim hq
theorem run_mk {pins : List (Addr × Obj)} {σ : L2.St} {H : Hp} {s : Shared} {Q : VK} {us ws : List Value} {vs zs : List V} {g : List Value → List Value → List Value} {gV : List V → List V → List V} {sp : Sp} (M : Mk X.K C f) (F : FnOk X.prog X.w X.K X.mg X.base (L2.CX X.prog X.w) kk f fd ps sp) (hr : Room (kk + 1) X.A) (hb : KBn X.K fd ps (n + 1) ks g gV) (tk : Takes X W)
 (I : Inv X pins σ H s) (r : Vals vs us) (rz : Vals zs ws) (l1 : vs.length = n) (l2 : zs.length = ks.length)
 (h : ∀ x dx, H x = none → H dx = none → dx ≠ x → sp (gV (.ref x :: vs) zs) (upd (upd H dx (.own x)) x (.ins C dx [])) (fun v H2 => v = .non ∧ Q (.ref x) H2) (fun c d H' => W c d σ H')) :
 wpAny (model X.prog X.w) X.A (call (.ref C) us (ks.zip ws)) (EP X pins σ Q) X.xe s := by
 have hq := h (s.heap.objs.size + 1) s.heap.objs.size (I.hok.fresh (Nat.le_succ _)) (I.hok.fresh (Nat.le_refl _)) (Nat.ne_of_lt (Nat.lt_succ_self _))
 have I2 := Inv.made (C := C) I
 have r1 : Vals (V.ref (s.heap.objs.size + 1) :: vs) (Value.ref (s.heap.objs.size + 1) :: us) := .cons rfl r
 have r2 := hb.rel r1 rz
 have n1 : (Value.ref (s.heap.objs.size + 1) :: us).length = n + 1 := by
  rw [aiX, ← r.length, l1]
 refine wpAny_call (make_map (f := f) I.kIn M.makes M.init (beq_iff_eq.mp M.fn) (codeAny_mono (F.run _ X.stack _ _ ⟨Value.ref (s.heap.objs.size + 1) :: us, ks.zip ws⟩ (g (Value.ref (s.heap.objs.size + 1) :: us) ws) _ _ _ (hr.make C us (ks.zip ws))
  (I2.env0.make C us (ks.zip ws)) (hb.to _ (Value.ref (s.heap.objs.size + 1) :: us) ws I2.kIn n1 (rz.length.symm.trans l2)) r2 hq) fun r s' hq' => ?_))
 cases r with
 | error e => exact passAt tk σ pins _ _ e s' I2 hq'
 | ok fl =>
   cases fl with
   | ret u =>
     obtain ⟨v, H', I3, rv, ev, q3⟩ := I2.after hq'
     subst ev
     exact ⟨rv, ⟨V.ref (s.heap.objs.size + 1), H', I3, rfl, q3⟩⟩
   | next => exact False.elim hq'
   | brk => exact False.elim hq'
   | cont => exact False.elim hq'
theorem Kw {B : Bs} {w : Wd} {σ : L2.St} {H : Hp} {fr : Fr} {h : Hh} {m : Nat} {vs zs : List V} {ds es : List D} {Q : VK} {gV : List V → List V → List V} (hg : ∀ (w : Wd) (vs zs : List V) (ds es : List D), aO X.K T w vs ds → aO X.K T w zs es → ds.length = n → es.length = m → aO X.K T w (gV vs zs) (gD ds es) ∧ (gD ds es).length = ps.length)
 (R : Rel X.K T B w σ H fr h) (rs : aO X.K T w vs ds) (rz : aO X.K T w zs es) (p : bu X.K T B W (vE X.K T B σ) w σ (if ds.length = n ∧ es.length = m then vD fr (F (gD ds es) h) else .err) Q) :
 vs.length = n ∧ zs.length = m ∧ spF X.K T ps.length F (gV vs zs) H Q (fun c d H' => W c d σ H') := by
 by_cases hl : ds.length = n ∧ es.length = m
 · rw [if_pos hl] at p
   obtain ⟨r2, l2⟩ := hg w vs zs ds es rs rz hl.1 hl.2
   exact ⟨rs.length.trans hl.1, rz.length.trans hl.2, RL R r2 l2 p⟩
 · rw [if_neg hl] at p
   exact p.elim
theorem rN (C : Cq X T W k) (F0 : v9 X.prog X.w X.K X.mg X.base T kk f fd ps F) (hk : kk ≤ k) (bn : Bn X.K T fd ps n [] gD) (hm : X.mg x = some (.ref f)) (sa : CP X T W (e :: es) ma) (hg : Gl X x := by rfl) (hdb : (x == ("__debug__" : Str)) = false := by decide)
 (he : starEach (e :: es) X.env = (false, eval e X.env) :: starEach es X.env := by exact uG rfl) (hpl : (backTo pos (starEach es X.env)).any (·.1) = false := by rfl) : zQ X T W (.Call (.Name x p) (e :: es) [] pos) (cJ n 0 F gD ma (aj [])) := fun B w σ H fr h Q R pp => WE.mk <| fun pins s I => by
 obtain ⟨g, gV, hb, hgD⟩ := bn.ex
 refine wpAny_Call_Name_kw (ld_glob I hg hm ?_ hdb)
 refine PySem.W.callWith_K (h₀ := X.base) I.ok.mod.kin F0.kp (thn ((sa B w σ H fr h _ R (bu.bind (VR := vA X.K T B σ) pp fun ds fr1 h1 w1 H1 vs e1 l1 r1 rs p1 => Kw hgD r1 rs .nil p1)).go pos pins s I) fun us s1 ⟨vs, H1, I1, r, q⟩ => ⟨I1.kIn, ?_⟩) he hpl
 exact Wf (ws := []) F0.ok (C.room.mono hk) hb C.takes I1 r .nil q.1 rfl q.2.2
end
end Pk
namespace Pk
open PySem PySem.Spec L2
structure BnI (K : PySem.W.Frag) (T : Tb) (fd : FuncData) (ps : List Str) (n : Nat) (ks : List Str) (gD : List D → List D → List D) : Prop where
 ex : ∃ (g : List Value → List Value → List Value) (gV gW : List V → List V → List V), KBn K fd ps (n + 1) ks g gV ∧ (∀ x vs zs, vs.length = n → zs.length = ks.length → gV (x :: vs) zs = x :: gW vs zs) ∧
  ∀ (w : Wd) (vs zs : List V) (ds es : List D), aO K T w vs ds → aO K T w zs es → ds.length = n → es.length = ks.length → aO K T w (gW vs zs) (gD ds es) ∧ (gD ds es).length + 1 = ps.length
theorem aaD {K : PySem.W.Frag} {T : Tb} {fd : FuncData} {ps : List Str} (n : Nat) (h : Binds K fd ps []) (hn : n + 1 = ps.length) : BnI K T fd ps n [] (aK []) :=
 ⟨fun us _ => us, fun vs _ => vs, fun vs _ => vs, ⟨fun s us ws X l1 _ => by
  have b := h s us X (by rw [aiV, l1]; exact hn)
  rw [aiV] at b
  exact b, fun r _ => r⟩, fun _ _ _ _ _ => rfl, fun w vs zs ds es rs _ hl _ => ⟨by
   show aO K T w vs (ds ++ [])
   rw [aiV]
   exact rs, by
   show (ds ++ []).length + 1 = _
   rw [aiV, hl]
   exact hn⟩⟩
section
variable {X : Cx} {T : Tb} {W : WX} {k kk n c : Nat} {f : Addr} {fd : FuncData} {ps ks : List Str} {F : Fn} {x m : Str} {p pos apos : Pos} {e o : Expr} {es : List Expr} {kws : List Keyword} {mo : M D} {ma mk : M (List D)} {gD : List D → List D → List D}
theorem adc {B : Bs} {w : Wd} {σ : L2.St} {H : Hp} {fr : Fr} {h : Hh} {m : Nat} {vs zs : List V} {ds es : List D} {Q : VK} {gV gW : List V → List V → List V} (hv : ∀ x vs zs, vs.length = n → zs.length = m → gV (x :: vs) zs = x :: gW vs zs)
 (hg : ∀ (w : Wd) (vs zs : List V) (ds es : List D), aO X.K T w vs ds → aO X.K T w zs es → ds.length = n → es.length = m → aO X.K T w (gW vs zs) (gD ds es) ∧ (gD ds es).length + 1 = ps.length)
 (R : Rel X.K T B w σ H fr h) (rs : aO X.K T w vs ds) (rz : aO X.K T w zs es) (p : bu X.K T B W (vE X.K T B σ) w σ (if ds.length = n ∧ es.length = m then vD fr (F (gD ds es) h) else .err) Q) :
 vs.length = n ∧ zs.length = m ∧ ∀ x dx, H x = none → H dx = none → dx ≠ x → spI X.K T c ps.length F (gV (.ref x :: vs) zs) (upd (upd H dx (.own x)) x (.ins (T.cad c) dx [])) (fun v H2 => v = .non ∧ Q (.ref x) H2) (fun c d H' => W c d σ H') := by
 by_cases hl : ds.length = n ∧ es.length = m
 · rw [if_pos hl] at p
   obtain ⟨r2, l2⟩ := hg w vs zs ds es rs rz hl.1 hl.2
   refine ⟨rs.length.trans hl.1, rz.length.trans hl.2, fun x dx nx nd ne => ?_⟩
   rw [hv _ _ _ (rs.length.trans hl.1) (rz.length.trans hl.2)]
   exact adb R r2 l2 nx nd ne p
 · rw [if_neg hl] at p
   exact p.elim
theorem aaE (C : Cq X T W k) (F0 : FnI X.prog X.w X.K X.mg X.base T kk c f fd ps F) (hk : kk + 1 ≤ k) (bn : BnI X.K T fd ps n [] gD) (hm : X.mg x = some (.ref (T.cad c))) (sa : CP X T W (e :: es) ma) (hg : Gl X x := by rfl) (hdb : (x == ("__debug__" : Str)) = false := by decide)
 (he : starEach (e :: es) X.env = (false, eval e X.env) :: starEach es X.env := by exact uG rfl) (hpl : (backTo pos (starEach es X.env)).any (·.1) = false := by rfl) : zQ X T W (.Call (.Name x p) (e :: es) [] pos) (cJ n 0 F gD ma (aj [])) := fun B w σ H fr h Q R pp => WE.mk <| fun pins s I => by
 obtain ⟨g, gV, gW, hb, hv, hgD⟩ := bn.ex
 refine wpAny_Call_Name_kw (ld_glob I hg hm ?_ hdb)
 refine PySem.W.callWith_K (h₀ := X.base) I.ok.mod.kin F0.made.kp (thn ((sa B w σ H fr h _ R (bu.bind (VR := vA X.K T B σ) pp fun ds fr1 h1 w1 H1 vs e1 l1 r1 rs p1 => adc (c := c) hv hgD r1 rs .nil p1)).go pos pins s I) fun us s1 ⟨vs, H1, I1, r, q⟩ => ⟨I1.kIn, ?_⟩) he hpl
 exact run_mk (ws := []) F0.made F0.ok (C.room.mono hk) hb C.takes I1 r .nil q.1 rfl q.2.2
theorem G3 {α : Type} {f : Str} : ∀ {fs : List Str} {vs : List α}, f ∉ fs → (fs.zip vs).lookup f = none
 | [], _, _ => rfl
 | g :: fs, [], _ => by simp
 | g :: fs, v :: vs, h => by
   rw [List.mem_cons, not_or] at h
   show ajd f ((g, v) :: fs.zip vs) = none
   rw [List.lookup_cons, beq_eq_false_iff_ne.mpr h.1]
   exact G3 h.2
structure Dm (X : Cx) (T : Tb) (k : Nat) (m : Str) (mt : Nat → Option Fn) (n : Nat) (ks : List Str) (gD : List D → List D → List D) : Prop where
 ex : ∀ c F, mt c = some F → ∃ (kk : Nat) (f : Addr) (fd : FuncData) (ps : List Str), Cls X.K (T.cad c) ∧ Meth X.K (T.cad c) m f ∧ v9 X.prog X.w X.K X.mg X.base T kk f fd ps F ∧ Bn X.K T fd ps (n + 1) ks gD ∧ m ∉ T.fld c ∧ kk ≤ k
def fnOf (mt : Nat → Option Fn) (h : Hh) (o : D) : Option Fn := match o.ins h with
 | some (c, _) => mt c
 | none => none
def tX (n m : Nat) (mt : Nat → Option Fn) (gD : List D → List D → List D) (mo : M D) (ma mk : M (List D)) : M D := mo.bind fun o fr h => match fnOf mt h o with
 | some F => (cJ (n + 1) m F gD (ma.bind fun ds => M.ret (o :: ds)) mk) fr h
 | none => .err
theorem Qq {B : Bs} {w : Wd} {σ : L2.St} {H : Hp} {fr : Fr} {h : Hh} {mt : Nat → Option Fn} {v : V} {d : D} {G : Fn} (M : Dm X T k m mt n ks gD) (R : Rel X.K T B w σ H fr h) (rv : rC X.K T w v d) (e : fnOf mt h d = some G) :
 ∃ (kk : Nat) (f : Addr) (fd : FuncData) (ps : List Str) (a C dx : Addr) (fs : List (Str × V)), v = .ref a ∧ H a = some (.ins C dx fs) ∧ fs.lookup m = none ∧ Cls X.K C ∧ Meth X.K C m f ∧ v9 X.prog X.w X.K X.mg X.base T kk f fd ps G ∧ Bn X.K T fd ps (n + 1) ks gD ∧ kk ≤ k := by
 unfold fnOf at e
 split at e
 · rename_i c fs ei
   obtain ⟨kk, f, fd, ps, c1, c2, c3, c4, c5, c6⟩ := M.ex c G e
   obtain ⟨a, dx, vs, rfl, eH, rs⟩ := HQ R (.inl rv) ei
   exact ⟨kk, f, fd, ps, a, T.cad c, dx, _, rfl, eH, G3 c5, c1, c2, c3, c4, c6⟩
 · cases e
theorem HS {pl : Sem Bool} {mt : Nat → Option Fn} (C : Cq X T W k) (Mf : Dm X T k m mt n [] gD) (so : cO X T W o mo) (sa : CP X T W (e :: es) ma)
 (hst : starEach (e :: es) X.env = (false, eval e X.env) :: starEach es X.env := by exact uG rfl) (hpl : (backTo pos (starEach es X.env)).any (·.1) = false := by rfl)
 (ht : eval (.Call (.Attribute o m apos) (e :: es) [] pos) X.env = (do
  let ov ← eval o X.env
  standAt apos.atName
  let (f, first) ← holding [ov] (getMethod ov m pl)
  callWith pos f first (backTo pos (starEach (e :: es) X.env)) (backToKw pos (keywordEach [] X.env))) := by rfl) :
 zQ X T W (.Call (.Attribute o m apos) (e :: es) [] pos) (tX n 0 mt gD mo ma (aj [])) := fun B w σ H fr h Q R pp => WE.mk <| fun pins s I => by
 refine PySem.W.methodCall_KW (pl := pl) (thn ((so B w σ H fr h (fun v H1 => ∃ (kk : Nat) (f : Addr) (fd : FuncData) (ps : List Str) (a C dx : Addr) (fs : List (Str × V)) (G : Fn), v = .ref a ∧ H1 a = some (.ins C dx fs) ∧ fs.lookup m = none ∧ Cls X.K C ∧ Meth X.K C m f ∧ v9 X.prog X.w X.K X.mg X.base T kk f fd ps G ∧ Bn X.K T fd ps (n + 1) [] gD ∧ kk ≤ k ∧
  ∀ g gV, KBn X.K fd ps (n + 1) [] g gV → (∀ (w : Wd) (vs zs : List V) (ds es : List D), aO X.K T w vs ds → aO X.K T w zs es → ds.length = n + 1 → es.length = ([] : List Str).length → aO X.K T w (gV vs zs) (gD ds es) ∧ (gD ds es).length = ps.length) →
    WA X (e :: es) σ H1 fun vs H2 => (.ref a :: vs).length = n + 1 ∧ spF X.K T ps.length G (gV (.ref a :: vs) []) H2 Q (fun c d H' => W c d σ H')) R (bu.bind (VR := vV X.K T B σ) pp fun d fr1 h1 w1 H1 v e1 l1 r1 rv p1 => ?_)).go pins s I) fun u s1 ⟨x, H1, I1, rx, kk, f, fd, ps, a, Cl, dx, fs, G, ex, ea, l, c1, c2, c3, c4, c5, q⟩ => ?_) ht
 · have p1' : bu X.K T B W (vE X.K T B σ) w1 σ (match fnOf mt h1 d with | some F => (cJ (n + 1) 0 F gD (ma.bind fun ds => M.ret (d :: ds)) (aj [])) fr1 h1 | none => .err) Q := p1
   cases ef : fnOf mt h1 d with
   | none => rw [ef] at p1'; exact p1'.elim
   | some G =>
     rw [ef] at p1'
     obtain ⟨kk, f, fd, ps, a, Cl, dx, fs, rfl, eH, l, c1, c2, c3, c4, c5⟩ := Qq Mf r1 rv ef
     refine ⟨kk, f, fd, ps, a, Cl, dx, fs, G, rfl, eH, l, c1, c2, c3, c4, c5, fun g gV hb hgD => ?_⟩
     have p2 : bu X.K T B W (vE X.K T B σ) w1 σ ((ma.bind fun ds fr h => if (d :: ds).length = n + 1 ∧ ([] : List D).length = 0 then vD fr (G (gD (d :: ds) []) h) else .err) fr1 h1) Q := by
      have ee : (cJ (n + 1) 0 G gD (ma.bind fun ds => M.ret (d :: ds)) (aj [])) fr1 h1 = (ma.bind fun ds fr h => if (d :: ds).length = n + 1 ∧ ([] : List D).length = 0 then vD fr (G (gD (d :: ds) []) h) else .err) fr1 h1 := by
       unfold cJ M.bind
       cases ma fr1 h1 <;> rfl
      rw [← ee]
      exact p1'
     refine sa B w1 σ H1 fr1 h1 _ r1 (bu.bind (VR := vA X.K T B σ) p2 fun ds fr2 h2 w2 H2 vs e2 l2 r2 rs p3 => ?_)
     have q := Kw (n := n + 1) (m := 0) (zs := []) (es := []) hgD r2 (.cons (rv.mono l2) rs) .nil p3
     exact ⟨q.1, q.2.2⟩
 · subst ex
   obtain rfl : u = Value.ref a := rx
   obtain ⟨g, gV, hb, hgD⟩ := c4.ex
   refine getmeth_ok I1 ea c1 c2 l ?_
   refine PySem.W.callWith_K (first := [.ref a]) (h₀ := X.base) I.ok.mod.kin c2.kp (thn ((q g gV hb hgD).go pos pins s1 I1) fun us s2 ⟨vs, H2, I2, r, q2⟩ => ⟨I2.kIn, ?_⟩) hst hpl
   exact Wf (us := .ref a :: us) (ws := []) (vs := .ref a :: vs) c3.ok (C.room.mono c5) hb C.takes I2 (.cons rfl r) .nil q2.1 rfl q2.2
theorem xq {pl : Sem Bool} {mt : Nat → Option Fn} (C : Cq X T W k) (Mf : Dm X T k m mt 0 [] gD) (so : cO X T W o mo)
 (ht : eval (.Call (.Attribute o m apos) [] [] pos) X.env = (do
  let ov ← eval o X.env
  standAt apos.atName
  let (f, first) ← holding [ov] (getMethod ov m pl)
  callWith pos f first (backTo pos (starEach [] X.env)) (backToKw pos (keywordEach [] X.env))) := by rfl) :
 zQ X T W (.Call (.Attribute o m apos) [] [] pos) (tX 0 0 mt gD mo (aj []) (aj [])) := fun B w σ H fr h Q R pp => WE.mk <| fun pins s I => by
 refine PySem.W.methodCall_KW (pl := pl) (thn ((so B w σ H fr h (fun v H1 => ∃ (kk : Nat) (f : Addr) (fd : FuncData) (ps : List Str) (a C dx : Addr) (fs : List (Str × V)) (G : Fn), v = .ref a ∧ H1 a = some (.ins C dx fs) ∧ fs.lookup m = none ∧ Cls X.K C ∧ Meth X.K C m f ∧ v9 X.prog X.w X.K X.mg X.base T kk f fd ps G ∧ Bn X.K T fd ps (0 + 1) [] gD ∧ kk ≤ k ∧
  ∀ g gV, KBn X.K fd ps (0 + 1) [] g gV → (∀ (w : Wd) (vs zs : List V) (ds es : List D), aO X.K T w vs ds → aO X.K T w zs es → ds.length = 0 + 1 → es.length = ([] : List Str).length → aO X.K T w (gV vs zs) (gD ds es) ∧ (gD ds es).length = ps.length) →
    spF X.K T ps.length G (gV [.ref a] []) H1 Q (fun c d H' => W c d σ H')) R (bu.bind (VR := vV X.K T B σ) pp fun d fr1 h1 w1 H1 v e1 l1 r1 rv p1 => ?_)).go pins s I) fun u s1 ⟨x, H1, I1, rx, kk, f, fd, ps, a, Cl, dx, fs, G, ex, ea, l, c1, c2, c3, c4, c5, q⟩ => ?_) ht
 · have p1' : bu X.K T B W (vE X.K T B σ) w1 σ (match fnOf mt h1 d with | some F => (cJ (0 + 1) 0 F gD ((aj []).bind fun ds => M.ret (d :: ds)) (aj [])) fr1 h1 | none => .err) Q := p1
   cases ef : fnOf mt h1 d with
   | none => rw [ef] at p1'; exact p1'.elim
   | some G =>
     rw [ef] at p1'
     obtain ⟨kk, f, fd, ps, a, Cl, dx, fs, rfl, eH, l, c1, c2, c3, c4, c5⟩ := Qq Mf r1 rv ef
     refine ⟨kk, f, fd, ps, a, Cl, dx, fs, G, rfl, eH, l, c1, c2, c3, c4, c5, fun g gV hb hgD => ?_⟩
     exact (Kw (n := 0 + 1) (m := 0) (zs := []) (es := []) (ds := [d]) hgD r1 (.cons rv .nil) .nil p1').2.2
 · subst ex
   obtain rfl : u = Value.ref a := rx
   obtain ⟨g, gV, hb, hgD⟩ := c4.ex
   refine getmeth_ok I1 ea c1 c2 l ?_
   exact PySem.W.callWith_K0 (first := [.ref a]) I1.kIn c2.kp (Wf (us := [.ref a]) (ws := []) (vs := [.ref a]) c3.ok (C.room.mono c5) hb C.takes I1 (.cons rfl .nil) .nil rfl rfl (q g gV hb hgD))
structure aeE (X : Cx) (T : Tb) (k : Nat) (m : Str) (mt : Nat → Option Fn) : Prop where
 ex : ∀ c F, mt c = some F → ∃ (kk : Nat) (pa f : Addr) (fd : FuncData) (ps : List Str), Cls X.K (T.cad c) ∧ PropOf X.K (T.cad c) m pa f ∧ v9 X.prog X.w X.K X.mg X.base T kk f fd ps F ∧ Binds X.K fd ps [] ∧ ps.length = 1 ∧ kk + 1 ≤ k
def LK (mt : Nat → Option Fn) (mo : M D) : M D := mo.bind fun o fr h => match fnOf mt h o with
 | some F => match F [o] h with
   | .ok d _ h => .ok d fr h
   | _ => .err
 | none => .err
theorem aaf {X : Cx} : Passes (L2.CX X.prog X.w) X.nox (fun _ _ _ => False) := fun pins σ H s e s' I c => by
 obtain ⟨a, B, H', cls, d, rfl, fl, hok, ub, na, os, ag, hE⟩ := c
 exact hE.elim
theorem aaF {mt : Nat → Option Fn} (C : Cq X T W k) (M : aeE X T k m mt) (so : cO X T W o mo) (hab : attributeBase o m X.env (eval o X.env) = eval o X.env := by rfl) : zQ X T W (.Attribute o m pos) (LK mt mo) := fun B w σ H fr h Q R pp => WE.mk <| fun pins s I => by
 refine attr_of hab (thn ((so B w σ H fr h (fun v H1 => ∃ (kk : Nat) (pa f : Addr) (fd : FuncData) (ps : List Str) (a C dx : Addr) (fs : List (Str × V)) (G : Fn), v = .ref a ∧ H1 a = some (.ins C dx fs) ∧ Cls X.K C ∧ PropOf X.K C m pa f ∧ v9 X.prog X.w X.K X.mg X.base T kk f fd ps G ∧ Binds X.K fd ps [] ∧ kk + 1 ≤ k ∧ spF X.K T ps.length G [.ref a] H1 Q (fun _ _ _ => False))
  R (bu.bind (VR := vV X.K T B σ) pp fun d fr1 h1 w1 H1 v e1 l1 r1 rv p1 => ?_)).go pins s I) fun u s1 ⟨x, H1, I1, rx, kk, pa, f, fd, ps, a, Cl, dx, fs, G, ex, ea, c1, c2, c3, c4, c5, q⟩ => ?_)
 · have p1' : bu X.K T B W (vE X.K T B σ) w1 σ (match fnOf mt h1 d with | some F => (match F [d] h1 with | .ok d _ h => .ok d fr1 h | _ => .err) | none => .err) Q := p1
   cases ef : fnOf mt h1 d with
   | none => rw [ef] at p1'; exact p1'.elim
   | some G =>
     rw [ef] at p1'
     have ei : ∃ c fs, d.ins h1 = some (c, fs) ∧ mt c = some G := by
      unfold fnOf at ef
      split at ef
      · rename_i c fs ei
        exact ⟨c, fs, ei, ef⟩
      · cases ef
     obtain ⟨c, fs, ei, em⟩ := ei
     obtain ⟨kk, pa, f, fd, ps, c1, c2, c3, c4, c5, c6⟩ := M.ex c G em
     obtain ⟨a, dx, vs, rfl, eH, rs⟩ := HQ r1 (.inl rv) ei
     refine ⟨kk, pa, f, fd, ps, a, T.cad c, dx, _, G, rfl, eH, c1, c2, c3, c4, c6, ?_⟩
     have z := RL (W := WF) (n := ps.length) (F := G) (Q := Q) r1 (.cons rv .nil) (show [d].length = ps.length from c5.symm) (by
      dsimp only at p1'
      cases e : G [d] h1 with
      | ok d' fr' h' => rw [e] at p1'; exact p1'
      | exc _ _ _ => rw [e] at p1'; exact p1'.elim
      | err => rw [e] at p1'; exact p1'.elim)
     exact z
 · subst ex
   obtain rfl : u = Value.ref a := rx
   exact getprop_ok (dvs := []) I1 ea c1 c2 c3.ok (C.room.mono c5) c4 .nil aaf q
end
end Pk
namespace Pk
open PySem PySem.Spec L2
section
variable {X : Cx} {T : Tb} {W : WX} {k c : Nat} {x : Str} {pos : Pos}
theorem acz (hm : X.mg x = some (.ref (T.cad c))) (hg : Gl X x := by rfl) (hd : (x == ("__debug__" : Str)) = false := by decide) : cO X T W (.Name x pos) (mC (.cls c)) := fun B w σ H fr h Q r p =>
 uP (pe_glob (v := .ref (T.cad c)) hg hm rfl hd) (p w H _ (Wd.le_refl _) r (.cls c))
theorem ahb {t : String} (hm : X.mg x = none) (hg : Gl X x := by rfl) (hv : bootBuiltins x = some (.type t) := by decide +kernel) (hn : x ≠ "__name__" := by decide) (hd : (x == ("__debug__" : Str)) = false := by decide) : cO X T W (.Name x pos) (mC (.ty t)) := fun B w σ H fr h Q r p =>
 uP (pe_bltn (v := .ty t) hg hm hv rfl hn hd) (p w H _ (Wd.le_refl _) r (.ty t))
structure Qs (X : Cx) (T : Tb) (x : Str) (d : D) : Prop where
 ex : ∃ (u : Value) (v : V), X.mg x = some u ∧ RelV v u ∧ rC X.K T ⟨fun _ => none, []⟩ v d
theorem Wd.le_bot (w : Wd) : Wd.le ⟨fun _ => none, []⟩ w := by
 refine ⟨fun a o q => ?_, w.I, rfl⟩
 have q' : (none : Option HO) = some o := q
 cases q'
theorem Jr {d : D} (F : Qs X T x d) (hg : Gl X x := by rfl) (hd : (x == ("__debug__" : Str)) = false := by decide) : cO X T W (.Name x pos) (mC d) := fun B w σ H fr h Q r p => by
 obtain ⟨u, v, hm, ru, rd⟩ := F.ex
 exact uP (pe_glob hg hm ru hd) (p w H _ (Wd.le_refl _) r (rd.mono (Wd.le_bot w)))
end
inductive Tg where
 | b (t : String) | o (c : Nat)
 deriving DecidableEq
def Tg.v (T : Tb) : Tg → Value
 | .b t => .type t
 | .o c => .ref (T.cad c)
def D.tag (h : Hh) (d : D) : Option Tg := match d.der h with
 | .non => some (.b "NoneType")
 | .bl _ => some (.b "bool")
 | .int _ => some (.b "int")
 | .str _ => some (.b "str")
 | .tup _ => some (.b "tuple")
 | .fl _ => some (.b "list")
 | .nl _ => some (.b "list")
 | .kl _ => some (.b "list")
 | .obj c _ => some (.o c)
 | .no c _ => some (.o c)
 | _ => none
def D.ctag : D → Option Tg
 | .ty t => some (.b t)
 | .cls c => some (.o c)
 | _ => none
structure abm (K : PySem.W.Frag) (C : Addr) : Prop where
 cls : Cls K C
 ha : PySem.W.findIn K (.ref C) "__class__" = some (some (.builtin "object.__class__"))
 hn : PySem.W.specialIn K (.builtin "object.__class__") "__get__" = some (some (.builtin "getset_descriptor.__get__"))
 htk : PySem.W.takesIn K (.builtin "object.__class__") = some true
 hm : PySem.W.mroIn K C (.type "object") = some true
structure Wg (K : PySem.W.Frag) (T : Tb) (tab : Tg → Tg → Option Bool) : Prop where
 kit : ∀ t u b, tab t u = some b → PySem.W.kitOne K (t.v T) (u.v T) = some b
 ins : ∀ c u b, tab (.o c) u = some b → abm K (T.cad c)
def JK : List String := ["NoneType", "bool", "int", "str", "tuple", "list"]
def YD (a b : String) : Option Bool := if JK.contains a && JK.contains b then some (a == b || (a == "bool" && b == "int")) else none
theorem ae6 : ∀ a b r, YD a b = some r → kitB a b = some r := by
 have key : ∀ a ∈ JK, ∀ b ∈ JK, kitB a b = YD a b := by decide +kernel
 intro a b r h
 unfold YD at h
 split at h
 · rename_i hh
   obtain ⟨h1, h2⟩ := Bool.and_eq_true_iff.mp hh
   rw [key a (List.contains_iff_mem.mp h1) b (List.contains_iff_mem.mp h2)]
   unfold YD
   rw [if_pos hh]
   exact h
 · cases h
def LQ : List D → Option (List Tg)
 | [] => some []
 | d :: ds => match d.ctag, LQ ds with
   | some u, some us => some (u :: us)
   | _, _ => none
def Ky (tab : Tg → Tg → Option Bool) (t : Tg) : List Tg → Option Bool
 | [] => some false
 | u :: us => match tab t u with
   | some true => some true
   | some false => Ky tab t us
   | none => none
def Kz (tab : Tg → Tg → Option Bool) (h : Hh) (d c : D) : Option D := match d.tag h with
 | some t => match c with
   | .tup l => match LQ l with
     | some (u :: us) => (Ky tab t (u :: us)).map .bl
     | _ => none
   | c => match c.ctag with
     | some u => (tab t u).map .bl
     | none => none
 | none => none
section
variable {X : Cx} {T : Tb} {W : WX} {k : Nat} {pos pf : Pos} {a b : Expr} {ma mb : M D} {tab : Tg → Tg → Option Bool}
theorem Ue {K : PySem.W.Frag} {w : Wd} {v : V} {d : D} {u : Tg} (r : rC K T w v d) (e : d.ctag = some u) : ClsV v (u.v T) := by
 cases r <;> cases e
 · exact .own _
 · exact .ty _
theorem Np {K : PySem.W.Frag} {B : Bs} {w : Wd} {σ : L2.St} {H : Hp} {fr : Fr} {h : Hh} {v : V} {d : D} {t u : Tg} {bb : Bool} (F : Wg K T tab) (R : Rel K T B w σ H fr h) (rv : vO K T B σ w H fr v d) (e : d.tag h = some t) (e2 : tab t u = some bb) : TyX K H v (t.v T) := by
 have sqT : ∀ {a : Addr} {vs : List V}, SqT K H a vs → TyX K H (.ref a) (.type "tuple") := fun {a vs} q => by
  rcases q with (q | ⟨o, q⟩) | ⟨o, its, n, q1, q2, _⟩
  · exact .base (.tup q)
  · exact .fTuple q
  · exact .kTuple q1 q2
 have sqL : ∀ {a : Addr} {vs : List V}, SqL K H a vs → TyX K H (.ref a) (.type "list") := fun {a vs} q => by
  rcases q with (q | ⟨o, q⟩) | ⟨o, its, n, q1, q2, _⟩
  · exact .base (.lst q)
  · exact .base (.frz q)
  · exact .kList q1 q2
 have ins : ∀ {c : Nat} {a dx : Addr} {fs : List (Str × V)}, tab (.o c) u = some bb → H a = some (.ins (T.cad c) dx fs) → TyX K H (.ref a) (.ref (T.cad c)) := fun {c a dx fs} q eH => by
  have i := F.ins c u bb q
  exact .base (.ins eH i.cls i.ha i.hn i.htk i.hm)
 rcases rv with rv | ⟨p, o, rfl, eH, rv⟩
 · cases rv with
   | non => cases e; exact .base .non
   | bl b => cases e; exact .base (.bl b)
   | int i => cases e; exact .base (.int i)
   | str s => cases e; exact .base (.str s)
   | tup s r => cases e; exact sqT (wM R.sub s)
   | fl s r => cases e; exact .base (.lst (R.sub _ _ s))
   | kl s r => cases e; exact sqL (Ba R.sub s)
   | obj s r => cases e; exact ins e2 (R.sub _ _ s)
   | @ref a n s =>
     have ln : n < h.length := by
      rw [← R.len]
      exact (List.getElem?_eq_some_iff.mp s).1
     obtain ⟨o, q, rr⟩ := R.cel n a h[n] s (ajc ln)
     have e0 : D.der h (.ref n) = h[n] := by
      unfold D.der
      dsimp only
      rw [ajc ln]
      rfl
     unfold D.tag at e
     rw [e0] at e
     generalize h[n] = cc at rr e
     cases rr with
     | lst r => cases e; exact .base (.lst q)
     | obj r => cases e; exact ins e2 q
     | dct _ r => cases e
   | cls _ => cases e
   | ty _ => cases e
   | sl _ => cases e
 · cases rv with
   | lst r => cases e; exact .base (.lst eH)
   | obj r => cases e; exact ins e2 eH
theorem Qt {K : PySem.W.Frag} {w : Wd} : ∀ {vs : List V} {ds : List D} {us : List Tg}, aO K T w vs ds → LQ ds = some us → Paired ClsV vs (us.map (Tg.v T))
 | _, _, _, .nil, e => by cases e; exact .nil
 | _, _, _, @aO.cons _ _ _ v d vs ds r rr, e => by
   unfold LQ at e
   cases e1 : d.ctag with
   | none => rw [e1] at e; cases e
   | some u =>
     cases e2 : LQ ds with
     | none => rw [e1, e2] at e; cases e
     | some us =>
       rw [e1, e2] at e
       cases e
       exact .cons (Ue r e1) (Qt rr e2)
theorem Oj {K : PySem.W.Frag} {t : Tg} {bb : Bool} (F : Wg K T tab) : ∀ {us : List Tg}, Ky tab t us = some bb → PySem.W.kitAny K (t.v T) (us.map (Tg.v T)) = some bb
 | [], e => by cases e; exact kitAny_nil
 | u :: us, e => by
   unfold Ky at e
   cases et : tab t u with
   | none => rw [et] at e; cases e
   | some b1 =>
     rw [et] at e
     cases b1 with
     | false => exact kitAny_cons (F.kit t u false et) (fun _ => Oj F e) (fun z => by cases z)
     | true =>
       cases e
       exact kitAny_cons (F.kit t u true et) (fun z => by cases z) (fun _ => rfl)
theorem Tz {t : Tg} {bb : Bool} {us : List Tg} (e : Ky tab t us = some bb) : us = [] ∨ ∃ u b, tab t u = some b := by
 cases us with
 | nil => exact .inl rfl
 | cons u us =>
   right
   unfold Ky at e
   cases et : tab t u with
   | none => rw [et] at e; cases e
   | some b => exact ⟨u, b, et⟩
theorem Xh : CallR X (.builtin "isinstance") (fun xs H Q => ∃ (x : V) (tp : Addr) (cs : List V) (t : Value) (us : List Value) (b : Bool), xs = [x, .ref tp] ∧ SqT X.K H tp cs ∧ Paired ClsV cs us ∧ TyX X.K H x t ∧ PySem.W.kitAny X.K t us = some b ∧ Q (.bl b) H) := by
 intro pins s σ H xs us Q I r h
 obtain ⟨x, tp, cs, t, ws, b, rfl, hT, k, ty, e, q⟩ := h
 obtain ⟨u1, u2, rfl, r1, r2⟩ := vals2 r
 cases (show u2 = Value.ref tp from r2)
 obtain ⟨P, Z, p, hx⟩ := kit_of I r1 ty
 obtain ⟨its, rv, pl, _⟩ := I.tuple hT
 obtain ⟨o, h1, h2, n, h3⟩ := pl
 have e3 := ClsV.all k rv
 subst e3
 obtain ⟨oc, od, dt, sl⟩ := o
 simp only at h2 h3
 subst h2 h3
 exact PySem.W.kia_tup Z I.kIn p h1 e hx fun tk => ⟨.bl b, H, I.tok tk, rfl, q⟩
theorem acA (F : Wg X.K T tab) (sa : cO X T W a ma) (sb : cO X T W b mb) (hm : X.mg "isinstance" = none) (hg : Gl X "isinstance" := by rfl) (he : starEach (a :: b :: []) X.env = (false, eval a X.env) :: starEach (b :: []) X.env := by exact uG rfl) (he2 : starEach (b :: []) X.env = (false, eval b X.env) :: starEach [] X.env := by exact uG rfl)
 (hpl : (backTo pos (starEach (b :: []) X.env)).any (·.1) = false := by rfl) : cO X T W (.Call (.Name "isinstance" pf) [a, b] [] pos) (bf (Kz tab) ma mb) :=
 ada (id := "isinstance") sa sb (fun B w σ H fr h x y d e z Q R rx ry q kk => by
  have ry : rC X.K T w y e := ry
  unfold Kz at q
  cases et : d.tag h with
  | none => rw [et] at q; cases q
  | some t =>
    rw [et] at q
    have one : ∀ u, e.ctag = some u → (tab t u).map D.bl = some z → cM X (.builtin "isinstance") [x, y] H Q := fun u ec eq => by
     obtain ⟨bb, eb, rfl⟩ := Option.map_eq_some_iff.mp eq
     exact yD call_isi ⟨x, y, t.v T, u.v T, bb, rfl, Ue ry ec, Np F R (.inl rx) et eb, F.kit t u bb eb, kk w H _ (Wd.le_refl _) R (.bl bb)⟩
    cases e with
    | tup l =>
      dsimp only at q
      cases ec : LQ l with
      | none => rw [ec] at q; cases q
      | some us =>
        rw [ec] at q
        cases us with
        | nil => cases q
        | cons u us =>
          obtain ⟨bb, eb, rfl⟩ := Option.map_eq_some_iff.mp q
          obtain ⟨p, vs, rfl, sq, rs⟩ := J8 ry
          have ty : TyX X.K H x (t.v T) := by
           rcases Tz eb with z | ⟨u', b', z⟩
           · cases z
           · exact Np F R (.inl rx) et z
          exact yD Xh ⟨x, p, vs, t.v T, (u :: us).map (Tg.v T), bb, rfl, wM R.sub sq, Qt rs ec, ty, Oj F eb, kk w H _ (Wd.le_refl _) R (.bl bb)⟩
    | cls c => exact one _ rfl q
    | ty t => exact one _ rfl q
    | _ => cases q) hm hg (by decide +kernel) (by decide) (by decide) he he2 hpl
end
end Pk
namespace Pk
open PySem PySem.Spec L2
structure PD where
 adr : PySem.W.Frag → Addr
 name : Str
 qual : Str
 params : Arguments
 body : List Stmt
 scope : Scope
 dfl : List He.Dv
 kwd : List (Str × He.Dv)
 /-- an __init__ that says super() -/
 clo : Bool
def YF (K : PySem.W.Frag) (a : Addr) : He.FnW := match K.lookup a with
 | some ⟨_, _, .func fd, _⟩ => some (fd.name, fd.qualname, fd.params, fd.body, fd.scope, fd.globals, fd.closure.map (fun q => (q.1, 0)), fd.builtins)
 | _ => none
def PD.val (d : PD) : He.FnW := some (d.name, d.qual, d.params, .stmts d.body, d.scope, mainGlobals, if d.clo then [("__class__", 0)] else [], builtinsNs)
def PD.dvs (K : PySem.W.Frag) (d : PD) : List V := d.dfl.map (He.Dv.v K)
def PD.kws (K : PySem.W.Frag) (d : PD) : List (Str × V) := d.kwd.map fun q => (q.1, q.2.v K)
def PD.ok (K : PySem.W.Frag) (d : PD) : Bool := PySem.W.keepIn K (.ref (d.adr K)) && (match K.lookup (d.adr K) with
 | some ⟨_, _, .func fd, _⟩ => PySem.W.codeIn K fd.code d.qual && (He.dflB K fd.defaults (d.dvs K) && He.kwdB K fd.kwdefaults (d.kws K))
 | _ => false)
theorem PD.funD {K : PySem.W.Frag} {d : PD} (hc : d.clo = false) (e : YF K (d.adr K) = d.val) (c : d.ok K = true) : ∃ fd, FunD K d.name d.qual d.params d.body d.scope (d.dvs K) (d.kws K) (d.adr K) fd := by
 obtain ⟨kp, c2⟩ := He.ba c
 unfold YF at e
 cases q : K.lookup (d.adr K) with
 | none =>
   rw [q] at c2
   cases c2
 | some o =>
   obtain ⟨oc, od, dt, osl⟩ := o
   rw [q] at c2 e
   cases dt with
   | func fd =>
     obtain ⟨n1, n2, n3, n4, n5, n6, n7, n8, n9, n10, n11, n12, n13, n14, n15⟩ := fd
     unfold PD.val at e
     rw [hc] at e
     have e2 : (some (n1, n2, n3, n4, n5, n6, n7.map (fun q => (q.1, 0)), n15) : He.FnW) = some (d.name, d.qual, d.params, .stmts d.body, d.scope, mainGlobals, [], builtinsNs) := e
     simp only [Option.some.injEq, Prod.mk.injEq, List.map_eq_nil_iff] at e2
     obtain ⟨h1, h2, h3, h4, h5, h6, h7, h8⟩ := e2
     subst h1 h2 h3 h4 h5 h6 h7 h8
     have c3 : (PySem.W.codeIn K n13 d.qual && (He.dflB K n8 (d.dvs K) && He.kwdB K n9 (d.kws K))) = true := c2
     obtain ⟨k1, k2⟩ := He.ba c3
     obtain ⟨k3, k4⟩ := He.ba k2
     exact ⟨_, ⟨oc, od, n8, n9, n10, n11, n12, n13, n14, osl, rfl, q, k1, He.dflB_ok k3, He.kwdB_ok k4⟩, kp⟩
   | _ => cases c2
def pgA (K : PySem.W.Frag) (C : Addr) (f : Str) : Addr := match PySem.W.findIn K (.ref C) f with
 | some (some (.ref p)) => (match PySem.W.recIn K p "property" with
   | some (.ref g :: _) => g
   | _ => 0)
 | _ => 0
def kwA (a : PySem.W.Frag → Addr) (x : Str) (K : PySem.W.Frag) : Addr := match K.lookup (a K) with
 | some ⟨_, _, .func fd, _⟩ => (match fd.kwdefaults with
   | .ref d => (match PySem.W.nsIn K d x with
     | some (some (.ref b)) => b
     | _ => 0)
   | _ => 0)
 | _ => 0
def dfA (a : PySem.W.Frag → Addr) (i : Nat) (K : PySem.W.Frag) : Addr := match K.lookup (a K) with
 | some ⟨_, _, .func fd, _⟩ => (match fd.defaults with
   | .ref T => (match K.lookup T with
     | some ⟨_, _, .seq its _, _⟩ => (match its.toList[i]? with
       | some (.ref b) => b
       | _ => 0)
     | _ => 0)
   | _ => 0)
 | _ => 0
def abn (K : PySem.W.Frag) (a : Addr) (vs : List He.Dv) : Bool := match K.lookup a with
 | some ⟨.type c, _, .seq its _, _⟩ => decide (c = "tuple") && (decide (its.size ≤ sizeLine) && He.relAll (vs.map (He.Dv.v K)) its.toList)
 | _ => false
theorem RM {K : PySem.W.Frag} {a : Addr} {vs : List He.Dv} (h : abn K a vs = true) (H : Hp) : SqT K H a (vs.map (He.Dv.v K)) := by
 unfold abn at h
 cases q : K.lookup a with
 | none =>
   rw [q] at h
   cases h
 | some o =>
   obtain ⟨oc, od, dt, osl⟩ := o
   rw [q] at h
   cases oc with
   | type c =>
     cases dt with
     | seq its n =>
       obtain ⟨h1, h2⟩ := He.ba (show (decide (c = "tuple") && (decide (its.size ≤ sizeLine) && He.relAll (vs.map (He.Dv.v K)) its.toList)) = true from h)
       obtain ⟨h3, h4⟩ := He.ba h2
       exact .inr ⟨_, its, n, q, congrArg Value.type (of_decide_eq_true h1), rfl, of_decide_eq_true h3, He.relAll_ok h4⟩
     | _ => cases h
   | _ => cases dt <;> cases h
inductive Fx where
 | he (f : He.Fa)
 | prop (x f : Str)
 | ins (x : Str)
 | kit (t u : Tg) (b : Bool)
 | tup (a : PySem.W.Frag → Addr) (vs : List He.Dv)
 | slf (x : Str)
 /-- an own error class whose __init__ says super(): its fields, the file -/
 | own (x file : Str) (fs : List Str)
 /-- an error class as isinstance wants it -/
 | exi (x : Str)
 /-- a class that is no kind of number -/
 | nsb (x : Str)
 /-- anything else that is to be seen -/
 | raw (p : PySem.W.Frag → Bool)
def Tbo (cn : Nat → Str) (fld : Nat → List Str) (K : PySem.W.Frag) : Tb := ⟨fun c => He.ga K (cn c), fld⟩
def ahF (K : PySem.W.Frag) (C : Addr) : Bool := match K.lookup C with
 | some ⟨.type "type", _, .cls cd, sl⟩ => (match cd.mro, sl.toList with
   | .ref C' :: bm, [_, _, _, _, some (.builtin n), _] => C' == C && (n == "ValueError.__new__" && (!cd.hasDel && (cd.hasDict && (PySem.HandSPX.refsVE bm && He.eqO (PySem.W.alongIn K "__init__" bm) (some (some (.builtin "ValueError.__init__")))))))
   | _, _ => false)
 | _ => false
def ahG (K : PySem.W.Frag) (C f : Addr) (file : Str) : Bool := match K.lookup f with
 | some ⟨_, _, .func fd, _⟩ => (match fd.closure, fd.defaults, fd.code with
   | [(_, cc)], .none, .ref cda => (match K.lookup cc with
       | some ⟨_, _, .cell (some (.ref a)), _⟩ => decide (a = C)
       | _ => false) && (PySem.W.codeIn K (.ref cda) fd.qualname && (match K.lookup cda with
       | some ⟨_, _, Data.fields vs, _⟩ => (match (vs[2]? : Option Value) with
         | some (.str fi _) => decide (fi = file)
         | _ => false)
       | _ => false))
   | _, _, _ => false)
 | _ => false
def ahH (K : PySem.W.Frag) (C f : Addr) (file : Str) (fs : List Str) : Bool :=
 ahF K C && (He.eqO (PySem.W.findIn K (.ref C) "__setattr__") (some (some (.builtin "object.__setattr__"))) && (He.eqO (PySem.W.findIn K (.ref C) "__init__") (some (some (.ref f))) && (decide (PySem.W.typeIn K (.ref f) = some (.type "function")) &&
  (decide (PySem.W.subIn K (.ref C) (.type "ValueError") = some true) && (decide (PySem.W.mroIn K C (.ref C) = some true) && (He.eqO (PySem.W.nsIn K cStatics "thirdparty.any") (some none) && (ahG K C f file && (fs.all (fun y => He.eqO (PySem.W.findIn K (.ref C) y) (some none)) &&
  (PySem.W.keepIn K (.ref C) && (decide (PySem.W.subIn K (.ref C) (.type "BaseException") = some true) && (decide (PySem.W.typeIn K (.ref C) = some (.type "type")) && (He.eqO (PySem.W.findIn K (.ref C) "__getattribute__") (some (some (.builtin "BaseException.__getattribute__"))) &&
  (He.eqO (PySem.W.findIn K (.ref C) "__getattr__") (some none) && PySem.W.hasDictIn K C)))))))))))))
def ahI (K : PySem.W.Frag) (C : Addr) : Bool :=
 He.eqO (PySem.W.findIn K (.ref C) "__getattribute__") (some (some (.builtin "BaseException.__getattribute__"))) && (He.eqO (PySem.W.findIn K (.ref C) "__getattr__") (some none) && (decide (PySem.W.subIn K (.ref C) (.type "BaseException") = some true) && (PySem.W.hasDictIn K C &&
  (He.eqO (PySem.W.findIn K (.ref C) "__class__") (some (some (.builtin "object.__class__"))) && (He.eqO (PySem.W.specialIn K (.builtin "object.__class__") "__get__") (some (some (.builtin "getset_descriptor.__get__"))) && (decide (PySem.W.takesIn K (.builtin "object.__class__") = some true) && decide (PySem.W.mroIn K C (.type "object") = some true)))))))
def Fx.ok (cn : Nat → Str) (K : PySem.W.Frag) : Fx → Bool
 | .he f => f.ok K
 | .prop x f => He.eqO (PySem.W.findIn K (.ref (He.ga K x)) f) (some (some (.ref (He.ma K (He.ga K x) f)))) && (He.eqO (PySem.W.specialIn K (.ref (He.ma K (He.ga K x) f)) "__get__") (some (some (.builtin "property.__get__"))) &&
  (decide (PySem.W.takesIn K (.ref (He.ma K (He.ga K x) f)) = some true) && (match PySem.W.recIn K (He.ma K (He.ga K x) f) "property" with
   | some (.ref g :: _) => decide (g = pgA K (He.ga K x) f)
   | _ => false)))
 | .ins x => (He.Fa.cls x).ok K && (He.eqO (PySem.W.findIn K (.ref (He.ga K x)) "__class__") (some (some (.builtin "object.__class__"))) && (He.eqO (PySem.W.specialIn K (.builtin "object.__class__") "__get__") (some (some (.builtin "getset_descriptor.__get__"))) &&
  (decide (PySem.W.takesIn K (.builtin "object.__class__") = some true) && decide (PySem.W.mroIn K (He.ga K x) (.type "object") = some true))))
 | .kit t u b => decide (PySem.W.kitOne K (t.v (Tbo cn (fun _ => []) K)) (u.v (Tbo cn (fun _ => []) K)) = some b)
 | .tup a vs => abn K (a K) vs
 | .slf x => PySem.W.selfFirst K (He.ga K x)
 | .nsb x => decide (PySem.W.subIn K (.ref (He.ga K x)) (.type "int") = some false) && decide (PySem.W.subIn K (.ref (He.ga K x)) (.type "bool") = some false)
 | .exi x => ahI K (He.ga K x)
 | .raw p => p K
 | .own x file fs => ahH K (He.ga K x) (He.ma K (He.ga K x) "__init__") file fs
section
variable {K : PySem.W.Frag} {cn : Nat → Str} {fld : Nat → List Str}
theorem YG {p : PySem.W.Frag → Bool} (c : (Fx.raw p).ok cn K = true) : p K = true := c
theorem ae7 {x f : Str} (c : (Fx.prop x f).ok cn K = true) : PropOf K (He.ga K x) f (He.ma K (He.ga K x) f) (pgA K (He.ga K x) f) := by
 obtain ⟨c1, c⟩ := He.ba c
 obtain ⟨c2, c⟩ := He.ba c
 obtain ⟨c3, c4⟩ := He.ba c
 refine ⟨He.eqO_ok c1, He.eqO_ok c2, of_decide_eq_true c3, ?_⟩
 split at c4
 · rename_i g rest e
   rw [e, of_decide_eq_true c4]
   exact ⟨rest, rfl⟩
 · cases c4
theorem BZ {x : Str} (c : (Fx.ins x).ok cn K = true) : abm K (He.ga K x) := by
 obtain ⟨c1, c⟩ := He.ba c
 obtain ⟨c2, c⟩ := He.ba c
 obtain ⟨c3, c⟩ := He.ba c
 obtain ⟨c4, c5⟩ := He.ba c
 exact ⟨He.cls_ok c1, He.eqO_ok c2, He.eqO_ok c3, of_decide_eq_true c4, of_decide_eq_true c5⟩
theorem xM {t u : Tg} {b : Bool} (c : (Fx.kit t u b).ok cn K = true) : PySem.W.kitOne K (t.v (Tbo cn fld K)) (u.v (Tbo cn fld K)) = some b := by
 have h := of_decide_eq_true c
 cases t <;> cases u <;> exact h
end
abbrev AlP : Type := Bool × List He.FnW
def age (cn : Nat → Str) (fa : List Fx) (fn : List PD) (K : PySem.W.Frag) : AlP := ((fa.all fun f => f.ok cn K) && fn.all fun d => d.ok K, fn.map fun d => YF K (d.adr K))
def agf (fn : List PD) : AlP := (true, fn.map PD.val)
def RN (cn : Nat → Str) (fa : List Fx) (fn : List PD) (K : PySem.W.Frag) : Prop := age cn fa fn K = agf fn
def ahc (o : Obj) : List Addr := (match o.dict with
 | some d => [d]
 | none => []) ++ match o.data with
 | .seq its _ => its.toList.flatMap He.refV
 | .dict es _ => es.toList.flatMap fun e => He.refV e.val
 | .func fd => He.refV fd.code ++ (He.refV fd.defaults ++ (He.refV fd.kwdefaults ++ fd.closure.map (·.2)))
 | .cls cd => cd.ns :: (cd.mro.drop 1).flatMap He.refV
 | .fields vs => vs.toList.flatMap He.refV
 | .cell (some v) => He.refV v
 | _ => []
def asF (g : Addr → Option Obj) : Nat → List Addr → List Addr
 | 0, l => l
 | n + 1, l => l ++ asF g n (l.flatMap fun a => match g a with
   | some o => ahc o
   | none => [])
def asP (g : Addr → Option Obj) (n : Nat) : List Addr := asF g n [mainGlobals] ++ [cStatics]
def obsPG (n : Nat) (cn : Nat → Str) (fa : List Fx) (fn : List PD) (g : Addr → Option Obj) : AlP := age cn fa fn (He.frG g (asP g n))
def hookP (n : Nat) (cn : Nat → Str) (fa : List Fx) (fn : List PD) : PySem.W.Hook where
 α := AlP
 obs := fun s => obsPG n cn fa fn s.heap.get?
 val := fun _ => agf fn
 says := fun _ h => ∃ K : PySem.W.Frag, K.In h ∧ RN cn fa fn K
 of := fun _ _ e => ⟨_, He.frG_in, e⟩
 keeps := fun _ _ _ ⟨K, hK, c⟩ k => ⟨K, PySem.W.Frag.In.keeps hK k, c⟩
theorem obsPG_eq {n : Nat} {cn : Nat → Str} {fa : List Fx} {fn : List PD} {g : Addr → Option Obj} {s : Shared} (h : ∀ a, g a = s.heap.get? a) : obsPG n cn fa fn g = (hookP n cn fa fn).obs s := by
 have e : g = s.heap.get? := funext h
 rw [e] <;> rfl
section
variable {cn : Nat → Str} {fa : List Fx} {fn : List PD} {K : PySem.W.Frag}
theorem RN.fact (c : RN cn fa fn K) (i : Nat) {f : Fx} (h : fa[i]? = some f := by rfl) : f.ok cn K = true := by
 have c1 := (He.ba (show ((fa.all fun f => f.ok cn K) && fn.all fun d => d.ok K) = true from congrArg (fun z : AlP => z.1) c)).1
 exact List.all_eq_true.mp c1 f (ajj h)
theorem RN.def_ (c : RN cn fa fn K) (i : Nat) {d : PD} (h : fn[i]? = some d := by rfl) (hc : d.clo = false := by rfl) : ∃ fd, FunD K d.name d.qual d.params d.body d.scope (d.dvs K) (d.kws K) (d.adr K) fd := by
 have c2 := (He.ba (show ((fa.all fun f => f.ok cn K) && fn.all fun d => d.ok K) = true from congrArg (fun z : AlP => z.1) c)).2
 have e : fn.map (fun d => YF K (d.adr K)) = fn.map PD.val := congrArg (fun z : AlP => z.2) c
 have e2 : (fn.map fun d => YF K (d.adr K))[i]? = (fn.map PD.val)[i]? := by rw [e]
 rw [ajm, ajm, h] at e2
 exact PD.funD hc (Option.some.inj e2) (List.all_eq_true.mp c2 d (ajj h))
end
theorem UW {K : PySem.W.Frag} {T : Tb} {w : Wd} : ∀ ns : List Int, aO K T w (ns.map V.int) (ns.map D.int)
 | [] => .nil
 | i :: r => .cons (.int i) (UW r)
theorem law_sp {K : PySem.W.Frag} {T : Tb} {F : Fn} {H : Hp} {a : Addr} {ns : List Int} (hq : SqL K H a (ns.map V.int)) {fr : Fr} {h : Hh} (e : F [.kl (ns.map D.int)] [] = .ok (.bl true) fr h) : spF K T 1 F [.ref a] H (fun v _ => v = .bl true) (fun _ _ _ => False) := by
 refine ⟨⟨H, []⟩, [], [.kl (ns.map D.int)], ⟨Wd.le_refl _, fun _ q => .inl q, fun _ q => (by cases q), fun _ _ q _ => q, fun _ q => (by cases q), fun _ _ q => q, rfl, List.nodup_nil, fun _ q => (by cases q), fun _ _ _ q => (by simp at q), rfl, fun _ _ _ q => (by simp at q), fun _ _ _ _ q => (Qc q).elim, fun _ _ _ q _ => (by simp at q)⟩, .cons (.kl hq (UW ns)) .nil, rfl, ?_⟩
 rw [e]
 intro w' H' v l R rv
 rcases rv with rv | ⟨p, o, _, _, _, _, r⟩
 · cases rv
   rfl
 · cases r
def pick {α : Type} (is : List Nat) (l : List α) : List α := is.filterMap fun i => l[i]?
def gKw {α : Type} (is : List Nat) (us mv ws : List α) : List α := us ++ pick is (ws ++ mv)
end Pk
namespace PySem
namespace EnT
abbrev itO (l : Addr) : Obj := { cls := .type "tuple_iterator", data := .fields #[.ref l, .int 0 0] }
abbrev enO (it : Addr) : Obj := { cls := .type "enumerate", data := .fields #[.none, .bool false, .ref it, rawInt 0, .none, .none] }
theorem Ry (l : Addr) (items : Array Value) (n : Nat) (dct : Option Addr) (sl : Array (Option Value)) :
 Meets (Builtin.«enumerate.__new__» ⟨[.type "enumerate", .ref l], []⟩) (fun _ R s => s.heap.get? l = some { cls := .type "tuple", dict := dct, data := .seq items n, slots := sl } ∧
  R (.ok (.ret (.ref (s.heap.push (itO l)).objs.size))) { s with heap := (s.heap.push (itO l)).push (enO s.heap.objs.size) }) := by
 refine .of_wp fun prog w A R s h => ?_
 obtain ⟨hp, g, d, tk, os⟩ := s
 obtain ⟨hl, h⟩ := h
 have hsub := sub_enumerate
 have hT : Heap.IsTuple (Shared.heap ⟨hp, g, d, tk, os⟩) l items := ⟨_, hl, rfl, n, rfl⟩
 wp_walk using AutoSeq1.wpAny_loadPart' hl
 refine wpAny_stack_any fun st => wpAny_pure ?_
 split
 · rename_i c _ _ _ _ _
   cases (c == Value.type "enumerate") <;> (wp_walk using AutoSeq1.wpAny_loadPart' hl, wpAny_pyIter_tuple hT; exact ⟨_, rfl, h⟩)
 · wp_walk using AutoSeq1.wpAny_loadPart' hl, wpAny_pyIter_tuple hT
   exact ⟨_, rfl, h⟩
section
variable {prog : Program} {w : World} {A : Around} {E : Value → Shared → Prop} {s : Shared}
end
end EnT
end PySem
namespace L2
open PySem PySem.Spec PyProof.Rows
def ItE (K : PySem.W.Frag) (a : Addr) : It :=
 ⟨fun i H => ∃ (xs : List V) (x : V), SqT K H a xs ∧ xs[i]? = some x, fun i H v H' => ∃ T x, v = .ref T ∧ H T = none ∧ H' = upd H T (.tup [.int (i : Nat), x]) ∧ ∀ xs, SqT K H a xs → xs[i]? = some x, fun i H => ∃ xs : List V, SqT K H a xs ∧ xs.length ≤ i⟩
def aij (K : PySem.W.Frag) (ta : TA) : TI := fun σ H R => ta σ H fun vs H1 => ∃ a xs, vs = [.ref a] ∧ ((SqL K H1 a xs ∧ R (Ite K a) H1) ∨ (SqT K H1 a xs ∧ R (ItE K a) H1))
end L2
namespace Pk
open PySem PySem.Spec L2
def FJ : Nat → List D → List D
 | _, [] => []
 | i, d :: ds => .tup [.int (i : Int), d] :: FJ (i + 1) ds
def D.lst : D → Option (List D)
 | .fl l => some l
 | .kl l => some l
 | .tup l => some l
 | _ => none
def abo (m : M D) : M (List D) := m.bind fun d => M.opt (d.lst.map (FJ 0))
section
variable {X : Cx} {T : Tb} {W : WX} {k kk : Nat} {pos p tpos : Pos} {elts : List Expr} {a : Expr} {ma : M D}
end
end Pk
namespace Pk
open PySem PySem.Spec L2
inductive AllL {β : Type} (Q : Nat → β → Prop) : List (Nat × β) → Prop where
 | nil : AllL Q []
 | cons {a : Nat} {b : β} {l : List (Nat × β)} : Q a b → AllL Q l → AllL Q ((a, b) :: l)
theorem uN {β : Type} {Q : Nat → β → Prop} : ∀ {l : List (Nat × β)}, AllL Q l → ∀ c i, ajd c l = some i → Q c i
 | _, .nil, _, _, e => by cases e
 | _, @AllL.cons _ _ a b l q r, c, i, e => by
   rw [List.lookup_cons] at e
   cases h : c == a with
   | true =>
     rw [h] at e
     cases e
     rw [beq_iff_eq.mp h]
     exact q
   | false =>
     rw [h] at e
     exact uN r c i e
def abp (rows : List ((Tg × Tg) × Bool)) (t u : Tg) : Option Bool := match t, u with
 | .b a, .b b => YD a b
 | t, u => ajd (t, u) rows
inductive G4 (K : PySem.W.Frag) (T : Tb) : List ((Tg × Tg) × Bool) → Prop where
 | nil : G4 K T []
 | b {a : String} {c : Nat} {r : Bool} {l : List ((Tg × Tg) × Bool)} : PySem.W.kitOne K (Tg.v T (.b a)) (Tg.v T (.o c)) = some r → G4 K T l → G4 K T (((.b a, .o c), r) :: l)
 | o {c : Nat} {u : Tg} {r : Bool} {l : List ((Tg × Tg) × Bool)} : PySem.W.kitOne K (Tg.v T (.o c)) (u.v T) = some r → abm K (T.cad c) → G4 K T l → G4 K T (((.o c, u), r) :: l)
theorem Nr {K : PySem.W.Frag} {T : Tb} : ∀ {l : List ((Tg × Tg) × Bool)}, G4 K T l → ∀ t u b, ajd (t, u) l = some b → PySem.W.kitOne K (t.v T) (u.v T) = some b ∧ ∀ c, t = .o c → abm K (T.cad c)
 | _, .nil, _, _, _, e => by cases e
 | _, @G4.b _ _ a c r l q rr, t, u, b, e => by
   rw [List.lookup_cons] at e
   cases h : (t, u) == (Tg.b a, Tg.o c) with
   | true =>
     rw [h] at e
     cases e
     cases beq_iff_eq.mp h
     exact ⟨q, fun c' z => by cases z⟩
   | false =>
     rw [h] at e
     exact Nr rr t u b e
 | _, @G4.o _ _ c u' r l q i rr, t, u, b, e => by
   rw [List.lookup_cons] at e
   cases h : (t, u) == (Tg.o c, u') with
   | true =>
     rw [h] at e
     cases e
     cases beq_iff_eq.mp h
     exact ⟨q, fun c' z => by cases z; exact i⟩
   | false =>
     rw [h] at e
     exact Nr rr t u b e
theorem acC {K : PySem.W.Frag} {T : Tb} {l : List ((Tg × Tg) × Bool)} (h : G4 K T l) : Wg K T (abp l) := by
 refine ⟨fun t u b e => ?_, fun c u b e => ?_⟩
 · cases t with
   | b a =>
     cases u with
     | b a' => exact kit_ty (ae6 _ _ _ e)
     | o c => exact (Nr h _ _ _ e).1
   | o c => exact (Nr h _ _ _ e).1
 · exact (Nr h _ _ _ e).2 c rfl
def uh (is : List Nat) (md : List D) (ds es : List D) : List D := ds ++ pick is (es ++ md)
theorem fn_cx0 {P : Program} {w : World} {K : PySem.W.Frag} {mg : Str → Option Value} {base : Heap} {k : Nat} {f : Addr} {fd : FuncData} {ps : List Str} {sp : Sp} (F : FnOk P w K mg base (L2.CX P w) k f fd ps sp) :
 FnOk P w K mg base CX0 k f fd ps (fun vs H Q _ => sp vs H Q fun _ _ _ => False) := by
 refine ⟨fun vs H Q _ q => F.len vs H Q _ q, fun A outer s H args us vs Q E hr e0 hb r hsp => codeAny_mono (F.run A outer s H args us vs Q _ hr e0 hb r hsp) fun r s' hq => ?_⟩
 cases r with
 | error e =>
   obtain ⟨a, B, H', cls, d, rfl, fl, hok, ub, na, os, ag, hE⟩ := (show L2.CX P w outer H s (fun _ _ _ => False) e s' from hq)
   exact hE.elim
 | ok fl => cases fl <;> exact hq
end Pk
namespace Pk
open PySem PySem.Spec L2
section
variable {P : Program} {w : World} {K : PySem.W.Frag} {mg : Str → Option Value} {base : Heap} {T : Tb} {k : Nat} {x qual : Str} {params : Arguments} {body : List Stmt} {scope : Scope} {dvs : List V} {kws : List (Str × V)} {f : Addr} {fd : FuncData} {N ps : List Str}
end
structure FnS (P : Program) (w : World) (K : PySem.W.Frag) (mg : Str → Option Value) (base : Heap) (T : Tb) (k c : Nat) (f : Addr) (n : Nat) (ks : List Str) (F : Fn) : Prop where
 run : ∀ (A : Around) (outer : List Env) (s : Shared) (H : Hp) (u0 : Value) (ur ws : List Value) (v0 : V) (vr zs : List V) (Q : VK) (E : XK), Room k A → Env0 P w K mg base A outer s H → RelV v0 u0 → Vals vr ur → Vals zs ws → zs.length = ks.length → vr.length ≤ sizeLine →
  (∀ p, H p = none → spI K T c n F (v0 :: (zs ++ [.ref p])) (upd H p (.tup vr)) Q E) → codeAny (model P w) A (.call (.ref f) ⟨u0 :: ur, ks.zip ws⟩) (CR (L2.CX P w) outer P w H s Q E) s
 made : Mk K (T.cad c) f
section
variable {P : Program} {w : World} {K : PySem.W.Frag} {mg : Str → Option Value} {base : Heap} {T : Tb} {k : Nat} {x qual : Str} {params : Arguments} {body : List Stmt} {scope : Scope} {f : Addr} {fd : FuncData} {N : List Str} {p0 pv : Str} {ks : List Str}
end
def U0 (ds es : List D) : List D := es ++ [.tup ds]
def abq (m : Nat) (F : Fn) (ma : M D) (mk : M (List D)) : M D := ma.bind fun d => mk.bind fun es fr h => match d.its [] with
 | some ds => if ds.length ≤ big ∧ es.length = m then vD fr (F (U0 ds es) h) else .err
 | none => .err
section
variable {X : Cx} {T : Tb} {W : WX} {k kk n c : Nat} {f : Addr} {ks : List Str} {F : Fn} {x : Str} {p pos apos : Pos} {e : Expr} {es : List Expr} {kws : List Keyword} {ma : M (List D)} {mo : M D} {mk : M (List D)}
end
section
open PySem.W
variable {M' : Model} {A : Around} {E : Value → Shared → Prop} {s : Shared}
end
section
variable {X : Cx} {T : Tb} {W : WX} {k kk n c : Nat} {f : Addr} {ks : List Str} {F : Fn} {x : Str} {p sp_ pos apos : Pos} {e : Expr} {kws : List Keyword} {mo : M D} {mk : M (List D)}
end
end Pk
namespace Pk
open PySem PySem.Spec L2
structure aik (X : Cx) (T : Tb) (k : Nat) (op : Operator) (mt : Nat → Option Fn) : Prop where
 ex : ∀ c F, mt c = some F → ∃ (kk : Nat) (f : Addr) (fd : FuncData) (ps : List Str), Cls X.K (T.cad c) ∧ Meth X.K (T.cad c) (PySem.dunder op.info.2) f ∧ PySem.W.selfFirst X.K (T.cad c) = true ∧ v9 X.prog X.w X.K X.mg X.base T kk f fd ps F ∧ Bn X.K T fd ps 2 [] (aK []) ∧ kk ≤ k
def CG (h : Hh) (x y : D) : Option Nat := match x.ins h, y.ins h with
 | some (c, _), some (c', _) => if c = c' then some c else none
 | _, _ => none
def RP (mt : Nat → Option Fn) (h : Hh) (x y : D) : Option Fn := match CG h x y with
 | some c => mt c
 | none => none
def ade (mt : Nat → Option Fn) (ma mb : M D) : M D := ma.bind fun x => mb.bind fun y fr h => match RP mt h x y with
 | some F => vD fr (F [x, y] h)
 | none => .err
section
variable {X : Cx} {T : Tb} {W : WX} {k : Nat} {a b : Expr} {ma mb : M D} {pos : Pos} {op : Operator}
theorem abr {pins : List (Addr × Obj)} {σ : L2.St} {Q : VK} {v : Value} {s : Shared} (h : EP X pins σ Q v s) : PySem.W.CmpBack (EP X pins σ Q) v s := by
 obtain ⟨y, H', I', r, q⟩ := id h
 cases y <;> first | (obtain rfl := (r : v = _); exact h) | (obtain ⟨t, rfl⟩ := r; exact h)
theorem adf {h : Hh} {x y : D} {c : Nat} (e : CG h x y = some c) : (∃ fs, x.ins h = some (c, fs)) ∧ ∃ gs, y.ins h = some (c, gs) := by
 unfold CG at e
 split at e
 · rename_i c1 fs c2 gs e1 e2
   by_cases hc : c1 = c2
   · rw [if_pos hc] at e
     cases e
     subst hc
     exact ⟨⟨fs, e1⟩, gs, e2⟩
   · rw [if_neg hc] at e
     cases e
 · cases e
end
end Pk
namespace PySem
namespace ExS
open PySem.W PySem.Calls PyProof.Rows PySem.HandSPX
abbrev asg (f : Str) (q1 q2 q3 q4 : Pos) : Stmt := .Assign [.Attribute (.Name "self" q1) f q2] (.Name f q3) q4
abbrev sup (e : Expr) (p0 p1 p2 p3 p4 : Pos) : Stmt := .Expr (.Call (.Attribute (.Call (.Name "super" p0) [] [] p1) "__init__" p2) [e] [] p3) p4
structure RQ (prog : Program) (K : Frag) (C fI : Addr) (params : Arguments) (body : List Stmt) (scope : Scope) (qual : Str) : Prop where
 cls : ∃ nm q N bs bm sn sub ab col dd k0 k1 k2 k3 k5, K.lookup C = some (excClassObj nm q C N bs bm true sn sub ab col dd k0 k1 k2 k3 k5 "ValueError.__new__") ∧ refsVE bm = true ∧ alongIn K "__init__" bm = some (some (.builtin "ValueError.__init__"))
 sa : findIn K (.ref C) "__setattr__" = some (some (.builtin "object.__setattr__"))
 iC : findIn K (.ref C) "__init__" = some (some (.ref fI))
 tC : typeIn K (.ref fI) = some (.type "function")
 subB : subIn K (.ref C) (.type "ValueError") = some true
 subC : mroIn K C (.ref C) = some true
 opq : nsIn K cStatics "thirdparty.any" = some none
 top : (prog.main.scope.names.lookup ("super" : Str)).isSome = false
 fn : ∃ (oc : Value) (od : Option Addr) (kV doc pm : Value) (an : Option Addr) (cda : Addr) (ct : Value) (osl : Array (Option Value)) (cc : Addr),
  K.lookup fI = some ⟨oc, od, .func (ksFn "__init__" qual params body scope .none kV doc pm an (.ref cda) ct cc), osl⟩ ∧ codeIn K (.ref cda) qual = true ∧
  (∃ (ccl : Value) (cdd : Option Addr) (vs : Array Value) (ccs : Array (Option Value)) (file : Str) (tf : Tok), K.lookup cda = some ⟨ccl, cdd, .fields vs, ccs⟩ ∧ vs[2]? = some (.str file tf) ∧ ((prog.main.file : Str) == file) = true) ∧
  ∃ (cl : Value) (cld : Option Addr) (csl : Array (Option Value)), K.lookup cc = some ⟨cl, cld, .cell (some (.ref C)), csl⟩
section
variable {prog : Program} {w : World} {M : Model} {A : Around} {E : Value → Shared → Prop} {s : Shared}
theorem adg {t : Sem Value} {Q : List Value → Shared → Prop} (h : wpAny M A t (fun v s => Q [v] s) E s) : wpAny M A (spliced [(false, t)]) Q E s := by
 unfold spliced
 refine wpAny_bind (wpAny_mono h (fun v s' h' => ?_) fun _ _ x => x)
 refine wpAny_bind (wpAny_pure ?_)
 refine wpAny_bind (wpAny_holding ?_)
 exact Calls.spliced_nil (wpAny_pure h')
theorem ae8 {h : Heap} {g : Array GenState} {d : Drawn} {t : Nat} {os : OsState} {nm q : Str} {C N : Addr} {bs bm : List Value} {hdct : Bool} {sn : List Str} {sub : List Value} {ab : Bool} {col : Option Bool} {dd : Option Addr} {k0 k1 k2 k3 k5 : Option Value} {u x t0 : Addr} {rest : List Value} {Q : Value → Shared → Prop}
 (hC : h.get? C = some (excClassObj nm q C N bs bm hdct sn sub ab col dd k0 k1 k2 k3 k5 "ValueError.__new__")) (he : h.get? x = some (excO C t0)) (hu : h.get? u = some (kxs_mw "ValueError.__init__" x)) (hz : rest.length ≤ sizeLine)
 (hq : ∀ h' t1, (∀ b o, b ≠ x → h.get? b = some o → h'.get? b = some o) → h'.get? x = some (excO C t1) → Q .none ⟨h', g, d, t, os⟩) :
 wpAny (model prog w) A (call (.ref u) rest) Q E ⟨h, g, d, t, os⟩ := by
 refine wpAny_call (codeAny_of_tree ?_)
 show wpAny _ A.in1 (callAny (.ref u) ⟨rest, []⟩) _ _ _
 simp only [callAny]
 refine wpAny_bind (wpAny_load hu ?_)
 simp only [kxs_mw, show (Value.type "method-wrapper" == Value.type "method" || Value.type "method-wrapper" == Value.type "builtin_function_or_method" || Value.type "method-wrapper" == Value.type "method-wrapper") = true by decide, if_true]
 refine KFB.if_so (by decide) ?_
 refine wpAny_bind (check_bound_init F.excBase_ValueError.toExcCallFacts hC he rfl ?_)
 refine wpAny_bind (wpAny_pure (wpAny_pure ?_))
 refine ⟨plainId_quiet F.excBase_ValueError.init.plain _, codeAny_builtin F.excBase_ValueError.initEntry ?_⟩
 exact exc_init_tree (cls := .ref C) (t0 := t0) (dv := none) (c2 := .none) (c3 := .none) (b4 := .bool false) he hz fun h' k e' _ => hq h' _ k e'
end
theorem ae9 {K : Frag} {h : Heap} {b : Addr} (X : K.In h) (hb : h.objs.size ≤ b) : K.lookup b = none := by
 cases e : K.lookup b with
 | none => rfl
 | some o => exact absurd (Heap.lt_size (X _ _ e)) (Nat.not_lt.mpr hb)
theorem YH {K : Frag} {h h' : Heap} {x : Addr} (X : K.In h) (hx : K.lookup x = none) (k : ∀ b o, b ≠ x → h.get? b = some o → h'.get? b = some o) : K.In h' := fun a o e =>
 k a o (fun z => by rw [z, hx] at e; cases e) (X a o e)
section
variable {prog : Program} {w : World} {A : Around} {R : Result → Shared → Prop} {s : Shared} {K : Frag} {C fI : Addr} {params : Arguments} {scope : Scope} {qual : Str} {ex : Expr} {p0 p1 p2 p3 p4 : Pos} {rest : List Stmt} {mg mb : Str → Option Value}
theorem enter (T : RQ prog K C fI params (sup ex p0 p1 p2 p3 p4 :: rest) scope qual) {x t0 : Addr} {us : List Value} {binds : List (Str × Value)} (X : K.In s.heap) (hlim : s.heap.NoLimit) (hx : s.heap.get? x = some (excO C t0)) (hnx : K.lookup x = none) (hroom : A.depth < recursionLimit)
 (hG : s.heap.Ns mainGlobals mg) (hg : mg "super" = none) (hB : s.heap.Ns builtinsNs mb) (hb : mb "super" = some (.type "super"))
 (hbind : ∀ (kV doc pm : Value) (an : Option Addr) (cdv ct : Value) (cc : Addr), bindArgs (ksFn "__init__" qual params (sup ex p0 p1 p2 p3 p4 :: rest) scope .none kV doc pm an cdv ct cc) ⟨.ref x :: us, []⟩ = pure binds)
 (hself : binds.reverse.lookup ("self" : Str) = some (.ref x)) (hloc : ∀ y ∈ binds, scope.names.lookup y.1 = some .local)
 (hcell : ∀ y ∈ scope.names, y.2 ≠ .cell) (hp : ∃ ar : Arg, (params.posonlyargs ++ params.args).head? = some ar ∧ ar.arg = "self") (hks : scope.names.lookup ("super" : Str) = some .globalImplicit) (hkc : scope.names.lookup ("__class__" : Str) = some .free) (hka : scope.names.lookup ("self" : Str) = some .local)
 (hco : scope.isCoroutine = false) (hgen : scope.isGenerator = false) (hk : scope.kind = .function)
 (hE : ∀ (cda cc : Addr) (L : Addr) (A' : Around) (h : Heap) (g : Array GenState) (d : Drawn) (t : Nat) (os : OsState) (E' : Value → Shared → Prop) (Q : Value → Shared → Prop), (∀ b o, s.heap.get? b = some o → h.get? b = some o) → h.Ns L (fun y => binds.reverse.lookup y) → (∀ v t', Q v ⟨h, g, d, t', os⟩) → wpAny (model prog w) A' (eval ex (ksEnv qual scope L fI (.ref cda) cc)) Q E' ⟨h, g, d, t, os⟩)
 (hin : ∀ (cda cc L : Addr), interactive (ksEnv qual scope L fI (.ref cda) cc) = false)
 (hev : ∀ (cda cc L : Addr), ∃ pl : Sem Bool, eval (.Call (.Attribute (.Call (.Name "super" p0) [] [] p1) "__init__" p2) [ex] [] p3) (ksEnv qual scope L fI (.ref cda) cc) = (do
  let ov ← attributeBase (.Call (.Name "super" p0) [] [] p1) "__init__" (ksEnv qual scope L fI (.ref cda) cc) (eval (.Call (.Name "super" p0) [] [] p1) (ksEnv qual scope L fI (.ref cda) cc))
  standAt p2.atName
  let (f, first) ← holding [ov] (getMethod ov "__init__" pl)
  callWith p3 f first (backTo p3 (starEach [ex] (ksEnv qual scope L fI (.ref cda) cc))) []))
 (hsw : ∀ (cda cc L : Addr), swapsWith (.Call (.Attribute (.Call (.Name "super" p0) [] [] p1) "__init__" p2) [ex] [] p3) none p4.line (ksEnv qual scope L fI (.ref cda) cc) = pure false)
 (hst : ∀ env : Env, starEach [ex] env = [(false, eval ex env)])
 (hq : ∀ (cda cc : Addr) h' tk t1, (∀ b o, b ≠ x → s.heap.get? b = some o → h'.get? b = some o) → h'.get? x = some (excO C t1) → h'.Ns s.heap.objs.size (fun y => binds.reverse.lookup y) →
  wpAny (model prog w) (A.deeper (ksEnv qual scope s.heap.objs.size fI (.ref cda) cc)) (execs rest (ksEnv qual scope s.heap.objs.size fI (.ref cda) cc)) (fun f s' => R (.ok (.ret (match f with | .ret v => v | _ => .none))) s')
   (fun _ _ => False) { s with heap := h', toks := tk }) : codeAny (model prog w) A (.call (.ref fI) ⟨.ref x :: us, []⟩) R s := by
 obtain ⟨oc, od, kV, doc, pm, an, cda, ct, osl, cc, ho, hcd, ⟨ccl, cdd, vs, ccs, file, tf, hcode, hvs, hfile⟩, cl, cld, csl, hcel⟩ := T.fn
 obtain ⟨nm, q, N, bs, bm, sn, sub, ab, col, dd, k0, k1, k2, k3, k5, hC, hbm, hal⟩ := T.cls
 obtain ⟨ar, hp, har⟩ := hp
 have hcl : clsIn K C = some { name := nm, bases := bs, mro := .ref C :: bm, ns := N, qualname := q, hasDict := true, slotNames := sn, subclasses := sub, abstract := ab, collection := col, hasDel := false } := by unfold clsIn; rw [hC] <;> rfl
 refine ks_codeAny_call_defAt (fd := ksFn "__init__" qual params (sup ex p0 p1 p2 p3 p4 :: rest) scope .none kV doc pm an (.ref cda) ct cc) (body := sup ex p0 p1 p2 p3 p4 :: rest) (binds := binds) hroom (X _ _ ho) rfl hlim (codeRec_of X hcd) rfl (BindsTo.of_eq (hbind kV doc pm an (.ref cda) ct cc)) hcell hloc (fun h₁ hns hk₁ => ?_) hco hgen hk
 obtain ⟨hp0, g, d, t, os⟩ := s
 show wpAt (model prog w) (A.deeper (ksEnv qual scope hp0.objs.size fI (.ref cda) cc)) (.func (sup ex p0 p1 p2 p3 p4 :: rest) (ksEnv qual scope hp0.objs.size fI (.ref cda) cc)) (execs (sup ex p0 p1 p2 p3 p4 :: rest) (ksEnv qual scope hp0.objs.size fI (.ref cda) cc)) _ _ _
 have X₁ : K.In h₁ := X.keeps hk₁
 have hx₁ := hk₁ _ _ hx
 have hC₁ := X₁ _ _ hC
 have hxC : x ≠ C := fun z => by
  rw [z, hC₁] at hx₁
  cases hx₁
 obtain ⟨pl, hev⟩ := hev cda cc hp0.objs.size
 refine ks_wpAt_execs_cons (ks_wpAt_Expr_any (ks_wpAt_MethodCall (pl := pl) ?_ hev) (hin _ _ _) (hsw _ _ _))
 refine ks_wpAt_super_base (fd := ksFn "__init__" qual params (sup ex p0 p1 p2 p3 p4 :: rest) scope .none kV doc pm an (.ref cda) ct cc) hks hkc (by decide) rfl (X₁ _ _ ho) rfl hp rfl (X₁ _ _ hcode) rfl hvs hfile T.top ?_
 refine ks_loadName_global hk hks (Calls.loadGlobal_builtin (hG.keeps hk₁) hg (hB.keeps hk₁) hb ⟨rfl, ?_⟩)
 refine wpAny_loadName_free hk hkc rfl ⟨_, X₁ _ _ hcel, rfl⟩ ?_
 rw [har]
 refine wpAny_loadName_local hk hka hns hself ?_
 refine ks_wpAny_isType_cls hC₁ rfl ⟨rfl, ?_⟩
 refine ks_wpAny_call_super hC₁ rfl hx₁ rfl (fun c e => by cases e) (looks_mroIn X₁ T.subC) (fun h₂ hso k₂ => ?_)
 have X₂ : K.In h₂ := X₁.keeps k₂
 have hx₂ := k₂ _ _ hx₁
 have I₂ : InstAt h₂ x (excO C t0) C none := ⟨hx₂, rfl, rfl, trivial⟩
 refine kxs_getMethod kxs_ValueError hso (looks_opaque X₂ T.opq) (l₀ := .ref C :: bm) ((looks_clsIn X₂ hcl).andThen .now) (by simp [List.dropWhile_cons]) X₂ hal (I₂.type.andThen (looks_subIn X₂ T.subB)) hxC rfl ?_
 have k₃ : ∀ b o, h₂.get? b = some o → (h₂.push (kxs_mw "ValueError.__init__" x)).get? b = some o := fun b o e => Heap.get?_push_of_some _ e
 have hu : (h₂.push (kxs_mw "ValueError.__init__" x)).get? h₂.objs.size = some (kxs_mw "ValueError.__init__" x) := Heap.get?_push_at rfl rfl
 refine kxs_callWith (i := "ValueError.__init__") (x := x) (by rw [hst]; rfl) ?_
 rw [hst]
 refine evalArgs_plain ?_
 show wpAny _ _ (spliced [(false, eval ex (ksEnv qual scope hp0.objs.size fI (.ref cda) cc))]) _ _ _
 refine adg (hE cda cc hp0.objs.size _ _ _ _ _ _ _ _ (fun b o e => k₃ _ _ (k₂ _ _ (hk₁ _ _ e))) ((hns.keeps k₂).keeps k₃) fun v t' => ⟨hu, ?_⟩)
 refine ae8 (k₃ _ _ (k₂ _ _ hC₁)) (k₃ _ _ hx₂) hu (by show 1 ≤ sizeLine; decide) fun h₄ t1 k₄ hx₄ => ?_
 have hxL : hp0.objs.size ≠ x := Nat.ne_of_gt (Heap.lt_size hx)
 refine wpAt_of_wpAny (wpAny_mono (hq cda cc h₄ _ t1 (fun b o hb e => k₄ b o hb (k₃ _ _ (k₂ _ _ (hk₁ _ _ e)))) hx₄ ?_) (fun _ _ z => z) fun _ _ z => z.elim)
 obtain ⟨o, es, ep, eo, r⟩ := (hns.keeps k₂).keeps k₃
 exact ⟨o, es, ep, k₄ _ _ hxL eo, r⟩
end
abbrev TF : Type := Str × Pos × Pos × Pos × Pos
abbrev Qu (gs : List TF) : List Stmt := gs.map fun g => asg g.1 g.2.1 g.2.2.1 g.2.2.2.1 g.2.2.2.2
theorem CQ {α : Type} (f g : Str) (y : α) (fs : List (Str × α)) : ((f, y) :: fs).lookup g = if g = f then some y else fs.lookup g := by
 by_cases h : g = f
 · subst h
   simp [ajd]
 · have e : (g == f) = false := by simpa using h
   rw [if_neg h]
   simp [ajd, e]
theorem Ug {α : Type} {y : Str} : ∀ {l : List (Str × α)} {v : α}, l.lookup y = some v → y ∈ l.map (·.1)
 | [], v, h => by cases h
 | (f, z) :: l, v, h => by
   rw [CQ] at h
   by_cases e : y = f
   · rw [e]; exact ajb ..
   · rw [if_neg e] at h
     exact ajf _ (Ug h)
theorem YJ {α : Type} {y : Str} : ∀ (l r : List (Str × α)), (l ++ r).lookup y = match l.lookup y with | some v => some v | none => r.lookup y
 | [], r => rfl
 | (f, z) :: l, r => by
   rw [ai1, CQ, CQ]
   by_cases e : y = f
   · rw [if_pos e, if_pos e]
   · rw [if_neg e, if_neg e]; exact YJ l r
theorem look_none {α : Type} {y : Str} {l : List (Str × α)} (h : y ∉ l.map (·.1)) : l.lookup y = none := by
 cases e : l.lookup y with
 | none => rfl
 | some v => exact absurd (Ug e) h
theorem YK {α : Type} {y : Str} : ∀ {l : List (Str × α)}, (l.map (·.1)).Nodup → l.reverse.lookup y = l.lookup y
 | [], _ => rfl
 | (f, z) :: l, h => by
   rw [aiU, List.nodup_cons] at h
   have e1 : ((f, z) :: l).lookup y = if y = f then some z else l.lookup y := CQ f y z l
   have e2 : [(f, z)].lookup y = if y = f then some z else none := CQ f y z []
   rw [List.reverse_cons, YJ, YK h.2, e1, e2]
   by_cases e : y = f
   · subst e
     rw [look_none h.1, if_pos rfl]
   · rw [if_neg e, if_neg e]
     cases l.lookup y <;> rfl
structure StX (h0 h : Heap) (x C : Addr) (done : List (Str × Value)) : Prop where
 keep : ∀ b o, b ≠ x → h0.get? b = some o → h.get? b = some o
 big : h0.objs.size ≤ h.objs.size
 at_ : ∃ (t1 : Addr) (dv : Option Addr), h.get? x = some { cls := .ref C, dict := dv, data := .fields #[.ref t1, .none, .none, .none, .bool false, .none] } ∧
  ((done = [] ∧ dv = none) ∨ ∃ (dx : Addr) (m : Str → Option Value), dv = some dx ∧ h0.objs.size ≤ dx ∧ dx ≠ x ∧ h.Ns1 dx m ∧ ∀ y, m y = done.lookup y)
section
variable {prog : Program} {w : World} {A : Around} {E : Value → Shared → Prop} {K : Frag} {C fI L x : Addr} {scope : Scope} {qual : Str} {cda cc : Addr} {m : Str → Option Value} {h0 : Heap} {g : Array GenState} {d : Drawn} {os : OsState} {Q : Flow → Shared → Prop} {cd : ClassData}
theorem stores (X0 : K.In h0) (hnx : K.lookup x = none) (hLx : L ≠ x) (hL0 : L < h0.objs.size) (hcl : clsIn K C = some cd) (hm : refsVE cd.mro = true) (hh : cd.hasDict = true) (sa : findIn K (.ref C) "__setattr__" = some (some (.builtin "object.__setattr__"))) (hk : scope.kind = .function) (hself : m "self" = some (.ref x)) (ls : scope.names.lookup ("self" : Str) = some .local)
 (hsw : ∀ g : TF, swapsWith (.Name g.1 g.2.2.2.1) (some (.Attribute (.Name "self" g.2.1) g.1 g.2.2.1)) g.2.2.2.2.line (ksEnv qual scope L fI (.ref cda) cc) = pure false) (hns0 : h0.Ns L m) :
 ∀ (gs : List TF) (vs : List Value) (done : List (Str × Value)) (h : Heap) (t : Nat), (∀ g ∈ gs, (g.1 == ("__debug__" : Str)) = false ∧ scope.names.lookup g.1 = some .local ∧ findIn K (.ref C) g.1 = some none) → gs.length = vs.length → (∀ (i : Nat) (f : Str) (v : Value), (gs.map (·.1))[i]? = some f → vs[i]? = some v → m f = some v) → done.length + gs.length ≤ 500 → StX h0 h x C done →
   (∀ h' t', StX h0 h' x C (((gs.map (·.1)).zip vs).reverse ++ done) → Q .next ⟨h', g, d, t', os⟩) → wpAny (model prog w) A (execs (Qu gs) (ksEnv qual scope L fI (.ref cda) cc)) Q E ⟨h, g, d, t, os⟩
 | [], vs, done, h, t, _, hl, _, _, S, hq => by
   cases vs with
   | nil => exact wpAny_execs_nil (hq h t S)
   | cons v vs => cases hl
 | a :: gs, vs, done, h, t, hg, hl, hv, hlen, S, hq => by
   cases vs with
   | nil => cases hl
   | cons v vs =>
     obtain ⟨n1, n2, n3⟩ := hg a ajb
     have hva : m a.1 = some v := hv 0 a.1 v rfl rfl
     obtain ⟨t1, dv, hx, hd⟩ := S.at_
     have X : K.In h := YH X0 hnx S.keep
     have hns : h.Ns L m := by
      obtain ⟨o, es, ep, eo, r⟩ := hns0
      exact ⟨o, es, ep, S.keep _ _ hLx eo, r⟩
     have go : ∀ h' t', StX h0 h' x C ((a.1, v) :: done) → wpAny (model prog w) A (execs (Qu gs) (ksEnv qual scope L fI (.ref cda) cc)) Q E ⟨h', g, d, t', os⟩ := fun h' t' S' => by
      refine stores X0 hnx hLx hL0 hcl hm hh sa hk hself ls hsw hns0 gs vs ((a.1, v) :: done) h' t' (fun b hb => hg b (ajf _ hb)) (Nat.succ.inj hl) (fun i f u e1 e2 => hv (i + 1) f u e1 e2) (by simp only [aiX] at hlen ⊢; omega) S' fun h2 t2 S2 => hq h2 t2 ?_
      have e : ((List.map (·.1) (a :: gs)).zip (v :: vs)).reverse ++ done = ((gs.map (·.1)).zip vs).reverse ++ (a.1, v) :: done := by
       simp
      rw [e]
      exact S2
     refine wpAny_execs_cons (plainObj_wpAny_Assign_Attribute ?_ (hsw a))
     refine wpAny_Name (wpAny_loadName_local hk (show (ksEnv qual scope L fI (.ref cda) cc).kindOf a.1 = some .local from n2) hns hva ?_) n1
     refine wpAny_Name (wpAny_loadName_local hk (show (ksEnv qual scope L fI (.ref cda) cc).kindOf "self" = some .local from ls) hns hself ?_) (by decide)
     rcases hd with ⟨rfl, rfl⟩ | ⟨dx, m0, rfl, dn, dne, hn1, hmm⟩
     · refine set_plain X (ox := { cls := .ref C, dict := none, data := .fields #[.ref t1, .none, .none, .none, .bool false, .none] }) (od := none) ⟨hx, rfl, rfl, trivial⟩ sa ?_
       refine exc_osa X hx hcl hm hh n3 (fun h₃ tk₃ dx k₃ dn dne hx₃ hn₃ => ?_)
       have zz : dx < h₃.objs.size := by
        obtain ⟨o, es, ep, eo, _⟩ := hn₃
        exact Heap.lt_size eo
       refine go h₃ _ ⟨fun b o hb e => k₃ b o hb (S.keep b o hb e), Nat.le_of_lt (Nat.lt_of_le_of_lt (Nat.le_trans S.big dn) zz), t1, some dx, hx₃, .inr ⟨dx, _, rfl, Nat.le_trans S.big dn, dne, hn₃, fun y => ?_⟩⟩
       · rw [CQ]
         rfl
     · obtain ⟨oD, es, ep, hoD, r⟩ := id hn1
       have hw : Within m0 (done.map (·.1)) := fun y hy => by
        rw [hmm y] at hy
        cases e : done.lookup y with
        | none => exact absurd e hy
        | some u => exact Ug e
       refine set_plain X (ox := { cls := .ref C, dict := some dx, data := .fields #[.ref t1, .none, .none, .none, .bool false, .none] }) (od := some oD) ⟨hx, rfl, rfl, hoD⟩ sa ?_
       refine OEX.osa_old X hx hn1 hw (by rw [aje]; omega) hcl hm hh n3 (fun h₃ tk₃ k₃ hn₃ => ?_)
       have zz : dx < h₃.objs.size := by
        obtain ⟨o, es, ep, eo, _⟩ := hn₃
        exact Heap.lt_size eo
       refine go h₃ _ ⟨fun b o hb e => k₃ b o (fun z => ?_) (S.keep b o hb e), Nat.le_of_lt (Nat.lt_of_le_of_lt dn zz), t1, some dx, k₃ _ _ (Ne.symm dne) hx, .inr ⟨dx, _, rfl, dn, dne, hn₃, fun y => ?_⟩⟩
       · rw [z] at e
         exact absurd (Heap.lt_size e) (Nat.not_lt.mpr dn)
       · rw [CQ, hmm y]
end
structure YL (K : Frag) (params : Arguments) (scope : Scope) (qual : Str) (ex : Expr) (p0 p1 p2 p3 p4 : Pos) (gs : List TF) (Ok : L2.Hp → List L2.V → Prop) : Prop where
 bind : ∀ (kV doc pm : Value) (an : Option Addr) (cdv ct : Value) (cc x : Addr) (us : List Value), us.length = gs.length → bindArgs (ksFn "__init__" qual params (sup ex p0 p1 p2 p3 p4 :: Qu gs) scope .none kV doc pm an cdv ct cc) ⟨.ref x :: us, []⟩ = pure ((("self" : Str) :: gs.map (·.1)).zip (.ref x :: us))
 nd : (("self" : Str) :: gs.map (·.1)).Nodup
 len : gs.length ≤ 100
 loc : ∀ y ∈ ("self" : Str) :: gs.map (·.1), scope.names.lookup y = some .local
 dbg : ∀ g ∈ gs, (g.1 == ("__debug__" : Str)) = false
 cell : ∀ y ∈ scope.names, y.2 ≠ .cell
 hp : ∃ ar : Arg, (params.posonlyargs ++ params.args).head? = some ar ∧ ar.arg = "self"
 ks : scope.names.lookup ("super" : Str) = some .globalImplicit
 kc : scope.names.lookup ("__class__" : Str) = some .free
 co : scope.isCoroutine = false
 gen : scope.isGenerator = false
 k : scope.kind = .function
 hE : ∀ (H0 : L2.Hp) (vs : List L2.V) (us : List Value), Ok H0 vs → L2.Vals vs us → vs.length = gs.length → ∀ (cda cc L x fI : Addr) (prog : Program) (w : World) (A' : Around) (h0 h : Heap) (g : Array GenState) (d : Drawn) (t : Nat) (os : OsState) (E' : Value → Shared → Prop) (Q : Value → Shared → Prop), K.In h → L2.HOk prog w H0 h0 → (∀ b o, h0.get? b = some o → h.get? b = some o) →
  h.Ns L (fun y => ((("self" : Str) :: gs.map (·.1)).zip (Value.ref x :: us)).reverse.lookup y) → (∀ v t', Q v ⟨h, g, d, t', os⟩) → wpAny (model prog w) A' (eval ex (ksEnv qual scope L fI (.ref cda) cc)) Q E' ⟨h, g, d, t, os⟩
 hin : ∀ (fI cda cc L : Addr), interactive (ksEnv qual scope L fI (.ref cda) cc) = false
 hev : ∀ (fI cda cc L : Addr), ∃ pl : Sem Bool, eval (.Call (.Attribute (.Call (.Name "super" p0) [] [] p1) "__init__" p2) [ex] [] p3) (ksEnv qual scope L fI (.ref cda) cc) = (do
     let ov ← attributeBase (.Call (.Name "super" p0) [] [] p1) "__init__" (ksEnv qual scope L fI (.ref cda) cc) (eval (.Call (.Name "super" p0) [] [] p1) (ksEnv qual scope L fI (.ref cda) cc))
     standAt p2.atName
     let (f, first) ← holding [ov] (getMethod ov "__init__" pl)
     callWith p3 f first (backTo p3 (starEach [ex] (ksEnv qual scope L fI (.ref cda) cc))) [])
 hsw : ∀ (fI cda cc L : Addr), swapsWith (.Call (.Attribute (.Call (.Name "super" p0) [] [] p1) "__init__" p2) [ex] [] p3) none p4.line (ksEnv qual scope L fI (.ref cda) cc) = pure false
 hst : ∀ env : Env, starEach [ex] env = [(false, eval ex env)]
 hsw2 : ∀ (fI cda cc L : Addr) (g : TF), swapsWith (.Name g.1 g.2.2.2.1) (some (.Attribute (.Name "self" g.2.1) g.1 g.2.2.1)) g.2.2.2.2.line (ksEnv qual scope L fI (.ref cda) cc) = pure false
theorem zip_get {α : Type} : ∀ {ps : List Str} {us : List α} {i : Nat} {f : Str} {v : α}, ps.Nodup → ps[i]? = some f → us[i]? = some v → (ps.zip us).lookup f = some v
 | [], _, i, f, v, _, e, _ => by simp at e
 | _ :: _, [], i, f, v, _, _, e => by simp at e
 | p :: ps, u :: us, 0, f, v, _, e1, e2 => by
   simp at e1 e2
   subst e1 e2
   simp [ajd]
 | p :: ps, u :: us, i + 1, f, v, nd, e1, e2 => by
   rw [List.nodup_cons] at nd
   have e1' : ps[i]? = some f := by simpa using e1
   have e2' : us[i]? = some v := by simpa using e2
   rw [List.zip_cons_cons, CQ, if_neg (fun z => nd.1 (by rw [← z]; exact ajj e1'))]
   exact zip_get nd.2 e1' e2'
theorem adh {α : Type} {ps : List Str} {us : List α} (hl : ps.length = us.length) : (ps.zip us).map (·.1) = ps := by
 rw [List.map_fst_zip]
 omega
section
variable {prog : Program} {w : World} {A : Around} {R : Result → Shared → Prop} {s : Shared} {K : Frag} {C fI : Addr} {params : Arguments} {scope : Scope} {qual : Str} {ex : Expr} {p0 p1 p2 p3 p4 : Pos} {gs : List TF} {Ok : L2.Hp → List L2.V → Prop} {H0 : L2.Hp} {h00 : Heap} {mg mb : Str → Option Value}
theorem adi (T : RQ prog K C fI params (sup ex p0 p1 p2 p3 p4 :: Qu gs) scope qual) (S : YL K params scope qual ex p0 p1 p2 p3 p4 gs Ok) (hno : ∀ g ∈ gs, findIn K (.ref C) g.1 = some none) {x t0 : Addr} {vs : List L2.V} {us : List Value} (X : K.In s.heap) (hlim : s.heap.NoLimit) (hx : s.heap.get? x = some (excO C t0)) (hnx : K.lookup x = none) (hroom : A.depth < recursionLimit)
 (hG : s.heap.Ns mainGlobals mg) (hg : mg "super" = none) (hB : s.heap.Ns builtinsNs mb) (hb : mb "super" = some (.type "super")) (hH : L2.HOk prog w H0 h00) (kp0 : ∀ b o, h00.get? b = some o → s.heap.get? b = some o) (ok : Ok H0 vs) (rv : L2.Vals vs us) (hl : vs.length = gs.length)
 (hq : ∀ h' tk, StX s.heap h' x C ((gs.map (·.1)).zip us).reverse → R (.ok (.ret .none)) { s with heap := h', toks := tk }) : codeAny (model prog w) A (.call (.ref fI) ⟨.ref x :: us, []⟩) R s := by
 have hlu : us.length = gs.length := by rw [← rv.length]; exact hl
 have keys : (((("self" : Str) :: gs.map (·.1)).zip (Value.ref x :: us)).map (·.1)) = ("self" : Str) :: gs.map (·.1) := adh (by simp [hlu])
 have hrev : ∀ y, ((("self" : Str) :: gs.map (·.1)).zip (Value.ref x :: us)).reverse.lookup y = ((("self" : Str) :: gs.map (·.1)).zip (Value.ref x :: us)).lookup y := fun y => YK (by rw [keys]; exact S.nd)
 have hself : ((("self" : Str) :: gs.map (·.1)).zip (Value.ref x :: us)).reverse.lookup ("self" : Str) = some (.ref x) := by
  rw [hrev]
  exact zip_get S.nd (i := 0) rfl rfl
 refine enter T (mg := mg) (mb := mb) (binds := (("self" : Str) :: gs.map (·.1)).zip (.ref x :: us)) X hlim hx hnx hroom hG hg hB hb (fun kV doc pm an cdv ct cc => S.bind kV doc pm an cdv ct cc x us hlu) hself (fun y hy => S.loc y.1 (List.of_mem_zip hy).1) S.cell S.hp S.ks S.kc (S.loc _ ajb) S.co S.gen S.k
  (fun cda cc L A' h g d t os E' Q hk hn hq' => S.hE H0 vs us ok rv hl cda cc L x fI prog w A' h00 h g d t os E' Q (X.keeps hk) hH (fun b o e => hk b o (kp0 b o e)) hn hq') (S.hin fI) (S.hev fI) (S.hsw fI) S.hst fun cda cc h' tk t1 k hx' hns => ?_
 obtain ⟨nm, q, N, bs, bm, sn, sub, ab, col, dd, k0, k1, k2, k3, k5, hC, hbm, hal⟩ := T.cls
 have hcl : clsIn K C = some { name := nm, bases := bs, mro := .ref C :: bm, ns := N, qualname := q, hasDict := true, slotNames := sn, subclasses := sub, abstract := ab, collection := col, hasDel := false } := by unfold clsIn; rw [hC] <;> rfl
 have X' : K.In h' := YH X hnx k
 have hsz : s.heap.objs.size < h'.objs.size := by
  obtain ⟨o, es, ep, eo, _⟩ := hns
  exact Heap.lt_size eo
 obtain ⟨hp0, g, d, t, os⟩ := s
 refine stores (C := C) (x := x) (L := hp0.objs.size) (h0 := h') (m := fun y => ((("self" : Str) :: gs.map (·.1)).zip (Value.ref x :: us)).reverse.lookup y) X' hnx (Nat.ne_of_gt (Heap.lt_size hx)) hsz hcl (show refsVE (.ref C :: bm) = true from hbm) rfl T.sa S.k hself (S.loc _ ajb) (S.hsw2 fI cda cc _) hns gs us [] h' tk
  (fun b hb' => ⟨S.dbg b hb', S.loc b.1 (ajf _ (List.mem_map_of_mem hb')), hno b hb'⟩) hlu.symm (fun i f v e1 e2 => by
   show ajd f _ = _
   rw [hrev]
   exact zip_get S.nd (i := i + 1) (by simpa using e1) (by simpa using e2)) (by have := S.len; simp only [ai3]; omega) ⟨fun b o hb' e => e, Nat.le_refl _, t1, none, hx', .inl ⟨rfl, rfl⟩⟩ fun h2 t2 S2 => ?_
 rw [aiV] at S2
 refine hq h2 t2 ⟨fun b o hb' e => S2.keep b o hb' (k b o hb' e), Nat.le_trans (Nat.le_of_lt hsz) S2.big, ?_⟩
 obtain ⟨t3, dv, e1, e2⟩ := S2.at_
 refine ⟨t3, dv, e1, ?_⟩
 rcases e2 with e2 | ⟨dx, m, q1, q2, q3, q4, q5⟩
 · exact .inl e2
 · exact .inr ⟨dx, m, q1, Nat.le_trans (Nat.le_of_lt hsz) q2, q3, q4, q5⟩
end
end ExS
end PySem
namespace PySem
namespace ExS
open PySem.W PySem.Calls PyProof.Rows PySem.HandSPX
structure MadeX (h h' : Heap) (e C : Addr) (fs : List (Str × Value)) : Prop where
 keep : ∀ b o, h.get? b = some o → h'.get? b = some o
 new : h.objs.size ≤ e
 at_ : ∃ (t1 : Addr) (dv : Option Addr), h'.get? e = some { cls := .ref C, dict := dv, data := .fields #[.ref t1, .none, .none, .none, .bool false, .none] } ∧
  ((fs = [] ∧ dv = none) ∨ ∃ (dx : Addr) (m : Str → Option Value), dv = some dx ∧ h.objs.size ≤ dx ∧ dx ≠ e ∧ h'.Ns1 dx m ∧ ∀ y, m y = fs.lookup y)
section
variable {prog : Program} {w : World} {A : Around} {R : Result → Shared → Prop} {s : Shared} {K : Frag} {C fI : Addr} {params : Arguments} {scope : Scope} {qual : Str} {ex : Expr} {p0 p1 p2 p3 p4 : Pos} {gs : List TF} {Ok : L2.Hp → List L2.V → Prop} {H0 : L2.Hp} {mg mb : Str → Option Value}
theorem small {l : List Value} {n : Nat} (e : l.length = n) (h : n ≤ 100) : l.length ≤ sizeLine := by
 have : (100 : Nat) ≤ sizeLine := by decide
 omega
theorem made (T : RQ prog K C fI params (sup ex p0 p1 p2 p3 p4 :: Qu gs) scope qual) (S : YL K params scope qual ex p0 p1 p2 p3 p4 gs Ok) (hno : ∀ g ∈ gs, findIn K (.ref C) g.1 = some none) {vs : List L2.V} {us : List Value} (X : K.In s.heap) (hlim : s.heap.NoLimit) (hroom : A.depth + 1 < recursionLimit)
 (hG : s.heap.Ns mainGlobals mg) (hg : mg "super" = none) (hB : s.heap.Ns builtinsNs mb) (hb : mb "super" = some (.type "super")) (hH : L2.HOk prog w H0 s.heap) (ok : Ok H0 vs) (rv : L2.Vals vs us) (hl : vs.length = gs.length)
 (hq : ∀ h' tk e, MadeX s.heap h' e C ((gs.map (·.1)).zip us).reverse → R (.ok (.ret (.ref e))) { s with heap := h', toks := tk }) : codeAny (model prog w) A (.call (.ref C) ⟨us, []⟩) R s := by
 have hlu : us.length = gs.length := by rw [← rv.length]; exact hl
 obtain ⟨nm, q, N, bs, bm, sn, sub, ab, col, dd, k0, k1, k2, k3, k5, hC, hbm, hal⟩ := T.cls
 obtain ⟨hp, g, dr, tk, os⟩ := s
 have k : ∀ b o, hp.get? b = some o → ((hp.push (kdv_tup us)).push (excO C hp.objs.size)).get? b = some o := fun b o e => Heap.get?_push_of_some _ (Heap.get?_push_of_some _ e)
 have hget : ((hp.push (kdv_tup us)).push (excO C hp.objs.size)).get? (hp.objs.size + 1) = some (excO C hp.objs.size) := by heap_get
 have hnx : K.lookup (hp.objs.size + 1) = none := ae9 X (Nat.le_succ _)
 refine call_own F.excBase_ValueError (fun X => refsVE_contains X bm hbm) (X _ _ hC) (looks_findIn X T.iC) (fun self => bind_fn X self T.tC) (small hlu S.len) ?_
 refine adi (s := ⟨(hp.push (kdv_tup us)).push (excO C hp.objs.size), g, dr, tk, os⟩) T S hno (X.keeps k) (hlim.keeps k) hget hnx ?_ (hG.keeps k) hg (hB.keeps k) hb hH k ok rv hl fun h' tk' S' => ?_
 · show A.depth + 1 < recursionLimit
   exact hroom
 · have old : ∀ b o, hp.get? b = some o → h'.get? b = some o := fun b o e => S'.keep b o (Nat.ne_of_lt (Nat.lt_succ_of_lt (Heap.lt_size e))) (k b o e)
   refine ⟨rfl, hq h' tk' (hp.objs.size + 1) ⟨old, Nat.le_succ _, ?_⟩⟩
   obtain ⟨t1, dv, e1, e2⟩ := S'.at_
   refine ⟨t1, dv, e1, ?_⟩
   rcases e2 with ⟨e2, e3⟩ | ⟨dx, m, q1, q2, q3, q4, q5⟩
   · exact .inl ⟨e2, e3⟩
   · refine .inr ⟨dx, m, q1, ?_, q3, q4, q5⟩
     have z : hp.objs.size + 1 + 1 ≤ dx := by
      first
       | (simpa only [Heap.size_push] using q2)
       | exact q2
       | (have q := q2; rw [Heap.size_push, Heap.size_push] at q; exact q)
     exact Nat.le_trans (Nat.le_trans (Nat.le_succ _) (Nat.le_succ _)) z
end
end ExS
end PySem
namespace Pk
open PySem PySem.Spec PyProof.Rows L2
open PySem.ExS (RQ YL sup Qu TF)
structure ExC (P : Program) (K : PySem.W.Frag) (T : Tb) (c : Nat) (Ok : Hp → List V → Prop) : Prop where
 tx : ∃ (fI : Addr) (params : Arguments) (scope : Scope) (qual : Str) (ex : Expr) (p0 p1 p2 p3 p4 : Pos) (gs : List TF),
  RQ P K (T.cad c) fI params (sup ex p0 p1 p2 p3 p4 :: Qu gs) scope qual ∧ YL K params scope qual ex p0 p1 p2 p3 p4 gs Ok ∧ (∀ g ∈ gs, PySem.W.findIn K (.ref (T.cad c)) g.1 = some none) ∧ T.fld c = gs.map (·.1) ∧ (T.fld c).Nodup
 kC : PySem.W.keepIn K (.ref (T.cad c)) = true
 exC : PySem.W.subIn K (.ref (T.cad c)) (.type "BaseException") = some true
 tyC : PySem.W.typeIn K (.ref (T.cad c)) = some (.type "type")
section
variable {X : Cx} {T : Tb} {W : WX} {k c : Nat} {x : Str} {a : Expr} {es : List Expr} {ma : M (List D)} {p pos pos2 : Pos} {Ok : Hp → List V → Prop}
def ail (T : Tb) (c : Nat) (Ok : Hp → List V → Prop) (ta : TA) : L2.St → Hp → XK → Prop := fun σ H Q => ta σ H fun vs H1 => Ok H1 vs ∧ vs.length = (T.fld c).length ∧
 (T.fld c = [] → Q (.ref (T.cad c)) none H1) ∧ (∀ d, H1 d = none → Q (.ref (T.cad c)) (some d) (upd H1 d (.xd ((T.fld c).zip vs))))
end
end Pk
namespace PySem
namespace ExS
open PySem.W PySem.Calls PyProof.Rows PySem.HandSPX
end ExS
end PySem
namespace Pk
open PySem PySem.Spec PyProof.Rows L2
open PySem.ExS (RQ YL sup Qu TF)
section
variable {params : Arguments} {scope : Scope} {qual : Str}
end
section
variable {X : Cx} {T : Tb} {W : WX} {k c n : Nat} {x : Str} {a : Expr} {es : List Expr} {ma : M (List D)} {p pos pos2 : Pos} {Ok : Hp → List V → Prop} {chk : List D → Bool}
def YM (c n : Nat) (chk : List D → Bool) (ma : M (List D)) : M Fl := ma.bind fun ds fr h => if ds.length = n ∧ chk ds = true then .exc ⟨c, ds⟩ fr h else .err
end
end Pk
namespace Pk
open PySem PySem.Spec PyProof.Rows L2
def eqX (K : PySem.W.Frag) (C : Addr) : Bool := He.eqO (PySem.W.findIn K (.ref C) "__ne__") (some (some (.builtin "object.__ne__"))) && (decide (PySem.W.mroIn K C (.type "object") = some true) && (JK.all (fun t => PySem.W.notFirst K C (.type t)) && JK.all fun t => decide (PySem.W.subIn K (.ref C) (.type t) = some false)))
def U3 (K : PySem.W.Frag) (C : Addr) : Bool := PySem.W.readsIn K C (.type "type") && He.eqO (PySem.W.specialIn K (.ref C) "__getattribute__") (some (some (.builtin "type.__getattribute__")))
def cmA (K : PySem.W.Frag) (C : Addr) (m : Str) : Addr := match PySem.W.findCls K (.ref C) (.type "type") m with
 | some (.get _ (.ref p) _ _) => (match PySem.W.recIn K p "classmethod" with
   | some (.ref g :: _) => g
   | _ => 0)
 | _ => 0
def cmX (K : PySem.W.Frag) (C : Addr) (m : Str) : Bool := U3 K C && (match PySem.W.findCls K (.ref C) (.type "type") m with
 | some (.get (.builtin i) (.ref p) .none (.ref C')) => decide (i = "classmethod.__get__") && (decide (C' = C) && ((match PySem.W.recIn K p "classmethod" with
   | some (.ref g :: _) => decide (g = cmA K C m)
   | _ => false) && PySem.W.fnIn K (cmA K C m)))
 | _ => false)
def bmX (K : PySem.W.Frag) (C : Addr) (m : Str) : Bool := He.eqO (PySem.W.specialIn K (.ref (He.ma K C m)) "__get__") (some (some (.builtin "function.__get__"))) && (decide (PySem.W.takesIn K (.ref (He.ma K C m)) = some false) && (decide (PySem.W.copiedNames.contains m = false) && PySem.W.fnIn K (He.ma K C m)))
end Pk
namespace L
open PySem PySem.Spec L2 Pk
def cn : Nat → Str
 | 0 => "Tokens"
 | 1 => "Term"
 | _ => "?"
def top (i : Nat) : Stmt := PySem.Challenge.pw_countrestarts_k78_variants.main.body.getD i (.Pass ⟨0, 0, 0, 0⟩)
abbrev zW : Stmt := top 47
abbrev O9 : List Str := ["_law_script", "_law_at", "_law_cell", "_law_large"]
abbrev JL : List Str := ["_law_script", "_law_at"]
theorem Wh : FnScope O9 JL (defScope zW) := ⟨rfl, rfl, rfl, by decide +kernel, rfl, by decide +kernel, by decide +kernel⟩
def JM : PD := ⟨fun K => He.ga K "_law_source", "_law_source", "_law_source", defArgs zW, defBody zW, defScope zW, [], [], false⟩
abbrev Cg : Stmt := top 48
abbrev TJ : List Str := ["_law_source_here", "_law_many", "_law_digit", "_law_mixed"]
abbrev Mw : List Str := ["_law_source_here", "_law_many"]
theorem YQ : FnScope TJ Mw (defScope Cg) := ⟨rfl, rfl, rfl, by decide +kernel, rfl, by decide +kernel, by decide +kernel⟩
def Mx : PD := ⟨fun K => He.ga K "_law_draw", "_law_draw", "_law_draw", defArgs Cg, defBody Cg, defScope Cg, [], [], false⟩
abbrev Gx : Stmt := top 49
abbrev Xi : List Str := ["_law_source_here", "_law_some"]
abbrev Qv : List Str := ["_law_source_here", "_law_some"]
theorem abt : FnScope Xi Qv (defScope Gx) := ⟨rfl, rfl, rfl, by decide +kernel, rfl, by decide +kernel, by decide +kernel⟩
def Qw : PD := ⟨fun K => He.ga K "_law_of", "_law_of", "_law_of", defArgs Gx, defBody Gx, defScope Gx, [], [], false⟩
abbrev Ci : Stmt := top 50
abbrev TQ : List Str := ["_law_source_here", "_law_size", "_law_low", "_law_high", "_law_road", "_law_word"]
abbrev Mz : List Str := ["_law_source_here", "_law_size"]
theorem YS : FnScope TQ Mz (defScope Ci) := ⟨rfl, rfl, rfl, by decide +kernel, rfl, by decide +kernel, by decide +kernel⟩
def MF : PD := ⟨fun K => He.ga K "_law_leaf", "_law_leaf", "_law_leaf", defArgs Ci, defBody Ci, defScope Ci, [], [], false⟩
abbrev xP : Stmt := inClass (top 40) 1
abbrev KC : List Str := ["self", "readings", "node"]
abbrev Gi : List Str := ["self", "readings", "node"]
theorem Sy : FnScope KC Gi (defScope xP) := ⟨rfl, rfl, rfl, by decide +kernel, rfl, by decide +kernel, by decide +kernel⟩
def Gj : PD := ⟨fun K => He.ma K (He.ga K "Term") "__init__", "__init__", "Term.__init__", defArgs xP, defBody xP, defScope xP, [], [], false⟩
abbrev Do : Stmt := top 23
abbrev U4 : List Str := ["text", "at", "end", "signs"]
abbrev Ol : List Str := ["text", "at"]
theorem aag : FnScope U4 Ol (defScope Do) := ⟨rfl, rfl, rfl, by decide +kernel, rfl, by decide +kernel, by decide +kernel⟩
def Om : PD := ⟨fun K => He.ga K "word_end", "word_end", "word_end", defArgs Do, defBody Do, defScope Do, [], [], false⟩
abbrev wN : Stmt := inClass (top 24) 0
abbrev Jt : List Str := ["self", "text", "readings", "at", "end"]
abbrev CT : List Str := ["self", "text", "readings"]
theorem Px : FnScope Jt CT (defScope wN) := ⟨rfl, rfl, rfl, by decide +kernel, rfl, by decide +kernel, by decide +kernel⟩
def CV : PD := ⟨fun K => He.ma K (He.ga K "Tokens") "__init__", "__init__", "Tokens.__init__", defArgs wN, defBody wN, defScope wN, [], [], false⟩
abbrev wO : Stmt := inClass (top 24) 1
abbrev Ju : List Str := ["self"]
abbrev CW : List Str := ["self"]
theorem Py : FnScope Ju CW (defScope wO) := ⟨rfl, rfl, rfl, by decide +kernel, rfl, by decide +kernel, by decide +kernel⟩
def CZ : PD := ⟨fun K => He.ma K (He.ga K "Tokens") "upcoming", "upcoming", "Tokens.upcoming", defArgs wO, defBody wO, defScope wO, [], [], false⟩
abbrev yE : Stmt := inClass (top 24) 4
abbrev LR : List Str := ["self", "word"]
abbrev G5 : List Str := ["self", "word"]
theorem Uh : FnScope LR G5 (defScope yE) := ⟨rfl, rfl, rfl, by decide +kernel, rfl, by decide +kernel, by decide +kernel⟩
def G6 : PD := ⟨fun K => He.ma K (He.ga K "Tokens") "skips", "skips", "Tokens.skips", defArgs yE, defBody yE, defScope yE, [], [], false⟩
abbrev vY : Stmt := inClass (top 24) 5
abbrev Gy : List Str := ["self"]
abbrev Bf : List Str := ["self"]
theorem MJ : FnScope Gy Bf (defScope vY) := ⟨rfl, rfl, rfl, by decide +kernel, rfl, by decide +kernel, by decide +kernel⟩
def Bg : PD := ⟨fun K => He.ma K (He.ga K "Tokens") "sees_number", "sees_number", "Tokens.sees_number", defArgs vY, defBody vY, defScope vY, [], [], false⟩
abbrev zp : Stmt := inClass (top 24) 2
abbrev Nt : List Str := ["self"]
abbrev HW : List Str := ["self"]
theorem U5 : FnScope Nt HW (defScope zp) := ⟨rfl, rfl, rfl, by decide +kernel, rfl, by decide +kernel, by decide +kernel⟩
def HX : PD := ⟨fun K => He.ma K (He.ga K "Tokens") "fail", "fail", "Tokens.fail", defArgs zp, defBody zp, defScope zp, [], [], false⟩
abbrev zq : Stmt := inClass (top 24) 3
abbrev Nu : List Str := ["self", "allowed", "word"]
abbrev Wi : List Str := ["self", "allowed"]
theorem U6 : FnScope Nu Wi (defScope zq) := ⟨rfl, rfl, rfl, by decide +kernel, rfl, by decide +kernel, by decide +kernel⟩
def HY : PD := ⟨fun K => He.ma K (He.ga K "Tokens") "take", "take", "Tokens.take", defArgs zq, defBody zq, defScope zq, [], [], false⟩
abbrev xQ : Stmt := inClass (top 24) 6
abbrev KD : List Str := ["self", "low", "high", "word"]
abbrev Gk : List Str := ["self", "low", "high"]
theorem SJ : FnScope KD Gk (defScope xQ) := ⟨rfl, rfl, rfl, by decide +kernel, rfl, by decide +kernel, by decide +kernel⟩
def Gm : PD := ⟨fun K => He.ma K (He.ga K "Tokens") "number", "number", "Tokens.number", defArgs xQ, defBody xQ, defScope xQ, [], [], false⟩
abbrev Bh : Stmt := top 25
abbrev Qx : List Str := ["tokens", "start", "stop"]
abbrev KH : List Str := ["tokens"]
theorem Xr : FnScope Qx KH (defScope Bh) := ⟨rfl, rfl, rfl, by decide +kernel, rfl, by decide +kernel, by decide +kernel⟩
def KJ : PD := ⟨fun K => He.ga K "read_slice", "read_slice", "read_slice", defArgs Bh, defBody Bh, defScope Bh, [], [], false⟩
abbrev zr : Stmt := top 26
abbrev Nv : List Str := ["tokens", "kind", "measure", "fillings", "filling", "start", "stop"]
abbrev Ib : List Str := ["tokens", "kind", "measure", "fillings"]
theorem U7 : FnScope Nv Ib (defScope zr) := ⟨rfl, rfl, rfl, by decide +kernel, rfl, by decide +kernel, by decide +kernel⟩
def Ie : PD := ⟨fun K => He.ga K "read_filling", "read_filling", "read_filling", defArgs zr, defBody zr, defScope zr, [], [], false⟩
abbrev Cj : Stmt := top 27
abbrev TV : List Str := ["tokens", "word", "start", "stop", "measure", "fillings"]
abbrev MK : List Str := ["tokens"]
theorem YT : FnScope TV MK (defScope Cj) := ⟨rfl, rfl, rfl, by decide +kernel, rfl, by decide +kernel, by decide +kernel⟩
def MN : PD := ⟨fun K => He.ga K "read_leaf", "read_leaf", "read_leaf", defArgs Cj, defBody Cj, defScope Cj, [], [], false⟩
abbrev Ck : Stmt := top 28
abbrev TX : List Str := ["tokens", "inner", "word", "left", "right"]
abbrev MP : List Str := ["tokens"]
theorem YW : FnScope TX MP (defScope Ck) := ⟨rfl, rfl, rfl, by decide +kernel, rfl, by decide +kernel, by decide +kernel⟩
def MT : PD := ⟨fun K => He.ga K "read_atom", "read_atom", "read_atom", defArgs Ck, defBody Ck, defScope Ck, [], [], false⟩
abbrev zu : Stmt := top 29
abbrev Ny : List Str := ["tokens", "is_negative", "inner", "factor"]
abbrev Ig : List Str := ["tokens", "is_negative"]
theorem U8 : FnScope Ny Ig (defScope zu) := ⟨rfl, rfl, rfl, by decide +kernel, rfl, by decide +kernel, by decide +kernel⟩
def Ih : PD := ⟨fun K => He.ga K "read_product", "read_product", "read_product", defArgs zu, defBody zu, defScope zu, [], [], false⟩
abbrev Cm : Stmt := top 30
abbrev TY : List Str := ["tokens", "found", "sign"]
abbrev M3 : List Str := ["tokens"]
theorem YX : FnScope TY M3 (defScope Cm) := ⟨rfl, rfl, rfl, by decide +kernel, rfl, by decide +kernel, by decide +kernel⟩
def M4 : PD := ⟨fun K => He.ga K "read_term", "read_term", "read_term", defArgs Cm, defBody Cm, defScope Cm, [], [], false⟩
abbrev Ka : Stmt := top 31
abbrev aaG : List Str := ["text", "readings", "tokens", "found"]
abbrev Wj : List Str := ["text", "readings"]
theorem adk : FnScope aaG Wj (defScope Ka) := ⟨rfl, rfl, rfl, by decide +kernel, rfl, by decide +kernel, by decide +kernel⟩
def Wk : PD := ⟨fun K => He.ga K "parse", "parse", "parse", defArgs Ka, defBody Ka, defScope Ka, [], [], false⟩
abbrev Bj : Stmt := inClass (top 40) 2
abbrev Qy : List Str := ["cls", "text", "readings"]
abbrev KN : List Str := ["cls", "text", "readings"]
theorem Xu : FnScope Qy KN (defScope Bj) := ⟨rfl, rfl, rfl, by decide +kernel, rfl, by decide +kernel, by decide +kernel⟩
def KQ : PD := ⟨fun K => cmA K (He.ga K "Term") "read", "read", "Term.read", defArgs Bj, defBody Bj, defScope Bj, [], [], false⟩
abbrev xR : Stmt := top 51
abbrev KR : List Str := ["_law_node", "_law_place"]
abbrev Gn : List Str := ["_law_node"]
theorem SM : FnScope KR Gn (defScope xR) := ⟨rfl, rfl, rfl, by decide +kernel, rfl, by decide +kernel, by decide +kernel⟩
def Gp : PD := ⟨fun K => He.ga K "_law_leaf_text", "_law_leaf_text", "_law_leaf_text", defArgs xR, defBody xR, defScope xR, [], [], false⟩
abbrev yF : Stmt := top 44
abbrev Ma : List Str := ["node", "measure", "start", "stop", "found", "filling"]
abbrev G7 : List Str := ["node"]
theorem Ui : FnScope Ma G7 (defScope yF) := ⟨rfl, rfl, rfl, by decide +kernel, rfl, by decide +kernel, by decide +kernel⟩
def G8 : PD := ⟨fun K => He.ga K "variant_nodes", "variant_nodes", "variant_nodes", defArgs yF, defBody yF, defScope yF, [], [], false⟩
abbrev Dq : Stmt := top 45
abbrev U9 : List Str := ["leaf", "node"]
abbrev Oo : List Str := ["leaf"]
theorem aah : FnScope U9 Oo (defScope Dq) := ⟨rfl, rfl, rfl, by decide +kernel, rfl, by decide +kernel, by decide +kernel⟩
def Ot : PD := ⟨fun K => He.ga K "variants", "variants", "variants", defArgs Dq, defBody Dq, defScope Dq, [], [], false⟩
abbrev Bl : Stmt := top 21
abbrev Qz : List Str := ["node", "inner"]
abbrev KY : List Str := ["node"]
theorem Xv : FnScope Qz KY (defScope Bl) := ⟨rfl, rfl, rfl, by decide +kernel, rfl, by decide +kernel, by decide +kernel⟩
def KZ : PD := ⟨fun K => He.ga K "write_leaf", "write_leaf", "write_leaf", defArgs Bl, defBody Bl, defScope Bl, [], [], false⟩
abbrev Cp : Stmt := top 20
abbrev T6 : List Str := ["node", "kinds", "text"]
abbrev M5 : List Str := ["node", "kinds"]
theorem YZ : FnScope T6 M5 (defScope Cp) := ⟨rfl, rfl, rfl, by decide +kernel, rfl, by decide +kernel, by decide +kernel⟩
def M6 : PD := ⟨fun K => He.ga K "bracketed", "bracketed", "bracketed", defArgs Cp, defBody Cp, defScope Cp, [], [], false⟩
abbrev Kc : Stmt := top 22
abbrev aaH : List Str := ["node", "inner", "sign", "kinds"]
abbrev Bm : List Str := ["node"]
theorem Y0 : FnScope aaH Bm (defScope Kc) := ⟨rfl, rfl, rfl, by decide +kernel, rfl, by decide +kernel, by decide +kernel⟩
def d_write : PD := ⟨fun K => He.ga K "write", "write", "write", defArgs Kc, defBody Kc, defScope Kc, [], [], false⟩
abbrev Bo : Stmt := inClass (top 40) 3
abbrev QC : List Str := ["self"]
abbrev K6 : List Str := ["self"]
theorem Xw : FnScope QC K6 (defScope Bo) := ⟨rfl, rfl, rfl, by decide +kernel, rfl, by decide +kernel, by decide +kernel⟩
def K7 : PD := ⟨fun K => pgA K (He.ga K "Term") "text", "text", "Term.text", defArgs Bo, defBody Bo, defScope Bo, [], [], false⟩
abbrev yG : Stmt := top 52
abbrev Mg : List Str := ["_law_node", "_law_word", "_law_low", "_law_high", "_law_rows", "_law_row"]
abbrev G9 : List Str := ["_law_node"]
theorem Uj : FnScope Mg G9 (defScope yG) := ⟨rfl, rfl, rfl, by decide +kernel, rfl, by decide +kernel, by decide +kernel⟩
def Hf : PD := ⟨fun K => He.ga K "_law_variants", "_law_variants", "_law_variants", defArgs yG, defBody yG, defScope yG, [], [], false⟩
abbrev zA : Stmt := inClass (top 40) 17
abbrev Nz : List Str := ["self", "other"]
abbrev Ii : List Str := ["self", "other"]
theorem Va : FnScope Nz Ii (defScope zA) := ⟨rfl, rfl, rfl, by decide +kernel, rfl, by decide +kernel, by decide +kernel⟩
def Ij : PD := ⟨fun K => He.ma K (He.ga K "Term") "__eq__", "__eq__", "Term.__eq__", defArgs zA, defBody zA, defScope zA, [], [], false⟩
abbrev RW : Stmt := top 53
abbrev aeG : List Str := ["_law_script", "_law_at", "_law_source_here", "_law_size", "_law_node", "_law_leaf_here", "_law_due", "_law_turn", "_law_found", "_law_one"]
abbrev ahd : List Str := ["_law_script"]
theorem agj : FnScope aeG ahd (defScope RW) := ⟨rfl, rfl, rfl, by decide +kernel, rfl, by decide +kernel, by decide +kernel⟩
def aeH : PD := ⟨fun K => He.ga K "law", "law", "law", defArgs RW, defBody RW, defScope RW, [], [], false⟩
def fa : List Fx := [.he (.free "len"),
 .he (.free "abs"),
 .he (.free "int"),
 .he (.glo "_law_draw"),
 .he (.glo "_law_of"),
 .he (.glo "word_end"),
 .he (.glo "read_slice"),
 .he (.glo "read_filling"),
 .he (.glo "read_leaf"),
 .he (.glo "read_atom"),
 .he (.glo "read_product"),
 .he (.glo "Tokens"),
 .he (.glo "read_term"),
 .he (.glo "parse"),
 .he (.glo "Term"),
 .he (.free "str"),
 .he (.glo "variant_nodes"),
 .he (.glo "write"),
 .he (.glo "write_leaf"),
 .he (.glo "bracketed"),
 .he (.free "isinstance"),
 .he (.free "min"),
 .he (.free "max"),
 .he (.free "range"),
 .he (.glo "_law_source"),
 .he (.glo "_law_leaf"),
 .he (.glo "_law_leaf_text"),
 .he (.glo "_law_variants"),
 .he (.glo "variants"),
 .he (.free "list"),
 .he (.cls "Tokens"),
 .he (.noat "Tokens" "readings"),
 .he (.cls "Term"),
 .he (.noat "Term" "readings"),
 .he (.noat "Term" "node"),
 .he (.noat "Tokens" "words"),
 .he (.noat "Tokens" "places"),
 .he (.noat "Tokens" "spot"),
 .prop "Term" "text",
 .he (.meth "Tokens" "upcoming"),
 .he (.meth "Tokens" "fail"),
 .he (.meth "Tokens" "skips"),
 .he (.meth "Tokens" "sees_number"),
 .he (.meth "Tokens" "number"),
 .he (.meth "Term" "__eq__"),
 .he (.meth "Tokens" "take"),
 .raw (fun K => bmX K (He.ga K "Tokens") "take"),
 .he (.str "LETTERS" "abcdefghijklmnopqrstuvwxyz"),
 .he (.str "DIGITS" "0123456789"),
 .he (.glo "OF_TOTALS"),
 .tup (fun K => He.ga K "OF_TOTALS") [.str "first", .str "last", .str "change", .str "rises"],
 .he (.glo "MEASURES"),
 .tup (fun K => He.ga K "MEASURES") [.str "first", .str "last", .str "top", .str "low", .str "change", .str "rises", .str "told"],
 .he (.int "MOST" 1000000),
 .he (.glo "FILLINGS"),
 .tup (fun K => He.ga K "FILLINGS") [.str "raw", .str "zero", .str "held"],
 .he (.glo "TOTALS"),
 .tup (fun K => He.ga K "TOTALS") [.str "zero", .str "held"],
 .raw (fun K => cmX K (He.ga K "Term") "read"),
 .raw (fun K => eqX K (He.ga K "Term")),
 .he (.mkr "Term"),
 .he (.mkr "Tokens"),
 .ins "Tokens",
 .ins "Term",
 .kit (.b "NoneType") (.o 1) false,
 .kit (.b "bool") (.o 1) false,
 .kit (.b "int") (.o 1) false,
 .kit (.b "str") (.o 1) false,
 .kit (.b "tuple") (.o 1) false,
 .kit (.b "list") (.o 1) false,
 .kit (.o 0) (.b "bool") false,
 .kit (.o 0) (.b "int") false,
 .kit (.o 0) (.b "str") false,
 .kit (.o 0) (.b "tuple") false,
 .kit (.o 0) (.b "list") false,
 .kit (.o 0) (.o 1) false,
 .kit (.o 1) (.b "bool") false,
 .kit (.o 1) (.b "int") false,
 .kit (.o 1) (.b "str") false,
 .kit (.o 1) (.b "tuple") false,
 .kit (.o 1) (.b "list") false,
 .kit (.o 1) (.o 1) true,
 .he (.glo "law")]
def fn : List PD := [JM, Mx, Qw, MF, Gj, Om, CV, CZ, G6, Bg, HX, HY, Gm, KJ, Ie, MN, MT, Ih, M4, Wk, KQ, Gp, G8, Ot, KZ, M6, d_write, K7, Hf, Ij, aeH]
abbrev cI (K : PySem.W.Frag) : Prop := RN cn fa fn K
section
open PySem PySem.Spec PyProof.Rows L2
abbrev Rw : PySem.W.OpenRow := PySem.W.OpenLaw.row PySem.Challenge.rw_countrestarts_k78_variants
abbrev hk : PySem.W.Hook := Pk.hookP 7 cn fa fn
def ob (s : PySem.W.SharedT) : Pk.AlP := Pk.obsPG 7 cn fa fn (HandSHeadRun.getT s)
theorem ob_eq (s : PySem.W.SharedT) : ob s = hk.obs s.abs := Pk.obsPG_eq (HandSHeadRun.getT_eq s)
def names : List PySem.Str := "_wall" :: "CountError" :: "Unlike" :: "BadTerm" :: "BadText" :: "filled" :: "amounts" :: "rises_of" :: "told_of" :: "measure_of" :: "leaf_number" :: "measure_of_totals" :: "LETTERS" :: "DIGITS" :: "MEASURES" :: "OF_TOTALS" :: "MOST" :: "bracketed" :: "write_leaf" :: "write" :: "word_end" :: "Tokens" :: "read_slice" :: "read_filling" :: "read_leaf" :: "read_atom" :: "read_product" :: "read_term" :: "parse" :: "is_integer" :: "View" :: "view_of" :: "totals_of" :: "value_of" :: "Term" :: "FILLINGS" :: "TOTALS" :: "variant_nodes" :: "variants" :: "_law_source" :: "_law_draw" :: "_law_of" :: "_law_leaf" :: "_law_leaf_text" :: "_law_variants" :: []
theorem ahJ {α β γ δ : Type} {o : Option α} {f : α → β} {g : α → γ} {k : α → δ} {a : β} {b : γ} {c : δ} (h1 : o.map f = some a) (h2 : o.map g = some b) (h3 : o.map k = some c) : o.map (fun s => (f s, g s, k s)) = some (a, b, c) := by
 cases o with
 | none => cases h1
 | some s =>
   cases h1
   cases h2
   cases h3
   rfl
abbrev vw : Program := PySem.W.view Rw.prog [53]
noncomputable abbrev ends (w : World) (os : PySem.OsState) : Option PySem.W.SharedT := HandSHeadRun.endF (HandSHeadRun.stepQ (HandSHeadRun.denQ HandSHeadRun.tabQ) Rw.prog w) 20000 Rw.prog w os
open PySem.W PySem.Calls HandSHeadRun in
set_option maxHeartbeats 0 in
theorem ahe (w : World) (os : PySem.OsState) : (ends w os).map (fun s => looksF Rw.prog (boot_heap w.params) s.abs) = some true := by
 kernel_rfl
open PySem.W PySem.Calls HandSHeadRun in
set_option maxHeartbeats 0 in
theorem ahf (w : World) (os : PySem.OsState) : (ends w os).map (fun s => seenQ vw names (importedModules Rw.prog.main.body) (fun s => xlAt vw [] s && recOk Rw.toRowW.records s) s.abs) = some (openGood vw names) := by
 kernel_rfl
abbrev fr0 (s : PySem.W.SharedT) : PySem.W.Frag := He.frG (HandSHeadRun.getT s) (Pk.asP (HandSHeadRun.getT s) 7)
abbrev nh : Nat := fn.length / 2
set_option maxHeartbeats 0 in
theorem agk (w : World) (os : PySem.OsState) : (ends w os).map (fun s => fa.all fun f => f.ok cn (fr0 s)) = some true := by
 kernel_rfl
set_option maxHeartbeats 0 in
theorem agl (w : World) (os : PySem.OsState) : (ends w os).map (fun s => (fn.take nh).all fun d => d.ok (fr0 s)) = some true := by
 kernel_rfl
set_option maxHeartbeats 0 in
theorem agm (w : World) (os : PySem.OsState) : (ends w os).map (fun s => (fn.drop nh).all fun d => d.ok (fr0 s)) = some true := by
 kernel_rfl
theorem all2 {α : Type} {l : List α} {p : α → Bool} {m : Nat} (h1 : (l.take m).all p = true) (h2 : (l.drop m).all p = true) : l.all p = true := by
 rw [← List.take_append_drop m l, List.all_append, h1, h2]
 rfl
theorem ahK {α : Type} {o : Option α} {f g k b : α → Bool} (h1 : o.map f = some true) (h2 : o.map g = some true) (h3 : o.map k = some true) (h : ∀ s, f s = true → g s = true → k s = true → b s = true) : o.map b = some true := by
 cases o with
 | none => cases h1
 | some s => exact congrArg some (h s (Option.some.inj h1) (Option.some.inj h2) (Option.some.inj h3))
theorem ahg (w : World) (os : PySem.OsState) : (ends w os).map (fun s => (ob s).1) = some true :=
 ahK (agk w os) (agl w os) (agm w os) fun s h1 h2 h3 => (show ((fa.all fun f => f.ok cn (fr0 s)) && fn.all fun d => d.ok (fr0 s)) = true by rw [h1, all2 h2 h3]; rfl)
abbrev nq : Nat := fn.length / 3
set_option maxHeartbeats 0 in
theorem agn (w : World) (os : PySem.OsState) : (ends w os).map (fun s => (ob s).2.take nq) = some ((fn.map Pk.PD.val).take nq) := by
 kernel_rfl
set_option maxHeartbeats 0 in
theorem ago (w : World) (os : PySem.OsState) : (ends w os).map (fun s => ((ob s).2.drop nq).take nq) = some (((fn.map Pk.PD.val).drop nq).take nq) := by
 kernel_rfl
set_option maxHeartbeats 0 in
theorem agp (w : World) (os : PySem.OsState) : (ends w os).map (fun s => ((ob s).2.drop nq).drop nq) = some (((fn.map Pk.PD.val).drop nq).drop nq) := by
 kernel_rfl
theorem agq {α : Type} {l x : List α} {m : Nat} (h1 : l.take m = x.take m) (h2 : l.drop m = x.drop m) : l = x := by
 rw [← List.take_append_drop m l, h1, h2, List.take_append_drop]
theorem ahL {α β : Type} {o : Option α} {f : α → List β} {x : List β} {m : Nat} (h1 : o.map (fun s => (f s).take m) = some (x.take m)) (h2 : o.map (fun s => ((f s).drop m).take m) = some ((x.drop m).take m)) (h3 : o.map (fun s => ((f s).drop m).drop m) = some ((x.drop m).drop m)) : o.map f = some x := by
 cases o with
 | none => cases h1
 | some s => exact congrArg some (agq (Option.some.inj h1) (agq (Option.some.inj h2) (Option.some.inj h3)))
theorem ahh (w : World) (os : PySem.OsState) : (ends w os).map (fun s => (ob s).2) = some (fn.map Pk.PD.val) := ahL (agn w os) (ago w os) (agp w os)
theorem ahM {α β γ : Type} {o : Option α} {f : α → β × γ} {a : β} {b : γ} (h1 : o.map (fun s => (f s).1) = some a) (h2 : o.map (fun s => (f s).2) = some b) : o.map f = some (a, b) := by
 cases o with
 | none => cases h1
 | some s =>
   have e1 := Option.some.inj h1
   have e2 := Option.some.inj h2
   exact congrArg some (Prod.ext e1 e2)
theorem run (w : World) : HandSHeadRun.RunEq Rw vw hk ob 20000 names w := fun os => ahJ (ahe w os) (ahf w os) (ahM (ahg w os) (ahh w os))
end
end L
namespace Pk
open PySem PySem.Spec L2
def Y4 {α β : Type} (P : Wd → L2.St → Prop) (run : L2.St → Hp → (β → Hp → Prop) → Prop) (K : PySem.W.Frag) (T : Tb) (W : WX) (VR : wI β α) (m : M α) : Prop :=
 ∀ (B : Bs) (w : Wd) (σ : L2.St) (H : Hp) (fr : Fr) (h : Hh) (Q : β → Hp → Prop), P w σ → Rel K T B w σ H fr h → bu K T B W (VR K T B σ) w σ (m fr h) Q → run σ H Q
def aim (P : Wd → L2.St → Prop) : Prop := ∀ w w' σ, w.le w' → P w σ → P w' σ
abbrev SqE (P : Wd → L2.St → Prop) (X : Cx) (T : Tb) (W : WX) (e : Expr) (m : M D) : Prop := Y4 P (WE X e) X.K T W vE m
abbrev SqV (P : Wd → L2.St → Prop) (X : Cx) (T : Tb) (W : WX) (e : Expr) (m : M D) : Prop := Y4 P (WE X e) X.K T W vV m
abbrev ain (P : Wd → L2.St → Prop) (X : Cx) (T : Tb) (W : WX) (e : Expr) (m : M Bool) : Prop := Y4 P (WT X e) X.K T W vB m
abbrev SqW (P : Wd → L2.St → Prop) (X : Cx) (T : Tb) (W : WX) (e : Expr) (m : M Bool) : Prop := Y4 P (WW X e) X.K T W vB m
abbrev SqA (P : Wd → L2.St → Prop) (X : Cx) (T : Tb) (W : WX) (es : List Expr) (m : M (List D)) : Prop := Y4 P (WA X es) X.K T W vA m
section
variable {P : Wd → L2.St → Prop} {X : Cx} {T : Tb} {W : WX} {a b c e : Expr} {es rest : List Expr} {m ma mb : M D} {n ta tb tc : M Bool} {ms : List (M D)} {pos : Pos}
end
def Je (P : Wd → L2.St → Prop) (K : PySem.W.Frag) (T : Tb) (B : Bs) (W : WX) (w : Wd) (r : R Fl) (D : Ends) : Prop :=
 match r with
 | .ok .nx fr h => ∀ w' σ' H', w.le w' → P w' σ' → Rel K T B w' σ' H' fr h → D.nx σ' H'
 | r => tW K T B W w r D
def SqS (P : Wd → L2.St → Prop) (X : Cx) (T : Tb) (W : WX) (st : Stmt) (m : M Fl) : Prop := ∀ (B : Bs) (w : Wd) (σ : L2.St) (H : Hp) (fr : Fr) (h : Hh) (D : Ends), P w σ → Rel X.K T B w σ H fr h → Je P X.K T B W w (m fr h) D → WS X st D σ H
def abu (P : Wd → L2.St → Prop) (X : Cx) (T : Tb) (W : WX) (sts : List Stmt) (m : M Fl) : Prop := ∀ (B : Bs) (w : Wd) (σ : L2.St) (H : Hp) (fr : Fr) (h : Hh) (D : Ends), P w σ → Rel X.K T B w σ H fr h → Je P X.K T B W w (m fr h) D → Yh X sts D σ H
section
variable {P : Wd → L2.St → Prop} {K : PySem.W.Frag} {T : Tb} {B : Bs} {W : WX} {w w' : Wd} {σ : L2.St} {H : Hp}
theorem Je.of {r : R Fl} {D : Ends} (p : tW K T B W w r D) : Je P K T B W w r D := by
 cases r with
 | ok f fr h =>
   cases f with
   | nx => exact fun w' σ' H' l _ r => p w' σ' H' l r
   | _ => exact p
 | exc e fr h => exact p
 | err => exact p
theorem Je.le {r : R Fl} {D : Ends} (x : w.le w') (p : Je P K T B W w r D) : Je P K T B W w' r D := by
 cases r with
 | ok f fr h =>
   cases f with
   | nx => exact fun w2 σ2 H2 y => p w2 σ2 H2 (Wd.le_trans x y)
   | brk => exact tW.le x (show tW K T B W w (.ok .brk fr h) D from p)
   | ct => exact tW.le x (show tW K T B W w (.ok .ct fr h) D from p)
   | rt d => exact tW.le x (show tW K T B W w (.ok (.rt d) fr h) D from p)
 | exc e fr h => exact tW.le (D := D) (r := .exc e fr h) x p
 | err => exact p
theorem Je.bind {α β : Type} {VR : Wd → Hp → Fr → β → α → Prop} {m : M α} {f : α → M Fl} {fr : Fr} {h : Hh} {D : Ends} {Q : β → Hp → Prop} (p : Je P K T B W w (m.bind f fr h) D)
 (k : ∀ d fr1 h1 w1 H1 v, m fr h = .ok d fr1 h1 → w.le w1 → Rel K T B w1 σ H1 fr1 h1 → VR w1 H1 fr1 v d → Je P K T B W w1 (f d fr1 h1) D → Q v H1) : bu K T B W VR w σ (m fr h) Q := by
 cases e : m fr h with
 | ok d fr1 h1 =>
   rw [M.bind_ok e] at p
   exact fun w1 H1 v x r z => k d fr1 h1 w1 H1 v e x r z (p.le x)
 | exc y fr1 h1 =>
   rw [M.bind_exc e] at p
   exact fun w1 H1 c dd x r z => p w1 σ H1 c dd x r z
 | err =>
   rw [M.bind_err e] at p
   exact p.elim
end
section
variable {P : Wd → L2.St → Prop} {X : Cx} {T : Tb} {W : WX} {k : Nat} {pos pos' p2 : Pos} {e a b c : Expr} {st : Stmt} {sts as bs : List Stmt} {m : M D} {s n : M Fl} {t : M Bool}
end
def PX (K : PySem.W.Frag) (T : Tb) (i : Nat) (a : Addr) (x : bh) (cls : Value) (dd : Option Addr) : Wd → L2.St → Prop := fun w σ => σ[i]? = some (some (.ref a)) ∧ VP K T w x cls dd
theorem VP.mono {K : PySem.W.Frag} {T : Tb} {w w' : Wd} {x : bh} {cls : Value} {dd : Option Addr} (l : w.le w') (h : VP K T w x cls dd) : VP K T w' x cls dd :=
 ⟨h.1, h.2.imp id fun ⟨d, vs, e1, e2, e3⟩ => ⟨d, vs, e1, l.1 _ _ e2, e3.mono l⟩⟩
section
variable {K : PySem.W.Frag} {T : Tb} {i j : Nat} {a : Addr} {x : bh} {cls : Value} {dd : Option Addr}
theorem agr (h : j ≠ i := by decide) : ∀ w σ v, PX K T i a x cls dd w σ → PX K T i a x cls dd w (σ.set j v) := fun w σ v h' => ⟨by rw [ajg h]; exact h'.1, h'.2⟩
end
structure Su (X : Cx) (T : Tb) (i : Nat) (a : Addr) (oe : Obj) (cls : Value) (dd : Option Addr) (pn : List (Addr × Obj)) (y : bh) : Prop where
 hz : Zc cls dd oe
 hf : ∃ vs, oe.data = .fields vs
theorem Su.st {X : Cx} {T : Tb} {i j : Nat} {a : Addr} {oe : Obj} {cls : Value} {dd : Option Addr} {pn : List (Addr × Obj)} {y : bh} (_ : Su X T i a oe cls dd pn y) (h : j ≠ i := by decide) : ∀ w σ v, PX X.K T i a y cls dd w σ → PX X.K T i a y cls dd w (σ.set j v) := agr h
structure aio (K : PySem.W.Frag) (T : Tb) (tab : Tg → Tg → Option Bool) : Prop where
 kit : ∀ t u b, tab t u = some b → PySem.W.kitOne K (t.v T) (u.v T) = some b
 exc : ∀ c u b, tab (.o c) u = some b → L2.ExcC K (T.cad c)
def adl (tab : Tg → Tg → Option Bool) (c : Nat) (d : D) : Option Bool := match d with
 | .tup l => match LQ l with
   | some (u :: us) => Ky tab (.o c) (u :: us)
   | _ => none
 | d => match d.ctag with
   | some u => tab (.o c) u
   | none => none
def adm (tab : Tg → Tg → Option Bool) (c : Nat) (mb : M D) : M D := mb.bind fun d => M.opt ((adl tab c d).map .bl)
def DkX (H : Hp) (dd : Option Addr) : Prop := dd = none ∨ ∃ d0 fs, dd = some d0 ∧ H d0 = some (.xd fs)
def aip (K : PySem.W.Frag) (C a : Addr) (dd : Option Addr) : List V → Hp → VK → Prop := fun xs H Q => ∃ (y : V) (b : Bool), xs = [.ref a, y] ∧ L2.ExcC K C ∧ DkX H dd ∧
 ((∃ cv, ClsV y cv ∧ PySem.W.kitOne K (.ref C) cv = some b) ∨ ∃ tp cs us, y = .ref tp ∧ L2.SqT K H tp cs ∧ Paired ClsV cs us ∧ PySem.W.kitAny K (.ref C) us = some b) ∧ Q (.bl b) H
section
variable {X : Cx} {T : Tb} {W : WX} {k i : Nat} {a : Addr} {oe : Obj} {cls : Value} {dd : Option Addr} {x : bh} {pn : List (Addr × Obj)} {tab : Tg → Tg → Option Bool} {b : Expr} {mb : M D} {n : Str} {np pf pos : Pos}
def mXf (j : Nat) (x : bh) : M D := fun fr h => match x.fs[j]? with
 | some d => .ok d fr h
 | none => .err
structure XfF (K : PySem.W.Frag) (T : Tb) (f : Str) (ix : Nat → Option Nat) : Prop where
 at_ : ∀ c j, ix c = some j → (T.fld c)[j]? = some f ∧ (T.fld c).Nodup ∧ XfC K (T.cad c) ∧ PySem.W.findIn K (.ref (T.cad c)) f = some none
def mXF (ix : Nat → Option Nat) (x : bh) : M D := match ix x.c with
 | some j => mXf j x
 | none => fun _ _ => .err
end
def adn (i : Nat) (r : R Fl) : R Fl := match r with
 | .ok .nx fr h => .ok .nx (fr.set i none) h
 | .ok .brk fr h => .ok .brk (fr.set i none) h
 | .ok .ct fr h => .ok .ct (fr.set i none) h
 | r => r
def abv (i : Nat) (cond : Nat → Option Bool) (mb : M Fl) (ms : bh → M Fl) : M Fl := fun fr h => match mb fr h with
 | .exc x fr1 h1 => match cond x.c with
   | some true => if i < fr1.length then adn i (ms x (fr1.set i none) h1) else .err
   | some false => .exc x fr1 h1
   | none => .err
 | r => r
def abw (cond : Nat → Option Bool) (mb : M Fl) (ms : bh → M Fl) : M Fl := fun fr h => match mb fr h with
 | .exc x fr1 h1 => match cond x.c with
   | some true => ms x fr1 h1
   | some false => .exc x fr1 h1
   | none => .err
 | r => r
section
variable {X : Cx} {T : Tb} {W : WX} {k : Nat} {x n : Str} {c : Value} {cond : Nat → Option Bool} {body suite : List Stmt} {b₀ : Stmt} {np pos pos' : Pos} {mb : M Fl} {ms : bh → M Fl}
end
end Pk
namespace PySem
namespace OwO
open PySem.W PySem.Calls PyProof.Rows
section
variable {prog : Program} {w : World} {A : Around} {E : Value → Shared → Prop} {s : Shared} {K : Frag} {x C L f : Addr} {h₀ : Heap} {m : Str → Option Value} {ox : Obj} {od : Option Obj} {t : String} {b : Value} {op : Operator} {Q : Value → Shared → Prop}
def aiq (Q : Option Value → Shared → Prop) (v : Value) (s : Shared) : Prop := v ≠ .notImplemented ∧ Q (some v) s
end
section
variable {prog : Program} {w : World} {A : Around} {E : Value → Shared → Prop} {s : Shared} {x C dx : Addr}
end
end OwO
end PySem
namespace Pk
open PySem PySem.Spec L2
structure ais (X : Cx) (T : Tb) (k : Nat) (mt : Nat → Option Fn) : Prop where
 ex : ∀ c F, mt c = some F → ∃ (kk : Nat) (f : Addr) (fd : FuncData) (ps : List Str), Cls X.K (T.cad c) ∧ Meth X.K (T.cad c) (PySem.dunder "mul") f ∧ PySem.W.selfFirst X.K (T.cad c) = true ∧ v9 X.prog X.w X.K X.mg X.base T kk f fd ps F ∧ Bn X.K T fd ps 2 [] (aK []) ∧ kk ≤ k ∧
  ∃ g, PySem.W.findIn X.K (.ref (T.cad c)) (PySem.dunderR "mul") = some (some (.ref g))
structure ah7 (X : Cx) (T : Tb) (k : Nat) (mt : Nat → Option Fn) : Prop where
 ex : ∀ c F, mt c = some F → ∃ (kk : Nat) (f : Addr) (fd : FuncData) (ps : List Str), Cls X.K (T.cad c) ∧ Meth X.K (T.cad c) (PySem.dunderR "mul") f ∧ PySem.W.selfFirst X.K (T.cad c) = true ∧ v9 X.prog X.w X.K X.mg X.base T kk f fd ps F ∧ Bn X.K T fd ps 2 [] (aK []) ∧ kk ≤ k ∧
  (∃ g, PySem.W.findIn X.K (.ref (T.cad c)) (PySem.dunder "mul") = some (some (.ref g))) ∧ PySem.W.subIn X.K (.ref (T.cad c)) (.type "int") = some false ∧ PySem.W.subIn X.K (.ref (T.cad c)) (.type "bool") = some false
def D.bty (h : Hh) (d : D) : Option String := match d.tag h with
 | some (.b t) => some t
 | _ => none
def abx (mt : Nat → Option Fn) (ma mb : M D) : M D := ma.bind fun x => mb.bind fun y fr h => match fnOf mt h x, y.bty h with
 | some F, some _ => vD fr (F [x, y] h)
 | _, _ => .err
def D.smp : D → Bool
 | .non => true
 | .bl _ => true
 | .int _ => true
 | _ => false
def aby (mt : Nat → Option Fn) (ma mb : M D) : M D := ma.bind fun x => mb.bind fun y fr h => match fnOf mt h y, x.smp with
 | some F, true => vD fr (F [y, x] h)
 | _, _ => .err
section
variable {X : Cx} {T : Tb} {W : WX} {k : Nat} {a b : Expr} {ma mb : M D} {pos : Pos}
theorem aaI {K : PySem.W.Frag} {B : Bs} {w : Wd} {σ : L2.St} {H : Hp} {fr : Fr} {h : Hh} {v : V} {d : D} {t : String} (R : Rel K T B w σ H fr h) (rv : rC K T w v d) (e : d.bty h = some t) : TyX K H v (.type t) ∧ t ∈ JK := by
 unfold D.bty at e
 split at e
 · rename_i t' et
   cases e
   have mem : t ∈ JK := by
    unfold D.tag at et
    split at et <;> first | (cases et; decide) | cases et
   have e2 : abp [] (.b t) (.b t) = some true := by
    have : ∀ t ∈ JK, abp [] (.b t) (.b t) = some true := by decide +kernel
    exact this t mem
   exact ⟨Np (u := .b t) (bb := true) (acC (K := K) (T := T) (l := []) .nil) R (.inl rv) et e2, mem⟩
 · cases e
end
end Pk
namespace Pk
open PySem PySem.Spec L2
def ahN (l : List ((Tg × Tg) × Bool)) : Tg → Tg → Option Bool := fun t u => ajd (t, u) l
inductive abz (K : PySem.W.Frag) (T : Tb) : List ((Tg × Tg) × Bool) → Prop where
 | nil : abz K T []
 | cons {c : Nat} {u : Tg} {b : Bool} {l : List ((Tg × Tg) × Bool)} (q : PySem.W.kitOne K (.ref (T.cad c)) (u.v T) = some b) (i : L2.ExcC K (T.cad c)) (r : abz K T l) : abz K T (((.o c, u), b) :: l)
end Pk
namespace Pk
open PySem PySem.Spec L2
def Gq (mt : Nat → Option Fn) (o : D) (as : List D) : M D := fun fr h => match fnOf mt h o with
 | some F => match F (o :: as) h with
   | .ok d _ h => .ok d fr h
   | _ => .err
 | none => .err
def Ou (mt : Nat → Option Fn) (o : D) (as : List D) : M D := fun fr h => match fnOf mt h o with
 | some F => vD fr (F (o :: as) h)
 | none => .err
section
variable {X : Cx} {T : Tb} {W : WX} {k kk j n : Nat} {f C : Addr} {fd : FuncData} {ps ks : List Str} {F : Fn} {m : Str} {pos pf : Pos} {a b : Expr} {ma mb : M D}
theorem acD {A : Around} {pins : List (Addr × Obj)} {σ : L2.St} {H : Hp} {s : Shared} {Q : VK} {us : List Value} {vs : List V} {g : List Value → List Value → List Value} {gV : List V → List V → List V} {sp : Sp} {E : XK} (F : FnOk X.prog X.w X.K X.mg X.base (L2.CX X.prog X.w) kk f fd ps sp) (hr : Room kk A) (e0 : Env0 X.prog X.w X.K X.mg X.base A X.stack s H) (hb : KBn X.K fd ps n [] g gV)
 (hx : ∀ e s', L2.CX X.prog X.w X.stack H s E e s' → X.xe e s') (I : Inv X pins σ H s) (r : Vals vs us) (l1 : vs.length = n) (h : sp (gV vs []) H Q E) : wpAny (model X.prog X.w) A (call (.ref f) us) (EP X pins σ Q) X.xe s := by
 have r2 := hb.rel r (.nil : Vals [] [])
 refine wpAny_call (codeAny_mono (F.run A X.stack s H ⟨us, []⟩ (g us []) (gV vs []) Q _ hr e0 (hb.to s us [] I.kIn (r.length.symm.trans l1) rfl) r2 h) fun r s' hq => ?_)
 cases r with
 | error e => exact hx e s' hq
 | ok fl =>
   cases fl with
   | ret u => exact I.after hq
   | next => exact False.elim hq
   | brk => exact False.elim hq
   | cont => exact False.elim hq
theorem aaJ {H : Hp} {s : Shared} (e : Value) (s' : Shared) : L2.CX X.prog X.w X.stack H s (fun _ _ _ => False) e s' → X.xe e s' := fun c => by
 obtain ⟨a, B, H', cls, d, rfl, fl, hok, ub, na, os, ag, hE⟩ := c
 exact hE.elim
structure OwnRun (X : Cx) (T : Tb) (k n : Nat) (m : Str) (v : V) (H : Hp) (vs : List V) (Q : VK) (E : XK) : Prop where
 ex : ∃ (kk : Nat) (f : Addr) (fd : FuncData) (ps : List Str) (a C dx : Addr) (fs : List (Str × V)) (G : Fn), v = .ref a ∧ H a = some (.ins C dx fs) ∧ Cls X.K C ∧ Meth X.K C m f ∧ v9 X.prog X.w X.K X.mg X.base T kk f fd ps G ∧ kk ≤ k ∧
  ∃ g gV, KBn X.K fd ps (n + 1) [] g gV ∧ spF X.K T ps.length G (gV (.ref a :: vs) []) H Q E
theorem afa {mt : Nat → Option Fn} {B : Bs} {w : Wd} {σ : L2.St} {H : Hp} {fr : Fr} {h : Hh} {v : V} {d : D} {vs : List V} {as : List D} {Q : VK} (Mf : Dm X T j m mt n [] (aK [])) (R : Rel X.K T B w σ H fr h) (rv : rC X.K T w v d) (rs : aO X.K T w vs as) (hl : as.length = n)
 (p : bu X.K T B W (vE X.K T B σ) w σ (Ou mt d as fr h) Q) : OwnRun X T j n m v H vs Q (fun c d H' => W c d σ H') := by
 unfold Ou at p
 cases ef : fnOf mt h d with
 | none => rw [ef] at p; exact p.elim
 | some G =>
   rw [ef] at p
   obtain ⟨kk, f, fd, ps, a, Cl, dx, fs, rfl, eH, l, c1, c2, c3, c4, c5⟩ := Qq Mf R rv ef
   obtain ⟨g, gV, hb, hgD⟩ := c4.ex
   refine ⟨kk, f, fd, ps, a, Cl, dx, fs, G, rfl, eH, c1, c2, c3, c5, g, gV, hb, ?_⟩
   have p4 : bu X.K T B W (vE X.K T B σ) w σ (if (d :: as).length = n + 1 ∧ ([] : List D).length = 0 then vD fr (G (aK [] (d :: as) []) h) else .err) Q := by
    rw [if_pos ⟨by rw [aiX, hl], rfl⟩]
    show bu X.K T B W (vE X.K T B σ) w σ (vD fr (G (d :: as ++ []) h)) Q
    rw [aiV]
    exact p
   exact (Kw (n := n + 1) (m := 0) (zs := []) (es := []) (ds := d :: as) hgD R (.cons rv rs) .nil p4).2.2
theorem acE {mt : Nat → Option Fn} {B : Bs} {w : Wd} {σ : L2.St} {H : Hp} {fr : Fr} {h : Hh} {v : V} {d : D} {vs : List V} {as : List D} {Q : VK} (Mf : Dm X T j m mt n [] (aK [])) (R : Rel X.K T B w σ H fr h) (rv : rC X.K T w v d) (rs : aO X.K T w vs as) (hl : as.length = n)
 (p : bu X.K T B W (vE X.K T B σ) w σ (Gq mt d as fr h) Q) : OwnRun X T j n m v H vs Q (fun _ _ _ => False) := by
 refine afa (W := WF) Mf R rv rs hl ?_
 unfold Gq at p
 unfold Ou
 cases ef : fnOf mt h d with
 | none => rw [ef] at p; exact p.elim
 | some G =>
   rw [ef] at p
   dsimp only at p ⊢
   cases e : G (d :: as) h with
   | ok d' fr' h' => rw [e] at p; exact p
   | exc _ _ _ => rw [e] at p; exact p.elim
   | err => rw [e] at p; exact p.elim
def abA (d : D) : M D := fun fr h => match d with
 | .int i => if 0 ≤ i ∧ i < 2 ^ 60 then .ok (.int i) fr h else .err
 | _ => .err
def abB (mt : Nat → Option Fn) (ma : M D) : M D := ma.bind fun o => (Gq mt o []).bind abA
theorem ahi {K : PySem.W.Frag} {B : Bs} {σ : L2.St} {w : Wd} {H : Hp} {fr : Fr} {v : V} {i : Bool} (r : vE K T B σ w H fr v (.bl i)) : v = .bl i := by
 rcases r with r | ⟨_, _, _, _, _, _, r⟩
 · exact acd r
 · cases r
def abC (mt : Nat → Option Fn) (ma mb : M D) : M D := ma.bind fun o => mb.bind fun i => Ou mt o [i]
def ado (X : Cx) (T : Tb) (W : WX) (VR2 : wI V D) (op : CmpOp) (g : D → D → M Bool) : Prop :=
 ∀ B w σ H fr h x y d e Q, Rel X.K T B w σ H fr h → rC X.K T w x d → VR2 X.K T B σ w H fr y e → bu X.K T B W (vB X.K T B σ) w σ (g d e fr h) Q → rM X (compareOp op) x y H (fun z H' => ∃ c, z = .bl c ∧ Q c H')
def Wl {α : Type} (g : D → D → M α) (ma mb : M D) : M α := ma.bind fun x => mb.bind fun y => g x y
theorem afb {op : CmpOp} {VR2 : wI V D} {g : D → D → M Bool} (o : ado X T W VR2 op g) (sa : cO X T W a ma) (sb : wF (WE X b) X.K T W VR2 mb) (hm : behindInMarks op b = false := by with_unfolding_all rfl) :
 Gh X T W (.Compare a [op] [b] pos) (Wl g ma mb) := fun B w σ H fr h Q r1 p =>
 Rv (pt_cmpR Jm mZ mZ hm) (sa B w σ H fr h (fun x H1 => WE X b σ H1 fun y H2 => rM X (compareOp op) x y H2 fun z H' => ∃ k, z = .bl k ∧ Q k H') r1 (bu.bind (VR := vV X.K T B σ) p fun d fr1 h1 w1 H1 x e1 l1 r1 rx p1 =>
  sb B w1 σ H1 fr1 h1 _ r1 (bu.bind (VR := VR2 X.K T B σ) p1 fun e fr2 h2 w2 H2 y e2 l2 r2 ry p2 => o B w2 σ H2 fr2 h2 x y d e Q r2 (rx.mono l2) ry p2)))
def Y5 (d : D) : M Bool := M.opt d.tb
theorem aaK {B : Bs} {w : Wd} {σ : L2.St} {m : M D} {fr : Fr} {h : Hh} {Q : Bool → Hp → Prop} {c : Bool → Bool} (p : bu X.K T B W (vB X.K T B σ) w σ ((m.bind fun d => (Y5 d).bind fun b => M.ret (c b)) fr h) Q) : bu X.K T B W (vE X.K T B σ) w σ (m fr h) (fun v H' => ∃ b, v = .bl b ∧ Q (c b) H') :=
 bu.bind p fun d fr2 h2 w2 H2 v e2 l2 r2 rv2 p3 => by
  unfold Y5 M.bind at p3
  cases d with
  | bl b => exact ⟨b, ahi rv2, p3 w2 H2 _ (Wd.le_refl _) r2 rfl⟩
  | _ => exact p3.elim
def gIn (mt : Nat → Option Fn) (c : Bool → Bool) (x o : D) : M Bool := (Gq mt o [x]).bind fun d => (Y5 d).bind fun b => M.ret (c b)
end
end Pk
namespace PySem
namespace OwE
open PySem.W PySem.Calls PyProof.Rows
section
variable {prog : Program} {w : World} {M : Model} {A : Around} {E : Value → Shared → Prop} {s : Shared} {K : Frag} {x C f : Addr} {ox : Obj} {od : Option Obj} {b tb : Value}
end
end OwE
end PySem
namespace Pk
open PySem PySem.Spec L2
structure EqX (K : PySem.W.Frag) (C : Addr) : Prop where
 ne : PySem.W.findIn K (.ref C) "__ne__" = some (some (.builtin "object.__ne__"))
 ob : PySem.W.mroIn K C (.type "object") = some true
 nf : ∀ t ∈ JK, PySem.W.notFirst K C (.type t) = true
 nb : ∀ t ∈ JK, PySem.W.subIn K (.ref C) (.type t) = some false
theorem agv {K : PySem.W.Frag} {C : Addr} (h : eqX K C = true) : EqX K C := by
 obtain ⟨c1, h⟩ := He.ba h
 obtain ⟨c2, h⟩ := He.ba h
 obtain ⟨c3, c4⟩ := He.ba h
 exact ⟨He.eqO_ok c1, of_decide_eq_true c2, fun t ht => List.all_eq_true.mp c3 t ht, fun t ht => of_decide_eq_true (List.all_eq_true.mp c4 t ht)⟩
structure EqF (K : PySem.W.Frag) (T : Tb) (mt : Nat → Option Fn) : Prop where
 ex : ∀ c F, mt c = some F → EqX K (T.cad c)
def Vb (mt : Nat → Option Fn) (c : Bool → Bool) (x y : D) : M Bool := fun fr h => if (y.bty h).isSome || (CG h x y).isSome then ((Gq mt x [y]).bind fun d => (Y5 d).bind fun b => M.ret (c b)) fr h else .err
section
variable {X : Cx} {T : Tb} {W : WX} {k j : Nat}
theorem Y6 {mt : Nat → Option Fn} {h : Hh} {d : D} {G : Fn} (e : fnOf mt h d = some G) : ∃ c fs, d.ins h = some (c, fs) ∧ mt c = some G := by
 unfold fnOf at e
 split at e
 · rename_i c fs ei
   exact ⟨c, fs, ei, e⟩
 · cases e
theorem adp {mt : Nat → Option Fn} {B : Bs} {w : Wd} {σ σ' : L2.St} {H : Hp} {fr : Fr} {h : Hh} {x y : V} {d e : D} {u : Value} {pins : List (Addr × Obj)} {s : Shared} {a' Cl dx : Addr} {fs : List (Str × V)} (Ef : EqF X.K T mt) (R : Rel X.K T B w σ H fr h) (rx : rC X.K T w x d) (ry : rC X.K T w y e)
 (hc : ((e.bty h).isSome || (CG h d e).isSome) = true) (hG : fnOf mt h d ≠ none) (I : Inv X pins σ' H s) (ru : RelV y u) (ex : x = .ref a') (eH : H a' = some (.ins Cl dx fs)) : EqX X.K Cl ∧ ∃ tb, PySem.W.Looks (model X.prog X.w) s.heap (typeOf u) tb ∧ PySem.W.notFirst X.K Cl tb = true := by
 obtain ⟨c, gs, ei, em⟩ : ∃ c gs, d.ins h = some (c, gs) ∧ ∃ G, mt c = some G := by
  cases q : fnOf mt h d with
  | none => exact absurd q hG
  | some G =>
    obtain ⟨c, gs, e1, e2⟩ := Y6 q
    exact ⟨c, gs, e1, G, e2⟩
 obtain ⟨G, em⟩ := em
 obtain ⟨p1, dx1, vs1, e1, eH1, _⟩ := HQ R (.inl rx) ei
 have ep : p1 = a' := V.ref.inj (e1.symm.trans ex)
 subst ep
 have eo := Option.some.inj (eH1.symm.trans eH)
 injection eo with eC _ _
 subst eC
 have Eq := Ef.ex c G em
 refine ⟨Eq, ?_⟩
 rcases Bool.or_eq_true_iff.mp hc with z | z
 · obtain ⟨t, et⟩ := Option.isSome_iff_exists.mp z
   obtain ⟨ty, ht⟩ := aaI R ry et
   obtain ⟨P, Z, p, _⟩ := kit_of I ru ty
   exact ⟨.type t, Z.ty (model X.prog X.w) s.heap I.kIn p, Eq.nf t ht⟩
 · obtain ⟨c', ec⟩ := Option.isSome_iff_exists.mp z
   obtain ⟨⟨fs1, i1⟩, gs2, i2⟩ := adf ec
   have : c' = c := by
    rw [ei] at i1
    cases i1
    rfl
   subst this
   obtain ⟨p2, dy, vs2, rfl, eH2, _⟩ := HQ R (.inl ry) i2
   obtain rfl : u = Value.ref p2 := ru
   obtain ⟨mB, J', _⟩ := ins_get I.hok eH2
   obtain ⟨od', J', _⟩ := J'.look
   exact ⟨_, J'.type, by unfold PySem.W.notFirst; simp⟩
theorem adq {mt : Nat → Option Fn} {c : Bool → Bool} {B : Bs} {w : Wd} {σ : L2.St} {fr : Fr} {h : Hh} {d e : D} {Q : Bool → Hp → Prop} (p : bu X.K T B W (vB X.K T B σ) w σ (Vb mt c d e fr h) Q) :
 ((e.bty h).isSome || (CG h d e).isSome) = true ∧ fnOf mt h d ≠ none ∧ bu X.K T B W (vE X.K T B σ) w σ (Gq mt d [e] fr h) (fun v H' => ∃ b, v = .bl b ∧ Q (c b) H') := by
 unfold Vb at p
 cases hc : ((e.bty h).isSome || (CG h d e).isSome) with
 | false => rw [hc] at p; exact p.elim
 | true =>
   rw [hc, if_pos rfl] at p
   have p' := aaK p
   refine ⟨rfl, fun z => ?_, p'⟩
   have q : Gq mt d [e] fr h = .err := by unfold Gq; rw [z]
   rw [q] at p'
   exact p'
theorem afc {mt : Nat → Option Fn} (C : Cq X T W k) (hk : j + 1 ≤ k) (Mf : Dm X T j "__eq__" mt 1 [] (aK [])) (Ef : EqF X.K T mt) : ado X T W vV .Eq (Vb mt fun b => b) := fun B w σ H fr h x y d e Q R rx ry p => by
 obtain ⟨hc, hG, p'⟩ := adq p
 obtain ⟨kk, f, fd, ps, a', Cl, dx, fs, G, ex, eH, c1, c2, c3, c5, g, gV, hb, q⟩ := (acE Mf R rx (.cons ry .nil) rfl p').ex
 intro pins s σ' v u I rv ru
 obtain ⟨Eq, tb, lk, nf⟩ := adp Ef R rx ry hc hG I ru ex eH
 subst ex
 obtain rfl : v = Value.ref a' := rv
 obtain ⟨mA, J, _⟩ := ins_get I.hok eH
 obtain ⟨od, J, _⟩ := J.look
 obtain ⟨m, hF⟩ := I.fr
 show wpAny _ _ (richCompare .Eq _ _) _ _ _
 have hu : X.A.units < cLine := by
  have := C.u
  omega
 refine PySem.W.cmp_K (op := .Eq) hu hF I.ok.mod.kin J lk nf c2.at_ c2.fn (wpAny_mono (acD (n := 1 + 1) (us := [.ref a', u]) (vs := [.ref a', y]) c3.ok (C.room.mono (Nat.le_trans c5 (Nat.le_of_succ_le hk))) I.env0 hb aaJ I (.cons rfl (.cons ru .nil)) rfl q) (fun r s' z => ?_) fun _ _ z => z)
 obtain ⟨z', H', I', rz, b, eb, qz⟩ := z
 subst eb
 exact abr ⟨.bl b, H', I', rz, b, rfl, qz⟩
end
end Pk
namespace Pk
open PySem PySem.Spec L2
theorem acF {K : PySem.W.Frag} {C : Addr} (h : U3 K C = true) : ClX.CRead K C (.type "type") := by
 obtain ⟨c1, c2⟩ := He.ba h
 exact ⟨c1, He.eqO_ok c2⟩
def ccA (K : PySem.W.Frag) (C : Addr) (f : Str) : Addr := match PySem.W.findCls K (.ref C) (.type "type") f with
 | some (.val (.ref a)) => a
 | _ => 0
def ah8 (K : PySem.W.Frag) (C : Addr) (f : Str) (vs : List He.Dv) : Bool := U3 K C && ((match PySem.W.findCls K (.ref C) (.type "type") f with
 | some (.val (.ref a)) => decide (a = ccA K C f)
 | _ => false) && abn K (ccA K C f) vs)
structure ah9 (X : Cx) (T : Tb) (c : Nat) (f : Str) (d : D) : Prop where
 ex : ∃ (u : Value) (v : V), ClX.CRead X.K (T.cad c) (.type "type") ∧ ClX.CVal X.K (T.cad c) (.type "type") f v u ∧ rC X.K T ⟨fun _ => none, []⟩ v d
section
variable {X : Cx} {T : Tb} {W : WX} {k c : Nat} {x f : Str} {p pos : Pos} {d : D}
end
end Pk
namespace PySem
namespace OwB
open PySem.W PySem.Calls PyProof.Rows
section
variable {prog : Program} {w : World} {A : Around} {E : Value → Shared → Prop} {s : Shared} {K : Frag} {x C f : Addr} {ox : Obj} {od : Option Obj}
def ahV (Q : Bool → Shared → Prop) (v : Value) (s' : Shared) : Prop := match v with
 | .int n _ => (0 ≤ n ∧ n < 2 ^ 63) ∧ Q (n != 0) { s' with toks := s'.toks + 1 }
 | _ => False
end
end OwB
end PySem
namespace Pk
open PySem PySem.Spec L2
section
variable {X : Cx} {T : Tb} {W : WX} {k kk j n c : Nat} {pos pf px apos cpos p : Pos} {a b e : Expr} {es : List Expr} {ma mb m : M D} {m1 : M (List D)} {x f : Str}
structure NoB (K : PySem.W.Frag) (T : Tb) (mt : Nat → Option Fn) : Prop where
 ex : ∀ c F, mt c = some F → PySem.W.findIn K (.ref (T.cad c)) "__bool__" = some none
def ait (K : PySem.W.Frag) (C : Addr) : Bool := He.eqO (PySem.W.findIn K (.ref C) "__bool__") (some none)
def Y7 (mt : Nat → Option Fn) (ma : M D) : M D := ma.bind fun o => (Gq mt o []).bind fun d => (abA d).bind fun d => M.opt (match d with
 | .int i => some (.bl (i != 0))
 | _ => none)
theorem aO.eraseIdx {K : PySem.W.Frag} {w : Wd} : ∀ {vs : List V} {ds : List D} (n : Nat), aO K T w vs ds → aO K T w (vs.eraseIdx n) (ds.eraseIdx n)
 | _, _, _, .nil => .nil
 | _, _, 0, .cons _ t => t
 | _, _, n + 1, .cons h t => .cons h (aO.eraseIdx n t)
def Kd (i : Nat) (d : D) : M D := fun fr h => match fr[i]?, d with
 | some (some (.nl l)), .int j => if -(2 ^ 63) ≤ j ∧ j < 2 ^ 63 then (match seqIndex? j l.length with
   | some q => (match l[q]? with
     | some y => .ok y (fr.set i (some (.nl (l.eraseIdx q)))) h
     | none => .err)
   | none => .err) else .err
 | _, _ => .err
def abD (i : Nat) (m : M D) : M D := (mO i wj).bind fun _ => m.bind fun d => Kd i d
theorem adt {A : Around} {pins : List (Addr × Obj)} {σ : L2.St} {H : Hp} {s : Shared} {Q : VK} {us : List Value} {vs : List V} {g : List Value → List Value → List Value} {gV : List V → List V → List V} {sp : Sp} {E : XK} {f : Addr} {fd : FuncData} {ps : List Str} (F : FnOk X.prog X.w X.K X.mg X.base (L2.CX X.prog X.w) kk f fd ps sp) (hr : Room kk A) (e0 : Env0 X.prog X.w X.K X.mg X.base A X.stack s H) (hb : KBn X.K fd ps n [] g gV)
 (hx : ∀ e s', L2.CX X.prog X.w X.stack H s E e s' → X.xe e s') (I : Inv X pins σ H s) (r : Vals vs us) (l1 : vs.length = n) (h : sp (gV vs []) H Q E) :
 codeAny (model X.prog X.w) A (.call (.ref f) ⟨us, []⟩) (fun r s' => match r with | .ok (.ret v) => EP X pins σ Q v s' | .ok _ => False | .error e => X.xe e s') s := by
 have r2 := hb.rel r (.nil : Vals [] [])
 refine codeAny_mono (F.run A X.stack s H ⟨us, []⟩ (g us []) (gV vs []) Q _ hr e0 (hb.to s us [] I.kIn (r.length.symm.trans l1) rfl) r2 h) fun r s' hq => ?_
 cases r with
 | error e => exact hx e s' hq
 | ok fl =>
   cases fl with
   | ret u => exact I.after hq
   | next => exact False.elim hq
   | brk => exact False.elim hq
   | cont => exact False.elim hq
structure CmF (X : Cx) (T : Tb) (k c : Nat) (m : Str) (n : Nat) (F : Fn) : Prop where
 ex : ∃ (kk : Nat) (p f : Addr) (fd : FuncData) (ps : List Str), ClX.CRead X.K (T.cad c) (.type "type") ∧ ClX.CMet X.K (T.cad c) (.type "type") m p f ∧ v9 X.prog X.w X.K X.mg X.base T kk f fd ps F ∧ Bn X.K T fd ps (n + 1) [] (aK []) ∧ kk ≤ k
theorem agw {K : PySem.W.Frag} {C : Addr} {m : Str} (h : cmX K C m = true) : ClX.CRead K C (.type "type") ∧ ∃ p, ClX.CMet K C (.type "type") m p (cmA K C m) := by
 obtain ⟨c1, h⟩ := He.ba h
 refine ⟨acF c1, ?_⟩
 split at h
 · rename_i i p C' e
   obtain ⟨h1, h⟩ := He.ba h
   obtain ⟨h2, h⟩ := He.ba h
   obtain ⟨h3, h4⟩ := He.ba h
   have e1 := of_decide_eq_true h1
   have e2 := of_decide_eq_true h2
   subst e1 e2
   refine ⟨p, e, ?_, h4⟩
   split at h3
   · rename_i g rest er
     rw [er, of_decide_eq_true h3]
     exact ⟨rest, rfl⟩
   · cases h3
 · cases h
def mCm (n c : Nat) (F : Fn) (ma : M (List D)) : M D := ma.bind fun ds fr h => if ds.length = n then vD fr (F (.cls c :: ds) h) else .err
theorem ahj {F : Fn} {me : Str} {pl : Sem Bool} (C : Cq X T W k) (Cf : CmF X T k c me n F) (hm : X.mg x = some (.ref (T.cad c))) (sa : CP X T W (e :: es) m1) (hg : Gl X x := by rfl) (hdb : (x == ("__debug__" : Str)) = false := by decide)
 (hst : starEach (e :: es) X.env = (false, eval e X.env) :: starEach es X.env := by exact uG rfl) (hpl : (backTo pos (starEach es X.env)).any (·.1) = false := by rfl)
 (ht : eval (.Call (.Attribute (.Name x p) me apos) (e :: es) [] pos) X.env = (do
  let ov ← eval (.Name x p) X.env
  standAt apos.atName
  let (f, first) ← holding [ov] (getMethod ov me pl)
  callWith pos f first (backTo pos (starEach (e :: es) X.env)) (backToKw pos (keywordEach [] X.env))) := by rfl) :
 zQ X T W (.Call (.Attribute (.Name x p) me apos) (e :: es) [] pos) (mCm n c F m1) := fun B w σ H fr h Q R pp => WE.mk <| fun pins s I => by
 obtain ⟨kk, pa, f, fd, ps, cr, cm, fp, bn, hk⟩ := Cf.ex
 obtain ⟨g, gV, hb, hgD⟩ := bn.ex
 refine PySem.W.methodCall_KW (pl := pl) (thn (((acz (T := T) (W := W) (c := c) hm hg hdb) B w σ H fr h (fun v H1 => v = .ref (T.cad c) ∧ WA X (e :: es) σ H1 fun vs H2 => vs.length = n ∧ spF X.K T ps.length F (gV (.ref (T.cad c) :: vs) []) H2 Q (fun c d H' => W c d σ H')) R (fun w1 H1 v l1 R1 rv => ?_)).go pins s I) fun u s1 ⟨z, H1, I1, rx, ez, q⟩ => ?_) ht
 · cases rv with
   | cls _ =>
     refine ⟨rfl, sa B w1 σ H1 fr h _ R1 (bu.bind (VR := vA X.K T B σ) (pp.le l1) fun ds fr2 h2 w2 H2 vs e2 l2 r2 rs p3 => ?_)⟩
     have p4 : bu X.K T B W (vE X.K T B σ) w2 σ (if ds.length = n then vD fr2 (F (.cls c :: ds) h2) else .err) Q := p3
     by_cases hl : ds.length = n
     · rw [if_pos hl] at p4
       have p5 : bu X.K T B W (vE X.K T B σ) w2 σ (if (D.cls c :: ds).length = n + 1 ∧ ([] : List D).length = 0 then vD fr2 (F (aK [] (D.cls c :: ds) []) h2) else .err) Q := by
        rw [if_pos ⟨by rw [aiX, hl], rfl⟩]
        show bu X.K T B W (vE X.K T B σ) w2 σ (vD fr2 (F (D.cls c :: ds ++ []) h2)) Q
        rw [aiV]
        exact p4
       exact ⟨rs.length.trans hl, (Kw (n := n + 1) (m := 0) (zs := []) (es := []) (ds := D.cls c :: ds) hgD r2 (.cons (.cls c) rs) .nil p5).2.2⟩
     · rw [if_neg hl] at p4
       exact p4.elim
 · subst ez
   obtain rfl : u = Value.ref (T.cad c) := rx
   refine ClX.getmethcm_ok I1 cr cm fun s2 I2 => ?_
   refine ClX.callwith_cm I2 (ClX.base_none I1 (Nat.le_refl _)) cm.fi (thn (q.go pos _ s2 I2) fun us s3 ⟨vs, H2, I3, rv, l, q2⟩ => ⟨⟨ClX.pin_at I3, I3.kIn⟩, ?_⟩) hst hpl
   have cx : ∀ e s', L2.CX X.prog X.w X.stack H2 s3 (fun c d H' => W c d σ H') e s' → X.xe e s' := fun e s' z => passAt C.takes σ _ H2 s3 e s' I3 z
   have z := wpAny_call (PySem.W.method_call (ClX.pin_at I3) (adt (n := n + 1) (us := .ref (T.cad c) :: us) (vs := .ref (T.cad c) :: vs) fp.ok (C.room.mono hk) I3.env0 hb cx I3 (.cons rfl rv) (by rw [aiX, l]) q2))
   exact thn z fun _ _ y => ClX.unpinE y
end
end Pk
namespace Pk
open PySem PySem.Spec L2
section
variable {X : Cx} {T : Tb} {W : WX} {k : Nat} {b : Expr} {mb : M D} {pos px : Pos}
def aia (X : Cx) (T : Tb) (op : CmpOp) (f : Hh → D → D → Option Bool) : Prop :=
 ∀ B w σ H fr h x y d e c Q, Rel X.K T B w σ H fr h → vO X.K T B σ w H fr x d → vO X.K T B σ w H fr y e → f h d e = some c → Q (.bl c) H → rM X (compareOp op) x y H Q
def Y8 (i : Nat) (f : Hh → D → D → Option Bool) (mb : M D) : M Bool := (yu i).bind fun _ => mb.bind fun y => (iz i).bind fun d fr h => M.opt (f h d y) fr h
end
end Pk
namespace PySem
namespace OwR
open PySem.W PySem.Calls PyProof.Rows
open PySem.AutoSeq1 (wpAny_loadPart')
section
variable {K : Frag} {x C : Addr} {ox : Obj} {od : Option Obj}
theorem Gz {M : Model} {A : Around} {E : Value → Shared → Prop} {s : Shared} {t : String} {Q : Bool → Shared → Prop} (X : K.In s.heap) (I : InstAt s.heap x ox C od) (e : subIn K (.ref C) (.type t) = some false) (h : Q false s) : wpAny M A (isInstance (.ref x) (.type t)) Q E s :=
 wpAny_bind (I.type.here ((looks_subIn X e).here h))
theorem list_eq (l : Addr) (e : subIn K (.ref C) (.type "list") = some false) : Meets (Builtin.«list.__eq__» ⟨[.ref l, .ref x], []⟩) (fun _ R s => (K.In s.heap ∧ InstAt s.heap x ox C od) ∧ R (.ok (.ret .notImplemented)) s) :=
 .of_wp fun prog w A R s h => by
  obtain ⟨⟨X, I⟩, h⟩ := h
  repeat (first | (with_reducible refine Gz X I e ?_) | (refine wpAny_bind (m := isInstance (.ref x) (.type "list")) (Gz X I e ?_)) | wp_step)
  exact ⟨_, rfl, h⟩
theorem list_ne (l : Addr) (e : subIn K (.ref C) (.type "list") = some false) : Meets (Builtin.«list.__ne__» ⟨[.ref l, .ref x], []⟩) (fun _ R s => (K.In s.heap ∧ InstAt s.heap x ox C od) ∧ R (.ok (.ret .notImplemented)) s) :=
 .of_wp fun prog w A R s h => by
  obtain ⟨⟨X, I⟩, h⟩ := h
  repeat (first | (with_reducible refine Gz X I e ?_) | (refine wpAny_bind (m := isInstance (.ref x) (.type "list")) (Gz X I e ?_)) | wp_step)
  exact ⟨_, rfl, h⟩
theorem tup_eq (l : Addr) (e : subIn K (.ref C) (.type "tuple") = some false) : Meets (Builtin.«tuple.__eq__» ⟨[.ref l, .ref x], []⟩) (fun _ R s => (K.In s.heap ∧ InstAt s.heap x ox C od) ∧ R (.ok (.ret .notImplemented)) s) :=
 .of_wp fun prog w A R s h => by
  obtain ⟨⟨X, I⟩, h⟩ := h
  repeat (first | (with_reducible refine Gz X I e ?_) | (refine wpAny_bind (m := isInstance (.ref x) (.type "tuple")) (Gz X I e ?_)) | wp_step)
  exact ⟨_, rfl, h⟩
theorem tup_ne (l : Addr) (e : subIn K (.ref C) (.type "tuple") = some false) : Meets (Builtin.«tuple.__ne__» ⟨[.ref l, .ref x], []⟩) (fun _ R s => (K.In s.heap ∧ InstAt s.heap x ox C od) ∧ R (.ok (.ret .notImplemented)) s) :=
 .of_wp fun prog w A R s h => by
  obtain ⟨⟨X, I⟩, h⟩ := h
  repeat (first | (with_reducible refine Gz X I e ?_) | (refine wpAny_bind (m := isInstance (.ref x) (.type "tuple")) (Gz X I e ?_)) | wp_step)
  exact ⟨_, rfl, h⟩
theorem int_eq_int (a : Int) (u : Tok) (dx : Addr) : Meets (Builtin.«int.__eq__» ⟨[.int a u, .ref x], []⟩) (fun _ R s => s.heap.get? x = some (instObj C dx) ∧ R (.ok (.ret Value.notImplemented)) s) :=
 .of_wp fun prog w A R s h => by obtain ⟨hp, g, d, tk, os⟩ := s; obtain ⟨hl, h⟩ := h; wp_walk using wpAny_loadPart' hl, wpAny_load hl; exact ⟨_, rfl, h⟩
theorem int_ne_int (a : Int) (u : Tok) (dx : Addr) : Meets (Builtin.«int.__ne__» ⟨[.int a u, .ref x], []⟩) (fun _ R s => s.heap.get? x = some (instObj C dx) ∧ R (.ok (.ret Value.notImplemented)) s) :=
 .of_wp fun prog w A R s h => by obtain ⟨hp, g, d, tk, os⟩ := s; obtain ⟨hl, h⟩ := h; wp_walk using wpAny_loadPart' hl, wpAny_load hl; exact ⟨_, rfl, h⟩
theorem int_eq_bool (a : Bool) (dx : Addr) : Meets (Builtin.«int.__eq__» ⟨[.bool a, .ref x], []⟩) (fun _ R s => s.heap.get? x = some (instObj C dx) ∧ R (.ok (.ret Value.notImplemented)) s) :=
 .of_wp fun prog w A R s h => by obtain ⟨hp, g, d, tk, os⟩ := s; obtain ⟨hl, h⟩ := h; wp_walk using wpAny_loadPart' hl, wpAny_load hl; exact ⟨_, rfl, h⟩
theorem int_ne_bool (a : Bool) (dx : Addr) : Meets (Builtin.«int.__ne__» ⟨[.bool a, .ref x], []⟩) (fun _ R s => s.heap.get? x = some (instObj C dx) ∧ R (.ok (.ret Value.notImplemented)) s) :=
 .of_wp fun prog w A R s h => by obtain ⟨hp, g, d, tk, os⟩ := s; obtain ⟨hl, h⟩ := h; wp_walk using wpAny_loadPart' hl, wpAny_load hl; exact ⟨_, rfl, h⟩
theorem str_eq (a : Str) (u : Tok) (dx : Addr) : Meets (Builtin.«str.__eq__» ⟨[.str a u, .ref x], []⟩) (fun _ R s => s.heap.get? x = some (instObj C dx) ∧ R (.ok (.ret Value.notImplemented)) s) :=
 .of_wp fun prog w A R s h => by obtain ⟨hp, g, d, tk, os⟩ := s; obtain ⟨hl, h⟩ := h; wp_walk using wpAny_loadPart' hl, wpAny_load hl; exact ⟨_, rfl, h⟩
theorem str_ne (a : Str) (u : Tok) (dx : Addr) : Meets (Builtin.«str.__ne__» ⟨[.str a u, .ref x], []⟩) (fun _ R s => s.heap.get? x = some (instObj C dx) ∧ R (.ok (.ret Value.notImplemented)) s) :=
 .of_wp fun prog w A R s h => by obtain ⟨hp, g, d, tk, os⟩ := s; obtain ⟨hl, h⟩ := h; wp_walk using wpAny_loadPart' hl, wpAny_load hl; exact ⟨_, rfl, h⟩
end
section
variable {prog : Program} {w : World} {A : Around} {E : Value → Shared → Prop} {s : Shared} {K : Frag} {x C f : Addr} {ox : Obj} {od : Option Obj} {a : Value} {t : String}
def Declines (prog : Program) (w : World) (A : Around) (E : Value → Shared → Prop) (s : Shared) (a : Value) (nm : Str) (x : Addr) : Prop := ∀ P' : Option Value → Shared → Prop, P' none s → wpAny (model prog w) A (tryCompare a nm (.ref x)) P' E s
theorem right (op : CmpOp) {Q : Value → Shared → Prop} (hu : A.units < cLine) (X : K.In s.heap) (I : InstAt s.heap x ox C od) (h1 : oneThing? op a (.ref x) = none) (ha : Looks (model prog w) s.heap (typeOf a) (.type t)) (hn : subIn K (.ref C) (.type t) = some false)
 (hd : Declines prog w A E s a (cmpInfo op).2.1 x) (h : wpAny (model prog w) A (tryCompare (.ref x) (cmpInfo op).2.2 a) (fun r s' => ∃ v, r = some v ∧ Q v s') E s) : wpAny (model prog w) A (richCompare op a (.ref x)) Q E s := by
 unfold richCompare
 simp only [h1]
 refine wpAny_holding (wpAny_bind (wpAny_cRoomFor hu ?_))
 refine wpAny_bind (ha.here (wpAny_bind (I.type.here ?_)))
 rw [if_pos (show ((Value.type t != Value.ref C) = true) from rfl)]
 refine wpAny_bind ((looks_subIn X hn).here ?_)
 simp only [Bool.false_eq_true, if_false]
 refine wpAny_bind (hd _ ?_)
 simp only [Bool.not_false, if_true]
 refine wpAny_bind (wpAny_mono h (fun r s' z => ?_) fun _ _ e => e)
 obtain ⟨v, rfl, q⟩ := z
 exact wpAny_pure q
end
end OwR
end PySem
namespace Pk
open PySem PySem.Spec L2
def Uk (mt : Nat → Option Fn) (c : Bool → Bool) (x y : D) : M Bool := fun fr h => match fnOf mt h x with
 | some _ => Vb mt c x y fr h
 | none => if (x.bty h).isSome then ((Gq mt y [x]).bind fun d => (Y5 d).bind fun b => M.ret (c b)) fr h else .err
section
variable {X : Cx} {T : Tb} {W : WX} {k j : Nat}
theorem declines {B : Bs} {w : Wd} {σ σ' : L2.St} {H : Hp} {fr : Fr} {h : Hh} {v : V} {d : D} {u : Value} {pins : List (Addr × Obj)} {s : Shared} {a' Cl dx : Addr} {fs : List (Str × V)} {A : Around} {E : Value → Shared → Prop} {t : String} {ox : Obj} {od : Option Obj} (R : Rel X.K T B w σ H fr h) (rv : rC X.K T w v d) (et : d.bty h = some t) (I : Inv X pins σ' H s) (ru : RelV v u)
 (J : PySem.W.InstAt s.heap a' ox Cl od) (hx : ∃ dt : Addr, s.heap.get? a' = some (PySem.W.instObj Cl dt)) (Eq : EqX X.K Cl) :
 oneThing? .Eq u (.ref a') = none ∧ oneThing? .NotEq u (.ref a') = none ∧ PySem.OwR.Declines X.prog X.w A E s u "__eq__" a' ∧ PySem.OwR.Declines X.prog X.w A E s u "__ne__" a' := by
 obtain ⟨dt, hx⟩ := hx
 have sqL : ∀ {p : Addr} {vs : List V}, SqL X.K H p vs → PySem.OwR.Declines X.prog X.w A E s (.ref p) "__eq__" a' ∧ PySem.OwR.Declines X.prog X.w A E s (.ref p) "__ne__" a' := fun {p vs} q => by
  obtain ⟨its, rv, pl, hz⟩ := I.list q
  have hT : s.TypeIs (.ref p) "list" := pl.isList.typeIs
  exact ⟨fun P' h' => wpAny_tryCompare_declines hT PySem.F.slot_list_eq (call_meets PySem.F.slot_list_eq hT PySem.F.entry_list_eq (PySem.F.args_list_eq_2 _ _) (PySem.OwR.list_eq p (Eq.nb "list" (by decide))) ⟨⟨I.kIn, J⟩, rfl, h'⟩),
   fun P' h' => wpAny_tryCompare_declines hT PySem.F.slot_list_ne (call_meets PySem.F.slot_list_ne hT PySem.F.entry_list_ne (PySem.F.args_list_ne_2 _ _) (PySem.OwR.list_ne p (Eq.nb "list" (by decide))) ⟨⟨I.kIn, J⟩, rfl, h'⟩)⟩
 have sqT : ∀ {p : Addr} {vs : List V}, SqT X.K H p vs → PySem.OwR.Declines X.prog X.w A E s (.ref p) "__eq__" a' ∧ PySem.OwR.Declines X.prog X.w A E s (.ref p) "__ne__" a' := fun {p vs} q => by
  obtain ⟨its, rv, pl, hz⟩ := I.tuple q
  have hT : s.TypeIs (.ref p) "tuple" := by
   obtain ⟨o, e1, e2, _⟩ := pl
   exact ⟨o, e1, e2⟩
  exact ⟨fun P' h' => wpAny_tryCompare_declines hT PySem.F.slot_tuple_eq (call_meets PySem.F.slot_tuple_eq hT PySem.F.entry_tuple_eq (PySem.F.args_tuple_eq_2 _ _) (PySem.OwR.tup_eq p (Eq.nb "tuple" (by decide))) ⟨⟨I.kIn, J⟩, rfl, h'⟩),
   fun P' h' => wpAny_tryCompare_declines hT PySem.F.slot_tuple_ne (call_meets PySem.F.slot_tuple_ne hT PySem.F.entry_tuple_ne (PySem.F.args_tuple_ne_2 _ _) (PySem.OwR.tup_ne p (Eq.nb "tuple" (by decide))) ⟨⟨I.kIn, J⟩, rfl, h'⟩)⟩
 unfold D.bty at et
 cases rv with
 | non =>
   obtain rfl : u = Value.none := ru
   exact ⟨rfl, rfl, fun P' h' => wpAny_tryCompare_declines (show s.TypeIs .none "NoneType" from rfl) PySem.F.slot_NoneType_eq (call_gives PySem.F.slot_NoneType_eq rfl PySem.F.entry_NoneType_eq (PySem.F.args_NoneType_eq_2 _ _) (SeqAt.NoneType___eq___none_ref_0 a') ⟨rfl, h'⟩),
    fun P' h' => wpAny_tryCompare_declines (show s.TypeIs .none "NoneType" from rfl) PySem.F.slot_NoneType_ne (call_gives PySem.F.slot_NoneType_ne rfl PySem.F.entry_NoneType_ne (PySem.F.args_NoneType_ne_2 _ _) (SeqAt.NoneType___ne___none_ref_0 a') ⟨rfl, h'⟩)⟩
 | bl b =>
   obtain rfl : u = Value.bool b := ru
   exact ⟨rfl, rfl, fun P' h' => wpAny_tryCompare_declines (show s.TypeIs (.bool b) "bool" from rfl) PySem.F.slot_bool_eq (call_meets PySem.F.slot_bool_eq (show s.TypeIs (.bool b) "bool" from rfl) PySem.F.entry_int_eq (PySem.F.args_int_eq_2 _ _) (PySem.OwR.int_eq_bool (C := Cl) b dt) ⟨hx, rfl, h'⟩),
    fun P' h' => wpAny_tryCompare_declines (show s.TypeIs (.bool b) "bool" from rfl) PySem.F.slot_bool_ne (call_meets PySem.F.slot_bool_ne (show s.TypeIs (.bool b) "bool" from rfl) PySem.F.entry_int_ne (PySem.F.args_int_ne_2 _ _) (PySem.OwR.int_ne_bool (C := Cl) b dt) ⟨hx, rfl, h'⟩)⟩
 | int i =>
   obtain ⟨tt, rfl⟩ := ru
   exact ⟨rfl, rfl, fun P' h' => wpAny_tryCompare_declines (typeIs_int s i tt) PySem.F.slot_int_eq (call_meets PySem.F.slot_int_eq (typeIs_int s i tt) PySem.F.entry_int_eq (PySem.F.args_int_eq_2 _ _) (PySem.OwR.int_eq_int (C := Cl) i tt dt) ⟨hx, rfl, h'⟩),
    fun P' h' => wpAny_tryCompare_declines (typeIs_int s i tt) PySem.F.slot_int_ne (call_meets PySem.F.slot_int_ne (typeIs_int s i tt) PySem.F.entry_int_ne (PySem.F.args_int_ne_2 _ _) (PySem.OwR.int_ne_int (C := Cl) i tt dt) ⟨hx, rfl, h'⟩)⟩
 | str z =>
   obtain ⟨tt, rfl⟩ := ru
   exact ⟨rfl, rfl, fun P' h' => wpAny_tryCompare_declines (typeIs_str s z tt) PySem.F.slot_str_eq (call_meets PySem.F.slot_str_eq (typeIs_str s z tt) PySem.F.entry_str_eq (PySem.F.args_str_eq_2 _ _) (PySem.OwR.str_eq (C := Cl) z tt dt) ⟨hx, rfl, h'⟩),
    fun P' h' => wpAny_tryCompare_declines (typeIs_str s z tt) PySem.F.slot_str_ne (call_meets PySem.F.slot_str_ne (typeIs_str s z tt) PySem.F.entry_str_ne (PySem.F.args_str_ne_2 _ _) (PySem.OwR.str_ne (C := Cl) z tt dt) ⟨hx, rfl, h'⟩)⟩
 | tup q r =>
   obtain rfl : u = Value.ref _ := ru
   exact ⟨oneThing_ref .., oneThing_ref .., sqT (wM R.sub q)⟩
 | fl q r =>
   obtain rfl : u = Value.ref _ := ru
   exact ⟨oneThing_ref .., oneThing_ref .., sqL (SqL.of (R.sub _ _ q))⟩
 | kl q r =>
   obtain rfl : u = Value.ref _ := ru
   exact ⟨oneThing_ref .., oneThing_ref .., sqL (Ba R.sub q)⟩
 | obj q r => cases et
 | cls c => cases et
 | ty t => cases et
 | sl q => cases et
 | @ref a n q =>
   obtain rfl : u = Value.ref _ := ru
   refine ⟨oneThing_ref .., oneThing_ref .., ?_⟩
   have ln : n < h.length := by
    rw [← R.len]
    exact (List.getElem?_eq_some_iff.mp q).1
   obtain ⟨o, e, rr⟩ := R.cel n a h[n] q (ajc ln)
   have e0 : (h[n]?).getD .non = h[n] := by rw [ajc ln]; rfl
   unfold D.tag D.der at et
   dsimp only at et
   rw [e0] at et
   generalize h[n] = c at rr et
   cases rr with
   | lst r => exact sqL (SqL.of e)
   | obj r => cases et
   | dct _ r => cases et
theorem afd {mt : Nat → Option Fn} (C : Cq X T W k) (hk : j + 1 ≤ k) (Mf : Dm X T j "__eq__" mt 1 [] (aK [])) (Ef : EqF X.K T mt) : ado X T W vV .Eq (Uk mt fun b => b) := fun B w σ H fr h x y d e Q R rx ry p => by
 unfold Uk at p
 cases ex : fnOf mt h d with
 | some G => rw [ex] at p; exact afc C hk Mf Ef B w σ H fr h x y d e Q R rx ry p
 | none =>
   rw [ex] at p
   dsimp only at p
   cases hb : (d.bty h).isSome with
   | false => rw [hb] at p; exact p.elim
   | true =>
     rw [hb, if_pos rfl] at p
     obtain ⟨t, et⟩ := Option.isSome_iff_exists.mp hb
     have p' := aaK p
     have hG : fnOf mt h e ≠ none := fun z => by
      have q : Gq mt e [d] fr h = .err := by unfold Gq; rw [z]
      rw [q] at p'
      exact p'
     obtain ⟨c, gs, ei, G0, em⟩ : ∃ c gs, e.ins h = some (c, gs) ∧ ∃ G, mt c = some G := by
      cases q : fnOf mt h e with
      | none => exact absurd q hG
      | some G =>
        obtain ⟨c, gs, e1, e2⟩ := Y6 q
        exact ⟨c, gs, e1, G, e2⟩
     obtain ⟨p1, dx1, vs1, e1, eH1, _⟩ := HQ R (.inl ry) ei
     obtain ⟨kk, f, fd, ps, a', Cl, dx, fs, G, ey, eH, c1, c2, c3, c5, g, gV, hb', q⟩ := (acE Mf R ry (.cons rx .nil) rfl p').ex
     have ep : p1 = a' := V.ref.inj (e1.symm.trans ey)
     subst ep
     have eo := Option.some.inj (eH1.symm.trans eH)
     injection eo with eC _ _
     subst eC
     subst ey
     intro pins s σ' v u I rv ru
     obtain rfl : u = Value.ref p1 := ru
     have Eq := Ef.ex c G0 em
     have hx : ∃ dt : Addr, s.heap.get? p1 = some (PySem.W.instObj (T.cad c) dt) := by
      have z : ObjOk X.prog X.w H s.heap p1 (.ins (T.cad c) dx fs) := I.hok p1 _ eH
      exact ⟨dx, z.2.2.2.1⟩
     obtain ⟨mA, J, _⟩ := ins_get I.hok eH
     obtain ⟨od, J, _⟩ := J.look
     obtain ⟨ty, ht⟩ := aaI R rx et
     obtain ⟨P, Z, pp, _⟩ := kit_of I rv ty
     obtain ⟨o1, _, d1, _⟩ := declines (A := X.A) (E := X.xe) (dx := dx) (fs := fs) R rx et I rv J hx Eq
     show wpAny _ _ (richCompare .Eq _ _) _ _ _
     have hu : X.A.units < cLine := by
      have := C.u
      omega
     refine PySem.OwR.right .Eq hu I.kIn J o1 (Z.ty (model X.prog X.w) s.heap I.kIn pp) (Eq.nb t ht) d1 ?_
     show wpAny _ _ (tryCompare (.ref p1) "__eq__" v) _ _ _
     unfold tryCompare
     refine wpAny_bind (PySem.W.ifBound_K I.kIn J c2.at_ c2.fn (wpAny_mono (acD (n := 1 + 1) (us := [.ref p1, v]) (vs := [.ref p1, x]) c3.ok (C.room.mono (Nat.le_trans c5 (Nat.le_of_succ_le hk))) I.env0 hb' aaJ I (.cons rfl (.cons rv .nil)) rfl q) (fun r s' z => ?_) fun _ _ z => z))
     obtain ⟨z', H', I', rz, b, eb, qz⟩ := z
     subst eb
     obtain rfl : r = Value.bool b := rz
     exact wpAny_pure ⟨_, rfl, .bl b, H', I', rfl, b, rfl, qz⟩
end
end Pk
namespace Pk
open PySem PySem.Spec L2
def ahO (_ : Hh) : D → D → Option Bool
 | .bl a, .bl b => some (decide (a = b))
 | _, _ => none
def ahk (_ : Hh) : D → D → Option Bool
 | .bl a, .bl b => some (!decide (a = b))
 | _, _ => none
section
variable {X : Cx} {T : Tb}
end
end Pk
namespace PySem
namespace OwT
open PySem.W PySem.Calls PyProof.Rows PySem.SeqAt
open PySem.AutoSeq1 (wpAny_loadPart')
section
variable {prog : Program} {w : World} {A : Around} {R : Result → Shared → Prop}
end
end OwT
end PySem
namespace Pk
open PySem PySem.Spec L2
mutual
def D.sim : D → D → Bool
 | .int i, .int j => i == j
 | .bl a, .bl b => a == b
 | .str a, .str b => a == b
 | .tup l, .tup m => D.sims l m
 | _, _ => true
def D.sims : List D → List D → Bool
 | d :: ds, e :: es => D.sim d e && D.sims ds es
 | [], [] => true
 | _, _ => false
end
section
variable {X : Cx} {T : Tb} {W : WX} {k j : Nat} {w : Wd} {pins : List (Addr × Obj)} {σ : L2.St} {H : Hp} {s : Shared}
mutual
theorem afe (I : Inv X pins σ H s) (sub : ∀ a o, w.F a = some o → H a = some o) : ∀ {v : V} {d : D}, rC X.K T w v d → ∀ {e : D}, rC X.K T w v e → D.sim d e = true
 | _, _, .tup h1 t1, _, r2 => by
   cases r2 with
   | tup h2 t2 =>
     have := I.tuple_inj (wM sub h1) (wM sub h2)
     subst this
     exact Y9 I sub t1 t2
   | _ => rfl
 | _, _, .int i, _, r2 => by cases r2; simp [D.sim]
 | _, _, .bl b, _, r2 => by cases r2; simp [D.sim]
 | _, _, .str z, _, r2 => by cases r2; simp [D.sim]
 | _, _, .non, _, _ => rfl
 | _, _, .fl _ _, _, _ => rfl
 | _, _, .kl _ _, _, _ => rfl
 | _, _, .obj _ _, _, _ => rfl
 | _, _, .ref _, _, _ => rfl
 | _, _, .cls _, _, _ => rfl
 | _, _, .ty _, _, _ => rfl
 | _, _, .sl _, _, _ => rfl
theorem Y9 (I : Inv X pins σ H s) (sub : ∀ a o, w.F a = some o → H a = some o) : ∀ {vs : List V} {ds : List D}, aO X.K T w vs ds → ∀ {es : List D}, aO X.K T w vs es → D.sims ds es = true
 | _, _, .nil, _, r2 => by cases r2; rfl
 | _, _, .cons h t, _, r2 => by
   cases r2 with
   | cons h2 t2 =>
     show (_ && _) = true
     rw [afe I sub h h2, Y9 I sub t t2]
     rfl
end
noncomputable def pPair (mt : Nat → Option Fn) (nf : Nat → Nat) (h : Hh) : D → D → Option Bool
 | .obj c l, .obj c' m => if c = c' ∧ l.length = nf c ∧ m.length = nf c then match mt c with
  | some F => match F [.obj c l, .obj c m] h with
    | .ok (.bl b) _ h' => open Classical in if h' = h ∧ (b = true ∨ D.sims l m = false) then some b else none
    | _ => none
  | none => none
  else none
 | _, _ => none
noncomputable def adu (mt : Nat → Option Fn) (nf : Nat → Nat) (h : Hh) : List D → List D → Option Bool
 | d :: ds, e :: es => (pPair mt nf h d e).bind fun b => if b then adu mt nf h ds es else some false
 | [], [] => some true
 | _, _ => some false
noncomputable def abE (mt : Nat → Option Fn) (nf : Nat → Nat) (h : Hh) : D → D → Option Bool
 | .tup l, .tup m => adu mt nf h l m
 | _, _ => none
noncomputable def adw (mt : Nat → Option Fn) (nf : Nat → Nat) (x y : D) : M Bool := fun fr h => M.opt (abE mt nf h x y) fr h
structure NfF (T : Tb) (mt : Nat → Option Fn) (nf : Nat → Nat) : Prop where
 ex : ∀ c F, mt c = some F → (T.fld c).length = nf c
end
end Pk
namespace L2
open PySem PySem.Spec PyProof.Rows
def endsAt (oi : Option Nat) (D : Ends) : Ends := match oi with
 | none => D
 | some i => { nx := fun σ' H' => D.nx (σ'.set i none) H', rt := D.rt, bk := fun σ' H' => D.bk (σ'.set i none) H', ct := fun σ' H' => D.ct (σ'.set i none) H' }
def aaM (oi : Option Nat) (σ : St) (a : Addr) : St := match oi with
 | none => σ
 | some i => σ.set i (some (.ref a))
abbrev Vc := Value × Option Nat × (Addr → Value → Option Addr → TS)
def ahP (K : PySem.W.Frag) (Wout : WX) (D : Ends) : List Vc → WX
 | [] => Wout
 | (c, oi, ts) :: r => fun cls d σ H => ∃ b, PySem.W.exmOne K cls c = some b ∧ (b = true → ∀ a, H a = none → ts a cls d (endsAt oi D) (aaM oi σ a) H) ∧ (b = false → ahP K Wout D r cls d σ H)
inductive Vd (X : Cx) : Option Str → Option Nat → Prop
 | no : Vd X none none
 | at_ {n : Str} {i : Nat} (hi : X.N[i]? = some n) (hln : X.env.kindOf n = some .local) : Vd X (some n) (some i)
inductive QD (X : Cx) : List ExceptHandler → List Vc → Prop
 | nil : QD X [] []
 | cons {x : Str} {c : Value} {ts : Addr → Value → Option Addr → TS} {b₀ : Stmt} {suite : List Stmt} {np pos' : Pos} {nm : Option Str} {oi : Option Nat} {hds : List ExceptHandler} {l : List Vc} (hc : Names X x c) (hn : Vd X nm oi)
  (hsu : ∀ (a : Addr) (oe : Obj) (cls : Value) (d : Option Addr) (pn : List (Addr × Obj)), Zc cls d oe → (∃ vs, oe.data = .fields vs) → PSs (X.suite a ((a, oe) :: pn)) (b₀ :: suite) (ts a cls d)) (r : QD X hds l) :
  QD X (.ExceptHandler (some (.Name x np)) nm (b₀ :: suite) pos' :: hds) ((c, oi, ts) :: l)
section
variable {X : Cx} {body : List Stmt} {h₀ : ExceptHandler} {hds : List ExceptHandler} {l : List Vc} {pos : Pos} {tb : WX → TS} {Wout : WX}
end
end L2
namespace Pk
open PySem PySem.Spec L2
abbrev Hd := Option Nat × (Nat → Option Bool) × (bh → M Fl)
def zX : List Hd → bh → M Fl
 | [], x => fun fr h => .exc x fr h
 | (oi, cond, ms) :: r, x => fun fr h => match cond x.c with
   | some true => match oi with
     | some i => if i < fr.length then adn i (ms x (fr.set i none) h) else .err
     | none => ms x fr h
   | some false => zX r x fr h
   | none => .err
def abF (cs : List Hd) (mb : M Fl) : M Fl := fun fr h => match mb fr h with
 | .exc x fr1 h1 => zX cs x fr1 h1
 | r => r
section
variable {X : Cx} {T : Tb} {W : WX} {k : Nat} {body : List Stmt} {h₀ : ExceptHandler} {hds : List ExceptHandler} {pos : Pos} {mb : M Fl} {cs : List Hd}
inductive QF (X : Cx) (T : Tb) (W : WX) : List ExceptHandler → List Hd → Prop
 | nil : QF X T W [] []
 | named {x n : Str} {c : Value} {cond : Nat → Option Bool} {b₀ : Stmt} {suite : List Stmt} {np pos' : Pos} {i : Nat} {ms : bh → M Fl} {hds : List ExceptHandler} {l : List Hd} (hi : X.N[i]? = some n) (hln : X.env.kindOf n = some .local) (hc : Names X x c)
  (hcond : ∀ cc b, cond cc = some b → PySem.W.exmOne X.K (.ref (T.cad cc)) c = some b)
  (hsu : ∀ (a : Addr) (oe : Obj) (cls : Value) (d : Option Addr) (pn : List (Addr × Obj)) (y : bh), Su X T i a oe cls d pn y → abu (PX X.K T i a y cls d) (X.suite a ((a, oe) :: pn)) T W (b₀ :: suite) (ms y))
  (r : QF X T W hds l) : QF X T W (.ExceptHandler (some (.Name x np)) (some n) (b₀ :: suite) pos' :: hds) ((some i, cond, ms) :: l)
 | only {x : Str} {c : Value} {cond : Nat → Option Bool} {b₀ : Stmt} {suite : List Stmt} {np pos' : Pos} {ms : bh → M Fl} {hds : List ExceptHandler} {l : List Hd} (hc : Names X x c)
  (hcond : ∀ cc b, cond cc = some b → PySem.W.exmOne X.K (.ref (T.cad cc)) c = some b)
  (hsu : ∀ (a : Addr) (oe : Obj) (pn : List (Addr × Obj)) (y : bh), abu (fun _ _ => True) (X.suite a ((a, oe) :: pn)) T W (b₀ :: suite) (ms y))
  (r : QF X T W hds l) : QF X T W (.ExceptHandler (some (.Name x np)) none (b₀ :: suite) pos' :: hds) ((none, cond, ms) :: l)
end
end Pk
namespace Pk
open PySem PySem.Spec L2
section
variable {P : Wd → L2.St → Prop} {X : Cx} {T : Tb} {W : WX} {a b : Expr} {ma mb : M D} {pos pf : Pos} {x : Str} {tab : Tg → Tg → Option Bool}
end
end Pk
namespace Pk
open PySem PySem.Spec L2
def ahl (_ : Hh) : D → Option D
 | .bl b => some (.str (if b then "True" else "False"))
 | _ => none
def acG (_ : Hh) : D → Option D
 | .bl b => some (.bl b)
 | .int i => some (.bl (i != 0))
 | _ => none
section
variable {X : Cx} {T : Tb} {W : WX} {a : Expr} {ma : M D} {pos pf : Pos}
end
end Pk
namespace Pk
open PySem PySem.Spec PyProof.Rows L2
def aib : List Stmt → Expr
 | .Expr (.Call _ [e] _ _) _ :: _ => e
 | _ => .Name "" ⟨0, 0, 0, 0⟩
def aeK : List D → Option (List Str)
 | [] => some []
 | .str s :: r => (aeK r).map (s :: ·)
 | _ => none
def ahW (K : PySem.W.Frag) (H : Hp) (vs : List V) : Prop := ∃ (a : Addr) (ss : List Str), vs = [.ref a] ∧ SqT K H a (ss.map V.str) ∧ (ss.map (·.length)).sum + ss.length ≤ 1000
def ahQ (ds : List D) : Bool := match ds with
 | [.tup l] => match aeK l with
   | some ss => decide ((ss.map (·.length)).sum + ss.length ≤ 1000)
   | none => false
 | _ => false
inductive JP (scope : Scope) (m : Str → Option Value) : List Expr → List Str → Prop
 | nil : JP scope m [] []
 | con {z : Str} {j : Nat} {pos : Pos} {es : List Expr} {ys : List Str} (hz : z.length ≤ 2000) (r : JP scope m es ys) : JP scope m (.Constant (.str z) j pos :: es) (z :: ys)
 | int {f : Str} {i : Int} {t : Tok} {pos pos2 : Pos} {es : List Expr} {ys : List Str} (hl : scope.names.lookup f = some .local) (hd : (f == ("__debug__" : Str)) = false) (hm : m f = some (.int i t)) (hi : i.natAbs.log2 < 1920) (r : JP scope m es ys) : JP scope m (.FormattedValue (.Name f pos) (-1) none pos2 :: es) (toString i :: ys)
 | str {f y : Str} {t : Tok} {pos pos2 : Pos} {es : List Expr} {ys : List Str} (hl : scope.names.lookup f = some .local) (hd : (f == ("__debug__" : Str)) = false) (hm : m f = some (.str y t)) (hy : y.length ≤ 2000) (r : JP scope m es ys) : JP scope m (.FormattedValue (.Name f pos) (-1) none pos2 :: es) (y :: ys)
section
variable {scope : Scope} {qual : Str} {m : Str → Option Value} {L fI cda cc : Addr} {prog : Program} {w : World} {A' : Around} {h : Heap} {g : Array GenState} {d : Drawn} {os : OsState} {E' : Value → Shared → Prop}
end
end Pk
namespace L2
open PySem PySem.Spec PyProof.Rows
def Za (X : Cx) (te : Expr) (tst : Value → Option Bool) : Prop :=
 ∀ (a : Addr) (oe : Obj) (pn pins : List (Addr × Obj)) (σ : St) (H : Hp) (s : Shared) (cls : Value) (b : Bool) (Q : Bool → Shared → Prop) (E : Value → Shared → Prop), Inv (X.suite a ((a, oe) :: pn)) pins σ H s → PySem.W.Looks (model X.prog X.w) s.heap (typeOf (.ref a)) cls → tst cls = some b →
   (∀ h', (∀ q o, s.heap.get? q = some o → h'.get? q = some o) → Q b { s with heap := h' }) →
   wpAny (model X.prog X.w) (X.A.mark (some (.ref a))) (eval te X.env) (fun c s1 => wpAny (model X.prog X.w) (X.A.mark (some (.ref a))) (excMatches (.ref a) c) Q E s1) E s
abbrev RX := (Value → Option Bool) × Option Nat × (Addr → Value → Option Addr → TS)
def ahm (Wout : WX) (D : Ends) : List RX → WX
 | [] => Wout
 | (c, oi, ts) :: r => fun cls d σ H => ∃ b, c cls = some b ∧ (b = true → ∀ a, H a = none → ts a cls d (endsAt oi D) (aaM oi σ a) H) ∧ (b = false → ahm Wout D r cls d σ H)
inductive Ul (X : Cx) : List ExceptHandler → List RX → Prop
 | nil : Ul X [] []
 | cons {te : Expr} {c : Value → Option Bool} {ts : Addr → Value → Option Addr → TS} {b₀ : Stmt} {suite : List Stmt} {pos' : Pos} {nm : Option Str} {oi : Option Nat} {hds : List ExceptHandler} {l : List RX} (hc : Za X te c) (hn : Vd X nm oi)
  (hsu : ∀ (a : Addr) (oe : Obj) (cls : Value) (d : Option Addr) (pn : List (Addr × Obj)), Zc cls d oe → (∃ vs, oe.data = .fields vs) → PSs (X.suite a ((a, oe) :: pn)) (b₀ :: suite) (ts a cls d)) (r : Ul X hds l) :
  Ul X (.ExceptHandler (some te) nm (b₀ :: suite) pos' :: hds) ((c, oi, ts) :: l)
section
variable {X : Cx} {body : List Stmt} {h₀ : ExceptHandler} {hds : List ExceptHandler} {l : List RX} {pos : Pos} {tb : WX → TS} {Wout : WX}
end
end L2
namespace Pk
open PySem PySem.Spec L2
section
variable {X : Cx} {T : Tb} {W : WX} {k : Nat} {body : List Stmt} {h₀ : ExceptHandler} {hds : List ExceptHandler} {pos : Pos} {mb : M Fl} {cs : List Hd}
inductive QG (X : Cx) (T : Tb) (W : WX) : List ExceptHandler → List Hd → Prop
 | nil : QG X T W [] []
 | named {te : Expr} {n : Str} {tst : Value → Option Bool} {cond : Nat → Option Bool} {b₀ : Stmt} {suite : List Stmt} {pos' : Pos} {i : Nat} {ms : bh → M Fl} {hds : List ExceptHandler} {l : List Hd} (hi : X.N[i]? = some n) (hln : X.env.kindOf n = some .local) (hc : Za X te tst)
  (hcond : ∀ cc b, cond cc = some b → tst (.ref (T.cad cc)) = some b)
  (hsu : ∀ (a : Addr) (oe : Obj) (cls : Value) (d : Option Addr) (pn : List (Addr × Obj)) (y : bh), Su X T i a oe cls d pn y → abu (PX X.K T i a y cls d) (X.suite a ((a, oe) :: pn)) T W (b₀ :: suite) (ms y))
  (r : QG X T W hds l) : QG X T W (.ExceptHandler (some te) (some n) (b₀ :: suite) pos' :: hds) ((some i, cond, ms) :: l)
 | only {te : Expr} {tst : Value → Option Bool} {cond : Nat → Option Bool} {b₀ : Stmt} {suite : List Stmt} {pos' : Pos} {ms : bh → M Fl} {hds : List ExceptHandler} {l : List Hd} (hc : Za X te tst)
  (hcond : ∀ cc b, cond cc = some b → tst (.ref (T.cad cc)) = some b)
  (hsu : ∀ (a : Addr) (oe : Obj) (pn : List (Addr × Obj)) (y : bh), abu (fun _ _ => True) (X.suite a ((a, oe) :: pn)) T W (b₀ :: suite) (ms y))
  (r : QG X T W hds l) : QG X T W (.ExceptHandler (some te) none (b₀ :: suite) pos' :: hds) ((none, cond, ms) :: l)
def aiu (K : PySem.W.Frag) (C : Addr) : Bool := PySem.W.excIn K C [.type "ValueError", .type "Exception", .type "BaseException", .type "object"] "ValueError.__new__" && (PySem.W.keepIn K (.ref C) && (decide (PySem.W.subIn K (.ref C) (.type "BaseException") = some true) && decide (PySem.W.typeIn K (.ref C) = some (.type "type"))))
structure ExB (K : PySem.W.Frag) (C : Addr) : Prop where
 q : PySem.W.excIn K C [.type "ValueError", .type "Exception", .type "BaseException", .type "object"] "ValueError.__new__" = true
 kC : PySem.W.keepIn K (.ref C) = true
 exC : PySem.W.subIn K (.ref C) (.type "BaseException") = some true
 tyC : PySem.W.typeIn K (.ref C) = some (.type "type")
def Wm (c : Nat) (ma : M D) : M Fl := ma.bind fun _ fr h => .exc ⟨c, []⟩ fr h
end
section
variable {P : Wd → L2.St → Prop} {X : Cx} {T : Tb} {W : WX} {a b e : Expr} {m ma mb : M D} {pos : Pos}
end
end Pk
namespace Pk
open PySem PySem.Spec L2
def Ov : List D → List D → List D
 | a :: as, b :: bs => .tup [a, b] :: Ov as bs
 | _, _ => []
def Zb : D → D → Option (List D)
 | .tup l, .tup m => some (Ov l m)
 | .fl l, .fl m => some (Ov l m)
 | .fl l, .kl m => some (Ov l m)
 | .kl l, .fl m => some (Ov l m)
 | .kl l, .kl m => some (Ov l m)
 | _, _ => none
def adx (ma mb : M D) : M (List D) := ma.bind fun x => mb.bind fun y => M.opt (Zb x y)
section
variable {X : Cx} {T : Tb} {W : WX} {k kk : Nat} {pos p tpos : Pos} {elts : List Expr} {a b : Expr} {ma mb : M D}
end
section
variable {P : Wd → L2.St → Prop} {X : Cx} {T : Tb} {W : WX} {k : Nat} {a b e : Expr} {m ma mb : M D} {pos : Pos}
end
def Wn (n : Nat) (gs : List D → M Unit) (d : D) : M Unit := match d with
 | .tup l => if l.length = n then gs l else M.opt none
 | .fl l => if l.length = n then gs l else M.opt none
 | _ => M.opt none
def aiv (_ : Hh) : D → D → Option D
 | .fl l, .int k => if 0 ≤ k ∧ k < 1000 ∧ l.length ≤ 100 then some (.nl (List.replicate k.toNat l).flatten) else none
 | _, _ => none
section
variable {X : Cx} {T : Tb} {W : WX} {k kk n : Nat} {is : List Nat} {tgs : List Expr} {gs : List D → M Unit} {pos : Pos} {a b : Expr} {ma mb : M D}
end
def putS : List Nat → List V → L2.St → L2.St
 | i :: is, v :: vs, σ => putS is vs (σ.set i (some v))
 | _, _, σ => σ
section
variable {X : Cx} {T : Tb} {W : WX} {k : Nat} {a b c : Expr} {pos : Pos}
end
end Pk
namespace Pk
open PySem PySem.Spec PyProof.Rows L2
section
variable {prog : Program} {w : World} {A : Around} {E : Value → Shared → Prop} {s : Shared} {l : Addr} {its : List Value} {ns : List Int} {Q : Value → Shared → Prop}
end
def aic (K : PySem.W.Frag) : List V → Hp → VK → Prop := fun vs H Q => ∃ (a : Addr) (ns : List Int), vs = [V.ref a] ∧ SqT K H a (ns.map V.int) ∧ 0 < ns.length ∧ ∀ m, m ∈ ns → (∀ y, y ∈ ns → y ≤ m) → Q (.int m) H
section
variable {X : Cx} {T : Tb} {W : WX} {k : Nat} {e a b c : Expr} {es : List Expr} {m ma mb mc : M D} {pos pf : Pos}
def aid (h : Hh) (d : D) : Option D := match d with
 | .tup l => match D.ints l with
   | some (a :: r) => some (.int (abd a r))
   | _ => none
 | _ => aha h d
end
end Pk
namespace Pk
open PySem PySem.Spec PyProof.Rows L2
section
variable {P : Program} {w : World} {A : Around} {E : Value → Shared → Prop} {s : Shared} {env : Env} {x : Str} {pe pt px p0 pc pos : Pos} {iter : Expr} {scope : Scope} {cl : List (Str × Addr)} {c : Int} {k0 : Nat} {Q : Value → Shared → Prop}
def ahR (ns : List Int) (c : Int) (i : Nat) (k : Int) : Bool := decide (k ∈ (ns.take i).filter fun k => decide (k > c))
end
def agx (a : Int) : List Int → List Int
 | [] => [a]
 | b :: l => if a < b then a :: b :: l else if a = b then b :: l else b :: agx a l
def aeL : List Int → List Int
 | [] => []
 | a :: l => agx a (aeL l)
section
variable {X : L2.Cx} {T : Tb} {W : WX} {k : Nat} {a iter : Expr} {ma : M D} {pf pos pe pt px p0 pc pos2 : Pos} {x : Str} {scope : Scope} {cl : List (Str × Addr)} {c : Int} {k0 : Nat}
def vSt (w0 : World) (c : Int) : wI V D := fun _ _ _ _ _ H _ v d => ∃ p is n, v = .ref p ∧ d = .fl (is.map .int) ∧ H p = some (SetO w0 p (ahR is c is.length) n) ∧ n ≤ is.length ∧ is.length ≤ 50
def bTI : D → Option D
 | .tup l => match D.ints l with
   | some is => if is.length ≤ 50 then some (.fl (is.map .int)) else none
   | none => none
 | _ => none
def ah2 (c : Int) (_ : Hh) (d : D) : Option D := match d with
 | .fl l => match D.ints l with
   | some is => some (.nl ((aeL (is.filter fun k => decide (k > c))).map .int))
   | none => none
 | _ => none
def agy (a : Int) : List Int → List Int
 | [] => [a]
 | b :: l => if a ≤ b then a :: b :: l else b :: agy a l
def aeM : List Int → List Int
 | [] => []
 | a :: l => agy a (aeM l)
def ahX (h : Hh) (d : D) : Option D := match d.lints h with
 | some is => if is.length < 64 then some (.nl ((aeM is).map .int)) else none
 | none => none
end
end Pk
namespace Pk
open PySem PySem.Spec L2
def vJC : wI It (Nat × List D × List D) := fun K T B _ w _ _ J x => ∀ i w1 σ1 H1 fr1 h1, w.le w1 → Rel K T B w1 σ1 H1 fr1 h1 → h1[x.1]? = some (.nl x.2.1) →
 (x.2.2.length ≤ i → J.stop i H1) ∧ ∀ d, x.2.2[i]? = some d → J.go i H1 ∧ ∀ y H2, J.yld i H1 y H2 → ∃ w2, w1.le w2 ∧ Rel K T B w2 σ1 H2 fr1 h1 ∧ rC K T w2 y d
open Classical in
noncomputable def Ve (n : Nat) (l : List D) (g : D → M Unit) (b : M Fl) : List D → M Fl
 | [] => fun fr h => if h[n]? = some (.nl l) then .ok .nx fr h else .err
 | d :: ds => fun fr h => if h[n]? = some (.nl l) then (match g d fr h with
   | .ok _ fr h => match b fr h with
     | .ok .nx fr h => Ve n l g b ds fr h
     | .ok .ct fr h => Ve n l g b ds fr h
     | .ok .brk fr h => .ok .nx fr h
     | .ok (.rt d) fr h => .ok (.rt d) fr h
     | .exc x fr h => .exc x fr h
     | .err => .err
   | _ => .err) else .err
noncomputable def Zd (li : M (Nat × List D × List D)) (g : D → M Unit) (b : M Fl) : M Fl := li.bind fun x => Ve x.1 x.2.1 g b x.2.2
def FP (h : Hh) (d : D) : Option (Nat × List D) := match d with
 | .ref n => match h[n]? with
   | some (.nl l) => some (n, l)
   | _ => none
 | _ => none
theorem abG {h : Hh} {d : D} {n : Nat} {l : List D} (e : FP h d = some (n, l)) : d = .ref n ∧ h[n]? = some (.nl l) := by
 unfold FP at e
 split at e
 · split at e
   · rename_i q; cases e; exact ⟨rfl, q⟩
   · cases e
 · cases e
def M7 (m : M D) : M (Nat × List D × List D) := m.bind fun d fr h => M.opt ((FP h d).map fun x => (x.1, x.2, x.2)) fr h
def ady (h : Hh) (d e : D) : Option (Nat × List D × List D) := match FP h d, e with
 | some (n, l), .fl m => some (n, l, Ov l m)
 | _, _ => none
def abH (ma mb : M D) : M (Nat × List D × List D) := ma.bind fun d => mb.bind fun e fr h => M.opt (ady h d e) fr h
section
variable {X : Cx} {T : Tb} {W : WX} {k kk : Nat} {pos p tpos : Pos} {tg iter a c : Expr} {elts : List Expr} {body : List Stmt} {g : D → M Unit} {b : M Fl} {is : List Nat} {li : M (Nat × List D × List D)} {ma mb : M D}
theorem Ze {K : PySem.W.Frag} {B : Bs} {w : Wd} {σ : L2.St} {H : Hp} {fr : Fr} {h : Hh} {q : Addr} {n : Nat} {l : List D} (R : Rel K T B w σ H fr h) (hq : w.I[n]? = some q) (hc : h[n]? = some (.nl l)) : ∃ vs, SqL K H q vs ∧ aO K T w vs l := by
 obtain ⟨o, eH, ro⟩ := R.cel n q _ hq hc
 cases ro with
 | lst r => exact ⟨_, SqL.of eH, r⟩
theorem aeN {w w' : Wd} {n : Nat} {q : Addr} (l : w.le w') (h : w.I[n]? = some q) : w'.I[n]? = some q := by
 obtain ⟨r, e⟩ := l.2
 rw [e, List.getElem?_append_left (List.getElem?_eq_some_iff.mp h).1]
 exact h
end
end Pk
namespace PySem
namespace SlK
open Sem (wp)
open PySem.W PySem.Calls PyProof.Rows
section
variable {prog : Program} {w : World} {A : Around} {E : Value → Shared → Prop} {h : Heap} {g : Array GenState} {d : Drawn} {t : Nat} {os : OsState} {a : Addr} {o : Obj}
end
section
variable {prog : Program} {w : World} {A : Around} {E : Value → Shared → Prop} {s : Shared} {K : Frag} {x C L f : Addr} {h₀ : Heap} {m : Str → Option Value} {ox : Obj} {od : Option Obj}
end
end SlK
end PySem
namespace Pk
open PySem PySem.Spec L2
def aiw (K : PySem.W.Frag) (C : Addr) : Bool := PySem.W.noSeq K C
structure aix (K : PySem.W.Frag) (T : Tb) (mt : Nat → Option Fn) : Prop where
 ex : ∀ c F, mt c = some F → PySem.W.noSeq K (T.cad c) = true
section
variable {X : Cx} {T : Tb} {W : WX} {k kk j n c : Nat} {pos pf px p2 : Pos} {a b e : Expr} {es : List Expr} {lo hi : Option Expr} {ma mb m : M D} {ml mh : M (Option Int)} {x : Str}
def Zf (mt : Nat → Option Fn) (ma : M D) (ml mh : M (Option Int)) : M D := ma.bind fun o => ml.bind fun l => mh.bind fun u => Ou mt o [.sl l u]
def ahS (t : String) : Bool := ["int", "bool", "str", "tuple", "list"].contains t
def X7 (tab : Tg → Tg → Option Bool) (h : Hh) (d c : D) : Option D := match d with
 | .sl _ _ => match c with
   | .ty t => if ahS t then some (.bl false) else none
   | _ => none
 | d => Kz tab h d c
theorem Zg {tab : Tg → Tg → Option Bool} (F : Wg X.K T tab) {B : Bs} {w : Wd} {σ : L2.St} {H : Hp} {fr : Fr} {h : Hh} {x y : V} {d e z : D} {Q : VK} (R : Rel X.K T B w σ H fr h) (rx : rC X.K T w x d) (ry : rC X.K T w y e) (q : Kz tab h d e = some z)
 (kk : ∀ w' H' v, w.le w' → Rel X.K T B w' σ H' fr h → vV X.K T B σ w' H' fr v z → Q v H') : cM X (.builtin "isinstance") [x, y] H Q := by
 unfold Kz at q
 cases et : d.tag h with
 | none => rw [et] at q; cases q
 | some t =>
   rw [et] at q
   have one : ∀ u, e.ctag = some u → (tab t u).map D.bl = some z → cM X (.builtin "isinstance") [x, y] H Q := fun u ec eq => by
    obtain ⟨bb, eb, rfl⟩ := Option.map_eq_some_iff.mp eq
    exact yD call_isi ⟨x, y, t.v T, u.v T, bb, rfl, Ue ry ec, Np F R (.inl rx) et eb, F.kit t u bb eb, kk w H _ (Wd.le_refl _) R (.bl bb)⟩
   cases e with
   | tup l =>
     dsimp only at q
     cases ec : LQ l with
     | none => rw [ec] at q; cases q
     | some us =>
       rw [ec] at q
       cases us with
       | nil => cases q
       | cons u us =>
         obtain ⟨bb, eb, rfl⟩ := Option.map_eq_some_iff.mp q
         obtain ⟨p, vs, rfl, sq, rs⟩ := J8 ry
         have ty : TyX X.K H x (t.v T) := by
          rcases Tz eb with z | ⟨u', b', z⟩
          · cases z
          · exact Np F R (.inl rx) et z
         exact yD Xh ⟨x, p, vs, t.v T, (u :: us).map (Tg.v T), bb, rfl, wM R.sub sq, Qt rs ec, ty, Oj F eb, kk w H _ (Wd.le_refl _) R (.bl bb)⟩
   | cls c => exact one _ rfl q
   | ty t => exact one _ rfl q
   | _ => cases q
def R4 (h : Hh) (d i : D) : Option D := match i with
 | .sl lo hi => match d.der h with
   | .fl l => some (.nl (cutD l lo hi))
   | .nl l => some (.nl (cutD l lo hi))
   | .kl l => some (.nl (cutD l lo hi))
   | _ => none
 | i => gJ h d i
end
end Pk
namespace Pk
open PySem PySem.Spec L2
section
variable {X : Cx} {T : Tb} {W : WX} {k kk j n c : Nat} {pos pf px p2 p pr : Pos} {a b e : Expr} {es : List Expr} {ma mb m : M D} {ms : List (M D)} {x : Str}
def ahT (a b : Int) : Bool := decide (-(2 ^ 62) ≤ a) && decide (a < 2 ^ 62) && decide (-(2 ^ 62) ≤ b) && decide (b < 2 ^ 62) && decide ((b - a).toNat ≤ 2 ^ 24)
def rgD (a b : Int) : List D := (List.range (b - a).toNat).map fun i => D.int (a + (i : Nat))
def bRg (x y : D) : Option D := match x, y with
 | .int a, .int b => if ahT a b then some (.nl (rgD a b)) else none
 | _, _ => none
def Zh (ma : M D) : M D := ma.bind fun n => M.opt (bRg (.int 0) n)
def Zi (ma mb : M D) : M D := ma.bind fun a => mb.bind fun b => M.opt (bRg a b)
def Ow (i : Nat) (f : Int → Int → Int) (m : M D) : M Fl := fun fr h => match fr[i]? with
 | some (some (.int a)) => (m.bind fun d fr h => match d with
   | .int b => .ok .nx (fr.set i (some (.int (f a b)))) h
   | _ => .err) fr h
 | _ => .err
theorem s_aug {op : Operator} {f : Int → Int → Int} (C : Cq X T W k) (i : Nat) (ho : PIp X op (ipI f)) (s : cO X T W e m) (hN : X.N[i]? = some x := by rfl) (hx : Loc X.env.scope x := by first | exact Or.inl rfl | exact Or.inr rfl) (hf : X.fn x = true ∨ X.env.scope.names.lookup x = some .local := by first | exact .inl rfl | exact .inr rfl) :
 Bc X T W (.AugAssign (.Name x px) op e pos) (Ow i f m) := fun B w σ H fr h D R p => by
 unfold Ow at p
 split at p
 · rename_i a e1
   obtain ⟨v, e2, z⟩ := vm R e1
   have ev : v = .int a := by
    cases z with
    | val r => exact vp r
    | own O eH r => cases r
   subst ev
   refine Ak (ps_aug C.nd hN hx mZ ho hf) ⟨.int a, e2, s B w σ H fr h _ R (tW.bind (VR := vV X.K T B σ) p fun d fr1 h1 w1 H1 v e3 l1 r1 rd p1 => ?_)⟩
   cases d with
   | int b => exact ⟨a, b, rfl, vp rd, p1 w1 _ H1 (Wd.le_refl _) (r1.putV i (.int _))⟩
   | _ => exact (show False from p1).elim
 · exact p.elim
def Zj (d : D) : Option D := match d with
 | .str y => if y.length ≤ big then some (.str y) else none
 | .int i => if i.natAbs.log2 < 1920 then some (.str (toString i)) else none
 | _ => none
def yX (m : M D) : M D := m.bind fun d => M.opt (Zj d)
theorem wQ (s : cO X T W e m) : cO X T W (.FormattedValue e (-1) none pos) (yX m) := fun B w σ H fr h Q R p =>
 uP (pe_fmt mZ) (s B w σ H fr h _ R (bu.bind (VR := vV X.K T B σ) p fun d fr1 h1 w1 H1 v e1 l1 r1 rd p1 => by
  have p1 : bu X.K T B W (vV X.K T B σ) w1 σ (M.opt (Zj d) fr1 h1) Q := p1
  unfold Zj at p1
  split at p1
  · split at p1
    · rename_i hl
      exact .inl ⟨_, zV rd, xN hl, p1 w1 H1 _ (Wd.le_refl _) r1 (.str _)⟩
    · exact p1.elim
  · split at p1
    · rename_i hl
      exact .inr ⟨_, vp rd, hl, p1 w1 H1 _ (Wd.le_refl _) r1 (.str _)⟩
    · exact p1.elim
  · exact p1.elim))
def vS : wI Str Str := fun _ _ _ _ _ _ _ b c => b = c
def Pa : List (M D) → Str → M Str
 | [], acc => M.ret acc
 | m :: ms, acc => m.bind fun d => match d with
   | .str y => if (acc ++ y).length ≤ big then Pa ms (acc ++ y) else M.opt none
   | _ => M.opt none
def abI (X : Cx) (T : Tb) (W : WX) (es : List Expr) (ms : List (M D)) : Prop := ∀ acc, wF (fun σ H Q => tJs (es.map fun e => (WE X e : TE)) acc σ H Q) X.K T W vS (Pa ms acc)
theorem acH : ∀ es : List Expr, PJ X es (es.map fun e => (WE X e : TE))
 | [] => .nil
 | _ :: es => .cons mZ (acH es)
theorem Fd : abI X T W [] [] := fun acc B w σ H fr h Q R p => p w H acc (Wd.le_refl _) R rfl
theorem rJ (s : cO X T W e m) (t : abI X T W es ms) : abI X T W (e :: es) (m :: ms) := fun acc B w σ H fr h Q R p =>
 s B w σ H fr h (fun x H1 => ∃ y : Str, x = .str y ∧ (acc ++ y).length ≤ sizeLine ∧ tJs (es.map fun e => (WE X e : TE)) (acc ++ y) σ H1 Q) R (bu.bind (VR := vV X.K T B σ) p fun d fr1 h1 w1 H1 v e1 l1 r1 rd p1 => by
   cases d with
   | str y =>
     have p2 : bu X.K T B W (vS X.K T B σ) w1 σ ((if (acc ++ y).length ≤ big then Pa ms (acc ++ y) else M.opt none) fr1 h1) Q := p1
     by_cases hl : (acc ++ y).length ≤ big
     · rw [if_pos hl] at p2
       exact ⟨y, zV rd, xN hl, t (acc ++ y) B w1 σ H1 fr1 h1 Q r1 p2⟩
     · rw [if_neg hl] at p2
       exact p2.elim
   | _ => exact (show False from p1).elim)
def BJ (ms : List (M D)) : M D := (Pa ms Str.empty).bind fun s => M.ret (.str s)
theorem zb {v1 v2 : Expr} {rest : List Expr} (s : abI X T W (v1 :: v2 :: rest) ms) : cO X T W (.JoinedStr (v1 :: v2 :: rest) pos) (BJ ms) := fun B w σ H fr h Q R p =>
 uP (pe_joined (acH _)) (s Str.empty B w σ H fr h _ R (bu.bind (VR := vS X.K T B σ) p fun d fr1 h1 w1 H1 v e1 l1 r1 rd p1 => by
  have rd' : v = d := rd
  subst rd'
  exact p1 w1 H1 _ (Wd.le_refl _) r1 (.str _)))
end
structure WM (X : Cx) (cs : List MatchCase) (z : Str) (D : Ends) (σ : L2.St) (H : Hp) : Prop where
 go : ∀ pins s t first, Inv X pins σ H s → wpAny (model X.prog X.w) X.A (matchCases cs X.env (.str z t) first) (SP X pins D) X.xe s
structure abJ (X : Cx) (p : Pattern) (ss : List Str) : Prop where
 go : ∀ (z : Str) pins (σ : L2.St) (H : Hp) s t (R : Option (List (Str × Value)) → Shared → Prop), Inv X pins σ H s → (∀ s', Inv X pins σ H s' → R (if ss.contains z then some [] else none) s') → wpAny (model X.prog X.w) X.A (matchPattern p X.env (.str z t)) R X.xe s
structure X8 (X : Cx) (ps : List Pattern) (ss : List Str) : Prop where
 go : ∀ (z : Str) pins (σ : L2.St) (H : Hp) s t (R : Option (List (Str × Value)) → Shared → Prop), Inv X pins σ H s → (∀ s', Inv X pins σ H s' → R (if ss.contains z then some [] else none) s') → wpAny (model X.prog X.w) X.A (matchFirst ps X.env (.str z t)) R X.xe s
section
variable {X : Cx} {T : Tb} {W : WX} {pos p2 : Pos} {e : Expr} {m : M D} {cs : List MatchCase} {ms : List (List Str × M Fl)} {body : List Stmt} {mb : M Fl} {pt : Pattern} {pts : List Pattern} {ss ts : List Str} {y : Str} {jj : Nat}
theorem Ke : abJ X (.MatchValue (.Constant (.str y) jj p2) pos) [y] := ⟨fun z pins σ H s t R I q => by
 refine wpAny_matchPattern_Value ?_
 refine thn ((uP (X := X) (e := .Constant (.str y) jj p2) pe_str (σ := σ) (H := H) (Q := fun v H1 => v = .str y ∧ H1 = H) (And.intro rfl rfl)).go pins s I) fun v s1 ⟨x, H1, I1, r1, ex, eH⟩ => ?_
 subst ex eH
 have o := op_eq (X := X) pins s1 σ H1 (.str z) (.str y) (.str z t) v (fun w H2 => w = .bl (decide (V.str z = V.str y)) ∧ H2 = H1) I1 ⟨_, rfl⟩ r1 ⟨rfl, rfl, rfl⟩
 refine thn o fun c s2 ⟨cv, H2, I2, rc, ec, eH⟩ => ?_
 subst ec eH
 obtain rfl : c = Value.bool _ := rc
 refine wpAny_truthy_bool ?_
 have key := q s2 I2
 have e1 : ([y] : List Str).contains z = decide (V.str z = V.str y) := by
  rw [List.contains_cons]
  by_cases h : z = y
  · subst h
    simp
  · have h2 : ¬ (V.str z = V.str y) := fun w => h (V.str.inj w)
    simp [h, h2]
 rw [e1] at key
 cases hb : decide (V.str z = V.str y) with
 | true => rw [hb] at key; exact key
 | false => rw [hb] at key; exact key⟩
theorem Zk : X8 X [] [] := ⟨fun z pins σ H s t R I q => wpAny_matchFirst_nil (q s I)⟩
theorem Mh (h : abJ X pt ss) (t : X8 X pts ts) : X8 X (pt :: pts) (ss ++ ts) := ⟨fun z pins σ H s tk R I q => by
 refine wpAny_matchFirst_cons (h.go z pins σ H s tk _ I fun s1 I1 => ?_)
 have ec : (ss ++ ts).contains z = (ss.contains z || ts.contains z) := by
  rw [Bool.eq_iff_iff]
  simp
 cases hz : ss.contains z with
 | true =>
   have := q s1 I1
   rw [ec, hz] at this
   exact this
 | false =>
   refine t.go z pins σ H s1 tk _ I1 fun s2 I2 => ?_
   have := q s2 I2
   rw [ec, hz] at this
   exact this⟩
theorem acI (h : X8 X pts ss) (hn : namesOfAll (pts.take 1) = [] := by rfl) : abJ X (.MatchOr pts pos) ss := ⟨fun z pins σ H s t R I q => by
 refine wpAny_matchPattern_Or (h.go z pins σ H s t _ I fun s1 I1 => ?_)
 have := q s1 I1
 cases hz : ss.contains z with
 | true =>
   rw [hz] at this
   show R (some ((namesOfAll (pts.take 1)).filterMap _)) s1
   rw [hn]
   exact this
 | false =>
   rw [hz] at this
   exact this⟩
def abK (X : Cx) (T : Tb) (W : WX) (cs : List MatchCase) (m : Str → M Fl) : Prop := ∀ z, ∀ (B : Bs) (w : Wd) (σ : L2.St) (H : Hp) (fr : Fr) (h : Hh) (D : Ends), Rel X.K T B w σ H fr h → tW X.K T B W w (m z fr h) D → WM X cs z D σ H
def Dc : List (List Str × M Fl) → Str → M Fl
 | [], _ => M.ret .nx
 | (ss, b) :: r, z => if ss.contains z then b else Dc r z
theorem agz : abK X T W [] (Dc []) := fun z B w σ H fr h D R p => ⟨fun pins s t first I => wpAny_matchCases_nil ⟨σ, H, I, p w σ H (Wd.le_refl _) R⟩⟩
theorem R5 (hp : abJ X pt ss) (hb : GZ X T W body mb) (t : abK X T W cs (Dc ms)) : abK X T W (⟨pt, none, body⟩ :: cs) (Dc ((ss, mb) :: ms)) := fun z B w σ H fr h D R p => ⟨fun pins s tk first I => by
 refine wpAny_matchCases_cons (hp.go z pins σ H s tk _ I fun s1 I1 => ?_)
 have p' : tW X.K T B W w ((if ss.contains z then mb else Dc ms z) fr h) D := p
 cases hz : ss.contains z with
 | true =>
   rw [hz] at p'
   exact wpAny_assignInOrder_none ((hb B w σ H fr h D R p').go pins s1 I1)
 | false =>
   rw [hz] at p'
   exact (t z B w σ H fr h D R p').go pins s1 tk false I1⟩
def QH (m : M D) (f : Str → M Fl) : M Fl := m.bind fun d => match d with
 | .str z => f z
 | _ => fun _ _ => .err
theorem afg {f : Str → M Fl} (s : cO X T W e m) (t : abK X T W cs f) : Bc X T W (.Match e cs pos) (QH m f) := fun B w σ H fr h D R p => ⟨fun pins s1 I => by
 refine wpAny_Match (thn ((s B w σ H fr h (fun x H1 => ∃ z, x = .str z ∧ WM X cs z D σ H1) R (tW.bind (VR := vV X.K T B σ) p fun d fr1 h1 w1 H1 v e1 l1 r1 rd p1 => ?_)).go pins s1 I) fun v s2 ⟨x, H1, I1, rx, z, ex, q⟩ => ?_)
 · cases d with
   | str z => exact ⟨z, zV rd, t z B w1 σ H1 fr1 h1 D r1 p1⟩
   | _ => exact (show False from p1).elim
 · subst ex
   obtain ⟨tk, rfl⟩ := rx
   exact q.go pins s2 tk true I1⟩
end
end Pk
namespace Pk
open PySem PySem.Spec L2
section
variable {X : Cx} {T : Tb} {W : WX} {k : Nat} {pos pf : Pos} {a : Expr} {ma : M D}
def R6 (_ : Hh) (d : D) : Option D := match d with
 | .int i => if i.natAbs.log2 < 1920 then some (.str (toString i)) else none
 | .str z => some (.str z)
 | _ => none
theorem aaO (sa : cO X T W a ma) (hm : X.mg "str" = none) (hg : Gl X "str" := by rfl) (he : starEach (a :: []) X.env = (false, eval a X.env) :: starEach [] X.env := by exact uG rfl) : cO X T W (.Call (.Name "str" pf) [a] [] pos) (mQ R6 ma) :=
 af5 (id := "str") sa (fun B w σ H fr h x d z Q R rx q k => by
  unfold R6 at q
  split at q
  · split at q
    · rename_i hl
      cases q
      rw [vp rx]
      exact yD call_str_int ⟨_, rfl, hl, k w H _ (Wd.le_refl _) R (.str _)⟩
    · cases q
  · cases q
    rw [zV rx]
    exact yD SkE.call_str_str ⟨_, rfl, k w H _ (Wd.le_refl _) R (.str _)⟩
  · cases q) hm hg (by decide +kernel) (by decide) (by decide) he
end
end Pk
namespace Pk
open PySem PySem.Spec L2
section
variable {X : Cx} {T : Tb} {W : WX} {k j : Nat} {pos : Pos} {a b : Expr} {ma mb : M D}
end
end Pk
namespace Pk
open PySem PySem.Spec PyProof.Rows L2
section
variable {prog : Program} {w : World} {A : Around} {E : Value → Shared → Prop} {s : Shared} {l : Addr} {its : List Value} {ns : List Int} {Q : Value → Shared → Prop}
end
def aie (K : PySem.W.Frag) : List V → Hp → VK → Prop := fun vs H Q => ∃ (a : Addr) (ns : List Int), vs = [V.ref a] ∧ SqT K H a (ns.map V.int) ∧ Q (.int ns.sum) H
section
variable {X : Cx} {T : Tb} {W : WX} {k : Nat} {e a b c : Expr} {es : List Expr} {m ma mb mc : M D} {pos pf : Pos}
def Yb (h : Hh) (d : D) : Option D := match d with
 | .tup l => (D.ints l).map fun l => .int l.sum
 | _ => Yv h d
end
end Pk
namespace PySem
namespace OwA
open PySem.W PySem.Calls PyProof.Rows
section
variable {prog : Program} {w : World} {A : Around} {E : Value → Shared → Prop} {s : Shared} {K : Frag} {x C L f : Addr} {h₀ : Heap} {m : Str → Option Value} {ox : Obj} {od : Option Obj}
end
end OwA
end PySem
namespace Pk
open PySem PySem.Spec L2
section
variable {X : Cx} {T : Tb} {W : WX} {k j : Nat} {pos pf : Pos} {a b : Expr} {ma mb : M D}
def adz (mt : Nat → Option Fn) (ma : M D) : M D := ma.bind fun o => Gq mt o []
def aif (K : PySem.W.Frag) (C : Addr) (f : Str) (i : Int) : Bool := U3 K C && (match PySem.W.findCls K (.ref C) (.type "type") f with
 | some (.val (.int j _)) => decide (j = i)
 | _ => false)
end
end Pk
namespace PySem
namespace OwO
open PySem.W PySem.Calls PyProof.Rows
section
variable {prog : Program} {w : World} {A : Around} {E : Value → Shared → Prop} {s : Shared} {x C dx : Addr}
end
structure NmOk (nm : String) : Prop where
 n0 : fillsNumberSlot (.type "NoneType") nm = pure false
 n1 : fillsNumberSlot (.type "str") nm = pure false
 n2 : fillsNumberSlot (.type "list") nm = pure false
 n3 : fillsNumberSlot (.type "tuple") nm = pure false
 i0 : fillsNumberSlot (.type "int") nm = pure true
 b0 : fillsNumberSlot (.type "bool") nm = pure true
 i1 : numberSlotInPython (.type "int") nm = pure false
 b1 : numberSlotInPython (.type "bool") nm = pure false
 i2 : ∃ tk, typeLookup (.type "int") (dunderR nm) = pure tk
 b2 : ∃ tk, typeLookup (.type "bool") (dunderR nm) = pure tk
 ti : ∀ (prog : Program) (w : World) (A : Around) (E : Value → Shared → Prop) (s : Shared) (x C dx : Addr) (a : Int) (t : Tok), s.heap.get? x = some (instObj C dx) → ∀ P' : Option Value → Shared → Prop, P' none s → wpAny (model prog w) A (tryMethod (.int a t) (PySem.dunder nm) (.ref x)) P' E s
 tb : ∀ (prog : Program) (w : World) (A : Around) (E : Value → Shared → Prop) (s : Shared) (x C dx : Addr) (a : Bool), s.heap.get? x = some (instObj C dx) → ∀ P' : Option Value → Shared → Prop, P' none s → wpAny (model prog w) A (tryMethod (.bool a) (PySem.dunder nm) (.ref x)) P' E s
end OwO
end PySem
namespace Pk
open PySem PySem.Spec L2
structure OpF (X : Cx) (T : Tb) (k : Nat) (nm : String) (mt : Nat → Option Fn) : Prop where
 ok : PySem.OwO.NmOk nm
 ex : ∀ c F, mt c = some F → ∃ (kk : Nat) (f : Addr) (fd : FuncData) (ps : List Str), Cls X.K (T.cad c) ∧ Meth X.K (T.cad c) (PySem.dunder nm) f ∧ PySem.W.selfFirst X.K (T.cad c) = true ∧ v9 X.prog X.w X.K X.mg X.base T kk f fd ps F ∧ Bn X.K T fd ps 2 [] (aK []) ∧ kk ≤ k ∧
  ∃ g, PySem.W.findIn X.K (.ref (T.cad c)) (PySem.dunderR nm) = some (some (.ref g))
structure aiy (X : Cx) (T : Tb) (k : Nat) (nm : String) (mt : Nat → Option Fn) : Prop where
 ex : ∀ c F, mt c = some F → ∃ (kk : Nat) (f : Addr) (fd : FuncData) (ps : List Str), Cls X.K (T.cad c) ∧ Meth X.K (T.cad c) (PySem.dunderR nm) f ∧ PySem.W.selfFirst X.K (T.cad c) = true ∧ v9 X.prog X.w X.K X.mg X.base T kk f fd ps F ∧ Bn X.K T fd ps 2 [] (aK []) ∧ kk ≤ k ∧
  (∃ g, PySem.W.findIn X.K (.ref (T.cad c)) (PySem.dunder nm) = some (some (.ref g))) ∧ PySem.W.subIn X.K (.ref (T.cad c)) (.type "int") = some false ∧ PySem.W.subIn X.K (.ref (T.cad c)) (.type "bool") = some false
def Yc (mtl mtr : Nat → Option Fn) (h : Hh) (x y : D) : Option (Fn × Bool) := match CG h x y with
 | some c => (mtl c).map fun F => (F, false)
 | none => match fnOf mtl h x, y.bty h with
   | some F, some _ => some (F, false)
   | _, _ => match fnOf mtr h y, x.smp with
     | some F, true => some (F, true)
     | _, _ => none
def adA (mtl mtr : Nat → Option Fn) (ma mb : M D) : M D := ma.bind fun x => mb.bind fun y fr h => match Yc mtl mtr h x y with
 | some (F, false) => vD fr (F [x, y] h)
 | some (F, true) => vD fr (F [y, x] h)
 | none => .err
section
variable {X : Cx} {T : Tb} {W : WX} {k : Nat} {a b : Expr} {ma mb : M D} {pos : Pos} {op : Operator}
theorem Ox {e : Expr} : cO X T W e (fun _ _ => .err) := fun B w σ H fr h Q R p => p.elim
def Zm (X : Cx) (T : Tb) (W : WX) (k : Nat) (σ : L2.St) (f : Addr) (x y : V) (H2 : Hp) (Q : VK) : Prop :=
 ∃ (kk : Nat) (fd : FuncData) (ps : List Str) (G : Fn), v9 X.prog X.w X.K X.mg X.base T kk f fd ps G ∧ Bn X.K T fd ps 2 [] (aK []) ∧ kk ≤ k ∧
   ∀ g gV, KBn X.K fd ps 2 [] g gV → (∀ (w : Wd) (vs zs : List V) (ds es : List D), aO X.K T w vs ds → aO X.K T w zs es → ds.length = 2 → es.length = ([] : List Str).length → aO X.K T w (gV vs zs) (aK [] ds es) ∧ (aK [] ds es).length = ps.length) →
     spF X.K T ps.length G (gV [x, y] []) H2 Q (fun c d H' => W c d σ H')
def ah4 (X : Cx) (T : Tb) (W : WX) (k : Nat) (op : Operator) (σ : L2.St) (x y : V) (H2 : Hp) (Q : VK) : Prop :=
 (∃ (p1 p2 C dx dy f : Addr) (fs gs : List (Str × V)), x = .ref p1 ∧ y = .ref p2 ∧ H2 p1 = some (.ins C dx fs) ∧ H2 p2 = some (.ins C dy gs) ∧ Meth X.K C (PySem.dunder op.info.2) f ∧ PySem.W.selfFirst X.K C = true ∧ Zm X T W k σ f x y H2 Q) ∨
 (∃ (p1 C dx f g : Addr) (fs : List (Str × V)) (t : String), x = .ref p1 ∧ H2 p1 = some (.ins C dx fs) ∧ TyX X.K H2 y (.type t) ∧ t ∈ JK ∧ Meth X.K C (PySem.dunder op.info.2) f ∧ PySem.W.selfFirst X.K C = true ∧ PySem.W.findIn X.K (.ref C) (PySem.dunderR op.info.2) = some (some (.ref g)) ∧ Zm X T W k σ f x y H2 Q) ∨
 (∃ (p1 C dx f g : Addr) (fs : List (Str × V)), y = .ref p1 ∧ H2 p1 = some (.ins C dx fs) ∧ (x = .non ∨ (∃ bb, x = .bl bb) ∨ ∃ i, x = .int i) ∧ Meth X.K C (PySem.dunderR op.info.2) f ∧ PySem.W.selfFirst X.K C = true ∧ PySem.W.findIn X.K (.ref C) (PySem.dunder op.info.2) = some (some (.ref g)) ∧ PySem.W.subIn X.K (.ref C) (.type "int") = some false ∧ PySem.W.subIn X.K (.ref C) (.type "bool") = some false ∧ Zm X T W k σ f y x H2 Q)
end
end Pk
namespace Pk
open PySem PySem.Spec L2
def D.lstP (h : Hh) (d : D) : Option (List PyData) := match d.der h with
 | .fl l => D.toPs l
 | .nl l => D.toPs l
 | .kl l => D.toPs l
 | _ => none
section
variable {K : PySem.W.Frag} {T : Tb} {B : Bs} {w : Wd} {σ : L2.St} {H : Hp} {fr : Fr} {h : Hh} {v : V} {d : D} {ps : List PyData}
end
section
variable {X : Cx} {T : Tb} {W : WX} {k : Nat}
def ahU (h : Hh) (x y : D) : Option Bool := match x.toP, y.lstP h with
 | some p, some ps => if SeqAt.shaped p && SeqAt.shaped (.list ps) then some (ps.any fun z => PyData.eqv z p) else none
 | _, _ => none
def aig (h : Hh) (x y : D) : Option Bool := (ahU h x y).map (!·)
def Wo (h : Hh) (o x : D) : Option D := match x.toP, o.lstP h with
 | some p, some ps => if SeqAt.shaped p && SeqAt.shaped (.list ps) then (ps.findIdx? fun z => PyData.eqv z p).map (fun j => .int (j : Nat)) else none
 | _, _ => none
def Zo (mo m : M D) : M D := mo.bind fun o fr h => if (o.lstP h).isSome then m.bind (fun x fr h => M.opt (Wo h o x) fr h) fr h else .err
variable {e o : Expr} {m mo : M D} {cpos apos : Pos}
end
end Pk
namespace Pk
open PySem PySem.Spec L2
def aiz (ix : Nat → Option Nat) (x : D) : M D := fun fr h => M.opt (ug ix h x) fr h
section
variable {X : Cx} {T : Tb} {W : WX} {k j : Nat} {apos pos : Pos} {o b : Expr} {mo mb : M D} {f : Str} {ix : Nat → Option Nat}
end
end Pk
namespace Pk
open PySem PySem.Spec L2
def vJD : wI It (Nat × List D × List D) := fun K T _ _ w _ _ J x => ∀ i w1 B1 σ1 H1 fr1 h1, w.le w1 → Rel K T B1 w1 σ1 H1 fr1 h1 → h1[x.1]? = some (.nl x.2.1) →
 (x.2.2.length ≤ i → J.stop i H1) ∧ ∀ d, x.2.2[i]? = some d → J.go i H1 ∧ ∀ y H2, J.yld i H1 y H2 → ∃ w2, w1.le w2 ∧ Rel K T B1 w2 σ1 H2 fr1 h1 ∧ rC K T w2 y d
open Classical in
noncomputable def vW (n : Nat) (l : List D) (vs : List Nat) (g : D → M Unit) (t : M Bool) (e : M D) : List D → M (List D)
 | [] => fun fr h => if h[n]? = some (.nl l) then .ok [] fr h else .err
 | d :: ds => fun fr h => if h[n]? = some (.nl l) then ((xj vs g t e d).bind fun o => (vW n l vs g t e ds).bind fun r => M.ret (Ag o r)) fr h else .err
noncomputable def K8 (vs : List Nat) (l : M (Nat × List D × List D)) (g : D → M Unit) (t : M Bool) (e : M D) : M D := l.bind fun x => (X6 vs).bind fun _ => if x.2.2.length ≤ big then (vW x.1 x.2.1 vs g t e x.2.2).bind fun r => M.ret (.nl r) else M.opt none
section
variable {X : Cx} {T : Tb} {W : WX} {k : Nat} {pos pos' : Pos} {tg iter elt c e : Expr} {ifs : List Expr} {li : M (Nat × List D × List D)} {g : D → M Unit} {b : M Fl} {is : List Nat} {t : M Bool} {m me : M D} {scope : Scope} {own : List (Str × Nat)} {body : List Stmt}
theorem Zq (s : cO X T W e m) : wF (WI X tg e) X.K T W vJD (M7 m) := fun B w σ H fr h Q r p => abe (acs mZ) (s B w σ H fr h _ r (bu.bind (VR := vV X.K T B σ) p fun d fr1 h1 w1 H1 x e1 l1 r1 rx p1 => by
 cases q : FP h1 d with
 | none => rw [q] at p1; exact p1.elim
 | some z =>
   obtain ⟨n, l⟩ := z
   rw [q] at p1
   obtain ⟨rfl, hc⟩ := abG q
   cases rx with
   | @ref a n1 s1 =>
     obtain ⟨vs, sq, rv⟩ := Ze r1 s1 hc
     refine ⟨a, rfl, .inr ⟨⟨vs, sq⟩, p1 w1 H1 (Itl X.K a) (Wd.le_refl _) r1 fun i w3 B3 σ3 H3 fr3 h3 l3 r3 hc3 => ?_⟩⟩
     obtain ⟨vs3, sq3, rv3⟩ := Ze r3 (aeN l3 s1) hc3
     refine ⟨fun hi => ⟨vs3, sq3, by rw [rv3.length]; exact hi⟩, fun d' hd => ?_⟩
     obtain ⟨v, hv, rv⟩ := rv3.get hd
     refine ⟨⟨vs3, v, sq3, hv⟩, fun y H4 hy => ?_⟩
     obtain ⟨rfl, hy⟩ := hy
     have z := hy vs3 sq3
     rw [hv] at z
     cases z
     exact ⟨w3, Wd.le_refl _, r3, rv⟩))
theorem afh {B : Bs} {w : Wd} {σ : L2.St} {H : Hp} {fr : Fr} {h : Hh} {Q : VK} (si : wF (WI X tg iter) X.K T W vJD li) (hi : ∀ i ∈ is, i ∈ own.map (·.2))
 (sg : ∀ (s : Shared) (H0 : Hp) (C : Addr) (cl : List (Str × Addr)) (fp : List Addr), Mv (X.blk s H0 scope (compEnvC scope cl C X.env) fp) T is tg g)
 (st : ∀ (s : Shared) (H0 : Hp) (C : Addr) (cl : List (Str × Addr)) (fp : List Addr), wF (UT (X.blk s H0 scope (compEnvC scope cl C X.env) fp) ifs) X.K T WF vB t)
 (se : ∀ (s : Shared) (H0 : Hp) (C : Addr) (cl : List (Str × Addr)) (fp : List Addr), cO (X.blk s H0 scope (compEnvC scope cl C X.env) fp) T WF elt me)
 (R : Rel X.K T B w σ H fr h) (p : bu X.K T B W (vE X.K T B σ) w σ (K8 (own.map (·.2)) li g t me fr h) Q) : tLc (WI X tg iter) (GB X scope tg) (TB X scope ifs) (EB X scope elt) (own.map (·.2)) σ H Q := by
 refine si B w σ H fr h _ R (bu.bind (VR := vJD X.K T B σ) p fun xx fr0 h0 w1 H1 J e1 l1 r0 vj p0 => ?_)
 obtain ⟨n, l, ds⟩ := xx
 generalize hvs : own.map (·.2) = vs at hi p0 ⊢
 intro A0 nD
 have p1 : bu X.K T B W (vE X.K T B σ) w1 σ ((if ds.length ≤ big then (vW n l vs g t me ds).bind fun r => M.ret (.nl r) else M.opt none) (vU fr0 vs) h0) Q := p0
 by_cases hb : ds.length ≤ big
 · rw [if_pos hb] at p1
   have rD := r0.temp (o := .lst []) nD
   have OD : Own B w1 A0 := r0.own_new nD
   refine ⟨fun i m H => m = ds.length - i ∧ i ≤ ds.length ∧ ∃ w' fr' h' acc vs', w1.le w' ∧ aO X.K T w' vs' acc ∧ acc.length ≤ i ∧ Rel X.K T (B.pr A0 (.lst vs')) w' (wipe σ vs) H fr' h' ∧ (∀ j ∈ vs, ∀ d, fr'[j]? ≠ some (some d)) ∧
    bu X.K T B W (vE X.K T B σ) w' σ (((vW n l vs g t me (ds.drop i)).bind fun r => M.ret (D.nl (acc ++ r))) fr' h') Q, ⟨ds.length, by simp, Nat.zero_le _, w1, vU fr0 vs, h0, [], [], Wd.le_refl _, .nil, Nat.zero_le _,
     (rD.wipe vs).protect OD (fun i ⟨z1, dd, z2, z3⟩ => r0.loose_new nD i (by
      by_cases hj : i ∈ vs
      · exact absurd z2 (Af hj)
      · rw [Lz hj] at z2
        rw [wipe_out hj] at z1
        exact ⟨z1, dd, z2, z3⟩)) upd_same, fun j hj d => Af hj, p1⟩, ?_⟩
   rintro i m H2 ⟨rfl, hil, w2, fr2, h2, acc, us, l2, ra, la, r2, hw2, p2⟩
   have hP := OD.p
   by_cases hc : h2[n]? = some (.nl l)
   case neg =>
    exfalso
    have q : vW n l vs g t me (ds.drop i) fr2 h2 = .err := by cases ds.drop i <;> (unfold vW; rw [if_neg hc])
    rw [M.bind_err q] at p2
    exact p2.elim
   obtain ⟨js, jg⟩ := vj i w2 (B.pr A0 (.lst us)) (wipe σ vs) H2 fr2 h2 l2 r2 hc
   by_cases hlt : i < ds.length
   · obtain ⟨go, y⟩ := jg ds[i] (ajc hlt)
     have ed : ds.drop i = ds[i] :: ds.drop (i + 1) := List.drop_eq_getElem_cons hlt
     rw [ed] at p2
     refine .inr ⟨go, fun H' => ∃ w' fr' h' acc vs', w1.le w' ∧ aO X.K T w' vs' acc ∧ acc.length ≤ i + 1 ∧ Rel X.K T (B.pr A0 (.lst vs')) w' (wipe σ vs) H' fr' h' ∧ (∀ j ∈ vs, ∀ d, fr'[j]? ≠ some (some d)) ∧
      bu X.K T B W (vE X.K T B σ) w' σ (((vW n l vs g t me (ds.drop (i + 1))).bind fun r => M.ret (D.nl (acc ++ r))) fr' h') Q, fun H' q => ⟨ds.length - (i + 1), by omega, rfl, hlt, q⟩, fun x H3 yx => ?_⟩
     obtain ⟨w3, l3, r3, rx⟩ := y x H3 yx
     have turn : ∃ o fr' h', xj vs g t me ds[i] fr2 h2 = .ok o fr' h' ∧ bu X.K T B W (vE X.K T B σ) w2 σ (((vW n l vs g t me (ds.drop (i + 1))).bind fun r => M.ret (D.nl (acc ++ Ag o r))) fr' h') Q := by
      have p2' : bu X.K T B W (vE X.K T B σ) w2 σ (((xj vs g t me ds[i]).bind fun o => (vW n l vs g t me (ds.drop (i + 1))).bind fun r => M.ret (D.nl (acc ++ Ag o r))) fr2 h2) Q := by
       have ee : ((vW n l vs g t me (ds[i] :: ds.drop (i + 1))).bind fun r => M.ret (D.nl (acc ++ r))) fr2 h2 = ((xj vs g t me ds[i]).bind fun o => (vW n l vs g t me (ds.drop (i + 1))).bind fun r => M.ret (D.nl (acc ++ Ag o r))) fr2 h2 := by
        have q9 : vW n l vs g t me (ds[i] :: ds.drop (i + 1)) fr2 h2 = ((xj vs g t me ds[i]).bind fun o => (vW n l vs g t me (ds.drop (i + 1))).bind fun r => M.ret (Ag o r)) fr2 h2 := by rw [vW]; dsimp only; rw [if_pos hc]
        unfold M.bind at q9 ⊢
        rw [q9]
        cases xj vs g t me ds[i] fr2 h2 with
        | ok o fr' h' => dsimp only; cases vW n l vs g t me (ds.drop (i + 1)) fr' h' <;> rfl
        | exc _ _ _ => rfl
        | err => rfl
       rw [← ee]
       exact p2
      cases q : xj vs g t me ds[i] fr2 h2 with
      | ok o fr' h' =>
        rw [M.bind_ok q] at p2'
        exact ⟨o, fr', h', rfl, p2'⟩
      | exc y fr' h' =>
        exfalso
        unfold xj at q
        split at q
        · split at q
          · split at q <;> cases q
          · cases q
          · cases q
        · cases q
      | err =>
        rw [M.bind_err q] at p2'
        exact p2'.elim
     obtain ⟨o, fro, ho, qt, p3⟩ := turn
     have upw : ∀ {u2 : L2.St} {w' : Wd} {H' : Hp} {fr' : Fr} {h' : Hh} {B' : Bs}, wipe u2 vs = wipe σ vs → Rel X.K T B' w' u2 H' fr' h' → Rel X.K T B' w' (wipe σ vs) H' (vU fr' vs) h' := fun {u2 w' H' fr' h' B'} e R' => by
      rw [← e]
      exact R'.wipe vs
     intro s0 H0 C cl fp
     refine sg s0 H0 C cl fp (B.pr A0 (.lst us)) w3 (wipe σ vs) H3 fr2 h2 x ds[i] _ r3 rx ?_
     unfold xj at qt
     cases q1 : g ds[i] fr2 h2 with
     | exc _ _ _ => rw [q1] at qt; cases qt
     | err => rw [q1] at qt; cases qt
     | ok _ fr3 h3 =>
       rw [q1] at qt
       dsimp only at qt
       intro w4 σ4 H4 l4 r4 k4
       have ew : wipe σ4 vs = wipe σ vs := Yy (k4.1.trans (wipe_length σ vs)) hi k4.2
       refine ⟨ew, fun s0 H0 C cl fp => st s0 H0 C cl fp (B.pr A0 (.lst us)) w4 σ4 H4 fr3 h3 _ r4 ?_⟩
       cases q2 : t fr3 h3 with
       | exc _ _ _ => rw [q2] at qt; cases qt
       | err => rw [q2] at qt; cases qt
       | ok b fr4 h4 =>
         rw [q2] at qt
         intro w5 H5 v l5 r5 rv
         have rv' : v = b := rv
         subst rv'
         cases v with
         | false =>
           dsimp only at qt
           cases qt
           simp only [Bool.false_eq_true, if_false]
           exact ⟨w5, _, _, acc, us, Wd.le_trans l2 (Wd.le_trans l3 (Wd.le_trans l4 l5)), ra.mono (Wd.le_trans l3 (Wd.le_trans l4 l5)), Nat.le_succ_of_le la, upw ew r5, fun j hj d => Af hj, p3.le (Wd.le_trans l3 (Wd.le_trans l4 l5))⟩
         | true =>
           dsimp only at qt
           simp only [if_true]
           intro s0 H0 C cl fp
           refine se s0 H0 C cl fp (B.pr A0 (.lst us)) w5 σ4 H5 fr4 h4 _ r5 ?_
           cases q3 : me fr4 h4 with
           | exc _ _ _ => rw [q3] at qt; cases qt
           | err => rw [q3] at qt; cases qt
           | ok yd fr5 h5 =>
             rw [q3] at qt
             cases qt
             intro w6 H6 yv l6 r6 ry
             have hD6 : H6 A0 = some (.lst us) := (r6.prot (A0, .lst us) (ajb)).1
             have lall : w2.le w6 := Wd.le_trans l3 (Wd.le_trans l4 (Wd.le_trans l5 l6))
             refine ⟨us, hD6, ?_, w6, _, _, acc ++ [yd], us ++ [yv], Wd.le_trans l2 lall, (ra.mono lall).append (.cons ry .nil), ?_, (upw ew r6).repr OD.e OD.p, fun j hj d => Af hj, ?_⟩
             · rw [ra.length]
               have : big < sizeLine := by decide
               omega
             · rw [ajk]
               show acc.length + 1 ≤ i + 1
               omega
             · have e9 : ∀ r : List _, acc ++ Ag (some yd) r = acc ++ [yd] ++ r := fun r => by
                show acc ++ yd :: r = _
                rw [List.append_assoc]
                rfl
               simp only [e9] at p3
               exact p3.le lall
   · have e : i = ds.length := by omega
     subst e
     rw [List.drop_length] at p2
     obtain ⟨r3, O3, lo3, eD⟩ := r2.unprotect OD.e OD.p
     refine .inl ⟨js (Nat.le_refl _), ?_⟩
     have p3 : bu X.K T B W (vE X.K T B σ) w2 σ (.ok (D.nl (acc ++ [])) fr2 h2) Q := by
      have q : vW n l vs g t me [] fr2 h2 = .ok [] fr2 h2 := by unfold vW; rw [if_pos hc]
      rw [M.bind_ok q] at p2
      exact p2
     rw [aiV] at p3
     have r4 : Rel X.K T B w2 σ H2 fr2 h2 := r3.refr (by rw [← wipe_length σ vs]; exact r3.fl) fun j d ej => ⟨ej, by
      by_cases hj : j ∈ vs
      · exact absurd ej (hw2 j hj d)
      · exact (wipe_out hj).symm⟩
     refine p3 w2 H2 (.ref A0) (Wd.le_refl _) r4 (.inr ⟨A0, _, rfl, O3, fun j ⟨z1, dd, z2, z3⟩ => lo3 j ⟨?_, dd, z2, z3⟩, eD, .lst ra⟩)
     by_cases hj : j ∈ vs
     · exact absurd z2 (hw2 j hj dd)
     · rw [wipe_out hj]
       exact z1
 · rw [if_neg hb] at p1
   exact p1.elim
theorem Zr (C : Cq X T W k) (own : List (Str × Nat)) (si : wF (WI X tg iter) X.K T W vJD li) (hi : ∀ i ∈ is, i ∈ own.map (·.2))
 (sg : ∀ (s : Shared) (H0 : Hp) (C : Addr) (cl : List (Str × Addr)) (fp : List Addr), Mv (X.blk s H0 scope (compEnvC scope cl C X.env) fp) T is tg g)
 (st : ∀ (s : Shared) (H0 : Hp) (C : Addr) (cl : List (Str × Addr)) (fp : List Addr), wF (UT (X.blk s H0 scope (compEnvC scope cl C X.env) fp) ifs) X.K T WF vB t)
 (se : ∀ (s : Shared) (H0 : Hp) (C : Addr) (cl : List (Str × Addr)) (fp : List Addr), cO (X.blk s H0 scope (compEnvC scope cl C X.env) fp) T WF elt me)
 (ok : BlkOk X.N X.env.scope scope own) (hs : ∀ x, foldedSetIterable iter X.env x = pure x := by intro _; rfl) : zQ X T W (.ListComp elt [⟨tg, iter, ifs, 0⟩] scope pos) (K8 (own.map (·.2)) li g t me) := fun B w σ H fr h Q R p =>
 uP (pe_lc C.calm C.nd UV ok (fun s H C cl fp => ⟨fun pins s' σ H v u Q I r hh => hh s _ C cl fp pins s' u I r⟩) (fun s H C cl fp => ⟨fun pins s' σ H Q I hh => hh s _ C cl fp pins s' I⟩) (fun s H C cl fp => ⟨fun pins s' σ H Q I hh => (hh s _ C cl fp).go pins s' I⟩) hs) (afh si hi sg st se R p)
end
section
variable {X : Cx} {T : Tb} {W : WX} {k : Nat} {pos : Pos} {tg iter elt : Expr} {ifs : List Expr} {lj : M (List D)} {g : D → M Unit} {is : List Nat} {t : M Bool} {me : M D} {scope : Scope} {own : List (Str × Nat)}
end
end Pk
namespace Pk
open PySem PySem.Spec L2
def keyD : D → Option Key
 | .int i => some (.inl i)
 | .str s => some (.inr s)
 | _ => none
def aeP : List D → Option (List Key)
 | [] => some []
 | d :: ds => (keyD d).bind fun k => (aeP ds).map fun ks => k :: ks
def valD : List (List Key) → List D → List Key → Option D
 | k' :: ks, d :: ds, k => if k' = k then some d else valD ks ds k
 | _, _, _ => none
def agA (ks : List (List Key)) (k : List Key) : Bool := ks.any fun k' => decide (k' = k)
def ahn (ks : List (List Key)) (k : List Key) : List (List Key) := if agA ks k = true then ks else ks ++ [k]
def aho {α : Type} (ks : List (List Key)) (ds : List α) (k : List Key) (v : α) : List α := if agA ks k = true then List.zipWith (fun k' d => if k' = k then v else d) ks ds else ds ++ [v]
def aeQ (ds : List D) : Option (List Key) := if ds.length ≤ big then aeP ds else none
def acJ (h : Hh) (d : D) : Option (Nat × List (List Key) × List D) := match d with
 | .ref n => match h[n]? with
   | some (.dc ks ds) => some (n, ks, ds)
   | _ => none
 | _ => none
def abL (h : Hh) (o : D) (ks : List D) : Option D := (acJ h o).bind fun x => (aeQ ks).bind fun k => valD x.2.1 x.2.2 k
def Yd (h : Hh) (o : D) (ks : List D) (d : D) : Option Hh := (acJ h o).bind fun x => (aeQ ks).bind fun k => if x.2.1.length ≤ big then some (h.set x.1 (.dc (ahn x.2.1 k) (aho x.2.1 x.2.2 k d))) else none
def aeR : M D := fun fr h => .ok (.ref h.length) fr (h ++ [.dc [] []])
def abM (mo : M D) (ms : List (M D)) : M D := mo.bind fun o => (aj ms).bind fun ks fr h => M.opt (abL h o ks) fr h
def abN (mo : M D) (ms : List (M D)) (mv : M D) : M Fl := mv.bind fun d => mo.bind fun o => (aj ms).bind fun ks fr h => match Yd h o ks d with
 | some h' => .ok .nx fr h'
 | none => .err
section
variable {X : Cx} {T : Tb} {W : WX} {k x1 : Nat} {pos tpos pos' : Pos} {o e : Expr} {es : List Expr} {mo m : M D} {ms : List (M D)}
end
end Pk
namespace Pk
open PySem PySem.Spec L2
def aiA (K : PySem.W.Frag) (ta : TE) (f : Str) : TG := fun v σ H Q => ta σ H fun x H1 => ∃ a C dx fs, x = .ref a ∧ H1 a = some (.ins C dx fs) ∧ Cls K C ∧ NoAttr K C f ∧ fs.length < 1000 ∧ Q σ (upd H1 a (.ins C dx (putF f v fs)))
section
variable {X : Cx} {o : Expr} {f : Str} {pos : Pos} {ta : TE}
end
def abO (j : Nat) (ix : Nat → Option Nat) (d : D) : M Unit := fun fr h => match fr[j]? with
 | some (some (.ref n)) => match h[n]? with
   | some (.no c fs) => match ix c with
     | some i => match xg i d fs with
       | some fs' => .ok () fr (h.set n (.no c fs'))
       | none => .err
     | none => .err
   | _ => .err
 | _ => .err
section
variable {X : Cx} {T : Tb} {W : WX} {k kk n c : Nat} {px tpos p pos : Pos} {f : Addr} {fd : FuncData} {ps : List Str} {F : Fn} {x : Str} {e : Expr} {es : List Expr} {ma mk : M (List D)} {gD : List D → List D → List D}
structure FnC (P : Program) (w : World) (K : PySem.W.Frag) (mg : Str → Option Value) (base : Heap) (T : Tb) (k c : Nat) (f : Addr) (fd : FuncData) (ps : List Str) (F : Fn) : Prop where
 ok : FnOk P w K mg base (L2.CX P w) k f fd ps (spF K T ps.length F)
 made : Mk K (T.cad c) f
def abP (fr : Fr) (n : Nat) : R D → R D
 | .ok .non _ h => .ok (.ref n) fr h
 | .ok _ _ _ => .err
 | .exc x _ h => .exc x fr h
 | .err => .err
def NB (c n m : Nat) (F : Fn) (gD : List D → List D → List D) (ma mk : M (List D)) : M D := ma.bind fun ds => mk.bind fun es fr h => if ds.length = n ∧ es.length = m then abP fr h.length (F (.ref h.length :: gD ds es) (h ++ [.no c []])) else .err
theorem acK {B : Bs} {w : Wd} {σ : L2.St} {H : Hp} {fr : Fr} {h : Hh} {m : Nat} {vs zs : List V} {ds es : List D} {Q : VK} {gV gW : List V → List V → List V} (hv : ∀ x vs zs, vs.length = n → zs.length = m → gV (x :: vs) zs = x :: gW vs zs)
 (hg : ∀ (w : Wd) (vs zs : List V) (ds es : List D), aO X.K T w vs ds → aO X.K T w zs es → ds.length = n → es.length = m → aO X.K T w (gW vs zs) (gD ds es) ∧ (gD ds es).length + 1 = ps.length)
 (R : Rel X.K T B w σ H fr h) (rs : aO X.K T w vs ds) (rz : aO X.K T w zs es) (p : bu X.K T B W (vV X.K T B σ) w σ (if ds.length = n ∧ es.length = m then abP fr h.length (F (.ref h.length :: gD ds es) (h ++ [.no c []])) else .err) Q) :
 vs.length = n ∧ zs.length = m ∧ ∀ x dx, H x = none → H dx = none → dx ≠ x → spF X.K T ps.length F (gV (.ref x :: vs) zs) (upd (upd H dx (.own x)) x (.ins (T.cad c) dx [])) (fun v H2 => v = .non ∧ Q (.ref x) H2) (fun c d H' => W c d σ H') := by
 by_cases hl : ds.length = n ∧ es.length = m
 · rw [if_pos hl] at p
   obtain ⟨r2, l2⟩ := hg w vs zs ds es rs rz hl.1 hl.2
   refine ⟨rs.length.trans hl.1, rz.length.trans hl.2, fun x dx nx nd ne => ?_⟩
   rw [hv _ _ _ (rs.length.trans hl.1) (rz.length.trans hl.2)]
   have R1 : Rel X.K T B w σ (upd H dx (.own x)) fr h := R.temp nd
   have nx1 : (upd H dx (.own x)) x = none := by rw [upd_ne (Ne.symm ne)]; exact nx
   have co : JH X.K T w (.ins (T.cad c) dx []) (.no c []) := by
    have z : JH X.K T w (.ins (T.cad c) dx ((T.fld c).zip [])) (.no c []) := .obj .nil
    rw [List.zip_nil_right] at z
    exact z
   have R2 := (R1.temp (o := .ins (T.cad c) dx []) nx1).to_cellO (R1.own_new nx1) (R1.loose_new nx1) upd_same co
   have le : w.le ⟨w.F, w.I ++ [x]⟩ := ⟨fun _ _ z => z, [x], rfl⟩
   have rx : rC X.K T ⟨w.F, w.I ++ [x]⟩ (.ref x) (.ref h.length) := .ref (by
    rw [← R.len]
    show (w.I ++ [x])[w.I.length]? = some x
    rw [ajl (Nat.le_refl _), Nat.sub_self]
    rfl)
   refine RL (B := B) (σ := σ) (fr := fr) (W := W) R2 (.cons rx (r2.mono le)) (by rw [aiX]; exact l2) ?_
   revert p
   cases F (.ref h.length :: gD ds es) (h ++ [.no c []]) with
   | ok d fr' h' =>
     cases d with
     | non =>
       intro p w' H' v l R' rv
       have ev : v = .non := by
        rcases rv with rv | ⟨q, o, _, _, _, _, rd⟩
        · cases rv; rfl
        · cases rd
       exact ⟨ev, p w' H' (.ref x) (Wd.le_trans le l) R' (rx.mono l)⟩
     | _ => exact fun p => p.elim
   | exc y fr' h' => exact fun p w' H' c dd l R' z => p w' H' c dd (Wd.le_trans le l) R' z
   | err => exact fun p => p.elim
 · rw [if_neg hl] at p
   exact p.elim
theorem adB (C : Cq X T W k) (F0 : FnC X.prog X.w X.K X.mg X.base T kk c f fd ps F) (hk : kk + 1 ≤ k) (bn : BnI X.K T fd ps n [] gD) (hm : X.mg x = some (.ref (T.cad c))) (sa : CP X T W (e :: es) ma) (hg : Gl X x := by rfl) (hdb : (x == ("__debug__" : Str)) = false := by decide)
 (he : starEach (e :: es) X.env = (false, eval e X.env) :: starEach es X.env := by exact uG rfl) (hpl : (backTo pos (starEach es X.env)).any (·.1) = false := by rfl) : cO X T W (.Call (.Name x p) (e :: es) [] pos) (NB c n 0 F gD ma (aj [])) := fun B w σ H fr h Q R pp => WE.mk <| fun pins s I => by
 obtain ⟨g, gV, gW, hb, hv, hgD⟩ := bn.ex
 refine wpAny_Call_Name_kw (ld_glob I hg hm ?_ hdb)
 refine PySem.W.callWith_K (h₀ := X.base) I.ok.mod.kin F0.made.kp (thn ((sa B w σ H fr h _ R (bu.bind (VR := vA X.K T B σ) pp fun ds fr1 h1 w1 H1 vs e1 l1 r1 rs p1 => acK (c := c) hv hgD r1 rs .nil p1)).go pos pins s I) fun us s1 ⟨vs, H1, I1, r, q⟩ => ⟨I1.kIn, ?_⟩) he hpl
 exact run_mk (ws := []) F0.made F0.ok (C.room.mono hk) hb C.takes I1 r .nil q.1 rfl q.2.2
end
def aih (h : Hh) (d e : D) : Option D := match d, e with
 | .fl a, .ref n => match h[n]? with
   | some (.nl b) => if a.length + b.length ≤ big then some (.nl (a ++ b)) else none
   | _ => none
 | _, _ => none
section
variable {X : Cx} {T : Tb} {W : WX} {pos : Pos} {a b : Expr} {ma mb : M D}
end
end Pk
namespace Pk
open PySem PySem.Spec L2
def Zt (m : M D) : M (Nat × List D × List D) := m.bind fun d fr h => M.opt ((FP h d).map fun x => (x.1, x.2, FJ 0 x.2)) fr h
section
variable {X : Cx} {T : Tb} {W : WX} {p pos tpos : Pos} {kk : Nat} {elts : List Expr} {a : Expr} {ma : M D}
end
end Pk
namespace Pk
open PySem PySem.Spec L2
def Bp (j : Nat) (ix : Nat → Option Nat) (f : Int → Int → Int) (m : M D) : M Fl := fun fr h => match fr[j]? with
 | some (some (.ref n)) => match h[n]? with
   | some (.no c fs) => match ix c with
     | some i => match fs[i]? with
       | some (.int a) => (m.bind fun d fr h => match d with
         | .int b => match h[n]? with
           | some (.no c' fs') => if c' = c then match xg i (.int (f a b)) fs' with
            | some fs'' => .ok .nx fr (h.set n (.no c fs''))
            | none => .err
            else .err
           | _ => .err
         | _ => .err) fr h
       | _ => .err
     | none => .err
   | _ => .err
 | _ => .err
section
variable {X : Cx} {T : Tb} {W : WX} {k : Nat} {px pos tpos apos cpos : Pos} {e o : Expr} {m mo : M D}
theorem aaP {K : PySem.W.Frag} {B : Bs} {w : Wd} {σ : L2.St} {H : Hp} {fr : Fr} {h : Hh} {n c : Nat} {a : Addr} {fs : List D} (R : Rel K T B w σ H fr h) (ha : w.I[n]? = some a) (hc : h[n]? = some (.no c fs)) :
 ∃ dx vs, H a = some (.ins (T.cad c) dx ((T.fld c).zip vs)) ∧ aO K T w vs fs := by
 obtain ⟨o, eH, ro⟩ := R.cel n a _ ha hc
 cases ro with
 | obj r => exact ⟨_, _, eH, r⟩
theorem Um {op : Operator} {f : Int → Int → Int} (j : Nat) {x fn : Str} {ix : Nat → Option Nat} (F : Qp X T fn ix) (ho : InOp X op (fun x y H Q => ∃ i j, x = V.int i ∧ y = V.int j ∧ Q (V.int (f i j)) H)) (s : cO X T W e m)
 (hN : X.N[j]? = some x := by rfl) (hv : Vis X.env.scope x := by first | exact Or.inl rfl | exact Or.inr (Or.inl rfl) | exact Or.inr (Or.inr rfl)) (hd : (x == ("__debug__" : Str)) = false := by decide)
 (hcd : (x == ("__classdict__" : Str)) = false := by decide) : Bc X T W (.AugAssign (.Attribute (.Name x px) fn tpos) op e pos) (Bp j ix f m) := fun B w σ H fr h D R p => by
 unfold Bp at p
 split at p
 · rename_i n e1
   split at p
   · rename_i c fs ec
     split at p
     · rename_i i ei
       split at p
       · rename_i a ea
         obtain ⟨v, e2, z⟩ := vm R e1
         cases z with
         | own O eH r => cases r
         | val r =>
           cases r with
           | @ref q _ s1 =>
             obtain ⟨dx, vs, eH, rs⟩ := aaP R s1 ec
             obtain ⟨v0, ev0, rv0⟩ := rs.get ea
             rw [vp rv0] at ev0
             refine Ak (ps_fldaug (pe_var hN hv hd hcd) mZ ho) ⟨_, e2, q, T.cad c, dx, (T.fld c).zip vs, .int a, rfl, eH, F.cls c i ei, F.na c i ei, (Oi (F.nd c i ei).1 (F.at_ c i ei)).trans ev0, ?_⟩
             refine s B w σ H fr h _ R (tW.bind (VR := vV X.K T B σ) p fun d fr1 h1 w1 H1 y e3 l1 r1 ry p1 => ?_)
             cases d with
             | int b =>
               dsimp only at p1
               split at p1
               · rename_i c' fs' ec'
                 by_cases hc : c' = c
                 · subst hc
                   rw [if_pos rfl] at p1
                   split at p1
                   · rename_i fs'' ep
                     have s1' : w1.I[n]? = some q := aeN l1 s1
                     obtain ⟨dx', vs', eH', rs'⟩ := aaP r1 s1' ec'
                     obtain ⟨vs'', ez, rs''⟩ := Xf (F.nd c' i ei).1 (F.at_ c' i ei) rs' (.int (f a b)) ep
                     refine ⟨a, b, rfl, vp ry, dx', (T.fld c').zip vs', eH', ?_, ?_⟩
                     · rw [List.length_zip]
                       have := (F.nd c' i ei).2
                       omega
                     · rw [ez]
                       exact p1 w1 σ _ (Wd.le_refl _) (r1.change_cell s1' ec' (.obj rs''))
                   · exact (show False from p1).elim
                 · rw [if_neg hc] at p1
                   exact (show False from p1).elim
               · exact (show False from p1).elim
             | _ => exact (show False from p1).elim
       · exact p.elim
     · exact p.elim
   · exact p.elim
 · exact p.elim
theorem Uo {X : Cx} : InOp X .Add (fun x y H Q => ∃ i j, x = V.int i ∧ y = V.int j ∧ Q (V.int (i + j)) H) := in_add
def Zu (d : D) (l : List D) : Option (List D) := match d with
 | .fl r => if l.length + r.length ≤ big then some (l ++ r) else none
 | _ => none
def Vf (i : Nat) (m : M D) : M D := (mO i wj).bind fun _ => m.bind fun d => (mO i (Zu d)).bind fun _ => M.ret .non
theorem afi {K : PySem.W.Frag} {B : Bs} {w : Wd} {σ : L2.St} {H : Hp} {v y : V} {d : D} {fr fr' : Fr} {h h' : Hh} {Q : VK} (R : Rel K T B w σ H fr h) (z : JS K T B w σ H v (Zu d) fr' h') (ry : rC K T w y d) (q : ∀ H', Rel K T B w σ H' fr' h' → Q .non H') : rExtend v [y] H Q := by
 obtain ⟨p, vs, l, l', rfl, e, r, ef, k⟩ := z
 unfold Zu at ef
 split at ef
 · rename_i rr
   split at ef
   · rename_i hl
     cases ef
     obtain ⟨b, zs, rfl, eF, rz⟩ := Ua ry
     exact ⟨p, b, vs, zs, rfl, rfl, e, R.sub _ _ eF, by rw [r.length, rz.length]; exact Nat.le_trans hl (by decide), q _ (k _ (r.append rz))⟩
   · cases ef
 · cases ef
theorem afj (i : Nat) {x : Str} (s : cO X T W e m) (hN : X.N[i]? = some x := by rfl) (hv : Vis X.env.scope x := by first | exact Or.inl rfl | exact Or.inr (Or.inl rfl) | exact Or.inr (Or.inr rfl)) (hd : (x == ("__debug__" : Str)) = false := by decide)
 (hcd : (x == ("__classdict__" : Str)) = false := by decide)
 (hbase : attributeBase (.Name x px) "extend" X.env (eval (.Name x px) X.env) = eval (.Name x px) X.env := by rfl)
 (hfew : ((backTo cpos (starEach (e :: []) X.env)).all (fun x => !x.1) && (backToKw cpos (keywordEach [] X.env)).all (fun x => x.1.isSome)
  && decide ((e :: []).length + ([] : List Keyword).length + (if ([] : List Keyword).isEmpty then 0 else 1) < 30)) = true := by rfl)
 (hline : (apos.endLine == cpos.line) = true := by rfl) (hs : starEach (e :: []) X.env = (false, eval e X.env) :: starEach [] X.env := by exact uG rfl) (hplain : (backTo cpos (starEach [] X.env)).any (·.1) = false := by rfl) :
 cO X T W (.Call (.Attribute (.Name x px) "extend" apos) [e] [] cpos) (Vf i m) := fun B w σ H fr h Q R p => by
 have hh : ∃ v, σ[i]? = some (some v) := by
  cases e1 : fr[i]? with
  | none =>
    have q : mO i wj fr h = .err := by unfold mO; rw [e1]
    have p' : bu X.K T B W (vV X.K T B σ) w σ ((mO i wj).bind _ fr h) Q := p
    rw [M.bind_err q] at p'
    exact p'.elim
  | some o =>
    cases o with
    | none =>
      have q : mO i wj fr h = .err := by unfold mO; rw [e1]
      have p' : bu X.K T B W (vV X.K T B σ) w σ ((mO i wj).bind _ fr h) Q := p
      rw [M.bind_err q] at p'
      exact p'.elim
    | some d =>
      obtain ⟨v, e2, _⟩ := vm R e1
      exact ⟨v, e2⟩
 obtain ⟨v, ev⟩ := hh
 obtain ⟨fr1, h1, z1, p1⟩ := Og (VR := vV X.K T B σ) R ev p
 have R1 := Ud z1
 refine uP (pe_bm PySem.F.plainAttrs_list PySem.F.slot_list_extend PySem.F.type_list_extend mt_extend (pe_var hN hv hd hcd) (pa_cons mZ pa_nil hs) hbase hfew hline hs hplain) ⟨v, ev, Yz z1, s B w σ H fr1 h1 _ R1 (bu.bind (VR := vV X.K T B σ) p1 fun d fr2 h2 w2 H2 y e2 l2 r2 ry p2 => ?_)⟩
 obtain ⟨fr3, h3, z3, p3⟩ := Og (VR := vV X.K T B σ) r2 ev p2
 exact afi r2 z3 ry fun H' R' => p3 w2 H' .non (Wd.le_refl _) R' .non
end
def zB (i : Nat) (f : Hh → D → D → Option Bool) (m mt : M D) (b : M Fl) : Nat → M Fl
 | 0 => fun _ _ => .err
 | n + 1 => m.bind fun d fr h => (mt.bind fun t fr h => match f h d t with
   | some true => (match b fr h with
     | .ok .nx fr h => zB i f m mt b n fr h
     | .ok .ct fr h => zB i f m mt b n fr h
     | .ok .brk fr h => .ok .nx fr h
     | .ok (.rt d) fr h => .ok (.rt d) fr h
     | .exc x fr h => .exc x fr h
     | .err => .err)
   | some false => .ok .nx fr h
   | none => .err) (fr.set i (some d)) h
section
variable {X : Cx} {T : Tb} {W : WX} {k : Nat} {pos px npos cpos : Pos} {e t : Expr} {m mt : M D} {body : List Stmt} {b : M Fl} {x : Str}
theorem adC {op : CmpOp} {f : Hh → D → D → Option Bool} (C : Cq X T W k) (n i : Nat) (ho : Cz X T vO op f) (s : cO X T W e m) (st : cO X T W t mt) (sb : GZ X T W body b) (hN : X.N[i]? = some x := by rfl) (hx : Loc X.env.scope x := by first | exact Or.inl rfl | exact Or.inr rfl)
 (hf : X.fn x = true ∨ X.env.scope.names.lookup x = some .local := by first | exact .inl rfl | exact .inr rfl) (hm : behindInMarks op t = false := by first | exact nobehind _ (by decide) (by decide) | rfl) :
 Bc X T W (.While (.Compare (.NamedExpr (.Name x px) e npos) [op] [t] cpos) body [] pos) (zB i f m mt b n) := fun B w σ H fr h D R p =>
 Ak (ps_whileW C.po (ptw_cmp Jm (pew_named C.nd hN hx (pew_of mZ) hf) mZ hm) Dj pss_nil)
  ⟨fun q σ H => ∃ w' fr' h', w.le w' ∧ Rel X.K T B w' σ H fr' h' ∧ tW X.K T B W w' (zB i f m mt b q fr' h') D, ⟨n, w, fr, h, Wd.le_refl _, R, p⟩, fun q σ2 H2 ⟨w2, fr2, h2, l2, r2, p2⟩ => by
  cases q with
  | zero => exact (show False from p2).elim
  | succ q =>
    unfold zB at p2
    refine s B w2 σ2 H2 fr2 h2 _ r2 (tW.bind (VR := vV X.K T B σ2) p2 fun d fr3 h3 w3 H3 v e3 l3 r3 rd p3 => ?_)
    have r4 := r3.putV i rd
    refine st B w3 (σ2.set i (some v)) H3 (fr3.set i (some d)) h3 _ r4 (tW.bind (VR := vV X.K T B (σ2.set i (some v))) p3 fun d' fr5 h5 w5 H5 v' e5 l5 r5 rd' p5 => ?_)
    cases ef : f h5 d d' with
    | none => rw [ef] at p5; exact (show False from p5).elim
    | some c =>
      rw [ef] at p5
      refine ho B w5 _ H5 fr5 h5 v v' d d' c _ r5 (rd.mono l5) (.inl rd') ef ⟨c, rfl, ?_⟩
      cases c with
      | false => exact p5 w5 _ H5 (Wd.le_refl _) r5
      | true =>
        rw [if_pos rfl]
        refine ⟨fun σ' H' => ∃ w' fr' h', w.le w' ∧ Rel X.K T B w' σ' H' fr' h' ∧ tW X.K T B W w' (zB i f m mt b q fr' h') D, fun σ' H' z => ⟨q, Nat.lt_succ_self q, z⟩, ?_⟩
        refine sb B w5 _ H5 fr5 h5 _ r5 ?_
        dsimp only at p5
        have l25 : w2.le w5 := Wd.le_trans l3 l5
        cases e6 : b fr5 h5 with
        | ok fl fr6 h6 =>
          rw [e6] at p5
          cases fl with
          | nx => exact fun w7 σ7 H7 l7 r7 => ⟨w7, fr6, h6, Wd.le_trans l2 (Wd.le_trans l25 l7), r7, tW.le l7 p5⟩
          | ct => exact fun w7 σ7 H7 l7 r7 => ⟨w7, fr6, h6, Wd.le_trans l2 (Wd.le_trans l25 l7), r7, tW.le l7 p5⟩
          | brk => exact fun w7 σ7 H7 l7 r7 => p5 w7 σ7 H7 l7 r7
          | rt d => exact fun w7 σ7 H7 v l7 r7 rv => p5 w7 σ7 H7 v l7 r7 rv
        | exc y fr6 h6 =>
          rw [e6] at p5
          exact fun w7 σ7 H7 cc dd l7 r7 z => p5 w7 σ7 H7 cc dd l7 r7 z
        | err => rw [e6] at p5; exact p5⟩
end
end Pk
namespace Pk
open PySem PySem.Spec L2
section
variable {P : Program} {w : World} {K : PySem.W.Frag} {mg : Str → Option Value} {base : Heap} {T : Tb} {k : Nat} {x qual : Str} {params : Arguments} {body : List Stmt} {scope : Scope} {dvs : List V} {kws : List (Str × V)} {f : Addr} {fd : FuncData} {N ps : List Str} {p0 pv : Str}
theorem adD (S : FnScope N ps scope) {m : M Fl} (dm : Does P w K mg base T k N qual scope body m) (cdv : Value) (A : Around) (outer : List Env) (s : Shared) (H : Hp) (vs : List V) (Q : VK) (E : XK)
 (hr : Room k (A.deeper (PyProof.Rows.envOfC qual scope s.heap.objs.size f cdv))) (sp : spF K T ps.length (tR N.length m) vs H Q E) :
 ∃ t, PSs (Cxd P w K mg base N qual scope f cdv A outer s H E) body t ∧ t { nx := fun _ H' => Q .non H', rt := Q } (L2.start N vs) H := by
 obtain ⟨w, h, ds, R, rs, hl, post⟩ := sp
 refine ⟨Yh _ body, Dj, ?_⟩
 have hpl : ps.length ≤ N.length := by
  have := congrArg List.length S.pre
  rw [List.length_take] at this
  omega
 refine dm f cdv A outer s H E (abl S hr) (Bs.of w H) w _ H (startF N.length ds) h _ (R.start rs (by rw [hl]; exact hpl)) ?_
 unfold tR at post
 cases e : m (startF N.length ds) h with
 | ok fl fr h' =>
   rw [e] at post
   cases fl with
   | nx => exact fun w' σ' H' l R' => post w' H' .non l R'.unframe (.inl .non)
   | rt d => exact fun w' σ' H' v l R' rv => post w' H' v l R'.unframe (by
    rcases rv with rv | ⟨p, o, rfl, O, lo, eH, rd⟩
    · exact .inl rv
    · exact .inr ⟨p, o, rfl, O, fun i => Qc, eH, rd⟩)
   | brk => exact post.elim
   | ct => exact post.elim
 | exc y fr h' =>
   rw [e] at post
   exact fun w' σ' H' c dd l R' z => post w' H' c dd l R'.unframe z
 | err => rw [e] at post; exact post
end
def spM (K : PySem.W.Frag) (T : Tb) (F : Fn) : Sp := fun vs H Q E => ∃ ws rest, vs = ws ++ rest ∧ ws.length = 1 ∧ rest.length ≤ sizeLine ∧ ∀ p, H p = Option.none → spF K T 2 F (ws ++ [V.ref p]) (upd H p (.tup rest)) Q E
structure Zv (P : Program) (w : World) (K : PySem.W.Frag) (mg : Str → Option Value) (base : Heap) (T : Tb) (k : Nat) (f : Addr) (F : Fn) : Prop where
 run : FnR P w K mg base (L2.CX P w) k f (spM K T F)
section
variable {P : Program} {w : World} {K : PySem.W.Frag} {mg : Str → Option Value} {base : Heap} {T : Tb} {k : Nat} {x qual : Str} {params : Arguments} {body : List Stmt} {scope : Scope} {f : Addr} {fd : FuncData} {N : List Str} {p0 pv : Str}
theorem afk (F : FunD K x qual params body scope [] [] f fd) (S : FnScope N ([p0] ++ [pv]) scope) {m : M Fl} (dm : Does P w K mg base T k N qual scope body m)
 (h0 : ∀ (kV doc pm : Value) (an : Option Addr) (cdv ct a : Value), bindArgs (PySem.W.fnOf x qual params body scope .none kV doc pm an cdv ct) ⟨[a], []⟩ = (newTuple [] >>= fun t => pure [(p0, a), (pv, t)]))
 (h1 : ∀ (kV doc pm : Value) (an : Option Addr) (cdv ct a r : Value) (rs : List Value), bindArgs (PySem.W.fnOf x qual params body scope .none kV doc pm an cdv ct) ⟨a :: r :: rs, []⟩ = (newTuple (r :: rs) >>= fun t => pure [(p0, a), (pv, t)])) :
 Zv P w K mg base T (k + 1) f (tR N.length m) := by
 obtain ⟨oc, od, dV, kV, doc, pm, an, cdv, ct, osl, rfl, lk, hcd, hD, hK⟩ := F.ex
 have edV : dV = .none := by
  rcases hD with ⟨_, e⟩ | ⟨e, _⟩
  · exact e
  · exact absurd rfl e
 subst edV
 exact ⟨StX.fn_star (ps := [p0]) (pv := pv) lk hcd S StX.cxUp (StX.bind_star1 (B := fun us => bindArgs _ ⟨us, []⟩) (h0 kV doc pm an cdv ct) (h1 kV doc pm an cdv ct))
  fun A outer s H vs Q E hr sp => adD S dm cdv A outer s H vs Q E hr sp⟩
end
def rO (mt : Nat → Option Fn) (mo : M D) (ma : M (List D)) : M D := mo.bind fun o fr h => match fnOf mt h o with
 | some F => (ma.bind fun ds fr h => if ds.length ≤ big then vD fr (F [o, .tup ds] h) else .err) fr h
 | none => .err
def Ah (m : M D) (ma : M (List D)) : M (List D) := m.bind fun d fr h => match d.its h with
 | some l => (ma.bind fun r => M.ret (l ++ r)) fr h
 | none => .err
def Mi (m : M D) (ma : M (List D)) : M (List D) := m.bind fun d => ma.bind fun r => M.ret (d :: r)
structure QJ (X : Cx) (T : Tb) (k : Nat) (m : Str) (mt : Nat → Option Fn) : Prop where
 ex : ∀ c F, mt c = some F → ∃ (kk : Nat) (f : Addr), Cls X.K (T.cad c) ∧ BMeth X.K (T.cad c) m f ∧ Zv X.prog X.w X.K X.mg X.base T kk f F ∧ m ∉ T.fld c ∧ kk ≤ k
section
variable {X : Cx} {T : Tb} {W : WX} {k kk : Nat} {f : Addr} {F : Fn} {m : Str} {p sp_ pos apos : Pos} {e o : Expr} {es : List Expr} {mo me : M D} {ma : M (List D)} {mt : Nat → Option Fn}
theorem Wr {sp : Sp} {pins : List (Addr × Obj)} {σ : L2.St} {H : Hp} {s : Shared} {Q : VK} {us : List Value} {vs : List V} (F0 : FnR X.prog X.w X.K X.mg X.base (L2.CX X.prog X.w) kk f sp) (hr : Room kk X.A) (tk : Takes X W)
 (I : Inv X pins σ H s) (r : Vals vs us) (h : sp vs H Q (fun c d H' => W c d σ H')) :
 codeAny (model X.prog X.w) X.A (.call (.ref f) ⟨us, []⟩) (fun r s' => match r with | .ok (.ret v) => EP X pins σ Q v s' | .ok _ => False | .error e => X.xe e s') s := by
 refine codeAny_mono (F0 X.A X.stack s H us vs Q _ hr I.env0 r h) fun r s' hq => ?_
 cases r with
 | error e => exact passAt tk σ pins _ _ e s' I hq
 | ok fl =>
   cases fl with
   | ret u => exact I.after hq
   | next => exact False.elim hq
   | brk => exact False.elim hq
   | cont => exact False.elim hq
theorem QK {B : Bs} {w : Wd} {σ : L2.St} {H : Hp} {fr : Fr} {h : Hh} {v : V} {d : D} {vs : List V} {ds : List D} {Q : VK} (R : Rel X.K T B w σ H fr h) (rv : rC X.K T w v d) (rs : aO X.K T w vs ds) (hb : ds.length ≤ big)
 (pp : bu X.K T B W (vE X.K T B σ) w σ (vD fr (F [d, .tup ds] h)) Q) : spM X.K T F (v :: vs) H Q (fun c d H' => W c d σ H') := by
 refine ⟨[v], vs, rfl, rfl, by rw [rs.length]; exact xN hb, fun p np => ?_⟩
 have R1 := R.laid (o := .tup vs) np
 have le := Wd.le_add (p := p) (o := .tup vs) (R.nP np).1
 exact RL R1 (ds := [d, .tup ds]) (.cons (rv.mono le) (.cons (.tup (.inl (.inl (by show upd w.F p _ p = _; rw [upd_same]))) (rs.mono le)) .nil)) rfl (pp.le le)
theorem Oz {B : Bs} {w : Wd} {σ : L2.St} {H : Hp} {fr : Fr} {h : Hh} {v : V} {d : D} {G : Fn} (M : QJ X T k m mt) (R : Rel X.K T B w σ H fr h) (rv : rC X.K T w v d) (e : fnOf mt h d = some G) :
 ∃ (kk : Nat) (f : Addr) (a C dx : Addr) (fs : List (Str × V)), v = .ref a ∧ H a = some (.ins C dx fs) ∧ fs.lookup m = none ∧ Cls X.K C ∧ BMeth X.K C m f ∧ Zv X.prog X.w X.K X.mg X.base T kk f G ∧ kk ≤ k := by
 unfold fnOf at e
 split at e
 · rename_i c fs ei
   obtain ⟨kk, f, c1, c2, c3, c4, c5⟩ := M.ex c G e
   obtain ⟨a, dx, vs, rfl, eH, rs⟩ := HQ R (.inl rv) ei
   exact ⟨kk, f, a, T.cad c, dx, _, rfl, eH, G3 c4, c1, c2, c3, c5⟩
 · cases e
theorem v5 {pl : Sem Bool} (C : Cq X T W k) (Mf : QJ X T k m mt) (so : cO X T W o mo) (sa : CP X T W (e :: es) ma)
 (hst : starEach (e :: es) X.env = (false, eval e X.env) :: starEach es X.env := by exact uG rfl) (hpl : (backTo pos (starEach es X.env)).any (·.1) = false := by rfl)
 (ht : eval (.Call (.Attribute o m apos) (e :: es) [] pos) X.env = (do
  let ov ← eval o X.env
  standAt apos.atName
  let (f, first) ← holding [ov] (getMethod ov m pl)
  callWith pos f first (backTo pos (starEach (e :: es) X.env)) (backToKw pos (keywordEach [] X.env))) := by rfl) :
 zQ X T W (.Call (.Attribute o m apos) (e :: es) [] pos) (rO mt mo ma) := fun B w σ H fr h Q R pp => WE.mk <| fun pins s I => by
 refine PySem.W.methodCall_KW (pl := pl) (thn ((so B w σ H fr h (fun v H1 => ∃ (kk : Nat) (f : Addr) (a C dx : Addr) (fs : List (Str × V)) (G : Fn), v = .ref a ∧ H1 a = some (.ins C dx fs) ∧ fs.lookup m = none ∧ Cls X.K C ∧ BMeth X.K C m f ∧ Zv X.prog X.w X.K X.mg X.base T kk f G ∧ kk ≤ k ∧
  WA X (e :: es) σ H1 fun vs H2 => spM X.K T G (.ref a :: vs) H2 Q (fun c d H' => W c d σ H')) R (bu.bind (VR := vV X.K T B σ) pp fun d fr1 h1 w1 H1 v e1 l1 r1 rv p1 => ?_)).go pins s I) fun u s1 ⟨x, H1, I1, rx, kk, f, a, Cl, dx, fs, G, ex, ea, l, c1, c2, c3, c5, q⟩ => ?_) ht
 · have p1' : bu X.K T B W (vE X.K T B σ) w1 σ (match fnOf mt h1 d with | some F => (ma.bind fun ds fr h => if ds.length ≤ big then vD fr (F [d, .tup ds] h) else .err) fr1 h1 | none => .err) Q := p1
   cases ef : fnOf mt h1 d with
   | none => rw [ef] at p1'; exact p1'.elim
   | some G =>
     rw [ef] at p1'
     obtain ⟨kk, f, a, Cl, dx, fs, rfl, eH, l, c1, c2, c3, c5⟩ := Oz Mf r1 rv ef
     refine ⟨kk, f, a, Cl, dx, fs, G, rfl, eH, l, c1, c2, c3, c5, sa B w1 σ H1 fr1 h1 _ r1 (bu.bind (VR := vA X.K T B σ) p1' fun ds fr2 h2 w2 H2 vs e2 l2 r2 rs p3 => ?_)⟩
     by_cases hb : ds.length ≤ big
     · rw [if_pos hb] at p3
       exact QK r2 (rv.mono l2) rs hb p3
     · rw [if_neg hb] at p3
       exact p3.elim
 · subst ex
   obtain rfl : u = Value.ref a := rx
   refine getmeth_ok I1 ea c1 c2.mt l ?_
   exact PySem.W.callWith_K (first := [.ref a]) (h₀ := X.base) I.ok.mod.kin c2.mt.kp (thn (q.go pos pins s1 I1) fun us s2 ⟨vs, H2, I2, r, q2⟩ => ⟨I2.kIn, wpAny_call (Wr (us := .ref a :: us) (vs := .ref a :: vs) c3.run (C.room.mono c5) C.takes I2 (.cons rfl r) q2)⟩) hst hpl
theorem afl (s : cO X T W e me) (t : CP X T W es ma) (hs : starEach (.Starred e p :: es) X.env = (true, eval e X.env) :: starEach es X.env := by rfl) : CP X T W (.Starred e p :: es) (Ah me ma) := fun B w σ H fr h Q R pp =>
 Rx (StX.pa_star mZ Ko hs) (s B w σ H fr h _ R (bu.bind (VR := vV X.K T B σ) pp fun d fr1 h1 w1 H1 v e1 l1 r1 rv p1 => by
  cases q : d.its h1 with
  | none => rw [q] at p1; exact p1.elim
  | some l =>
    rw [q] at p1
    obtain ⟨a, vs, rfl, rs, sq⟩ := Hw r1 (.inl rv) q
    exact ⟨a, vs, rfl, sq.symm, t B w1 σ H1 fr1 h1 _ r1 (bu.bind (VR := vA X.K T B σ) p1 fun ds fr2 h2 w2 H2 us e2 l2 r2 ru p2 => p2 w2 H2 _ (Wd.le_refl _) r2 ((rs.mono l2).append ru))⟩))
theorem Zw (s : cO X T W e me) (t : CP X T W es ma) (hs : starEach (e :: es) X.env = (false, eval e X.env) :: starEach es X.env := by exact uG rfl) : CP X T W (e :: es) (Mi me ma) := fun B w σ H fr h Q R pp =>
 Rx (pa_cons mZ Ko hs) (s B w σ H fr h _ R (bu.bind (VR := vV X.K T B σ) pp fun d fr1 h1 w1 H1 v e1 l1 r1 rv p1 =>
  t B w1 σ H1 fr1 h1 _ r1 (bu.bind (VR := vA X.K T B σ) p1 fun ds fr2 h2 w2 H2 us e2 l2 r2 ru p2 => p2 w2 H2 _ (Wd.le_refl _) r2 (.cons (rv.mono l2) ru))))
theorem adE {B : Bs} {w1 : Wd} {σ : L2.St} {H1 : Hp} {fr1 : Fr} {h1 : Hh} {a g q : Addr} {d : D} {G : Fn} {Q : VK} (r1 : Rel X.K T B w1 σ H1 fr1 h1) (rv : rC X.K T w1 (.ref a) d) (nq : H1 q = none) (sa : CP X T W es ma)
 (p1 : bu X.K T B W (vE X.K T B σ) w1 σ ((ma.bind fun ds fr h => if ds.length ≤ big then vD fr (G [d, .tup ds] h) else .err) fr1 h1) Q) :
 WA X es σ (upd H1 q (.met g a)) fun vs H2 => H2 q = some (.met g a) ∧ spM X.K T G (.ref a :: vs) H2 Q (fun c d H' => W c d σ H') := by
 have O : Own B w1 q := r1.own_new nq
 have r2 : Rel X.K T (B.pr q (.met g a)) w1 σ (upd H1 q (.met g a)) fr1 h1 := (r1.temp (o := .met g a) nq).protect O (r1.loose_new nq) upd_same
 refine sa (B.pr q (.met g a)) w1 σ _ fr1 h1 _ r2 ?_
 cases e : ma fr1 h1 with
 | ok ds fr2 h2 =>
   rw [M.bind_ok e] at p1
   intro w2 H2 vs l2 r3 rs
   obtain ⟨r4, O4, lo4, eq⟩ := r3.unprotect O.e O.p
   by_cases hb : ds.length ≤ big
   · rw [if_pos hb] at p1
     exact ⟨eq, QK r4 (rv.mono l2) rs hb (p1.le l2)⟩
   · rw [if_neg hb] at p1
     exact p1.elim
 | exc y fr2 h2 =>
   rw [M.bind_exc e] at p1
   exact fun w' H' c dd l R' z => p1 w' H' c dd l (R'.unprotect O.e O.p).1 z
 | err =>
   rw [M.bind_err e] at p1
   exact p1.elim
theorem Zx {M : Model} {A : Around} {E : Value → Shared → Prop} {s : Shared} {env : Env} {Q : Value → Shared → Prop} (hbase : attributeBase o m env (eval o env) = eval o env)
 (hform : methodCallForm (es.length + ([] : List Keyword).length) (backTo pos (starEach es env)) [] = false) (hpos : methodCallPos false o env apos pos = pure pos)
 (h : wpAny M A (eval o env) (fun ov s₁ => wpAny M A (getAttr ov m true) (fun f s₂ => wpAny M A (callWith pos f [] (backTo pos (starEach es env)) []) Q E s₂) E s₁) E s) :
 wpAny M A (eval (.Call (.Attribute o m apos) es [] pos) env) Q E s := by
 have hke : backToKw pos (keywordEach [] env) = [] := rfl
 have hcal : ∀ ov, calleeOf false o env ov m = (getAttr ov m true >>= fun v => pure (v, [])) := fun _ => rfl
 rw [arm_eval_Call, hbase, hke]
 refine wpAny_bind (wpAny_mono h (fun ov s₁ h₁ => ?_) fun _ _ x => x)
 refine wpAny_bind (wpAny_standAt ?_)
 unfold methodCall
 rw [hform, hpos, hcal]
 refine wpAny_bind (wpAny_holding (wpAny_bind (wpAny_mono h₁ (fun f s₂ h₂ => wpAny_pure ?_) fun _ _ x => x)))
 exact wpAny_bind (wpAny_pure h₂)
theorem adF (C : Cq X T W k) (Mf : QJ X T k m mt) (so : cO X T W o mo) (sa : CP X T W (e :: es) ma) (hbase : attributeBase o m X.env (eval o X.env) = eval o X.env := by rfl)
 (hst : starEach (e :: es) X.env = (false, eval e X.env) :: starEach es X.env := by exact uG rfl) (hany : (backTo pos (starEach (e :: es) X.env)).any (·.1) = true := by rfl)
 (hform : methodCallForm ((e :: es).length + ([] : List Keyword).length) (backTo pos (starEach (e :: es) X.env)) [] = false := by rfl) (hpos : methodCallPos false o X.env apos pos = pure pos := by rfl) :
 zQ X T W (.Call (.Attribute o m apos) (e :: es) [] pos) (rO mt mo ma) := fun B w σ H fr h Q R pp => WE.mk <| fun pins s I => by
 refine Zx hbase hform hpos (thn ((so B w σ H fr h (fun v H1 => ∃ (kk : Nat) (f : Addr) (a C dx : Addr) (fs : List (Str × V)) (G : Fn), v = .ref a ∧ H1 a = some (.ins C dx fs) ∧ fs.lookup m = none ∧ Cls X.K C ∧ BMeth X.K C m f ∧ Zv X.prog X.w X.K X.mg X.base T kk f G ∧ kk ≤ k ∧
  ∀ q, H1 q = none → WA X (e :: es) σ (upd H1 q (.met f a)) fun vs H2 => H2 q = some (.met f a) ∧ spM X.K T G (.ref a :: vs) H2 Q (fun c d H' => W c d σ H')) R (bu.bind (VR := vV X.K T B σ) pp fun d fr1 h1 w1 H1 v e1 l1 r1 rv p1 => ?_)).go pins s I) fun u s1 ⟨x, H1, I1, rx, kk, f, a, Cl, dx, fs, G, ex, ea, l, c1, c2, c3, c5, q⟩ => ?_)
 · have p1' : bu X.K T B W (vE X.K T B σ) w1 σ (match fnOf mt h1 d with | some F => (ma.bind fun ds fr h => if ds.length ≤ big then vD fr (F [d, .tup ds] h) else .err) fr1 h1 | none => .err) Q := p1
   cases ef : fnOf mt h1 d with
   | none => rw [ef] at p1'; exact p1'.elim
   | some G =>
     rw [ef] at p1'
     obtain ⟨kk, f, a, Cl, dx, fs, rfl, eH, l, c1, c2, c3, c5⟩ := Oz Mf r1 rv ef
     exact ⟨kk, f, a, Cl, dx, fs, G, rfl, eH, l, c1, c2, c3, c5, fun q nq => adE r1 rv nq sa p1'⟩
 · subst ex
   obtain rfl : u = Value.ref a := rx
   refine getbound_ok I1 ea c1 c2 l fun q1 s2 hq1 I2 => ?_
   rw [hst]
   refine PySem.W.ks_call (P := PySem.W.MethP X.K q1 f (.ref a)) (by rw [← hst]; exact hany) (PySem.W.keeps_M c2.fi) (Calls.evalArgs_plain ?_)
   have z := (q q1 hq1).go pos pins s2 I2
   rw [hst] at z
   refine thn z fun us s3 ⟨vs, H2, I3, rv, hm, hsp⟩ => ⟨met_P I3 hm, ?_⟩
   exact wpAny_call (PySem.W.method_call (met_P I3 hm).1 (Wr (us := Value.ref a :: us) (vs := V.ref a :: vs) c3.run (C.room.mono c5) C.takes I3 (.cons rfl rv) hsp))
theorem Zy (C : Cq X T W k) (Mf : QJ X T k m mt) (so : cO X T W o mo) (s1 : cO X T W e me) (hbase : attributeBase o m X.env (eval o X.env) = eval o X.env := by rfl) :
 zQ X T W (.Call (.Attribute o m apos) [.Starred e p] [] pos) (rO mt mo (Ah me (aj []))) := fun B w σ H fr h Q R pp => WE.mk <| fun pins s I => by
 refine starcall_of hbase (thn ((so B w σ H fr h (fun v H1 => ∃ (kk : Nat) (f : Addr) (a C dx : Addr) (fs : List (Str × V)) (G : Fn), v = .ref a ∧ H1 a = some (.ins C dx fs) ∧ fs.lookup m = none ∧ Cls X.K C ∧ BMeth X.K C m f ∧ Zv X.prog X.w X.K X.mg X.base T kk f G ∧ kk ≤ k ∧
  ∀ q, H1 q = none → WE X e σ (upd H1 q (.met f a)) fun y H2 => ∃ b vs, y = .ref b ∧ (SqT X.K H2 b vs ∨ SqL X.K H2 b vs) ∧ H2 q = some (.met f a) ∧ spM X.K T G (.ref a :: vs) H2 Q (fun c d H' => W c d σ H')) R (bu.bind (VR := vV X.K T B σ) pp fun d fr1 h1 w1 H1 v e1 l1 r1 rv p1 => ?_)).go pins s I) fun u s1 ⟨x, H1, I1, rx, kk, f, a, Cl, dx, fs, G, ex, ea, l, c1, c2, c3, c5, q⟩ => ?_)
 · have p1' : bu X.K T B W (vE X.K T B σ) w1 σ (match fnOf mt h1 d with | some F => ((Ah me (aj [])).bind fun ds fr h => if ds.length ≤ big then vD fr (F [d, .tup ds] h) else .err) fr1 h1 | none => .err) Q := p1
   cases ef : fnOf mt h1 d with
   | none => rw [ef] at p1'; exact p1'.elim
   | some G =>
     rw [ef] at p1'
     replace p1' : bu X.K T B W (vE X.K T B σ) w1 σ ((Ah me (aj [])).bind (fun ds fr h => if ds.length ≤ big then vD fr (G [d, .tup ds] h) else .err) fr1 h1) Q := p1'
     obtain ⟨kk, f, a, Cl, dx, fs, rfl, eH, l, c1, c2, c3, c5⟩ := Oz Mf r1 rv ef
     refine ⟨kk, f, a, Cl, dx, fs, G, rfl, eH, l, c1, c2, c3, c5, fun q nq => ?_⟩
     have O : Own B w1 q := r1.own_new nq
     have r2 : Rel X.K T (B.pr q (.met f a)) w1 σ (upd H1 q (.met f a)) fr1 h1 := (r1.temp (o := .met f a) nq).protect O (r1.loose_new nq) upd_same
     refine s1 (B.pr q (.met f a)) w1 σ _ fr1 h1 _ r2 ?_
     cases e2 : me fr1 h1 with
     | ok d2 fr2 h2 =>
       intro w2 H2 y l2 r3 ry
       obtain ⟨r4, O4, lo4, eq⟩ := r3.unprotect O.e O.p
       cases e3 : d2.its h2 with
       | none =>
         exfalso
         have e4 : Ah me (aj []) fr1 h1 = .err := by
          unfold Ah
          rw [M.bind_ok e2, e3]
         rw [M.bind_err e4] at p1'
         exact p1'
       | some ds =>
         have e4 : Ah me (aj []) fr1 h1 = .ok ds fr2 h2 := by
          unfold Ah
          rw [M.bind_ok e2, e3]
          show Pk.R.ok (ds ++ []) fr2 h2 = _
          rw [aiV]
         rw [M.bind_ok e4] at p1'
         obtain ⟨b, vs, rfl, rs, sq⟩ := Hw r3 (.inl ry) e3
         by_cases hb : ds.length ≤ big
         · rw [if_pos hb] at p1'
           exact ⟨b, vs, rfl, sq.symm, eq, QK r4 (rv.mono l2) rs hb (p1'.le l2)⟩
         · rw [if_neg hb] at p1'
           exact p1'.elim
     | exc y fr2 h2 =>
       have e4 : Ah me (aj []) fr1 h1 = .exc y fr2 h2 := by
        unfold Ah
        rw [M.bind_exc e2]
       rw [M.bind_exc e4] at p1'
       exact fun w' H' c dd l R' z => p1' w' H' c dd l (R'.unprotect O.e O.p).1 z
     | err =>
       have e4 : Ah me (aj []) fr1 h1 = .err := by
        unfold Ah
        rw [M.bind_err e2]
       rw [M.bind_err e4] at p1'
       exact p1'.elim
 · subst ex
   obtain rfl : u = Value.ref a := rx
   refine getbound_ok I1 ea c1 c2 l fun q1 s2 hq1 I2 => ?_
   refine PySem.W.ks_call (P := PySem.W.MethP X.K q1 f (.ref a)) rfl (PySem.W.keeps_M c2.fi) (PySem.W.ks_lone ?_)
   refine thn ((q q1 hq1).go pins s2 I2) fun v s3 ⟨y, H2, I3, ry, t, vs, ey, ht, hm, hsp⟩ => ?_
   subst ey
   obtain rfl : v = Value.ref t := ry
   refine StX.star_any I3 ht fun us s4 I4 rv => ⟨met_P I4 hm, ?_⟩
   exact wpAny_call (PySem.W.method_call (met_P I4 hm).1 (Wr (us := Value.ref a :: us) (vs := V.ref a :: vs) c3.run (C.room.mono c5) C.takes I4 (.cons rfl rv) hsp))
end
theorem agB {K : PySem.W.Frag} {C : Addr} {m : Str} (h : bmX K C m = true) (hm : L2.Meth K C m (He.ma K C m)) : BMeth K C m (He.ma K C m) := by
 obtain ⟨c1, h⟩ := He.ba h
 obtain ⟨c2, h⟩ := He.ba h
 obtain ⟨c3, c4⟩ := He.ba h
 exact ⟨hm, He.eqO_ok c1, of_decide_eq_true c2, of_decide_eq_true c3, c4⟩
end Pk
namespace Pk
open PySem PySem.Spec L2
def Wq {α : Type} (r : R α) (Q : α → Fr → Hh → Prop) (E : bh → Fr → Hh → Prop) : Prop := match r with
 | .ok a fr h => Q a fr h
 | .exc x fr h => E x fr h
 | .err => False
def uR (d : D) : Option (List D) := match d with
 | .int j => if Tw j then some (Kv 0 j.toNat) else none
 | _ => none
def u6 (x y : D) : Option (List D) := match x, y with
 | .int i, .int j => if Tw i && Tw j then some (Kv i (j - i).toNat) else none
 | _, _ => none
def wR (_ : bh) (_ : Fr) (_ : Hh) : Prop := False
def Oq {α : Type} (o : Option α) (K : α → Prop) : Prop := match o with
 | some a => K a
 | none => False
def Sq (s : Option (Option D)) (K : D → Prop) : Prop := match s with
 | some (some d) => K d
 | _ => False
def Hg (b : Bool) (A B : Prop) : Prop := if b then A else B
def Bq (fr : Fr) (K : Fr → Prop) : Prop := K fr
def Fq (f : Fl) (A B : Prop) : Prop := match f with
 | .nx => A
 | _ => B
def Rq (f : Fl) (K : D → Prop) : Prop := match f with
 | .rt d => K d
 | .nx => K .non
 | _ => False
section
variable {α β : Type} {Q : α → Fr → Hh → Prop} {E : bh → Fr → Hh → Prop} {fr : Fr} {h : Hh}
theorem wG {a : α} : Wq (.ok a fr h) Q E = Q a fr h := by unfold Wq; rfl
theorem Ik {x : bh} : Wq (.exc x fr h : R α) Q E = E x fr h := by unfold Wq; rfl
theorem bj : Wq (.err : R α) Q E = False := by unfold Wq; rfl
theorem rH {a : α} {K : α → Prop} : Oq (some a) K = K a := by unfold Oq; rfl
theorem rK {K : α → Prop} : Oq none K = False := by unfold Oq; rfl
theorem R7 {o : Option α} {f : α → β} {K : β → Prop} : Oq (o.map f) K = Oq o fun a => K (f a) := by cases o <;> (unfold Oq; rfl)
theorem R8 {c : Prop} [Decidable c] {a : α} {K : α → Prop} : Oq (if c then some a else none) K = (c ∧ K a) := by
 by_cases hc : c
 · rw [if_pos hc, rH]; simp [hc]
 · rw [if_neg hc, rK]; simp [hc]
theorem afm {c : Bool} {a : α} {K : α → Prop} : Oq (if c then some a else none) K = (c = true ∧ K a) := R8
theorem BK {d : D} {K : D → Prop} : Sq (some (some d)) K = K d := by unfold Sq; rfl
theorem K9 {K : D → Prop} : Sq (some none) K = False := by unfold Sq; rfl
theorem JT {A B : Prop} : Hg true A B = A := by unfold Hg; exact if_pos rfl
theorem JV {A B : Prop} : Hg false A B = B := by unfold Hg; exact if_neg (fun z => by cases z)
theorem adG {a : Option D} {l : Fr} {K : Fr → Prop} : Bq (a :: l) K = K (a :: l) := by unfold Bq; rfl
theorem afn {K : Fr → Prop} : Bq [] K = K [] := by unfold Bq; rfl
theorem Ws {A B : Prop} : Fq .nx A B = A := by unfold Fq; rfl
theorem aaR {A B : Prop} {d : D} : Fq (.rt d) A B = B := by unfold Fq; rfl
theorem Zz {A B : Prop} : Fq .brk A B = B := by unfold Fq; rfl
theorem aaS {A B : Prop} : Fq .ct A B = B := by unfold Fq; rfl
theorem afo {K : D → Prop} : Rq .nx K = K .non := by unfold Rq; rfl
theorem afp {K : D → Prop} {d : D} : Rq (.rt d) K = K d := by unfold Rq; rfl
theorem Wq.mono {r : R α} {Q Q' : α → Fr → Hh → Prop} {E : bh → Fr → Hh → Prop} (w : Wq r Q E) (hq : ∀ a fr h, Q a fr h → Q' a fr h) : Wq r Q' E := by
 cases r with
 | ok a fr h => exact hq _ _ _ w
 | exc x fr h => exact w
 | err => exact w
theorem Wq.ex {r : R α} {Q : α → Fr → Hh → Prop} (w : Wq r Q wR) : ∃ a fr h, r = .ok a fr h ∧ Q a fr h := by
 cases r with
 | ok a fr h => exact ⟨a, fr, h, rfl, w⟩
 | exc x fr h => exact w.elim
 | err => exact w.elim
theorem Wq.eq {a : α} {r : R α} {fr : Fr} {h : Hh} (w : Wq r (fun b fr1 h1 => b = a ∧ fr1 = fr ∧ h1 = h) wR) : r = .ok a fr h := by
 obtain ⟨b, fr1, h1, e, e1, e2, e3⟩ := w.ex
 rw [e, e1, e2, e3]
theorem Wq.of_eq {r : R α} {a : α} {fr : Fr} {h : Hh} (e : r = .ok a fr h) (q : Q a fr h) : Wq r Q E := by
 rw [e]; exact q
theorem tY {a : α} : Wq (M.ret a fr h) Q E = Q a fr h := by unfold M.ret; exact wG
theorem aA {m : M β} {f : β → M α} : Wq (M.bind m f fr h) Q E = Wq (m fr h) (fun a fr h => Wq (f a fr h) Q E) E := by
 unfold M.bind
 cases m fr h <;> (unfold Wq; rfl)
theorem sr {o : Option α} : Wq (M.opt o fr h) Q E = Oq o fun a => Q a fr h := by
 cases o <;> (unfold Wq Oq M.opt; rfl)
end
section
variable {α : Type} {Q : D → Fr → Hh → Prop} {P : Bool → Fr → Hh → Prop} {S : α → Fr → Hh → Prop} {U : Unit → Fr → Hh → Prop} {G : List D → Fr → Hh → Prop} {L : Fl → Fr → Hh → Prop} {I : Option Int → Fr → Hh → Prop} {E : bh → Fr → Hh → Prop} {fr : Fr} {h : Hh} {m ma mb mc : M D} {i : Nat}
theorem ahp {d : D} : Wq (mC d fr h) Q E = Q d fr h := tY
theorem agC : Wq (mJ m fr h) Q E = Wq (m fr h) (fun d fr h => Q d.fz fr h) E := by
 unfold mJ; rw [aA]; simp only [tY]
theorem afq : Wq (ak i fr h) Q E = Sq fr[i]? fun d => Hg d.own (Bq (fr.set i (some d.fz)) fun fr => Q d.fz fr h) (Q d fr h) := by
 unfold ak
 cases fr[i]? with
 | none => rfl
 | some o => cases o with
   | none => rfl
   | some d =>
     rw [BK]
     dsimp only
     cases d.own <;> rfl
theorem adH : Wq (za i fr h) Q E = Sq fr[i]? fun d => Bq (fr.set i none) fun fr => Q d fr h := by
 unfold za
 cases fr[i]? with
 | none => rfl
 | some o => cases o <;> rfl
theorem aaT : Wq (iz i fr h) Q E = Sq fr[i]? fun d => Q d fr h := by
 unfold iz
 cases fr[i]? with
 | none => rfl
 | some o => cases o <;> rfl
theorem Wt : Wq (yu i fr h) U E = Sq fr[i]? fun _ => U () fr h := by
 unfold yu
 cases fr[i]? with
 | none => rfl
 | some o => cases o <;> rfl
theorem agD {f : Hh → D → D → Option α} : Wq (bf f ma mb fr h) S E = Wq (ma fr h) (fun x fr h => Wq (mb fr h) (fun y fr h => Oq (f h x y) fun z => S z fr h) E) E := by
 unfold bf; simp only [aA, sr]
theorem agE {f : Hh → D → Option α} : Wq (mQ f ma fr h) S E = Wq (ma fr h) (fun x fr h => Oq (f h x) fun z => S z fr h) E := by
 unfold mQ; simp only [aA, sr]
theorem agF {t : M Bool} : Wq (mBl t fr h) Q E = Wq (t fr h) (fun b fr h => Q (.bl b) fr h) E := by
 unfold mBl; simp only [aA, tY]
theorem afr {t : M Bool} : Wq (Ku t fr h) P E = Wq (t fr h) (fun b fr h => P (!b) fr h) E := by
 unfold Ku; simp only [aA, tY]
theorem Il {β : Type} {b : Bool} {m n : M β} {Q : β → Fr → Hh → Prop} : Wq ((if b then m else n) fr h) Q E = Hg b (Wq (m fr h) Q E) (Wq (n fr h) Q E) := by
 cases b
 · rw [JV]; rfl
 · rw [JT]; rfl
theorem afs {t u : M Bool} : Wq (Mu t u fr h) P E = Wq (t fr h) (fun b fr h => Hg b (Wq (u fr h) P E) (P false fr h)) E := by
 unfold Mu; simp only [aA, Il, tY]
theorem agG {t u : M Bool} : Wq (O7 t u fr h) P E = Wq (t fr h) (fun b fr h => Hg b (P true fr h) (Wq (u fr h) P E)) E := by
 unfold O7; simp only [aA, Il, tY]
theorem adI : Wq (abb m fr h) Q E = Wq (m fr h) (fun d fr h => Oq d.tb fun b => Q (.bl (!b)) fr h) E := by
 unfold abb; simp only [aA, sr, R7]
theorem adJ {n : M D} : Wq (N8 m n fr h) Q E = Wq (m fr h) (fun d fr h => Oq d.tb fun b => Hg b (Wq (n fr h) Q E) (Q (.bl false) fr h)) E := by
 unfold N8; rw [aA]
 congr 1
 funext d fr h
 cases d.tb with
 | none => dsimp only; rw [sr, rK, rK]
 | some b =>
   rw [rH]
   cases b
   · rw [JV]; exact tY
   · rw [JT]
theorem aft {n : M D} : Wq (ac7 m n fr h) Q E = Wq (m fr h) (fun d fr h => Oq d.tb fun b => Hg b (Q (.bl true) fr h) (Wq (n fr h) Q E)) E := by
 unfold ac7; rw [aA]
 congr 1
 funext d fr h
 cases d.tb with
 | none => dsimp only; rw [sr, rK, rK]
 | some b =>
   rw [rH]
   cases b
   · rw [JV]
   · rw [JT]; exact tY
theorem acL {f g : Hh → D → D → Option Bool} : Wq (Nk f g ma mb mc fr h) P E = Wq (ma fr h) (fun x fr h => Wq (mb fr h) (fun y fr h => Oq (f h x y) fun b => Hg b (Wq (mc fr h) (fun z fr h => Oq (g h y z) fun c => P c fr h) E) (P false fr h)) E) E := by
 unfold Nk; simp only [aA]
 congr 1
 funext x fr h
 congr 1
 funext y fr h
 cases f h x y with
 | none => rw [rK]; exact bj
 | some b =>
   rw [rH]
   cases b
   · rw [JV]; exact wG
   · rw [JT]; dsimp only; simp only [aA, sr]
theorem agH {t : M Bool} {m n : M α} : Wq (BW t m n fr h) S E = Wq (t fr h) (fun b fr h => Hg b (Wq (m fr h) S E) (Wq (n fr h) S E)) E := by
 unfold BW; simp only [aA, Il]
theorem acM : Wq (aj [] fr h) G E = G [] fr h := tY
theorem acN {ms : List (M D)} : Wq (aj (m :: ms) fr h) G E = Wq (m fr h) (fun d fr h => Wq (aj ms fr h) (fun ds fr h => G (d :: ds) fr h) E) E := by
 rw [aj]; simp only [aA, tY]
theorem afu {ms : List (M D)} : Wq (oh ms fr h) Q E = Wq (aj ms fr h) (fun ds fr h => ds.length ≤ big ∧ Q (.tup ds) fr h) E := by
 unfold oh; simp only [aA, sr, R8]
theorem afv {ms : List (M D)} : Wq (vq ms fr h) Q E = Wq (aj ms fr h) (fun ds fr h => ds.length ≤ big ∧ Q (.nl ds) fr h) E := by
 unfold vq; simp only [aA, sr, R8]
theorem adK {β : Type} {m : M β} {f : Hh → D → β → Option D} : Wq (gH i m f fr h) Q E = Sq fr[i]? fun _ => Wq (m fr h) (fun y fr h => Sq fr[i]? fun d => Oq (f h d y) fun z => Q z fr h) E := by
 unfold gH; simp only [aA, Wt, aaT, sr]
theorem agI : Wq (mPn fr h) I E = I none fr h := tY
theorem agJ : Wq (UL m fr h) I E = Wq (m fr h) (fun d fr h => Oq (match d with | .int i => some i | _ => none) fun i => I (some i) fr h) E := by
 unfold UL; rw [aA]
 congr 1
 funext d fr h
 cases d <;> (rw [sr]; first | rw [rK, rK] | rw [rH, rH])
theorem adL {ml mh : M (Option Int)} {J : Option Int × Option Int → Fr → Hh → Prop} : Wq (Lw ml mh fr h) J E = Wq (ml fr h) (fun l fr h => Wq (mh fr h) (fun u fr h => J (l, u) fr h) E) E := by
 unfold Lw; simp only [aA, tY]
theorem afw {ml mh : M (Option Int)} : Wq (ac9 m ml mh fr h) Q E = Wq (m fr h) (fun d fr h => Wq (ml fr h) (fun l fr h => Wq (mh fr h) (fun u fr h => Oq (zR h d (l, u)) fun z => Q z fr h) E) E) E := by
 unfold ac9; simp only [aA, sr]
theorem agK : Wq (Jo m fr h) G E = Wq (m fr h) (fun d fr h => Oq (d.its []) fun l => G l fr h) E := by
 unfold Jo; simp only [aA, sr]
theorem adM : Wq (Jc m fr h) G E = Wq (m fr h) (fun d fr h => Oq (uR d) fun l => G l fr h) E := by
 unfold Jc; simp only [aA, sr]; rfl
theorem adN : Wq (abf ma mb fr h) G E = Wq (ma fr h) (fun x fr h => Wq (mb fr h) (fun y fr h => Oq (u6 x y) fun l => G l fr h) E) E := by
 unfold abf; simp only [aA, sr]; rfl
theorem adP : Wq (abo m fr h) G E = Wq (m fr h) (fun d fr h => Oq d.lst fun l => G (FJ 0 l) fr h) E := by
 unfold abo; simp only [aA, sr, R7]
theorem afx {s n : M Fl} : Wq (aC s n fr h) L E = Wq (s fr h) (fun f fr h => Fq f (Wq (n fr h) L E) (L f fr h)) E := by
 unfold aC; rw [aA]
 congr 1
 funext f fr h
 cases f with
 | nx => rw [Ws]
 | brk => rw [Zz]; exact tY
 | ct => rw [aaS]; exact tY
 | rt d => rw [aaR]; exact tY
theorem afy {t : M Bool} {s n : M Fl} : Wq (tO t s n fr h) L E = Wq (t fr h) (fun b fr h => Hg b (Wq (s fr h) L E) (Wq (n fr h) L E)) E := by
 unfold tO; simp only [aA, Il]
theorem adQ {m : M α} : Wq (su m fr h) L E = Wq (m fr h) (fun _ fr h => L .nx fr h) E := by
 unfold su; simp only [aA, tY]
theorem afz : Wq (gK m fr h) L E = Wq (m fr h) (fun d fr h => L (.rt d) fr h) E := by
 unfold gK; simp only [aA, tY]
theorem afA : Wq (cP i m fr h) L E = Wq (m fr h) (fun d fr h => Bq (fr.set i (some d)) fun fr => L .nx fr h) E := by
 unfold cP Bq; rw [aA]
 congr 1
theorem afB {g : D → M Unit} : Wq (Qm m g fr h) L E = Wq (m fr h) (fun d fr h => Wq (g d fr h) (fun _ fr h => L .nx fr h) wR) E := by
 unfold Qm; rw [aA]
 congr 1
 funext d fr h
 cases g d fr h <;> (unfold Wq; rfl)
theorem adR {is : List Nat} {ms : M (List D)} : Wq (Oe is ms fr h) L E = Wq (ms fr h) (fun ds fr h => Oq (Dk is ds fr) fun fr' => ds.length ≤ big ∧ Bq fr' fun fr' => L .nx fr' h) E := by
 unfold Oe Bq; rw [aA]
 congr 1
 funext ds fr h
 cases Dk is ds fr with
 | none => exact bj.trans rK.symm
 | some f =>
   rw [rH]
   dsimp only
   split
   · rename_i hb; rw [wG]; simp only [hb, true_and]
   · rename_i hb; rw [bj]; simp only [hb, false_and]
theorem adS {l : M (List D)} {g : D → M Unit} {b : M Fl} : Wq (Fw l g b fr h) L E = Wq (l fr h) (fun ds fr h => Wq (Es g b ds fr h) L E) E := by
 unfold Fw; rw [aA]
theorem agL {vs : List Nat} {l : M (List D)} {g : D → M Unit} {t : M Bool} {e : M D} : Wq (Jp vs l g t e fr h) Q E = Wq (l fr h) (fun ds fr h => ds.length ≤ big ∧ Bq (vU fr vs) fun fr => Wq (Be vs g t e ds fr h) (fun r fr h => Q (.nl r) fr h) E) E := by
 unfold Jp X6 Bq; rw [aA]
 congr 1
 funext ds fr h
 rw [aA, wG]
 split
 · rename_i hb; rw [aA]; simp only [tY, hb, true_and]
 · rename_i hb; rw [sr, rK]; simp only [hb, false_and]
theorem adT {d : D} : Wq (wg i d fr h) U E = Bq (fr.set i (some d)) fun fr => U () fr h := by
 unfold wg Bq; exact wG
theorem acO : Wq (Oc [] fr h) U E = U () fr h := tY
theorem abQ {g : D → M Unit} {gs : List D → M Unit} {d : D} {ds : List D} : Wq (BX g gs (d :: ds) fr h) U E = Wq (g d fr h) (fun _ fr h => Wq (gs ds fr h) U E) E := by
 unfold BX; exact aA
theorem acP {n : Nat} {gs : List D → M Unit} {l : List D} : Wq (Ly n gs (.tup l) fr h) U E = (l.length = n ∧ Wq (gs l fr h) U E) := by
 unfold Ly
 dsimp only
 split
 · rename_i hb; simp only [hb, true_and]
 · rename_i hb; rw [sr, rK]; simp only [hb, false_and]
theorem afC {f : List D → Option (List D)} : Wq (mO i f fr h) U E = Sq fr[i]? fun d => match d with
 | .nl l => Oq (f l) fun l' => Bq (fr.set i (some (.nl l'))) fun fr => U () fr h
 | .ref n => Oq h[n]? fun c => match c with
   | .nl l => Oq (f l) fun l' => U () fr (h.set n (.nl l'))
   | _ => False
 | _ => False := by
 unfold mO Bq
 cases e : fr[i]? with
 | none => unfold Wq Sq; rfl
 | some o =>
   cases o with
   | none => unfold Wq Sq; rfl
   | some d =>
     rw [BK]
     cases d with
     | nl l => dsimp only; cases f l <;> (unfold Wq Oq; rfl)
     | ref n =>
       dsimp only
       cases h[n]? with
       | none => unfold Wq Oq; rfl
       | some c =>
         rw [rH]
         cases c with
         | nl l => dsimp only; cases f l <;> (unfold Wq Oq; rfl)
         | _ => unfold Wq; rfl
     | _ => unfold Wq; rfl
theorem adU {n : Nat} {f : List D → Option (List D)} : Wq (xm (.ref n) f fr h) U E = Oq h[n]? fun c => match c with
 | .nl l => Oq (f l) fun l' => U () fr (h.set n (.nl l'))
 | _ => False := by
 unfold xm
 dsimp only
 cases h[n]? with
 | none => unfold Wq Oq; rfl
 | some c =>
   rw [rH]
   cases c with
   | nl l => dsimp only; cases f l <;> (unfold Wq Oq; rfl)
   | _ => unfold Wq; rfl
theorem adV : Wq (Oh i m fr h) Q E = Wq (mO i wj fr h) (fun _ fr h => Wq (m fr h) (fun d fr h => Wq (mO i (Et d) fr h) (fun _ fr h => Q .non fr h) E) E) E := by
 unfold Oh; simp only [aA, tY]
theorem adW : Wq (abi i fr h) Q E = Wq (mO i Qo fr h) (fun _ fr h => Q .non fr h) E := by
 unfold abi; simp only [aA, tY]
theorem adX {mo : M D} : Wq (Jd mo m fr h) Q E = Wq (mo fr h) (fun o fr h => Wq (xm o wj fr h) (fun _ fr h => Wq (m fr h) (fun d fr h => Wq (xm o (Et d) fr h) (fun _ fr h => Q .non fr h) E) E) E) E := by
 unfold Jd; simp only [aA, tY]
theorem adY {mo : M D} : Wq (abj mo fr h) Q E = Wq (mo fr h) (fun o fr h => Wq (xm o Qo fr h) (fun _ fr h => Q .non fr h) E) E := by
 unfold abj; simp only [aA, tY]
theorem adZ {mi : M D} : Wq (LC i m mi fr h) L E = Wq (m fr h) (fun d fr h => Sq fr[i]? fun _ => Wq (mi fr h) (fun j fr h => Wq (mO i (HJ j d) fr h) (fun _ fr h => L .nx fr h) E) E) E := by
 unfold LC; simp only [aA, tY, Wt]
theorem ad0 {mo mi : M D} : Wq (abk mo m mi fr h) L E = Wq (m fr h) (fun d fr h => Wq (mo fr h) (fun o fr h => Wq (mi fr h) (fun j fr h => Wq (xm o (HJ j d) fr h) (fun _ fr h => L .nx fr h) E) E) E) E := by
 unfold abk; simp only [aA, tY]
theorem ad1 : Wq (Fy m fr h) Q E = Wq (m fr h) (fun d fr h => d.own = true ∧ Q (.ref h.length) fr (h ++ [d])) E := by
 unfold Fy; rw [aA]
 congr 1
 funext d fr h
 split
 · rename_i hb; rw [wG]; simp only [hb, true_and]
 · rename_i hb; rw [bj, eq_iff_iff]
   exact ⟨False.elim, fun z => hb z.1⟩
theorem abR {ix : Nat → Option Nat} : Wq (xF i ix m fr h) L E = Wq (m fr h) (fun d fr h => Wq (EY i ix d fr h) (fun _ fr h => L .nx fr h) E) E := by
 unfold xF; simp only [aA, tY]
theorem ad2 {ix : Nat → Option Nat} {x : D} : Wq (EY i ix x fr h) U E = Sq fr[i]? fun d => match d with
 | .no c fs => Oq (ix c) fun k => Oq (xg k x fs) fun fs' => Bq (fr.set i (some (.no c fs'))) fun fr => U () fr h
 | .ref n => Oq h[n]? fun c => match c with
   | .no c fs => Oq (ix c) fun k => Oq (xg k x fs) fun fs' => U () fr (h.set n (.no c fs'))
   | _ => False
 | _ => False := by
 unfold EY Bq
 cases e : fr[i]? with
 | none => unfold Wq Sq; rfl
 | some o =>
   cases o with
   | none => unfold Wq Sq; rfl
   | some d =>
     rw [BK]
     cases d with
     | no c fs =>
       dsimp only
       cases ix c with
       | none => unfold Wq Oq; rfl
       | some k => rw [rH]; dsimp only; cases xg k x fs <;> (unfold Wq Oq; rfl)
     | ref n =>
       dsimp only
       cases h[n]? with
       | none => unfold Wq Oq; rfl
       | some c =>
         rw [rH]
         cases c with
         | no c fs =>
           dsimp only
           cases ix c with
           | none => unfold Wq Oq; rfl
           | some k => rw [rH]; dsimp only; cases xg k x fs <;> (unfold Wq Oq; rfl)
         | _ => unfold Wq; rfl
     | _ => unfold Wq; rfl
theorem BL {r : R D} {fr0 : Fr} : Wq (vD fr0 r) Q E = Wq r (fun d _ h => Q d fr0 h) (fun x _ h => E x fr0 h) := by
 cases r <;> (unfold Wq vD; rfl)
theorem ZC {n k : Nat} {F : Fn} {gD : List D → List D → List D} {ma mk : M (List D)} : Wq (cJ n k F gD ma mk fr h) Q E = Wq (ma fr h) (fun ds fr h => Wq (mk fr h) (fun es fr h => ds.length = n ∧ es.length = k ∧ Wq (F (gD ds es) h) (fun d _ h => Q d fr h) (fun x _ h => E x fr h)) E) E := by
 unfold cJ; rw [aA]
 congr 1
 funext ds fr h
 rw [aA]
 congr 1
 funext es fr h
 split
 · rename_i hb; rw [BL]; simp only [hb.1, hb.2, true_and]
 · rename_i hb
   rw [bj, eq_iff_iff]
   exact ⟨False.elim, fun z => hb ⟨z.1, z.2.1⟩⟩
theorem ad3 {n k : Nat} {mt : Nat → Option Fn} {gD : List D → List D → List D} {mo : M D} {ma mk : M (List D)} : Wq (tX n k mt gD mo ma mk fr h) Q E = Wq (mo fr h) (fun o fr h => Oq (fnOf mt h o) fun F => Wq (ma fr h) (fun ds fr h => Wq (mk fr h) (fun es fr h => ds.length = n ∧ es.length = k ∧ Wq (F (gD (o :: ds) es) h) (fun d _ h => Q d fr h) (fun x _ h => E x fr h)) E) E) E := by
 unfold tX; rw [aA]
 congr 1
 funext o fr h
 cases fnOf mt h o with
 | none => exact bj.trans rK.symm
 | some F =>
   rw [rH]
   dsimp only
   rw [ZC]
   simp only [aA, tY, aiX, Nat.add_right_cancel_iff]
theorem ad4 {mt : Nat → Option Fn} {mo : M D} : Wq (LK mt mo fr h) Q E = Wq (mo fr h) (fun o fr h => Oq (fnOf mt h o) fun F => Wq (F [o] h) (fun d _ h => Q d fr h) wR) E := by
 unfold LK; rw [aA]
 congr 1
 funext o fr h
 cases fnOf mt h o with
 | none => exact bj.trans rK.symm
 | some F =>
   rw [rH]
   dsimp only
   cases F [o] h <;> (unfold Wq; rfl)
theorem ad5 {n : Nat} {m : M Fl} {ds : List D} : Wq (tR n m ds h) Q E = Bq (startF n ds) fun fr => Wq (m fr h) (fun f _ h => Rq f fun d => Q d [] h) (fun x _ h => E x [] h) := by
 unfold tR Bq
 show _ = Wq (m (startF n ds) h) _ _
 generalize m (startF n ds) h = r
 cases r with
 | ok f fr h => cases f <;> rfl
 | exc x fr h => rfl
 | err => rfl
def Nq (c : Nat) (s : Option (Option D)) (K : D → Prop) : Prop := match s with
 | some (some (.no c' fs)) => c' = c ∧ K (.no c fs)
 | _ => False
theorem Xj {c c' : Nat} {fs : List D} {K : D → Prop} : Nq c (some (some (.no c' fs))) K = (c' = c ∧ K (.no c fs)) := by unfold Nq; rfl
theorem ad6 {c n : Nat} {m : M Fl} {ds : List D} : Wq (runI c n m ds h) Q E = Bq (startF n (.no c [] :: ds)) fun fr => Wq (m fr h) (fun f fr h => Fq f (Nq c fr[0]? fun d => Q d [] h) False) (fun x _ h => E x [] h) := by
 unfold runI Bq
 show _ = Wq (m (startF n (.no c [] :: ds)) h) _ _
 generalize m (startF n (.no c [] :: ds)) h = r
 cases r with
 | ok f fr h =>
   cases f with
   | nx =>
     rw [wG, Ws]
     dsimp only
     cases e : (fr : List (Option D))[0]? with
     | none => rfl
     | some o =>
       cases o with
       | none => rfl
       | some d =>
         cases d with
         | no c' fs =>
           rw [Xj]
           dsimp only
           split
           · rename_i hb; subst hb; rw [wG]; simp
           · rename_i hb; rw [bj]; simp only [hb, false_and]
         | _ => rfl
   | _ => rfl
 | exc x fr h => rfl
 | err => rfl
end
structure T7 {β γ : Type} (_ : β) (_ : γ) : Type where
def Wp {α : Type} (r : R α) (Q : α → Fr → Hh → Prop) (E : bh → Fr → Hh → Prop) (_ : T7 Q E := ⟨⟩) : Prop := Wq r Q E
def Op {α : Type} (o : Option α) (K : α → Prop) (_ : T7 K K := ⟨⟩) : Prop := Oq o K
def Sl (s : Option (Option D)) (K : D → Prop) (_ : T7 K K := ⟨⟩) : Prop := Sq s K
def Cd (b : Bool) (A B : Prop) (_ : T7 A B := ⟨⟩) : Prop := Hg b A B
def Bx (fr : Fr) (K : Fr → Prop) (_ : T7 K K := ⟨⟩) : Prop := Bq fr K
def FlK (f : Fl) (A B : Prop) (_ : T7 A B := ⟨⟩) : Prop := Fq f A B
def RtK (f : Fl) (K : D → Prop) (_ : T7 K K := ⟨⟩) : Prop := Rq f K
def NoK (c : Nat) (s : Option (Option D)) (K : D → Prop) (_ : T7 K K := ⟨⟩) : Prop := Nq c s K
section
variable {α β : Type} {Q : α → Fr → Hh → Prop} {E : bh → Fr → Hh → Prop} {fr : Fr} {h : Hh}
theorem ou {a : α} : Wp (.ok a fr h) Q E = Q a fr h := wG
theorem oA {x : bh} : Wp (.exc x fr h : R α) Q E = E x fr h := Ik
theorem gM {a : α} {K : α → Prop} : Op (some a) K = K a := rH
theorem R9 {K : α → Prop} : Op none K = False := rK
theorem oE {o : Option α} {f : α → β} {K : β → Prop} : Op (o.map f) K = Op o fun a => K (f a) := R7
theorem oF {c : Prop} [Decidable c] {a : α} {K : α → Prop} : Op (if c then some a else none) K = (c ∧ K a) := R8
theorem agN {c : Bool} {a : α} {K : α → Prop} : Op (if c then some a else none) K = (c = true ∧ K a) := afm
theorem ie {d : D} {K : D → Prop} : Sl (some (some d)) K = K d := BK
theorem ue {A B : Prop} : Cd true A B = A := JT
theorem uf {A B : Prop} : Cd false A B = B := JV
theorem gR {a : Option D} {l : Fr} {K : Fr → Prop} : Bx (a :: l) K = K (a :: l) := adG
theorem oG {K : Fr → Prop} : Bx [] K = K [] := afn
theorem nH {A B : Prop} : FlK .nx A B = A := Ws
theorem oH {A B : Prop} {d : D} : FlK (.rt d) A B = B := aaR
theorem iG {A B : Prop} : FlK .brk A B = B := Zz
theorem oJ {A B : Prop} : FlK .ct A B = B := aaS
theorem oK {K : D → Prop} : RtK .nx K = K .non := afo
theorem nJ {K : D → Prop} {d : D} : RtK (.rt d) K = K d := afp
theorem Wp.mono {r : R α} {Q Q' : α → Fr → Hh → Prop} {E : bh → Fr → Hh → Prop} (w : Wp r Q E) (hq : ∀ a fr h, Q a fr h → Q' a fr h) : Wp r Q' E := Wq.mono w hq
theorem Wp.ex {r : R α} {Q : α → Fr → Hh → Prop} (w : Wp r Q wR) : ∃ a fr h, r = .ok a fr h ∧ Q a fr h := Wq.ex w
theorem Wp.eq {a : α} {r : R α} {fr : Fr} {h : Hh} (w : Wp r (fun b fr1 h1 => b = a ∧ fr1 = fr ∧ h1 = h) wR) : r = .ok a fr h := Wq.eq w
theorem Wp.of_eq {r : R α} {a : α} {fr : Fr} {h : Hh} (e : r = .ok a fr h) (q : Q a fr h) : Wp r Q E := Wq.of_eq e q
theorem mU {a : α} : Wp (M.ret a fr h) Q E = Q a fr h := tY
theorem wp_bind {m : M β} {f : β → M α} : Wp (M.bind m f fr h) Q E = Wp (m fr h) (fun a fr h => Wp (f a fr h) Q E) E := aA
theorem oM {o : Option α} : Wp (M.opt o fr h) Q E = Op o fun a => Q a fr h := sr
end
section
variable {α : Type} {Q : D → Fr → Hh → Prop} {P : Bool → Fr → Hh → Prop} {S : α → Fr → Hh → Prop} {U : Unit → Fr → Hh → Prop} {G : List D → Fr → Hh → Prop} {L : Fl → Fr → Hh → Prop} {I : Option Int → Fr → Hh → Prop} {E : bh → Fr → Hh → Prop} {fr : Fr} {h : Hh} {m ma mb mc : M D} {i : Nat}
theorem tZ {d : D} : Wp (mC d fr h) Q E = Q d fr h := ahp
theorem sE : Wp (mJ m fr h) Q E = Wp (m fr h) (fun d fr h => Q d.fz fr h) E := agC
theorem oN : Wp (ak i fr h) Q E = Sl fr[i]? fun d => Cd d.own (Bx (fr.set i (some d.fz)) fun fr => Q d.fz fr h) (Q d fr h) := afq
theorem iH : Wp (za i fr h) Q E = Sl fr[i]? fun d => Bx (fr.set i none) fun fr => Q d fr h := adH
theorem nM : Wp (iz i fr h) Q E = Sl fr[i]? fun d => Q d fr h := aaT
theorem oO : Wp (yu i fr h) U E = Sl fr[i]? fun _ => U () fr h := Wt
theorem rQ {f : Hh → D → D → Option α} : Wp (bf f ma mb fr h) S E = Wp (ma fr h) (fun x fr h => Wp (mb fr h) (fun y fr h => Op (f h x y) fun z => S z fr h) E) E := agD
theorem rR {f : Hh → D → Option α} : Wp (mQ f ma fr h) S E = Wp (ma fr h) (fun x fr h => Op (f h x) fun z => S z fr h) E := agE
theorem sG {t : M Bool} : Wp (mBl t fr h) Q E = Wp (t fr h) (fun b fr h => Q (.bl b) fr h) E := agF
theorem oR {t : M Bool} : Wp (Ku t fr h) P E = Wp (t fr h) (fun b fr h => P (!b) fr h) E := afr
theorem iI {β : Type} {b : Bool} {m n : M β} {Q : β → Fr → Hh → Prop} : Wp ((if b then m else n) fr h) Q E = Cd b (Wp (m fr h) Q E) (Wp (n fr h) Q E) := Il
theorem oU {t u : M Bool} : Wp (Mu t u fr h) P E = Wp (t fr h) (fun b fr h => Cd b (Wp (u fr h) P E) (P false fr h)) E := afs
theorem sH {t u : M Bool} : Wp (O7 t u fr h) P E = Wp (t fr h) (fun b fr h => Cd b (P true fr h) (Wp (u fr h) P E)) E := agG
theorem iJ : Wp (abb m fr h) Q E = Wp (m fr h) (fun d fr h => Op d.tb fun b => Q (.bl (!b)) fr h) E := adI
theorem iK {n : M D} : Wp (N8 m n fr h) Q E = Wp (m fr h) (fun d fr h => Op d.tb fun b => Cd b (Wp (n fr h) Q E) (Q (.bl false) fr h)) E := adJ
theorem oV {n : M D} : Wp (ac7 m n fr h) Q E = Wp (m fr h) (fun d fr h => Op d.tb fun b => Cd b (Q (.bl true) fr h) (Wp (n fr h) Q E)) E := aft
theorem cU {f g : Hh → D → D → Option Bool} : Wp (Nk f g ma mb mc fr h) P E = Wp (ma fr h) (fun x fr h => Wp (mb fr h) (fun y fr h => Op (f h x y) fun b => Cd b (Wp (mc fr h) (fun z fr h => Op (g h y z) fun c => P c fr h) E) (P false fr h)) E) E := acL
theorem sJ {t : M Bool} {m n : M α} : Wp (BW t m n fr h) S E = Wp (t fr h) (fun b fr h => Cd b (Wp (m fr h) S E) (Wp (n fr h) S E)) E := agH
theorem cV : Wp (aj [] fr h) G E = G [] fr h := acM
theorem cW {ms : List (M D)} : Wp (aj (m :: ms) fr h) G E = Wp (m fr h) (fun d fr h => Wp (aj ms fr h) (fun ds fr h => G (d :: ds) fr h) E) E := acN
theorem oW {ms : List (M D)} : Wp (oh ms fr h) Q E = Wp (aj ms fr h) (fun ds fr h => ds.length ≤ big ∧ Q (.tup ds) fr h) E := afu
theorem oX {ms : List (M D)} : Wp (vq ms fr h) Q E = Wp (aj ms fr h) (fun ds fr h => ds.length ≤ big ∧ Q (.nl ds) fr h) E := afv
theorem iQ {β : Type} {m : M β} {f : Hh → D → β → Option D} : Wp (gH i m f fr h) Q E = Sl fr[i]? fun _ => Wp (m fr h) (fun y fr h => Sl fr[i]? fun d => Op (f h d y) fun z => Q z fr h) E := adK
theorem sO : Wp (mPn fr h) I E = I none fr h := agI
theorem ahq : Wp (UL m fr h) I E = Wp (m fr h) (fun d fr h => Op (match d with | .int i => some i | _ => none) fun i => I (some i) fr h) E := agJ
theorem iT {ml mh : M (Option Int)} {J : Option Int × Option Int → Fr → Hh → Prop} : Wp (Lw ml mh fr h) J E = Wp (ml fr h) (fun l fr h => Wp (mh fr h) (fun u fr h => J (l, u) fr h) E) E := adL
theorem oY {ml mh : M (Option Int)} : Wp (ac9 m ml mh fr h) Q E = Wp (m fr h) (fun d fr h => Wp (ml fr h) (fun l fr h => Wp (mh fr h) (fun u fr h => Op (zR h d (l, u)) fun z => Q z fr h) E) E) E := afw
theorem sS : Wp (Jo m fr h) G E = Wp (m fr h) (fun d fr h => Op (d.its []) fun l => G l fr h) E := agK
theorem ig : Wp (Jc m fr h) G E = Wp (m fr h) (fun d fr h => Op (uR d) fun l => G l fr h) E := adM
theorem iU : Wp (abf ma mb fr h) G E = Wp (ma fr h) (fun x fr h => Wp (mb fr h) (fun y fr h => Op (u6 x y) fun l => G l fr h) E) E := adN
theorem iV : Wp (abo m fr h) G E = Wp (m fr h) (fun d fr h => Op d.lst fun l => G (FJ 0 l) fr h) E := adP
theorem m7 {s n : M Fl} : Wp (aC s n fr h) L E = Wp (s fr h) (fun f fr h => FlK f (Wp (n fr h) L E) (L f fr h)) E := afx
theorem oZ {t : M Bool} {s n : M Fl} : Wp (tO t s n fr h) L E = Wp (t fr h) (fun b fr h => Cd b (Wp (s fr h) L E) (Wp (n fr h) L E)) E := afy
theorem iW {m : M α} : Wp (su m fr h) L E = Wp (m fr h) (fun _ fr h => L .nx fr h) E := adQ
theorem nO : Wp (gK m fr h) L E = Wp (m fr h) (fun d fr h => L (.rt d) fr h) E := afz
theorem o5 : Wp (cP i m fr h) L E = Wp (m fr h) (fun d fr h => Bx (fr.set i (some d)) fun fr => L .nx fr h) E := afA
theorem o7 {g : D → M Unit} : Wp (Qm m g fr h) L E = Wp (m fr h) (fun d fr h => Wp (g d fr h) (fun _ fr h => L .nx fr h) wR) E := afB
theorem iY {is : List Nat} {ms : M (List D)} : Wp (Oe is ms fr h) L E = Wp (ms fr h) (fun ds fr h => Op (Dk is ds fr) fun fr' => ds.length ≤ big ∧ Bx fr' fun fr' => L .nx fr' h) E := adR
theorem gU {l : M (List D)} {g : D → M Unit} {b : M Fl} : Wp (Fw l g b fr h) L E = Wp (l fr h) (fun ds fr h => Wp (Es g b ds fr h) L E) E := adS
theorem sU {vs : List Nat} {l : M (List D)} {g : D → M Unit} {t : M Bool} {e : M D} : Wp (Jp vs l g t e fr h) Q E = Wp (l fr h) (fun ds fr h => ds.length ≤ big ∧ Bx (vU fr vs) fun fr => Wp (Be vs g t e ds fr h) (fun r fr h => Q (.nl r) fr h) E) E := agL
theorem il {d : D} : Wp (wg i d fr h) U E = Bx (fr.set i (some d)) fun fr => U () fr h := adT
theorem cX : Wp (Oc [] fr h) U E = U () fr h := acO
theorem bA {g : D → M Unit} {gs : List D → M Unit} {d : D} {ds : List D} : Wp (BX g gs (d :: ds) fr h) U E = Wp (g d fr h) (fun _ fr h => Wp (gs ds fr h) U E) E := abQ
theorem cY {n : Nat} {gs : List D → M Unit} {l : List D} : Wp (Ly n gs (.tup l) fr h) U E = (l.length = n ∧ Wp (gs l fr h) U E) := acP
theorem o8 {f : List D → Option (List D)} : Wp (mO i f fr h) U E = Sl fr[i]? fun d => match d with
 | .nl l => Op (f l) fun l' => Bx (fr.set i (some (.nl l'))) fun fr => U () fr h
 | .ref n => Op h[n]? fun c => match c with
   | .nl l => Op (f l) fun l' => U () fr (h.set n (.nl l'))
   | _ => False
 | _ => False := afC
theorem iZ {n : Nat} {f : List D → Option (List D)} : Wp (xm (.ref n) f fr h) U E = Op h[n]? fun c => match c with
 | .nl l => Op (f l) fun l' => U () fr (h.set n (.nl l'))
 | _ => False := adU
theorem jc : Wp (Oh i m fr h) Q E = Wp (mO i wj fr h) (fun _ fr h => Wp (m fr h) (fun d fr h => Wp (mO i (Et d) fr h) (fun _ fr h => Q .non fr h) E) E) E := adV
theorem je : Wp (abi i fr h) Q E = Wp (mO i Qo fr h) (fun _ fr h => Q .non fr h) E := adW
theorem jf {mo : M D} : Wp (Jd mo m fr h) Q E = Wp (mo fr h) (fun o fr h => Wp (xm o wj fr h) (fun _ fr h => Wp (m fr h) (fun d fr h => Wp (xm o (Et d) fr h) (fun _ fr h => Q .non fr h) E) E) E) E := adX
theorem jh {mo : M D} : Wp (abj mo fr h) Q E = Wp (mo fr h) (fun o fr h => Wp (xm o Qo fr h) (fun _ fr h => Q .non fr h) E) E := adY
theorem ji {mi : M D} : Wp (LC i m mi fr h) L E = Wp (m fr h) (fun d fr h => Sl fr[i]? fun _ => Wp (mi fr h) (fun j fr h => Wp (mO i (HJ j d) fr h) (fun _ fr h => L .nx fr h) E) E) E := adZ
theorem jk {mo mi : M D} : Wp (abk mo m mi fr h) L E = Wp (m fr h) (fun d fr h => Wp (mo fr h) (fun o fr h => Wp (mi fr h) (fun j fr h => Wp (xm o (HJ j d) fr h) (fun _ fr h => L .nx fr h) E) E) E) E := ad0
theorem jm : Wp (Fy m fr h) Q E = Wp (m fr h) (fun d fr h => d.own = true ∧ Q (.ref h.length) fr (h ++ [d])) E := ad1
theorem bB {ix : Nat → Option Nat} : Wp (xF i ix m fr h) L E = Wp (m fr h) (fun d fr h => Wp (EY i ix d fr h) (fun _ fr h => L .nx fr h) E) E := abR
theorem jn {ix : Nat → Option Nat} {x : D} : Wp (EY i ix x fr h) U E = Sl fr[i]? fun d => match d with
 | .no c fs => Op (ix c) fun k => Op (xg k x fs) fun fs' => Bx (fr.set i (some (.no c fs'))) fun fr => U () fr h
 | .ref n => Op h[n]? fun c => match c with
   | .no c fs => Op (ix c) fun k => Op (xg k x fs) fun fs' => U () fr (h.set n (.no c fs'))
   | _ => False
 | _ => False := ad2
theorem jo {n k : Nat} {F : Fn} {gD : List D → List D → List D} {ma mk : M (List D)} : Wp (cJ n k F gD ma mk fr h) Q E = Wp (ma fr h) (fun ds fr h => Wp (mk fr h) (fun es fr h => ds.length = n ∧ es.length = k ∧ Wp (F (gD ds es) h) (fun d _ h => Q d fr h) (fun x _ h => E x fr h)) E) E := ZC
theorem jr {n k : Nat} {mt : Nat → Option Fn} {gD : List D → List D → List D} {mo : M D} {ma mk : M (List D)} : Wp (tX n k mt gD mo ma mk fr h) Q E = Wp (mo fr h) (fun o fr h => Op (fnOf mt h o) fun F => Wp (ma fr h) (fun ds fr h => Wp (mk fr h) (fun es fr h => ds.length = n ∧ es.length = k ∧ Wp (F (gD (o :: ds) es) h) (fun d _ h => Q d fr h) (fun x _ h => E x fr h)) E) E) E := ad3
theorem jt {mt : Nat → Option Fn} {mo : M D} : Wp (LK mt mo fr h) Q E = Wp (mo fr h) (fun o fr h => Op (fnOf mt h o) fun F => Wp (F [o] h) (fun d _ h => Q d fr h) wR) E := ad4
theorem ir {n : Nat} {m : M Fl} {ds : List D} : Wp (tR n m ds h) Q E = Bx (startF n ds) fun fr => Wp (m fr h) (fun f _ h => RtK f fun d => Q d [] h) (fun x _ h => E x [] h) := ad5
theorem cZ {c c' : Nat} {fs : List D} {K : D → Prop} : NoK c (some (some (.no c' fs))) K = (c' = c ∧ K (.no c fs)) := Xj
theorem ju {c n : Nat} {m : M Fl} {ds : List D} : Wp (runI c n m ds h) Q E = Bx (startF n (.no c [] :: ds)) fun fr => Wp (m fr h) (fun f fr h => FlK f (NoK c fr[0]? fun d => Q d [] h) False) (fun x _ h => E x [] h) := ad6
end
end Pk
namespace Pk
open PySem PySem.Spec L2
section
variable {h : Hh} {l l' ds fs : List D} {i j : Int} {a b : Bool} {s z : Str} {n c : Nat} {t : String}
theorem jw : (D.int i).own = false := by unfold D.own; rfl
theorem o9 : (D.bl a).own = false := by unfold D.own; rfl
theorem jx : (D.str s).own = false := by unfold D.own; rfl
theorem jy : D.non.own = false := by unfold D.own; rfl
theorem jA : (D.tup l).own = false := by unfold D.own; rfl
theorem ph : (D.fl l).own = false := by unfold D.own; rfl
theorem pq : (D.kl l).own = false := by unfold D.own; rfl
theorem jB : (D.obj c l).own = false := by unfold D.own; rfl
theorem jC : (D.ref n).own = false := by unfold D.own; rfl
theorem jD : (D.cls n).own = false := by unfold D.own; rfl
theorem pA : (D.ty t).own = false := by unfold D.own; rfl
theorem pB : (D.nl l).own = true := by unfold D.own; rfl
theorem pC : (D.no c l).own = true := by unfold D.own; rfl
theorem pD : (D.int i).fz = .int i := by unfold D.fz; rfl
theorem sV : (D.bl a).fz = .bl a := by unfold D.fz; rfl
theorem pF : (D.str s).fz = .str s := by unfold D.fz; rfl
theorem fz_non : D.non.fz = .non := by unfold D.fz; rfl
theorem pG : (D.tup l).fz = .tup l := by unfold D.fz; rfl
theorem sW : (D.fl l).fz = .fl l := by unfold D.fz; rfl
theorem sX : (D.kl l).fz = .kl l := by unfold D.fz; rfl
theorem pH : (D.obj c l).fz = .obj c l := by unfold D.fz; rfl
theorem pJ : (D.ref n).fz = .ref n := by unfold D.fz; rfl
theorem pK : (D.cls n).fz = .cls n := by unfold D.fz; rfl
theorem sY : (D.ty t).fz = .ty t := by unfold D.fz; rfl
theorem tD : (D.nl l).fz = .fl l := by unfold D.fz; rfl
theorem tE : (D.no c l).fz = .obj c l := by unfold D.fz; rfl
theorem gQ : (D.tup l).its h = some l := by unfold D.its D.der; rfl
theorem mV : (D.fl l).its h = some l := by unfold D.its D.der; rfl
theorem m9 : (D.kl l).its h = some l := by unfold D.its D.der; rfl
theorem mW : (D.nl l).its h = some l := by unfold D.its D.der; rfl
theorem di : vh h (.tup l) = some (.int l.length) := by unfold vh; dsimp only; rw [gQ]; rfl
theorem jE : vh h (.fl l) = some (.int l.length) := by unfold vh; dsimp only; rw [mV]; rfl
theorem iw : vh h (.kl l) = some (.int l.length) := by unfold vh; dsimp only; rw [m9]; rfl
theorem jF : vh h (.nl l) = some (.int l.length) := by unfold vh; dsimp only; rw [mW]; rfl
theorem dw : gJ h (.tup l) (.int i) = atI l i := by unfold gJ; dsimp only; rw [gQ]
theorem pM : gJ h (.fl l) (.int i) = atI l i := by unfold gJ; dsimp only; rw [mV]
theorem jG : gJ h (.kl l) (.int i) = atI l i := by unfold gJ; dsimp only; rw [m9]
theorem jH : gJ h (.nl l) (.int i) = atI l i := by unfold gJ; dsimp only; rw [mW]
section
variable {α : Type} {xs : List α}
theorem mK {k : Nat} : atI xs (k : Int) = xs[k]? := by
 unfold atI ixN
 rw [if_pos (by omega)]
 by_cases hk : k < xs.length
 · rw [if_pos (by omega)]; simp
 · rw [if_neg (by omega)]; simp; omega
theorem ul : atI xs 0 = xs[0]? := mK (k := 0)
theorem uo : atI xs 1 = xs[1]? := mK (k := 1)
theorem uv : atI xs 2 = xs[2]? := mK (k := 2)
theorem uw : atI xs 3 = xs[3]? := mK (k := 3)
theorem ux : atI xs 4 = xs[4]? := mK (k := 4)
theorem uz : atI xs 5 = xs[5]? := mK (k := 5)
theorem uA : atI xs 6 = xs[6]? := mK (k := 6)
theorem tG : atI xs (-1) = xs.getLast? := by
 unfold atI ixN
 rw [if_neg (by decide), List.getLast?_eq_getElem?]
 by_cases hk : 1 ≤ xs.length
 · rw [if_pos (by omega)]
   show xs[((-1 : Int) + (xs.length : Int)).toNat]? = _
   congr 1; omega
 · rw [if_neg (by omega)]
   have : xs = [] := List.length_eq_zero_iff.mp (by omega)
   subst this; rfl
end
section
variable {C : Int → Int → Bool} {g : Int → Int → Int} {K : D → Prop}
theorem nQ : Op (Cv C g h (.int i) (.int j)) K = (C i j = true ∧ K (.int (g i j))) := by unfold Cv; exact agN
theorem rW : Yj i j = true := by unfold Yj; rfl
theorem dB : tV h (.int i) (.int j) = some (.int (i + j)) := by unfold tV; rfl
theorem dC : tV h (.tup l) (.tup l') = if l.length + l'.length ≤ big then some (.tup (l ++ l')) else none := by unfold tV; rfl
theorem jJ : tV h (.fl l) (.fl l') = if l.length + l'.length ≤ big then some (.nl (l ++ l')) else none := by unfold tV; rfl
theorem dD : Hz (.int i) = some (.int (-i)) := by unfold Hz; rfl
theorem dF : Oa h (.int i) = some (.int (if i < 0 then -i else i)) := by unfold Oa; rfl
theorem bD : yo h (.int i) = some (.int i) := by unfold yo; rfl
theorem dG : yo h (.bl a) = some (.int (if a then 1 else 0)) := by unfold yo; rfl
theorem dH {d : D} : aeA h d = (d.its h).map .nl := by unfold aeA; rfl
theorem bF {d : D} : acp h d = (d.its h).map .tup := by unfold acp; rfl
theorem dI {p : Int → Int → Bool} : cInt p h (.int i) (.int j) = some (p i j) := by unfold cInt; rfl
theorem nR : uE h (.int i) (.int j) = some (decide (i = j)) := by
 have : uE h (.int i) (.int j) = some (i == j) := by unfold uE; rfl
 rw [this]
 by_cases e : i = j
 · subst e; simp
 · simp [e]
theorem pN : uE h (.bl a) (.bl b) = some (a == b) := by unfold uE; rfl
theorem pO : uE h .non .non = some true := by unfold uE; rfl
theorem pP {d e : D} : Ew h d e = (uE h d e).map (!·) := by unfold Ew; rfl
theorem jK {d e : D} : Ql h d e = (Aj h d e).map (!·) := by unfold Ql; rfl
theorem jL {d : D} : cIs h d .non = some d.isNon := by unfold cIs; rfl
theorem dJ {d : D} : afY h d .non = some (!d.isNon) := by unfold afY; rfl
theorem bG : D.non.isNon = true := by unfold D.isNon; rfl
theorem bH : (D.int i).isNon = false := by unfold D.isNon; rfl
theorem dM : (D.bl a).isNon = false := by unfold D.isNon; rfl
theorem bJ : (D.str s).isNon = false := by unfold D.isNon; rfl
theorem bK : (D.tup l).isNon = false := by unfold D.isNon; rfl
theorem dN : (D.fl l).isNon = false := by unfold D.isNon; rfl
theorem dO : (D.nl l).isNon = false := by unfold D.isNon; rfl
theorem bL : (D.obj c l).isNon = false := by unfold D.isNon; rfl
theorem bM : (D.ref n).isNon = false := by unfold D.isNon; rfl
theorem tH : (D.bl a).tb = some a := by unfold D.tb; rfl
theorem jM : D.non.tru h = some false := by unfold D.tru; rfl
theorem pQ : (D.bl a).tru h = some a := by unfold D.tru; rfl
theorem jN : (D.int i).tru h = some (i != 0) := by unfold D.tru; rfl
theorem jO : (D.tup l).tru h = some (!l.isEmpty) := by unfold D.tru; dsimp only; rw [gQ]; rfl
theorem pU : (D.fl l).tru h = some (!l.isEmpty) := by unfold D.tru; dsimp only; rw [mV]; rfl
theorem pW : (D.nl l).tru h = some (!l.isEmpty) := by unfold D.tru; dsimp only; rw [mW]; rfl
end
theorem Vg : ∀ xs : List Int, D.ints (xs.map .int) = some xs
 | [] => by unfold D.ints; rfl
 | i :: xs => by rw [aiU]; unfold D.ints; rw [Vg xs]; rfl
theorem rY {xs : List Int} : Yv h (.nl (xs.map .int)) = some (.int xs.sum) := by
 unfold Yv D.lints D.der; dsimp only; rw [Vg]; rfl
theorem rZ {xs : List Int} : Yv h (.fl (xs.map .int)) = some (.int xs.sum) := by
 unfold Yv D.lints D.der; dsimp only; rw [Vg]; rfl
theorem jP {ix : Nat → Option Nat} {K : D → Prop} : Op (ug ix h (.obj c fs)) K = Op (ix c) fun k => Op fs[k]? K := by
 unfold ug D.ins D.der; dsimp only
 cases ix c with
 | none => exact (R9 (K := K)).trans (R9 (α := Nat)).symm
 | some k => rw [gM]
theorem pX {ix : Nat → Option Nat} {K : D → Prop} : Op (ug ix h (.no c fs)) K = Op (ix c) fun k => Op fs[k]? K := by
 unfold ug D.ins D.der; dsimp only
 cases ix c with
 | none => exact (R9 (K := K)).trans (R9 (α := Nat)).symm
 | some k => rw [gM]
theorem dR {mt : Nat → Option Fn} : fnOf mt h (.obj c fs) = mt c := by unfold fnOf D.ins D.der; rfl
theorem jQ {mt : Nat → Option Fn} : fnOf mt h (.no c fs) = mt c := by unfold fnOf D.ins D.der; rfl
theorem dU {fr : Fr} : Dk [] [] fr = some fr := by unfold Dk; rfl
theorem bO {fr : Fr} {k : Nat} {ks : List Nat} {d : D} : Dk (k :: ks) (d :: ds) fr = Dk ks ds (fr.set k (some d)) := by rw [Dk]
theorem dW {fr : Fr} : vU fr [] = fr := by unfold vU; rfl
theorem bQ {fr : Fr} {k : Nat} {ks : List Nat} : vU fr (k :: ks) = (vU fr ks).set k none := by rw [vU]
theorem jR {dfl es : List D} : aK dfl ds es = ds ++ dfl := by unfold aK; rfl
theorem dX {α : Type} {xs : List α} : pick [] xs = [] := by unfold pick; rfl
theorem bR {α : Type} {xs : List α} {k : Nat} {ks : List Nat} : pick (k :: ks) xs = xs[k]?.toList ++ pick ks xs := by
 unfold pick
 rw [List.filterMap_cons]
 cases xs[k]? <;> rfl
theorem dY {α : Type} {x : α} : (some x).toList = [x] := by unfold Option.toList; rfl
theorem dZ : wj l = some l := by unfold wj; rfl
theorem jT : Qo l = some [] := by unfold Qo; rfl
theorem jU {d : D} : Et d l = if l.length < big then some (l ++ [d]) else none := by unfold Et; rfl
end
theorem pY : big = 100000 := by unfold big; rfl
def QL (f : Fl) (A : Prop) (B : Fl → Prop) (_ : T7 A B := ⟨⟩) : Prop := match f with
 | .nx => A
 | .ct => A
 | .brk => B .nx
 | .rt d => B (.rt d)
theorem mX {A : Prop} {B : Fl → Prop} : QL .nx A B = A := by unfold QL; rfl
theorem mY {A : Prop} {B : Fl → Prop} : QL .ct A B = A := by unfold QL; rfl
theorem gY {A : Prop} {B : Fl → Prop} : QL .brk A B = B .nx := by unfold QL; rfl
theorem ni {d : D} {A : Prop} {B : Fl → Prop} : QL (.rt d) A B = B (.rt d) := by unfold QL; rfl
section
variable {L : Fl → Fr → Hh → Prop} {E : bh → Fr → Hh → Prop} {g : D → M Unit} {b : M Fl}
theorem nu {fr : Fr} {h : Hh} : Wp (Es g b [] fr h) L E = L .nx fr h := by unfold Es; exact mU
theorem nA {d : D} {ds : List D} {fr : Fr} {h : Hh} : Wp (Es g b (d :: ds) fr h) L E = Wp (g d fr h) (fun _ fr h => Wp (b fr h) (fun f fr h => QL f (Wp (Es g b ds fr h) L E) fun f => L f fr h) E) wR := by
 rw [Es]
 dsimp only
 cases g d fr h with
 | ok u fr h =>
   rw [ou]
   dsimp only
   cases b fr h with
   | ok f fr h =>
     rw [ou]
     cases f with
     | nx => rw [mX]
     | ct => rw [mY]
     | brk => rw [gY]; exact ou
     | rt d => rw [ni]; exact ou
   | exc x fr h => unfold Wp; rfl
   | err => unfold Wp; rfl
 | exc x fr h => unfold Wp wR; rfl
 | err => unfold Wp; rfl
theorem agO {α : Type} {F : α → D} {xs : List α} (I : List α → Fr → Hh → Prop) {fr : Fr} {h : Hh} (i0 : I [] fr h)
 (st : ∀ pre a suf fr h, xs = pre ++ a :: suf → I pre fr h → Wp (g (F a) fr h) (fun _ fr h => Wp (b fr h) (fun f fr h => QL f (I (pre ++ [a]) fr h) fun f => L f fr h) E) wR)
 (en : ∀ fr h, I xs fr h → L .nx fr h) : Wp (Es g b (xs.map F) fr h) L E := by
 have main : ∀ (suf pre : List α) (fr : Fr) (h : Hh), xs = pre ++ suf → I pre fr h → Wp (Es g b (suf.map F) fr h) L E := by
  intro suf
  induction suf with
  | nil =>
    intro pre fr h e i
    rw [aiW, nu]
    rw [aiV] at e
    subst e
    exact en fr h i
  | cons a suf ih =>
    intro pre fr h e i
    rw [aiU, nA]
    refine (st pre a suf fr h e i).mono fun _ fr1 h1 w => w.mono fun f fr2 h2 z => ?_
    have e' : xs = (pre ++ [a]) ++ suf := by rw [e, List.append_assoc]; rfl
    cases f with
    | nx => rw [mX] at z ⊢; exact ih _ _ _ e' z
    | ct => rw [mY] at z ⊢; exact ih _ _ _ e' z
    | brk => rw [gY] at z ⊢; exact z
    | rt d => rw [ni] at z ⊢; exact z
 exact main xs [] fr h rfl i0
theorem aaV {lo : Int} {n : Nat} (I : Int → Fr → Hh → Prop) {fr : Fr} {h : Hh} (i0 : I lo fr h)
 (st : ∀ j fr h, lo ≤ j → j < lo + n → I j fr h → Wp (g (.int j) fr h) (fun _ fr h => Wp (b fr h) (fun f fr h => QL f (I (j + 1) fr h) fun f => L f fr h) E) wR)
 (en : ∀ fr h, I (lo + n) fr h → L .nx fr h) : Wp (Es g b (Kv lo n) fr h) L E := by
 have e : Kv lo n = ((List.range n).map fun (k : Nat) => lo + (k : Int)).map D.int := by unfold Kv; rw [List.map_map]; rfl
 rw [e]
 refine agO (fun pre fr h => I (lo + pre.length) fr h) (by simpa using i0) (fun pre a suf fr h ex i => ?_) (fun fr h i => en fr h ?_)
 · have hl : pre.length < n := by
    have := congrArg List.length ex
    simp only [aje, List.length_range, ajk, aiX] at this
    omega
   have ha : a = lo + pre.length := by
    have := congrArg (fun l => l[pre.length]?) ex
    simp only [ajm, List.getElem?_range hl, Option.map_some, ajl (Nat.le_refl _), Nat.sub_self, ai2, Option.some.injEq] at this
    exact this.symm
   subst ha
   have z := st (lo + pre.length) fr h (by omega) (by omega) i
   rw [ajk, List.length_singleton, Int.natCast_add, ← Int.add_assoc]
   exact z
 · simpa using i
end
section
variable {vs : List Nat} {g : D → M Unit} {t : M Bool} {e : M D}
theorem jV {d : D} {Q : Option D → Fr → Hh → Prop} {E : bh → Fr → Hh → Prop} {fr : Fr} {h : Hh} : Wp (xj vs g t e d fr h) Q E = Wp (g d fr h) (fun _ fr h => Wp (t fr h) (fun b fr h => Cd b (Wp (e fr h) (fun y fr h => Bx (vU fr vs) fun fr => Q (some y) fr h) wR) (Bx (vU fr vs) fun fr => Q none fr h)) wR) wR := by
 unfold xj Bx
 cases g d fr h with
 | ok u fr h =>
   rw [ou]
   dsimp only
   cases t fr h with
   | ok b fr h =>
     rw [ou]
     cases b with
     | true =>
       rw [ue]
       dsimp only
       cases e fr h with
       | ok y fr h => rw [ou]; exact ou (E := wR)
       | exc x fr h => unfold Wp wR; rfl
       | err => unfold Wp; rfl
     | false => rw [uf]; exact ou
   | exc x fr h => unfold Wp wR; rfl
   | err => unfold Wp; rfl
 | exc x fr h => unfold Wp wR; rfl
 | err => unfold Wp; rfl
theorem afD {fr : Fr} {h : Hh} : Be vs g t e [] fr h = .ok [] fr h := by unfold Be; rfl
end
end Pk
namespace Pk
open PySem PySem.Spec L2
structure Em (α : Type) [DecidableEq α] where
 f : α → PyData
 n : Nat
 ok : α → Prop
 lay : ∀ a, ok a → (f a).canLay0 = true
 dep : ∀ a, (f a).depth ≤ n
 eq : ∀ a b, PyData.eqv (f a) (f b) = decide (a = b)
theorem afE (a b : Int) : (a == b) = decide (a = b) := by
 by_cases e : a = b
 · subst e; simp
 · simp [e]
def Em.int : Em Int where
 f := .int
 n := 0
 ok := fun _ => True
 lay := fun _ _ => rfl
 dep := fun _ => Nat.le_refl 0
 eq := fun a b => by
  show (a == b) = _
  exact afE a b
def zU (s : Str) : Bool := (PyData.str s).canLay0
def Em.str : Em Str where
 f := .str
 n := 0
 ok := fun s => zU s = true
 lay := fun _ h => h
 dep := fun _ => Nat.le_refl 0
 eq := fun a b => by
  show (a == b) = _
  by_cases e : a = b
  · subst e; simp
  · simp [e]
section
variable {α β : Type} [DecidableEq α] [DecidableEq β]
theorem Em.all_lay (A : Em α) : ∀ {l : List α}, (∀ a ∈ l, A.ok a) → PyData.canLayAll0 (l.map A.f) = true
 | [], _ => rfl
 | a :: l, h => by
   rw [aiU, PyData.canLayAll0, A.lay a (h a ajb), A.all_lay fun x hx => h x (ajf _ hx)]
   rfl
theorem Em.all_dep (A : Em α) : ∀ l : List α, PyData.depthAll (l.map A.f) ≤ A.n
 | [] => Nat.zero_le _
 | a :: l => by
   rw [aiU, PyData.depthAll]
   exact Nat.max_le.mpr ⟨A.dep a, A.all_dep l⟩
theorem Em.all_eq (A : Em α) : ∀ l m : List α, PyData.eqvAll (l.map A.f) (m.map A.f) = decide (l = m)
 | [], [] => rfl
 | [], b :: m => by simp [PyData.eqvAll]
 | a :: l, [] => by simp [PyData.eqvAll]
 | a :: l, b :: m => by
   rw [aiU, aiU, PyData.eqvAll, A.eq, A.all_eq l m]
   by_cases e : a = b <;> by_cases e2 : l = m <;> simp [e, e2]
def Em.list (A : Em α) : Em (List α) where
 f := fun l => .list (l.map A.f)
 n := A.n + 1
 ok := fun l => ∀ a ∈ l, A.ok a
 lay := fun l h => by rw [PyData.canLay0]; exact A.all_lay h
 dep := fun l => by rw [PyData.depth]; exact Nat.succ_le_succ (A.all_dep l)
 eq := fun l m => by rw [PyData.eqv]; exact A.all_eq l m
def Em.tup (A : Em α) : Em (List α) where
 f := fun l => .tuple (l.map A.f)
 n := A.n + 1
 ok := fun l => ∀ a ∈ l, A.ok a
 lay := fun l h => by rw [PyData.canLay0]; exact A.all_lay h
 dep := fun l => by rw [PyData.depth]; exact Nat.succ_le_succ (A.all_dep l)
 eq := fun l m => by rw [PyData.eqv]; exact A.all_eq l m
def Em.pair (A : Em α) (B : Em β) : Em (α × β) where
 f := fun p => .tuple [A.f p.1, B.f p.2]
 n := max A.n B.n + 1
 ok := fun p => A.ok p.1 ∧ B.ok p.2
 lay := fun p h => by
  rw [PyData.canLay0, PyData.canLayAll0, PyData.canLayAll0, PyData.canLayAll0, A.lay _ h.1, B.lay _ h.2]; rfl
 dep := fun p => by
  rw [PyData.depth, PyData.depthAll, PyData.depthAll, PyData.depthAll]
  have := A.dep p.1
  have := B.dep p.2
  omega
 eq := fun p q => by
  rw [PyData.eqv, PyData.eqvAll, PyData.eqvAll, PyData.eqvAll, A.eq, B.eq]
  obtain ⟨a, b⟩ := p
  obtain ⟨c, d⟩ := q
  by_cases e : a = c <;> by_cases e2 : b = d <;> simp [e, e2]
def Em.opt (A : Em α) (hn : ∀ a, PyData.eqv .none (A.f a) = false ∧ PyData.eqv (A.f a) .none = false) : Em (Option α) where
 f := fun o => match o with
   | some a => A.f a
   | none => .none
 n := A.n
 ok := fun o => ∀ a, o = some a → A.ok a
 lay := fun o h => by
  cases o with
  | none => rfl
  | some a => exact A.lay a (h a rfl)
 dep := fun o => by
  cases o with
  | none => exact Nat.zero_le _
  | some a => exact A.dep a
 eq := fun o p => by
  cases o with
  | none => cases p with
    | none => rfl
    | some b => simp only [(hn b).1]; simp
  | some a => cases p with
    | none => simp only [(hn a).2]; simp
    | some b => simp only [A.eq]; simp
theorem Em.shaped (A : Em α) {a : α} (h : A.ok a) (hn : A.n ≤ 64) : SeqAt.shaped (A.f a) = true := by
 unfold SeqAt.shaped
 rw [A.lay a h, decide_eq_true (Nat.le_trans (A.dep a) hn)]
 rfl
theorem Vh (A : Em α) {h : Hh} {d e : D} {a b : α} (hd : d.toP = some (A.f a)) (he : e.toP = some (A.f b)) (oa : A.ok a) (ob : A.ok b) (hn : A.n ≤ 64) : uE h d e = some (decide (a = b)) := by
 unfold uE
 rw [hd, he]
 dsimp only
 rw [A.shaped oa hn, A.shaped ob hn, ← A.eq]
 rfl
theorem Wu (A : Em α) {g : α → D} (hg : ∀ a, (g a).toP = some (A.f a)) : ∀ l : List α, D.toPs (l.map g) = some (l.map A.f)
 | [] => by rw [aiW, D.toPs]; rfl
 | a :: l => by
   rw [aiU, D.toPs, hg a, Wu A hg l]
   rfl
theorem agP (A : Em α) {g : α → D} (hg : ∀ a, (g a).toP = some (A.f a)) (l : List α) : (D.fl (l.map g)).toP = some (A.list.f l) := by
 rw [D.toP, Wu A hg]; rfl
theorem agQ (A : Em α) {g : α → D} (hg : ∀ a, (g a).toP = some (A.f a)) (l : List α) : (D.nl (l.map g)).toP = some (A.list.f l) := by
 rw [D.toP, Wu A hg]; rfl
theorem aaW (i : Int) : (D.int i).toP = some (Em.int.f i) := by unfold D.toP; rfl
theorem Kf (s : Str) : (D.str s).toP = some (Em.str.f s) := by unfold D.toP; rfl
end
section
variable {h : Hh} {l m : List Int} {v : Int}
end
theorem d8 {i : Nat} : FJ i [] = [] := by unfold FJ; rfl
theorem bT {i : Nat} {d : D} {l : List D} : FJ i (d :: l) = .tup [.int (i : Int), d] :: FJ (i + 1) l := by rw [FJ]
theorem pZ {l : List D} : (D.fl l).lst = some l := by unfold D.lst; rfl
theorem qb {l : List D} : (D.kl l).lst = some l := by unfold D.lst; rfl
theorem jW {l : List D} : (D.tup l).lst = some l := by unfold D.lst; rfl
def psI (d : D) : Option Int := match d with
 | .int i => some i
 | _ => none
theorem jX {i : Int} : psI (.int i) = some i := by unfold psI; rfl
theorem qd {m : M D} {I : Option Int → Fr → Hh → Prop} {E : bh → Fr → Hh → Prop} {fr : Fr} {h : Hh} : Wp (UL m fr h) I E = Wp (m fr h) (fun d fr h => Op (psI d) fun i => I (some i) fr h) E := by
 rw [ahq]
 congr 1
theorem ad7 {α : Type} {l : List α} {k : Nat} : l.take (min k l.length) = l.take k := by
 by_cases hk : k ≤ l.length
 · rw [Nat.min_eq_left hk]
 · rw [Nat.min_eq_right (by omega), List.take_length, List.take_of_length_le (by omega)]
theorem qj {α : Type} {l : List α} {k : Int} (h0 : 0 ≤ k) : cutD l none (some k) = l.take k.toNat := by
 unfold cutD HT.sIx
 dsimp only
 rw [if_neg (by omega), aiY, Nat.sub_zero, ad7]
theorem ql {α : Type} {l : List α} {k : Int} (h0 : 0 ≤ k) : cutD l (some k) none = l.drop k.toNat := by
 unfold cutD HT.sIx
 dsimp only
 rw [if_neg (by omega)]
 by_cases hk : k.toNat ≤ l.length
 · rw [Nat.min_eq_left hk, List.take_of_length_le (by rw [List.length_drop]; omega)]
 · rw [Nat.min_eq_right (by omega), List.drop_of_length_le (Nat.le_refl _), List.drop_of_length_le (by omega), List.take_nil]
theorem qm {α : Type} {l : List α} : cutD l none (some (-1)) = l.dropLast := by
 unfold cutD HT.sIx
 dsimp only
 rw [if_pos (by decide), aiY, Nat.sub_zero, List.dropLast_eq_take]
 congr 1
 omega
theorem d9 {h : Hh} {l : List D} {p : Option Int × Option Int} : zR h (.tup l) p = some (.tup (cutD l p.1 p.2)) := by unfold zR; rfl
theorem jY {h : Hh} {l : List D} {p : Option Int × Option Int} : zR h (.fl l) p = some (.nl (cutD l p.1 p.2)) := by unfold zR; rfl
theorem jZ {h : Hh} {l : List D} {p : Option Int × Option Int} : zR h (.nl l) p = some (.nl (cutD l p.1 p.2)) := by unfold zR; rfl
theorem j5 {h : Hh} {l : List D} {p : Option Int × Option Int} : zR h (.kl l) p = some (.nl (cutD l p.1 p.2)) := by unfold zR; rfl
theorem nY {vs : List Nat} {g : D → M Unit} {t : M Bool} {e : M D} {Q : List D → Fr → Hh → Prop} {E : bh → Fr → Hh → Prop} {fr : Fr} {h : Hh} : Wp (Be vs g t e [] fr h) Q E = Q [] fr h := by rw [afD, ou]
theorem nZ {vs : List Nat} {g : D → M Unit} {t : M Bool} {e : M D} {Q : List D → Fr → Hh → Prop} {E : bh → Fr → Hh → Prop} {fr : Fr} {h : Hh} {d : D} {ds : List D} : Wp (Be vs g t e (d :: ds) fr h) Q E = Wp (xj vs g t e d fr h) (fun o fr h => Wp (Be vs g t e ds fr h) (fun r fr h => Q (Ag o r) fr h) E) E := by
 rw [Be, wp_bind]
 have : (fun (a : Option D) (fr : Fr) (h : Hh) => Wp ((Be vs g t e ds).bind (fun r => M.ret (Ag a r)) fr h) Q E) = fun o fr h => Wp (Be vs g t e ds fr h) (fun r fr h => Q (Ag o r) fr h) E := by
  funext a fr h
  rw [wp_bind]
  have : (fun (r : List D) (fr : Fr) (h : Hh) => Wp (M.ret (Ag a r) fr h) Q E) = fun r fr h => Q (Ag a r) fr h := by
   funext r fr h
   exact mU
  rw [this]
 rw [this]
theorem bU {α : Type} {y : α} {r : List α} : Ag (some y) r = y :: r := by unfold Ag; rfl
theorem bV {α : Type} {r : List α} : Ag none r = r := by unfold Ag; rfl
theorem agS {i : Int} (h1 : -100000 ≤ i) (h2 : i ≤ 100000) : Tw i = true := by
 unfold Tw
 rw [decide_eq_true (show -(2 ^ 62) ≤ i by omega), decide_eq_true (show i < 2 ^ 62 by omega)]
 rfl
theorem afF {n : Nat} {N : Int} {b : M Fl} {ns : List Int} (hn : 2 ≤ n) (h1 : 1 ≤ N) (hN : N ≤ 63)
 (hb : ∀ (k : Nat) (xs : Fr) (h : Hh), (k : Int) < N → xs.length = n - 2 → Wp (b (some (.kl (ns.map .int)) :: some (.int k) :: xs) h) (fun f fr _ => (f = .nx ∨ f = .ct) ∧ ∃ x1 ys, fr = some (.kl (ns.map .int)) :: x1 :: ys ∧ ys.length = n - 2) wR) :
 ∃ fr h, tR n (aC (Fw (Jc (bf RD (mC (.int 1)) (bf RG (mC (.int N)) (mQ vh (iz 0))))) (wg 1) b) (gK (mC (.bl true)))) [.kl (ns.map .int)] [] = .ok (.bl true) fr h := by
 have w : Wp (tR n (aC (Fw (Jc (bf RD (mC (.int 1)) (bf RG (mC (.int N)) (mQ vh (iz 0))))) (wg 1) b) (gK (mC (.bl true)))) [.kl (ns.map .int)] []) (fun d _ _ => d = .bl true) wR := by
  have es : startF n [.kl (ns.map .int)] = some (.kl (ns.map .int)) :: none :: List.replicate (n - 2) none := by
   unfold startF
   obtain ⟨m, rfl⟩ : ∃ m, n = m + 2 := ⟨n - 2, by omega⟩
   simp [ai4]
  simp only [ir, es, gR, ↓m7, ↓gU, ↓ig, ↓rQ, ↓tZ, ↓rR, ↓nM, ai2, ie, iw, gM, nQ, rW, true_and, uR, aje]
  generalize hz : (if (if (ns.length : Int) < N then (ns.length : Int) else N) > 1 then (if (ns.length : Int) < N then (ns.length : Int) else N) else 1) = z
  have z1 : 1 ≤ z := by rw [← hz]; split <;> omega
  have z2 : z ≤ N := by rw [← hz]; split <;> split at * <;> omega
  rw [agS (by omega) (by omega)]
  simp only [↓reduceIte, gM]
  refine aaV (fun _ fr _ => ∃ x1 ys, fr = some (.kl (ns.map .int)) :: x1 :: ys ∧ ys.length = n - 2) ⟨none, _, rfl, by simp⟩ ?_ ?_
  · rintro j fr h j0 j1 ⟨x1, ys, rfl, hy⟩
    simp only [↓il, aiZ, ai0, gR]
    have ej : ((j.toNat : Nat) : Int) = j := by omega
    have := hb j.toNat ys h (by omega) hy
    rw [ej] at this
    refine this.mono ?_
    rintro f fr h ⟨rfl | rfl, q⟩
    · rw [mX]; exact q
    · rw [mY]; exact q
  · rintro fr h ⟨x1, ys, rfl, hy⟩
    simp only [nH, ↓nO, ↓tZ, nJ]
 obtain ⟨d, fr, h, e, rfl⟩ := w.ex
 exact ⟨fr, h, e⟩
end Pk
namespace Pk
open PySem PySem.Spec L2
section
variable {Q : D → Fr → Hh → Prop} {E : bh → Fr → Hh → Prop} {fr : Fr} {h : Hh} {ma mb : M D} {mk : M (List D)} {F : Fn} {m : Nat} {mt : Nat → Option Fn}
theorem ad8 : Wq (abq m F ma mk fr h) Q E = Wq (ma fr h) (fun d fr h => Wq (mk fr h) (fun es fr h => Oq (d.its []) fun ds => ds.length ≤ big ∧ es.length = m ∧ Wq (F (U0 ds es) h) (fun d _ h => Q d fr h) (fun x _ h => E x fr h)) E) E := by
 unfold abq
 rw [aA]
 congr 1
 funext d fr h
 rw [aA]
 congr 1
 funext es fr h
 cases d.its [] with
 | none => exact (bj (Q := Q) (E := E)).trans (rK (α := List D)).symm
 | some ds =>
   rw [rH]
   dsimp only
   split
   · rename_i hb; rw [BL]; simp only [hb.1, hb.2, true_and]
   · rename_i hb
     rw [bj, eq_iff_iff]
     exact ⟨False.elim, fun z => hb ⟨z.1, z.2.1⟩⟩
theorem j6 : Wp (abq m F ma mk fr h) Q E = Wp (ma fr h) (fun d fr h => Wp (mk fr h) (fun es fr h => Op (d.its []) fun ds => ds.length ≤ big ∧ es.length = m ∧ Wp (F (U0 ds es) h) (fun d _ h => Q d fr h) (fun x _ h => E x fr h)) E) E := ad8
theorem eE {ds es : List D} : U0 ds es = es ++ [.tup ds] := by unfold U0; rfl
theorem afG : Wq (ade mt ma mb fr h) Q E = Wq (ma fr h) (fun x fr h => Wq (mb fr h) (fun y fr h => Oq (RP mt h x y) fun F => Wq (F [x, y] h) (fun d _ h => Q d fr h) (fun x _ h => E x fr h)) E) E := by
 unfold ade
 rw [aA]
 congr 1
 funext x fr h
 rw [aA]
 congr 1
 funext y fr h
 cases RP mt h x y with
 | none => exact (bj (Q := Q) (E := E)).trans (rK (α := Fn)).symm
 | some F => rw [rH]; exact BL
theorem qp : Wp (ade mt ma mb fr h) Q E = Wp (ma fr h) (fun x fr h => Wp (mb fr h) (fun y fr h => Op (RP mt h x y) fun F => Wp (F [x, y] h) (fun d _ h => Q d fr h) (fun x _ h => E x fr h)) E) E := afG
theorem j7 {c : Nat} {fs gs : List D} : RP mt h (.obj c fs) (.obj c gs) = mt c := by
 unfold RP CG D.ins D.der
 dsimp only
 rw [if_pos rfl]
end
section
variable {h : Hh} {l m : List Str} {w : Str}
end
section
variable {vs : List Nat} {g : D → M Unit} {t : M Bool} {e : M D}
end
end Pk
namespace Pk
open PySem PySem.Spec L2
def endF (i : Nat) (f : Fl) (fr : Fr) : Fr := match f with
 | .rt _ => fr
 | _ => fr.set i none
section
variable {Q : Fl → Fr → Hh → Prop} {S : D → Fr → Hh → Prop} {E : bh → Fr → Hh → Prop} {fr : Fr} {h : Hh} {i : Nat} {cond : Nat → Option Bool} {mb : M Fl} {ms : bh → M Fl} {ma mc : M D} {mt : Nat → Option Fn}
theorem j8 : endF i .nx fr = fr.set i none := rfl
theorem eG : endF i .brk fr = fr.set i none := rfl
theorem j9 : endF i .ct fr = fr.set i none := rfl
theorem kh {d : D} : endF i (.rt d) fr = fr := rfl
theorem aaX {r : R Fl} : Wq (adn i r) Q E = Wq r (fun f fr h => Q f (endF i f fr) h) E := by
 cases r with
 | ok f fr h => cases f <;> rfl
 | exc x fr h => rfl
 | err => rfl
theorem km : Wp (abv i cond mb ms fr h) Q E = Wp (mb fr h) Q (fun x fr1 h1 => Op (cond x.c) fun b => Cd b (i < fr1.length ∧ Bx (fr1.set i none) fun fr2 => Wp (ms x fr2 h1) (fun f fr3 h3 => Q f (endF i f fr3) h3) E) (E x fr1 h1)) := by
 show Wq (abv i cond mb ms fr h) Q E = Wq (mb fr h) Q (fun x fr1 h1 => Oq (cond x.c) fun b => Hg b (i < fr1.length ∧ Bq (fr1.set i none) fun fr2 => Wq (ms x fr2 h1) (fun f fr3 h3 => Q f (endF i f fr3) h3) E) (E x fr1 h1))
 unfold abv
 cases e : mb fr h with
 | err => rfl
 | ok f fr1 h1 => cases f <;> rfl
 | exc x fr1 h1 =>
   rw [Ik]
   dsimp only
   cases cond x.c with
   | none => rw [rK]; exact bj
   | some b =>
     rw [rH]
     cases b with
     | false => rw [JV]; exact Ik
     | true =>
       rw [JT]
       dsimp only
       by_cases hl : i < fr1.length
       · rw [if_pos hl, aaX]
         unfold Bq
         simp only [hl, true_and]
       · rw [if_neg hl, bj]
         simp only [hl, false_and]
theorem kE : Wp (abw cond mb ms fr h) Q E = Wp (mb fr h) Q (fun x fr1 h1 => Op (cond x.c) fun b => Cd b (Wp (ms x fr1 h1) Q E) (E x fr1 h1)) := by
 show Wq (abw cond mb ms fr h) Q E = Wq (mb fr h) Q (fun x fr1 h1 => Oq (cond x.c) fun b => Hg b (Wq (ms x fr1 h1) Q E) (E x fr1 h1))
 unfold abw
 cases e : mb fr h with
 | err => rfl
 | ok f fr1 h1 => cases f <;> rfl
 | exc x fr1 h1 =>
   rw [Ik]
   dsimp only
   cases cond x.c with
   | none => rw [rK]; exact bj
   | some b =>
     rw [rH]
     cases b with
     | false => rw [JV]; exact Ik
     | true => rw [JT]
theorem eO {c n : Nat} {chk : List D → Bool} {mas : M (List D)} : Wp (YM c n chk mas fr h) Q E = Wp (mas fr h) (fun ds fr h => ds.length = n ∧ chk ds = true ∧ E ⟨c, ds⟩ fr h) E := by
 show Wq (YM c n chk mas fr h) Q E = Wq (mas fr h) (fun ds fr h => ds.length = n ∧ chk ds = true ∧ E ⟨c, ds⟩ fr h) E
 unfold YM
 rw [aA]
 congr 1
 funext ds fr h
 by_cases hl : ds.length = n ∧ chk ds = true
 · rw [if_pos hl, Ik]
   simp only [hl.1, hl.2, true_and]
 · rw [if_neg hl, bj]
   refine propext ⟨False.elim, fun z => hl ⟨z.1, z.2.1⟩⟩
theorem qu {tab : Tg → Tg → Option Bool} {c : Nat} : Wp (adm tab c mc fr h) S E = Wp (mc fr h) (fun d fr h => Op (adl tab c d) fun b => S (.bl b) fr h) E := by
 show Wq (adm tab c mc fr h) S E = Wq (mc fr h) (fun d fr h => Oq (adl tab c d) fun b => S (.bl b) fr h) E
 unfold adm
 rw [aA]
 congr 1
 funext d fr h
 rw [sr, R7]
theorem tK {ix : Nat → Option Nat} {x : bh} : Wp (mXF ix x fr h) S E = Op (ix x.c) fun j => Op (x.fs[j]?) fun d => S d fr h := by
 show Wq (mXF ix x fr h) S E = Oq (ix x.c) fun j => Oq (x.fs[j]?) fun d => S d fr h
 unfold mXF
 cases ix x.c with
 | none => exact bj.trans rK.symm
 | some j =>
   rw [rH]
   show Wq (mXf j x fr h) S E = _
   unfold mXf
   cases x.fs[j]? with
   | none => exact bj.trans rK.symm
   | some d => rw [rH]; exact wG
theorem kJ : Wp (abx mt ma mc fr h) S E = Wp (ma fr h) (fun x fr h => Wp (mc fr h) (fun y fr h => Op (fnOf mt h x) fun F => Op (y.bty h) fun _ => Wp (F [x, y] h) (fun d _ h => S d fr h) (fun x _ h => E x fr h)) E) E := by
 show Wq (abx mt ma mc fr h) S E = Wq (ma fr h) (fun x fr h => Wq (mc fr h) (fun y fr h => Oq (fnOf mt h x) fun F => Oq (y.bty h) fun _ => Wq (F [x, y] h) (fun d _ h => S d fr h) (fun x _ h => E x fr h)) E) E
 unfold abx
 simp only [aA]
 congr 1
 funext x fr h
 congr 1
 funext y fr h
 cases fnOf mt h x with
 | none => exact bj.trans rK.symm
 | some F =>
   rw [rH]
   cases y.bty h with
   | none => exact bj.trans rK.symm
   | some t => rw [rH]; exact BL
theorem kW : Wp (aby mt ma mc fr h) S E = Wp (ma fr h) (fun x fr h => Wp (mc fr h) (fun y fr h => Op (fnOf mt h y) fun F => x.smp = true ∧ Wp (F [y, x] h) (fun d _ h => S d fr h) (fun x _ h => E x fr h)) E) E := by
 show Wq (aby mt ma mc fr h) S E = Wq (ma fr h) (fun x fr h => Wq (mc fr h) (fun y fr h => Oq (fnOf mt h y) fun F => x.smp = true ∧ Wq (F [y, x] h) (fun d _ h => S d fr h) (fun x _ h => E x fr h)) E) E
 unfold aby
 simp only [aA]
 congr 1
 funext x fr h
 congr 1
 funext y fr h
 cases fnOf mt h y with
 | none => exact bj.trans rK.symm
 | some F =>
   rw [rH]
   cases x.smp with
   | false =>
     refine bj.trans ?_
     simp
   | true =>
     simp only [true_and]
     exact BL
end
section
variable {h : Hh} {i : Int} {b : Bool} {z : Str} {l : List D}
theorem kY : D.smp .non = true := rfl
theorem qw : D.smp (.bl b) = true := rfl
theorem kZ : D.smp (.int i) = true := rfl
theorem lg : D.bty h .non = some "NoneType" := rfl
theorem qC : D.bty h (.bl b) = some "bool" := rfl
theorem lu : D.bty h (.int i) = some "int" := rfl
theorem lw : D.bty h (.str z) = some "str" := rfl
theorem lA : D.bty h (.tup l) = some "tuple" := rfl
theorem qD : D.bty h (.fl l) = some "list" := rfl
theorem qF : D.bty h (.kl l) = some "list" := rfl
end
end Pk
namespace Pk
open PySem PySem.Spec L2
def QM (d : D) (K : Int → Prop) : Prop := match d with
 | .int i => 0 ≤ i ∧ i < 2 ^ 60 ∧ K i
 | _ => False
section
variable {Q : Bool → Fr → Hh → Prop} {S : D → Fr → Hh → Prop} {E : bh → Fr → Hh → Prop} {fr : Fr} {h : Hh} {ma mb : M D} {mt : Nat → Option Fn}
theorem eQ {i : Int} {K : Int → Prop} : QM (.int i) K = (0 ≤ i ∧ i < 2 ^ 60 ∧ K i) := by unfold QM; rfl
theorem Kg {o : D} {as : List D} : Wq (Gq mt o as fr h) S E = Oq (fnOf mt h o) fun F => Wq (F (o :: as) h) (fun d _ h => S d fr h) wR := by
 unfold Gq
 cases fnOf mt h o with
 | none => exact bj.trans rK.symm
 | some F =>
   rw [rH]
   dsimp only
   cases F (o :: as) h <;> (unfold Wq; rfl)
theorem ZD {o : D} {as : List D} : Wq (Ou mt o as fr h) S E = Oq (fnOf mt h o) fun F => Wq (F (o :: as) h) (fun d _ h => S d fr h) (fun x _ h => E x fr h) := by
 unfold Ou
 cases fnOf mt h o with
 | none => exact bj.trans rK.symm
 | some F =>
   rw [rH]
   dsimp only
   exact BL
theorem lB : Wp (abB mt ma fr h) S E = Wp (ma fr h) (fun o fr h => Op (fnOf mt h o) fun F => Wp (F [o] h) (fun d _ h => QM d fun i => S (.int i) fr h) wR) E := by
 show Wq (abB mt ma fr h) S E = Wq (ma fr h) (fun o fr h => Oq (fnOf mt h o) fun F => Wq (F [o] h) (fun d _ h => QM d fun i => S (.int i) fr h) wR) E
 unfold abB
 rw [aA]
 congr 1
 funext o fr h
 rw [aA, Kg]
 congr 1
 funext F
 congr 1
 funext d fr1 h1
 unfold abA QM
 cases d with
 | int i =>
   dsimp only
   by_cases hi : 0 ≤ i ∧ i < 2 ^ 60
   · rw [if_pos hi, wG]
     exact propext ⟨fun z => ⟨hi.1, hi.2, z⟩, fun z => z.2.2⟩
   · rw [if_neg hi, bj]
     exact propext ⟨False.elim, fun z => hi ⟨z.1, z.2.1⟩⟩
 | _ => exact bj
theorem lC : Wp (abC mt ma mb fr h) S E = Wp (ma fr h) (fun o fr h => Wp (mb fr h) (fun i fr h => Op (fnOf mt h o) fun F => Wp (F [o, i] h) (fun d _ h => S d fr h) (fun x _ h => E x fr h)) E) E := by
 show Wq (abC mt ma mb fr h) S E = Wq (ma fr h) (fun o fr h => Wq (mb fr h) (fun i fr h => Oq (fnOf mt h o) fun F => Wq (F [o, i] h) (fun d _ h => S d fr h) (fun x _ h => E x fr h)) E) E
 unfold abC
 rw [aA]
 congr 1
 funext o fr h
 rw [aA]
 congr 1
 funext i fr h
 exact ZD
theorem qG {α : Type} {P : α → Fr → Hh → Prop} {g : D → D → M α} : Wp (Wl g ma mb fr h) P E = Wp (ma fr h) (fun x fr h => Wp (mb fr h) (fun y fr h => Wp (g x y fr h) P E) E) E := by
 show Wq (Wl g ma mb fr h) P E = Wq (ma fr h) (fun x fr h => Wq (mb fr h) (fun y fr h => Wq (g x y fr h) P E) E) E
 unfold Wl
 simp only [aA]
theorem ZF {d : D} {c : Bool → Bool} : Wq (((Y5 d).bind fun b => M.ret (c b)) fr h) Q E = Oq d.tb fun b => Q (c b) fr h := by
 unfold Y5
 rw [aA, sr]
 rfl
theorem qH {c : Bool → Bool} {x o : D} : Wp (gIn mt c x o fr h) Q E = Op (fnOf mt h o) fun F => Wp (F [o, x] h) (fun d _ h => Op d.tb fun b => Q (c b) fr h) wR := by
 show Wq (gIn mt c x o fr h) Q E = Oq (fnOf mt h o) fun F => Wq (F [o, x] h) (fun d _ h => Oq d.tb fun b => Q (c b) fr h) wR
 unfold gIn
 rw [aA, Kg]
 congr 1
 funext F
 congr 1
 funext d fr1 h1
 exact ZF
end
end Pk
namespace Pk
open PySem PySem.Spec L2
section
variable {Q : Bool → Fr → Hh → Prop} {E : bh → Fr → Hh → Prop} {fr : Fr} {h : Hh} {mt : Nat → Option Fn} {n m : Nat} {fs gs : List D}
theorem qI {c : Bool → Bool} {x y : D} : Wp (Vb mt c x y fr h) Q E = (((y.bty h).isSome || (CG h x y).isSome) = true ∧ Op (fnOf mt h x) fun F => Wp (F [x, y] h) (fun d _ h => Op d.tb fun b => Q (c b) fr h) wR) := by
 show Wq (Vb mt c x y fr h) Q E = (((y.bty h).isSome || (CG h x y).isSome) = true ∧ Oq (fnOf mt h x) fun F => Wq (F [x, y] h) (fun d _ h => Oq d.tb fun b => Q (c b) fr h) wR)
 unfold Vb
 cases hc : ((y.bty h).isSome || (CG h x y).isSome) with
 | false =>
   rw [if_neg (by simp), bj]
   simp
 | true =>
   rw [if_pos rfl, aA, Kg]
   simp only [true_and]
   congr 1
   funext F
   congr 1
   funext d fr1 h1
   exact ZF
theorem eU : CG h (.obj n fs) (.obj n gs) = some n := by
 unfold CG D.ins D.der
 dsimp only
 rw [if_pos rfl]
theorem lD : D.bty h (.obj n fs) = none := rfl
theorem qJ : D.bty h (.no n fs) = none := rfl
theorem qK : D.bty h (.nl fs) = some "list" := rfl
end
end Pk
namespace Pk
open PySem PySem.Spec L2
def ad9 (l : List D) (d : D) : Option (D × List D) := match d with
 | .int j => if -(2 ^ 63) ≤ j ∧ j < 2 ^ 63 then (match seqIndex? j l.length with
   | some q => (match l[q]? with
     | some y => some (y, l.eraseIdx q)
     | none => none)
   | none => none) else none
 | _ => none
def ZG (x d : D) (K : D → List D → Prop) : Prop := match x with
 | .nl l => Oq (ad9 l d) fun p => K p.1 p.2
 | _ => False
section
variable {S : D → Fr → Hh → Prop} {E : bh → Fr → Hh → Prop} {fr : Fr} {h : Hh} {ma : M D} {mas : M (List D)} {mt : Nat → Option Fn} {i n c : Nat} {d : D} {l : List D}
theorem lE {K : D → List D → Prop} : ZG (.nl l) d K = Op (ad9 l d) fun p => K p.1 p.2 := by unfold ZG; rfl
theorem qL : Wp (Kd i d fr h) S E = Sl fr[i]? fun x => ZG x d fun y l' => Bx (fr.set i (some (.nl l'))) fun fr => S y fr h := by
 show Wq (Kd i d fr h) S E = Sq fr[i]? fun x => ZG x d fun y l' => Bq (fr.set i (some (.nl l'))) fun fr => S y fr h
 unfold Kd
 cases fr[i]? with
 | none => exact bj
 | some o =>
   cases o with
   | none => exact bj.trans K9.symm
   | some x =>
     rw [BK]
     unfold ZG
     cases x with
     | nl l =>
       dsimp only
       unfold ad9
       cases d with
       | int j =>
         dsimp only
         by_cases hj : -(2 ^ 63) ≤ j ∧ j < 2 ^ 63
         · rw [if_pos hj, if_pos hj]
           cases seqIndex? j l.length with
           | none => exact bj.trans rK.symm
           | some q =>
             dsimp only
             cases l[q]? with
             | none => exact bj.trans rK.symm
             | some y => exact wG.trans rH.symm
         · rw [if_neg hj, if_neg hj]
           exact bj.trans rK.symm
       | _ => exact bj.trans rK.symm
     | _ => exact bj
theorem lF : Wp (abD i ma fr h) S E = Wp (mO i wj fr h) (fun _ fr h => Wp (ma fr h) (fun d fr h => Wp (Kd i d fr h) S E) E) E := by
 show Wq (abD i ma fr h) S E = Wq (mO i wj fr h) (fun _ fr h => Wq (ma fr h) (fun d fr h => Wq (Kd i d fr h) S E) E) E
 unfold abD
 simp only [aA]
theorem eV : Wp (Y7 mt ma fr h) S E = Wp (ma fr h) (fun o fr h => Op (fnOf mt h o) fun F => Wp (F [o] h) (fun d _ h => QM d fun i => S (.bl (i != 0)) fr h) wR) E := by
 show Wq (Y7 mt ma fr h) S E = Wq (ma fr h) (fun o fr h => Oq (fnOf mt h o) fun F => Wq (F [o] h) (fun d _ h => QM d fun i => S (.bl (i != 0)) fr h) wR) E
 unfold Y7
 rw [aA]
 congr 1
 funext o fr h
 rw [aA, Kg]
 congr 1
 funext F
 congr 1
 funext d fr1 h1
 rw [aA]
 unfold abA QM
 cases d with
 | int i =>
   dsimp only
   by_cases hi : 0 ≤ i ∧ i < 2 ^ 60
   · rw [if_pos hi, wG, sr, rH]
     exact propext ⟨fun z => ⟨hi.1, hi.2, z⟩, fun z => z.2.2⟩
   · rw [if_neg hi, bj]
     exact propext ⟨False.elim, fun z => hi ⟨z.1, z.2.1⟩⟩
 | _ => exact bj
theorem tL {F : Fn} : Wp (mCm n c F mas fr h) S E = Wp (mas fr h) (fun ds fr h => ds.length = n ∧ Wp (F (.cls c :: ds) h) (fun d _ h => S d fr h) (fun x _ h => E x fr h)) E := by
 show Wq (mCm n c F mas fr h) S E = Wq (mas fr h) (fun ds fr h => ds.length = n ∧ Wq (F (.cls c :: ds) h) (fun d _ h => S d fr h) (fun x _ h => E x fr h)) E
 unfold mCm
 rw [aA]
 congr 1
 funext ds fr h
 by_cases hl : ds.length = n
 · rw [if_pos hl, BL]
   simp only [hl, true_and]
 · rw [if_neg hl, bj]
   exact propext ⟨False.elim, fun z => hl z.1⟩
end
end Pk
namespace Pk
open PySem PySem.Spec L2
section
variable {Q : Bool → Fr → Hh → Prop} {E : bh → Fr → Hh → Prop} {fr : Fr} {h : Hh} {mb : M D} {i : Nat}
theorem eX {f : Hh → D → D → Option Bool} : Wp (Y8 i f mb fr h) Q E = Sl fr[i]? fun _ => Wp (mb fr h) (fun y fr h => Sl fr[i]? fun d => Op (f h d y) fun z => Q z fr h) E := by
 show Wq (Y8 i f mb fr h) Q E = Sq fr[i]? fun _ => Wq (mb fr h) (fun y fr h => Sq fr[i]? fun d => Oq (f h d y) fun z => Q z fr h) E
 unfold Y8
 rw [aA]
 unfold yu
 cases e : fr[i]? with
 | none => exact bj
 | some o =>
   cases o with
   | none => exact bj.trans K9.symm
   | some x =>
     dsimp only
     rw [wG, BK, aA]
     congr 1
     funext y fr1 h1
     rw [aA]
     unfold iz
     cases fr1[i]? with
     | none => exact bj
     | some o1 =>
       cases o1 with
       | none => exact bj.trans K9.symm
       | some d => dsimp only; rw [wG, BK, sr]
end
end Pk
namespace Pk
open PySem PySem.Spec L2
def EqK {α : Type} (o : Option α) (A B : Prop) : Prop := match o with
 | some _ => A
 | none => B
section
variable {Q : Bool → Fr → Hh → Prop} {E : bh → Fr → Hh → Prop} {fr : Fr} {h : Hh} {mt : Nat → Option Fn} {i : Int} {b c : Bool} {z : Str} {l : List D}
theorem cQ {α : Type} {a : α} {A B : Prop} : EqK (some a) A B = A := by unfold EqK; rfl
theorem cR {α : Type} {A B : Prop} : EqK (none : Option α) A B = B := by unfold EqK; rfl
theorem lG {c : Bool → Bool} {x y : D} : Wp (Uk mt c x y fr h) Q E = EqK (fnOf mt h x) (Wp (Vb mt c x y fr h) Q E) ((x.bty h).isSome = true ∧ Op (fnOf mt h y) fun F => Wp (F [y, x] h) (fun d _ h => Op d.tb fun b => Q (c b) fr h) wR) := by
 show Wq (Uk mt c x y fr h) Q E = EqK (fnOf mt h x) (Wq (Vb mt c x y fr h) Q E) ((x.bty h).isSome = true ∧ Oq (fnOf mt h y) fun F => Wq (F [y, x] h) (fun d _ h => Oq d.tb fun b => Q (c b) fr h) wR)
 unfold Uk
 cases fnOf mt h x with
 | some G => rw [cQ]
 | none =>
   rw [cR]
   dsimp only
   cases hc : (x.bty h).isSome with
   | false =>
     rw [if_neg (by simp), bj]
     simp
   | true =>
     rw [if_pos rfl, aA, Kg]
     simp only [true_and]
     congr 1
     funext F
     congr 1
     funext d fr1 h1
     exact ZF
theorem eY : fnOf mt h .non = none := rfl
theorem lH : fnOf mt h (.bl b) = none := rfl
theorem eZ : fnOf mt h (.int i) = none := rfl
theorem fj : fnOf mt h (.str z) = none := rfl
theorem fu : fnOf mt h (.tup l) = none := rfl
theorem lJ : fnOf mt h (.fl l) = none := rfl
theorem lK : ahO h (.bl b) (.bl c) = some (decide (b = c)) := rfl
theorem fB : ahk h (.bl b) (.bl c) = some (!decide (b = c)) := rfl
end
end Pk
namespace Pk
open PySem PySem.Spec L2
section
variable {Q : Bool → Fr → Hh → Prop} {E : bh → Fr → Hh → Prop} {fr : Fr} {h : Hh} {mt : Nat → Option Fn} {nf : Nat → Nat}
theorem lL {x y : D} : Wp (adw mt nf x y fr h) Q E = Op (abE mt nf h x y) fun b => Q b fr h := by
 show Wq (adw mt nf x y fr h) Q E = Oq (abE mt nf h x y) fun b => Q b fr h
 unfold adw
 exact sr
theorem fD {l m : List D} : abE mt nf h (.tup l) (.tup m) = adu mt nf h l m := rfl
end
end Pk
namespace Pk
open PySem PySem.Spec L2
section
variable {Q : Fl → Fr → Hh → Prop} {E : bh → Fr → Hh → Prop} {fr : Fr} {h : Hh} {i : Nat} {cond : Nat → Option Bool} {mb : M Fl} {ms : bh → M Fl} {x : bh} {cs : List Hd}
theorem fG : Wp (zX [] x fr h) Q E = E x fr h := by
 show Wq (zX [] x fr h) Q E = _
 unfold zX
 exact Ik
theorem fH : Wp (zX ((some i, cond, ms) :: cs) x fr h) Q E = Op (cond x.c) fun b => Cd b (i < fr.length ∧ Bx (fr.set i none) fun fr2 => Wp (ms x fr2 h) (fun f fr3 h3 => Q f (endF i f fr3) h3) E) (Wp (zX cs x fr h) Q E) := by
 show Wq (zX ((some i, cond, ms) :: cs) x fr h) Q E = Oq (cond x.c) fun b => Hg b (i < fr.length ∧ Bq (fr.set i none) fun fr2 => Wq (ms x fr2 h) (fun f fr3 h3 => Q f (endF i f fr3) h3) E) (Wq (zX cs x fr h) Q E)
 rw [zX]
 dsimp only
 cases cond x.c with
 | none => rw [rK]; exact bj
 | some b =>
   rw [rH]
   cases b with
   | false => rw [JV]
   | true =>
     rw [JT]
     dsimp only
     by_cases hl : i < fr.length
     · rw [if_pos hl, aaX]
       unfold Bq
       simp only [hl, true_and]
     · rw [if_neg hl, bj]
       simp only [hl, false_and]
theorem fJ : Wp (zX ((none, cond, ms) :: cs) x fr h) Q E = Op (cond x.c) fun b => Cd b (Wp (ms x fr h) Q E) (Wp (zX cs x fr h) Q E) := by
 show Wq (zX ((none, cond, ms) :: cs) x fr h) Q E = Oq (cond x.c) fun b => Hg b (Wq (ms x fr h) Q E) (Wq (zX cs x fr h) Q E)
 rw [zX]
 dsimp only
 cases cond x.c with
 | none => rw [rK]; exact bj
 | some b =>
   rw [rH]
   cases b with
   | false => rw [JV]
   | true => rw [JT]
theorem lM : Wp (abF cs mb fr h) Q E = Wp (mb fr h) Q (fun x fr1 h1 => Wp (zX cs x fr1 h1) Q E) := by
 show Wq (abF cs mb fr h) Q E = Wq (mb fr h) Q (fun x fr1 h1 => Wq (zX cs x fr1 h1) Q E)
 unfold abF
 cases e : mb fr h with
 | err => rfl
 | ok f fr1 h1 => cases f <;> rfl
 | exc x fr1 h1 => rfl
end
end Pk
namespace Pk
open PySem PySem.Spec L2
theorem fK {h : Hh} {b : Bool} : ahl h (.bl b) = some (.str (if b then "True" else "False")) := rfl
theorem bW {h : Hh} {b : Bool} : acG h (.bl b) = some (.bl b) := rfl
theorem bz {h : Hh} {i : Int} : acG h (.int i) = some (.bl (i != 0)) := rfl
end Pk
namespace Pk
open PySem PySem.Spec L2
section
variable {Q : Fl → Fr → Hh → Prop} {E : bh → Fr → Hh → Prop} {fr : Fr} {h : Hh} {c : Nat} {ma : M D}
theorem bY : Wp (Wm c ma fr h) Q E = Wp (ma fr h) (fun _ fr h => E ⟨c, []⟩ fr h) E := by
 show Wq (Wm c ma fr h) Q E = Wq (ma fr h) (fun _ fr h => E ⟨c, []⟩ fr h) E
 unfold Wm
 rw [aA]
 rfl
end
end Pk
namespace Pk
open PySem PySem.Spec L2
section
variable {G : List D → Fr → Hh → Prop} {E : bh → Fr → Hh → Prop} {fr : Fr} {h : Hh} {ma mb : M D} {a b : D} {l m : List D}
theorem qM : Wp (adx ma mb fr h) G E = Wp (ma fr h) (fun x fr h => Wp (mb fr h) (fun y fr h => Op (Zb x y) fun l => G l fr h) E) E := by
 show Wq (adx ma mb fr h) G E = Wq (ma fr h) (fun x fr h => Wq (mb fr h) (fun y fr h => Oq (Zb x y) fun l => G l fr h) E) E
 unfold adx
 simp only [aA, sr]
theorem lN {n : Nat} {gs : List D → M Unit} {U : Unit → Fr → Hh → Prop} : Wp (Wn n gs (.tup l) fr h) U E = (l.length = n ∧ Wp (gs l fr h) U E) := by
 show Wq (Wn n gs (.tup l) fr h) U E = (l.length = n ∧ Wq (gs l fr h) U E)
 unfold Wn
 dsimp only
 split
 · rename_i hb; simp only [hb, true_and]
 · rename_i hb; rw [sr, rK]; simp only [hb, false_and]
theorem fL {n : Nat} {gs : List D → M Unit} {U : Unit → Fr → Hh → Prop} : Wp (Wn n gs (.fl l) fr h) U E = (l.length = n ∧ Wp (gs l fr h) U E) := by
 show Wq (Wn n gs (.fl l) fr h) U E = (l.length = n ∧ Wq (gs l fr h) U E)
 unfold Wn
 dsimp only
 split
 · rename_i hb; simp only [hb, true_and]
 · rename_i hb; rw [sr, rK]; simp only [hb, false_and]
theorem lO : Zb (.fl l) (.fl m) = some (Ov l m) := rfl
theorem lQ : Zb (.tup l) (.tup m) = some (Ov l m) := rfl
end
end Pk
namespace Pk
open PySem PySem.Spec L2
def aiB : List Int → Int
 | a :: r => abd a r
 | [] => 0
end Pk
namespace Pk
open PySem PySem.Spec L2
section
variable {L : Fl → Fr → Hh → Prop} {E : bh → Fr → Hh → Prop} {g : D → M Unit} {b : M Fl} {n : Nat} {l : List D} {fr : Fr} {h : Hh} {G : Nat × List D × List D → Fr → Hh → Prop} {li : M (Nat × List D × List D)} {ma mb : M D}
theorem fM : Wp (Zd li g b fr h) L E = Wp (li fr h) (fun x fr h => Wp (Ve x.1 x.2.1 g b x.2.2 fr h) L E) E := by
 show Wq (Zd li g b fr h) L E = Wq (li fr h) (fun x fr h => Wq (Ve x.1 x.2.1 g b x.2.2 fr h) L E) E
 unfold Zd
 simp only [aA]
theorem qN : Wp (M7 ma fr h) G E = Wp (ma fr h) (fun d fr h => Op ((FP h d).map fun x => (x.1, x.2, x.2)) fun x => G x fr h) E := by
 show Wq (M7 ma fr h) G E = Wq (ma fr h) (fun d fr h => Oq ((FP h d).map fun x => (x.1, x.2, x.2)) fun x => G x fr h) E
 unfold M7
 simp only [aA, sr]
theorem lU : Wp (abH ma mb fr h) G E = Wp (ma fr h) (fun d fr h => Wp (mb fr h) (fun e fr h => Op (ady h d e) fun x => G x fr h) E) E := by
 show Wq (abH ma mb fr h) G E = Wq (ma fr h) (fun d fr h => Wq (mb fr h) (fun e fr h => Oq (ady h d e) fun x => G x fr h) E) E
 unfold abH
 simp only [aA, sr]
end
end Pk
namespace Pk
open PySem PySem.Spec L2
def Xk (d : D) (K : Str → Prop) : Prop := match d with
 | .str y => K y
 | _ => False
def Pb (d : D) (K : Int → Prop) : Prop := match d with
 | .int y => K y
 | _ => False
section
variable {α : Type} {Q : α → Fr → Hh → Prop} {S : D → Fr → Hh → Prop} {L : Fl → Fr → Hh → Prop} {G : Str → Fr → Hh → Prop} {E : bh → Fr → Hh → Prop} {fr : Fr} {h : Hh} {m ma mb : M D} {ml mh : M (Option Int)} {mt : Nat → Option Fn} {i : Nat} {ms : List (M D)} {acc : Str}
theorem lV {y : Str} {K : Str → Prop} : Xk (.str y) K = K y := by unfold Xk; rfl
theorem lW {y : Int} {K : Int → Prop} : Pb (.int y) K = K y := by unfold Pb; rfl
theorem fO : Wp (Zf mt ma ml mh fr h) S E = Wp (ma fr h) (fun o fr h => Wp (ml fr h) (fun l fr h => Wp (mh fr h) (fun u fr h => Op (fnOf mt h o) fun F => Wp (F [o, .sl l u] h) (fun d _ h => S d fr h) (fun x _ h => E x fr h)) E) E) E := by
 show Wq (Zf mt ma ml mh fr h) S E = Wq (ma fr h) (fun o fr h => Wq (ml fr h) (fun l fr h => Wq (mh fr h) (fun u fr h => Oq (fnOf mt h o) fun F => Wq (F [o, .sl l u] h) (fun d _ h => S d fr h) (fun x _ h => E x fr h)) E) E) E
 unfold Zf
 simp only [aA, ZD]
theorem fP : Wp (Zh ma fr h) S E = Wp (ma fr h) (fun d fr h => Op (bRg (.int 0) d) fun z => S z fr h) E := by
 show Wq (Zh ma fr h) S E = Wq (ma fr h) (fun d fr h => Oq (bRg (.int 0) d) fun z => S z fr h) E
 unfold Zh
 simp only [aA, sr]
theorem fQ : Wp (Zi ma mb fr h) S E = Wp (ma fr h) (fun d fr h => Wp (mb fr h) (fun e fr h => Op (bRg d e) fun z => S z fr h) E) E := by
 show Wq (Zi ma mb fr h) S E = Wq (ma fr h) (fun d fr h => Wq (mb fr h) (fun e fr h => Oq (bRg d e) fun z => S z fr h) E) E
 unfold Zi
 simp only [aA, sr]
theorem qO {f : Int → Int → Int} : Wp (Ow i f m fr h) L E = Sl fr[i]? fun x => Pb x fun a => Wp (m fr h) (fun d fr h => Pb d fun b => Bx (fr.set i (some (.int (f a b)))) fun fr => L .nx fr h) E := by
 show Wq (Ow i f m fr h) L E = Sq fr[i]? fun x => Pb x fun a => Wq (m fr h) (fun d fr h => Pb d fun b => Bq (fr.set i (some (.int (f a b)))) fun fr => L .nx fr h) E
 unfold Ow
 cases fr[i]? with
 | none => exact bj
 | some o =>
   cases o with
   | none => exact bj.trans K9.symm
   | some x =>
     rw [BK]
     unfold Pb
     cases x with
     | int a =>
       dsimp only
       rw [aA]
       congr 1
       funext d fr h
       cases d <;> first | exact wG | exact bj
     | _ => exact bj
theorem qP : Wp (yX m fr h) S E = Wp (m fr h) (fun d fr h => Op (Zj d) fun z => S z fr h) E := by
 show Wq (yX m fr h) S E = Wq (m fr h) (fun d fr h => Oq (Zj d) fun z => S z fr h) E
 unfold yX
 simp only [aA, sr]
theorem qQ : Wp (Pa [] acc fr h) G E = G acc fr h := mU
theorem qR : Wp (Pa (m :: ms) acc fr h) G E = Wp (m fr h) (fun d fr h => Xk d fun y => (acc ++ y).length ≤ big ∧ Wp (Pa ms (acc ++ y) fr h) G E) E := by
 show Wq (Pa (m :: ms) acc fr h) G E = Wq (m fr h) (fun d fr h => Xk d fun y => (acc ++ y).length ≤ big ∧ Wq (Pa ms (acc ++ y) fr h) G E) E
 rw [Pa, aA]
 congr 1
 funext d fr h
 unfold Xk
 cases d with
 | str y =>
   dsimp only
   split
   · rename_i hl
     simp only [hl, true_and]
   · rename_i hl
     rw [sr, rK]
     simp only [hl, false_and]
 | _ => exact sr.trans rK
theorem lX : Wp (BJ ms fr h) S E = Wp (Pa ms Str.empty fr h) (fun z fr h => S (.str z) fr h) E := by
 show Wq (BJ ms fr h) S E = Wq (Pa ms Str.empty fr h) (fun z fr h => S (.str z) fr h) E
 unfold BJ
 simp only [aA, tY]
theorem fU {f : Str → M Fl} : Wp (QH m f fr h) L E = Wp (m fr h) (fun d fr h => Xk d fun z => Wp (f z fr h) L E) E := by
 show Wq (QH m f fr h) L E = Wq (m fr h) (fun d fr h => Xk d fun z => Wq (f z fr h) L E) E
 unfold QH
 rw [aA]
 congr 1
 funext d fr h
 unfold Xk
 cases d <;> first | rfl | exact bj
theorem bZ {z : Str} : Wp (Dc [] z fr h) L E = L .nx fr h := mU
theorem cA {z : Str} {ss : List Str} {b : M Fl} {r : List (List Str × M Fl)} : Wp (Dc ((ss, b) :: r) z fr h) L E = Cd (ss.contains z) (Wp (b fr h) L E) (Wp (Dc r z fr h) L E) := by
 show Wq ((if ss.contains z then b else Dc r z) fr h) L E = Hg (ss.contains z) (Wq (b fr h) L E) (Wq (Dc r z fr h) L E)
 exact Il
theorem fV {l : List D} {lo hi : Option Int} : R4 h (.nl l) (.sl lo hi) = some (.nl (cutD l lo hi)) := by
 unfold R4
 rfl
theorem cC {l : List D} {lo hi : Option Int} : R4 h (.fl l) (.sl lo hi) = some (.nl (cutD l lo hi)) := by
 unfold R4
 rfl
theorem cD {d : D} {k : Int} : R4 h d (.int k) = gJ h d (.int k) := by
 unfold R4
 rfl
theorem lY {tab : Tg → Tg → Option Bool} {lo hi : Option Int} : X7 tab h (.sl lo hi) (.ty "int") = some (.bl false) := by
 unfold X7
 dsimp only
 rw [if_pos (by decide)]
theorem fX {tab : Tg → Tg → Option Bool} {k : Int} {c : D} : X7 tab h (.int k) c = Kz tab h (.int k) c := by
 unfold X7
 rfl
theorem qT {lo hi : Option Int} : (D.sl lo hi).own = false := rfl
theorem tM {lo hi : Option Int} : (D.sl lo hi).fz = .sl lo hi := rfl
end
end Pk
namespace Pk
open PySem PySem.Spec L2
end Pk
namespace Pk
open PySem PySem.Spec L2
section
variable {h : Hh}
theorem qU {xs : List Int} : Yb h (.nl (xs.map .int)) = some (.int xs.sum) := rY
theorem qW {xs : List Int} : Yb h (.fl (xs.map .int)) = some (.int xs.sum) := rZ
theorem qX {xs : List Int} : Yb h (.tup (xs.map .int)) = some (.int xs.sum) := by
 unfold Yb
 dsimp only
 rw [Vg]
 rfl
theorem Wp.out {α : Type} {r : R α} {Q : α → Fr → Hh → Prop} (w : Wp r Q wR) : ∃ a fr h, r = .ok a fr h ∧ Q a fr h := by
 cases r with
 | ok a fr h => exact ⟨a, fr, h, rfl, w⟩
 | exc y fr1 h1 => exact (show False from w).elim
 | err => exact (show False from w).elim
end
end Pk
namespace Pk
open PySem PySem.Spec L2
section
variable {S : D → Fr → Hh → Prop} {E : bh → Fr → Hh → Prop} {fr : Fr} {h : Hh} {ma : M D} {mt : Nat → Option Fn}
theorem qY : Wp (adz mt ma fr h) S E = Wp (ma fr h) (fun o fr h => Op (fnOf mt h o) fun F => Wp (F [o] h) (fun d _ h => S d fr h) wR) E := by
 show Wq (adz mt ma fr h) S E = Wq (ma fr h) (fun o fr h => Oq (fnOf mt h o) fun F => Wq (F [o] h) (fun d _ h => S d fr h) wR) E
 unfold adz
 rw [aA]
 congr 1
 funext o fr h
 rw [Kg]
end
end Pk
namespace Pk
open PySem PySem.Spec L2
def Oxq (o : Option (Fn × Bool)) (A B : Fn → Prop) : Prop := match o with
 | some (F, false) => A F
 | some (F, true) => B F
 | none => False
def OxK (o : Option (Fn × Bool)) (A B : Fn → Prop) (_ : T7 A B := ⟨⟩) : Prop := Oxq o A B
theorem uB {F : Fn} {A B : Fn → Prop} : OxK (some (F, false)) A B = A F := rfl
theorem uC {F : Fn} {A B : Fn → Prop} : OxK (some (F, true)) A B = B F := rfl
section
variable {S : D → Fr → Hh → Prop} {E : bh → Fr → Hh → Prop} {fr : Fr} {h : Hh} {ma mb : M D} {mtl mtr : Nat → Option Fn}
theorem qZ : Wp (adA mtl mtr ma mb fr h) S E = Wp (ma fr h) (fun x fr h => Wp (mb fr h) (fun y fr h => OxK (Yc mtl mtr h x y) (fun F => Wp (F [x, y] h) (fun d _ h => S d fr h) (fun x _ h => E x fr h)) (fun F => Wp (F [y, x] h) (fun d _ h => S d fr h) (fun x _ h => E x fr h))) E) E := by
 show Wq (adA mtl mtr ma mb fr h) S E = Wq (ma fr h) (fun x fr h => Wq (mb fr h) (fun y fr h => Oxq (Yc mtl mtr h x y) (fun F => Wq (F [x, y] h) (fun d _ h => S d fr h) (fun x _ h => E x fr h)) (fun F => Wq (F [y, x] h) (fun d _ h => S d fr h) (fun x _ h => E x fr h))) E) E
 unfold adA
 rw [aA]
 congr 1
 funext x fr h
 rw [aA]
 congr 1
 funext y fr h
 cases Yc mtl mtr h x y with
 | none => exact bj
 | some Fb =>
   obtain ⟨F, b⟩ := Fb
   cases b
   · exact BL
   · exact BL
end
end Pk
namespace Pk
open PySem PySem.Spec L2
section
variable {S : D → Fr → Hh → Prop} {E : bh → Fr → Hh → Prop} {fr : Fr} {h : Hh} {mo ma : M D}
theorem fY : Wp (Zo mo ma fr h) S E = Wp (mo fr h) (fun o fr h => (o.lstP h).isSome = true ∧ Wp (ma fr h) (fun x fr h => Op (Wo h o x) fun z => S z fr h) E) E := by
 show Wq (Zo mo ma fr h) S E = Wq (mo fr h) (fun o fr h => (o.lstP h).isSome = true ∧ Wq (ma fr h) (fun x fr h => Oq (Wo h o x) fun z => S z fr h) E) E
 unfold Zo
 rw [aA]
 congr 1
 funext o fr h
 cases e : (o.lstP h).isSome with
 | true =>
   rw [if_pos rfl, aA]
   simp only [true_and]
   congr 1
   funext x fr h
   exact sr
 | false =>
   rw [if_neg Bool.false_ne_true]
   simp only [Bool.false_eq_true, false_and]
   exact bj
end
section
variable {α : Type} [DecidableEq α] {h : Hh} {x y : D} {a : α} {l : List α}
end
end Pk
namespace Pk
open PySem PySem.Spec L2
section
variable {Q : D → Fr → Hh → Prop} {S : List D → Fr → Hh → Prop} {E : bh → Fr → Hh → Prop} {fr : Fr} {h : Hh} {n : Nat} {l : List D} {vs : List Nat} {g : D → M Unit} {t : M Bool} {e : M D}
theorem rA {li : M (Nat × List D × List D)} : Wp (K8 vs li g t e fr h) Q E = Wp (li fr h) (fun x fr h => x.2.2.length ≤ big ∧ Bx (vU fr vs) fun fr => Wp (vW x.1 x.2.1 vs g t e x.2.2 fr h) (fun r fr h => Q (.nl r) fr h) E) E := by
 show Wq (K8 vs li g t e fr h) Q E = Wq (li fr h) (fun x fr h => x.2.2.length ≤ big ∧ Bq (vU fr vs) fun fr => Wq (vW x.1 x.2.1 vs g t e x.2.2 fr h) (fun r fr h => Q (.nl r) fr h) E) E
 unfold K8 X6 Bq; rw [aA]
 congr 1
 funext ds fr h
 rw [aA, wG]
 split
 · rename_i hb; rw [aA]; simp only [tY, hb, true_and]
 · rename_i hb; rw [sr, rK]; simp only [hb, false_and]
theorem ZJ (hc : h[n]? = some (.nl l)) : vW n l vs g t e [] fr h = .ok [] fr h := by unfold vW; rw [if_pos hc]
theorem Xl {d : D} {ds : List D} {o : Option D} {r : List D} {fr1 fr2 : Fr} {h1 h2 : Hh} (hc : h[n]? = some (.nl l)) (e1 : xj vs g t e d fr h = .ok o fr1 h1) (e2 : vW n l vs g t e ds fr1 h1 = .ok r fr2 h2) : vW n l vs g t e (d :: ds) fr h = .ok (Ag o r) fr2 h2 := by
 rw [vW]
 dsimp only
 rw [if_pos hc, M.bind_ok e1, M.bind_ok e2]
 rfl
theorem ZK {α : Type} {F G : α → D} (hc : h[n]? = some (.nl l)) : ∀ {xs : List α}, (∀ a ∈ xs, xj vs g t e (F a) fr h = .ok (some (G a)) fr h) → vW n l vs g t e (xs.map F) fr h = .ok (xs.map G) fr h
 | [], _ => ZJ hc
 | a :: xs, hh => by
   rw [aiU, aiU]
   exact Xl hc (hh a ajb) (ZK hc fun b hb => hh b (ajf _ hb))
end
end Pk
namespace Pk
open PySem PySem.Spec L2
def aea (h : Hh) (ix : Nat → Option Nat) (o d : D) : Option Hh := match o with
 | .ref n => match h[n]? with
   | some (.no c fs) => match ix c with
     | some i => match xg i d fs with
       | some fs' => some (h.set n (.no c fs'))
       | none => none
     | none => none
   | _ => none
 | _ => none
section
variable {Q : D → Fr → Hh → Prop} {L : Fl → Fr → Hh → Prop} {U : Unit → Fr → Hh → Prop} {E : bh → Fr → Hh → Prop} {fr : Fr} {h : Hh} {mo mv : M D} {ms : List (M D)}
theorem lZ : Wp (aeR fr h) Q E = Q (.ref h.length) fr (h ++ [.dc [] []]) := by
 unfold aeR
 exact ou
theorem mD : Wp (abM mo ms fr h) Q E = Wp (mo fr h) (fun o fr h => Wp (aj ms fr h) (fun ks fr h => Op (abL h o ks) fun z => Q z fr h) E) E := by
 show Wq (abM mo ms fr h) Q E = Wq (mo fr h) (fun o fr h => Wq (aj ms fr h) (fun ks fr h => Oq (abL h o ks) fun z => Q z fr h) E) E
 unfold abM
 simp only [aA, sr]
theorem mF : Wp (abN mo ms mv fr h) L E = Wp (mv fr h) (fun d fr h => Wp (mo fr h) (fun o fr h => Wp (aj ms fr h) (fun ks fr h => Op (Yd h o ks d) fun h' => L .nx fr h') E) E) E := by
 show Wq (abN mo ms mv fr h) L E = Wq (mv fr h) (fun d fr h => Wq (mo fr h) (fun o fr h => Wq (aj ms fr h) (fun ks fr h => Oq (Yd h o ks d) fun h' => L .nx fr h') E) E) E
 unfold abN
 rw [aA]
 congr 1
 funext d fr h
 rw [aA]
 congr 1
 funext o fr h
 rw [aA]
 congr 1
 funext ks fr h
 cases Yd h o ks d with
 | some h' => dsimp only; rw [wG]; rfl
 | none => dsimp only; rw [bj]; rfl
theorem fZ {j : Nat} {ix : Nat → Option Nat} {d : D} : Wp (abO j ix d fr h) U E = Sl fr[j]? fun o => Op (aea h ix o d) fun h' => U () fr h' := by
 show Wq (abO j ix d fr h) U E = Sq fr[j]? fun o => Oq (aea h ix o d) fun h' => U () fr h'
 unfold abO aea
 cases fr[j]? with
 | none => exact bj
 | some s =>
   cases s with
   | none => exact bj
   | some o =>
     cases o with
     | ref n =>
       dsimp only [Sq]
       cases h[n]? with
       | none => exact bj
       | some c =>
         cases c with
         | no c fs =>
           dsimp only
           cases ix c with
           | none => exact bj
           | some i =>
             dsimp only
             cases xg i d fs with
             | none => exact bj
             | some fs' => exact wG
         | _ => exact bj
     | _ => exact bj
theorem gh {c n m : Nat} {F : Fn} {gD : List D → List D → List D} {ma mk : M (List D)} : Wp (NB c n m F gD ma mk fr h) Q E = Wp (ma fr h) (fun ds fr h => Wp (mk fr h) (fun es fr h => ds.length = n ∧ es.length = m ∧ Wp (F (.ref h.length :: gD ds es) (h ++ [.no c []])) (fun d _ h' => d = .non ∧ Q (.ref h.length) fr h') (fun x _ h' => E x fr h')) E) E := by
 show Wq (NB c n m F gD ma mk fr h) Q E = Wq (ma fr h) (fun ds fr h => Wq (mk fr h) (fun es fr h => ds.length = n ∧ es.length = m ∧ Wq (F (.ref h.length :: gD ds es) (h ++ [.no c []])) (fun d _ h' => d = .non ∧ Q (.ref h.length) fr h') (fun x _ h' => E x fr h')) E) E
 unfold NB
 rw [aA]
 congr 1
 funext ds fr h
 rw [aA]
 congr 1
 funext es fr h
 split
 · rename_i hb
   simp only [hb.1, hb.2, true_and]
   cases F (.ref h.length :: gD ds es) (h ++ [.no c []]) with
   | ok d fr' h' => cases d <;> simp [abP, Wq]
   | exc x fr' h' => rfl
   | err => rfl
 · rename_i hb
   rw [bj, eq_iff_iff]
   exact ⟨False.elim, fun z => hb ⟨z.1, z.2.1⟩⟩
end
end Pk
namespace Pk
open PySem PySem.Spec L2
section
variable {E : bh → Fr → Hh → Prop} {fr : Fr} {h : Hh} {G : Nat × List D × List D → Fr → Hh → Prop} {ma : M D}
theorem gj : Wp (Zt ma fr h) G E = Wp (ma fr h) (fun d fr h => Op ((FP h d).map fun x => (x.1, x.2, FJ 0 x.2)) fun x => G x fr h) E := by
 show Wq (Zt ma fr h) G E = Wq (ma fr h) (fun d fr h => Oq ((FP h d).map fun x => (x.1, x.2, FJ 0 x.2)) fun x => G x fr h) E
 unfold Zt
 simp only [aA, sr]
end
end Pk
namespace Pk
open PySem PySem.Spec L2
def ZL (d : D) (K : Nat → Prop) : Prop := match d with
 | .ref n => K n
 | _ => False
def Uq (d : D) (K : Nat → List D → Prop) : Prop := match d with
 | .no c fs => K c fs
 | _ => False
section
variable {S : D → Fr → Hh → Prop} {L : Fl → Fr → Hh → Prop} {A : List D → Fr → Hh → Prop} {E : bh → Fr → Hh → Prop} {fr : Fr} {h : Hh} {m mo mt : M D} {ma : M (List D)} {t : M Bool} {b : M Fl} {i j n : Nat}
theorem gq {K : Nat → Prop} : ZL (.ref n) K = K n := by unfold ZL; rfl
theorem mG {c : Nat} {fs : List D} {K : Nat → List D → Prop} : Uq (.no c fs) K = K c fs := by unfold Uq; rfl
theorem cG {ix : Nat → Option Nat} {f : Int → Int → Int} : Wp (Bp j ix f m fr h) L E = Sl fr[j]? fun x => ZL x fun n => Op h[n]? fun o => Uq o fun c fs => Op (ix c) fun i => Op fs[i]? fun y => Pb y fun a => Wp (m fr h) (fun d fr h => Pb d fun b => Op h[n]? fun o => Uq o fun c' fs' => c' = c ∧ Op (xg i (.int (f a b)) fs') fun fs'' => L .nx fr (h.set n (.no c fs''))) E := by
 show Wq (Bp j ix f m fr h) L E = Sq fr[j]? fun x => ZL x fun n => Oq h[n]? fun o => Uq o fun c fs => Oq (ix c) fun i => Oq fs[i]? fun y => Pb y fun a => Wq (m fr h) (fun d fr h => Pb d fun b => Oq h[n]? fun o => Uq o fun c' fs' => c' = c ∧ Oq (xg i (.int (f a b)) fs') fun fs'' => L .nx fr (h.set n (.no c fs''))) E
 unfold Bp
 cases fr[j]? with
 | none => exact bj
 | some o =>
   cases o with
   | none => exact bj.trans K9.symm
   | some x =>
     rw [BK]
     unfold ZL
     cases x with
     | ref n =>
       dsimp only
       cases h[n]? with
       | none => exact bj
       | some o =>
         rw [rH]
         unfold Uq
         cases o with
         | no c fs =>
           dsimp only
           cases ix c with
           | none => exact bj
           | some i =>
             rw [rH]
             dsimp only
             cases fs[i]? with
             | none => exact bj
             | some y =>
               rw [rH]
               unfold Pb
               cases y with
               | int a =>
                 dsimp only
                 rw [aA]
                 congr 1
                 funext d fr h
                 cases d with
                 | int b =>
                   dsimp only
                   cases h[n]? with
                   | none => exact bj
                   | some o =>
                     rw [rH]
                     cases o with
                     | no c' fs' =>
                       dsimp only
                       by_cases hc : c' = c
                       · rw [if_pos hc]
                         cases xg i (.int (f a b)) fs' with
                         | none => exact bj.trans (eq_iff_iff.mpr ⟨False.elim, fun z => z.2⟩)
                         | some fs'' => exact wG.trans (eq_iff_iff.mpr ⟨fun z => ⟨hc, z⟩, fun z => z.2⟩)
                       · rw [if_neg hc]
                         exact bj.trans (eq_iff_iff.mpr ⟨False.elim, fun z => hc z.1⟩)
                     | _ => exact bj
                 | _ => exact bj
               | _ => exact bj
         | _ => exact bj
     | _ => exact bj
theorem mH : Wp (Vf i m fr h) S E = Wp (mO i wj fr h) (fun _ fr h => Wp (m fr h) (fun d fr h => Wp (mO i (Zu d) fr h) (fun _ fr h => S .non fr h) E) E) E := by
 show Wq (Vf i m fr h) S E = Wq (mO i wj fr h) (fun _ fr h => Wq (m fr h) (fun d fr h => Wq (mO i (Zu d) fr h) (fun _ fr h => S .non fr h) E) E) E
 unfold Vf
 simp only [aA, tY]
theorem gA {mtb : Nat → Option Fn} : Wp (rO mtb mo ma fr h) S E = Wp (mo fr h) (fun o fr h => Op (fnOf mtb h o) fun F => Wp (ma fr h) (fun ds fr h => ds.length ≤ big ∧ Wp (F [o, .tup ds] h) (fun d _ h => S d fr h) (fun x _ h => E x fr h)) E) E := by
 show Wq (rO mtb mo ma fr h) S E = Wq (mo fr h) (fun o fr h => Oq (fnOf mtb h o) fun F => Wq (ma fr h) (fun ds fr h => ds.length ≤ big ∧ Wq (F [o, .tup ds] h) (fun d _ h => S d fr h) (fun x _ h => E x fr h)) E) E
 unfold rO
 rw [aA]
 congr 1
 funext o fr h
 cases fnOf mtb h o with
 | none => exact bj
 | some F =>
   rw [rH]
   dsimp only
   rw [aA]
   congr 1
   funext ds fr h
   by_cases hb : ds.length ≤ big
   · rw [if_pos hb]
     cases F [o, .tup ds] h with
     | ok d fr' h' => exact eq_iff_iff.mpr ⟨fun z => ⟨hb, z⟩, fun z => z.2⟩
     | exc x fr' h' => exact eq_iff_iff.mpr ⟨fun z => ⟨hb, z⟩, fun z => z.2⟩
     | err => exact eq_iff_iff.mpr ⟨fun z => z.elim, fun z => z.2⟩
   · rw [if_neg hb]
     exact bj.trans (eq_iff_iff.mpr ⟨False.elim, fun z => hb z.1⟩)
theorem rB : Wp (Ah m ma fr h) A E = Wp (m fr h) (fun d fr h => Op (d.its h) fun l => Wp (ma fr h) (fun r fr h => A (l ++ r) fr h) E) E := by
 show Wq (Ah m ma fr h) A E = Wq (m fr h) (fun d fr h => Oq (d.its h) fun l => Wq (ma fr h) (fun r fr h => A (l ++ r) fr h) E) E
 unfold Ah
 rw [aA]
 congr 1
 funext d fr h
 cases d.its h with
 | none => exact bj
 | some l =>
   rw [rH]
   dsimp only
   simp only [aA, tY]
theorem gG : Wp (Mi m ma fr h) A E = Wp (m fr h) (fun d fr h => Wp (ma fr h) (fun r fr h => A (d :: r) fr h) E) E := by
 show Wq (Mi m ma fr h) A E = Wq (m fr h) (fun d fr h => Wq (ma fr h) (fun r fr h => A (d :: r) fr h) E) E
 unfold Mi
 simp only [aA, tY]
def Vi (f : Fl) (again : Prop) (out : Fl → Prop) : Prop := match f with
 | .nx => again
 | .ct => again
 | .brk => out .nx
 | .rt d => out (.rt d)
theorem nj {p : Prop} {o : Fl → Prop} : Vi .nx p o = p := rfl
theorem nU {p : Prop} {o : Fl → Prop} : Vi .ct p o = p := rfl
theorem iy {p : Prop} {o : Fl → Prop} : Vi .brk p o = o .nx := rfl
theorem nW {p : Prop} {o : Fl → Prop} {d : D} : Vi (.rt d) p o = o (.rt d) := rfl
theorem acQ : Wp (yw t b (n + 1) fr h) L E = Wp (t fr h) (fun c fr h => if c then Wp (b fr h) (fun f fr h => Vi f (Wp (yw t b n fr h) L E) fun f => L f fr h) E else L .nx fr h) E := by
 show Wq (yw t b (n + 1) fr h) L E = Wq (t fr h) (fun c fr h => if c then Wq (b fr h) (fun f fr h => Vi f (Wq (yw t b n fr h) L E) fun f => L f fr h) E else L .nx fr h) E
 rw [yw]
 dsimp only
 cases t fr h with
 | ok c fr h =>
   cases c with
   | true =>
     rw [wG]
     dsimp only
     rw [if_pos rfl]
     cases b fr h with
     | ok f fr h => cases f <;> rfl
     | exc x fr h => rfl
     | err => rfl
   | false => rfl
 | exc x fr h => rfl
 | err => rfl
theorem abS {f : Hh → D → D → Option Bool} : Wp (zB i f m mt b (n + 1) fr h) L E = Wp (m fr h) (fun d fr h => Bx (fr.set i (some d)) fun fr => Wp (mt fr h) (fun y fr h => Op (f h d y) fun c => if c then Wp (b fr h) (fun g fr h => Vi g (Wp (zB i f m mt b n fr h) L E) fun g => L g fr h) E else L .nx fr h) E) E := by
 show Wq (zB i f m mt b (n + 1) fr h) L E = Wq (m fr h) (fun d fr h => Bq (fr.set i (some d)) fun fr => Wq (mt fr h) (fun y fr h => Oq (f h d y) fun c => if c then Wq (b fr h) (fun g fr h => Vi g (Wq (zB i f m mt b n fr h) L E) fun g => L g fr h) E else L .nx fr h) E) E
 rw [zB, aA]
 congr 1
 funext d fr h
 show Wq ((mt.bind _) (fr.set i (some d)) h) L E = Wq (mt (fr.set i (some d)) h) _ E
 rw [aA]
 congr 1
 funext y fr h
 cases f h d y with
 | none => exact bj
 | some c =>
   rw [rH]
   cases c with
   | true =>
     dsimp only
     rw [if_pos rfl]
     cases b fr h with
     | ok g fr h => cases g <;> rfl
     | exc x fr h => rfl
     | err => rfl
   | false => rfl
end
end Pk
namespace L
open PySem PySem.Spec L2 Pk
noncomputable section
def fld : Nat → List Str
 | 0 => ["readings", "words", "places", "spot"]
 | 1 => ["readings", "node"]
 | _ => []
abbrev T (K : PySem.W.Frag) : Tb := Tbo cn fld K
def tQ : Nat → Option Nat := fun c => ajd c [(0, 0), (1, 0)]
def Br : Nat → Option Nat := fun c => ajd c [(1, 1)]
def xT : Nat → Option Nat := fun c => ajd c [(0, 1)]
def zf : Nat → Option Nat := fun c => ajd c [(0, 2)]
def wU : Nat → Option Nat := fun c => ajd c [(0, 3)]
def QQ : Tg → Tg → Option Bool := abp [((.b "NoneType", .o 1), false), ((.b "bool", .o 1), false), ((.b "int", .o 1), false), ((.b "str", .o 1), false), ((.b "tuple", .o 1), false), ((.b "list", .o 1), false), ((.o 0, .b "bool"), false), ((.o 0, .b "int"), false), ((.o 0, .b "str"), false), ((.o 0, .b "tuple"), false), ((.o 0, .b "list"), false), ((.o 0, .o 1), false), ((.o 1, .b "bool"), false), ((.o 1, .b "int"), false), ((.o 1, .b "str"), false), ((.o 1, .b "tuple"), false), ((.o 1, .b "list"), false), ((.o 1, .o 1), true)]
def ah5 : Tg → Tg → Option Bool := ahN []
def yZ : List D := [.str "first", .str "last", .str "change", .str "rises"]
def Dd : List D := [.str "first", .str "last", .str "top", .str "low", .str "change", .str "rises", .str "told"]
def QR : List D := [.str "raw", .str "zero", .str "held"]
def Vj : List D := [.str "zero", .str "held"]
def BP : M Fl :=
    (aC (cP 3 (BW (bf cGe (mQ Oa (ak 2)) (bf aa9 (mC (.int 10)) (mC (.int 18)))) (mQ Oa (ak 2)) (mC (.int 0))))
    (gK (vq [(ak 3), (mJ (bf tV (mJ (bf tV (bf V7 (mQ yo (ak 2)) (mC (.int 2147483629))) (bf aa8 (mC (.int 15485863)) (ak 1)))) (mC (.int 7919)))), (mC (.int 0))])))
def Ca : M Fl :=
    (aC (cP 2 (BW (bf O6 (ak 1) (mQ vh (iz 0))) (gH 0 (ak 1) gJ) (mC (.int 0))))
    BP)
def xG : Fn := tR 4 Ca
def Im : M Fl :=
    (aC (cP 3 (bf V7 (mQ yo (bf aa9 (mJ (bf tV (ak 3) (bf aa8 (mC (.int 49979687)) (gH 0 (mC (.int 2)) gJ)))) (mC (.int 2)))) (mC (.int 2305843009213693951))))
    (gK (bf V7 (mQ yo (bf ac5 (ak 3) (mC (.int 4096)))) (ak 1))))
def Io : M Fl :=
    (aC (cP 3 (bf V7 (mQ yo (bf aa9 (mJ (bf tV (gH 0 (mC (.int 1)) gJ) (bf aa8 (mC (.int 32452843)) (gH 0 (mC (.int 2)) gJ)))) (mC (.int 3)))) (mC (.int 2305843009213693921))))
    Im)
def Ip : M Fl :=
    (aC (LC 0 (mJ (bf tV (gH 0 (mC (.int 2)) gJ) (mC (.int 1)))) (mC (.int 2)))
    Io)
def Jf : M Fl :=
    (aC (tO (bf cGt (gH 0 (mC (.int 0)) gJ) (mC (.int 0)))
    (aC (cP 2 (bf V7 (mQ yo (gH 0 (mC (.int 0)) gJ)) (ak 1)))
    (aC (LC 0 (bf ac5 (gH 0 (mC (.int 0)) gJ) (ak 1)) (mC (.int 0)))
    (gK (za 2))))
    (M.ret .nx))
    Ip)
def vG : Fn := tR 4 Jf
def QS : M Fl :=
    (gK (gH 1 (mJ (cJ 2 0 vG (aK []) (aj [(ak 0), (mQ vh (iz 1))]) (aj []))) gJ))
def v7 : Fn := tR 2 QS
def Dr : M Fl :=
    (aC (cP 5 (cJ 2 0 v7 (aK []) (aj [(ak 0), (mJ (vq [(mC (.str "first")), (mC (.str "last")), (mC (.str "top")), (mC (.str "low")), (mC (.str "change")), (mC (.str "rises")), (mC (.str "rises")), (mC (.str "told"))]))]) (aj [])))
    (gK (oh [(mC (.str "each")), (ak 5), (mJ (BW (bf uE (ak 5) (mC (.str "told"))) (mC (.str "raw")) (cJ 2 0 v7 (aK []) (aj [(ak 0), (mJ (vq [(mC (.str "raw")), (mC (.str "zero")), (mC (.str "held"))]))]) (aj [])))), (ak 2), (ak 3)])))
def Ds : M Fl :=
    (aC (tO (bf O6 (ak 4) (mC (.int 3)))
    (aC (cP 5 (cJ 2 0 v7 (aK []) (aj [(ak 0), (mJ (vq [(mC (.str "first")), (mC (.str "last")), (mC (.str "change")), (mC (.str "rises")), (mC (.str "rises"))]))]) (aj [])))
    (gK (oh [(mC (.str "all")), (ak 5), (mJ (cJ 2 0 v7 (aK []) (aj [(ak 0), (mJ (vq [(mC (.str "zero")), (mC (.str "held"))]))]) (aj []))), (ak 2), (ak 3)])))
    (M.ret .nx))
    Dr)
def Dt : M Fl :=
    (aC (tO (bf uE (ak 4) (mC (.int 0)))
    (gK (oh [(mC (.str "events")), (ak 2), (ak 3)]))
    (M.ret .nx))
    Ds)
def Du : M Fl :=
    (aC (cP 4 (cJ 2 0 vG (aK []) (aj [(ak 0), (mC (.int 5))]) (aj [])))
    Dt)
def Dy : M Fl :=
    (aC (cP 3 (cJ 2 0 v7 (aK []) (aj [(ak 0), (mJ (vq [(ak 1), (mJ (bf tV (mJ (bf tV (ak 2) (mC (.int 1)))) (mJ (cJ 2 0 vG (aK []) (aj [(ak 0), (bf Yk (ak 1) (ak 2))]) (aj [])))))]))]) (aj [])))
    Du)
def Fe : M Fl :=
    (aC (cP 2 (cJ 2 0 v7 (aK []) (aj [(ak 0), (mJ (vq [(mC (.int 0)), (mC (.int 0)), (mJ (cJ 2 0 vG (aK []) (aj [(ak 0), (ak 1)]) (aj [])))]))]) (aj [])))
    Dy)
def Cr : Fn := tR 6 Fe
def zF : M Fl :=
    (aC (xF 0 tQ (ak 1))
    (xF 0 Br (ak 2)))
def wJ : Fn := runI 1 3 zF
def Ce : M Fl :=
    (Ow 2 (fun i j => i + j) (mC (.int 1)))
def FT : M Fl :=
    (tO (bf Aj (gH 0 (ak 1) gJ) (iz 3))
    (yw (Mu (bf O6 (ak 2) (mQ vh (iz 0))) (bf Aj (gH 0 (ak 2) gJ) (iz 3))) Ce 60)
    (M.ret .nx))
def FW : M Fl :=
    (aC (Fw (Jo (oh [(mC (.str "abcdefghijklmnopqrstuvwxyz")), (mC (.str "0123456789"))])) (wg 3) FT)
    (gK (za 2)))
def Hi : M Fl :=
    (aC (cP 2 (bf tV (ak 1) (mC (.int 1))))
    FW)
def BR : Fn := tR 4 Hi
def yH : M Fl :=
    (aC (tO (bf uE (gH 1 (ak 3) gJ) (mC (.str " ")))
    (aC (Ow 3 (fun i j => i + j) (mC (.int 1)))
    (M.ret .ct))
    (M.ret .nx))
    (aC (cP 4 (cJ 2 0 BR (aK []) (aj [(ak 1), (ak 3)]) (aj [])))
    (aC (su (Jd (mQ (ug xT) (iz 0)) (mJ (gH 1 (Lw (UL (ak 3)) (UL (ak 4))) zR))))
    (aC (su (Jd (mQ (ug zf) (iz 0)) (ak 3)))
    (cP 3 (ak 4))))))
def yI : M Fl :=
    (aC (yw (bf O6 (ak 3) (mQ vh (iz 1))) yH 60)
    (su (Jd (mQ (ug zf) (iz 0)) (mQ vh (iz 1)))))
def yJ : M Fl :=
    (aC (cP 3 (mC (.int 0)))
    yI)
def yK : M Fl :=
    (aC (xF 0 wU (mC (.int 0)))
    yJ)
def yL : M Fl :=
    (aC (xF 0 zf (Fy (vq [])))
    yK)
def yM : M Fl :=
    (aC (xF 0 xT (Fy (vq [])))
    yL)
def yz : M Fl :=
    (aC (xF 0 tQ (ak 2))
    yM)
def wV : Fn := tR 5 yz
def yC : M Fl :=
    (gK (BW (bf O6 (mQ (ug wU) (iz 0)) (mQ vh (mQ (ug xT) (iz 0)))) (bf gJ (mQ (ug xT) (iz 0)) (mQ (ug wU) (iz 0))) (mC (.str ""))))
def wW : Fn := tR 1 yC
def t7 : Nat → Option Fn := fun c => ajd c [(0, wW)]
def zY : M Fl :=
    (aC (Bp 0 wU (fun i j => i + j) (mC (.int 1)))
    (gK (mC (.bl true))))
def z7 : M Fl :=
    (aC (tO (bf Ew (mJ (tX 0 0 t7 (aK []) (ak 0) (aj []) (aj []))) (iz 1))
    (gK (mC (.bl false)))
    (M.ret .nx))
    zY)
def yN : Fn := tR 2 z7
def wX : M Fl :=
    (gK (N8 (bf (fun h x y => (Ew h x y).map .bl) (mJ (tX 0 0 t7 (aK []) (ak 0) (aj []) (aj []))) (mC (.str ""))) (bf (fun h x y => (Aj h x y).map .bl) (bf gJ (mJ (tX 0 0 t7 (aK []) (ak 0) (aj []) (aj []))) (mC (.int 0))) (mC (.str "0123456789")))))
def vZ : Fn := tR 1 wX
def NK : M Fl :=
    (fun _ _ => .err)
def Ir : Fn := tR 1 NK
def Dz : Nat → Option Fn := fun c => ajd c [(0, Ir)]
def Am : M Fl :=
    (aC (Bp 0 wU (fun i j => i + j) (mC (.int 1)))
    (gK (za 2)))
def Ao : M Fl :=
    (aC (tO (bf Ql (ak 2) (iz 1))
    (su (tX 0 0 Dz (aK []) (ak 0) (aj []) (aj [])))
    (M.ret .nx))
    Am)
def Bt : M Fl :=
    (aC (cP 2 (tX 0 0 t7 (aK []) (ak 0) (aj []) (aj [])))
    Ao)
def zE : Fn := tR 3 Bt
def zK : M Fl :=
    (aC (Bp 0 wU (fun i j => i + j) (mC (.int 1)))
    (gK (mQ yo (ak 3))))
def zL : M Fl :=
    (aC (tO (O7 (bf cGt (mQ vh (iz 3)) (mC (.int 7))) (O7 (Mu (bf uE (gH 3 (mC (.int 0)) gJ) (mC (.str "0"))) (bf cGt (mQ vh (iz 3)) (mC (.int 1)))) (Ku (Nk cLe cLe (ak 1) (mQ yo (ak 3)) (ak 2)))))
    (su (tX 0 0 Dz (aK []) (ak 0) (aj []) (aj [])))
    (M.ret .nx))
    zK)
def zG : M Fl :=
    (aC (cP 3 (tX 0 0 t7 (aK []) (ak 0) (aj []) (aj [])))
    zL)
def xU : Fn := tR 4 zG
def zH : Nat → Option Fn := fun c => ajd c [(0, yN)]
def wk : Nat → Option Fn := fun c => ajd c [(0, vZ)]
def z8 : Nat → Option Fn := fun c => ajd c [(0, xU)]
def rF : Nat → Option Fn := fun c => ajd c [(0, zE)]
def CJ : M Fl :=
    (aC (tO (mQ D.tru (tX 1 0 zH (aK []) (ak 0) (aj [(mC (.str "["))]) (aj [])))
    (aC (tO (mQ D.tru (tX 0 0 wk (aK []) (ak 0) (aj []) (aj [])))
    (cP 1 (tX 2 0 z8 (aK []) (ak 0) (aj [(mC (.int 0)), (bf Yk (mQ (ug tQ) (iz 0)) (mC (.int 1)))]) (aj [])))
    (M.ret .nx))
    (aC (su (rO rF (ak 0) (aj [(mC (.str ":"))])))
    (aC (tO (mQ D.tru (tX 0 0 wk (aK []) (ak 0) (aj []) (aj [])))
    (cP 2 (tX 2 0 z8 (aK []) (ak 0) (aj [(mJ (bf tV (ak 1) (mC (.int 1)))), (mQ (ug tQ) (iz 0))]) (aj [])))
    (M.ret .nx))
    (su (rO rF (ak 0) (aj [(mC (.str "]"))]))))))
    (M.ret .nx))
    (gK (oh [(ak 1), (ak 2)])))
def CK : M Fl :=
    (aC (cP 2 (mQ (ug tQ) (iz 0)))
    CJ)
def De : M Fl :=
    (aC (cP 1 (mC (.int 0)))
    CK)
def xr : Fn := tR 3 De
def Aq : M Fl :=
    (aC (su (rO rF (ak 0) (aj [(mC (.str ")"))])))
    (gK (oh [(mC (.str "leaf")), (ak 1), (ak 2), (ak 4), (ak 5), (ak 6)])))
def Ar : M Fl :=
    (aC (su (rO rF (ak 0) (aj [(mC (.str ")"))])))
    Aq)
def Av : M Fl :=
    (aC (Qm (mJ (cJ 1 0 xr (aK []) (aj [(ak 0)]) (aj []))) (Ly 2 (BX (wg 5) (BX (wg 6) Oc))))
    Ar)
def Bu : M Fl :=
    (aC (cP 4 (rO rF (ak 0) (Ah (ak 3) (aj []))))
    Av)
def wY : Fn := tR 7 Bu
def DG : M Fl :=
    (aC (cP 5 (BW (bf uE (ak 4) (mC (.str "told"))) (oh [(mC (.str "raw"))]) (oh [(mC (.str "raw")), (mC (.str "zero")), (mC (.str "held"))])))
    (gK (cJ 4 0 wY (aK []) (aj [(ak 0), (mC (.str "each")), (ak 4), (ak 5)]) (aj []))))
def DK : M Fl :=
    (aC (su (rO rF (ak 0) (aj [(mC (.str "("))])))
    DG)
def DN : M Fl :=
    (aC (cP 4 (rO rF (ak 0) (Ah (mC (.tup Dd)) (aj []))))
    DK)
def DP : M Fl :=
    (aC (tO (bf Ew (ak 1) (mC (.str "sum")))
    (aC (su (rO rF (ak 0) (aj [(mC (.str "sum"))])))
    (aC (su (rO rF (ak 0) (aj [(mC (.str "("))])))
    (gK (cJ 4 0 wY (aK []) (aj [(ak 0), (mC (.str "all")), (ak 1), (oh [(mC (.str "zero")), (mC (.str "held"))])]) (aj [])))))
    (M.ret .nx))
    DN)
def DQ : M Fl :=
    (aC (su (rO rF (ak 0) (aj [(mC (.str "("))])))
    DP)
def DR : M Fl :=
    (aC (tO (bf uE (ak 1) (mC (.str "events")))
    (aC (Qm (mJ (cJ 1 0 xr (aK []) (aj [(ak 0)]) (aj []))) (Ly 2 (BX (wg 2) (BX (wg 3) Oc))))
    (gK (oh [(mC (.str "events")), (ak 2), (ak 3)])))
    (M.ret .nx))
    DQ)
def Ff : M Fl :=
    (aC (cP 1 (rO rF (ak 0) (Mi (mC (.str "events")) (Mi (mC (.str "sum")) (Ah (mC (.tup yZ)) (aj []))))))
    DR)
def vH : Fn := tR 6 Ff
def DW : M Fl :=
    (aC (su (rO rF (ak 0) (aj [(mC (.str ")"))])))
    (gK (oh [(ak 2), (ak 3), (ak 4)])))
def DY : M Fl :=
    (aC (cP 4 (fun _ _ => .err))
    DW)
def Ea : M Fl :=
    (aC (su (rO rF (ak 0) (aj [(mC (.str ","))])))
    DY)
def Eb : M Fl :=
    (aC (cP 3 (fun _ _ => .err))
    Ea)
def Ec : M Fl :=
    (aC (su (rO rF (ak 0) (aj [(mC (.str "("))])))
    Eb)
def Ed : M Fl :=
    (aC (cP 2 (rO rF (ak 0) (aj [(mC (.str "max")), (mC (.str "min"))])))
    Ec)
def Eh : M Fl :=
    (aC (tO (bf Ql (mJ (tX 0 0 t7 (aK []) (ak 0) (aj []) (aj []))) (oh [(mC (.str "max")), (mC (.str "min"))]))
    (gK (cJ 1 0 vH (aK []) (aj [(ak 0)]) (aj [])))
    (M.ret .nx))
    Ed)
def Ei : M Fl :=
    (aC (tO (mQ D.tru (tX 1 0 zH (aK []) (ak 0) (aj [(mC (.str "abs"))]) (aj [])))
    (aC (su (rO rF (ak 0) (aj [(mC (.str "("))])))
    (aC (cP 1 (fun _ _ => .err))
    (aC (su (rO rF (ak 0) (aj [(mC (.str ")"))])))
    (gK (oh [(mC (.str "abs")), (ak 1)])))))
    (M.ret .nx))
    Eh)
def Fg : M Fl :=
    (aC (tO (mQ D.tru (tX 1 0 zH (aK []) (ak 0) (aj [(mC (.str "("))]) (aj [])))
    (aC (cP 1 (fun _ _ => .err))
    (aC (su (rO rF (ak 0) (aj [(mC (.str ")"))])))
    (gK (za 1))))
    (M.ret .nx))
    Ei)
def zg : Fn := tR 5 Fg
def Ax : M Fl :=
    (aC (cP 2 (cJ 1 0 zg (aK []) (aj [(ak 0)]) (aj [])))
    (gK (oh [(mC (.str "times")), (BW (mQ D.tru (iz 1)) (mQ (fun _ => Hz) (ak 3)) (ak 3)), (ak 2)])))
def Ay : M Fl :=
    (aC (su (rO rF (ak 0) (aj [(mC (.str "*"))])))
    Ax)
def Az : M Fl :=
    (aC (cP 3 (tX 2 0 z8 (aK []) (ak 0) (aj [(mC (.int 0)), (mC (.int 1000000))]) (aj [])))
    Ay)
def Bv : M Fl :=
    (aC (tO (Ku (mQ D.tru (tX 0 0 wk (aK []) (ak 0) (aj []) (aj []))))
    (aC (cP 2 (cJ 1 0 zg (aK []) (aj [(ak 0)]) (aj [])))
    (gK (BW (mQ D.tru (iz 1)) (oh [(mC (.str "times")), (mQ (fun _ => Hz) (mC (.int 1))), (ak 2)]) (ak 2))))
    (M.ret .nx))
    Az)
def wZ : Fn := tR 4 Bv
def Ek : M Fl :=
    (aC (su (rO rF (ak 0) (aj [(ak 2)])))
    (cP 1 (oh [(BW (bf uE (ak 2) (mC (.str "+"))) (mC (.str "plus")) (mC (.str "minus"))), (ak 1), (mJ (cJ 2 0 wZ (aK []) (aj [(ak 0), (mC (.bl false))]) (aj [])))])))
def El : M Fl :=
    (aC (zB 2 Aj (mJ (tX 0 0 t7 (aK []) (ak 0) (aj []) (aj []))) (oh [(mC (.str "+")), (mC (.str "-"))]) Ek 60)
    (gK (za 1)))
def Fj : M Fl :=
    (aC (cP 1 (cJ 2 0 wZ (aK []) (aj [(ak 0), (mJ (tX 1 0 zH (aK []) (ak 0) (aj [(mC (.str "-"))]) (aj [])))]) (aj [])))
    El)
def Ai : Fn := tR 3 Fj
def JW : M Fl :=
    (aC (tO (bf Ew (mJ (tX 0 0 t7 (aK []) (ak 2) (aj []) (aj []))) (mC (.str "")))
    (su (tX 0 0 Dz (aK []) (ak 2) (aj []) (aj [])))
    (M.ret .nx))
    (gK (za 3)))
def JX : M Fl :=
    (aC (cP 3 (cJ 1 0 Ai (aK []) (aj [(ak 2)]) (aj [])))
    JW)
def NP : M Fl :=
    (aC (cP 2 (NB 0 2 0 wV (aK []) (aj [(ak 0), (ak 1)]) (aj [])))
    JX)
def Kh : Fn := tR 4 NP
def Df : M Fl :=
    (gK (cJ 2 0 wJ (aK []) (aj [(ak 2), (mJ (cJ 2 0 Kh (aK []) (aj [(ak 1), (ak 2)]) (aj [])))]) (aj [])))
def zJ : Fn := tR 3 Df
def zM : M Fl :=
    (aC (tO (bf uE (gH 0 (mC (.int 0)) gJ) (mC (.str "each")))
    (gK (bf tV (mJ (bf tV (mJ (bf tV (mJ (bf tV (mJ (bf tV (mC (.str "sum(")) (gH 0 (mC (.int 1)) gJ))) (mC (.str "(")))) (gH 0 (mC (.int 2)) gJ))) (ak 1))) (mC (.str "))"))))
    (M.ret .nx))
    (gK (bf tV (mJ (bf tV (mJ (bf tV (mJ (bf tV (gH 0 (mC (.int 1)) gJ) (mC (.str "(sum(")))) (gH 0 (mC (.int 2)) gJ))) (ak 1))) (mC (.str "))")))))
def zN : M Fl :=
    (aC (tO (bf uE (gH 0 (mC (.int 0)) gJ) (mC (.str "events")))
    (gK (bf tV (mC (.str "events")) (ak 1)))
    (M.ret .nx))
    zM)
def BV : M Fl :=
    (aC (cP 1 (bf tV (mJ (bf tV (mJ (bf tV (mJ (bf tV (mC (.str "[")) (mQ R6 (gH 0 (mQ (fun _ => Hz) (mC (.int 2))) gJ)))) (mC (.str ":")))) (mQ R6 (gH 0 (mQ (fun _ => Hz) (mC (.int 1))) gJ)))) (mC (.str "]"))))
    zN)
def uL : Fn := tR 2 BV
def QT : D → M Unit :=
    (wg 5)
def QV : M Bool :=
    (M.ret true)
def QW : M D :=
    (oh [(mC (.str "leaf")), (mC (.str "each")), (ak 1), (ak 5), (ak 2), (ak 3)])
def QX : D → M Unit :=
    (wg 5)
def QZ : M Bool :=
    (M.ret true)
def Q3 : M D :=
    (oh [(mC (.str "leaf")), (mC (.str "all")), (ak 1), (ak 5), (ak 2), (ak 3)])
def Q4 : M Fl :=
    (aC (tO (bf Ql (ak 1) (oh [(mC (.str "top")), (mC (.str "low"))]))
    (su (Vf 4 (mJ (Jp [5] (Jo (mC (.tup Vj))) QX QZ Q3))))
    (M.ret .nx))
    (gK (za 4)))
def Q5 : M Fl :=
    (aC (tO (bf uE (ak 1) (mC (.str "rises")))
    (su (Oh 4 (oh [(mC (.str "leaf")), (mC (.str "each")), (mC (.str "told")), (mC (.str "raw")), (ak 2), (ak 3)])))
    (M.ret .nx))
    Q4)
def Q6 : M Fl :=
    (aC (cP 4 (Jp [5] (Jo (mC (.tup QR))) QT QV QW))
    Q5)
def Q7 : M Fl :=
    (aC (tO (bf uE (ak 1) (mC (.str "told")))
    (cP 1 (mC (.str "rises")))
    (M.ret .nx))
    Q6)
def Q8 : M Fl :=
    (aC (Oe [1, 2, 3] (aj [(gH 0 (mC (.int 2)) gJ), (gH 0 (mC (.int 4)) gJ), (gH 0 (mC (.int 5)) gJ)]))
    Q7)
def Mj : M Fl :=
    (aC (tO (bf uE (gH 0 (mC (.int 0)) gJ) (mC (.str "events")))
    (gK (vq [(ak 0)]))
    (M.ret .nx))
    Q8)
def Hj : Fn := tR 6 Mj
def FZ : D → M Unit :=
    (wg 1)
def Ge : M Bool :=
    (M.ret true)
def Gf : M D :=
    (mJ (cJ 2 0 wJ (aK []) (aj [(mQ (ug tQ) (iz 0)), (ak 1)]) (aj [])))
def JZ : M Fl :=
    (gK (Jp [1] (Jo (mJ (cJ 1 0 Hj (aK []) (aj [(mQ (ug Br) (iz 0))]) (aj [])))) FZ Ge Gf))
def En : Fn := tR 2 JZ
def Vk : M Fl :=
    (aC (tO (bf uE (gH 0 (mC (.int 1)) gJ) (mC (.str "each")))
    (gK (BJ [(mC (.str "sum(")), (yX (gH 0 (mC (.int 2)) gJ)), (mC (.str "(")), (yX (ak 1)), (mC (.str "))"))]))
    (M.ret .nx))
    (gK (BJ [(yX (gH 0 (mC (.int 2)) gJ)), (mC (.str "(sum(")), (yX (ak 1)), (mC (.str "))"))])))
def Vl : M Fl :=
    (aC (cP 1 (BJ [(yX (gH 0 (mC (.int 3)) gJ)), (mC (.str "[")), (yX (gH 0 (mC (.int 4)) gJ)), (mC (.str ":")), (yX (gH 0 (mC (.int 5)) gJ)), (mC (.str "]"))]))
    Vk)
def Q9 : M Fl :=
    (aC (tO (bf uE (gH 0 (mC (.int 0)) gJ) (mC (.str "events")))
    (gK (BJ [(mC (.str "events[")), (yX (gH 0 (mC (.int 1)) gJ)), (mC (.str ":")), (yX (gH 0 (mC (.int 2)) gJ)), (mC (.str "]"))]))
    (M.ret .nx))
    Vl)
def Ra : Fn := tR 2 Q9
def Jg (R : Fn) : M Fl :=
    (aC (cP 2 (cJ 1 0 R (aK []) (aj [(ak 0)]) (aj [])))
    (gK (BW (bf Aj (gH 0 (mC (.int 0)) gJ) (iz 1)) (BJ [(mC (.str "(")), (yX (ak 2)), (mC (.str ")"))]) (ak 2))))
def M8 (R : Fn) : Fn := tR 3 (Jg R)
def abT (R : Fn) : M Fl :=
    (aC (tO (Mu (bf uE (bf gJ (gH 0 (mC (.int 2)) gJ) (mC (.int 0))) (mC (.str "times"))) (bf O6 (bf gJ (gH 0 (mC (.int 2)) gJ) (mC (.int 1))) (mC (.int 0))))
    (cP 3 (oh [(mC (.str "times"))]))
    (M.ret .nx))
    (gK (BJ [(yX (mJ (cJ 1 0 R (aK []) (aj [(gH 0 (mC (.int 1)) gJ)]) (aj [])))), (mC (.str " ")), (yX (ak 2)), (mC (.str " ")), (yX (mJ (cJ 2 0 (M8 R) (aK []) (aj [(gH 0 (mC (.int 2)) gJ), (ak 3)]) (aj []))))])))
def abU (R : Fn) : M Fl :=
    (aC (cP 3 (oh [(mC (.str "plus")), (mC (.str "minus"))]))
    (abT R))
def abV (R : Fn) : M Fl :=
    (aC (cP 2 (BW (bf uE (gH 0 (mC (.int 0)) gJ) (mC (.str "plus"))) (mC (.str "+")) (mC (.str "-"))))
    (abU R))
def aaZ (R : Fn) : M Fl :=
    (aC (QH (gH 0 (mC (.int 0)) gJ) (Dc [(["events", "leaf"], (gK (cJ 1 0 Ra (aK []) (aj [(ak 0)]) (aj [])))), (["abs"], (gK (BJ [(mC (.str "abs(")), (yX (mJ (cJ 1 0 R (aK []) (aj [(gH 0 (mC (.int 1)) gJ)]) (aj [])))), (mC (.str ")"))]))), (["max", "min"], (gK (BJ [(yX (gH 0 (mC (.int 0)) gJ)), (mC (.str "(")), (yX (mJ (cJ 1 0 R (aK []) (aj [(gH 0 (mC (.int 1)) gJ)]) (aj [])))), (mC (.str ", ")), (yX (mJ (cJ 1 0 R (aK []) (aj [(gH 0 (mC (.int 2)) gJ)]) (aj [])))), (mC (.str ")"))]))), (["times"], (aC (cP 1 (cJ 2 0 (M8 R) (aK []) (aj [(gH 0 (mC (.int 2)) gJ), (oh [(mC (.str "plus")), (mC (.str "minus")), (mC (.str "times"))])]) (aj [])))
    (gK (BW (bf uE (gH 0 (mC (.int 1)) gJ) (mQ (fun _ => Hz) (mC (.int 1)))) (BJ [(mC (.str "-")), (yX (ak 1))]) (BJ [(yX (gH 0 (mC (.int 1)) gJ)), (mC (.str " * ")), (yX (ak 1))])))))]))
    (abV R))
def Ur : Nat → Fn
 | 0 => tR 4 (fun _ _ => .err)
 | j + 1 => tR 4 (aaZ (Ur j))
def Wv : Fn := Ur 1
def Hk : M Fl :=
    (gK (cJ 1 0 Wv (aK []) (aj [(mQ (ug Br) (iz 0))]) (aj [])))
def Bw : Fn := tR 1 Hk
def z9 : D → M Unit :=
    (wg 5)
def Aa : M Bool :=
    (M.ret true)
def Ab : M D :=
    (mJ (bf tV (ak 5) (oh [(ak 2), (ak 3)])))
def Ac : M Fl :=
    (aC (tO (bf Aj (ak 1) (oh [(mC (.str "rises")), (mC (.str "told"))]))
    (aC (cP 4 (vq [(oh [(mC (.str "each")), (mC (.str "rises")), (mC (.str "raw"))]), (oh [(mC (.str "each")), (mC (.str "rises")), (mC (.str "zero"))]), (oh [(mC (.str "each")), (mC (.str "rises")), (mC (.str "held"))]), (oh [(mC (.str "each")), (mC (.str "told")), (mC (.str "raw"))])]))
    (cP 4 (bf tV (ak 4) (mJ (vq [(oh [(mC (.str "all")), (mC (.str "rises")), (mC (.str "zero"))]), (oh [(mC (.str "all")), (mC (.str "rises")), (mC (.str "held"))])])))))
    (tO (bf Aj (ak 1) (oh [(mC (.str "top")), (mC (.str "low"))]))
    (cP 4 (vq [(oh [(mC (.str "each")), (ak 1), (mC (.str "raw"))]), (oh [(mC (.str "each")), (ak 1), (mC (.str "zero"))]), (oh [(mC (.str "each")), (ak 1), (mC (.str "held"))])]))
    (aC (cP 4 (vq [(oh [(mC (.str "each")), (ak 1), (mC (.str "raw"))]), (oh [(mC (.str "each")), (ak 1), (mC (.str "zero"))]), (oh [(mC (.str "each")), (ak 1), (mC (.str "held"))])]))
    (cP 4 (bf tV (ak 4) (mJ (vq [(oh [(mC (.str "all")), (ak 1), (mC (.str "zero"))]), (oh [(mC (.str "all")), (ak 1), (mC (.str "held"))])])))))))
    (gK (Jp [5] (Jo (ak 4)) z9 Aa Ab)))
def Ad : M Fl :=
    (aC (Oe [1, 2, 3] (aj [(gH 0 (mC (.int 1)) gJ), (gH 0 (mC (.int 3)) gJ), (gH 0 (mC (.int 4)) gJ)]))
    Ac)
def CN : M Fl :=
    (aC (tO (bf uE (gH 0 (mC (.int 0)) gJ) (mC (.str "events")))
    (gK (vq [(ak 0)]))
    (M.ret .nx))
    Ad)
def yO : Fn := tR 6 CN
def NQ : M Fl :=
    (aC (tO (Ku (mQ D.tru (bf (Kz QQ) (ak 1) (mC (.cls 1)))))
    (gK (mC (.bl false)))
    (M.ret .nx))
    (gK (N8 (bf (fun h x y => (uE h x y).map .bl) (mQ (ug tQ) (iz 0)) (mQ (ug tQ) (iz 1))) (bf (fun h x y => (uE h x y).map .bl) (mQ (ug Br) (iz 0)) (mQ (ug Br) (iz 1))))))
def vK : Fn := tR 2 NQ
def Iu : Nat → Option Fn := fun c => ajd c [(1, Bw)]
def yP : Nat → Option Fn := fun c => ajd c [(1, vK)]
def Gr : D → M Unit :=
    (wg 9)
def Gu : M Bool :=
    (M.ret true)
def Gv : M D :=
    (mJ (cJ 1 0 uL (aK []) (aj [(ak 9)]) (aj [])))
def La : D → M Unit :=
    (wg 9)
def Ld : M Bool :=
    (M.ret true)
def Le : M D :=
    (mJ (LK Iu (ak 9)))
def Iv : D → M Unit :=
    (wg 9)
def Iw : M Bool :=
    (bf Ew (mQ (ug tQ) (iz 9)) (iz 3))
def Iz : M D :=
    (ak 9)
def Lf : D → M Unit :=
    (wg 9)
def Lg : M Bool :=
    (Wl (Uk yP (fun b => b)) (ak 9) (ak 5))
def Lh : M D :=
    (ak 9)
def Jh : M Fl :=
    (aC (tO (O7 (bf Ew (mJ (K8 [9] (M7 (ak 8)) Iv Iw Iz)) (vq [])) (bf Ew (mQ vh (K8 [9] (M7 (ak 8)) Lf Lg Lh)) (mC (.int 1))))
    (gK (mC (.bl false)))
    (M.ret .nx))
    (su (Oh 8 (ak 5))))
def Ji : M Fl :=
    (aC (tO (O7 (Ku (mQ D.tru (bf (Kz QQ) (ak 8) (mC (.ty "list"))))) (bf Ew (mJ (K8 [9] (M7 (ak 8)) La Ld Le)) (iz 6)))
    (gK (mC (.bl false)))
    (M.ret .nx))
    Jh)
def GD : M Fl :=
    (aC (cP 8 (Fy (cJ 1 0 En (aK []) (aj [(ak 5)]) (aj []))))
    Ji)
def zj : M Fl :=
    (aC (Fw (Jc (mC (.int 2))) (wg 7) GD)
    (tO (bf Ew (mJ (LK Iu (ak 5))) (cJ 1 0 uL (aK []) (aj [(ak 4)]) (aj [])))
    (gK (mC (.bl false)))
    (M.ret .nx)))
def Cu : M Fl :=
    (aC (cP 6 (Jp [9] (Jo (mJ (cJ 1 0 yO (aK []) (aj [(ak 4)]) (aj [])))) Gr Gu Gv))
    zj)
def Jj : M Fl :=
    (aC (cP 5 (mCm 2 1 zJ (aj [(mJ (cJ 1 0 uL (aK []) (aj [(ak 4)]) (aj []))), (ak 3)])))
    Cu)
def Jk : M Fl :=
    (aC (cP 4 (cJ 2 0 Cr (aK []) (aj [(ak 2), (ak 3)]) (aj [])))
    Jj)
def Jl : M Fl :=
    (aC (cP 3 (bf tV (mC (.int 2)) (mJ (cJ 2 0 vG (aK []) (aj [(ak 2), (mC (.int 3))]) (aj [])))))
    Jk)
def Jv : M Fl :=
    (aC (cP 2 (Fy (cJ 2 0 xG (aK []) (aj [(ak 0), (ak 1)]) (aj []))))
    Jl)
def Vm : M Fl :=
    (aC (Fw (Jc (bf RD (mC (.int 1)) (bf RG (mC (.int 30)) (mQ vh (iz 0))))) (wg 1) Jv)
    (gK (mC (.bl true))))
def abW : Fn := tR 10 Vm
end
end L
namespace L
open PySem PySem.Spec L2 Pk
section
variable {P : Program} {w : World} {K : PySem.W.Frag} {mg : Str → Option Value} {base : Heap}
theorem Dg (c : cI K) (Y : K.In base) (G : base.Ns mainGlobals mg) : mg "_law_draw" = some (.ref (He.ga K "_law_draw")) := He.glo_ok Y G (c.fact 3 (f := .he (.glo "_law_draw")) rfl)
theorem Eo (c : cI K) (Y : K.In base) (G : base.Ns mainGlobals mg) : mg "_law_of" = some (.ref (He.ga K "_law_of")) := He.glo_ok Y G (c.fact 4 (f := .he (.glo "_law_of")) rfl)
theorem aai (c : cI K) (Y : K.In base) (G : base.Ns mainGlobals mg) : mg "word_end" = some (.ref (He.ga K "word_end")) := He.glo_ok Y G (c.fact 5 (f := .he (.glo "word_end")) rfl)
theorem Pg (c : cI K) (Y : K.In base) (G : base.Ns mainGlobals mg) : mg "read_slice" = some (.ref (He.ga K "read_slice")) := He.glo_ok Y G (c.fact 6 (f := .he (.glo "read_slice")) rfl)
theorem Ml (c : cI K) (Y : K.In base) (G : base.Ns mainGlobals mg) : mg "read_filling" = some (.ref (He.ga K "read_filling")) := He.glo_ok Y G (c.fact 7 (f := .he (.glo "read_filling")) rfl)
theorem ZM (c : cI K) (Y : K.In base) (G : base.Ns mainGlobals mg) : mg "read_leaf" = some (.ref (He.ga K "read_leaf")) := He.glo_ok Y G (c.fact 8 (f := .he (.glo "read_leaf")) rfl)
theorem Rb (c : cI K) (Y : K.In base) (G : base.Ns mainGlobals mg) : mg "read_atom" = some (.ref (He.ga K "read_atom")) := He.glo_ok Y G (c.fact 9 (f := .he (.glo "read_atom")) rfl)
theorem Mp (c : cI K) (Y : K.In base) (G : base.Ns mainGlobals mg) : mg "read_product" = some (.ref (He.ga K "read_product")) := He.glo_ok Y G (c.fact 10 (f := .he (.glo "read_product")) rfl)
theorem acR (c : cI K) (Y : K.In base) (G : base.Ns mainGlobals mg) : mg "Tokens" = some (.ref (He.ga K "Tokens")) := He.glo_ok Y G (c.fact 11 (f := .he (.glo "Tokens")) rfl)
theorem ZP (c : cI K) (Y : K.In base) (G : base.Ns mainGlobals mg) : mg "read_term" = some (.ref (He.ga K "read_term")) := He.glo_ok Y G (c.fact 12 (f := .he (.glo "read_term")) rfl)
theorem aeb (c : cI K) (Y : K.In base) (G : base.Ns mainGlobals mg) : mg "parse" = some (.ref (He.ga K "parse")) := He.glo_ok Y G (c.fact 13 (f := .he (.glo "parse")) rfl)
theorem Sd (c : cI K) (Y : K.In base) (G : base.Ns mainGlobals mg) : mg "Term" = some (.ref (He.ga K "Term")) := He.glo_ok Y G (c.fact 14 (f := .he (.glo "Term")) rfl)
theorem Us (c : cI K) (Y : K.In base) (G : base.Ns mainGlobals mg) : mg "variant_nodes" = some (.ref (He.ga K "variant_nodes")) := He.glo_ok Y G (c.fact 16 (f := .he (.glo "variant_nodes")) rfl)
theorem IK (c : cI K) (Y : K.In base) (G : base.Ns mainGlobals mg) : mg "write" = some (.ref (He.ga K "write")) := He.glo_ok Y G (c.fact 17 (f := .he (.glo "write")) rfl)
theorem Xx (c : cI K) (Y : K.In base) (G : base.Ns mainGlobals mg) : mg "write_leaf" = some (.ref (He.ga K "write_leaf")) := He.glo_ok Y G (c.fact 18 (f := .he (.glo "write_leaf")) rfl)
theorem Rc (c : cI K) (Y : K.In base) (G : base.Ns mainGlobals mg) : mg "bracketed" = some (.ref (He.ga K "bracketed")) := He.glo_ok Y G (c.fact 19 (f := .he (.glo "bracketed")) rfl)
theorem Ww (c : cI K) (Y : K.In base) (G : base.Ns mainGlobals mg) : mg "_law_source" = some (.ref (He.ga K "_law_source")) := He.glo_ok Y G (c.fact 24 (f := .he (.glo "_law_source")) rfl)
theorem ZQ (c : cI K) (Y : K.In base) (G : base.Ns mainGlobals mg) : mg "_law_leaf" = some (.ref (He.ga K "_law_leaf")) := He.glo_ok Y G (c.fact 25 (f := .he (.glo "_law_leaf")) rfl)
theorem Eu (c : cI K) (Y : K.In base) (G : base.Ns mainGlobals mg) : mg "_law_leaf_text" = some (.ref (He.ga K "_law_leaf_text")) := He.glo_ok Y G (c.fact 26 (f := .he (.glo "_law_leaf_text")) rfl)
theorem Ut (c : cI K) (Y : K.In base) (G : base.Ns mainGlobals mg) : mg "_law_variants" = some (.ref (He.ga K "_law_variants")) := He.glo_ok Y G (c.fact 27 (f := .he (.glo "_law_variants")) rfl)
theorem aaj (c : cI K) (Y : K.In base) (G : base.Ns mainGlobals mg) : mg "variants" = some (.ref (He.ga K "variants")) := He.glo_ok Y G (c.fact 28 (f := .he (.glo "variants")) rfl)
theorem Fo (c : cI K) (Y : K.In base) (G : base.Ns mainGlobals mg) : mg "len" = none := He.free_ok Y G (c.fact 0 (f := .he (.free "len")) rfl)
theorem acS (c : cI K) (Y : K.In base) (G : base.Ns mainGlobals mg) : mg "abs" = none := He.free_ok Y G (c.fact 1 (f := .he (.free "abs")) rfl)
theorem Lj (c : cI K) (Y : K.In base) (G : base.Ns mainGlobals mg) : mg "int" = none := He.free_ok Y G (c.fact 2 (f := .he (.free "int")) rfl)
theorem acT (c : cI K) (Y : K.In base) (G : base.Ns mainGlobals mg) : mg "str" = none := He.free_ok Y G (c.fact 15 (f := .he (.free "str")) rfl)
theorem Ph (c : cI K) (Y : K.In base) (G : base.Ns mainGlobals mg) : mg "isinstance" = none := He.free_ok Y G (c.fact 20 (f := .he (.free "isinstance")) rfl)
theorem agU (c : cI K) (Y : K.In base) (G : base.Ns mainGlobals mg) : mg "min" = none := He.free_ok Y G (c.fact 21 (f := .he (.free "min")) rfl)
theorem agV (c : cI K) (Y : K.In base) (G : base.Ns mainGlobals mg) : mg "max" = none := He.free_ok Y G (c.fact 22 (f := .he (.free "max")) rfl)
theorem ZR (c : cI K) (Y : K.In base) (G : base.Ns mainGlobals mg) : mg "range" = none := He.free_ok Y G (c.fact 23 (f := .he (.free "range")) rfl)
theorem afH (c : cI K) (Y : K.In base) (G : base.Ns mainGlobals mg) : mg "list" = none := He.free_ok Y G (c.fact 29 (f := .he (.free "list")) rfl)
theorem yq (c : cI K) {X : Cx} (hK : X.K = K) : Qp X (T K) "readings" tQ := by
 subst hK
 exact ⟨uN (Q := fun c _ => Cls X.K ((T X.K).cad c)) (.cons (He.cls_ok (c.fact 30 (f := .he (.cls "Tokens")) rfl)) (.cons (He.cls_ok (c.fact 32 (f := .he (.cls "Term")) rfl)) .nil)),
  uN (Q := fun c _ => NoAttr X.K ((T X.K).cad c) "readings") (.cons (He.noat_ok (c.fact 31 (f := .he (.noat "Tokens" "readings")) rfl)) (.cons (He.noat_ok (c.fact 33 (f := .he (.noat "Term" "readings")) rfl)) .nil)),
  uN (Q := fun c _ => ((T X.K).fld c).Nodup ∧ ((T X.K).fld c).length < 1000) (.cons ⟨(by show (fld 0).Nodup; decide +kernel), (by show (fld 0).length < 1000; decide)⟩ (.cons ⟨(by show (fld 1).Nodup; decide +kernel), (by show (fld 1).length < 1000; decide)⟩ .nil)),
  uN (Q := fun (c i : Nat) => ((T X.K).fld c)[i]? = some (("readings" : Str))) (.cons rfl (.cons rfl .nil))⟩
theorem NT (c : cI K) {X : Cx} (hK : X.K = K) : Qp X (T K) "node" Br := by
 subst hK
 exact ⟨uN (Q := fun c _ => Cls X.K ((T X.K).cad c)) (.cons (He.cls_ok (c.fact 32 (f := .he (.cls "Term")) rfl)) .nil),
  uN (Q := fun c _ => NoAttr X.K ((T X.K).cad c) "node") (.cons (He.noat_ok (c.fact 34 (f := .he (.noat "Term" "node")) rfl)) .nil),
  uN (Q := fun c _ => ((T X.K).fld c).Nodup ∧ ((T X.K).fld c).length < 1000) (.cons ⟨(by show (fld 1).Nodup; decide +kernel), (by show (fld 1).length < 1000; decide)⟩ .nil),
  uN (Q := fun (c i : Nat) => ((T X.K).fld c)[i]? = some (("node" : Str))) (.cons rfl .nil)⟩
theorem OJ (c : cI K) {X : Cx} (hK : X.K = K) : Qp X (T K) "words" xT := by
 subst hK
 exact ⟨uN (Q := fun c _ => Cls X.K ((T X.K).cad c)) (.cons (He.cls_ok (c.fact 30 (f := .he (.cls "Tokens")) rfl)) .nil),
  uN (Q := fun c _ => NoAttr X.K ((T X.K).cad c) "words") (.cons (He.noat_ok (c.fact 35 (f := .he (.noat "Tokens" "words")) rfl)) .nil),
  uN (Q := fun c _ => ((T X.K).fld c).Nodup ∧ ((T X.K).fld c).length < 1000) (.cons ⟨(by show (fld 0).Nodup; decide +kernel), (by show (fld 0).length < 1000; decide)⟩ .nil),
  uN (Q := fun (c i : Nat) => ((T X.K).fld c)[i]? = some (("words" : Str))) (.cons rfl .nil)⟩
theorem Rf (c : cI K) {X : Cx} (hK : X.K = K) : Qp X (T K) "places" zf := by
 subst hK
 exact ⟨uN (Q := fun c _ => Cls X.K ((T X.K).cad c)) (.cons (He.cls_ok (c.fact 30 (f := .he (.cls "Tokens")) rfl)) .nil),
  uN (Q := fun c _ => NoAttr X.K ((T X.K).cad c) "places") (.cons (He.noat_ok (c.fact 36 (f := .he (.noat "Tokens" "places")) rfl)) .nil),
  uN (Q := fun c _ => ((T X.K).fld c).Nodup ∧ ((T X.K).fld c).length < 1000) (.cons ⟨(by show (fld 0).Nodup; decide +kernel), (by show (fld 0).length < 1000; decide)⟩ .nil),
  uN (Q := fun (c i : Nat) => ((T X.K).fld c)[i]? = some (("places" : Str))) (.cons rfl .nil)⟩
theorem Kl (c : cI K) {X : Cx} (hK : X.K = K) : Qp X (T K) "spot" wU := by
 subst hK
 exact ⟨uN (Q := fun c _ => Cls X.K ((T X.K).cad c)) (.cons (He.cls_ok (c.fact 30 (f := .he (.cls "Tokens")) rfl)) .nil),
  uN (Q := fun c _ => NoAttr X.K ((T X.K).cad c) "spot") (.cons (He.noat_ok (c.fact 37 (f := .he (.noat "Tokens" "spot")) rfl)) .nil),
  uN (Q := fun c _ => ((T X.K).fld c).Nodup ∧ ((T X.K).fld c).length < 1000) (.cons ⟨(by show (fld 0).Nodup; decide +kernel), (by show (fld 0).length < 1000; decide)⟩ .nil),
  uN (Q := fun (c i : Nat) => ((T X.K).fld c)[i]? = some (("spot" : Str))) (.cons rfl .nil)⟩
theorem Zg (c : cI K) : Wg K (T K) QQ := acC (.b (xM (c.fact 64 (f := .kit (.b "NoneType") (.o 1) false) rfl)) (.b (xM (c.fact 65 (f := .kit (.b "bool") (.o 1) false) rfl)) (.b (xM (c.fact 66 (f := .kit (.b "int") (.o 1) false) rfl)) (.b (xM (c.fact 67 (f := .kit (.b "str") (.o 1) false) rfl)) (.b (xM (c.fact 68 (f := .kit (.b "tuple") (.o 1) false) rfl)) (.b (xM (c.fact 69 (f := .kit (.b "list") (.o 1) false) rfl)) (.o (xM (c.fact 70 (f := .kit (.o 0) (.b "bool") false) rfl)) (BZ (c.fact 62 (f := .ins "Tokens") rfl)) (.o (xM (c.fact 71 (f := .kit (.o 0) (.b "int") false) rfl)) (BZ (c.fact 62 (f := .ins "Tokens") rfl)) (.o (xM (c.fact 72 (f := .kit (.o 0) (.b "str") false) rfl)) (BZ (c.fact 62 (f := .ins "Tokens") rfl)) (.o (xM (c.fact 73 (f := .kit (.o 0) (.b "tuple") false) rfl)) (BZ (c.fact 62 (f := .ins "Tokens") rfl)) (.o (xM (c.fact 74 (f := .kit (.o 0) (.b "list") false) rfl)) (BZ (c.fact 62 (f := .ins "Tokens") rfl)) (.o (xM (c.fact 75 (f := .kit (.o 0) (.o 1) false) rfl)) (BZ (c.fact 62 (f := .ins "Tokens") rfl)) (.o (xM (c.fact 76 (f := .kit (.o 1) (.b "bool") false) rfl)) (BZ (c.fact 63 (f := .ins "Term") rfl)) (.o (xM (c.fact 77 (f := .kit (.o 1) (.b "int") false) rfl)) (BZ (c.fact 63 (f := .ins "Term") rfl)) (.o (xM (c.fact 78 (f := .kit (.o 1) (.b "str") false) rfl)) (BZ (c.fact 63 (f := .ins "Term") rfl)) (.o (xM (c.fact 79 (f := .kit (.o 1) (.b "tuple") false) rfl)) (BZ (c.fact 63 (f := .ins "Term") rfl)) (.o (xM (c.fact 80 (f := .kit (.o 1) (.b "list") false) rfl)) (BZ (c.fact 63 (f := .ins "Term") rfl)) (.o (xM (c.fact 81 (f := .kit (.o 1) (.o 1) true) rfl)) (BZ (c.fact 63 (f := .ins "Term") rfl)) .nil))))))))))))))))))
theorem abX (c : cI K) (Y : K.In base) (G : base.Ns mainGlobals mg) {X : Cx} (hK : X.K = K) (hm : X.mg = mg) : Qs X (T K) "LETTERS" (.str "abcdefghijklmnopqrstuvwxyz") := by
 subst hK hm
 obtain ⟨t, e⟩ := He.str_ok Y G (c.fact 47 (f := .he (.str "LETTERS" "abcdefghijklmnopqrstuvwxyz")) rfl)
 exact ⟨_, .str "abcdefghijklmnopqrstuvwxyz", e, ⟨_, rfl⟩, .str _⟩
theorem Xm (c : cI K) (Y : K.In base) (G : base.Ns mainGlobals mg) {X : Cx} (hK : X.K = K) (hm : X.mg = mg) : Qs X (T K) "DIGITS" (.str "0123456789") := by
 subst hK hm
 obtain ⟨t, e⟩ := He.str_ok Y G (c.fact 48 (f := .he (.str "DIGITS" "0123456789")) rfl)
 exact ⟨_, .str "0123456789", e, ⟨_, rfl⟩, .str _⟩
theorem ZS (c : cI K) (Y : K.In base) (G : base.Ns mainGlobals mg) {X : Cx} (hK : X.K = K) (hm : X.mg = mg) : Qs X (T K) "OF_TOTALS" (.tup yZ) := by
 subst hK hm
 exact ⟨_, .ref (He.ga X.K "OF_TOTALS"), He.glo_ok Y G (c.fact 49 (f := .he (.glo "OF_TOTALS")) rfl), rfl, .tup (RM (c.fact 50 (f := .tup (fun K => He.ga K "OF_TOTALS") [.str "first", .str "last", .str "change", .str "rises"]) rfl) _) (.cons (.str _) (.cons (.str _) (.cons (.str _) (.cons (.str _) .nil))))⟩
theorem aak (c : cI K) (Y : K.In base) (G : base.Ns mainGlobals mg) {X : Cx} (hK : X.K = K) (hm : X.mg = mg) : Qs X (T K) "MEASURES" (.tup Dd) := by
 subst hK hm
 exact ⟨_, .ref (He.ga X.K "MEASURES"), He.glo_ok Y G (c.fact 51 (f := .he (.glo "MEASURES")) rfl), rfl, .tup (RM (c.fact 52 (f := .tup (fun K => He.ga K "MEASURES") [.str "first", .str "last", .str "top", .str "low", .str "change", .str "rises", .str "told"]) rfl) _) (.cons (.str _) (.cons (.str _) (.cons (.str _) (.cons (.str _) (.cons (.str _) (.cons (.str _) (.cons (.str _) .nil)))))))⟩
theorem afI (c : cI K) (Y : K.In base) (G : base.Ns mainGlobals mg) {X : Cx} (hK : X.K = K) (hm : X.mg = mg) : Qs X (T K) "MOST" (.int 1000000) := by
 subst hK hm
 obtain ⟨t, e⟩ := He.int_ok Y G (c.fact 53 (f := .he (.int "MOST" 1000000)) rfl)
 exact ⟨_, .int 1000000, e, ⟨_, rfl⟩, .int _⟩
theorem aal (c : cI K) (Y : K.In base) (G : base.Ns mainGlobals mg) {X : Cx} (hK : X.K = K) (hm : X.mg = mg) : Qs X (T K) "FILLINGS" (.tup QR) := by
 subst hK hm
 exact ⟨_, .ref (He.ga X.K "FILLINGS"), He.glo_ok Y G (c.fact 54 (f := .he (.glo "FILLINGS")) rfl), rfl, .tup (RM (c.fact 55 (f := .tup (fun K => He.ga K "FILLINGS") [.str "raw", .str "zero", .str "held"]) rfl) _) (.cons (.str _) (.cons (.str _) (.cons (.str _) .nil)))⟩
theorem acU (c : cI K) (Y : K.In base) (G : base.Ns mainGlobals mg) {X : Cx} (hK : X.K = K) (hm : X.mg = mg) : Qs X (T K) "TOTALS" (.tup Vj) := by
 subst hK hm
 exact ⟨_, .ref (He.ga X.K "TOTALS"), He.glo_ok Y G (c.fact 56 (f := .he (.glo "TOTALS")) rfl), rfl, .tup (RM (c.fact 57 (f := .tup (fun K => He.ga K "TOTALS") [.str "zero", .str "held"]) rfl) _) (.cons (.str _) (.cons (.str _) .nil))⟩
theorem Vn (c : cI K) {X : Cx} (hK : X.K = K) : EqF X.K (T K) yP := by
 subst hK
 exact ⟨uN (.cons (agv (YG (c.fact 59 (f := .raw (fun K => eqX K (He.ga K "Term"))) rfl))) .nil)⟩
theorem Uu (c : cI K) (Y : K.In base) (G : base.Ns mainGlobals mg) : Does P w K mg base (T K) 0 O9 "_law_source" (defScope zW) (defBody zW) Ca := by
 intro f cdv A outer s H E C
 exact (aD (v4 C 2 (s_if (rP cmp_lt (ao 1) (Ez (t8 0) (Fo c Y G))) (iD 0 (ao 1)) aR))
  (aD (v4 C 3 (s_if (rP cmp_ge (aco (ao 2) (acS c Y G)) (Ym aR aR)) (aco (ao 2) (acS c Y G)) aR))
  (cH (s_ret (yt (aa (ao 3) (aa (rG (uQ (rG (uQ (Qg (HD (ao 2) (Lj c Y G)) aR) (Yl aR (ao 1)))) aR)) (aa aR aJ))))))))
theorem Wx (c : cI K) (Y : K.In base) (G : base.Ns mainGlobals mg) : ∃ fd : FuncData, v9 P w K mg base (T K) 1 (JM.adr K) fd JL xG ∧ Bn K (T K) fd JL 2 [] (aK []) := by
 obtain ⟨fd, F⟩ := c.def_ 0 (d := JM) rfl
 exact ⟨fd, ⟨fn_sim F Wh (Uu c Y G), F.kp⟩, (vo (FunD.bindsN F fun _ _ _ _ _ _ us hl => match us, hl with | [_, _], _ => (by kernel_rfl)))⟩
theorem Wy (c : cI K) (Y : K.In base) (G : base.Ns mainGlobals mg) : Does P w K mg base (T K) 0 TJ "_law_draw" (defScope Cg) (defBody Cg) Jf := by
 intro f cdv A outer s H E C
 exact (aD (uO (rP cmp_gt (iD 0 aR) aR)
  (aD (v4 C 2 (Qg (HD (iD 0 aR) (Lj c Y G)) (ao 1)))
  (aD (acx 0 (acf (iD 0 aR) (ao 1)) aR)
  (cH (s_ret (Hv 2)))))
  uF)
  (aD (acx 0 (rG (uQ (iD 0 aR) aR)) aR)
  (aD (v4 C 3 (Qg (HD (Ym (rG (uQ (iD 0 aR) (Yl aR (iD 0 aR)))) aR) (Lj c Y G)) aR))
  (aD (v4 C 3 (Qg (HD (Ym (rG (uQ (ao 3) (Yl aR (iD 0 aR)))) aR) (Lj c Y G)) aR))
  (cH (s_ret (uH (Qg (HD (acf (ao 3) aR) (Lj c Y G)) (ao 1)))))))))
theorem Ln (c : cI K) (Y : K.In base) (G : base.Ns mainGlobals mg) : ∃ fd : FuncData, v9 P w K mg base (T K) 1 (Mx.adr K) fd Mw vG ∧ Bn K (T K) fd Mw 2 [] (aK []) := by
 obtain ⟨fd, F⟩ := c.def_ 1 (d := Mx) rfl
 exact ⟨fd, ⟨fn_sim F YQ (Wy c Y G), F.kp⟩, (vo (FunD.bindsN F fun _ _ _ _ _ _ us hl => match us, hl with | [_, _], _ => (by kernel_rfl)))⟩
theorem ZV (c : cI K) (Y : K.In base) (G : base.Ns mainGlobals mg) : Does P w K mg base (T K) 1 Xi "_law_of" (defScope Gx) (defBody Gx) QS := by
 obtain ⟨fd__law_draw, F__law_draw, B__law_draw_0⟩ := Ln (P := P) (w := w) c Y G
 intro f cdv A outer s H E C
 exact (cH (s_ret (uH (iD 1 (rG (rN C F__law_draw (by decide) B__law_draw_0 (Dg c Y G) (aa (ao 0) (aa (Ez (t8 1) (Fo c Y G)) aJ))))))))
theorem abY (c : cI K) (Y : K.In base) (G : base.Ns mainGlobals mg) : ∃ fd : FuncData, v9 P w K mg base (T K) 2 (Qw.adr K) fd Qv v7 ∧ Bn K (T K) fd Qv 2 [] (aK []) := by
 obtain ⟨fd, F⟩ := c.def_ 2 (d := Qw) rfl
 exact ⟨fd, ⟨fn_sim F abt (ZV c Y G), F.kp⟩, (vo (FunD.bindsN F fun _ _ _ _ _ _ us hl => match us, hl with | [_, _], _ => (by kernel_rfl)))⟩
theorem Wz (c : cI K) (Y : K.In base) (G : base.Ns mainGlobals mg) : Does P w K mg base (T K) 2 TQ "_law_leaf" (defScope Ci) (defBody Ci) Fe := by
 obtain ⟨fd__law_draw, F__law_draw, B__law_draw_0⟩ := Ln (P := P) (w := w) c Y G
 obtain ⟨fd__law_of, F__law_of, B__law_of_0⟩ := abY (P := P) (w := w) c Y G
 intro f cdv A outer s H E C
 exact (aD (vz C 2 (rN C F__law_of (by decide) B__law_of_0 (Eo c Y G) (aa (ao 0) (aa (rG (yt (aa aR (aa aR (aa (rG (rN C F__law_draw (by decide) B__law_draw_0 (Dg c Y G) (aa (ao 0) (aa (ao 1) aJ)))) aJ))))) aJ))))
  (aD (vz C 3 (rN C F__law_of (by decide) B__law_of_0 (Eo c Y G) (aa (ao 0) (aa (rG (yt (aa (ao 1) (aa (rG (uQ (rG (uQ (ao 2) aR)) (rG (rN C F__law_draw (by decide) B__law_draw_0 (Dg c Y G) (aa (ao 0) (aa (ace (ao 1) (ao 2)) aJ)))))) aJ)))) aJ))))
  (aD (vz C 4 (rN C F__law_draw (by decide) B__law_draw_0 (Dg c Y G) (aa (ao 0) (aa aR aJ))))
  (aD (uO (rP (cmp_eq C) (ao 4) (u5 aR))
  (cH (s_ret (uH (tU (aa aq (aa (ao 2) (aa (ao 3) aJ)))))))
  uF)
  (aD (uO (rP cmp_lt (ao 4) aR)
  (aD (vz C 5 (rN C F__law_of (by decide) B__law_of_0 (Eo c Y G) (aa (ao 0) (aa (rG (yt (aa aq (aa aq (aa aq (aa aq (aa aq aJ))))))) aJ))))
  (cH (s_ret (uH (tU (aa aq (aa (ao 5) (aa (rG (rN C F__law_of (by decide) B__law_of_0 (Eo c Y G) (aa (ao 0) (aa (rG (yt (aa aq (aa aq aJ)))) aJ)))) (aa (ao 2) (aa (ao 3) aJ))))))))))
  uF)
  (aD (vz C 5 (rN C F__law_of (by decide) B__law_of_0 (Eo c Y G) (aa (ao 0) (aa (rG (yt (aa aq (aa aq (aa aq (aa aq (aa aq (aa aq (aa aq (aa aq aJ)))))))))) aJ))))
  (cH (s_ret (uH (tU (aa aq (aa (ao 5) (aa (rG (s_if (rP (cmp_eq C) (ao 5) (u5 aq)) (uH aq) (rN C F__law_of (by decide) B__law_of_0 (Eo c Y G) (aa (ao 0) (aa (rG (yt (aa aq (aa aq (aa aq aJ))))) aJ))))) (aa (ao 2) (aa (ao 3) aJ)))))))))))))))
theorem ZW (c : cI K) (Y : K.In base) (G : base.Ns mainGlobals mg) : ∃ fd : FuncData, v9 P w K mg base (T K) 3 (MF.adr K) fd Mz Cr ∧ Bn K (T K) fd Mz 2 [] (aK []) := by
 obtain ⟨fd, F⟩ := c.def_ 3 (d := MF) rfl
 exact ⟨fd, ⟨fn_sim F YS (Wz c Y G), F.kp⟩, (vo (FunD.bindsN F fun _ _ _ _ _ _ us hl => match us, hl with | [_, _], _ => (by kernel_rfl)))⟩
theorem PB (c : cI K) (Y : K.In base) (G : base.Ns mainGlobals mg) : Does P w K mg base (T K) 0 KC "Term.__init__" (defScope xP) (defBody xP) zF := by
 intro f cdv A outer s H E C
 exact (aD (HR 0 (yq c rfl) (ao 1))
  (cH (HR 0 (NT c rfl) (ao 2))))
theorem JN (c : cI K) (Y : K.In base) (G : base.Ns mainGlobals mg) : ∃ fd : FuncData, FnI P w K mg base (T K) 1 1 (Gj.adr K) fd Gi wJ ∧ BnI K (T K) fd Gi 2 [] (aK []) := by
 obtain ⟨fd, F⟩ := c.def_ 4 (d := Gj) rfl
 exact ⟨fd, ⟨ae5 1 F Sy (PB c Y G), He.mkr_ok (c.fact 60 (f := .he (.mkr "Term")) rfl)⟩, (aaD 2 (FunD.bindsN F fun _ _ _ _ _ _ us hl => match us, hl with | [_, _, _], _ => (by kernel_rfl)) rfl)⟩
theorem Xy (c : cI K) (Y : K.In base) (G : base.Ns mainGlobals mg) : Does P w K mg base (T K) 0 U4 "word_end" (defScope Do) (defBody Do) Hi := by
 intro f cdv A outer s H E C
 exact (aD (vz C 2 (uQ (ao 1) aR))
  (aD (abg C (Nm (tU (aa (Jr (abX c Y G rfl rfl)) (aa (Jr (Xm c Y G rfl rfl)) aJ)))) (xO C 3)
  (cH (uO (rP (Ks) (iD 0 (ao 1)) (t8 3))
  (cH (s_while C 60 (RB (Yp (rP cmp_lt (ao 2) (Ez (t8 0) (Fo c Y G))) (Wb (rP (Ks) (iD 0 (ao 2)) (t8 3)))))
  (cH (s_aug C 2 ip_add aR))))
  uF)))
  (cH (s_ret (Hv 2)))))
theorem aam (c : cI K) (Y : K.In base) (G : base.Ns mainGlobals mg) : ∃ fd : FuncData, v9 P w K mg base (T K) 1 (Om.adr K) fd Ol BR ∧ Bn K (T K) fd Ol 2 [] (aK []) := by
 obtain ⟨fd, F⟩ := c.def_ 5 (d := Om) rfl
 exact ⟨fd, ⟨fn_sim F aag (Xy c Y G), F.kp⟩, (vo (FunD.bindsN F fun _ _ _ _ _ _ us hl => match us, hl with | [_, _], _ => (by kernel_rfl)))⟩
theorem NZ (c : cI K) (Y : K.In base) (G : base.Ns mainGlobals mg) : Does P w K mg base (T K) 1 Jt "Tokens.__init__" (defScope wN) (defBody wN) yz := by
 obtain ⟨fd_word_end, F_word_end, B_word_end_0⟩ := aam (P := P) (w := w) c Y G
 intro f cdv A outer s H E C
 exact (aD (HR 0 (yq c rfl) (ao 2))
  (aD (HR 0 (OJ c rfl) (RK (yt aJ)))
  (aD (HR 0 (Rf c rfl) (RK (yt aJ)))
  (aD (HR 0 (Kl c rfl) aR)
  (aD (v4 C 3 aR)
  (aD (s_while C 60 (rP cmp_lt (ao 3) (Ez (t8 1) (Fo c Y G)))
  (aD (uO (rP (cmp_eq C) (iD 1 (ao 3)) (u5 aq))
  (aD (s_aug C 3 ip_add aR)
  (cH agb))
  uF)
  (aD (vz C 4 (rN C F_word_end (by decide) B_word_end_0 (aai c Y G) (aa (ao 1) (aa (ao 3) aJ))))
  (aD (vC (We (xK (OJ c rfl) (t8 0)) (rG (aeZ 1 (aar (ao 3)) (aar (ao 4))))))
  (aD (vC (We (xK (Rf c rfl) (t8 0)) (ao 3)))
  (cH (v4 C 3 (ao 4))))))))
  (cH (vC (We (xK (Rf c rfl) (t8 0)) (Ez (t8 1) (Fo c Y G)))))))))))
theorem PL (c : cI K) (Y : K.In base) (G : base.Ns mainGlobals mg) : ∃ fd : FuncData, FnC P w K mg base (T K) 2 0 (CV.adr K) fd CT wV ∧ BnI K (T K) fd CT 2 [] (aK []) := by
 obtain ⟨fd, F⟩ := c.def_ 6 (d := CV) rfl
 exact ⟨fd, ⟨fn_sim F Px (NZ c Y G), He.mkr_ok (c.fact 61 (f := .he (.mkr "Tokens")) rfl)⟩, (aaD 2 (FunD.bindsN F fun _ _ _ _ _ _ us hl => match us, hl with | [_, _, _], _ => (by kernel_rfl)) rfl)⟩
theorem N5 (c : cI K) (Y : K.In base) (G : base.Ns mainGlobals mg) : Does P w K mg base (T K) 0 Ju "Tokens.upcoming" (defScope wO) (defBody wO) yC := by
 intro f cdv A outer s H E C
 exact (cH (s_ret (uH (s_if (rP cmp_lt (xK (Kl c rfl) (t8 0)) (Ez (u5 (xK (OJ c rfl) (t8 0))) (Fo c Y G))) (UJ (xK (OJ c rfl) (t8 0)) (xK (Kl c rfl) (t8 0))) aq))))
theorem PN (c : cI K) (Y : K.In base) (G : base.Ns mainGlobals mg) : ∃ fd : FuncData, v9 P w K mg base (T K) 1 (CZ.adr K) fd CW wW ∧ Bn K (T K) fd CW 1 [] (aK []) := by
 obtain ⟨fd, F⟩ := c.def_ 7 (d := CZ) rfl
 exact ⟨fd, ⟨fn_sim F Py (N5 c Y G), F.kp⟩, (vo (FunD.bindsN F fun _ _ _ _ _ _ us hl => match us, hl with | [_], _ => (by kernel_rfl)))⟩
theorem zm (c : cI K) (Y : K.In base) (G : base.Ns mainGlobals mg) {X : Cx} {k : Nat} (hk : 1 ≤ k) (hP : X.prog = P) (hw : X.w = w) (hK : X.K = K) (hm : X.mg = mg) (hb : X.base = base) : Dm X (T K) k "upcoming" t7 0 [] (aK []) := by
 subst hP hw hK hm hb
 exact ⟨uN (.cons (by
  obtain ⟨fd, F, B⟩ := PN (P := X.prog) (w := X.w) c Y G
  exact ⟨_, _, fd, _, He.cls_ok (c.fact 30 (f := .he (.cls "Tokens")) rfl), He.meth_ok (c.fact 39 (f := .he (.meth "Tokens" "upcoming")) rfl), F, B, (by show _ ∉ fld 0; decide +kernel), Nat.le_trans (by decide) hk⟩) .nil)⟩
theorem Rg (c : cI K) (Y : K.In base) (G : base.Ns mainGlobals mg) : Does P w K mg base (T K) 1 LR "Tokens.skips" (defScope yE) (defBody yE) z7 := by
 intro f cdv A outer s H E C
 exact (aD (uO (rP (GX C) (rG (xq C (zm (P := P) c Y G (by decide) rfl rfl rfl rfl rfl) (ao 0))) (t8 1))
  (cH (s_ret (uH Ls)))
  uF)
  (aD (Um 0 (Kl c rfl) Uo aR)
  (cH (s_ret (uH Ls)))))
theorem Uv (c : cI K) (Y : K.In base) (G : base.Ns mainGlobals mg) : ∃ fd : FuncData, v9 P w K mg base (T K) 2 (G6.adr K) fd G5 yN ∧ Bn K (T K) fd G5 2 [] (aK []) := by
 obtain ⟨fd, F⟩ := c.def_ 8 (d := G6) rfl
 exact ⟨fd, ⟨fn_sim F Uh (Rg c Y G), F.kp⟩, (vo (FunD.bindsN F fun _ _ _ _ _ _ us hl => match us, hl with | [_, _], _ => (by kernel_rfl)))⟩
theorem Lp (c : cI K) (Y : K.In base) (G : base.Ns mainGlobals mg) : Does P w K mg base (T K) 1 Gy "Tokens.sees_number" (defScope vY) (defBody vY) wX := by
 intro f cdv A outer s H E C
 exact (cH (s_ret (uH (aci (Uz (GX C) (rG (xq C (zm (P := P) c Y G (by decide) rfl rfl rfl rfl rfl) (ao 0))) (u5 aq)) (ach (Uz (Ks) (UJ (rG (xq C (zm (P := P) c Y G (by decide) rfl rfl rfl rfl rfl) (ao 0))) aR) (u5 (Jr (Xm c Y G rfl rfl)))))))))
theorem M9 (c : cI K) (Y : K.In base) (G : base.Ns mainGlobals mg) : ∃ fd : FuncData, v9 P w K mg base (T K) 2 (Bg.adr K) fd Bf vZ ∧ Bn K (T K) fd Bf 1 [] (aK []) := by
 obtain ⟨fd, F⟩ := c.def_ 9 (d := Bg) rfl
 exact ⟨fd, ⟨fn_sim F MJ (Lp c Y G), F.kp⟩, (vo (FunD.bindsN F fun _ _ _ _ _ _ us hl => match us, hl with | [_], _ => (by kernel_rfl)))⟩
theorem SN (c : cI K) (Y : K.In base) (G : base.Ns mainGlobals mg) : Does P w K mg base (T K) 0 Nt "Tokens.fail" (defScope zp) (defBody zp) NK := by
 intro f cdv A outer s H E C
 exact (cH ae3)
theorem Vo (c : cI K) (Y : K.In base) (G : base.Ns mainGlobals mg) : ∃ fd : FuncData, v9 P w K mg base (T K) 1 (HX.adr K) fd HW Ir ∧ Bn K (T K) fd HW 1 [] (aK []) := by
 obtain ⟨fd, F⟩ := c.def_ 10 (d := HX) rfl
 exact ⟨fd, ⟨fn_sim F U5 (SN c Y G), F.kp⟩, (vo (FunD.bindsN F fun _ _ _ _ _ _ us hl => match us, hl with | [_], _ => (by kernel_rfl)))⟩
theorem WD (c : cI K) (Y : K.In base) (G : base.Ns mainGlobals mg) {X : Cx} {k : Nat} (hk : 1 ≤ k) (hP : X.prog = P) (hw : X.w = w) (hK : X.K = K) (hm : X.mg = mg) (hb : X.base = base) : Dm X (T K) k "fail" Dz 0 [] (aK []) := by
 subst hP hw hK hm hb
 exact ⟨uN (.cons (by
  obtain ⟨fd, F, B⟩ := Vo (P := X.prog) (w := X.w) c Y G
  exact ⟨_, _, fd, _, He.cls_ok (c.fact 30 (f := .he (.cls "Tokens")) rfl), He.meth_ok (c.fact 40 (f := .he (.meth "Tokens" "fail")) rfl), F, B, (by show _ ∉ fld 0; decide +kernel), Nat.le_trans (by decide) hk⟩) .nil)⟩
theorem SQ (c : cI K) (Y : K.In base) (G : base.Ns mainGlobals mg) : Does P w K mg base (T K) 1 Nu "Tokens.take" (defScope zq) (defBody zq) Bt := by
 intro f cdv A outer s H E C
 exact (aD (vz C 2 (xq C (zm (P := P) c Y G (by decide) rfl rfl rfl rfl rfl) (ao 0)))
  (aD (uO (rP (V9) (ao 2) (t8 1))
  (cH (vC (xq C (WD (P := P) c Y G (by decide) rfl rfl rfl rfl rfl) (ao 0))))
  uF)
  (aD (Um 0 (Kl c rfl) Uo aR)
  (cH (s_ret (Hv 2))))))
theorem Vp (c : cI K) (Y : K.In base) (G : base.Ns mainGlobals mg) : Zv P w K mg base (T K) 2 (HY.adr K) zE := by
 obtain ⟨fd, F⟩ := c.def_ 11 (d := HY) rfl
 exact afk (p0 := "self") (pv := "allowed") F U6 (SQ c Y G) (fun _ _ _ _ _ _ _ => (by kernel_rfl)) (fun _ _ _ _ _ _ _ _ _ => (by kernel_rfl))
theorem PP (c : cI K) (Y : K.In base) (G : base.Ns mainGlobals mg) : Does P w K mg base (T K) 1 KD "Tokens.number" (defScope xQ) (defBody xQ) zG := by
 intro f cdv A outer s H E C
 exact (aD (vz C 3 (xq C (zm (P := P) c Y G (by decide) rfl rfl rfl rfl rfl) (ao 0)))
  (aD (uO (RB (XX (rP cmp_gt (Ez (t8 3) (Fo c Y G)) aR) (XX (RB (Yp (rP (cmp_eq C) (iD 3 aR) (u5 aq)) (Wb (rP cmp_gt (Ez (t8 3) (Fo c Y G)) aR)))) (Yo (UG (ac6 cmp_le cmp_le (ao 1) (HD (ao 3) (Lj c Y G)) (ao 2)))))))
  (cH (vC (xq C (WD (P := P) c Y G (by decide) rfl rfl rfl rfl rfl) (ao 0))))
  uF)
  (aD (Um 0 (Kl c rfl) Uo aR)
  (cH (s_ret (uH (HD (ao 3) (Lj c Y G))))))))
theorem S8 (c : cI K) (Y : K.In base) (G : base.Ns mainGlobals mg) : ∃ fd : FuncData, v9 P w K mg base (T K) 2 (Gm.adr K) fd Gk xU ∧ Bn K (T K) fd Gk 3 [] (aK []) := by
 obtain ⟨fd, F⟩ := c.def_ 12 (d := Gm) rfl
 exact ⟨fd, ⟨fn_sim F SJ (PP c Y G), F.kp⟩, (vo (FunD.bindsN F fun _ _ _ _ _ _ us hl => match us, hl with | [_, _, _], _ => (by kernel_rfl)))⟩
theorem O2 (c : cI K) (Y : K.In base) (G : base.Ns mainGlobals mg) {X : Cx} {k : Nat} (hk : 2 ≤ k) (hP : X.prog = P) (hw : X.w = w) (hK : X.K = K) (hm : X.mg = mg) (hb : X.base = base) : Dm X (T K) k "skips" zH 1 [] (aK []) := by
 subst hP hw hK hm hb
 exact ⟨uN (.cons (by
  obtain ⟨fd, F, B⟩ := Uv (P := X.prog) (w := X.w) c Y G
  exact ⟨_, _, fd, _, He.cls_ok (c.fact 30 (f := .he (.cls "Tokens")) rfl), He.meth_ok (c.fact 41 (f := .he (.meth "Tokens" "skips")) rfl), F, B, (by show _ ∉ fld 0; decide +kernel), Nat.le_trans (by decide) hk⟩) .nil)⟩
theorem IV (c : cI K) (Y : K.In base) (G : base.Ns mainGlobals mg) {X : Cx} {k : Nat} (hk : 2 ≤ k) (hP : X.prog = P) (hw : X.w = w) (hK : X.K = K) (hm : X.mg = mg) (hb : X.base = base) : Dm X (T K) k "sees_number" wk 0 [] (aK []) := by
 subst hP hw hK hm hb
 exact ⟨uN (.cons (by
  obtain ⟨fd, F, B⟩ := M9 (P := X.prog) (w := X.w) c Y G
  exact ⟨_, _, fd, _, He.cls_ok (c.fact 30 (f := .he (.cls "Tokens")) rfl), He.meth_ok (c.fact 42 (f := .he (.meth "Tokens" "sees_number")) rfl), F, B, (by show _ ∉ fld 0; decide +kernel), Nat.le_trans (by decide) hk⟩) .nil)⟩
theorem Rh (c : cI K) (Y : K.In base) (G : base.Ns mainGlobals mg) {X : Cx} {k : Nat} (hk : 2 ≤ k) (hP : X.prog = P) (hw : X.w = w) (hK : X.K = K) (hm : X.mg = mg) (hb : X.base = base) : Dm X (T K) k "number" z8 2 [] (aK []) := by
 subst hP hw hK hm hb
 exact ⟨uN (.cons (by
  obtain ⟨fd, F, B⟩ := S8 (P := X.prog) (w := X.w) c Y G
  exact ⟨_, _, fd, _, He.cls_ok (c.fact 30 (f := .he (.cls "Tokens")) rfl), He.meth_ok (c.fact 43 (f := .he (.meth "Tokens" "number")) rfl), F, B, (by show _ ∉ fld 0; decide +kernel), Nat.le_trans (by decide) hk⟩) .nil)⟩
theorem uU (c : cI K) (Y : K.In base) (G : base.Ns mainGlobals mg) {X : Cx} {k : Nat} (hk : 2 ≤ k) (hP : X.prog = P) (hw : X.w = w) (hK : X.K = K) (hm : X.mg = mg) (hb : X.base = base) : QJ X (T K) k "take" rF := by
 subst hP hw hK hm hb
 exact ⟨uN (.cons ⟨_, _, He.cls_ok (c.fact 30 (f := .he (.cls "Tokens")) rfl), agB (YG (c.fact 46 (f := .raw (fun K => bmX K (He.ga K "Tokens") "take")) rfl)) (He.meth_ok (c.fact 45 (f := .he (.meth "Tokens" "take")) rfl)), Vp (P := X.prog) (w := X.w) c Y G, (by show _ ∉ fld 0; decide +kernel), Nat.le_trans (by decide) hk⟩ .nil)⟩
theorem Vq (c : cI K) (Y : K.In base) (G : base.Ns mainGlobals mg) : Does P w K mg base (T K) 2 Qx "read_slice" (defScope Bh) (defBody Bh) De := by
 intro f cdv A outer s H E C
 exact (aD (v4 C 1 aR)
  (aD (v4 C 2 (xK (yq c rfl) (t8 0)))
  (aD (uO (Ey (GP (HS C (O2 (P := P) c Y G (by decide) rfl rfl rfl rfl rfl) (ao 0) (aa aq aJ))))
  (aD (uO (Ey (GP (xq C (IV (P := P) c Y G (by decide) rfl rfl rfl rfl rfl) (ao 0))))
  (cH (vz C 1 (HS C (Rh (P := P) c Y G (by decide) rfl rfl rfl rfl rfl) (ao 0) (aa aR (aa (ace (xK (yq c rfl) (t8 0)) aR) aJ)))))
  uF)
  (aD (vC (v5 C (uU (P := P) c Y G (by decide) rfl rfl rfl rfl rfl) (ao 0) (aa aq aJ)))
  (aD (uO (Ey (GP (xq C (IV (P := P) c Y G (by decide) rfl rfl rfl rfl rfl) (ao 0))))
  (cH (vz C 2 (HS C (Rh (P := P) c Y G (by decide) rfl rfl rfl rfl rfl) (ao 0) (aa (rG (uQ (ao 1) aR)) (aa (xK (yq c rfl) (t8 0)) aJ)))))
  uF)
  (cH (vC (v5 C (uU (P := P) c Y G (by decide) rfl rfl rfl rfl rfl) (ao 0) (aa aq aJ)))))))
  uF)
  (cH (s_ret (uH (tU (aa (ao 1) (aa (ao 2) aJ)))))))))
theorem Pj (c : cI K) (Y : K.In base) (G : base.Ns mainGlobals mg) : ∃ fd : FuncData, v9 P w K mg base (T K) 3 (KJ.adr K) fd KH xr ∧ Bn K (T K) fd KH 1 [] (aK []) := by
 obtain ⟨fd, F⟩ := c.def_ 13 (d := KJ) rfl
 exact ⟨fd, ⟨fn_sim F Xr (Vq c Y G), F.kp⟩, (vo (FunD.bindsN F fun _ _ _ _ _ _ us hl => match us, hl with | [_], _ => (by kernel_rfl)))⟩
theorem S9 (c : cI K) (Y : K.In base) (G : base.Ns mainGlobals mg) : Does P w K mg base (T K) 3 Nv "read_filling" (defScope zr) (defBody zr) Bu := by
 obtain ⟨fd_read_slice, F_read_slice, B_read_slice_0⟩ := Pj (P := P) (w := w) c Y G
 intro f cdv A outer s H E C
 exact (aD (vz C 4 (Zy C (uU (P := P) c Y G (by decide) rfl rfl rfl rfl rfl) (ao 0) (ao 3)))
  (aD (s_asg (rG (rN C F_read_slice (by decide) B_read_slice_0 (Pg c Y G) (aa (ao 0) aJ))) (acq C (Od (xO C 5) (Od (xO C 6) aav))))
  (aD (vC (v5 C (uU (P := P) c Y G (by decide) rfl rfl rfl rfl rfl) (ao 0) (aa aq aJ)))
  (aD (vC (v5 C (uU (P := P) c Y G (by decide) rfl rfl rfl rfl rfl) (ao 0) (aa aq aJ)))
  (cH (s_ret (uH (tU (aa aq (aa (ao 1) (aa (ao 2) (aa (ao 4) (aa (ao 5) (aa (ao 6) aJ))))))))))))))
theorem Vr (c : cI K) (Y : K.In base) (G : base.Ns mainGlobals mg) : ∃ fd : FuncData, v9 P w K mg base (T K) 4 (Ie.adr K) fd Ib wY ∧ Bn K (T K) fd Ib 4 [] (aK []) := by
 obtain ⟨fd, F⟩ := c.def_ 14 (d := Ie) rfl
 exact ⟨fd, ⟨fn_sim F U7 (S9 c Y G), F.kp⟩, (vo (FunD.bindsN F fun _ _ _ _ _ _ us hl => match us, hl with | [_, _, _, _], _ => (by kernel_rfl)))⟩
theorem WK (c : cI K) (Y : K.In base) (G : base.Ns mainGlobals mg) : Does P w K mg base (T K) 4 TV "read_leaf" (defScope Cj) (defBody Cj) Ff := by
 obtain ⟨fd_read_filling, F_read_filling, B_read_filling_0⟩ := Vr (P := P) (w := w) c Y G
 obtain ⟨fd_read_slice, F_read_slice, B_read_slice_0⟩ := Pj (P := P) (w := w) c Y G
 intro f cdv A outer s H E C
 exact (aD (vz C 1 (adF C (uU (P := P) c Y G (by decide) rfl rfl rfl rfl rfl) (ao 0) (Zw aq (Zw aq (afl (Jr (ZS c Y G rfl rfl)) aJ)))))
  (aD (uO (rP (cmp_eq C) (ao 1) (u5 aq))
  (aD (s_asg (rG (rN C F_read_slice (by decide) B_read_slice_0 (Pg c Y G) (aa (ao 0) aJ))) (acq C (Od (xO C 2) (Od (xO C 3) aav))))
  (cH (s_ret (uH (tU (aa aq (aa (ao 2) (aa (ao 3) aJ))))))))
  uF)
  (aD (vC (v5 C (uU (P := P) c Y G (by decide) rfl rfl rfl rfl rfl) (ao 0) (aa aq aJ)))
  (aD (uO (rP (GX C) (ao 1) (u5 aq))
  (aD (vC (v5 C (uU (P := P) c Y G (by decide) rfl rfl rfl rfl rfl) (ao 0) (aa aq aJ)))
  (aD (vC (v5 C (uU (P := P) c Y G (by decide) rfl rfl rfl rfl rfl) (ao 0) (aa aq aJ)))
  (cH (s_ret (rN C F_read_filling (by decide) B_read_filling_0 (Ml c Y G) (aa (ao 0) (aa aq (aa (ao 1) (aa (tU (aa aq (aa aq aJ))) aJ)))))))))
  uF)
  (aD (vz C 4 (Zy C (uU (P := P) c Y G (by decide) rfl rfl rfl rfl rfl) (ao 0) (Jr (aak c Y G rfl rfl))))
  (aD (vC (v5 C (uU (P := P) c Y G (by decide) rfl rfl rfl rfl rfl) (ao 0) (aa aq aJ)))
  (aD (v4 C 5 (s_if (rP (cmp_eq C) (ao 4) (u5 aq)) (tU (aa aq aJ)) (tU (aa aq (aa aq (aa aq aJ))))))
  (cH (s_ret (rN C F_read_filling (by decide) B_read_filling_0 (Ml c Y G) (aa (ao 0) (aa aq (aa (ao 4) (aa (ao 5) aJ))))))))))))))
theorem ZX (c : cI K) (Y : K.In base) (G : base.Ns mainGlobals mg) : ∃ fd : FuncData, v9 P w K mg base (T K) 5 (MN.adr K) fd MK vH ∧ Bn K (T K) fd MK 1 [] (aK []) := by
 obtain ⟨fd, F⟩ := c.def_ 15 (d := MN) rfl
 exact ⟨fd, ⟨fn_sim F YT (WK c Y G), F.kp⟩, (vo (FunD.bindsN F fun _ _ _ _ _ _ us hl => match us, hl with | [_], _ => (by kernel_rfl)))⟩
theorem WL (c : cI K) (Y : K.In base) (G : base.Ns mainGlobals mg) : Does P w K mg base (T K) 5 TX "read_atom" (defScope Ck) (defBody Ck) Fg := by
 obtain ⟨fd_read_leaf, F_read_leaf, B_read_leaf_0⟩ := ZX (P := P) (w := w) c Y G
 intro f cdv A outer s H E C
 exact (aD (uO (Ey (GP (HS C (O2 (P := P) c Y G (by decide) rfl rfl rfl rfl rfl) (ao 0) (aa aq aJ))))
  (aD (v4 C 1 Ox)
  (aD (vC (v5 C (uU (P := P) c Y G (by decide) rfl rfl rfl rfl rfl) (ao 0) (aa aq aJ)))
  (cH (s_ret (Hv 1)))))
  uF)
  (aD (uO (Ey (GP (HS C (O2 (P := P) c Y G (by decide) rfl rfl rfl rfl rfl) (ao 0) (aa aq aJ))))
  (aD (vC (v5 C (uU (P := P) c Y G (by decide) rfl rfl rfl rfl rfl) (ao 0) (aa aq aJ)))
  (aD (v4 C 1 Ox)
  (aD (vC (v5 C (uU (P := P) c Y G (by decide) rfl rfl rfl rfl rfl) (ao 0) (aa aq aJ)))
  (cH (s_ret (uH (tU (aa aq (aa (ao 1) aJ)))))))))
  uF)
  (aD (uO (rP (V9) (rG (xq C (zm (P := P) c Y G (by decide) rfl rfl rfl rfl rfl) (ao 0))) (u5 (tU (aa aq (aa aq aJ)))))
  (cH (s_ret (rN C F_read_leaf (by decide) B_read_leaf_0 (ZM c Y G) (aa (ao 0) aJ))))
  uF)
  (aD (vz C 2 (v5 C (uU (P := P) c Y G (by decide) rfl rfl rfl rfl rfl) (ao 0) (aa aq (aa aq aJ))))
  (aD (vC (v5 C (uU (P := P) c Y G (by decide) rfl rfl rfl rfl rfl) (ao 0) (aa aq aJ)))
  (aD (v4 C 3 Ox)
  (aD (vC (v5 C (uU (P := P) c Y G (by decide) rfl rfl rfl rfl rfl) (ao 0) (aa aq aJ)))
  (aD (v4 C 4 Ox)
  (aD (vC (v5 C (uU (P := P) c Y G (by decide) rfl rfl rfl rfl rfl) (ao 0) (aa aq aJ)))
  (cH (s_ret (uH (tU (aa (ao 2) (aa (ao 3) (aa (ao 4) aJ))))))))))))))))
theorem ZZ (c : cI K) (Y : K.In base) (G : base.Ns mainGlobals mg) : ∃ fd : FuncData, v9 P w K mg base (T K) 6 (MT.adr K) fd MP zg ∧ Bn K (T K) fd MP 1 [] (aK []) := by
 obtain ⟨fd, F⟩ := c.def_ 16 (d := MT) rfl
 exact ⟨fd, ⟨fn_sim F YW (WL c Y G), F.kp⟩, (vo (FunD.bindsN F fun _ _ _ _ _ _ us hl => match us, hl with | [_], _ => (by kernel_rfl)))⟩
theorem Tc (c : cI K) (Y : K.In base) (G : base.Ns mainGlobals mg) : Does P w K mg base (T K) 6 Ny "read_product" (defScope zu) (defBody zu) Bv := by
 obtain ⟨fd_read_atom, F_read_atom, B_read_atom_0⟩ := ZZ (P := P) (w := w) c Y G
 intro f cdv A outer s H E C
 exact (aD (uO (UG (Ey (GP (xq C (IV (P := P) c Y G (by decide) rfl rfl rfl rfl rfl) (ao 0)))))
  (aD (vz C 2 (rN C F_read_atom (by decide) B_read_atom_0 (Rb c Y G) (aa (ao 0) aJ)))
  (cH (s_ret (uH (s_if (Ey (t8 1)) (tU (aa aq (aa (Qh aR) (aa (ao 2) aJ)))) (ao 2))))))
  uF)
  (aD (vz C 3 (HS C (Rh (P := P) c Y G (by decide) rfl rfl rfl rfl rfl) (ao 0) (aa aR (aa (Jr (afI c Y G rfl rfl)) aJ))))
  (aD (vC (v5 C (uU (P := P) c Y G (by decide) rfl rfl rfl rfl rfl) (ao 0) (aa aq aJ)))
  (aD (vz C 2 (rN C F_read_atom (by decide) B_read_atom_0 (Rb c Y G) (aa (ao 0) aJ)))
  (cH (s_ret (uH (tU (aa aq (aa (s_if (Ey (t8 1)) (Qh (ao 3)) (ao 3)) (aa (ao 2) aJ)))))))))))
theorem Vs (c : cI K) (Y : K.In base) (G : base.Ns mainGlobals mg) : ∃ fd : FuncData, v9 P w K mg base (T K) 7 (Ih.adr K) fd Ig wZ ∧ Bn K (T K) fd Ig 2 [] (aK []) := by
 obtain ⟨fd, F⟩ := c.def_ 17 (d := Ih) rfl
 exact ⟨fd, ⟨fn_sim F U8 (Tc c Y G), F.kp⟩, (vo (FunD.bindsN F fun _ _ _ _ _ _ us hl => match us, hl with | [_, _], _ => (by kernel_rfl)))⟩
theorem WN (c : cI K) (Y : K.In base) (G : base.Ns mainGlobals mg) : Does P w K mg base (T K) 7 TY "read_term" (defScope Cm) (defBody Cm) Fj := by
 obtain ⟨fd_read_product, F_read_product, B_read_product_0⟩ := Vs (P := P) (w := w) c Y G
 intro f cdv A outer s H E C
 exact (aD (vz C 1 (rN C F_read_product (by decide) B_read_product_0 (Mp c Y G) (aa (ao 0) (aa (rG (HS C (O2 (P := P) c Y G (by decide) rfl rfl rfl rfl rfl) (ao 0) (aa aq aJ))) aJ))))
  (aD (adC C 60 2 Ks (rG (xq C (zm (P := P) c Y G (by decide) rfl rfl rfl rfl rfl) (ao 0))) (tU (aa aq (aa aq aJ)))
  (aD (vC (v5 C (uU (P := P) c Y G (by decide) rfl rfl rfl rfl rfl) (ao 0) (aa (ao 2) aJ)))
  (cH (v4 C 1 (tU (aa (s_if (rP (cmp_eq C) (ao 2) (u5 aq)) aq aq) (aa (ao 1) (aa (rG (rN C F_read_product (by decide) B_read_product_0 (Mp c Y G) (aa (ao 0) (aa Ls aJ)))) aJ))))))))
  (cH (s_ret (Hv 1)))))
theorem Z0 (c : cI K) (Y : K.In base) (G : base.Ns mainGlobals mg) : ∃ fd : FuncData, v9 P w K mg base (T K) 8 (M4.adr K) fd M3 Ai ∧ Bn K (T K) fd M3 1 [] (aK []) := by
 obtain ⟨fd, F⟩ := c.def_ 18 (d := M4) rfl
 exact ⟨fd, ⟨fn_sim F YX (WN c Y G), F.kp⟩, (vo (FunD.bindsN F fun _ _ _ _ _ _ us hl => match us, hl with | [_], _ => (by kernel_rfl)))⟩
theorem abZ (c : cI K) (Y : K.In base) (G : base.Ns mainGlobals mg) : Does P w K mg base (T K) 8 aaG "parse" (defScope Ka) (defBody Ka) NP := by
 obtain ⟨fd_Tokens____init__, F_Tokens____init__, B_Tokens____init___0⟩ := PL (P := P) (w := w) c Y G
 obtain ⟨fd_read_term, F_read_term, B_read_term_0⟩ := Z0 (P := P) (w := w) c Y G
 intro f cdv A outer s H E C
 exact (aD (v4 C 2 (adB C F_Tokens____init__ (by decide) B_Tokens____init___0 (acR c Y G) (aa (ao 0) (aa (ao 1) aJ))))
  (aD (vz C 3 (rN C F_read_term (by decide) B_read_term_0 (ZP c Y G) (aa (ao 2) aJ)))
  (aD (uO (rP (GX C) (rG (xq C (zm (P := P) c Y G (by decide) rfl rfl rfl rfl rfl) (ao 2))) (u5 aq))
  (cH (vC (xq C (WD (P := P) c Y G (by decide) rfl rfl rfl rfl rfl) (ao 2))))
  uF)
  (cH (s_ret (Hv 3))))))
theorem aec (c : cI K) (Y : K.In base) (G : base.Ns mainGlobals mg) : ∃ fd : FuncData, v9 P w K mg base (T K) 9 (Wk.adr K) fd Wj Kh ∧ Bn K (T K) fd Wj 2 [] (aK []) := by
 obtain ⟨fd, F⟩ := c.def_ 19 (d := Wk) rfl
 exact ⟨fd, ⟨fn_sim F adk (abZ c Y G), F.kp⟩, (vo (FunD.bindsN F fun _ _ _ _ _ _ us hl => match us, hl with | [_, _], _ => (by kernel_rfl)))⟩
theorem Vt (c : cI K) (Y : K.In base) (G : base.Ns mainGlobals mg) : Does P w K mg base (T K) 9 Qy "Term.read" (defScope Bj) (defBody Bj) Df := by
 obtain ⟨fd_Term____init__, F_Term____init__, B_Term____init___0⟩ := JN (P := P) (w := w) c Y G
 obtain ⟨fd_parse, F_parse, B_parse_0⟩ := aec (P := P) (w := w) c Y G
 intro f cdv A outer s H E C
 exact (cH (s_ret (aaE C F_Term____init__ (by decide) B_Term____init___0 (Sd c Y G) (aa (ao 2) (aa (rG (rN C F_parse (by decide) B_parse_0 (aeb c Y G) (aa (ao 1) (aa (ao 2) aJ)))) aJ)))))
theorem Xz (c : cI K) (Y : K.In base) (G : base.Ns mainGlobals mg) : ∃ fd : FuncData, v9 P w K mg base (T K) 10 (KQ.adr K) fd KN zJ ∧ Bn K (T K) fd KN 3 [] (aK []) := by
 obtain ⟨fd, F⟩ := c.def_ 20 (d := KQ) rfl
 exact ⟨fd, ⟨fn_sim F Xu (Vt c Y G), F.kp⟩, (vo (FunD.bindsN F fun _ _ _ _ _ _ us hl => match us, hl with | [_, _, _], _ => (by kernel_rfl)))⟩
theorem PQ (c : cI K) (Y : K.In base) (G : base.Ns mainGlobals mg) : Does P w K mg base (T K) 0 KR "_law_leaf_text" (defScope xR) (defBody xR) BV := by
 intro f cdv A outer s H E C
 exact (aD (vz C 1 (uQ (rG (uQ (rG (uQ (rG (uQ aq (aaO (iD 0 (Qh aR)) (acT c Y G)))) aq)) (aaO (iD 0 (Qh aR)) (acT c Y G)))) aq))
  (aD (uO (rP (cmp_eq C) (iD 0 aR) (u5 aq))
  (cH (s_ret (uQ aq (ao 1))))
  uF)
  (aD (uO (rP (cmp_eq C) (iD 0 aR) (u5 aq))
  (cH (s_ret (uQ (rG (uQ (rG (uQ (rG (uQ (rG (uQ aq (iD 0 aR))) aq)) (iD 0 aR))) (ao 1))) aq)))
  uF)
  (cH (s_ret (uQ (rG (uQ (rG (uQ (rG (uQ (iD 0 aR) aq)) (iD 0 aR))) (ao 1))) aq))))))
theorem Td (c : cI K) (Y : K.In base) (G : base.Ns mainGlobals mg) : ∃ fd : FuncData, v9 P w K mg base (T K) 1 (Gp.adr K) fd Gn uL ∧ Bn K (T K) fd Gn 1 [] (aK []) := by
 obtain ⟨fd, F⟩ := c.def_ 21 (d := Gp) rfl
 exact ⟨fd, ⟨fn_sim F SM (PQ c Y G), F.kp⟩, (vo (FunD.bindsN F fun _ _ _ _ _ _ us hl => match us, hl with | [_], _ => (by kernel_rfl)))⟩
theorem Ri (c : cI K) (Y : K.In base) (G : base.Ns mainGlobals mg) : Does P w K mg base (T K) 0 Ma "variant_nodes" (defScope yF) (defBody yF) Mj := by
 intro f cdv A outer s H E C
 exact (aD (uO (rP (cmp_eq C) (iD 0 aR) (u5 aq))
  (cH (s_ret (yt (aa (ao 0) aJ))))
  uF)
  (aD (acu C (HF (uH (iD 0 aR)) (HF (uH (iD 0 aR)) (HF (uH (iD 0 aR)) aau))) (HH C 1 (HH C 2 (HH C 3 aaw))))
  (aD (uO (rP (cmp_eq C) (ao 1) (u5 aq))
  (cH (v4 C 1 aq))
  uF)
  (aD (aay C 4 [("filling", 5)] (Nm (Jr (aal c Y G rfl rfl))) (by decide) (fun _ _ _ _ _ => (xO (Cq.blk C) 5)) (fun _ _ _ _ _ => J9) (fun _ _ _ _ _ => (tU (aa aq (aa aq (aa (ao 1) (aa (ao 5) (aa (ao 2) (aa (ao 3) aJ)))))))) (blkOk_by rfl) (sw_true rfl rfl rfl rfl))
  (aD (uO (rP (cmp_eq C) (ao 1) (u5 aq))
  (cH (vC (aaC 4 (tU (aa aq (aa aq (aa aq (aa aq (aa (ao 2) (aa (ao 3) aJ))))))))))
  uF)
  (aD (uO (rP (V9) (ao 1) (u5 (tU (aa aq (aa aq aJ)))))
  (cH (vC (afj 4 (rG (abh C [("filling", 5)] (Nm (Jr (acU c Y G rfl rfl))) (by decide) (fun _ _ _ _ _ => (xO (Cq.blk C) 5)) (fun _ _ _ _ _ => J9) (fun _ _ _ _ _ => (tU (aa aq (aa aq (aa (ao 1) (aa (ao 5) (aa (ao 2) (aa (ao 3) aJ)))))))) (blkOk_by rfl))))))
  uF)
  (cH (s_ret (Hv 4)))))))))
theorem Uw (c : cI K) (Y : K.In base) (G : base.Ns mainGlobals mg) : ∃ fd : FuncData, v9 P w K mg base (T K) 1 (G8.adr K) fd G7 Hj ∧ Bn K (T K) fd G7 1 [] (aK []) := by
 obtain ⟨fd, F⟩ := c.def_ 22 (d := G8) rfl
 exact ⟨fd, ⟨fn_sim F Ui (Ri c Y G), F.kp⟩, (vo (FunD.bindsN F fun _ _ _ _ _ _ us hl => match us, hl with | [_], _ => (by kernel_rfl)))⟩
theorem XC (c : cI K) (Y : K.In base) (G : base.Ns mainGlobals mg) : Does P w K mg base (T K) 2 U9 "variants" (defScope Dq) (defBody Dq) JZ := by
 obtain ⟨fd_Term____init__, F_Term____init__, B_Term____init___0⟩ := JN (P := P) (w := w) c Y G
 obtain ⟨fd_variant_nodes, F_variant_nodes, B_variant_nodes_0⟩ := Uw (P := P) (w := w) c Y G
 intro f cdv A outer s H E C
 exact (cH (s_ret (abh C [("node", 1)] (Nm (rG (rN C F_variant_nodes (by decide) B_variant_nodes_0 (Us c Y G) (aa (xK (NT c rfl) (t8 0)) aJ)))) (by decide) (fun _ _ _ _ _ => (xO (Cq.blk C) 1)) (fun _ _ _ _ _ => J9) (fun _ _ _ _ _ => (rG (aaE (Cq.blk C) F_Term____init__ (by decide) B_Term____init___0 (Sd c Y G) (aa (xK (yq c rfl) (t8 0)) (aa (ao 1) aJ))))) (blkOk_by rfl))))
theorem aan (c : cI K) (Y : K.In base) (G : base.Ns mainGlobals mg) : ∃ fd : FuncData, v9 P w K mg base (T K) 3 (Ot.adr K) fd Oo En ∧ Bn K (T K) fd Oo 1 [] (aK []) := by
 obtain ⟨fd, F⟩ := c.def_ 23 (d := Ot) rfl
 exact ⟨fd, ⟨fn_sim F aah (XC c Y G), F.kp⟩, (vo (FunD.bindsN F fun _ _ _ _ _ _ us hl => match us, hl with | [_], _ => (by kernel_rfl)))⟩
theorem Vu (c : cI K) (Y : K.In base) (G : base.Ns mainGlobals mg) : Does P w K mg base (T K) 0 Qz "write_leaf" (defScope Bl) (defBody Bl) Q9 := by
 intro f cdv A outer s H E C
 exact (aD (uO (rP (cmp_eq C) (iD 0 aR) (u5 aq))
  (cH (s_ret (uH (zb (rJ aq (rJ (wQ (iD 0 aR)) (rJ aq (rJ (wQ (iD 0 aR)) (rJ aq Fd)))))))))
  uF)
  (aD (v4 C 1 (zb (rJ (wQ (iD 0 aR)) (rJ aq (rJ (wQ (iD 0 aR)) (rJ aq (rJ (wQ (iD 0 aR)) (rJ aq Fd))))))))
  (aD (uO (rP (cmp_eq C) (iD 0 aR) (u5 aq))
  (cH (s_ret (uH (zb (rJ aq (rJ (wQ (iD 0 aR)) (rJ aq (rJ (wQ (ao 1)) (rJ aq Fd)))))))))
  uF)
  (cH (s_ret (uH (zb (rJ (wQ (iD 0 aR)) (rJ aq (rJ (wQ (ao 1)) (rJ aq Fd)))))))))))
theorem XD (c : cI K) (Y : K.In base) (G : base.Ns mainGlobals mg) : ∃ fd : FuncData, v9 P w K mg base (T K) 1 (KZ.adr K) fd KY Ra ∧ Bn K (T K) fd KY 1 [] (aK []) := by
 obtain ⟨fd, F⟩ := c.def_ 24 (d := KZ) rfl
 exact ⟨fd, ⟨fn_sim F Xv (Vu c Y G), F.kp⟩, (vo (FunD.bindsN F fun _ _ _ _ _ _ us hl => match us, hl with | [_], _ => (by kernel_rfl)))⟩
theorem WP (c : cI K) (Y : K.In base) (G : base.Ns mainGlobals mg) {j : Nat} {R : Fn} {fdR : FuncData} (F_write : v9 P w K mg base (T K) (2 + 2 * j) (d_write.adr K) fdR Bm R) (B_write_0 : Bn K (T K) fdR Bm 1 [] (aK [])) : Does P w K mg base (T K) (2 + 2 * j) T6 "bracketed" (defScope Cp) (defBody Cp) (Jg R) := by
 intro f cdv A outer s H E C
 exact (aD (vz C 2 (rN C F_write (by omega) B_write_0 (IK c Y G) (aa (ao 0) aJ)))
  (cH (s_ret (uH (s_if (rP (Ks) (iD 0 aR) (t8 1)) (zb (rJ aq (rJ (wQ (ao 2)) (rJ aq Fd)))) (ao 2))))))
theorem Z3 (c : cI K) (Y : K.In base) (G : base.Ns mainGlobals mg) {j : Nat} {R : Fn} {fdR : FuncData} (F_write : v9 P w K mg base (T K) (2 + 2 * j) (d_write.adr K) fdR Bm R) (B_write_0 : Bn K (T K) fdR Bm 1 [] (aK [])) : ∃ fd : FuncData, v9 P w K mg base (T K) (2 + 2 * j + 1) (M6.adr K) fd M5 (M8 R) ∧ Bn K (T K) fd M5 2 [] (aK []) := by
 obtain ⟨fd, F⟩ := c.def_ 25 (d := M6) rfl
 exact ⟨fd, ⟨fn_sim F YZ (WP c Y G F_write B_write_0), F.kp⟩, (vo (FunD.bindsN F fun _ _ _ _ _ _ us hl => match us, hl with | [_, _], _ => (by kernel_rfl)))⟩
theorem ab0 (c : cI K) (Y : K.In base) (G : base.Ns mainGlobals mg) {j : Nat} {R : Fn} {fdR : FuncData} (F_write : v9 P w K mg base (T K) (2 + 2 * j) (d_write.adr K) fdR Bm R) (B_write_0 : Bn K (T K) fdR Bm 1 [] (aK [])) : Does P w K mg base (T K) (2 + 2 * j + 1) aaH "write" (defScope Kc) (defBody Kc) (aaZ R) := by
 obtain ⟨fd_bracketed, F_bracketed, B_bracketed_0⟩ := Z3 (P := P) (w := w) c Y G F_write B_write_0
 obtain ⟨fd_write_leaf, F_write_leaf, B_write_leaf_0⟩ := XD (P := P) (w := w) c Y G
 intro f cdv A outer s H E C
 exact (aD (afg (iD 0 aR) (R5 (acI (Mh Ke (Mh Ke Zk))) (cH (s_ret (rN C F_write_leaf (by omega) B_write_leaf_0 (Xx c Y G) (aa (ao 0) aJ))))
  (R5 Ke (cH (s_ret (uH (zb (rJ aq (rJ (wQ (rG (rN C F_write (by omega) B_write_0 (IK c Y G) (aa (iD 0 aR) aJ)))) (rJ aq Fd)))))))
  (R5 (acI (Mh Ke (Mh Ke Zk))) (cH (s_ret (uH (zb (rJ (wQ (iD 0 aR)) (rJ aq (rJ (wQ (rG (rN C F_write (by omega) B_write_0 (IK c Y G) (aa (iD 0 aR) aJ)))) (rJ aq (rJ (wQ (rG (rN C F_write (by omega) B_write_0 (IK c Y G) (aa (iD 0 aR) aJ)))) (rJ aq Fd))))))))))
  (R5 Ke (aD (vz C 1 (rN C F_bracketed (by omega) B_bracketed_0 (Rc c Y G) (aa (iD 0 aR) (aa (tU (aa aq (aa aq (aa aq aJ)))) aJ))))
  (cH (s_ret (uH (s_if (rP (cmp_eq C) (iD 0 aR) (u5 (Qh aR))) (zb (rJ aq (rJ (wQ (ao 1)) Fd))) (zb (rJ (wQ (iD 0 aR)) (rJ aq (rJ (wQ (ao 1)) Fd)))))))))
  agz)))))
  (aD (v4 C 2 (s_if (rP (cmp_eq C) (iD 0 aR) (u5 aq)) aq aq))
  (aD (v4 C 3 (tU (aa aq (aa aq aJ))))
  (aD (uO (RB (Yp (rP (cmp_eq C) (UJ (iD 0 aR) aR) (u5 aq)) (Wb (rP cmp_lt (UJ (iD 0 aR) aR) aR))))
  (cH (v4 C 3 (tU (aa aq aJ))))
  uF)
  (cH (s_ret (uH (zb (rJ (wQ (rG (rN C F_write (by omega) B_write_0 (IK c Y G) (aa (iD 0 aR) aJ)))) (rJ aq (rJ (wQ (ao 2)) (rJ aq (rJ (wQ (rG (rN C F_bracketed (by omega) B_bracketed_0 (Rc c Y G) (aa (iD 0 aR) (aa (ao 3) aJ))))) Fd)))))))))))))
theorem aed (c : cI K) (Y : K.In base) (G : base.Ns mainGlobals mg) : ∃ fd : FuncData, v9 P w K mg base (T K) 4 (d_write.adr K) fd Bm Wv ∧ Bn K (T K) fd Bm 1 [] (aK []) := by
 obtain ⟨fd, F⟩ := c.def_ 26 (d := d_write) rfl
 have B : Bn K (T K) fd Bm 1 [] (aK []) := (vo (FunD.bindsN F fun _ _ _ _ _ _ us hl => match us, hl with | [_], _ => (by kernel_rfl)))
 have key : ∀ j, v9 P w K mg base (T K) (2 + 2 * j) (d_write.adr K) fd Bm (Ur j) := by
  intro j
  induction j with
  | zero => exact ⟨fn_sim (k := 1) F Y0 (m := fun _ _ => .err) (fun f cdv A outer s H E C B w σ H2 fr h D R p => p.elim), F.kp⟩
  | succ j ih => exact ⟨fn_sim F Y0 (ab0 c Y G ih B), F.kp⟩
 exact ⟨fd, key 1, B⟩
theorem Vv (c : cI K) (Y : K.In base) (G : base.Ns mainGlobals mg) : Does P w K mg base (T K) 4 QC "Term.text" (defScope Bo) (defBody Bo) Hk := by
 obtain ⟨fd_write, F_write, B_write_0⟩ := aed (P := P) (w := w) c Y G
 intro f cdv A outer s H E C
 exact (cH (s_ret (rN C F_write (by decide) B_write_0 (IK c Y G) (aa (xK (NT c rfl) (t8 0)) aJ))))
theorem XF (c : cI K) (Y : K.In base) (G : base.Ns mainGlobals mg) : ∃ fd : FuncData, v9 P w K mg base (T K) 5 (K7.adr K) fd K6 Bw ∧ Binds K fd K6 [] := by
 obtain ⟨fd, F⟩ := c.def_ 27 (d := K7) rfl
 exact ⟨fd, ⟨fn_sim F Xw (Vv c Y G), F.kp⟩, (FunD.bindsN F fun _ _ _ _ _ _ us hl => match us, hl with | [_], _ => (by kernel_rfl))⟩
theorem Rj (c : cI K) (Y : K.In base) (G : base.Ns mainGlobals mg) : Does P w K mg base (T K) 0 Mg "_law_variants" (defScope yG) (defBody yG) CN := by
 intro f cdv A outer s H E C
 exact (aD (uO (rP (cmp_eq C) (iD 0 aR) (u5 aq))
  (cH (s_ret (yt (aa (ao 0) aJ))))
  uF)
  (aD (acu C (HF (uH (iD 0 aR)) (HF (uH (iD 0 aR)) (HF (uH (iD 0 aR)) aau))) (HH C 1 (HH C 2 (HH C 3 aaw))))
  (aD (uO (rP (Ks) (ao 1) (u5 (tU (aa aq (aa aq aJ)))))
  (aD (vz C 4 (yt (aa (tU (aa aq (aa aq (aa aq aJ)))) (aa (tU (aa aq (aa aq (aa aq aJ)))) (aa (tU (aa aq (aa aq (aa aq aJ)))) (aa (tU (aa aq (aa aq (aa aq aJ)))) aJ))))))
  (cH (vz C 4 (uQ (ao 4) (rG (yt (aa (tU (aa aq (aa aq (aa aq aJ)))) (aa (tU (aa aq (aa aq (aa aq aJ)))) aJ))))))))
  (cH (uO (rP (Ks) (ao 1) (u5 (tU (aa aq (aa aq aJ)))))
  (cH (vz C 4 (yt (aa (tU (aa aq (aa (ao 1) (aa aq aJ)))) (aa (tU (aa aq (aa (ao 1) (aa aq aJ)))) (aa (tU (aa aq (aa (ao 1) (aa aq aJ)))) aJ))))))
  (aD (vz C 4 (yt (aa (tU (aa aq (aa (ao 1) (aa aq aJ)))) (aa (tU (aa aq (aa (ao 1) (aa aq aJ)))) (aa (tU (aa aq (aa (ao 1) (aa aq aJ)))) aJ)))))
  (cH (vz C 4 (uQ (ao 4) (rG (yt (aa (tU (aa aq (aa (ao 1) (aa aq aJ)))) (aa (tU (aa aq (aa (ao 1) (aa aq aJ)))) aJ)))))))))))
  (cH (s_ret (abh C [("_law_row", 5)] (Nm (ao 4)) (by decide) (fun _ _ _ _ _ => (xO (Cq.blk C) 5)) (fun _ _ _ _ _ => J9) (fun _ _ _ _ _ => (rG (uQ (ao 5) (tU (aa (ao 2) (aa (ao 3) aJ)))))) (blkOk_by rfl)))))))
theorem Ux (c : cI K) (Y : K.In base) (G : base.Ns mainGlobals mg) : ∃ fd : FuncData, v9 P w K mg base (T K) 1 (Hf.adr K) fd G9 yO ∧ Bn K (T K) fd G9 1 [] (aK []) := by
 obtain ⟨fd, F⟩ := c.def_ 28 (d := Hf) rfl
 exact ⟨fd, ⟨fn_sim F Uj (Rj c Y G), F.kp⟩, (vo (FunD.bindsN F fun _ _ _ _ _ _ us hl => match us, hl with | [_], _ => (by kernel_rfl)))⟩
theorem Tf (c : cI K) (Y : K.In base) (G : base.Ns mainGlobals mg) : Does P w K mg base (T K) 0 Nz "Term.__eq__" (defScope zA) (defBody zA) NQ := by
 intro f cdv A outer s H E C
 exact (aD (uO (UG (Ey (u5 (acA (Zg c) (ao 1) (acz (c := 1) (Sd c Y G)) (Ph c Y G)))))
  (cH (s_ret (uH Ls)))
  uF)
  (cH (s_ret (uH (aci (Uz (cmp_eq C) (xK (yq c rfl) (t8 0)) (u5 (xK (yq c rfl) (t8 1)))) (ach (Uz (cmp_eq C) (xK (NT c rfl) (t8 0)) (u5 (xK (NT c rfl) (t8 1))))))))))
theorem Vw (c : cI K) (Y : K.In base) (G : base.Ns mainGlobals mg) : ∃ fd : FuncData, v9 P w K mg base (T K) 1 (Ij.adr K) fd Ii vK ∧ Bn K (T K) fd Ii 2 [] (aK []) := by
 obtain ⟨fd, F⟩ := c.def_ 29 (d := Ij) rfl
 exact ⟨fd, ⟨fn_sim F Va (Tf c Y G), F.kp⟩, (vo (FunD.bindsN F fun _ _ _ _ _ _ us hl => match us, hl with | [_, _], _ => (by kernel_rfl)))⟩
theorem aa0 (c : cI K) (Y : K.In base) (G : base.Ns mainGlobals mg) {X : Cx} {k : Nat} (hk : 6 ≤ k) (hP : X.prog = P) (hw : X.w = w) (hK : X.K = K) (hm : X.mg = mg) (hb : X.base = base) : aeE X (T K) k "text" Iu := by
 subst hP hw hK hm hb
 exact ⟨uN (.cons (by
  obtain ⟨fd, F, B⟩ := XF (P := X.prog) (w := X.w) c Y G
  exact ⟨_, _, _, fd, _, He.cls_ok (c.fact 32 (f := .he (.cls "Term")) rfl), ae7 (c.fact 38 (f := .prop "Term" "text") rfl), F, B, rfl, Nat.le_trans (by decide) hk⟩) .nil)⟩
theorem Vx (c : cI K) (Y : K.In base) (G : base.Ns mainGlobals mg) {X : Cx} {k : Nat} (hk : 1 ≤ k) (hP : X.prog = P) (hw : X.w = w) (hK : X.K = K) (hm : X.mg = mg) (hb : X.base = base) : Dm X (T K) k "__eq__" yP 1 [] (aK []) := by
 subst hP hw hK hm hb
 exact ⟨uN (.cons (by
  obtain ⟨fd, F, B⟩ := Vw (P := X.prog) (w := X.w) c Y G
  exact ⟨_, _, fd, _, He.cls_ok (c.fact 32 (f := .he (.cls "Term")) rfl), He.meth_ok (c.fact 44 (f := .he (.meth "Term" "__eq__")) rfl), F, B, (by show _ ∉ fld 1; decide +kernel), Nat.le_trans (by decide) hk⟩) .nil)⟩
theorem XH (c : cI K) (Y : K.In base) (G : base.Ns mainGlobals mg) {X : Cx} {k : Nat} (hk : 10 ≤ k) (hP : X.prog = P) (hw : X.w = w) (hK : X.K = K) (hm : X.mg = mg) (hb : X.base = base) : CmF X (T K) k 1 "read" 2 zJ := by
 subst hP hw hK hm hb
 obtain ⟨fd, F, B⟩ := Xz (P := X.prog) (w := X.w) c Y G
 obtain ⟨cr, p, cm⟩ := agw (YG (c.fact 58 (f := .raw (fun K => cmX K (He.ga K "Term") "read")) rfl))
 exact ⟨_, p, _, fd, _, cr, cm, F, B, Nat.le_trans (by decide) hk⟩
theorem aee (c : cI K) (Y : K.In base) (G : base.Ns mainGlobals mg) : Does P w K mg base (T K) 10 aeG "law" (defScope RW) (defBody RW) Vm := by
 obtain ⟨fd__law_draw, F__law_draw, B__law_draw_0⟩ := Ln (P := P) (w := w) c Y G
 obtain ⟨fd__law_leaf, F__law_leaf, B__law_leaf_0⟩ := ZW (P := P) (w := w) c Y G
 obtain ⟨fd__law_leaf_text, F__law_leaf_text, B__law_leaf_text_0⟩ := Td (P := P) (w := w) c Y G
 obtain ⟨fd__law_source, F__law_source, B__law_source_0⟩ := Wx (P := P) (w := w) c Y G
 obtain ⟨fd__law_variants, F__law_variants, B__law_variants_0⟩ := Ux (P := P) (w := w) c Y G
 obtain ⟨fd_variants, F_variants, B_variants_0⟩ := aan (P := P) (w := w) c Y G
 intro f cdv A outer s H E C
 exact (aD (abg C (aax (ae0 C aR (ae1 C aR (Ez (t8 0) (Fo c Y G)) (agU c Y G)) (agV c Y G)) (ZR c Y G)) (xO C 1)
  (aD (v4 C 2 (RK (rN C F__law_source (by decide) B__law_source_0 (Ww c Y G) (aa (ao 0) (aa (ao 1) aJ)))))
  (aD (vz C 3 (uQ aR (rG (rN C F__law_draw (by decide) B__law_draw_0 (Dg c Y G) (aa (ao 2) (aa aR aJ))))))
  (aD (vz C 4 (rN C F__law_leaf (by decide) B__law_leaf_0 (ZQ c Y G) (aa (ao 2) (aa (ao 3) aJ))))
  (aD (vz C 5 (ahj (c := 1) C (XH (P := P) c Y G (by decide) rfl rfl rfl rfl rfl) (Sd c Y G) (aa (rG (rN C F__law_leaf_text (by decide) B__law_leaf_text_0 (Eu c Y G) (aa (ao 4) aJ))) (aa (ao 3) aJ))))
  (aD (aay C 6 [("_law_one", 9)] (Nm (rG (rN C F__law_variants (by decide) B__law_variants_0 (Ut c Y G) (aa (ao 4) aJ)))) (by decide) (fun _ _ _ _ _ => (xO (Cq.blk C) 9)) (fun _ _ _ _ _ => J9) (fun _ _ _ _ _ => (rG (rN (Cq.blk C) F__law_leaf_text (by decide) B__law_leaf_text_0 (Eu c Y G) (aa (ao 9) aJ)))) (blkOk_by rfl) (sw_true rfl rfl rfl rfl))
  (aD (abg C (aax aR (ZR c Y G)) (xO C 7)
  (aD (v4 C 8 (RK (rN C F_variants (by decide) B_variants_0 (aaj c Y G) (aa (ao 5) aJ))))
  (aD (uO (RB (XX (UG (Ey (u5 (acA (Zg c) (ao 8) (ahb (t := "list") (afH c Y G)) (Ph c Y G))))) (Yo (rP (GX C) (rG (Zr C [("_law_one", 9)] (Zq (ao 8)) (by decide) (fun _ _ _ _ _ => (xO (Cq.blk C) 9)) (fun _ _ _ _ _ => J9) (fun _ _ _ _ _ => (rG (aaF (Cq.blk C) (aa0 (P := P) c Y G (by decide) rfl rfl rfl rfl rfl) (ao 9)))) (blkOk_by rfl))) (t8 6)))))
  (cH (s_ret (uH Ls)))
  uF)
  (aD (uO (RB (XX (rP (GX C) (rG (Zr C [("_law_one", 9)] (Zq (ao 8)) (by decide) (fun _ _ _ _ _ => (xO (Cq.blk C) 9)) (fun _ _ _ _ _ => (aaz (rP (GX (Cq.blk C)) (xK (yq c rfl) (t8 9)) (t8 3)))) (fun _ _ _ _ _ => (ao 9)) (blkOk_by rfl))) (GP (yt aJ))) (Yo (rP (GX C) (Ez (GP (Zr C [("_law_one", 9)] (Zq (ao 8)) (by decide) (fun _ _ _ _ _ => (xO (Cq.blk C) 9)) (fun _ _ _ _ _ => (aaz (afb (afd (j := 1) (Cq.blk C) (by decide) (Vx (P := P) c Y G (by decide) rfl rfl rfl rfl rfl) (Vn c rfl)) (ao 9) (ao 5)))) (fun _ _ _ _ _ => (ao 9)) (blkOk_by rfl))) (Fo c Y G)) (u5 aR)))))
  (cH (s_ret (uH Ls)))
  uF)
  (cH (vC (aaC 8 (ao 5))))))))
  (cH (uO (rP (GX C) (rG (aaF C (aa0 (P := P) c Y G (by decide) rfl rfl rfl rfl rfl) (ao 5))) (GP (rN C F__law_leaf_text (by decide) B__law_leaf_text_0 (Eu c Y G) (aa (ao 4) aJ))))
  (cH (s_ret (uH Ls)))
  uF)))))))))
  (cH (s_ret (uH Ls))))
end
end L
namespace L
open PySem PySem.Spec L2 Pk
theorem uV {fr : Fr} {h : Hh} {Q : Fl → Fr → Hh → Prop} {E : bh → Fr → Hh → Prop} : Wp (Dr fr h) Q E = Wp ((
 (aC (cP 5 (cJ 2 0 v7 (aK []) (aj [(ak 0), (mJ (vq [(mC (.str "first")), (mC (.str "last")), (mC (.str "top")), (mC (.str "low")), (mC (.str "change")), (mC (.str "rises")), (mC (.str "rises")), (mC (.str "told"))]))]) (aj [])))
 (gK (oh [(mC (.str "each")), (ak 5), (mJ (BW (bf uE (ak 5) (mC (.str "told"))) (mC (.str "raw")) (cJ 2 0 v7 (aK []) (aj [(ak 0), (mJ (vq [(mC (.str "raw")), (mC (.str "zero")), (mC (.str "held"))]))]) (aj [])))), (ak 2), (ak 3)])))) fr h) Q E := congrArg (fun m => Wp (m fr h) Q E) Dr.eq_1
theorem uW {fr : Fr} {h : Hh} {Q : Fl → Fr → Hh → Prop} {E : bh → Fr → Hh → Prop} : Wp (Ds fr h) Q E = Wp ((
 (aC (tO (bf O6 (ak 4) (mC (.int 3)))
 (aC (cP 5 (cJ 2 0 v7 (aK []) (aj [(ak 0), (mJ (vq [(mC (.str "first")), (mC (.str "last")), (mC (.str "change")), (mC (.str "rises")), (mC (.str "rises"))]))]) (aj [])))
 (gK (oh [(mC (.str "all")), (ak 5), (mJ (cJ 2 0 v7 (aK []) (aj [(ak 0), (mJ (vq [(mC (.str "zero")), (mC (.str "held"))]))]) (aj []))), (ak 2), (ak 3)])))
 (M.ret .nx))
 Dr)) fr h) Q E := congrArg (fun m => Wp (m fr h) Q E) Ds.eq_1
theorem uX {fr : Fr} {h : Hh} {Q : Fl → Fr → Hh → Prop} {E : bh → Fr → Hh → Prop} : Wp (Dt fr h) Q E = Wp ((
 (aC (tO (bf uE (ak 4) (mC (.int 0)))
 (gK (oh [(mC (.str "events")), (ak 2), (ak 3)]))
 (M.ret .nx))
 Ds)) fr h) Q E := congrArg (fun m => Wp (m fr h) Q E) Dt.eq_1
theorem uY {fr : Fr} {h : Hh} {Q : Fl → Fr → Hh → Prop} {E : bh → Fr → Hh → Prop} : Wp (Du fr h) Q E = Wp ((
 (aC (cP 4 (cJ 2 0 vG (aK []) (aj [(ak 0), (mC (.int 5))]) (aj [])))
 Dt)) fr h) Q E := congrArg (fun m => Wp (m fr h) Q E) Du.eq_1
theorem uZ {fr : Fr} {h : Hh} {Q : Fl → Fr → Hh → Prop} {E : bh → Fr → Hh → Prop} : Wp (Dy fr h) Q E = Wp ((
 (aC (cP 3 (cJ 2 0 v7 (aK []) (aj [(ak 0), (mJ (vq [(ak 1), (mJ (bf tV (mJ (bf tV (ak 2) (mC (.int 1)))) (mJ (cJ 2 0 vG (aK []) (aj [(ak 0), (bf Yk (ak 1) (ak 2))]) (aj [])))))]))]) (aj [])))
 Du)) fr h) Q E := congrArg (fun m => Wp (m fr h) Q E) Dy.eq_1
theorem wH {fr : Fr} {h : Hh} {Q : Fl → Fr → Hh → Prop} {E : bh → Fr → Hh → Prop} : Wp (Fe fr h) Q E = Wp ((
 (aC (cP 2 (cJ 2 0 v7 (aK []) (aj [(ak 0), (mJ (vq [(mC (.int 0)), (mC (.int 0)), (mJ (cJ 2 0 vG (aK []) (aj [(ak 0), (ak 1)]) (aj [])))]))]) (aj [])))
 Dy)) fr h) Q E := congrArg (fun m => Wp (m fr h) Q E) Fe.eq_1
theorem Uy {fr : Fr} {h : Hh} {Q : Fl → Fr → Hh → Prop} {E : bh → Fr → Hh → Prop} : Wp (zF fr h) Q E = Wp ((
 (aC (xF 0 tQ (ak 1))
 (xF 0 Br (ak 2)))) fr h) Q E := congrArg (fun m => Wp (m fr h) Q E) zF.eq_1
theorem uI {fr : Fr} {h : Hh} {Q : Fl → Fr → Hh → Prop} {E : bh → Fr → Hh → Prop} : Wp (Ce fr h) Q E = Wp ((
 (Ow 2 (fun i j => i + j) (mC (.int 1)))) fr h) Q E := congrArg (fun m => Wp (m fr h) Q E) Ce.eq_1
theorem uJ {fr : Fr} {h : Hh} {Q : Fl → Fr → Hh → Prop} {E : bh → Fr → Hh → Prop} : Wp (FT fr h) Q E = Wp ((
 (tO (bf Aj (gH 0 (ak 1) gJ) (iz 3))
 (yw (Mu (bf O6 (ak 2) (mQ vh (iz 0))) (bf Aj (gH 0 (ak 2) gJ) (iz 3))) Ce 60)
 (M.ret .nx))) fr h) Q E := congrArg (fun m => Wp (m fr h) Q E) FT.eq_1
theorem uK {fr : Fr} {h : Hh} {Q : Fl → Fr → Hh → Prop} {E : bh → Fr → Hh → Prop} : Wp (FW fr h) Q E = Wp ((
 (aC (Fw (Jo (oh [(mC (.str "abcdefghijklmnopqrstuvwxyz")), (mC (.str "0123456789"))])) (wg 3) FT)
 (gK (za 2)))) fr h) Q E := congrArg (fun m => Wp (m fr h) Q E) FW.eq_1
theorem vX {fr : Fr} {h : Hh} {Q : Fl → Fr → Hh → Prop} {E : bh → Fr → Hh → Prop} : Wp (Hi fr h) Q E = Wp ((
 (aC (cP 2 (bf tV (ak 1) (mC (.int 1))))
 FW)) fr h) Q E := congrArg (fun m => Wp (m fr h) Q E) Hi.eq_1
theorem yQ {fr : Fr} {h : Hh} {Q : Fl → Fr → Hh → Prop} {E : bh → Fr → Hh → Prop} : Wp (yH fr h) Q E = Wp ((
 (aC (tO (bf uE (gH 1 (ak 3) gJ) (mC (.str " ")))
 (aC (Ow 3 (fun i j => i + j) (mC (.int 1)))
 (M.ret .ct))
 (M.ret .nx))
 (aC (cP 4 (cJ 2 0 BR (aK []) (aj [(ak 1), (ak 3)]) (aj [])))
 (aC (su (Jd (mQ (ug xT) (iz 0)) (mJ (gH 1 (Lw (UL (ak 3)) (UL (ak 4))) zR))))
 (aC (su (Jd (mQ (ug zf) (iz 0)) (ak 3)))
 (cP 3 (ak 4))))))) fr h) Q E := congrArg (fun m => Wp (m fr h) Q E) yH.eq_1
theorem yR {fr : Fr} {h : Hh} {Q : Fl → Fr → Hh → Prop} {E : bh → Fr → Hh → Prop} : Wp (yI fr h) Q E = Wp ((
 (aC (yw (bf O6 (ak 3) (mQ vh (iz 1))) yH 60)
 (su (Jd (mQ (ug zf) (iz 0)) (mQ vh (iz 1)))))) fr h) Q E := congrArg (fun m => Wp (m fr h) Q E) yI.eq_1
theorem yS {fr : Fr} {h : Hh} {Q : Fl → Fr → Hh → Prop} {E : bh → Fr → Hh → Prop} : Wp (yJ fr h) Q E = Wp ((
 (aC (cP 3 (mC (.int 0)))
 yI)) fr h) Q E := congrArg (fun m => Wp (m fr h) Q E) yJ.eq_1
theorem yU {fr : Fr} {h : Hh} {Q : Fl → Fr → Hh → Prop} {E : bh → Fr → Hh → Prop} : Wp (yK fr h) Q E = Wp ((
 (aC (xF 0 wU (mC (.int 0)))
 yJ)) fr h) Q E := congrArg (fun m => Wp (m fr h) Q E) yK.eq_1
theorem yV {fr : Fr} {h : Hh} {Q : Fl → Fr → Hh → Prop} {E : bh → Fr → Hh → Prop} : Wp (yL fr h) Q E = Wp ((
 (aC (xF 0 zf (Fy (vq [])))
 yK)) fr h) Q E := congrArg (fun m => Wp (m fr h) Q E) yL.eq_1
theorem yW {fr : Fr} {h : Hh} {Q : Fl → Fr → Hh → Prop} {E : bh → Fr → Hh → Prop} : Wp (yM fr h) Q E = Wp ((
 (aC (xF 0 xT (Fy (vq [])))
 yL)) fr h) Q E := congrArg (fun m => Wp (m fr h) Q E) yM.eq_1
theorem Ae {fr : Fr} {h : Hh} {Q : Fl → Fr → Hh → Prop} {E : bh → Fr → Hh → Prop} : Wp (yz fr h) Q E = Wp ((
 (aC (xF 0 tQ (ak 2))
 yM)) fr h) Q E := congrArg (fun m => Wp (m fr h) Q E) yz.eq_1
theorem Jw {fr : Fr} {h : Hh} {Q : Fl → Fr → Hh → Prop} {E : bh → Fr → Hh → Prop} : Wp (yC fr h) Q E = Wp ((
 (gK (BW (bf O6 (mQ (ug wU) (iz 0)) (mQ vh (mQ (ug xT) (iz 0)))) (bf gJ (mQ (ug xT) (iz 0)) (mQ (ug wU) (iz 0))) (mC (.str ""))))) fr h) Q E := congrArg (fun m => Wp (m fr h) Q E) yC.eq_1
theorem Jx {fr : Fr} {h : Hh} {Q : Fl → Fr → Hh → Prop} {E : bh → Fr → Hh → Prop} : Wp (zY fr h) Q E = Wp ((
 (aC (Bp 0 wU (fun i j => i + j) (mC (.int 1)))
 (gK (mC (.bl true))))) fr h) Q E := congrArg (fun m => Wp (m fr h) Q E) zY.eq_1
theorem Mq {fr : Fr} {h : Hh} {Q : Fl → Fr → Hh → Prop} {E : bh → Fr → Hh → Prop} : Wp (z7 fr h) Q E = Wp ((
 (aC (tO (bf Ew (mJ (tX 0 0 t7 (aK []) (ak 0) (aj []) (aj []))) (iz 1))
 (gK (mC (.bl false)))
 (M.ret .nx))
 zY)) fr h) Q E := congrArg (fun m => Wp (m fr h) Q E) z7.eq_1
theorem GF {fr : Fr} {h : Hh} {Q : Fl → Fr → Hh → Prop} {E : bh → Fr → Hh → Prop} : Wp (wX fr h) Q E = Wp ((
 (gK (N8 (bf (fun h x y => (Ew h x y).map .bl) (mJ (tX 0 0 t7 (aK []) (ak 0) (aj []) (aj []))) (mC (.str ""))) (bf (fun h x y => (Aj h x y).map .bl) (bf gJ (mJ (tX 0 0 t7 (aK []) (ak 0) (aj []) (aj []))) (mC (.int 0))) (mC (.str "0123456789")))))) fr h) Q E := congrArg (fun m => Wp (m fr h) Q E) wX.eq_1
theorem Th {fr : Fr} {h : Hh} {Q : Fl → Fr → Hh → Prop} {E : bh → Fr → Hh → Prop} : Wp (Am fr h) Q E = Wp ((
 (aC (Bp 0 wU (fun i j => i + j) (mC (.int 1)))
 (gK (za 2)))) fr h) Q E := congrArg (fun m => Wp (m fr h) Q E) Am.eq_1
theorem Tj {fr : Fr} {h : Hh} {Q : Fl → Fr → Hh → Prop} {E : bh → Fr → Hh → Prop} : Wp (Ao fr h) Q E = Wp ((
 (aC (tO (bf Ql (ak 2) (iz 1))
 (su (tX 0 0 Dz (aK []) (ak 0) (aj []) (aj [])))
 (M.ret .nx))
 Am)) fr h) Q E := congrArg (fun m => Wp (m fr h) Q E) Ao.eq_1
theorem WQ {fr : Fr} {h : Hh} {Q : Fl → Fr → Hh → Prop} {E : bh → Fr → Hh → Prop} : Wp (Bt fr h) Q E = Wp ((
 (aC (cP 2 (tX 0 0 t7 (aK []) (ak 0) (aj []) (aj [])))
 Ao)) fr h) Q E := congrArg (fun m => Wp (m fr h) Q E) Bt.eq_1
theorem Hr {fr : Fr} {h : Hh} {Q : Fl → Fr → Hh → Prop} {E : bh → Fr → Hh → Prop} : Wp (zK fr h) Q E = Wp ((
 (aC (Bp 0 wU (fun i j => i + j) (mC (.int 1)))
 (gK (mQ yo (ak 3))))) fr h) Q E := congrArg (fun m => Wp (m fr h) Q E) zK.eq_1
theorem Ht {fr : Fr} {h : Hh} {Q : Fl → Fr → Hh → Prop} {E : bh → Fr → Hh → Prop} : Wp (zL fr h) Q E = Wp ((
 (aC (tO (O7 (bf cGt (mQ vh (iz 3)) (mC (.int 7))) (O7 (Mu (bf uE (gH 3 (mC (.int 0)) gJ) (mC (.str "0"))) (bf cGt (mQ vh (iz 3)) (mC (.int 1)))) (Ku (Nk cLe cLe (ak 1) (mQ yo (ak 3)) (ak 2)))))
 (su (tX 0 0 Dz (aK []) (ak 0) (aj []) (aj [])))
 (M.ret .nx))
 zK)) fr h) Q E := congrArg (fun m => Wp (m fr h) Q E) zL.eq_1
theorem Lq {fr : Fr} {h : Hh} {Q : Fl → Fr → Hh → Prop} {E : bh → Fr → Hh → Prop} : Wp (zG fr h) Q E = Wp ((
 (aC (cP 3 (tX 0 0 t7 (aK []) (ak 0) (aj []) (aj [])))
 zL)) fr h) Q E := congrArg (fun m => Wp (m fr h) Q E) zG.eq_1
theorem Vy {fr : Fr} {h : Hh} {Q : Fl → Fr → Hh → Prop} {E : bh → Fr → Hh → Prop} : Wp (CJ fr h) Q E = Wp ((
 (aC (tO (mQ D.tru (tX 1 0 zH (aK []) (ak 0) (aj [(mC (.str "["))]) (aj [])))
 (aC (tO (mQ D.tru (tX 0 0 wk (aK []) (ak 0) (aj []) (aj [])))
 (cP 1 (tX 2 0 z8 (aK []) (ak 0) (aj [(mC (.int 0)), (bf Yk (mQ (ug tQ) (iz 0)) (mC (.int 1)))]) (aj [])))
 (M.ret .nx))
 (aC (su (rO rF (ak 0) (aj [(mC (.str ":"))])))
 (aC (tO (mQ D.tru (tX 0 0 wk (aK []) (ak 0) (aj []) (aj [])))
 (cP 2 (tX 2 0 z8 (aK []) (ak 0) (aj [(mJ (bf tV (ak 1) (mC (.int 1)))), (mQ (ug tQ) (iz 0))]) (aj [])))
 (M.ret .nx))
 (su (rO rF (ak 0) (aj [(mC (.str "]"))]))))))
 (M.ret .nx))
 (gK (oh [(ak 1), (ak 2)])))) fr h) Q E := congrArg (fun m => Wp (m fr h) Q E) CJ.eq_1
theorem Vz {fr : Fr} {h : Hh} {Q : Fl → Fr → Hh → Prop} {E : bh → Fr → Hh → Prop} : Wp (CK fr h) Q E = Wp ((
 (aC (cP 2 (mQ (ug tQ) (iz 0)))
 CJ)) fr h) Q E := congrArg (fun m => Wp (m fr h) Q E) CK.eq_1
theorem Z4 {fr : Fr} {h : Hh} {Q : Fl → Fr → Hh → Prop} {E : bh → Fr → Hh → Prop} : Wp (De fr h) Q E = Wp ((
 (aC (cP 1 (mC (.int 0)))
 CK)) fr h) Q E := congrArg (fun m => Wp (m fr h) Q E) De.eq_1
theorem Tn {fr : Fr} {h : Hh} {Q : Fl → Fr → Hh → Prop} {E : bh → Fr → Hh → Prop} : Wp (Aq fr h) Q E = Wp ((
 (aC (su (rO rF (ak 0) (aj [(mC (.str ")"))])))
 (gK (oh [(mC (.str "leaf")), (ak 1), (ak 2), (ak 4), (ak 5), (ak 6)])))) fr h) Q E := congrArg (fun m => Wp (m fr h) Q E) Aq.eq_1
theorem Tp {fr : Fr} {h : Hh} {Q : Fl → Fr → Hh → Prop} {E : bh → Fr → Hh → Prop} : Wp (Ar fr h) Q E = Wp ((
 (aC (su (rO rF (ak 0) (aj [(mC (.str ")"))])))
 Aq)) fr h) Q E := congrArg (fun m => Wp (m fr h) Q E) Ar.eq_1
theorem Tq {fr : Fr} {h : Hh} {Q : Fl → Fr → Hh → Prop} {E : bh → Fr → Hh → Prop} : Wp (Av fr h) Q E = Wp ((
 (aC (Qm (mJ (cJ 1 0 xr (aK []) (aj [(ak 0)]) (aj []))) (Ly 2 (BX (wg 5) (BX (wg 6) Oc))))
 Ar)) fr h) Q E := congrArg (fun m => Wp (m fr h) Q E) Av.eq_1
theorem WR {fr : Fr} {h : Hh} {Q : Fl → Fr → Hh → Prop} {E : bh → Fr → Hh → Prop} : Wp (Bu fr h) Q E = Wp ((
 (aC (cP 4 (rO rF (ak 0) (Ah (ak 3) (aj []))))
 Av)) fr h) Q E := congrArg (fun m => Wp (m fr h) Q E) Bu.eq_1
theorem wu {fr : Fr} {h : Hh} {Q : Fl → Fr → Hh → Prop} {E : bh → Fr → Hh → Prop} : Wp (DG fr h) Q E = Wp ((
 (aC (cP 5 (BW (bf uE (ak 4) (mC (.str "told"))) (oh [(mC (.str "raw"))]) (oh [(mC (.str "raw")), (mC (.str "zero")), (mC (.str "held"))])))
 (gK (cJ 4 0 wY (aK []) (aj [(ak 0), (mC (.str "each")), (ak 4), (ak 5)]) (aj []))))) fr h) Q E := congrArg (fun m => Wp (m fr h) Q E) DG.eq_1
theorem ww {fr : Fr} {h : Hh} {Q : Fl → Fr → Hh → Prop} {E : bh → Fr → Hh → Prop} : Wp (DK fr h) Q E = Wp ((
 (aC (su (rO rF (ak 0) (aj [(mC (.str "("))])))
 DG)) fr h) Q E := congrArg (fun m => Wp (m fr h) Q E) DK.eq_1
theorem wy {fr : Fr} {h : Hh} {Q : Fl → Fr → Hh → Prop} {E : bh → Fr → Hh → Prop} : Wp (DN fr h) Q E = Wp ((
 (aC (cP 4 (rO rF (ak 0) (Ah (mC (.tup Dd)) (aj []))))
 DK)) fr h) Q E := congrArg (fun m => Wp (m fr h) Q E) DN.eq_1
theorem wz {fr : Fr} {h : Hh} {Q : Fl → Fr → Hh → Prop} {E : bh → Fr → Hh → Prop} : Wp (DP fr h) Q E = Wp ((
 (aC (tO (bf Ew (ak 1) (mC (.str "sum")))
 (aC (su (rO rF (ak 0) (aj [(mC (.str "sum"))])))
 (aC (su (rO rF (ak 0) (aj [(mC (.str "("))])))
 (gK (cJ 4 0 wY (aK []) (aj [(ak 0), (mC (.str "all")), (ak 1), (oh [(mC (.str "zero")), (mC (.str "held"))])]) (aj [])))))
 (M.ret .nx))
 DN)) fr h) Q E := congrArg (fun m => Wp (m fr h) Q E) DP.eq_1
theorem wA {fr : Fr} {h : Hh} {Q : Fl → Fr → Hh → Prop} {E : bh → Fr → Hh → Prop} : Wp (DQ fr h) Q E = Wp ((
 (aC (su (rO rF (ak 0) (aj [(mC (.str "("))])))
 DP)) fr h) Q E := congrArg (fun m => Wp (m fr h) Q E) DQ.eq_1
theorem wB {fr : Fr} {h : Hh} {Q : Fl → Fr → Hh → Prop} {E : bh → Fr → Hh → Prop} : Wp (DR fr h) Q E = Wp ((
 (aC (tO (bf uE (ak 1) (mC (.str "events")))
 (aC (Qm (mJ (cJ 1 0 xr (aK []) (aj [(ak 0)]) (aj []))) (Ly 2 (BX (wg 2) (BX (wg 3) Oc))))
 (gK (oh [(mC (.str "events")), (ak 2), (ak 3)])))
 (M.ret .nx))
 DQ)) fr h) Q E := congrArg (fun m => Wp (m fr h) Q E) DR.eq_1
theorem yr {fr : Fr} {h : Hh} {Q : Fl → Fr → Hh → Prop} {E : bh → Fr → Hh → Prop} : Wp (Ff fr h) Q E = Wp ((
 (aC (cP 1 (rO rF (ak 0) (Mi (mC (.str "events")) (Mi (mC (.str "sum")) (Ah (mC (.tup yZ)) (aj []))))))
 DR)) fr h) Q E := congrArg (fun m => Wp (m fr h) Q E) Ff.eq_1
theorem WY {fr : Fr} {h : Hh} {Q : Fl → Fr → Hh → Prop} {E : bh → Fr → Hh → Prop} : Wp (DW fr h) Q E = Wp ((
 (aC (su (rO rF (ak 0) (aj [(mC (.str ")"))])))
 (gK (oh [(ak 2), (ak 3), (ak 4)])))) fr h) Q E := congrArg (fun m => Wp (m fr h) Q E) DW.eq_1
theorem W0 {fr : Fr} {h : Hh} {Q : Fl → Fr → Hh → Prop} {E : bh → Fr → Hh → Prop} : Wp (DY fr h) Q E = Wp ((
 (aC (cP 4 (fun _ _ => .err))
 DW)) fr h) Q E := congrArg (fun m => Wp (m fr h) Q E) DY.eq_1
theorem W3 {fr : Fr} {h : Hh} {Q : Fl → Fr → Hh → Prop} {E : bh → Fr → Hh → Prop} : Wp (Ea fr h) Q E = Wp ((
 (aC (su (rO rF (ak 0) (aj [(mC (.str ","))])))
 DY)) fr h) Q E := congrArg (fun m => Wp (m fr h) Q E) Ea.eq_1
theorem W4 {fr : Fr} {h : Hh} {Q : Fl → Fr → Hh → Prop} {E : bh → Fr → Hh → Prop} : Wp (Eb fr h) Q E = Wp ((
 (aC (cP 3 (fun _ _ => .err))
 Ea)) fr h) Q E := congrArg (fun m => Wp (m fr h) Q E) Eb.eq_1
theorem W6 {fr : Fr} {h : Hh} {Q : Fl → Fr → Hh → Prop} {E : bh → Fr → Hh → Prop} : Wp (Ec fr h) Q E = Wp ((
 (aC (su (rO rF (ak 0) (aj [(mC (.str "("))])))
 Eb)) fr h) Q E := congrArg (fun m => Wp (m fr h) Q E) Ec.eq_1
theorem W7 {fr : Fr} {h : Hh} {Q : Fl → Fr → Hh → Prop} {E : bh → Fr → Hh → Prop} : Wp (Ed fr h) Q E = Wp ((
 (aC (cP 2 (rO rF (ak 0) (aj [(mC (.str "max")), (mC (.str "min"))])))
 Ec)) fr h) Q E := congrArg (fun m => Wp (m fr h) Q E) Ed.eq_1
theorem W8 {fr : Fr} {h : Hh} {Q : Fl → Fr → Hh → Prop} {E : bh → Fr → Hh → Prop} : Wp (Eh fr h) Q E = Wp ((
 (aC (tO (bf Ql (mJ (tX 0 0 t7 (aK []) (ak 0) (aj []) (aj []))) (oh [(mC (.str "max")), (mC (.str "min"))]))
 (gK (cJ 1 0 vH (aK []) (aj [(ak 0)]) (aj [])))
 (M.ret .nx))
 Ed)) fr h) Q E := congrArg (fun m => Wp (m fr h) Q E) Eh.eq_1
theorem W9 {fr : Fr} {h : Hh} {Q : Fl → Fr → Hh → Prop} {E : bh → Fr → Hh → Prop} : Wp (Ei fr h) Q E = Wp ((
 (aC (tO (mQ D.tru (tX 1 0 zH (aK []) (ak 0) (aj [(mC (.str "abs"))]) (aj [])))
 (aC (su (rO rF (ak 0) (aj [(mC (.str "("))])))
 (aC (cP 1 (fun _ _ => .err))
 (aC (su (rO rF (ak 0) (aj [(mC (.str ")"))])))
 (gK (oh [(mC (.str "abs")), (ak 1)])))))
 (M.ret .nx))
 Eh)) fr h) Q E := congrArg (fun m => Wp (m fr h) Q E) Ei.eq_1
theorem aao {fr : Fr} {h : Hh} {Q : Fl → Fr → Hh → Prop} {E : bh → Fr → Hh → Prop} : Wp (Fg fr h) Q E = Wp ((
 (aC (tO (mQ D.tru (tX 1 0 zH (aK []) (ak 0) (aj [(mC (.str "("))]) (aj [])))
 (aC (cP 1 (fun _ _ => .err))
 (aC (su (rO rF (ak 0) (aj [(mC (.str ")"))])))
 (gK (za 1))))
 (M.ret .nx))
 Ei)) fr h) Q E := congrArg (fun m => Wp (m fr h) Q E) Fg.eq_1
theorem Tr {fr : Fr} {h : Hh} {Q : Fl → Fr → Hh → Prop} {E : bh → Fr → Hh → Prop} : Wp (Ax fr h) Q E = Wp ((
 (aC (cP 2 (cJ 1 0 zg (aK []) (aj [(ak 0)]) (aj [])))
 (gK (oh [(mC (.str "times")), (BW (mQ D.tru (iz 1)) (mQ (fun _ => Hz) (ak 3)) (ak 3)), (ak 2)])))) fr h) Q E := congrArg (fun m => Wp (m fr h) Q E) Ax.eq_1
theorem Tt {fr : Fr} {h : Hh} {Q : Fl → Fr → Hh → Prop} {E : bh → Fr → Hh → Prop} : Wp (Ay fr h) Q E = Wp ((
 (aC (su (rO rF (ak 0) (aj [(mC (.str "*"))])))
 Ax)) fr h) Q E := congrArg (fun m => Wp (m fr h) Q E) Ay.eq_1
theorem Tu {fr : Fr} {h : Hh} {Q : Fl → Fr → Hh → Prop} {E : bh → Fr → Hh → Prop} : Wp (Az fr h) Q E = Wp ((
 (aC (cP 3 (tX 2 0 z8 (aK []) (ak 0) (aj [(mC (.int 0)), (mC (.int 1000000))]) (aj [])))
 Ay)) fr h) Q E := congrArg (fun m => Wp (m fr h) Q E) Az.eq_1
theorem Xa {fr : Fr} {h : Hh} {Q : Fl → Fr → Hh → Prop} {E : bh → Fr → Hh → Prop} : Wp (Bv fr h) Q E = Wp ((
 (aC (tO (Ku (mQ D.tru (tX 0 0 wk (aK []) (ak 0) (aj []) (aj []))))
 (aC (cP 2 (cJ 1 0 zg (aK []) (aj [(ak 0)]) (aj [])))
 (gK (BW (mQ D.tru (iz 1)) (oh [(mC (.str "times")), (mQ (fun _ => Hz) (mC (.int 1))), (ak 2)]) (ak 2))))
 (M.ret .nx))
 Az)) fr h) Q E := congrArg (fun m => Wp (m fr h) Q E) Bv.eq_1
theorem IW {fr : Fr} {h : Hh} {Q : Fl → Fr → Hh → Prop} {E : bh → Fr → Hh → Prop} : Wp (Ek fr h) Q E = Wp ((
 (aC (su (rO rF (ak 0) (aj [(ak 2)])))
 (cP 1 (oh [(BW (bf uE (ak 2) (mC (.str "+"))) (mC (.str "plus")) (mC (.str "minus"))), (ak 1), (mJ (cJ 2 0 wZ (aK []) (aj [(ak 0), (mC (.bl false))]) (aj [])))])))) fr h) Q E := congrArg (fun m => Wp (m fr h) Q E) Ek.eq_1
theorem Ja {fr : Fr} {h : Hh} {Q : Fl → Fr → Hh → Prop} {E : bh → Fr → Hh → Prop} : Wp (El fr h) Q E = Wp ((
 (aC (zB 2 Aj (mJ (tX 0 0 t7 (aK []) (ak 0) (aj []) (aj []))) (oh [(mC (.str "+")), (mC (.str "-"))]) Ek 60)
 (gK (za 1)))) fr h) Q E := congrArg (fun m => Wp (m fr h) Q E) El.eq_1
theorem Nb {fr : Fr} {h : Hh} {Q : Fl → Fr → Hh → Prop} {E : bh → Fr → Hh → Prop} : Wp (Fj fr h) Q E = Wp ((
 (aC (cP 1 (cJ 2 0 wZ (aK []) (aj [(ak 0), (mJ (tX 1 0 zH (aK []) (ak 0) (aj [(mC (.str "-"))]) (aj [])))]) (aj [])))
 El)) fr h) Q E := congrArg (fun m => Wp (m fr h) Q E) Fj.eq_1
theorem ab1 {fr : Fr} {h : Hh} {Q : Fl → Fr → Hh → Prop} {E : bh → Fr → Hh → Prop} : Wp (JW fr h) Q E = Wp ((
 (aC (tO (bf Ew (mJ (tX 0 0 t7 (aK []) (ak 2) (aj []) (aj []))) (mC (.str "")))
 (su (tX 0 0 Dz (aK []) (ak 2) (aj []) (aj [])))
 (M.ret .nx))
 (gK (za 3)))) fr h) Q E := congrArg (fun m => Wp (m fr h) Q E) JW.eq_1
theorem ab2 {fr : Fr} {h : Hh} {Q : Fl → Fr → Hh → Prop} {E : bh → Fr → Hh → Prop} : Wp (JX fr h) Q E = Wp ((
 (aC (cP 3 (cJ 1 0 Ai (aK []) (aj [(ak 2)]) (aj [])))
 JW)) fr h) Q E := congrArg (fun m => Wp (m fr h) Q E) JX.eq_1
theorem afJ {fr : Fr} {h : Hh} {Q : Fl → Fr → Hh → Prop} {E : bh → Fr → Hh → Prop} : Wp (NP fr h) Q E = Wp ((
 (aC (cP 2 (NB 0 2 0 wV (aK []) (aj [(ak 0), (ak 1)]) (aj [])))
 JX)) fr h) Q E := congrArg (fun m => Wp (m fr h) Q E) NP.eq_1
theorem Z5 {fr : Fr} {h : Hh} {Q : Fl → Fr → Hh → Prop} {E : bh → Fr → Hh → Prop} : Wp (Df fr h) Q E = Wp ((
 (gK (cJ 2 0 wJ (aK []) (aj [(ak 2), (mJ (cJ 2 0 Kh (aK []) (aj [(ak 1), (ak 2)]) (aj [])))]) (aj [])))) fr h) Q E := congrArg (fun m => Wp (m fr h) Q E) Df.eq_1
theorem vQ {fr : Fr} {h : Hh} {Q : Fl → Fr → Hh → Prop} {E : bh → Fr → Hh → Prop} : Wp (zM fr h) Q E = Wp ((
 (aC (tO (bf uE (gH 0 (mC (.int 0)) gJ) (mC (.str "each")))
 (gK (bf tV (mJ (bf tV (mJ (bf tV (mJ (bf tV (mJ (bf tV (mC (.str "sum(")) (gH 0 (mC (.int 1)) gJ))) (mC (.str "(")))) (gH 0 (mC (.int 2)) gJ))) (ak 1))) (mC (.str "))"))))
 (M.ret .nx))
 (gK (bf tV (mJ (bf tV (mJ (bf tV (mJ (bf tV (gH 0 (mC (.int 1)) gJ) (mC (.str "(sum(")))) (gH 0 (mC (.int 2)) gJ))) (ak 1))) (mC (.str "))")))))) fr h) Q E := congrArg (fun m => Wp (m fr h) Q E) zM.eq_1
theorem vR {fr : Fr} {h : Hh} {Q : Fl → Fr → Hh → Prop} {E : bh → Fr → Hh → Prop} : Wp (zN fr h) Q E = Wp ((
 (aC (tO (bf uE (gH 0 (mC (.int 0)) gJ) (mC (.str "events")))
 (gK (bf tV (mC (.str "events")) (ak 1)))
 (M.ret .nx))
 zM)) fr h) Q E := congrArg (fun m => Wp (m fr h) Q E) zN.eq_1
theorem wL {fr : Fr} {h : Hh} {Q : Fl → Fr → Hh → Prop} {E : bh → Fr → Hh → Prop} : Wp (BV fr h) Q E = Wp ((
 (aC (cP 1 (bf tV (mJ (bf tV (mJ (bf tV (mJ (bf tV (mC (.str "[")) (mQ R6 (gH 0 (mQ (fun _ => Hz) (mC (.int 2))) gJ)))) (mC (.str ":")))) (mQ R6 (gH 0 (mQ (fun _ => Hz) (mC (.int 1))) gJ)))) (mC (.str "]"))))
 zN)) fr h) Q E := congrArg (fun m => Wp (m fr h) Q E) BV.eq_1
theorem Pn {d : D} {fr : Fr} {h : Hh} {Q : Unit → Fr → Hh → Prop} {E : bh → Fr → Hh → Prop} : Wp (FZ d fr h) Q E = Wp ((
 (wg 1)) d fr h) Q E := congrArg (fun m => Wp (m d fr h) Q E) FZ.eq_1
theorem Pq {fr : Fr} {h : Hh} {Q : Bool → Fr → Hh → Prop} {E : bh → Fr → Hh → Prop} : Wp (Ge fr h) Q E = Wp ((
 (M.ret true)) fr h) Q E := congrArg (fun m => Wp (m fr h) Q E) Ge.eq_1
theorem Pr {fr : Fr} {h : Hh} {Q : D → Fr → Hh → Prop} {E : bh → Fr → Hh → Prop} : Wp (Gf fr h) Q E = Wp ((
 (mJ (cJ 2 0 wJ (aK []) (aj [(mQ (ug tQ) (iz 0)), (ak 1)]) (aj [])))) fr h) Q E := congrArg (fun m => Wp (m fr h) Q E) Gf.eq_1
theorem VB {fr : Fr} {h : Hh} {Q : Fl → Fr → Hh → Prop} {E : bh → Fr → Hh → Prop} : Wp (JZ fr h) Q E = Wp ((
 (gK (Jp [1] (Jo (mJ (cJ 1 0 Hj (aK []) (aj [(mQ (ug Br) (iz 0))]) (aj [])))) FZ Ge Gf))) fr h) Q E := congrArg (fun m => Wp (m fr h) Q E) JZ.eq_1
theorem aU {R : Fn} {fr : Fr} {h : Hh} {Q : Fl → Fr → Hh → Prop} {E : bh → Fr → Hh → Prop} : Wp (Jg R fr h) Q E = Wp ((
 (aC (cP 2 (cJ 1 0 R (aK []) (aj [(ak 0)]) (aj [])))
 (gK (BW (bf Aj (gH 0 (mC (.int 0)) gJ) (iz 1)) (BJ [(mC (.str "(")), (yX (ak 2)), (mC (.str ")"))]) (ak 2))))) fr h) Q E := congrArg (fun m => Wp (m fr h) Q E) (Jg.eq_1 R)
theorem Dh {fr : Fr} {h : Hh} {Q : Fl → Fr → Hh → Prop} {E : bh → Fr → Hh → Prop} : Wp (Hk fr h) Q E = Wp ((
 (gK (cJ 1 0 Wv (aK []) (aj [(mQ (ug Br) (iz 0))]) (aj [])))) fr h) Q E := congrArg (fun m => Wp (m fr h) Q E) Hk.eq_1
theorem Jy {d : D} {fr : Fr} {h : Hh} {Q : Unit → Fr → Hh → Prop} {E : bh → Fr → Hh → Prop} : Wp (z9 d fr h) Q E = Wp ((
 (wg 5)) d fr h) Q E := congrArg (fun m => Wp (m d fr h) Q E) z9.eq_1
theorem Jz {fr : Fr} {h : Hh} {Q : Bool → Fr → Hh → Prop} {E : bh → Fr → Hh → Prop} : Wp (Aa fr h) Q E = Wp ((
 (M.ret true)) fr h) Q E := congrArg (fun m => Wp (m fr h) Q E) Aa.eq_1
theorem JB {fr : Fr} {h : Hh} {Q : D → Fr → Hh → Prop} {E : bh → Fr → Hh → Prop} : Wp (Ab fr h) Q E = Wp ((
 (mJ (bf tV (ak 5) (oh [(ak 2), (ak 3)])))) fr h) Q E := congrArg (fun m => Wp (m fr h) Q E) Ab.eq_1
theorem JC {fr : Fr} {h : Hh} {Q : Fl → Fr → Hh → Prop} {E : bh → Fr → Hh → Prop} : Wp (Ac fr h) Q E = Wp ((
 (aC (tO (bf Aj (ak 1) (oh [(mC (.str "rises")), (mC (.str "told"))]))
 (aC (cP 4 (vq [(oh [(mC (.str "each")), (mC (.str "rises")), (mC (.str "raw"))]), (oh [(mC (.str "each")), (mC (.str "rises")), (mC (.str "zero"))]), (oh [(mC (.str "each")), (mC (.str "rises")), (mC (.str "held"))]), (oh [(mC (.str "each")), (mC (.str "told")), (mC (.str "raw"))])]))
 (cP 4 (bf tV (ak 4) (mJ (vq [(oh [(mC (.str "all")), (mC (.str "rises")), (mC (.str "zero"))]), (oh [(mC (.str "all")), (mC (.str "rises")), (mC (.str "held"))])])))))
 (tO (bf Aj (ak 1) (oh [(mC (.str "top")), (mC (.str "low"))]))
 (cP 4 (vq [(oh [(mC (.str "each")), (ak 1), (mC (.str "raw"))]), (oh [(mC (.str "each")), (ak 1), (mC (.str "zero"))]), (oh [(mC (.str "each")), (ak 1), (mC (.str "held"))])]))
 (aC (cP 4 (vq [(oh [(mC (.str "each")), (ak 1), (mC (.str "raw"))]), (oh [(mC (.str "each")), (ak 1), (mC (.str "zero"))]), (oh [(mC (.str "each")), (ak 1), (mC (.str "held"))])]))
 (cP 4 (bf tV (ak 4) (mJ (vq [(oh [(mC (.str "all")), (ak 1), (mC (.str "zero"))]), (oh [(mC (.str "all")), (ak 1), (mC (.str "held"))])])))))))
 (gK (Jp [5] (Jo (ak 4)) z9 Aa Ab)))) fr h) Q E := congrArg (fun m => Wp (m fr h) Q E) Ac.eq_1
theorem JD {fr : Fr} {h : Hh} {Q : Fl → Fr → Hh → Prop} {E : bh → Fr → Hh → Prop} : Wp (Ad fr h) Q E = Wp ((
 (aC (Oe [1, 2, 3] (aj [(gH 0 (mC (.int 1)) gJ), (gH 0 (mC (.int 3)) gJ), (gH 0 (mC (.int 4)) gJ)]))
 Ac)) fr h) Q E := congrArg (fun m => Wp (m fr h) Q E) Ad.eq_1
theorem Mr {fr : Fr} {h : Hh} {Q : Fl → Fr → Hh → Prop} {E : bh → Fr → Hh → Prop} : Wp (CN fr h) Q E = Wp ((
 (aC (tO (bf uE (gH 0 (mC (.int 0)) gJ) (mC (.str "events")))
 (gK (vq [(ak 0)]))
 (M.ret .nx))
 Ad)) fr h) Q E := congrArg (fun m => Wp (m fr h) Q E) CN.eq_1
theorem xV {d : D} {fr : Fr} {h : Hh} {Q : Unit → Fr → Hh → Prop} {E : bh → Fr → Hh → Prop} : Wp (Gr d fr h) Q E = Wp ((
 (wg 9)) d fr h) Q E := congrArg (fun m => Wp (m d fr h) Q E) Gr.eq_1
theorem xW {fr : Fr} {h : Hh} {Q : Bool → Fr → Hh → Prop} {E : bh → Fr → Hh → Prop} : Wp (Gu fr h) Q E = Wp ((
 (M.ret true)) fr h) Q E := congrArg (fun m => Wp (m fr h) Q E) Gu.eq_1
theorem xX {fr : Fr} {h : Hh} {Q : D → Fr → Hh → Prop} {E : bh → Fr → Hh → Prop} : Wp (Gv fr h) Q E = Wp ((
 (mJ (cJ 1 0 uL (aK []) (aj [(ak 9)]) (aj [])))) fr h) Q E := congrArg (fun m => Wp (m fr h) Q E) Gv.eq_1
theorem xY {d : D} {fr : Fr} {h : Hh} {Q : Unit → Fr → Hh → Prop} {E : bh → Fr → Hh → Prop} : Wp (La d fr h) Q E = Wp ((
 (wg 9)) d fr h) Q E := congrArg (fun m => Wp (m d fr h) Q E) La.eq_1
theorem xZ {fr : Fr} {h : Hh} {Q : Bool → Fr → Hh → Prop} {E : bh → Fr → Hh → Prop} : Wp (Ld fr h) Q E = Wp ((
 (M.ret true)) fr h) Q E := congrArg (fun m => Wp (m fr h) Q E) Ld.eq_1
theorem yc {fr : Fr} {h : Hh} {Q : D → Fr → Hh → Prop} {E : bh → Fr → Hh → Prop} : Wp (Le fr h) Q E = Wp ((
 (mJ (LK Iu (ak 9)))) fr h) Q E := congrArg (fun m => Wp (m fr h) Q E) Le.eq_1
theorem ye {d : D} {fr : Fr} {h : Hh} {Q : Unit → Fr → Hh → Prop} {E : bh → Fr → Hh → Prop} : Wp (Iv d fr h) Q E = Wp ((
 (wg 9)) d fr h) Q E := congrArg (fun m => Wp (m d fr h) Q E) Iv.eq_1
theorem yf {fr : Fr} {h : Hh} {Q : Bool → Fr → Hh → Prop} {E : bh → Fr → Hh → Prop} : Wp (Iw fr h) Q E = Wp ((
 (bf Ew (mQ (ug tQ) (iz 9)) (iz 3))) fr h) Q E := congrArg (fun m => Wp (m fr h) Q E) Iw.eq_1
theorem yg {fr : Fr} {h : Hh} {Q : D → Fr → Hh → Prop} {E : bh → Fr → Hh → Prop} : Wp (Iz fr h) Q E = Wp ((
 (ak 9)) fr h) Q E := congrArg (fun m => Wp (m fr h) Q E) Iz.eq_1
theorem yh {d : D} {fr : Fr} {h : Hh} {Q : Unit → Fr → Hh → Prop} {E : bh → Fr → Hh → Prop} : Wp (Lf d fr h) Q E = Wp ((
 (wg 9)) d fr h) Q E := congrArg (fun m => Wp (m d fr h) Q E) Lf.eq_1
theorem yj {fr : Fr} {h : Hh} {Q : Bool → Fr → Hh → Prop} {E : bh → Fr → Hh → Prop} : Wp (Lg fr h) Q E = Wp ((
 (Wl (Uk yP (fun b => b)) (ak 9) (ak 5))) fr h) Q E := congrArg (fun m => Wp (m fr h) Q E) Lg.eq_1
theorem ym {fr : Fr} {h : Hh} {Q : D → Fr → Hh → Prop} {E : bh → Fr → Hh → Prop} : Wp (Lh fr h) Q E = Wp ((
 (ak 9)) fr h) Q E := congrArg (fun m => Wp (m fr h) Q E) Lh.eq_1
theorem vL {fr : Fr} {h : Hh} {Q : Fl → Fr → Hh → Prop} {E : bh → Fr → Hh → Prop} : Wp (Jh fr h) Q E = Wp ((
 (aC (tO (O7 (bf Ew (mJ (K8 [9] (M7 (ak 8)) Iv Iw Iz)) (vq [])) (bf Ew (mQ vh (K8 [9] (M7 (ak 8)) Lf Lg Lh)) (mC (.int 1))))
 (gK (mC (.bl false)))
 (M.ret .nx))
 (su (Oh 8 (ak 5))))) fr h) Q E := congrArg (fun m => Wp (m fr h) Q E) Jh.eq_1
theorem vM {fr : Fr} {h : Hh} {Q : Fl → Fr → Hh → Prop} {E : bh → Fr → Hh → Prop} : Wp (Ji fr h) Q E = Wp ((
 (aC (tO (O7 (Ku (mQ D.tru (bf (Kz QQ) (ak 8) (mC (.ty "list"))))) (bf Ew (mJ (K8 [9] (M7 (ak 8)) La Ld Le)) (iz 6)))
 (gK (mC (.bl false)))
 (M.ret .nx))
 Jh)) fr h) Q E := congrArg (fun m => Wp (m fr h) Q E) Ji.eq_1
theorem xf {fr : Fr} {h : Hh} {Q : Fl → Fr → Hh → Prop} {E : bh → Fr → Hh → Prop} : Wp (GD fr h) Q E = Wp ((
 (aC (cP 8 (Fy (cJ 1 0 En (aK []) (aj [(ak 5)]) (aj []))))
 Ji)) fr h) Q E := congrArg (fun m => Wp (m fr h) Q E) GD.eq_1
theorem vP {fr : Fr} {h : Hh} {Q : Fl → Fr → Hh → Prop} {E : bh → Fr → Hh → Prop} : Wp (zj fr h) Q E = Wp ((
 (aC (Fw (Jc (mC (.int 2))) (wg 7) GD)
 (tO (bf Ew (mJ (LK Iu (ak 5))) (cJ 1 0 uL (aK []) (aj [(ak 4)]) (aj [])))
 (gK (mC (.bl false)))
 (M.ret .nx)))) fr h) Q E := congrArg (fun m => Wp (m fr h) Q E) zj.eq_1
theorem v8 {fr : Fr} {h : Hh} {Q : Fl → Fr → Hh → Prop} {E : bh → Fr → Hh → Prop} : Wp (Cu fr h) Q E = Wp ((
 (aC (cP 6 (Jp [9] (Jo (mJ (cJ 1 0 yO (aK []) (aj [(ak 4)]) (aj [])))) Gr Gu Gv))
 zj)) fr h) Q E := congrArg (fun m => Wp (m fr h) Q E) Cu.eq_1
theorem u9 {fr : Fr} {h : Hh} {Q : Fl → Fr → Hh → Prop} {E : bh → Fr → Hh → Prop} : Wp (Jj fr h) Q E = Wp ((
 (aC (cP 5 (mCm 2 1 zJ (aj [(mJ (cJ 1 0 uL (aK []) (aj [(ak 4)]) (aj []))), (ak 3)])))
 Cu)) fr h) Q E := congrArg (fun m => Wp (m fr h) Q E) Jj.eq_1
theorem vf {fr : Fr} {h : Hh} {Q : Fl → Fr → Hh → Prop} {E : bh → Fr → Hh → Prop} : Wp (Jk fr h) Q E = Wp ((
 (aC (cP 4 (cJ 2 0 Cr (aK []) (aj [(ak 2), (ak 3)]) (aj [])))
 Jj)) fr h) Q E := congrArg (fun m => Wp (m fr h) Q E) Jk.eq_1
theorem vg {fr : Fr} {h : Hh} {Q : Fl → Fr → Hh → Prop} {E : bh → Fr → Hh → Prop} : Wp (Jl fr h) Q E = Wp ((
 (aC (cP 3 (bf tV (mC (.int 2)) (mJ (cJ 2 0 vG (aK []) (aj [(ak 2), (mC (.int 3))]) (aj [])))))
 Jk)) fr h) Q E := congrArg (fun m => Wp (m fr h) Q E) Jl.eq_1
theorem wC {fr : Fr} {h : Hh} {Q : Fl → Fr → Hh → Prop} {E : bh → Fr → Hh → Prop} : Wp (Jv fr h) Q E = Wp ((
 (aC (cP 2 (Fy (cJ 2 0 xG (aK []) (aj [(ak 0), (ak 1)]) (aj []))))
 Jl)) fr h) Q E := congrArg (fun m => Wp (m fr h) Q E) Jv.eq_1
theorem Ep {fr : Fr} {h : Hh} {Q : Fl → Fr → Hh → Prop} {E : bh → Fr → Hh → Prop} : Wp (Vm fr h) Q E = Wp ((
 (aC (Fw (Jc (bf RD (mC (.int 1)) (bf RG (mC (.int 30)) (mQ vh (iz 0))))) (wg 1) Jv)
 (gK (mC (.bl true))))) fr h) Q E := congrArg (fun m => Wp (m fr h) Q E) Vm.eq_1
theorem Hl {ds : List D} {h : Hh} {Q : D → Fr → Hh → Prop} {E : bh → Fr → Hh → Prop} : Wp (Cr ds h) Q E = Wp (tR 6 Fe ds h) Q E := congrArg (fun m => Wp (m ds h) Q E) Cr.eq_1
theorem Tv {ds : List D} {h : Hh} {Q : D → Fr → Hh → Prop} {E : bh → Fr → Hh → Prop} : Wp (wJ ds h) Q E = Wp (runI 1 3 zF ds h) Q E := congrArg (fun m => Wp (m ds h) Q E) wJ.eq_1
theorem Nf {ds : List D} {h : Hh} {Q : D → Fr → Hh → Prop} {E : bh → Fr → Hh → Prop} : Wp (BR ds h) Q E = Wp (tR 4 Hi ds h) Q E := congrArg (fun m => Wp (m ds h) Q E) BR.eq_1
theorem P0 {ds : List D} {h : Hh} {Q : D → Fr → Hh → Prop} {E : bh → Fr → Hh → Prop} : Wp (wV ds h) Q E = Wp (tR 5 yz ds h) Q E := congrArg (fun m => Wp (m ds h) Q E) wV.eq_1
theorem Hu {ds : List D} {h : Hh} {Q : D → Fr → Hh → Prop} {E : bh → Fr → Hh → Prop} : Wp (wW ds h) Q E = Wp (tR 1 yC ds h) Q E := congrArg (fun m => Wp (m ds h) Q E) wW.eq_1
theorem Lr {ds : List D} {h : Hh} {Q : D → Fr → Hh → Prop} {E : bh → Fr → Hh → Prop} : Wp (yN ds h) Q E = Wp (tR 2 z7 ds h) Q E := congrArg (fun m => Wp (m ds h) Q E) yN.eq_1
theorem Fp {ds : List D} {h : Hh} {Q : D → Fr → Hh → Prop} {E : bh → Fr → Hh → Prop} : Wp (vZ ds h) Q E = Wp (tR 1 wX ds h) Q E := congrArg (fun m => Wp (m ds h) Q E) vZ.eq_1
theorem VD {ds : List D} {h : Hh} {Q : D → Fr → Hh → Prop} {E : bh → Fr → Hh → Prop} : Wp (zE ds h) Q E = Wp (tR 3 Bt ds h) Q E := congrArg (fun m => Wp (m ds h) Q E) zE.eq_1
theorem JQ {ds : List D} {h : Hh} {Q : D → Fr → Hh → Prop} {E : bh → Fr → Hh → Prop} : Wp (xU ds h) Q E = Wp (tR 4 zG ds h) Q E := congrArg (fun m => Wp (m ds h) Q E) xU.eq_1
theorem XJ {ds : List D} {h : Hh} {Q : D → Fr → Hh → Prop} {E : bh → Fr → Hh → Prop} : Wp (xr ds h) Q E = Wp (tR 3 De ds h) Q E := congrArg (fun m => Wp (m ds h) Q E) xr.eq_1
theorem VF {ds : List D} {h : Hh} {Q : D → Fr → Hh → Prop} {E : bh → Fr → Hh → Prop} : Wp (wY ds h) Q E = Wp (tR 7 Bu ds h) Q E := congrArg (fun m => Wp (m ds h) Q E) wY.eq_1
theorem Hm {ds : List D} {h : Hh} {Q : D → Fr → Hh → Prop} {E : bh → Fr → Hh → Prop} : Wp (vH ds h) Q E = Wp (tR 6 Ff ds h) Q E := congrArg (fun m => Wp (m ds h) Q E) vH.eq_1
theorem Z6 {ds : List D} {h : Hh} {Q : D → Fr → Hh → Prop} {E : bh → Fr → Hh → Prop} : Wp (zg ds h) Q E = Wp (tR 5 Fg ds h) Q E := congrArg (fun m => Wp (m ds h) Q E) zg.eq_1
theorem VG {ds : List D} {h : Hh} {Q : D → Fr → Hh → Prop} {E : bh → Fr → Hh → Prop} : Wp (wZ ds h) Q E = Wp (tR 4 Bv ds h) Q E := congrArg (fun m => Wp (m ds h) Q E) wZ.eq_1
theorem Z7 {ds : List D} {h : Hh} {Q : D → Fr → Hh → Prop} {E : bh → Fr → Hh → Prop} : Wp (Ai ds h) Q E = Wp (tR 3 Fj ds h) Q E := congrArg (fun m => Wp (m ds h) Q E) Ai.eq_1
theorem aef {ds : List D} {h : Hh} {Q : D → Fr → Hh → Prop} {E : bh → Fr → Hh → Prop} : Wp (Kh ds h) Q E = Wp (tR 4 NP ds h) Q E := congrArg (fun m => Wp (m ds h) Q E) Kh.eq_1
theorem XM {ds : List D} {h : Hh} {Q : D → Fr → Hh → Prop} {E : bh → Fr → Hh → Prop} : Wp (zJ ds h) Q E = Wp (tR 3 Df ds h) Q E := congrArg (fun m => Wp (m ds h) Q E) zJ.eq_1
theorem aF : tQ 0 = some 0 := by unfold tQ; rfl
theorem aG : tQ 1 = some 0 := by unfold tQ; rfl
theorem aV : Br 1 = some 1 := by unfold Br; rfl
theorem aP : xT 0 = some 1 := by unfold xT; rfl
theorem aM : zf 0 = some 2 := by unfold zf; rfl
theorem aW : wU 0 = some 3 := by unfold wU; rfl
theorem aH : t7 0 = some wW := by unfold t7; rfl
theorem aX : Dz 0 = some Ir := by unfold Dz; rfl
theorem aQ : zH 0 = some yN := by unfold zH; rfl
theorem az : wk 0 = some vZ := by unfold wk; rfl
theorem aN : z8 0 = some xU := by unfold z8; rfl
theorem aY : rF 0 = some zE := by unfold rF; rfl
theorem aZ : Iu 1 = some Bw := by unfold Iu; rfl
theorem au : yP 1 = some vK := by unfold yP; rfl
end L
namespace L
open PySem PySem.Spec L2 Pk
def Src (h : Hh) (n : Nat) (C : Int) : Prop := ∃ a b c : Int, h[n]? = some (.nl [.int a, .int b, .int c]) ∧ 0 ≤ b ∧ b < 2 ^ 33 ∧ 0 ≤ c ∧ c ≤ C
theorem log2_lt {i : Int} {k : Nat} (h : i.natAbs < 2 ^ k) (hk : 0 < k) : i.natAbs.log2 < k := by
 by_cases h0 : i.natAbs = 0
 · rw [h0]; simpa using hk
 · exact (Nat.log2_lt h0).mpr h
theorem O5 {i j : Int} (h : 0 < j) : ac4 i j = true := decide_eq_true h
theorem JF {h : Hh} {n : Nat} {C m : Int} (S : Src h n C) (hC : C ≤ 100000) (hm : 0 < m) (hl : m < 2 ^ 200) :
 ∃ r h', vG [.ref n, .int m] h = .ok (.int r) [] h' ∧ Src h' n (C + 1) ∧ 0 ≤ r ∧ r < m := by
 obtain ⟨a, b, c, e, b0, b1, c0, c1⟩ := S
 have hn : n < h.length := (List.getElem?_eq_some_iff.mp e).1
 have hml : m.natAbs.log2 < 9000 := by
  refine Nat.lt_of_lt_of_le (log2_lt (k := 200) ?_ (by decide)) (by decide)
  omega
 by_cases ha : 0 < a
 · refine ⟨a % m, h.set n (.nl [.int (a / m), .int b, .int c]), ?_, ⟨a / m, b, c, by rw [ajh hn], b0, b1, c0, by omega⟩, Int.emod_nonneg _ (by omega), Int.emod_lt_of_pos _ hm⟩
   simp [vG, tR, Jf, Ip, Io, Im, startF, aC, tO, M.bind, M.ret, M.opt, bf, gH, yu, iz, mC, gJ, D.its, D.der, e, atI, ixN, cInt, ha, cP, mQ, yo, ak, D.own, Cv, ac4, hm, LC, mO, HJ, aa7, hml, gK, za]
 · have z1 : (b + 32452843 * (c + 1)).natAbs < 2 ^ 64 := by omega
   generalize hx : (b + 32452843 * (c + 1)) ^ 3 % 2305843009213693921 = x
   have hx0 : 0 ≤ x := by rw [← hx]; exact Int.emod_nonneg _ (by decide)
   have hx1 : x < 2305843009213693921 := by rw [← hx]; exact Int.emod_lt_of_pos _ (by decide)
   have z2 : (x + 49979687 * (c + 1)).natAbs < 2 ^ 64 := by omega
   have l1 : (c + 1).natAbs.log2 < 64 := log2_lt (by omega) (by decide)
   have l2 : ((32452843 : Int)).natAbs.log2 < 64 := log2_lt (by decide) (by decide)
   have l3 : ((49979687 : Int)).natAbs.log2 < 64 := log2_lt (by decide) (by decide)
   have l4 : ((4096 : Int)).natAbs.log2 < 9000 := Nat.lt_trans (log2_lt (k := 64) (by decide) (by decide)) (by decide)
   have c1' : aa6 32452843 (c + 1) = true := decide_eq_true (by omega)
   have c2' : aa6 49979687 (c + 1) = true := decide_eq_true (by omega)
   have c3' : V6 (b + 32452843 * (c + 1)) 3 = true := by
    unfold V6
    rw [decide_eq_true z1]
    rfl
   have c4' : V6 (x + 49979687 * (c + 1)) 2 = true := by
    unfold V6
    rw [decide_eq_true z2]
    rfl
   have c5' : aa7 ((x + 49979687 * (c + 1)) ^ 2 % 2305843009213693951) 4096 = true := by
    unfold aa7
    rw [decide_eq_true l4]
    rfl
   refine ⟨((x + 49979687 * (c + 1)) ^ 2 % 2305843009213693951) / 4096 % m, h.set n (.nl [.int a, .int b, .int (c + 1)]), ?_, ⟨a, b, c + 1, by rw [ajh hn], b0, b1, by omega, by omega⟩, Int.emod_nonneg _ (by omega), Int.emod_lt_of_pos _ hm⟩
   have ha' : decide (0 < a) = false := decide_eq_false ha
   have e2 : ∀ v : D, (h.set n v)[n]? = some v := fun v => ajh hn
   simp [vG, tR, Jf, Ip, Io, Im, startF, aC, tO, M.bind, M.ret, M.opt, bf, gH, yu, iz, mC, gJ, D.its, D.der, e, atI, ixN, cInt, ha', cP, mQ, yo, ak, D.own, Cv, LC, mO, HJ, gK, za, mJ, D.fz, tV, e2, c1', c2', c3', c4', c5', O5, hm, hx]
end L
namespace L
open PySem PySem.Spec L2 Pk
theorem Km {h : Hh} {n : Nat} {C : Int} {l : List D} (S : Src h n C) (hC : C ≤ 100000) (h0 : 0 < l.length) (hl : l.length ≤ 1000) :
 ∃ i d h', i < l.length ∧ l[i]? = some d ∧ v7 [.ref n, .fl l] h = .ok d [] h' ∧ Src h' n (C + 1) := by
 obtain ⟨r, h', e, S', r0, r1⟩ := JF (m := (l.length : Int)) S hC (by omega) (by omega)
 have hi : r.toNat < l.length := by omega
 refine ⟨r.toNat, l[r.toNat], h', hi, ajc hi, ?_, S'⟩
 have er : ((r.toNat : Nat) : Int) = r := Int.toNat_of_nonneg r0
 simp [v7, tR, QS, startF, gK, gH, yu, iz, mJ, cJ, aj, M.bind, M.ret, M.opt, ak, D.own, D.fz, mQ, vh, D.its, D.der, aK, e, vD, gJ, atI, ixN, r0, r1, hi]
theorem Src.up {h : Hh} {n : Nat} {C C' : Int} (S : Src h n C) (hC : C ≤ C') : Src h n C' := by
 obtain ⟨a, b, c, q1, q2, q3, q4, q5⟩ := S
 exact ⟨a, b, c, q1, q2, q3, q4, by omega⟩
theorem afK {h : Hh} {l : List Int} {i : Nat} {t : Int} {j : Int} (hj : j = (i : Int)) (e : l[i]? = some t) : gJ h (.fl (l.map .int)) (.int j) = some (.int t) := by
 subst hj
 have hl := (List.getElem?_eq_some_iff.mp e).1
 show atI (l.map D.int) i = _
 unfold atI
 have : ixN (l.map D.int).length (i : Int) = some i := by
  unfold ixN
  rw [aje, if_pos (by omega), if_pos (by omega)]
  congr 1
 rw [this]
 simp [e]
theorem aap {h : Hh} {ns : List Int} {k : Nat} (hk : k ≤ 62) : ∃ a b, xG [.kl (ns.map .int), .int k] h = .ok (.nl [.int a, .int b, .int 0]) [] h ∧ 0 ≤ b ∧ b < 2 ^ 33 := by
 have p18 : V6 10 18 = true := by decide
 have b3 : 3 ≤ big := by decide
 have c1 : aa6 15485863 (k : Int) = true := by
  have l2 : ((15485863 : Int)).natAbs.log2 < 64 := log2_lt (by decide) (by decide)
  have l1 : ((k : Int)).natAbs.log2 < 64 := log2_lt (by omega) (by decide)
  exact decide_eq_true (by omega)
 have main : ∀ v : Int, (if (k : Int) < ns.length then gJ h (.kl (ns.map .int)) (.int k) = some (.int v) else v = 0) → ∃ a b, xG [.kl (ns.map .int), .int k] h = .ok (.nl [.int a, .int b, .int 0]) [] h ∧ 0 ≤ b ∧ b < 2 ^ 33 := fun v hv => by
  have hb0 : 0 ≤ v % 2147483629 := Int.emod_nonneg _ (by decide)
  have hb1 : v % 2147483629 < 2147483629 := Int.emod_lt_of_pos _ (by decide)
  refine ⟨if (1000000000000000000 : Int) ≤ (if v < 0 then -v else v) then (if v < 0 then -v else v) else 0, v % 2147483629 + 15485863 * (k : Int) + 7919, ?_, by omega, by omega⟩
  by_cases hl : (k : Int) < ns.length
  · rw [if_pos hl] at hv
    have hl' : k < ns.length := by omega
    by_cases hbig : (1000000000000000000 : Int) ≤ (if v < 0 then -v else v)
    · simp [xG, tR, Ca, BP, startF, aC, cP, BW, bf, ak, D.own, M.bind, M.ret, M.opt, mQ, vh, iz, D.its, D.der, cInt, hl, hl', gH, yu, hv, mC, Oa, Cv, p18, hbig, gK, vq, aj, mJ, tV, D.fz, yo, O5, c1, b3]
    · simp [xG, tR, Ca, BP, startF, aC, cP, BW, bf, ak, D.own, M.bind, M.ret, M.opt, mQ, vh, iz, D.its, D.der, cInt, hl, hl', gH, yu, hv, mC, Oa, Cv, p18, hbig, gK, vq, aj, mJ, tV, D.fz, yo, O5, c1, b3]
  · rw [if_neg hl] at hv
    subst hv
    have hl' : ¬ k < ns.length := by omega
    simp [xG, tR, Ca, BP, startF, aC, cP, BW, bf, ak, D.own, M.bind, M.ret, M.opt, mQ, vh, iz, D.its, D.der, cInt, hl, hl', mC, Oa, Cv, p18, gK, vq, aj, mJ, tV, D.fz, yo, O5, c1, b3]
 by_cases hl : (k : Int) < ns.length
 · have e : ns[k]? = some (ns[k]'(by omega)) := ajc _
   exact main _ (by rw [if_pos hl]; exact afK (h := h) rfl e)
 · exact main 0 (by rw [if_neg hl])
end L
namespace L
open PySem PySem.Spec L2 Pk
theorem Xn {t : M Bool} {b : M Fl} {Q : Fl → Fr → Hh → Prop} {E : bh → Fr → Hh → Prop} (I : Nat → Fr → Hh → Prop)
 (st : ∀ k fr h, I k fr h → Wp (t fr h) (fun c fr h => if c then Wp (b fr h) (fun f fr h => Vi f (∃ j, j < k ∧ I j fr h) fun f => Q f fr h) E else Q .nx fr h) E) :
 ∀ (n k : Nat) (fr : Fr) (h : Hh), k < n → I k fr h → Wp (yw t b n fr h) Q E := by
 intro n
 induction n with
 | zero => intro k fr h hk; exact absurd hk (Nat.not_lt_zero _)
 | succ n ih =>
   intro k fr h hk i
   rw [acQ]
   refine (st k fr h i).mono fun c fr h z => ?_
   cases c with
   | false => exact z
   | true =>
     rw [if_pos rfl] at z ⊢
     refine z.mono fun f fr h y => ?_
     cases f with
     | nx => rw [nj] at y ⊢; obtain ⟨j, hj, i⟩ := y; exact ih j fr h (by omega) i
     | ct => rw [nU] at y ⊢; obtain ⟨j, hj, i⟩ := y; exact ih j fr h (by omega) i
     | brk => rw [iy] at y ⊢; exact y
     | rt d => rw [nW] at y ⊢; exact y
def Xo : Str := "abcdefghijklmnopqrstuvwxyz"
def Pu : Str := "0123456789"
def isIn (S : Str) (c : Nat) : Bool := decide (c ∈ S.cps.toList)
def rE (S : Str) (cs : List Nat) (e : Nat) : Nat := e + ((cs.drop e).takeWhile (isIn S)).length
theorem agW {S : Str} {cs : List Nat} {e c : Nat} (hc : cs[e]? = some c) (h : isIn S c = true) : rE S cs e = rE S cs (e + 1) := by
 unfold rE
 obtain ⟨hl, ec⟩ := List.getElem?_eq_some_iff.mp hc
 rw [List.drop_eq_getElem_cons hl, ec, List.takeWhile_cons, if_pos h, aiX]
 omega
theorem afL {S : Str} {cs : List Nat} {e c : Nat} (hc : cs[e]? = some c) (h : isIn S c = false) : rE S cs e = e := by
 unfold rE
 obtain ⟨hl, ec⟩ := List.getElem?_eq_some_iff.mp hc
 rw [List.drop_eq_getElem_cons hl, ec, List.takeWhile_cons, h]
 rfl
theorem agX {S : Str} {cs : List Nat} {e : Nat} (hl : cs.length ≤ e) : rE S cs e = e := by
 unfold rE
 rw [List.drop_of_length_le hl]
 rfl
theorem Ye {S : Str} {cs : List Nat} {e : Nat} (hl : e ≤ cs.length) : e ≤ rE S cs e ∧ rE S cs e ≤ cs.length := by
 unfold rE
 have h1 : ((cs.drop e).takeWhile (isIn S)).length ≤ (cs.drop e).length := (List.takeWhile_sublist _).length_le
 rw [List.length_drop] at h1
 omega
def wE (cs : List Nat) (a c : Nat) : Nat := if isIn Xo c then (if isIn Pu c then rE Pu cs (rE Xo cs (a + 1)) else rE Xo cs (a + 1)) else if isIn Pu c then rE Pu cs (a + 1) else a + 1
def cs (z : Str) : List Nat := z.cps.toList
theorem Hn {z : Str} : z.length = (cs z).length := by simp [cs, Str.length]
theorem Sh {h : Hh} {z : Str} {a c : Nat} (hz : z.length ≤ 1000) (hc : (cs z)[a]? = some c) : gJ h (.str z) (.int (a : Int)) = some (.str ⟨#[c]⟩) := by
 have hl : a < (cs z).length := (List.getElem?_eq_some_iff.mp hc).1
 show (if z.length ≤ big then (atI z.cps.toList (a : Int)).map fun c => D.str ⟨#[c]⟩ else none) = _
 rw [if_pos (Nat.le_trans hz (by decide))]
 have e : atI z.cps.toList (a : Int) = some c := by
  unfold atI ixN
  have hl' : a < z.cps.toList.length := hl
  have h1 : (0 : Int) ≤ (a : Int) ∧ (a : Int) < (z.cps.toList.length : Int) := ⟨by omega, by omega⟩
  simp only [h1, and_self, if_true, Int.toNat_natCast]
  exact hc
 rw [e]
 rfl
theorem agY {h : Hh} {c : Nat} {S : Str} : Aj h (.str ⟨#[c]⟩) (.str S) = some (isIn S c) := rfl
theorem Xb {h : Hh} {z : Str} (hz : z.length ≤ 1000) : vh h (.str z) = some (.int ((cs z).length : Nat)) := by
 show (if z.length ≤ big then some (D.int z.length) else none) = _
 rw [if_pos (Nat.le_trans hz (by decide)), Hn]
theorem Rk {h : Hh} {z S : Str} {x : Option D} {e : Nat} {Q : Fl → Fr → Hh → Prop} (hz : z.length ≤ 59) (he : e ≤ (cs z).length)
 (q : Q .nx [some (.str z), x, some (.int (rE S (cs z) e : Nat)), some (.str S)] h) :
 Wp (yw (Mu (bf O6 (ak 2) (mQ vh (iz 0))) (bf Aj (gH 0 (ak 2) gJ) (iz 3))) Ce 60 [some (.str z), x, some (.int (e : Nat)), some (.str S)] h) Q wR := by
 have hz' : z.length ≤ 1000 := by omega
 refine Xn (fun k fr h' => h' = h ∧ ∃ e' : Nat, fr = [some (.str z), x, some (.int (e' : Nat)), some (.str S)] ∧ k = (cs z).length - e' ∧ e' ≤ (cs z).length ∧ rE S (cs z) e' = rE S (cs z) e) ?_ 60 ((cs z).length - e) _ _ (by rw [Hn] at hz; omega) ⟨rfl, e, rfl, rfl, he, rfl⟩
 rintro k fr h' ⟨rfl, e', rfl, rfl, he', hr⟩
 have l1 := Xb (h := h') hz'
 by_cases hl : e' < (cs z).length
 · have hc : (cs z)[e']? = some (cs z)[e'] := ajc hl
   generalize (cs z)[e'] = c at hc
   have i1 := Sh (h := h') hz' hc
   have i2 := agY (h := h') (c := c) (S := S)
   have d1 : decide ((e' : Int) < ((cs z).length : Nat)) = true := decide_eq_true (by omega)
   cases hi : isIn S c with
   | true =>
     simp only [↓ou, ↓mU, ↓wp_bind, ↓oM, ↓tZ, ↓sE, ↓oN, ↓iH, ↓nM, ↓oO, ↓rQ, ↓rR, ↓sG, ↓oR, ↓iI, ↓oU, ↓sH, ↓iJ, ↓iK, ↓oV, ↓cU, ↓sJ, ↓cV, ↓cW, ↓oW, ↓oX, ↓iQ, ↓sO, ↓qd, ↓iT, ↓oY, ↓sS, ↓ig, ↓iU, ↓iV, ↓m7, ↓oZ, ↓iW, ↓nO, ↓o5, ↓o7, ↓iY, ↓gU, ↓sU, ↓il, ↓cX, ↓bA, ↓cY, ↓o8, ↓jc, ↓je, ↓jf, ↓jh, ↓ji, ↓jk, ↓jm, ↓bB, ↓jn, ↓jo, ↓jr, ↓j6, ↓qp, ↓jt, ↓ir, ↓ju, ↓jV, ↓nY, ↓nZ, ↓nu, ↓nA, gM, oE, oF, nQ, ie, ue, uf, gR, oG, nH, oH, iG, oJ, oK, nJ, mX, mY, gY, ni, cZ, jP, pX, iZ, ↓km, ↓kE, ↓eO, ↓qu, ↓tK, ↓kJ, ↓kW, ↓oA, ↓lB, ↓lC, ↓qG, ↓qH, ↓qI, ↓qL, ↓lF, ↓eV, ↓tL, ↓eX, ↓lG, ↓lL, ↓lM, ↓fG, ↓fH, ↓fJ, ↓bY, ↓qM, ↓lN, ↓fL, ↓fM, ↓qN, ↓lU, ↓fO, ↓fP, ↓fQ, ↓qO, ↓qP, ↓qQ, ↓qR, ↓lX, ↓fU, ↓bZ, ↓cA, ↓qY, ↓qZ, ↓fY, ↓rA, ↓lZ, ↓mD, ↓mF, ↓fZ, ↓gh, ↓gj, ↓cG, ↓mH, ↓gA, ↓rB, ↓gG, jw, pD, o9, sV, jx, pF, jy, fz_non, jA, pG, ph, sW, pq, sX, jB, pH, jC, pJ, jD, pK, pA, sY, pB, tD, pC, tE, gQ, mV, m9, mW, di, jE, iw, jF, dw, pM, jG, jH, ul, uo, uv, uw, ux, uz, uA, tG, mK, rW, dB, dC, jJ, dD, dF, bD, dG, dH, bF, dI, nR, pN, pO, pP, jK, jL, dJ, tH, jM, pQ, jN, jO, pU, pW, rY, rZ, dR, jQ, dU, bO, dW, bQ, jR, dX, bR, dY, dZ, jT, jU, uh, uR, u6, bU, bV, eE, j7, d8, bT, pZ, qb, jW, d9, jY, jZ, j5, qm, jX, qj, ql, ai6, ai7, ai8, aiY, Int.reduceToNat, bG, bH, dM, bJ, bK, dN, dO, bL, bM, eQ, eU, lD, qJ, qK, Option.isSome_some, Option.isSome_none, lE, Int.reduceEq, beq_self_eq_true, cQ, cR, eY, lH, eZ, fj, fu, lJ, lK, fB, fD, fK, bW, bz, lO, lQ, lV, lW, fV, cC, cD, lY, fX, qT, tM, qU, qW, qX, uB, uC, gq, mG, nj, nU, iy, nW, j8, kh, eG, j9, kY, qw, kZ, lg, qC, lu, lw, lA, qD, qF, startF, aiU, aiW, ai1, ai5, aiV, aiX, ai3, ai4, ai9, aja, ai2, aiZ, ai0, Nat.reduceAdd, Nat.reduceSub, Nat.reduceLeDiff, Nat.reduceLT, Nat.zero_add, and_true, true_and, and_self, false_and, and_false, not_true_eq_false, not_false_eq_true, eq_self, decide_true, decide_false, Bool.not_true, Bool.not_false, Bool.true_and, Bool.false_and, Bool.and_true, Bool.and_false, Bool.or_true, Bool.or_false, Bool.true_or, Bool.false_or, Option.map_some, Option.map_none, Int.toNat_natCast, ↓reduceIte, Bool.false_eq_true, reduceCtorEq, Int.cast_ofNat_Int, Int.reduceLT, Int.reduceLE, Int.reduceAdd, Int.reduceSub, Int.reduceNeg, Int.natCast_zero, pY, and_assoc, ↓uI, ↓uJ, ↓uK, ↓vX, ↓aU, aF, aG, aV, aP, aM, aW, aH, aX, aQ, az, aN, aY, aZ, au, l1, i1, i2, d1, hi, nj]
     refine ⟨(cs z).length - (e' + 1), by omega, e' + 1, by simp only [Int.natCast_add, Int.natCast_one, aiZ, ai0], rfl, by omega, ?_⟩
     rw [← hr, agW hc hi]
   | false =>
     simp only [↓ou, ↓mU, ↓wp_bind, ↓oM, ↓tZ, ↓sE, ↓oN, ↓iH, ↓nM, ↓oO, ↓rQ, ↓rR, ↓sG, ↓oR, ↓iI, ↓oU, ↓sH, ↓iJ, ↓iK, ↓oV, ↓cU, ↓sJ, ↓cV, ↓cW, ↓oW, ↓oX, ↓iQ, ↓sO, ↓qd, ↓iT, ↓oY, ↓sS, ↓ig, ↓iU, ↓iV, ↓m7, ↓oZ, ↓iW, ↓nO, ↓o5, ↓o7, ↓iY, ↓gU, ↓sU, ↓il, ↓cX, ↓bA, ↓cY, ↓o8, ↓jc, ↓je, ↓jf, ↓jh, ↓ji, ↓jk, ↓jm, ↓bB, ↓jn, ↓jo, ↓jr, ↓j6, ↓qp, ↓jt, ↓ir, ↓ju, ↓jV, ↓nY, ↓nZ, ↓nu, ↓nA, gM, oE, oF, nQ, ie, ue, uf, gR, oG, nH, oH, iG, oJ, oK, nJ, mX, mY, gY, ni, cZ, jP, pX, iZ, ↓km, ↓kE, ↓eO, ↓qu, ↓tK, ↓kJ, ↓kW, ↓oA, ↓lB, ↓lC, ↓qG, ↓qH, ↓qI, ↓qL, ↓lF, ↓eV, ↓tL, ↓eX, ↓lG, ↓lL, ↓lM, ↓fG, ↓fH, ↓fJ, ↓bY, ↓qM, ↓lN, ↓fL, ↓fM, ↓qN, ↓lU, ↓fO, ↓fP, ↓fQ, ↓qO, ↓qP, ↓qQ, ↓qR, ↓lX, ↓fU, ↓bZ, ↓cA, ↓qY, ↓qZ, ↓fY, ↓rA, ↓lZ, ↓mD, ↓mF, ↓fZ, ↓gh, ↓gj, ↓cG, ↓mH, ↓gA, ↓rB, ↓gG, jw, pD, o9, sV, jx, pF, jy, fz_non, jA, pG, ph, sW, pq, sX, jB, pH, jC, pJ, jD, pK, pA, sY, pB, tD, pC, tE, gQ, mV, m9, mW, di, jE, iw, jF, dw, pM, jG, jH, ul, uo, uv, uw, ux, uz, uA, tG, mK, rW, dB, dC, jJ, dD, dF, bD, dG, dH, bF, dI, nR, pN, pO, pP, jK, jL, dJ, tH, jM, pQ, jN, jO, pU, pW, rY, rZ, dR, jQ, dU, bO, dW, bQ, jR, dX, bR, dY, dZ, jT, jU, uh, uR, u6, bU, bV, eE, j7, d8, bT, pZ, qb, jW, d9, jY, jZ, j5, qm, jX, qj, ql, ai6, ai7, ai8, aiY, Int.reduceToNat, bG, bH, dM, bJ, bK, dN, dO, bL, bM, eQ, eU, lD, qJ, qK, Option.isSome_some, Option.isSome_none, lE, Int.reduceEq, beq_self_eq_true, cQ, cR, eY, lH, eZ, fj, fu, lJ, lK, fB, fD, fK, bW, bz, lO, lQ, lV, lW, fV, cC, cD, lY, fX, qT, tM, qU, qW, qX, uB, uC, gq, mG, nj, nU, iy, nW, j8, kh, eG, j9, kY, qw, kZ, lg, qC, lu, lw, lA, qD, qF, startF, aiU, aiW, ai1, ai5, aiV, aiX, ai3, ai4, ai9, aja, ai2, aiZ, ai0, Nat.reduceAdd, Nat.reduceSub, Nat.reduceLeDiff, Nat.reduceLT, Nat.zero_add, and_true, true_and, and_self, false_and, and_false, not_true_eq_false, not_false_eq_true, eq_self, decide_true, decide_false, Bool.not_true, Bool.not_false, Bool.true_and, Bool.false_and, Bool.and_true, Bool.and_false, Bool.or_true, Bool.or_false, Bool.true_or, Bool.false_or, Option.map_some, Option.map_none, Int.toNat_natCast, ↓reduceIte, Bool.false_eq_true, reduceCtorEq, Int.cast_ofNat_Int, Int.reduceLT, Int.reduceLE, Int.reduceAdd, Int.reduceSub, Int.reduceNeg, Int.natCast_zero, pY, and_assoc, ↓uI, ↓uJ, ↓uK, ↓vX, ↓aU, aF, aG, aV, aP, aM, aW, aH, aX, aQ, az, aN, aY, aZ, au, l1, i1, i2, d1, hi]
     rw [← hr, afL hc hi] at q
     exact q
 · have d1 : decide ((e' : Int) < ((cs z).length : Nat)) = false := decide_eq_false (by omega)
   simp only [↓ou, ↓mU, ↓wp_bind, ↓oM, ↓tZ, ↓sE, ↓oN, ↓iH, ↓nM, ↓oO, ↓rQ, ↓rR, ↓sG, ↓oR, ↓iI, ↓oU, ↓sH, ↓iJ, ↓iK, ↓oV, ↓cU, ↓sJ, ↓cV, ↓cW, ↓oW, ↓oX, ↓iQ, ↓sO, ↓qd, ↓iT, ↓oY, ↓sS, ↓ig, ↓iU, ↓iV, ↓m7, ↓oZ, ↓iW, ↓nO, ↓o5, ↓o7, ↓iY, ↓gU, ↓sU, ↓il, ↓cX, ↓bA, ↓cY, ↓o8, ↓jc, ↓je, ↓jf, ↓jh, ↓ji, ↓jk, ↓jm, ↓bB, ↓jn, ↓jo, ↓jr, ↓j6, ↓qp, ↓jt, ↓ir, ↓ju, ↓jV, ↓nY, ↓nZ, ↓nu, ↓nA, gM, oE, oF, nQ, ie, ue, uf, gR, oG, nH, oH, iG, oJ, oK, nJ, mX, mY, gY, ni, cZ, jP, pX, iZ, ↓km, ↓kE, ↓eO, ↓qu, ↓tK, ↓kJ, ↓kW, ↓oA, ↓lB, ↓lC, ↓qG, ↓qH, ↓qI, ↓qL, ↓lF, ↓eV, ↓tL, ↓eX, ↓lG, ↓lL, ↓lM, ↓fG, ↓fH, ↓fJ, ↓bY, ↓qM, ↓lN, ↓fL, ↓fM, ↓qN, ↓lU, ↓fO, ↓fP, ↓fQ, ↓qO, ↓qP, ↓qQ, ↓qR, ↓lX, ↓fU, ↓bZ, ↓cA, ↓qY, ↓qZ, ↓fY, ↓rA, ↓lZ, ↓mD, ↓mF, ↓fZ, ↓gh, ↓gj, ↓cG, ↓mH, ↓gA, ↓rB, ↓gG, jw, pD, o9, sV, jx, pF, jy, fz_non, jA, pG, ph, sW, pq, sX, jB, pH, jC, pJ, jD, pK, pA, sY, pB, tD, pC, tE, gQ, mV, m9, mW, di, jE, iw, jF, dw, pM, jG, jH, ul, uo, uv, uw, ux, uz, uA, tG, mK, rW, dB, dC, jJ, dD, dF, bD, dG, dH, bF, dI, nR, pN, pO, pP, jK, jL, dJ, tH, jM, pQ, jN, jO, pU, pW, rY, rZ, dR, jQ, dU, bO, dW, bQ, jR, dX, bR, dY, dZ, jT, jU, uh, uR, u6, bU, bV, eE, j7, d8, bT, pZ, qb, jW, d9, jY, jZ, j5, qm, jX, qj, ql, ai6, ai7, ai8, aiY, Int.reduceToNat, bG, bH, dM, bJ, bK, dN, dO, bL, bM, eQ, eU, lD, qJ, qK, Option.isSome_some, Option.isSome_none, lE, Int.reduceEq, beq_self_eq_true, cQ, cR, eY, lH, eZ, fj, fu, lJ, lK, fB, fD, fK, bW, bz, lO, lQ, lV, lW, fV, cC, cD, lY, fX, qT, tM, qU, qW, qX, uB, uC, gq, mG, nj, nU, iy, nW, j8, kh, eG, j9, kY, qw, kZ, lg, qC, lu, lw, lA, qD, qF, startF, aiU, aiW, ai1, ai5, aiV, aiX, ai3, ai4, ai9, aja, ai2, aiZ, ai0, Nat.reduceAdd, Nat.reduceSub, Nat.reduceLeDiff, Nat.reduceLT, Nat.zero_add, and_true, true_and, and_self, false_and, and_false, not_true_eq_false, not_false_eq_true, eq_self, decide_true, decide_false, Bool.not_true, Bool.not_false, Bool.true_and, Bool.false_and, Bool.and_true, Bool.and_false, Bool.or_true, Bool.or_false, Bool.true_or, Bool.false_or, Option.map_some, Option.map_none, Int.toNat_natCast, ↓reduceIte, Bool.false_eq_true, reduceCtorEq, Int.cast_ofNat_Int, Int.reduceLT, Int.reduceLE, Int.reduceAdd, Int.reduceSub, Int.reduceNeg, Int.natCast_zero, pY, and_assoc, ↓uI, ↓uJ, ↓uK, ↓vX, ↓aU, aF, aG, aV, aP, aM, aW, aH, aX, aQ, az, aN, aY, aZ, au, l1, d1]
   rw [← hr, agX (by omega)] at q
   exact q
end L
namespace L
open PySem PySem.Spec L2 Pk
theorem XN {h : Hh} {z : Str} {a c : Nat} (hz : z.length ≤ 59) (hc : (cs z)[a]? = some c) : BR [.str z, .int (a : Nat)] h = .ok (.int (wE (cs z) a c : Nat)) [] h := by
 have hl : a < (cs z).length := (List.getElem?_eq_some_iff.mp hc).1
 have i1 := Sh (h := h) (by omega) hc
 have i2 : Aj h (.str ⟨#[c]⟩) (.str "abcdefghijklmnopqrstuvwxyz") = some (isIn Xo c) := rfl
 have i3 : Aj h (.str ⟨#[c]⟩) (.str "0123456789") = some (isIn Pu c) := rfl
 have ea : (a : Int) + 1 = ((a + 1 : Nat) : Int) := by simp
 have r1 := Ye (S := Xo) (cs := cs z) (e := a + 1) hl
 apply Wp.eq
 unfold wE
 cases h1 : isIn Xo c with
 | true =>
   simp only [↓ou, ↓mU, ↓wp_bind, ↓oM, ↓tZ, ↓sE, ↓oN, ↓iH, ↓nM, ↓oO, ↓rQ, ↓rR, ↓sG, ↓oR, ↓iI, ↓oU, ↓sH, ↓iJ, ↓iK, ↓oV, ↓cU, ↓sJ, ↓cV, ↓cW, ↓oW, ↓oX, ↓iQ, ↓sO, ↓qd, ↓iT, ↓oY, ↓sS, ↓ig, ↓iU, ↓iV, ↓m7, ↓oZ, ↓iW, ↓nO, ↓o5, ↓o7, ↓iY, ↓gU, ↓sU, ↓il, ↓cX, ↓bA, ↓cY, ↓o8, ↓jc, ↓je, ↓jf, ↓jh, ↓ji, ↓jk, ↓jm, ↓bB, ↓jn, ↓jo, ↓jr, ↓j6, ↓qp, ↓jt, ↓ir, ↓ju, ↓jV, ↓nY, ↓nZ, ↓nu, ↓nA, gM, oE, oF, nQ, ie, ue, uf, gR, oG, nH, oH, iG, oJ, oK, nJ, mX, mY, gY, ni, cZ, jP, pX, iZ, ↓km, ↓kE, ↓eO, ↓qu, ↓tK, ↓kJ, ↓kW, ↓oA, ↓lB, ↓lC, ↓qG, ↓qH, ↓qI, ↓qL, ↓lF, ↓eV, ↓tL, ↓eX, ↓lG, ↓lL, ↓lM, ↓fG, ↓fH, ↓fJ, ↓bY, ↓qM, ↓lN, ↓fL, ↓fM, ↓qN, ↓lU, ↓fO, ↓fP, ↓fQ, ↓qO, ↓qP, ↓qQ, ↓qR, ↓lX, ↓fU, ↓bZ, ↓cA, ↓qY, ↓qZ, ↓fY, ↓rA, ↓lZ, ↓mD, ↓mF, ↓fZ, ↓gh, ↓gj, ↓cG, ↓mH, ↓gA, ↓rB, ↓gG, jw, pD, o9, sV, jx, pF, jy, fz_non, jA, pG, ph, sW, pq, sX, jB, pH, jC, pJ, jD, pK, pA, sY, pB, tD, pC, tE, gQ, mV, m9, mW, di, jE, iw, jF, dw, pM, jG, jH, ul, uo, uv, uw, ux, uz, uA, tG, mK, rW, dB, dC, jJ, dD, dF, bD, dG, dH, bF, dI, nR, pN, pO, pP, jK, jL, dJ, tH, jM, pQ, jN, jO, pU, pW, rY, rZ, dR, jQ, dU, bO, dW, bQ, jR, dX, bR, dY, dZ, jT, jU, uh, uR, u6, bU, bV, eE, j7, d8, bT, pZ, qb, jW, d9, jY, jZ, j5, qm, jX, qj, ql, ai6, ai7, ai8, aiY, Int.reduceToNat, bG, bH, dM, bJ, bK, dN, dO, bL, bM, eQ, eU, lD, qJ, qK, Option.isSome_some, Option.isSome_none, lE, Int.reduceEq, beq_self_eq_true, cQ, cR, eY, lH, eZ, fj, fu, lJ, lK, fB, fD, fK, bW, bz, lO, lQ, lV, lW, fV, cC, cD, lY, fX, qT, tM, qU, qW, qX, uB, uC, gq, mG, nj, nU, iy, nW, j8, kh, eG, j9, kY, qw, kZ, lg, qC, lu, lw, lA, qD, qF, startF, aiU, aiW, ai1, ai5, aiV, aiX, ai3, ai4, ai9, aja, ai2, aiZ, ai0, Nat.reduceAdd, Nat.reduceSub, Nat.reduceLeDiff, Nat.reduceLT, Nat.zero_add, and_true, true_and, and_self, false_and, and_false, not_true_eq_false, not_false_eq_true, eq_self, decide_true, decide_false, Bool.not_true, Bool.not_false, Bool.true_and, Bool.false_and, Bool.and_true, Bool.and_false, Bool.or_true, Bool.or_false, Bool.true_or, Bool.false_or, Option.map_some, Option.map_none, Int.toNat_natCast, ↓reduceIte, Bool.false_eq_true, reduceCtorEq, Int.cast_ofNat_Int, Int.reduceLT, Int.reduceLE, Int.reduceAdd, Int.reduceSub, Int.reduceNeg, Int.natCast_zero, pY, and_assoc, ↓uI, ↓uJ, ↓uK, ↓vX, ↓aU, aF, aG, aV, aP, aM, aW, aH, aX, aQ, az, aN, aY, aZ, au, ↓Nf, i1, i2, i3, h1, ea]
   refine Rk hz hl ?_
   cases h2 : isIn Pu c with
   | true =>
     simp only [↓ou, ↓mU, ↓wp_bind, ↓oM, ↓tZ, ↓sE, ↓oN, ↓iH, ↓nM, ↓oO, ↓rQ, ↓rR, ↓sG, ↓oR, ↓iI, ↓oU, ↓sH, ↓iJ, ↓iK, ↓oV, ↓cU, ↓sJ, ↓cV, ↓cW, ↓oW, ↓oX, ↓iQ, ↓sO, ↓qd, ↓iT, ↓oY, ↓sS, ↓ig, ↓iU, ↓iV, ↓m7, ↓oZ, ↓iW, ↓nO, ↓o5, ↓o7, ↓iY, ↓gU, ↓sU, ↓il, ↓cX, ↓bA, ↓cY, ↓o8, ↓jc, ↓je, ↓jf, ↓jh, ↓ji, ↓jk, ↓jm, ↓bB, ↓jn, ↓jo, ↓jr, ↓j6, ↓qp, ↓jt, ↓ir, ↓ju, ↓jV, ↓nY, ↓nZ, ↓nu, ↓nA, gM, oE, oF, nQ, ie, ue, uf, gR, oG, nH, oH, iG, oJ, oK, nJ, mX, mY, gY, ni, cZ, jP, pX, iZ, ↓km, ↓kE, ↓eO, ↓qu, ↓tK, ↓kJ, ↓kW, ↓oA, ↓lB, ↓lC, ↓qG, ↓qH, ↓qI, ↓qL, ↓lF, ↓eV, ↓tL, ↓eX, ↓lG, ↓lL, ↓lM, ↓fG, ↓fH, ↓fJ, ↓bY, ↓qM, ↓lN, ↓fL, ↓fM, ↓qN, ↓lU, ↓fO, ↓fP, ↓fQ, ↓qO, ↓qP, ↓qQ, ↓qR, ↓lX, ↓fU, ↓bZ, ↓cA, ↓qY, ↓qZ, ↓fY, ↓rA, ↓lZ, ↓mD, ↓mF, ↓fZ, ↓gh, ↓gj, ↓cG, ↓mH, ↓gA, ↓rB, ↓gG, jw, pD, o9, sV, jx, pF, jy, fz_non, jA, pG, ph, sW, pq, sX, jB, pH, jC, pJ, jD, pK, pA, sY, pB, tD, pC, tE, gQ, mV, m9, mW, di, jE, iw, jF, dw, pM, jG, jH, ul, uo, uv, uw, ux, uz, uA, tG, mK, rW, dB, dC, jJ, dD, dF, bD, dG, dH, bF, dI, nR, pN, pO, pP, jK, jL, dJ, tH, jM, pQ, jN, jO, pU, pW, rY, rZ, dR, jQ, dU, bO, dW, bQ, jR, dX, bR, dY, dZ, jT, jU, uh, uR, u6, bU, bV, eE, j7, d8, bT, pZ, qb, jW, d9, jY, jZ, j5, qm, jX, qj, ql, ai6, ai7, ai8, aiY, Int.reduceToNat, bG, bH, dM, bJ, bK, dN, dO, bL, bM, eQ, eU, lD, qJ, qK, Option.isSome_some, Option.isSome_none, lE, Int.reduceEq, beq_self_eq_true, cQ, cR, eY, lH, eZ, fj, fu, lJ, lK, fB, fD, fK, bW, bz, lO, lQ, lV, lW, fV, cC, cD, lY, fX, qT, tM, qU, qW, qX, uB, uC, gq, mG, nj, nU, iy, nW, j8, kh, eG, j9, kY, qw, kZ, lg, qC, lu, lw, lA, qD, qF, startF, aiU, aiW, ai1, ai5, aiV, aiX, ai3, ai4, ai9, aja, ai2, aiZ, ai0, Nat.reduceAdd, Nat.reduceSub, Nat.reduceLeDiff, Nat.reduceLT, Nat.zero_add, and_true, true_and, and_self, false_and, and_false, not_true_eq_false, not_false_eq_true, eq_self, decide_true, decide_false, Bool.not_true, Bool.not_false, Bool.true_and, Bool.false_and, Bool.and_true, Bool.and_false, Bool.or_true, Bool.or_false, Bool.true_or, Bool.false_or, Option.map_some, Option.map_none, Int.toNat_natCast, ↓reduceIte, Bool.false_eq_true, reduceCtorEq, Int.cast_ofNat_Int, Int.reduceLT, Int.reduceLE, Int.reduceAdd, Int.reduceSub, Int.reduceNeg, Int.natCast_zero, pY, and_assoc, ↓uI, ↓uJ, ↓uK, ↓vX, ↓aU, aF, aG, aV, aP, aM, aW, aH, aX, aQ, az, aN, aY, aZ, au, i1, i2, i3, h2]
     refine Rk hz r1.2 ?_
     simp only [↓ou, ↓mU, ↓wp_bind, ↓oM, ↓tZ, ↓sE, ↓oN, ↓iH, ↓nM, ↓oO, ↓rQ, ↓rR, ↓sG, ↓oR, ↓iI, ↓oU, ↓sH, ↓iJ, ↓iK, ↓oV, ↓cU, ↓sJ, ↓cV, ↓cW, ↓oW, ↓oX, ↓iQ, ↓sO, ↓qd, ↓iT, ↓oY, ↓sS, ↓ig, ↓iU, ↓iV, ↓m7, ↓oZ, ↓iW, ↓nO, ↓o5, ↓o7, ↓iY, ↓gU, ↓sU, ↓il, ↓cX, ↓bA, ↓cY, ↓o8, ↓jc, ↓je, ↓jf, ↓jh, ↓ji, ↓jk, ↓jm, ↓bB, ↓jn, ↓jo, ↓jr, ↓j6, ↓qp, ↓jt, ↓ir, ↓ju, ↓jV, ↓nY, ↓nZ, ↓nu, ↓nA, gM, oE, oF, nQ, ie, ue, uf, gR, oG, nH, oH, iG, oJ, oK, nJ, mX, mY, gY, ni, cZ, jP, pX, iZ, ↓km, ↓kE, ↓eO, ↓qu, ↓tK, ↓kJ, ↓kW, ↓oA, ↓lB, ↓lC, ↓qG, ↓qH, ↓qI, ↓qL, ↓lF, ↓eV, ↓tL, ↓eX, ↓lG, ↓lL, ↓lM, ↓fG, ↓fH, ↓fJ, ↓bY, ↓qM, ↓lN, ↓fL, ↓fM, ↓qN, ↓lU, ↓fO, ↓fP, ↓fQ, ↓qO, ↓qP, ↓qQ, ↓qR, ↓lX, ↓fU, ↓bZ, ↓cA, ↓qY, ↓qZ, ↓fY, ↓rA, ↓lZ, ↓mD, ↓mF, ↓fZ, ↓gh, ↓gj, ↓cG, ↓mH, ↓gA, ↓rB, ↓gG, jw, pD, o9, sV, jx, pF, jy, fz_non, jA, pG, ph, sW, pq, sX, jB, pH, jC, pJ, jD, pK, pA, sY, pB, tD, pC, tE, gQ, mV, m9, mW, di, jE, iw, jF, dw, pM, jG, jH, ul, uo, uv, uw, ux, uz, uA, tG, mK, rW, dB, dC, jJ, dD, dF, bD, dG, dH, bF, dI, nR, pN, pO, pP, jK, jL, dJ, tH, jM, pQ, jN, jO, pU, pW, rY, rZ, dR, jQ, dU, bO, dW, bQ, jR, dX, bR, dY, dZ, jT, jU, uh, uR, u6, bU, bV, eE, j7, d8, bT, pZ, qb, jW, d9, jY, jZ, j5, qm, jX, qj, ql, ai6, ai7, ai8, aiY, Int.reduceToNat, bG, bH, dM, bJ, bK, dN, dO, bL, bM, eQ, eU, lD, qJ, qK, Option.isSome_some, Option.isSome_none, lE, Int.reduceEq, beq_self_eq_true, cQ, cR, eY, lH, eZ, fj, fu, lJ, lK, fB, fD, fK, bW, bz, lO, lQ, lV, lW, fV, cC, cD, lY, fX, qT, tM, qU, qW, qX, uB, uC, gq, mG, nj, nU, iy, nW, j8, kh, eG, j9, kY, qw, kZ, lg, qC, lu, lw, lA, qD, qF, startF, aiU, aiW, ai1, ai5, aiV, aiX, ai3, ai4, ai9, aja, ai2, aiZ, ai0, Nat.reduceAdd, Nat.reduceSub, Nat.reduceLeDiff, Nat.reduceLT, Nat.zero_add, and_true, true_and, and_self, false_and, and_false, not_true_eq_false, not_false_eq_true, eq_self, decide_true, decide_false, Bool.not_true, Bool.not_false, Bool.true_and, Bool.false_and, Bool.and_true, Bool.and_false, Bool.or_true, Bool.or_false, Bool.true_or, Bool.false_or, Option.map_some, Option.map_none, Int.toNat_natCast, ↓reduceIte, Bool.false_eq_true, reduceCtorEq, Int.cast_ofNat_Int, Int.reduceLT, Int.reduceLE, Int.reduceAdd, Int.reduceSub, Int.reduceNeg, Int.natCast_zero, pY, and_assoc, ↓uI, ↓uJ, ↓uK, ↓vX, ↓aU, aF, aG, aV, aP, aM, aW, aH, aX, aQ, az, aN, aY, aZ, au]
     all_goals first | rfl | exact ⟨rfl, rfl, rfl⟩ | simp
   | false =>
     simp only [↓ou, ↓mU, ↓wp_bind, ↓oM, ↓tZ, ↓sE, ↓oN, ↓iH, ↓nM, ↓oO, ↓rQ, ↓rR, ↓sG, ↓oR, ↓iI, ↓oU, ↓sH, ↓iJ, ↓iK, ↓oV, ↓cU, ↓sJ, ↓cV, ↓cW, ↓oW, ↓oX, ↓iQ, ↓sO, ↓qd, ↓iT, ↓oY, ↓sS, ↓ig, ↓iU, ↓iV, ↓m7, ↓oZ, ↓iW, ↓nO, ↓o5, ↓o7, ↓iY, ↓gU, ↓sU, ↓il, ↓cX, ↓bA, ↓cY, ↓o8, ↓jc, ↓je, ↓jf, ↓jh, ↓ji, ↓jk, ↓jm, ↓bB, ↓jn, ↓jo, ↓jr, ↓j6, ↓qp, ↓jt, ↓ir, ↓ju, ↓jV, ↓nY, ↓nZ, ↓nu, ↓nA, gM, oE, oF, nQ, ie, ue, uf, gR, oG, nH, oH, iG, oJ, oK, nJ, mX, mY, gY, ni, cZ, jP, pX, iZ, ↓km, ↓kE, ↓eO, ↓qu, ↓tK, ↓kJ, ↓kW, ↓oA, ↓lB, ↓lC, ↓qG, ↓qH, ↓qI, ↓qL, ↓lF, ↓eV, ↓tL, ↓eX, ↓lG, ↓lL, ↓lM, ↓fG, ↓fH, ↓fJ, ↓bY, ↓qM, ↓lN, ↓fL, ↓fM, ↓qN, ↓lU, ↓fO, ↓fP, ↓fQ, ↓qO, ↓qP, ↓qQ, ↓qR, ↓lX, ↓fU, ↓bZ, ↓cA, ↓qY, ↓qZ, ↓fY, ↓rA, ↓lZ, ↓mD, ↓mF, ↓fZ, ↓gh, ↓gj, ↓cG, ↓mH, ↓gA, ↓rB, ↓gG, jw, pD, o9, sV, jx, pF, jy, fz_non, jA, pG, ph, sW, pq, sX, jB, pH, jC, pJ, jD, pK, pA, sY, pB, tD, pC, tE, gQ, mV, m9, mW, di, jE, iw, jF, dw, pM, jG, jH, ul, uo, uv, uw, ux, uz, uA, tG, mK, rW, dB, dC, jJ, dD, dF, bD, dG, dH, bF, dI, nR, pN, pO, pP, jK, jL, dJ, tH, jM, pQ, jN, jO, pU, pW, rY, rZ, dR, jQ, dU, bO, dW, bQ, jR, dX, bR, dY, dZ, jT, jU, uh, uR, u6, bU, bV, eE, j7, d8, bT, pZ, qb, jW, d9, jY, jZ, j5, qm, jX, qj, ql, ai6, ai7, ai8, aiY, Int.reduceToNat, bG, bH, dM, bJ, bK, dN, dO, bL, bM, eQ, eU, lD, qJ, qK, Option.isSome_some, Option.isSome_none, lE, Int.reduceEq, beq_self_eq_true, cQ, cR, eY, lH, eZ, fj, fu, lJ, lK, fB, fD, fK, bW, bz, lO, lQ, lV, lW, fV, cC, cD, lY, fX, qT, tM, qU, qW, qX, uB, uC, gq, mG, nj, nU, iy, nW, j8, kh, eG, j9, kY, qw, kZ, lg, qC, lu, lw, lA, qD, qF, startF, aiU, aiW, ai1, ai5, aiV, aiX, ai3, ai4, ai9, aja, ai2, aiZ, ai0, Nat.reduceAdd, Nat.reduceSub, Nat.reduceLeDiff, Nat.reduceLT, Nat.zero_add, and_true, true_and, and_self, false_and, and_false, not_true_eq_false, not_false_eq_true, eq_self, decide_true, decide_false, Bool.not_true, Bool.not_false, Bool.true_and, Bool.false_and, Bool.and_true, Bool.and_false, Bool.or_true, Bool.or_false, Bool.true_or, Bool.false_or, Option.map_some, Option.map_none, Int.toNat_natCast, ↓reduceIte, Bool.false_eq_true, reduceCtorEq, Int.cast_ofNat_Int, Int.reduceLT, Int.reduceLE, Int.reduceAdd, Int.reduceSub, Int.reduceNeg, Int.natCast_zero, pY, and_assoc, ↓uI, ↓uJ, ↓uK, ↓vX, ↓aU, aF, aG, aV, aP, aM, aW, aH, aX, aQ, az, aN, aY, aZ, au, i1, i2, i3, h2]
     all_goals first | rfl | exact ⟨rfl, rfl, rfl⟩ | simp
 | false =>
   cases h2 : isIn Pu c with
   | true =>
     simp only [↓ou, ↓mU, ↓wp_bind, ↓oM, ↓tZ, ↓sE, ↓oN, ↓iH, ↓nM, ↓oO, ↓rQ, ↓rR, ↓sG, ↓oR, ↓iI, ↓oU, ↓sH, ↓iJ, ↓iK, ↓oV, ↓cU, ↓sJ, ↓cV, ↓cW, ↓oW, ↓oX, ↓iQ, ↓sO, ↓qd, ↓iT, ↓oY, ↓sS, ↓ig, ↓iU, ↓iV, ↓m7, ↓oZ, ↓iW, ↓nO, ↓o5, ↓o7, ↓iY, ↓gU, ↓sU, ↓il, ↓cX, ↓bA, ↓cY, ↓o8, ↓jc, ↓je, ↓jf, ↓jh, ↓ji, ↓jk, ↓jm, ↓bB, ↓jn, ↓jo, ↓jr, ↓j6, ↓qp, ↓jt, ↓ir, ↓ju, ↓jV, ↓nY, ↓nZ, ↓nu, ↓nA, gM, oE, oF, nQ, ie, ue, uf, gR, oG, nH, oH, iG, oJ, oK, nJ, mX, mY, gY, ni, cZ, jP, pX, iZ, ↓km, ↓kE, ↓eO, ↓qu, ↓tK, ↓kJ, ↓kW, ↓oA, ↓lB, ↓lC, ↓qG, ↓qH, ↓qI, ↓qL, ↓lF, ↓eV, ↓tL, ↓eX, ↓lG, ↓lL, ↓lM, ↓fG, ↓fH, ↓fJ, ↓bY, ↓qM, ↓lN, ↓fL, ↓fM, ↓qN, ↓lU, ↓fO, ↓fP, ↓fQ, ↓qO, ↓qP, ↓qQ, ↓qR, ↓lX, ↓fU, ↓bZ, ↓cA, ↓qY, ↓qZ, ↓fY, ↓rA, ↓lZ, ↓mD, ↓mF, ↓fZ, ↓gh, ↓gj, ↓cG, ↓mH, ↓gA, ↓rB, ↓gG, jw, pD, o9, sV, jx, pF, jy, fz_non, jA, pG, ph, sW, pq, sX, jB, pH, jC, pJ, jD, pK, pA, sY, pB, tD, pC, tE, gQ, mV, m9, mW, di, jE, iw, jF, dw, pM, jG, jH, ul, uo, uv, uw, ux, uz, uA, tG, mK, rW, dB, dC, jJ, dD, dF, bD, dG, dH, bF, dI, nR, pN, pO, pP, jK, jL, dJ, tH, jM, pQ, jN, jO, pU, pW, rY, rZ, dR, jQ, dU, bO, dW, bQ, jR, dX, bR, dY, dZ, jT, jU, uh, uR, u6, bU, bV, eE, j7, d8, bT, pZ, qb, jW, d9, jY, jZ, j5, qm, jX, qj, ql, ai6, ai7, ai8, aiY, Int.reduceToNat, bG, bH, dM, bJ, bK, dN, dO, bL, bM, eQ, eU, lD, qJ, qK, Option.isSome_some, Option.isSome_none, lE, Int.reduceEq, beq_self_eq_true, cQ, cR, eY, lH, eZ, fj, fu, lJ, lK, fB, fD, fK, bW, bz, lO, lQ, lV, lW, fV, cC, cD, lY, fX, qT, tM, qU, qW, qX, uB, uC, gq, mG, nj, nU, iy, nW, j8, kh, eG, j9, kY, qw, kZ, lg, qC, lu, lw, lA, qD, qF, startF, aiU, aiW, ai1, ai5, aiV, aiX, ai3, ai4, ai9, aja, ai2, aiZ, ai0, Nat.reduceAdd, Nat.reduceSub, Nat.reduceLeDiff, Nat.reduceLT, Nat.zero_add, and_true, true_and, and_self, false_and, and_false, not_true_eq_false, not_false_eq_true, eq_self, decide_true, decide_false, Bool.not_true, Bool.not_false, Bool.true_and, Bool.false_and, Bool.and_true, Bool.and_false, Bool.or_true, Bool.or_false, Bool.true_or, Bool.false_or, Option.map_some, Option.map_none, Int.toNat_natCast, ↓reduceIte, Bool.false_eq_true, reduceCtorEq, Int.cast_ofNat_Int, Int.reduceLT, Int.reduceLE, Int.reduceAdd, Int.reduceSub, Int.reduceNeg, Int.natCast_zero, pY, and_assoc, ↓uI, ↓uJ, ↓uK, ↓vX, ↓aU, aF, aG, aV, aP, aM, aW, aH, aX, aQ, az, aN, aY, aZ, au, ↓Nf, i1, i2, i3, h1, h2, ea]
     refine Rk hz hl ?_
     simp only [↓ou, ↓mU, ↓wp_bind, ↓oM, ↓tZ, ↓sE, ↓oN, ↓iH, ↓nM, ↓oO, ↓rQ, ↓rR, ↓sG, ↓oR, ↓iI, ↓oU, ↓sH, ↓iJ, ↓iK, ↓oV, ↓cU, ↓sJ, ↓cV, ↓cW, ↓oW, ↓oX, ↓iQ, ↓sO, ↓qd, ↓iT, ↓oY, ↓sS, ↓ig, ↓iU, ↓iV, ↓m7, ↓oZ, ↓iW, ↓nO, ↓o5, ↓o7, ↓iY, ↓gU, ↓sU, ↓il, ↓cX, ↓bA, ↓cY, ↓o8, ↓jc, ↓je, ↓jf, ↓jh, ↓ji, ↓jk, ↓jm, ↓bB, ↓jn, ↓jo, ↓jr, ↓j6, ↓qp, ↓jt, ↓ir, ↓ju, ↓jV, ↓nY, ↓nZ, ↓nu, ↓nA, gM, oE, oF, nQ, ie, ue, uf, gR, oG, nH, oH, iG, oJ, oK, nJ, mX, mY, gY, ni, cZ, jP, pX, iZ, ↓km, ↓kE, ↓eO, ↓qu, ↓tK, ↓kJ, ↓kW, ↓oA, ↓lB, ↓lC, ↓qG, ↓qH, ↓qI, ↓qL, ↓lF, ↓eV, ↓tL, ↓eX, ↓lG, ↓lL, ↓lM, ↓fG, ↓fH, ↓fJ, ↓bY, ↓qM, ↓lN, ↓fL, ↓fM, ↓qN, ↓lU, ↓fO, ↓fP, ↓fQ, ↓qO, ↓qP, ↓qQ, ↓qR, ↓lX, ↓fU, ↓bZ, ↓cA, ↓qY, ↓qZ, ↓fY, ↓rA, ↓lZ, ↓mD, ↓mF, ↓fZ, ↓gh, ↓gj, ↓cG, ↓mH, ↓gA, ↓rB, ↓gG, jw, pD, o9, sV, jx, pF, jy, fz_non, jA, pG, ph, sW, pq, sX, jB, pH, jC, pJ, jD, pK, pA, sY, pB, tD, pC, tE, gQ, mV, m9, mW, di, jE, iw, jF, dw, pM, jG, jH, ul, uo, uv, uw, ux, uz, uA, tG, mK, rW, dB, dC, jJ, dD, dF, bD, dG, dH, bF, dI, nR, pN, pO, pP, jK, jL, dJ, tH, jM, pQ, jN, jO, pU, pW, rY, rZ, dR, jQ, dU, bO, dW, bQ, jR, dX, bR, dY, dZ, jT, jU, uh, uR, u6, bU, bV, eE, j7, d8, bT, pZ, qb, jW, d9, jY, jZ, j5, qm, jX, qj, ql, ai6, ai7, ai8, aiY, Int.reduceToNat, bG, bH, dM, bJ, bK, dN, dO, bL, bM, eQ, eU, lD, qJ, qK, Option.isSome_some, Option.isSome_none, lE, Int.reduceEq, beq_self_eq_true, cQ, cR, eY, lH, eZ, fj, fu, lJ, lK, fB, fD, fK, bW, bz, lO, lQ, lV, lW, fV, cC, cD, lY, fX, qT, tM, qU, qW, qX, uB, uC, gq, mG, nj, nU, iy, nW, j8, kh, eG, j9, kY, qw, kZ, lg, qC, lu, lw, lA, qD, qF, startF, aiU, aiW, ai1, ai5, aiV, aiX, ai3, ai4, ai9, aja, ai2, aiZ, ai0, Nat.reduceAdd, Nat.reduceSub, Nat.reduceLeDiff, Nat.reduceLT, Nat.zero_add, and_true, true_and, and_self, false_and, and_false, not_true_eq_false, not_false_eq_true, eq_self, decide_true, decide_false, Bool.not_true, Bool.not_false, Bool.true_and, Bool.false_and, Bool.and_true, Bool.and_false, Bool.or_true, Bool.or_false, Bool.true_or, Bool.false_or, Option.map_some, Option.map_none, Int.toNat_natCast, ↓reduceIte, Bool.false_eq_true, reduceCtorEq, Int.cast_ofNat_Int, Int.reduceLT, Int.reduceLE, Int.reduceAdd, Int.reduceSub, Int.reduceNeg, Int.natCast_zero, pY, and_assoc, ↓uI, ↓uJ, ↓uK, ↓vX, ↓aU, aF, aG, aV, aP, aM, aW, aH, aX, aQ, az, aN, aY, aZ, au]
     all_goals first | rfl | exact ⟨rfl, rfl, rfl⟩ | simp
   | false =>
     simp only [↓ou, ↓mU, ↓wp_bind, ↓oM, ↓tZ, ↓sE, ↓oN, ↓iH, ↓nM, ↓oO, ↓rQ, ↓rR, ↓sG, ↓oR, ↓iI, ↓oU, ↓sH, ↓iJ, ↓iK, ↓oV, ↓cU, ↓sJ, ↓cV, ↓cW, ↓oW, ↓oX, ↓iQ, ↓sO, ↓qd, ↓iT, ↓oY, ↓sS, ↓ig, ↓iU, ↓iV, ↓m7, ↓oZ, ↓iW, ↓nO, ↓o5, ↓o7, ↓iY, ↓gU, ↓sU, ↓il, ↓cX, ↓bA, ↓cY, ↓o8, ↓jc, ↓je, ↓jf, ↓jh, ↓ji, ↓jk, ↓jm, ↓bB, ↓jn, ↓jo, ↓jr, ↓j6, ↓qp, ↓jt, ↓ir, ↓ju, ↓jV, ↓nY, ↓nZ, ↓nu, ↓nA, gM, oE, oF, nQ, ie, ue, uf, gR, oG, nH, oH, iG, oJ, oK, nJ, mX, mY, gY, ni, cZ, jP, pX, iZ, ↓km, ↓kE, ↓eO, ↓qu, ↓tK, ↓kJ, ↓kW, ↓oA, ↓lB, ↓lC, ↓qG, ↓qH, ↓qI, ↓qL, ↓lF, ↓eV, ↓tL, ↓eX, ↓lG, ↓lL, ↓lM, ↓fG, ↓fH, ↓fJ, ↓bY, ↓qM, ↓lN, ↓fL, ↓fM, ↓qN, ↓lU, ↓fO, ↓fP, ↓fQ, ↓qO, ↓qP, ↓qQ, ↓qR, ↓lX, ↓fU, ↓bZ, ↓cA, ↓qY, ↓qZ, ↓fY, ↓rA, ↓lZ, ↓mD, ↓mF, ↓fZ, ↓gh, ↓gj, ↓cG, ↓mH, ↓gA, ↓rB, ↓gG, jw, pD, o9, sV, jx, pF, jy, fz_non, jA, pG, ph, sW, pq, sX, jB, pH, jC, pJ, jD, pK, pA, sY, pB, tD, pC, tE, gQ, mV, m9, mW, di, jE, iw, jF, dw, pM, jG, jH, ul, uo, uv, uw, ux, uz, uA, tG, mK, rW, dB, dC, jJ, dD, dF, bD, dG, dH, bF, dI, nR, pN, pO, pP, jK, jL, dJ, tH, jM, pQ, jN, jO, pU, pW, rY, rZ, dR, jQ, dU, bO, dW, bQ, jR, dX, bR, dY, dZ, jT, jU, uh, uR, u6, bU, bV, eE, j7, d8, bT, pZ, qb, jW, d9, jY, jZ, j5, qm, jX, qj, ql, ai6, ai7, ai8, aiY, Int.reduceToNat, bG, bH, dM, bJ, bK, dN, dO, bL, bM, eQ, eU, lD, qJ, qK, Option.isSome_some, Option.isSome_none, lE, Int.reduceEq, beq_self_eq_true, cQ, cR, eY, lH, eZ, fj, fu, lJ, lK, fB, fD, fK, bW, bz, lO, lQ, lV, lW, fV, cC, cD, lY, fX, qT, tM, qU, qW, qX, uB, uC, gq, mG, nj, nU, iy, nW, j8, kh, eG, j9, kY, qw, kZ, lg, qC, lu, lw, lA, qD, qF, startF, aiU, aiW, ai1, ai5, aiV, aiX, ai3, ai4, ai9, aja, ai2, aiZ, ai0, Nat.reduceAdd, Nat.reduceSub, Nat.reduceLeDiff, Nat.reduceLT, Nat.zero_add, and_true, true_and, and_self, false_and, and_false, not_true_eq_false, not_false_eq_true, eq_self, decide_true, decide_false, Bool.not_true, Bool.not_false, Bool.true_and, Bool.false_and, Bool.and_true, Bool.and_false, Bool.or_true, Bool.or_false, Bool.true_or, Bool.false_or, Option.map_some, Option.map_none, Int.toNat_natCast, ↓reduceIte, Bool.false_eq_true, reduceCtorEq, Int.cast_ofNat_Int, Int.reduceLT, Int.reduceLE, Int.reduceAdd, Int.reduceSub, Int.reduceNeg, Int.natCast_zero, pY, and_assoc, ↓uI, ↓uJ, ↓uK, ↓vX, ↓aU, aF, aG, aV, aP, aM, aW, aH, aX, aQ, az, aN, aY, aZ, au, ↓Nf, i1, i2, i3, h1, h2, ea]
     all_goals first | rfl | exact ⟨rfl, rfl, rfl⟩ | simp
end L
namespace L
open PySem PySem.Spec L2 Pk
theorem ahr {h : Hh} {c : Nat} (hc : c < 0x110000) : uE h (.str ⟨#[c]⟩) (.str " ") = some (decide (c = 32)) := by
 have e := Vh (h := h) Em.str (Kf ⟨#[c]⟩) (Kf " ") (show zU ⟨#[c]⟩ = true by show (#[c] : Array Nat).all _ = true; simp [hc]) (show zU " " = true by decide +kernel) (by decide)
 rw [e]
 congr 1
 by_cases h1 : c = 32
 · subst h1
   rw [decide_eq_true (rfl : (32 : Nat) = 32)]
   exact decide_eq_true (by decide +kernel)
 · rw [decide_eq_false h1]
   refine decide_eq_false fun z => h1 ?_
   have z' : (⟨#[c]⟩ : Str).cps.toList = (" " : Str).cps.toList := by rw [z]
   have e2 : (" " : Str).cps.toList = [32] := by decide +kernel
   rw [e2] at z'
   simpa using z'
section
variable {α : Type} {l : List α} {x y z v : α} {r : List α}
theorem JR : (l ++ x :: r)[l.length]? = some x := by rw [ajl (Nat.le_refl _), Nat.sub_self]; rfl
theorem ap1 : (l ++ x :: y :: r)[l.length + 1]? = some y := by rw [ajl (Nat.le_add_right _ _), Nat.add_sub_cancel_left]; rfl
theorem ap2 : (l ++ x :: y :: z :: r)[l.length + 2]? = some z := by rw [ajl (Nat.le_add_right _ _), Nat.add_sub_cancel_left]; rfl
theorem st0 : (l ++ x :: r).set l.length v = l ++ v :: r := by rw [List.set_append_right _ _ (Nat.le_refl _), Nat.sub_self]; rfl
theorem st1 : (l ++ x :: y :: r).set (l.length + 1) v = l ++ x :: v :: r := by rw [List.set_append_right _ _ (Nat.le_add_right _ _), Nat.add_sub_cancel_left]; rfl
theorem st2 : (l ++ x :: y :: z :: r).set (l.length + 2) v = l ++ x :: y :: v :: r := by rw [List.set_append_right _ _ (Nat.le_add_right _ _), Nat.add_sub_cancel_left]; rfl
end
theorem Rm {h0 r : Hh} {a b : D} {s : List D} : ug xT (h0 ++ .no 0 (a :: b :: s) :: r) (.ref h0.length) = some b := by
 unfold ug D.ins D.der
 simp only [JR, Option.getD_some]
 rfl
theorem VH {h0 r : Hh} {a b c : D} {s : List D} : ug zf (h0 ++ .no 0 (a :: b :: c :: s) :: r) (.ref h0.length) = some c := by
 unfold ug D.ins D.der
 simp only [JR, Option.getD_some]
 rfl
theorem aeg {h0 r : Hh} {a b c e : D} {s : List D} : ug wU (h0 ++ .no 0 (a :: b :: c :: e :: s) :: r) (.ref h0.length) = some e := by
 unfold ug D.ins D.der
 simp only [JR, Option.getD_some]
 rfl
theorem Z8 {h0 r : Hh} {a : D} {s : List D} : ug tQ (h0 ++ .no 0 (a :: s) :: r) (.ref h0.length) = some a := by
 unfold ug D.ins D.der
 simp only [JR, Option.getD_some]
 rfl
def TH (h0 : Hh) (sz : Int) (ws : List Str) (ps : List Int) (sp : Int) : Hh := h0 ++ [.no 0 [.int sz, .ref (h0.length + 1), .ref (h0.length + 2), .int sp], .nl (ws.map .str), .nl (ps.map .int)]
theorem aeT {l : List Nat} {a c : Nat} (ha : a < l.length) : a < wE l a c ∧ wE l a c ≤ l.length := by
 have r1 := Ye (S := Xo) (cs := l) (e := a + 1) ha
 have r2 := Ye (S := Pu) (cs := l) (e := a + 1) ha
 have r3 := Ye (S := Pu) (cs := l) (e := rE Xo l (a + 1)) r1.2
 unfold wE
 split
 · split <;> omega
 · split <;> omega
def tk (z : Str) : Nat → Nat → List (Str × Nat)
 | 0, _ => []
 | n + 1, a => match (cs z)[a]? with
   | none => []
   | some c => if c = 32 then tk z n (a + 1) else (cutS z (some (a : Int)) (some (wE (cs z) a c : Nat)), a) :: tk z n (wE (cs z) a c)
theorem Ss {z : Str} : ∀ (n m a : Nat), (cs z).length - a < n → (cs z).length - a < m → tk z n a = tk z m a := by
 intro n
 induction n with
 | zero => intro m a h; exact absurd h (Nat.not_lt_zero _)
 | succ n ih =>
   intro m a h1 h2
   cases m with
   | zero => exact absurd h2 (Nat.not_lt_zero _)
   | succ m =>
     unfold tk
     cases e : (cs z)[a]? with
     | none => rfl
     | some c =>
       have hl : a < (cs z).length := (List.getElem?_eq_some_iff.mp e).1
       have g := aeT (c := c) hl
       dsimp only
       rw [ih m (a + 1) (by omega) (by omega), ih m (wE (cs z) a c) (by omega) (by omega)]
def TK (z : Str) : List (Str × Nat) := tk z (z.length + 1) 0
theorem afM {h : Hh} {z : Str} {a b : Int} (hz : z.length ≤ 1000) : zR h (.str z) (some a, some b) = some (.str (cutS z (some a) (some b))) := by
 show (if z.length ≤ big then some (D.str (cutS z (some a) (some b))) else none) = _
 rw [if_pos (Nat.le_trans hz (by decide))]
theorem VJ {d : D} {l : List D} (hl : l.length ≤ 1000) : Et d l = some (l ++ [d]) := by
 unfold Et
 rw [if_pos (Nat.lt_of_le_of_lt hl (by decide))]
theorem acV {h0 : Hh} {z : Str} {sz : Int} (hz : z.length ≤ 59) (hg : zU z = true) :
 wV [.ref h0.length, .str z, .int sz] (h0 ++ [.no 0 []]) = .ok .non [] (TH h0 sz ((TK z).map (·.1)) ((TK z).map (fun p => (p.2 : Int)) ++ [((cs z).length : Int)]) 0) := by
 have hz' : z.length ≤ 1000 := by omega
 have hl : ∀ h : Hh, vh h (.str z) = some (.int ((cs z).length : Nat)) := fun h => Xb hz'
 have hg' : ∀ c ∈ cs z, c < 0x110000 := fun c hc => by
  have : z.cps.all (· < 0x110000) = true := hg
  rw [Array.all_eq_true'] at this
  exact of_decide_eq_true (this c (Array.mem_toList_iff.mp hc))
 apply Wp.eq
 simp only [↓ou, ↓mU, ↓wp_bind, ↓oM, ↓tZ, ↓sE, ↓oN, ↓iH, ↓nM, ↓oO, ↓rQ, ↓rR, ↓sG, ↓oR, ↓iI, ↓oU, ↓sH, ↓iJ, ↓iK, ↓oV, ↓cU, ↓sJ, ↓cV, ↓cW, ↓oW, ↓oX, ↓iQ, ↓sO, ↓qd, ↓iT, ↓oY, ↓sS, ↓ig, ↓iU, ↓iV, ↓m7, ↓oZ, ↓iW, ↓nO, ↓o5, ↓o7, ↓iY, ↓gU, ↓sU, ↓il, ↓cX, ↓bA, ↓cY, ↓o8, ↓jc, ↓je, ↓jf, ↓jh, ↓ji, ↓jk, ↓jm, ↓bB, ↓jn, ↓jo, ↓jr, ↓j6, ↓qp, ↓jt, ↓ir, ↓ju, ↓jV, ↓nY, ↓nZ, ↓nu, ↓nA, gM, oE, oF, nQ, ie, ue, uf, gR, oG, nH, oH, iG, oJ, oK, nJ, mX, mY, gY, ni, cZ, jP, pX, iZ, ↓km, ↓kE, ↓eO, ↓qu, ↓tK, ↓kJ, ↓kW, ↓oA, ↓lB, ↓lC, ↓qG, ↓qH, ↓qI, ↓qL, ↓lF, ↓eV, ↓tL, ↓eX, ↓lG, ↓lL, ↓lM, ↓fG, ↓fH, ↓fJ, ↓bY, ↓qM, ↓lN, ↓fL, ↓fM, ↓qN, ↓lU, ↓fO, ↓fP, ↓fQ, ↓qO, ↓qP, ↓qQ, ↓qR, ↓lX, ↓fU, ↓bZ, ↓cA, ↓qY, ↓qZ, ↓fY, ↓rA, ↓lZ, ↓mD, ↓mF, ↓fZ, ↓gh, ↓gj, ↓cG, ↓mH, ↓gA, ↓rB, ↓gG, jw, pD, o9, sV, jx, pF, jy, fz_non, jA, pG, ph, sW, pq, sX, jB, pH, jC, pJ, jD, pK, pA, sY, pB, tD, pC, tE, gQ, mV, m9, mW, di, jE, iw, jF, dw, pM, jG, jH, ul, uo, uv, uw, ux, uz, uA, tG, mK, rW, dB, dC, jJ, dD, dF, bD, dG, dH, bF, dI, nR, pN, pO, pP, jK, jL, dJ, tH, jM, pQ, jN, jO, pU, pW, rY, rZ, dR, jQ, dU, bO, dW, bQ, jR, dX, bR, dY, dZ, jT, jU, uh, uR, u6, bU, bV, eE, j7, d8, bT, pZ, qb, jW, d9, jY, jZ, j5, qm, jX, qj, ql, ai6, ai7, ai8, aiY, Int.reduceToNat, bG, bH, dM, bJ, bK, dN, dO, bL, bM, eQ, eU, lD, qJ, qK, Option.isSome_some, Option.isSome_none, lE, Int.reduceEq, beq_self_eq_true, cQ, cR, eY, lH, eZ, fj, fu, lJ, lK, fB, fD, fK, bW, bz, lO, lQ, lV, lW, fV, cC, cD, lY, fX, qT, tM, qU, qW, qX, uB, uC, gq, mG, nj, nU, iy, nW, j8, kh, eG, j9, kY, qw, kZ, lg, qC, lu, lw, lA, qD, qF, startF, aiU, aiW, ai1, ai5, aiV, aiX, ai3, ai4, ai9, aja, ai2, aiZ, ai0, Nat.reduceAdd, Nat.reduceSub, Nat.reduceLeDiff, Nat.reduceLT, Nat.zero_add, and_true, true_and, and_self, false_and, and_false, not_true_eq_false, not_false_eq_true, eq_self, decide_true, decide_false, Bool.not_true, Bool.not_false, Bool.true_and, Bool.false_and, Bool.and_true, Bool.and_false, Bool.or_true, Bool.or_false, Bool.true_or, Bool.false_or, Option.map_some, Option.map_none, Int.toNat_natCast, ↓reduceIte, Bool.false_eq_true, reduceCtorEq, Int.cast_ofNat_Int, Int.reduceLT, Int.reduceLE, Int.reduceAdd, Int.reduceSub, Int.reduceNeg, Int.natCast_zero, pY, and_assoc, ↓uI, ↓uJ, ↓uK, ↓vX, ↓yQ, ↓yR, ↓yS, ↓yU, ↓yV, ↓yW, ↓Ae, ↓aU, aF, aG, aV, aP, aM, aW, aH, aX, aQ, az, aN, aY, aZ, au, ↓P0, JR, ap1, ap2, st0, st1, st2, List.append_assoc, ai1, ai5, ajk, xg]
 refine Xn (fun k fr h => ∃ (a : Nat) (x : Option D) (ws : List Str) (ps : List Int), fr = [some (.ref h0.length), some (.str z), some (.int sz), some (.int (a : Nat)), x] ∧ h = TH h0 sz ws ps 0 ∧ k = (cs z).length - a ∧ a ≤ (cs z).length ∧ ws.length ≤ a ∧ ps.length ≤ a ∧
  ws ++ (tk z (k + 1) a).map (·.1) = (TK z).map (·.1) ∧ ps ++ (tk z (k + 1) a).map (fun p => (p.2 : Int)) = (TK z).map (fun p => (p.2 : Int))) ?_ 60 (cs z).length _ _ (by rw [Hn] at hz; omega)
  ⟨0, none, [], [], rfl, rfl, rfl, Nat.zero_le _, Nat.le_refl _, Nat.le_refl _, by rw [TK, Hn]; rfl, by rw [TK, Hn]; rfl⟩
 rintro k fr h ⟨a, x, ws, ps, rfl, rfl, rfl, ha, hw, hp, e1, e2⟩
 by_cases hlt : a < (cs z).length
 · have hc : (cs z)[a]? = some (cs z)[a] := ajc hlt
   have hcg := hg' _ (List.getElem_mem hlt)
   generalize (cs z)[a] = c at hc hcg
   have g := aeT (c := c) hlt
   have d1 : decide ((a : Int) < ((cs z).length : Nat)) = true := decide_eq_true (by omega)
   have i1 : ∀ h : Hh, gJ h (.str z) (.int (a : Int)) = some (.str ⟨#[c]⟩) := fun h => Sh hz' hc
   have i2 : ∀ h : Hh, uE h (.str ⟨#[c]⟩) (.str " ") = some (decide (c = 32)) := fun h => ahr hcg
   have hws : ws.length ≤ 1000 := by rw [Hn] at hz; omega
   have hps : ps.length ≤ 1000 := by rw [Hn] at hz; omega
   have ek : (cs z).length - a + 1 = ((cs z).length - a) + 1 := rfl
   rw [tk, hc] at e1 e2
   dsimp only at e1 e2
   by_cases h32 : c = 32
   · rw [if_pos h32] at e1 e2
     have d2 : decide (c = 32) = true := decide_eq_true h32
     simp only [↓ou, ↓mU, ↓wp_bind, ↓oM, ↓tZ, ↓sE, ↓oN, ↓iH, ↓nM, ↓oO, ↓rQ, ↓rR, ↓sG, ↓oR, ↓iI, ↓oU, ↓sH, ↓iJ, ↓iK, ↓oV, ↓cU, ↓sJ, ↓cV, ↓cW, ↓oW, ↓oX, ↓iQ, ↓sO, ↓qd, ↓iT, ↓oY, ↓sS, ↓ig, ↓iU, ↓iV, ↓m7, ↓oZ, ↓iW, ↓nO, ↓o5, ↓o7, ↓iY, ↓gU, ↓sU, ↓il, ↓cX, ↓bA, ↓cY, ↓o8, ↓jc, ↓je, ↓jf, ↓jh, ↓ji, ↓jk, ↓jm, ↓bB, ↓jn, ↓jo, ↓jr, ↓j6, ↓qp, ↓jt, ↓ir, ↓ju, ↓jV, ↓nY, ↓nZ, ↓nu, ↓nA, gM, oE, oF, nQ, ie, ue, uf, gR, oG, nH, oH, iG, oJ, oK, nJ, mX, mY, gY, ni, cZ, jP, pX, iZ, ↓km, ↓kE, ↓eO, ↓qu, ↓tK, ↓kJ, ↓kW, ↓oA, ↓lB, ↓lC, ↓qG, ↓qH, ↓qI, ↓qL, ↓lF, ↓eV, ↓tL, ↓eX, ↓lG, ↓lL, ↓lM, ↓fG, ↓fH, ↓fJ, ↓bY, ↓qM, ↓lN, ↓fL, ↓fM, ↓qN, ↓lU, ↓fO, ↓fP, ↓fQ, ↓qO, ↓qP, ↓qQ, ↓qR, ↓lX, ↓fU, ↓bZ, ↓cA, ↓qY, ↓qZ, ↓fY, ↓rA, ↓lZ, ↓mD, ↓mF, ↓fZ, ↓gh, ↓gj, ↓cG, ↓mH, ↓gA, ↓rB, ↓gG, jw, pD, o9, sV, jx, pF, jy, fz_non, jA, pG, ph, sW, pq, sX, jB, pH, jC, pJ, jD, pK, pA, sY, pB, tD, pC, tE, gQ, mV, m9, mW, di, jE, iw, jF, dw, pM, jG, jH, ul, uo, uv, uw, ux, uz, uA, tG, mK, rW, dB, dC, jJ, dD, dF, bD, dG, dH, bF, dI, nR, pN, pO, pP, jK, jL, dJ, tH, jM, pQ, jN, jO, pU, pW, rY, rZ, dR, jQ, dU, bO, dW, bQ, jR, dX, bR, dY, dZ, jT, jU, uh, uR, u6, bU, bV, eE, j7, d8, bT, pZ, qb, jW, d9, jY, jZ, j5, qm, jX, qj, ql, ai6, ai7, ai8, aiY, Int.reduceToNat, bG, bH, dM, bJ, bK, dN, dO, bL, bM, eQ, eU, lD, qJ, qK, Option.isSome_some, Option.isSome_none, lE, Int.reduceEq, beq_self_eq_true, cQ, cR, eY, lH, eZ, fj, fu, lJ, lK, fB, fD, fK, bW, bz, lO, lQ, lV, lW, fV, cC, cD, lY, fX, qT, tM, qU, qW, qX, uB, uC, gq, mG, nj, nU, iy, nW, j8, kh, eG, j9, kY, qw, kZ, lg, qC, lu, lw, lA, qD, qF, startF, aiU, aiW, ai1, ai5, aiV, aiX, ai3, ai4, ai9, aja, ai2, aiZ, ai0, Nat.reduceAdd, Nat.reduceSub, Nat.reduceLeDiff, Nat.reduceLT, Nat.zero_add, and_true, true_and, and_self, false_and, and_false, not_true_eq_false, not_false_eq_true, eq_self, decide_true, decide_false, Bool.not_true, Bool.not_false, Bool.true_and, Bool.false_and, Bool.and_true, Bool.and_false, Bool.or_true, Bool.or_false, Bool.true_or, Bool.false_or, Option.map_some, Option.map_none, Int.toNat_natCast, ↓reduceIte, Bool.false_eq_true, reduceCtorEq, Int.cast_ofNat_Int, Int.reduceLT, Int.reduceLE, Int.reduceAdd, Int.reduceSub, Int.reduceNeg, Int.natCast_zero, pY, and_assoc, ↓uI, ↓uJ, ↓uK, ↓vX, ↓yQ, ↓yR, ↓yS, ↓yU, ↓yV, ↓yW, ↓Ae, ↓aU, aF, aG, aV, aP, aM, aW, aH, aX, aQ, az, aN, aY, aZ, au, TH, hl, d1, i1, i2, d2]
     refine ⟨(cs z).length - (a + 1), by omega, a + 1, x, ws, ps, by simp only [Int.natCast_add, Int.natCast_one, aiZ, ai0], rfl, rfl, by omega, by omega, by omega, ?_, ?_⟩
     · rw [← e1, Ss ((cs z).length - (a + 1) + 1) ((cs z).length - a) (a + 1) (by omega) (by omega)]
     · rw [← e2, Ss ((cs z).length - (a + 1) + 1) ((cs z).length - a) (a + 1) (by omega) (by omega)]
   · rw [if_neg h32] at e1 e2
     have d2 : decide (c = 32) = false := decide_eq_false h32
     have we : ∀ h : Hh, BR [.str z, .int (a : Nat)] h = .ok (.int (wE (cs z) a c : Nat)) [] h := fun h => XN hz hc
     have ct : ∀ h : Hh, zR h (.str z) (some (a : Int), some ((wE (cs z) a c : Nat) : Int)) = some (.str (cutS z (some (a : Int)) (some ((wE (cs z) a c : Nat) : Int)))) := fun h => afM hz'
     have aw : ∀ d : D, Et d (ws.map .str) = some (ws.map .str ++ [d]) := fun d => VJ (by rw [aje]; exact hws)
     have ap : ∀ d : D, Et d (ps.map .int) = some (ps.map .int ++ [d]) := fun d => VJ (by rw [aje]; exact hps)
     simp only [↓ou, ↓mU, ↓wp_bind, ↓oM, ↓tZ, ↓sE, ↓oN, ↓iH, ↓nM, ↓oO, ↓rQ, ↓rR, ↓sG, ↓oR, ↓iI, ↓oU, ↓sH, ↓iJ, ↓iK, ↓oV, ↓cU, ↓sJ, ↓cV, ↓cW, ↓oW, ↓oX, ↓iQ, ↓sO, ↓qd, ↓iT, ↓oY, ↓sS, ↓ig, ↓iU, ↓iV, ↓m7, ↓oZ, ↓iW, ↓nO, ↓o5, ↓o7, ↓iY, ↓gU, ↓sU, ↓il, ↓cX, ↓bA, ↓cY, ↓o8, ↓jc, ↓je, ↓jf, ↓jh, ↓ji, ↓jk, ↓jm, ↓bB, ↓jn, ↓jo, ↓jr, ↓j6, ↓qp, ↓jt, ↓ir, ↓ju, ↓jV, ↓nY, ↓nZ, ↓nu, ↓nA, gM, oE, oF, nQ, ie, ue, uf, gR, oG, nH, oH, iG, oJ, oK, nJ, mX, mY, gY, ni, cZ, jP, pX, iZ, ↓km, ↓kE, ↓eO, ↓qu, ↓tK, ↓kJ, ↓kW, ↓oA, ↓lB, ↓lC, ↓qG, ↓qH, ↓qI, ↓qL, ↓lF, ↓eV, ↓tL, ↓eX, ↓lG, ↓lL, ↓lM, ↓fG, ↓fH, ↓fJ, ↓bY, ↓qM, ↓lN, ↓fL, ↓fM, ↓qN, ↓lU, ↓fO, ↓fP, ↓fQ, ↓qO, ↓qP, ↓qQ, ↓qR, ↓lX, ↓fU, ↓bZ, ↓cA, ↓qY, ↓qZ, ↓fY, ↓rA, ↓lZ, ↓mD, ↓mF, ↓fZ, ↓gh, ↓gj, ↓cG, ↓mH, ↓gA, ↓rB, ↓gG, jw, pD, o9, sV, jx, pF, jy, fz_non, jA, pG, ph, sW, pq, sX, jB, pH, jC, pJ, jD, pK, pA, sY, pB, tD, pC, tE, gQ, mV, m9, mW, di, jE, iw, jF, dw, pM, jG, jH, ul, uo, uv, uw, ux, uz, uA, tG, mK, rW, dB, dC, jJ, dD, dF, bD, dG, dH, bF, dI, nR, pN, pO, pP, jK, jL, dJ, tH, jM, pQ, jN, jO, pU, pW, rY, rZ, dR, jQ, dU, bO, dW, bQ, jR, dX, bR, dY, dZ, jT, jU, uh, uR, u6, bU, bV, eE, j7, d8, bT, pZ, qb, jW, d9, jY, jZ, j5, qm, jX, qj, ql, ai6, ai7, ai8, aiY, Int.reduceToNat, bG, bH, dM, bJ, bK, dN, dO, bL, bM, eQ, eU, lD, qJ, qK, Option.isSome_some, Option.isSome_none, lE, Int.reduceEq, beq_self_eq_true, cQ, cR, eY, lH, eZ, fj, fu, lJ, lK, fB, fD, fK, bW, bz, lO, lQ, lV, lW, fV, cC, cD, lY, fX, qT, tM, qU, qW, qX, uB, uC, gq, mG, nj, nU, iy, nW, j8, kh, eG, j9, kY, qw, kZ, lg, qC, lu, lw, lA, qD, qF, startF, aiU, aiW, ai1, ai5, aiV, aiX, ai3, ai4, ai9, aja, ai2, aiZ, ai0, Nat.reduceAdd, Nat.reduceSub, Nat.reduceLeDiff, Nat.reduceLT, Nat.zero_add, and_true, true_and, and_self, false_and, and_false, not_true_eq_false, not_false_eq_true, eq_self, decide_true, decide_false, Bool.not_true, Bool.not_false, Bool.true_and, Bool.false_and, Bool.and_true, Bool.and_false, Bool.or_true, Bool.or_false, Bool.true_or, Bool.false_or, Option.map_some, Option.map_none, Int.toNat_natCast, ↓reduceIte, Bool.false_eq_true, reduceCtorEq, Int.cast_ofNat_Int, Int.reduceLT, Int.reduceLE, Int.reduceAdd, Int.reduceSub, Int.reduceNeg, Int.natCast_zero, pY, and_assoc, ↓uI, ↓uJ, ↓uK, ↓vX, ↓yQ, ↓yR, ↓yS, ↓yU, ↓yV, ↓yW, ↓Ae, ↓aU, aF, aG, aV, aP, aM, aW, aH, aX, aQ, az, aN, aY, aZ, au, TH, Rm, VH, hl, d1, i1, i2, d2, we, ct, JR, ap1, ap2, st0, st1, st2, wj, aw, ap]
     refine ⟨by rw [aje]; omega, by rw [aje]; omega, (cs z).length - wE (cs z) a c, by omega, wE (cs z) a c, _, ws ++ [cutS z (some (a : Int)) (some ((wE (cs z) a c : Nat) : Int))], ps ++ [(a : Int)], rfl, (by first | rfl | (simp only [List.map_append, aiU, aiW])), rfl, by omega, by rw [ajk, List.length_singleton]; omega, by rw [ajk, List.length_singleton]; omega, ?_, ?_⟩
     · rw [← e1, Ss ((cs z).length - wE (cs z) a c + 1) ((cs z).length - a) (wE (cs z) a c) (by omega) (by omega), List.append_assoc]
       rfl
     · rw [← e2, Ss ((cs z).length - wE (cs z) a c + 1) ((cs z).length - a) (wE (cs z) a c) (by omega) (by omega), List.append_assoc]
       rfl
 · have d1 : decide ((a : Int) < ((cs z).length : Nat)) = false := decide_eq_false (by omega)
   have hc : (cs z)[a]? = none := List.getElem?_eq_none (by omega)
   have hps : ps.length ≤ 1000 := by rw [Hn] at hz; omega
   have ap : ∀ d : D, Et d (ps.map .int) = some (ps.map .int ++ [d]) := fun d => VJ (by rw [aje]; exact hps)
   rw [tk, hc] at e1 e2
   simp only [aiW, aiV] at e1 e2
   simp only [↓ou, ↓mU, ↓wp_bind, ↓oM, ↓tZ, ↓sE, ↓oN, ↓iH, ↓nM, ↓oO, ↓rQ, ↓rR, ↓sG, ↓oR, ↓iI, ↓oU, ↓sH, ↓iJ, ↓iK, ↓oV, ↓cU, ↓sJ, ↓cV, ↓cW, ↓oW, ↓oX, ↓iQ, ↓sO, ↓qd, ↓iT, ↓oY, ↓sS, ↓ig, ↓iU, ↓iV, ↓m7, ↓oZ, ↓iW, ↓nO, ↓o5, ↓o7, ↓iY, ↓gU, ↓sU, ↓il, ↓cX, ↓bA, ↓cY, ↓o8, ↓jc, ↓je, ↓jf, ↓jh, ↓ji, ↓jk, ↓jm, ↓bB, ↓jn, ↓jo, ↓jr, ↓j6, ↓qp, ↓jt, ↓ir, ↓ju, ↓jV, ↓nY, ↓nZ, ↓nu, ↓nA, gM, oE, oF, nQ, ie, ue, uf, gR, oG, nH, oH, iG, oJ, oK, nJ, mX, mY, gY, ni, cZ, jP, pX, iZ, ↓km, ↓kE, ↓eO, ↓qu, ↓tK, ↓kJ, ↓kW, ↓oA, ↓lB, ↓lC, ↓qG, ↓qH, ↓qI, ↓qL, ↓lF, ↓eV, ↓tL, ↓eX, ↓lG, ↓lL, ↓lM, ↓fG, ↓fH, ↓fJ, ↓bY, ↓qM, ↓lN, ↓fL, ↓fM, ↓qN, ↓lU, ↓fO, ↓fP, ↓fQ, ↓qO, ↓qP, ↓qQ, ↓qR, ↓lX, ↓fU, ↓bZ, ↓cA, ↓qY, ↓qZ, ↓fY, ↓rA, ↓lZ, ↓mD, ↓mF, ↓fZ, ↓gh, ↓gj, ↓cG, ↓mH, ↓gA, ↓rB, ↓gG, jw, pD, o9, sV, jx, pF, jy, fz_non, jA, pG, ph, sW, pq, sX, jB, pH, jC, pJ, jD, pK, pA, sY, pB, tD, pC, tE, gQ, mV, m9, mW, di, jE, iw, jF, dw, pM, jG, jH, ul, uo, uv, uw, ux, uz, uA, tG, mK, rW, dB, dC, jJ, dD, dF, bD, dG, dH, bF, dI, nR, pN, pO, pP, jK, jL, dJ, tH, jM, pQ, jN, jO, pU, pW, rY, rZ, dR, jQ, dU, bO, dW, bQ, jR, dX, bR, dY, dZ, jT, jU, uh, uR, u6, bU, bV, eE, j7, d8, bT, pZ, qb, jW, d9, jY, jZ, j5, qm, jX, qj, ql, ai6, ai7, ai8, aiY, Int.reduceToNat, bG, bH, dM, bJ, bK, dN, dO, bL, bM, eQ, eU, lD, qJ, qK, Option.isSome_some, Option.isSome_none, lE, Int.reduceEq, beq_self_eq_true, cQ, cR, eY, lH, eZ, fj, fu, lJ, lK, fB, fD, fK, bW, bz, lO, lQ, lV, lW, fV, cC, cD, lY, fX, qT, tM, qU, qW, qX, uB, uC, gq, mG, nj, nU, iy, nW, j8, kh, eG, j9, kY, qw, kZ, lg, qC, lu, lw, lA, qD, qF, startF, aiU, aiW, ai1, ai5, aiV, aiX, ai3, ai4, ai9, aja, ai2, aiZ, ai0, Nat.reduceAdd, Nat.reduceSub, Nat.reduceLeDiff, Nat.reduceLT, Nat.zero_add, and_true, true_and, and_self, false_and, and_false, not_true_eq_false, not_false_eq_true, eq_self, decide_true, decide_false, Bool.not_true, Bool.not_false, Bool.true_and, Bool.false_and, Bool.and_true, Bool.and_false, Bool.or_true, Bool.or_false, Bool.true_or, Bool.false_or, Option.map_some, Option.map_none, Int.toNat_natCast, ↓reduceIte, Bool.false_eq_true, reduceCtorEq, Int.cast_ofNat_Int, Int.reduceLT, Int.reduceLE, Int.reduceAdd, Int.reduceSub, Int.reduceNeg, Int.natCast_zero, pY, and_assoc, ↓uI, ↓uJ, ↓uK, ↓vX, ↓yQ, ↓yR, ↓yS, ↓yU, ↓yV, ↓yW, ↓Ae, ↓aU, aF, aG, aV, aP, aM, aW, aH, aX, aQ, az, aN, aY, aZ, au, TH, Rm, VH, hl, d1, JR, ap1, ap2, st0, st1, st2, wj, ap]
   rw [e1, e2]
   simp only [List.map_append, aiU, aiW]
   have : (TK z).length ≤ 1000 := by have := congrArg List.length e2; rw [aje] at this; omega
   exact ⟨by rw [aje, aje]; omega, trivial⟩
end L
namespace L
open PySem PySem.Spec L2 Pk
theorem Gg {h : Hh} {a b : Str} (ha : zU a = true) (hb : zU b = true) : uE h (.str a) (.str b) = some (decide (a = b)) := Vh Em.str (Kf a) (Kf b) ha hb (by decide)
theorem aa2 {w : Str} : ∀ al : List Str, ((al.map D.str).any fun z => D.eqf z (.str w)) = decide (w ∈ al)
 | [] => rfl
 | a :: al => by
   have e : D.eqf (.str a) (.str w) = decide (a = w) := rfl
   rw [aiU, List.any_cons, aa2 al, e]
   by_cases h : a = w
   · subst h; simp
   · have h' : ¬ w = a := fun z => h z.symm
     simp [h, h']
theorem Z9 : ∀ al : List Str, (al.map D.str).all D.flat = true
 | [] => rfl
 | a :: al => by rw [aiU, List.all_cons, Z9 al]; rfl
theorem ab3 {h : Hh} {w : Str} {al : List Str} : Aj h (.str w) (.tup (al.map .str)) = some (decide (w ∈ al)) := by
 show (if (D.str w).flat && (al.map D.str).all D.flat then some ((al.map D.str).any fun z => D.eqf z (.str w)) else none) = _
 rw [Z9, aa2]
 rfl
section
variable {h0 : Hh} {sz : Int} {ws : List Str} {ps : List Int} {sp : Int} {s : Nat} {w : Str}
theorem Ro : (TH h0 sz ws ps sp)[h0.length]? = some (.no 0 [.int sz, .ref (h0.length + 1), .ref (h0.length + 2), .int sp]) := JR
theorem JG {v : Int} : (TH h0 sz ws ps sp).set h0.length (.no 0 [.int sz, .ref (h0.length + 1), .ref (h0.length + 2), .int v]) = TH h0 sz ws ps v := st0
theorem aa3 : ug wU (TH h0 sz ws ps sp) (.ref h0.length) = some (.int sp) := aeg
theorem aaa : ug xT (TH h0 sz ws ps sp) (.ref h0.length) = some (.ref (h0.length + 1)) := Rm
theorem afN : ug tQ (TH h0 sz ws ps sp) (.ref h0.length) = some (.int sz) := Z8
theorem zP {mt : Nat → Option Fn} : fnOf mt (TH h0 sz ws ps sp) (.ref h0.length) = mt 0 := by
 unfold fnOf D.ins D.der
 simp only [Ro, Option.getD_some]
theorem acW : D.its (TH h0 sz ws ps sp) (.ref (h0.length + 1)) = some (ws.map .str) := by
 unfold D.its D.der
 have e : (TH h0 sz ws ps sp)[h0.length + 1]? = some (.nl (ws.map .str)) := ap1
 simp only [e, Option.getD_some]
theorem acX : vh (TH h0 sz ws ps sp) (.ref (h0.length + 1)) = some (.int (ws.length : Nat)) := by
 show (D.its _ _).map _ = _
 rw [acW, Option.map_some, aje]
theorem ag3 (e : ws[s]? = some w) : gJ (TH h0 sz ws ps sp) (.ref (h0.length + 1)) (.int (s : Nat)) = some (.str w) := by
 show (match D.its (TH h0 sz ws ps sp) (.ref (h0.length + 1)) with | some l => atI l (s : Int) | none => none) = _
 rw [acW]
 dsimp only
 unfold atI ixN
 have hl : s < ws.length := (List.getElem?_eq_some_iff.mp e).1
 have h1 : (0 : Int) ≤ (s : Int) ∧ (s : Int) < ((ws.map D.str).length : Int) := ⟨by omega, by rw [aje]; omega⟩
 simp only [h1, and_self, if_true, Int.toNat_natCast, Option.bind_some, ajm, e, Option.map_some]
def uD (ws : List Str) (s : Nat) : Str := ws.getD s ""
theorem Jb : wW [.ref h0.length] (TH h0 sz ws ps (s : Nat)) = .ok (.str (uD ws s)) [] (TH h0 sz ws ps (s : Nat)) := by
 apply Wp.eq
 unfold uD
 by_cases hl : s < ws.length
 · have e : ws[s]? = some ws[s] := ajc hl
   have d1 : decide ((s : Int) < (ws.length : Nat)) = true := decide_eq_true (by omega)
   have i1 := ag3 (h0 := h0) (sz := sz) (ps := ps) (sp := (s : Int)) e
   simp only [↓ou, ↓mU, ↓wp_bind, ↓oM, ↓tZ, ↓sE, ↓oN, ↓iH, ↓nM, ↓oO, ↓rQ, ↓rR, ↓sG, ↓oR, ↓iI, ↓oU, ↓sH, ↓iJ, ↓iK, ↓oV, ↓cU, ↓sJ, ↓cV, ↓cW, ↓oW, ↓oX, ↓iQ, ↓sO, ↓qd, ↓iT, ↓oY, ↓sS, ↓ig, ↓iU, ↓iV, ↓m7, ↓oZ, ↓iW, ↓nO, ↓o5, ↓o7, ↓iY, ↓gU, ↓sU, ↓il, ↓cX, ↓bA, ↓cY, ↓o8, ↓jc, ↓je, ↓jf, ↓jh, ↓ji, ↓jk, ↓jm, ↓bB, ↓jn, ↓jo, ↓jr, ↓j6, ↓qp, ↓jt, ↓ir, ↓ju, ↓jV, ↓nY, ↓nZ, ↓nu, ↓nA, gM, oE, oF, nQ, ie, ue, uf, gR, oG, nH, oH, iG, oJ, oK, nJ, mX, mY, gY, ni, cZ, jP, pX, iZ, ↓km, ↓kE, ↓eO, ↓qu, ↓tK, ↓kJ, ↓kW, ↓oA, ↓lB, ↓lC, ↓qG, ↓qH, ↓qI, ↓qL, ↓lF, ↓eV, ↓tL, ↓eX, ↓lG, ↓lL, ↓lM, ↓fG, ↓fH, ↓fJ, ↓bY, ↓qM, ↓lN, ↓fL, ↓fM, ↓qN, ↓lU, ↓fO, ↓fP, ↓fQ, ↓qO, ↓qP, ↓qQ, ↓qR, ↓lX, ↓fU, ↓bZ, ↓cA, ↓qY, ↓qZ, ↓fY, ↓rA, ↓lZ, ↓mD, ↓mF, ↓fZ, ↓gh, ↓gj, ↓cG, ↓mH, ↓gA, ↓rB, ↓gG, jw, pD, o9, sV, jx, pF, jy, fz_non, jA, pG, ph, sW, pq, sX, jB, pH, jC, pJ, jD, pK, pA, sY, pB, tD, pC, tE, gQ, mV, m9, mW, di, jE, iw, jF, dw, pM, jG, jH, ul, uo, uv, uw, ux, uz, uA, tG, mK, rW, dB, dC, jJ, dD, dF, bD, dG, dH, bF, dI, nR, pN, pO, pP, jK, jL, dJ, tH, jM, pQ, jN, jO, pU, pW, rY, rZ, dR, jQ, dU, bO, dW, bQ, jR, dX, bR, dY, dZ, jT, jU, uh, uR, u6, bU, bV, eE, j7, d8, bT, pZ, qb, jW, d9, jY, jZ, j5, qm, jX, qj, ql, ai6, ai7, ai8, aiY, Int.reduceToNat, bG, bH, dM, bJ, bK, dN, dO, bL, bM, eQ, eU, lD, qJ, qK, Option.isSome_some, Option.isSome_none, lE, Int.reduceEq, beq_self_eq_true, cQ, cR, eY, lH, eZ, fj, fu, lJ, lK, fB, fD, fK, bW, bz, lO, lQ, lV, lW, fV, cC, cD, lY, fX, qT, tM, qU, qW, qX, uB, uC, gq, mG, nj, nU, iy, nW, j8, kh, eG, j9, kY, qw, kZ, lg, qC, lu, lw, lA, qD, qF, startF, aiU, aiW, ai1, ai5, aiV, aiX, ai3, ai4, ai9, aja, ai2, aiZ, ai0, Nat.reduceAdd, Nat.reduceSub, Nat.reduceLeDiff, Nat.reduceLT, Nat.zero_add, and_true, true_and, and_self, false_and, and_false, not_true_eq_false, not_false_eq_true, eq_self, decide_true, decide_false, Bool.not_true, Bool.not_false, Bool.true_and, Bool.false_and, Bool.and_true, Bool.and_false, Bool.or_true, Bool.or_false, Bool.true_or, Bool.false_or, Option.map_some, Option.map_none, Int.toNat_natCast, ↓reduceIte, Bool.false_eq_true, reduceCtorEq, Int.cast_ofNat_Int, Int.reduceLT, Int.reduceLE, Int.reduceAdd, Int.reduceSub, Int.reduceNeg, Int.natCast_zero, pY, and_assoc, ↓Jw, ↓aU, aF, aG, aV, aP, aM, aW, aH, aX, aQ, az, aN, aY, aZ, au, ↓Hu, aa3, aaa, acX, d1, i1, List.getD_eq_getElem?_getD, e, Option.getD_some]
 · have e : ws[s]? = none := List.getElem?_eq_none (by omega)
   have d1 : decide ((s : Int) < (ws.length : Nat)) = false := decide_eq_false (by omega)
   simp only [↓ou, ↓mU, ↓wp_bind, ↓oM, ↓tZ, ↓sE, ↓oN, ↓iH, ↓nM, ↓oO, ↓rQ, ↓rR, ↓sG, ↓oR, ↓iI, ↓oU, ↓sH, ↓iJ, ↓iK, ↓oV, ↓cU, ↓sJ, ↓cV, ↓cW, ↓oW, ↓oX, ↓iQ, ↓sO, ↓qd, ↓iT, ↓oY, ↓sS, ↓ig, ↓iU, ↓iV, ↓m7, ↓oZ, ↓iW, ↓nO, ↓o5, ↓o7, ↓iY, ↓gU, ↓sU, ↓il, ↓cX, ↓bA, ↓cY, ↓o8, ↓jc, ↓je, ↓jf, ↓jh, ↓ji, ↓jk, ↓jm, ↓bB, ↓jn, ↓jo, ↓jr, ↓j6, ↓qp, ↓jt, ↓ir, ↓ju, ↓jV, ↓nY, ↓nZ, ↓nu, ↓nA, gM, oE, oF, nQ, ie, ue, uf, gR, oG, nH, oH, iG, oJ, oK, nJ, mX, mY, gY, ni, cZ, jP, pX, iZ, ↓km, ↓kE, ↓eO, ↓qu, ↓tK, ↓kJ, ↓kW, ↓oA, ↓lB, ↓lC, ↓qG, ↓qH, ↓qI, ↓qL, ↓lF, ↓eV, ↓tL, ↓eX, ↓lG, ↓lL, ↓lM, ↓fG, ↓fH, ↓fJ, ↓bY, ↓qM, ↓lN, ↓fL, ↓fM, ↓qN, ↓lU, ↓fO, ↓fP, ↓fQ, ↓qO, ↓qP, ↓qQ, ↓qR, ↓lX, ↓fU, ↓bZ, ↓cA, ↓qY, ↓qZ, ↓fY, ↓rA, ↓lZ, ↓mD, ↓mF, ↓fZ, ↓gh, ↓gj, ↓cG, ↓mH, ↓gA, ↓rB, ↓gG, jw, pD, o9, sV, jx, pF, jy, fz_non, jA, pG, ph, sW, pq, sX, jB, pH, jC, pJ, jD, pK, pA, sY, pB, tD, pC, tE, gQ, mV, m9, mW, di, jE, iw, jF, dw, pM, jG, jH, ul, uo, uv, uw, ux, uz, uA, tG, mK, rW, dB, dC, jJ, dD, dF, bD, dG, dH, bF, dI, nR, pN, pO, pP, jK, jL, dJ, tH, jM, pQ, jN, jO, pU, pW, rY, rZ, dR, jQ, dU, bO, dW, bQ, jR, dX, bR, dY, dZ, jT, jU, uh, uR, u6, bU, bV, eE, j7, d8, bT, pZ, qb, jW, d9, jY, jZ, j5, qm, jX, qj, ql, ai6, ai7, ai8, aiY, Int.reduceToNat, bG, bH, dM, bJ, bK, dN, dO, bL, bM, eQ, eU, lD, qJ, qK, Option.isSome_some, Option.isSome_none, lE, Int.reduceEq, beq_self_eq_true, cQ, cR, eY, lH, eZ, fj, fu, lJ, lK, fB, fD, fK, bW, bz, lO, lQ, lV, lW, fV, cC, cD, lY, fX, qT, tM, qU, qW, qX, uB, uC, gq, mG, nj, nU, iy, nW, j8, kh, eG, j9, kY, qw, kZ, lg, qC, lu, lw, lA, qD, qF, startF, aiU, aiW, ai1, ai5, aiV, aiX, ai3, ai4, ai9, aja, ai2, aiZ, ai0, Nat.reduceAdd, Nat.reduceSub, Nat.reduceLeDiff, Nat.reduceLT, Nat.zero_add, and_true, true_and, and_self, false_and, and_false, not_true_eq_false, not_false_eq_true, eq_self, decide_true, decide_false, Bool.not_true, Bool.not_false, Bool.true_and, Bool.false_and, Bool.and_true, Bool.and_false, Bool.or_true, Bool.or_false, Bool.true_or, Bool.false_or, Option.map_some, Option.map_none, Int.toNat_natCast, ↓reduceIte, Bool.false_eq_true, reduceCtorEq, Int.cast_ofNat_Int, Int.reduceLT, Int.reduceLE, Int.reduceAdd, Int.reduceSub, Int.reduceNeg, Int.natCast_zero, pY, and_assoc, ↓Jw, ↓aU, aF, aG, aV, aP, aM, aW, aH, aX, aQ, az, aN, aY, aZ, au, ↓Hu, aa3, aaa, acX, d1, List.getD_eq_getElem?_getD, e, Option.getD_none]
theorem J5 (hg : zU (uD ws s) = true) (hw : zU w = true) :
 yN [.ref h0.length, .str w] (TH h0 sz ws ps (s : Nat)) = .ok (.bl (decide (uD ws s = w))) [] (TH h0 sz ws ps ((if uD ws s = w then s + 1 else s : Nat) : Int)) := by
 apply Wp.eq
 have u := Jb (h0 := h0) (sz := sz) (ws := ws) (ps := ps) (s := s)
 have c : ∀ h : Hh, uE h (.str (uD ws s)) (.str w) = some (decide (uD ws s = w)) := fun h => Gg hg hw
 by_cases he : uD ws s = w
 · have d1 : decide (uD ws s = w) = true := decide_eq_true he
   simp only [↓ou, ↓mU, ↓wp_bind, ↓oM, ↓tZ, ↓sE, ↓oN, ↓iH, ↓nM, ↓oO, ↓rQ, ↓rR, ↓sG, ↓oR, ↓iI, ↓oU, ↓sH, ↓iJ, ↓iK, ↓oV, ↓cU, ↓sJ, ↓cV, ↓cW, ↓oW, ↓oX, ↓iQ, ↓sO, ↓qd, ↓iT, ↓oY, ↓sS, ↓ig, ↓iU, ↓iV, ↓m7, ↓oZ, ↓iW, ↓nO, ↓o5, ↓o7, ↓iY, ↓gU, ↓sU, ↓il, ↓cX, ↓bA, ↓cY, ↓o8, ↓jc, ↓je, ↓jf, ↓jh, ↓ji, ↓jk, ↓jm, ↓bB, ↓jn, ↓jo, ↓jr, ↓j6, ↓qp, ↓jt, ↓ir, ↓ju, ↓jV, ↓nY, ↓nZ, ↓nu, ↓nA, gM, oE, oF, nQ, ie, ue, uf, gR, oG, nH, oH, iG, oJ, oK, nJ, mX, mY, gY, ni, cZ, jP, pX, iZ, ↓km, ↓kE, ↓eO, ↓qu, ↓tK, ↓kJ, ↓kW, ↓oA, ↓lB, ↓lC, ↓qG, ↓qH, ↓qI, ↓qL, ↓lF, ↓eV, ↓tL, ↓eX, ↓lG, ↓lL, ↓lM, ↓fG, ↓fH, ↓fJ, ↓bY, ↓qM, ↓lN, ↓fL, ↓fM, ↓qN, ↓lU, ↓fO, ↓fP, ↓fQ, ↓qO, ↓qP, ↓qQ, ↓qR, ↓lX, ↓fU, ↓bZ, ↓cA, ↓qY, ↓qZ, ↓fY, ↓rA, ↓lZ, ↓mD, ↓mF, ↓fZ, ↓gh, ↓gj, ↓cG, ↓mH, ↓gA, ↓rB, ↓gG, jw, pD, o9, sV, jx, pF, jy, fz_non, jA, pG, ph, sW, pq, sX, jB, pH, jC, pJ, jD, pK, pA, sY, pB, tD, pC, tE, gQ, mV, m9, mW, di, jE, iw, jF, dw, pM, jG, jH, ul, uo, uv, uw, ux, uz, uA, tG, mK, rW, dB, dC, jJ, dD, dF, bD, dG, dH, bF, dI, nR, pN, pO, pP, jK, jL, dJ, tH, jM, pQ, jN, jO, pU, pW, rY, rZ, dR, jQ, dU, bO, dW, bQ, jR, dX, bR, dY, dZ, jT, jU, uh, uR, u6, bU, bV, eE, j7, d8, bT, pZ, qb, jW, d9, jY, jZ, j5, qm, jX, qj, ql, ai6, ai7, ai8, aiY, Int.reduceToNat, bG, bH, dM, bJ, bK, dN, dO, bL, bM, eQ, eU, lD, qJ, qK, Option.isSome_some, Option.isSome_none, lE, Int.reduceEq, beq_self_eq_true, cQ, cR, eY, lH, eZ, fj, fu, lJ, lK, fB, fD, fK, bW, bz, lO, lQ, lV, lW, fV, cC, cD, lY, fX, qT, tM, qU, qW, qX, uB, uC, gq, mG, nj, nU, iy, nW, j8, kh, eG, j9, kY, qw, kZ, lg, qC, lu, lw, lA, qD, qF, startF, aiU, aiW, ai1, ai5, aiV, aiX, ai3, ai4, ai9, aja, ai2, aiZ, ai0, Nat.reduceAdd, Nat.reduceSub, Nat.reduceLeDiff, Nat.reduceLT, Nat.zero_add, and_true, true_and, and_self, false_and, and_false, not_true_eq_false, not_false_eq_true, eq_self, decide_true, decide_false, Bool.not_true, Bool.not_false, Bool.true_and, Bool.false_and, Bool.and_true, Bool.and_false, Bool.or_true, Bool.or_false, Bool.true_or, Bool.false_or, Option.map_some, Option.map_none, Int.toNat_natCast, ↓reduceIte, Bool.false_eq_true, reduceCtorEq, Int.cast_ofNat_Int, Int.reduceLT, Int.reduceLE, Int.reduceAdd, Int.reduceSub, Int.reduceNeg, Int.natCast_zero, pY, and_assoc, ↓Jx, ↓Mq, ↓aU, aF, aG, aV, aP, aM, aW, aH, aX, aQ, az, aN, aY, aZ, au, ↓Lr, zP, u, c, d1, Ro, JG, xg]
   rw [if_pos he]
   simp only [JG, Int.natCast_add, Int.natCast_one]
   first | exact ⟨rfl, rfl, rfl⟩ | trivial | skip
 · have d1 : decide (uD ws s = w) = false := decide_eq_false he
   simp only [↓ou, ↓mU, ↓wp_bind, ↓oM, ↓tZ, ↓sE, ↓oN, ↓iH, ↓nM, ↓oO, ↓rQ, ↓rR, ↓sG, ↓oR, ↓iI, ↓oU, ↓sH, ↓iJ, ↓iK, ↓oV, ↓cU, ↓sJ, ↓cV, ↓cW, ↓oW, ↓oX, ↓iQ, ↓sO, ↓qd, ↓iT, ↓oY, ↓sS, ↓ig, ↓iU, ↓iV, ↓m7, ↓oZ, ↓iW, ↓nO, ↓o5, ↓o7, ↓iY, ↓gU, ↓sU, ↓il, ↓cX, ↓bA, ↓cY, ↓o8, ↓jc, ↓je, ↓jf, ↓jh, ↓ji, ↓jk, ↓jm, ↓bB, ↓jn, ↓jo, ↓jr, ↓j6, ↓qp, ↓jt, ↓ir, ↓ju, ↓jV, ↓nY, ↓nZ, ↓nu, ↓nA, gM, oE, oF, nQ, ie, ue, uf, gR, oG, nH, oH, iG, oJ, oK, nJ, mX, mY, gY, ni, cZ, jP, pX, iZ, ↓km, ↓kE, ↓eO, ↓qu, ↓tK, ↓kJ, ↓kW, ↓oA, ↓lB, ↓lC, ↓qG, ↓qH, ↓qI, ↓qL, ↓lF, ↓eV, ↓tL, ↓eX, ↓lG, ↓lL, ↓lM, ↓fG, ↓fH, ↓fJ, ↓bY, ↓qM, ↓lN, ↓fL, ↓fM, ↓qN, ↓lU, ↓fO, ↓fP, ↓fQ, ↓qO, ↓qP, ↓qQ, ↓qR, ↓lX, ↓fU, ↓bZ, ↓cA, ↓qY, ↓qZ, ↓fY, ↓rA, ↓lZ, ↓mD, ↓mF, ↓fZ, ↓gh, ↓gj, ↓cG, ↓mH, ↓gA, ↓rB, ↓gG, jw, pD, o9, sV, jx, pF, jy, fz_non, jA, pG, ph, sW, pq, sX, jB, pH, jC, pJ, jD, pK, pA, sY, pB, tD, pC, tE, gQ, mV, m9, mW, di, jE, iw, jF, dw, pM, jG, jH, ul, uo, uv, uw, ux, uz, uA, tG, mK, rW, dB, dC, jJ, dD, dF, bD, dG, dH, bF, dI, nR, pN, pO, pP, jK, jL, dJ, tH, jM, pQ, jN, jO, pU, pW, rY, rZ, dR, jQ, dU, bO, dW, bQ, jR, dX, bR, dY, dZ, jT, jU, uh, uR, u6, bU, bV, eE, j7, d8, bT, pZ, qb, jW, d9, jY, jZ, j5, qm, jX, qj, ql, ai6, ai7, ai8, aiY, Int.reduceToNat, bG, bH, dM, bJ, bK, dN, dO, bL, bM, eQ, eU, lD, qJ, qK, Option.isSome_some, Option.isSome_none, lE, Int.reduceEq, beq_self_eq_true, cQ, cR, eY, lH, eZ, fj, fu, lJ, lK, fB, fD, fK, bW, bz, lO, lQ, lV, lW, fV, cC, cD, lY, fX, qT, tM, qU, qW, qX, uB, uC, gq, mG, nj, nU, iy, nW, j8, kh, eG, j9, kY, qw, kZ, lg, qC, lu, lw, lA, qD, qF, startF, aiU, aiW, ai1, ai5, aiV, aiX, ai3, ai4, ai9, aja, ai2, aiZ, ai0, Nat.reduceAdd, Nat.reduceSub, Nat.reduceLeDiff, Nat.reduceLT, Nat.zero_add, and_true, true_and, and_self, false_and, and_false, not_true_eq_false, not_false_eq_true, eq_self, decide_true, decide_false, Bool.not_true, Bool.not_false, Bool.true_and, Bool.false_and, Bool.and_true, Bool.and_false, Bool.or_true, Bool.or_false, Bool.true_or, Bool.false_or, Option.map_some, Option.map_none, Int.toNat_natCast, ↓reduceIte, Bool.false_eq_true, reduceCtorEq, Int.cast_ofNat_Int, Int.reduceLT, Int.reduceLE, Int.reduceAdd, Int.reduceSub, Int.reduceNeg, Int.natCast_zero, pY, and_assoc, ↓Jx, ↓Mq, ↓aU, aF, aG, aV, aP, aM, aW, aH, aX, aQ, az, aN, aY, aZ, au, ↓Lr, zP, u, c, d1]
   rw [if_neg he]
   first | exact ⟨rfl, rfl, rfl⟩ | trivial | skip
theorem wD {al : List Str} (hm : uD ws s ∈ al) :
 zE [.ref h0.length, .tup (al.map .str)] (TH h0 sz ws ps (s : Nat)) = .ok (.str (uD ws s)) [] (TH h0 sz ws ps ((s + 1 : Nat) : Int)) := by
 apply Wp.eq
 have u := Jb (h0 := h0) (sz := sz) (ws := ws) (ps := ps) (s := s)
 have c : ∀ h : Hh, Aj h (.str (uD ws s)) (.tup (al.map .str)) = some (decide (uD ws s ∈ al)) := fun h => ab3
 have d1 : decide (uD ws s ∈ al) = true := decide_eq_true hm
 simp only [↓ou, ↓mU, ↓wp_bind, ↓oM, ↓tZ, ↓sE, ↓oN, ↓iH, ↓nM, ↓oO, ↓rQ, ↓rR, ↓sG, ↓oR, ↓iI, ↓oU, ↓sH, ↓iJ, ↓iK, ↓oV, ↓cU, ↓sJ, ↓cV, ↓cW, ↓oW, ↓oX, ↓iQ, ↓sO, ↓qd, ↓iT, ↓oY, ↓sS, ↓ig, ↓iU, ↓iV, ↓m7, ↓oZ, ↓iW, ↓nO, ↓o5, ↓o7, ↓iY, ↓gU, ↓sU, ↓il, ↓cX, ↓bA, ↓cY, ↓o8, ↓jc, ↓je, ↓jf, ↓jh, ↓ji, ↓jk, ↓jm, ↓bB, ↓jn, ↓jo, ↓jr, ↓j6, ↓qp, ↓jt, ↓ir, ↓ju, ↓jV, ↓nY, ↓nZ, ↓nu, ↓nA, gM, oE, oF, nQ, ie, ue, uf, gR, oG, nH, oH, iG, oJ, oK, nJ, mX, mY, gY, ni, cZ, jP, pX, iZ, ↓km, ↓kE, ↓eO, ↓qu, ↓tK, ↓kJ, ↓kW, ↓oA, ↓lB, ↓lC, ↓qG, ↓qH, ↓qI, ↓qL, ↓lF, ↓eV, ↓tL, ↓eX, ↓lG, ↓lL, ↓lM, ↓fG, ↓fH, ↓fJ, ↓bY, ↓qM, ↓lN, ↓fL, ↓fM, ↓qN, ↓lU, ↓fO, ↓fP, ↓fQ, ↓qO, ↓qP, ↓qQ, ↓qR, ↓lX, ↓fU, ↓bZ, ↓cA, ↓qY, ↓qZ, ↓fY, ↓rA, ↓lZ, ↓mD, ↓mF, ↓fZ, ↓gh, ↓gj, ↓cG, ↓mH, ↓gA, ↓rB, ↓gG, jw, pD, o9, sV, jx, pF, jy, fz_non, jA, pG, ph, sW, pq, sX, jB, pH, jC, pJ, jD, pK, pA, sY, pB, tD, pC, tE, gQ, mV, m9, mW, di, jE, iw, jF, dw, pM, jG, jH, ul, uo, uv, uw, ux, uz, uA, tG, mK, rW, dB, dC, jJ, dD, dF, bD, dG, dH, bF, dI, nR, pN, pO, pP, jK, jL, dJ, tH, jM, pQ, jN, jO, pU, pW, rY, rZ, dR, jQ, dU, bO, dW, bQ, jR, dX, bR, dY, dZ, jT, jU, uh, uR, u6, bU, bV, eE, j7, d8, bT, pZ, qb, jW, d9, jY, jZ, j5, qm, jX, qj, ql, ai6, ai7, ai8, aiY, Int.reduceToNat, bG, bH, dM, bJ, bK, dN, dO, bL, bM, eQ, eU, lD, qJ, qK, Option.isSome_some, Option.isSome_none, lE, Int.reduceEq, beq_self_eq_true, cQ, cR, eY, lH, eZ, fj, fu, lJ, lK, fB, fD, fK, bW, bz, lO, lQ, lV, lW, fV, cC, cD, lY, fX, qT, tM, qU, qW, qX, uB, uC, gq, mG, nj, nU, iy, nW, j8, kh, eG, j9, kY, qw, kZ, lg, qC, lu, lw, lA, qD, qF, startF, aiU, aiW, ai1, ai5, aiV, aiX, ai3, ai4, ai9, aja, ai2, aiZ, ai0, Nat.reduceAdd, Nat.reduceSub, Nat.reduceLeDiff, Nat.reduceLT, Nat.zero_add, and_true, true_and, and_self, false_and, and_false, not_true_eq_false, not_false_eq_true, eq_self, decide_true, decide_false, Bool.not_true, Bool.not_false, Bool.true_and, Bool.false_and, Bool.and_true, Bool.and_false, Bool.or_true, Bool.or_false, Bool.true_or, Bool.false_or, Option.map_some, Option.map_none, Int.toNat_natCast, ↓reduceIte, Bool.false_eq_true, reduceCtorEq, Int.cast_ofNat_Int, Int.reduceLT, Int.reduceLE, Int.reduceAdd, Int.reduceSub, Int.reduceNeg, Int.natCast_zero, pY, and_assoc, ↓Th, ↓Tj, ↓WQ, ↓aU, aF, aG, aV, aP, aM, aW, aH, aX, aQ, az, aN, aY, aZ, au, ↓VD, zP, u, c, d1, Ro, JG, xg]
 simp only [JG, Int.natCast_add, Int.natCast_one]
 first | exact ⟨rfl, rfl, rfl⟩ | trivial | skip
end
end L
namespace L
open PySem PySem.Spec L2 Pk
def Sv (w : Str) : Bool := match cs w with
 | [] => false
 | c :: _ => isIn Pu c
theorem Xp {w : Str} : w = "" ↔ cs w = [] := by
 constructor
 · intro e; subst e; decide +kernel
 · intro e
   have e2 : cs ("" : Str) = [] := by decide +kernel
   exact Str.ext' (Array.toList_inj.mp (e.trans e2.symm))
theorem ag4 {h : Hh} {w : Str} {c : Nat} {r : List Nat} (hl : w.length ≤ 1000) (e : cs w = c :: r) : gJ h (.str w) (.int 0) = some (.str ⟨#[c]⟩) :=
 Sh (a := 0) hl (by rw [e]; rfl)
section
variable {h0 : Hh} {sz : Int} {ws : List Str} {ps : List Int} {sp : Int} {s : Nat} {w : Str}
theorem Rp (hg : zU (uD ws s) = true) (hl : (uD ws s).length ≤ 1000) :
 vZ [.ref h0.length] (TH h0 sz ws ps (s : Nat)) = .ok (.bl (Sv (uD ws s))) [] (TH h0 sz ws ps (s : Nat)) := by
 apply Wp.eq
 have u := Jb (h0 := h0) (sz := sz) (ws := ws) (ps := ps) (s := s)
 generalize uD ws s = w at *
 have c : ∀ h : Hh, uE h (.str w) (.str "") = some (decide (w = "")) := fun h => Gg hg (by decide +kernel)
 unfold Sv
 cases e : cs w with
 | nil =>
   have d1 : decide (w = "") = true := decide_eq_true (Xp.mpr e)
   simp only [↓ou, ↓mU, ↓wp_bind, ↓oM, ↓tZ, ↓sE, ↓oN, ↓iH, ↓nM, ↓oO, ↓rQ, ↓rR, ↓sG, ↓oR, ↓iI, ↓oU, ↓sH, ↓iJ, ↓iK, ↓oV, ↓cU, ↓sJ, ↓cV, ↓cW, ↓oW, ↓oX, ↓iQ, ↓sO, ↓qd, ↓iT, ↓oY, ↓sS, ↓ig, ↓iU, ↓iV, ↓m7, ↓oZ, ↓iW, ↓nO, ↓o5, ↓o7, ↓iY, ↓gU, ↓sU, ↓il, ↓cX, ↓bA, ↓cY, ↓o8, ↓jc, ↓je, ↓jf, ↓jh, ↓ji, ↓jk, ↓jm, ↓bB, ↓jn, ↓jo, ↓jr, ↓j6, ↓qp, ↓jt, ↓ir, ↓ju, ↓jV, ↓nY, ↓nZ, ↓nu, ↓nA, gM, oE, oF, nQ, ie, ue, uf, gR, oG, nH, oH, iG, oJ, oK, nJ, mX, mY, gY, ni, cZ, jP, pX, iZ, ↓km, ↓kE, ↓eO, ↓qu, ↓tK, ↓kJ, ↓kW, ↓oA, ↓lB, ↓lC, ↓qG, ↓qH, ↓qI, ↓qL, ↓lF, ↓eV, ↓tL, ↓eX, ↓lG, ↓lL, ↓lM, ↓fG, ↓fH, ↓fJ, ↓bY, ↓qM, ↓lN, ↓fL, ↓fM, ↓qN, ↓lU, ↓fO, ↓fP, ↓fQ, ↓qO, ↓qP, ↓qQ, ↓qR, ↓lX, ↓fU, ↓bZ, ↓cA, ↓qY, ↓qZ, ↓fY, ↓rA, ↓lZ, ↓mD, ↓mF, ↓fZ, ↓gh, ↓gj, ↓cG, ↓mH, ↓gA, ↓rB, ↓gG, jw, pD, o9, sV, jx, pF, jy, fz_non, jA, pG, ph, sW, pq, sX, jB, pH, jC, pJ, jD, pK, pA, sY, pB, tD, pC, tE, gQ, mV, m9, mW, di, jE, iw, jF, dw, pM, jG, jH, ul, uo, uv, uw, ux, uz, uA, tG, mK, rW, dB, dC, jJ, dD, dF, bD, dG, dH, bF, dI, nR, pN, pO, pP, jK, jL, dJ, tH, jM, pQ, jN, jO, pU, pW, rY, rZ, dR, jQ, dU, bO, dW, bQ, jR, dX, bR, dY, dZ, jT, jU, uh, uR, u6, bU, bV, eE, j7, d8, bT, pZ, qb, jW, d9, jY, jZ, j5, qm, jX, qj, ql, ai6, ai7, ai8, aiY, Int.reduceToNat, bG, bH, dM, bJ, bK, dN, dO, bL, bM, eQ, eU, lD, qJ, qK, Option.isSome_some, Option.isSome_none, lE, Int.reduceEq, beq_self_eq_true, cQ, cR, eY, lH, eZ, fj, fu, lJ, lK, fB, fD, fK, bW, bz, lO, lQ, lV, lW, fV, cC, cD, lY, fX, qT, tM, qU, qW, qX, uB, uC, gq, mG, nj, nU, iy, nW, j8, kh, eG, j9, kY, qw, kZ, lg, qC, lu, lw, lA, qD, qF, startF, aiU, aiW, ai1, ai5, aiV, aiX, ai3, ai4, ai9, aja, ai2, aiZ, ai0, Nat.reduceAdd, Nat.reduceSub, Nat.reduceLeDiff, Nat.reduceLT, Nat.zero_add, and_true, true_and, and_self, false_and, and_false, not_true_eq_false, not_false_eq_true, eq_self, decide_true, decide_false, Bool.not_true, Bool.not_false, Bool.true_and, Bool.false_and, Bool.and_true, Bool.and_false, Bool.or_true, Bool.or_false, Bool.true_or, Bool.false_or, Option.map_some, Option.map_none, Int.toNat_natCast, ↓reduceIte, Bool.false_eq_true, reduceCtorEq, Int.cast_ofNat_Int, Int.reduceLT, Int.reduceLE, Int.reduceAdd, Int.reduceSub, Int.reduceNeg, Int.natCast_zero, pY, and_assoc, ↓GF, ↓aU, aF, aG, aV, aP, aM, aW, aH, aX, aQ, az, aN, aY, aZ, au, ↓Fp, zP, u, c, d1]
 | cons a r =>
   have d1 : decide (w = "") = false := decide_eq_false fun z => by rw [Xp.mp z] at e; cases e
   have i1 : ∀ h : Hh, gJ h (.str w) (.int 0) = some (.str ⟨#[a]⟩) := fun h => ag4 hl e
   have i2 : ∀ h : Hh, Aj h (.str ⟨#[a]⟩) (.str "0123456789") = some (isIn Pu a) := fun h => rfl
   simp only [↓ou, ↓mU, ↓wp_bind, ↓oM, ↓tZ, ↓sE, ↓oN, ↓iH, ↓nM, ↓oO, ↓rQ, ↓rR, ↓sG, ↓oR, ↓iI, ↓oU, ↓sH, ↓iJ, ↓iK, ↓oV, ↓cU, ↓sJ, ↓cV, ↓cW, ↓oW, ↓oX, ↓iQ, ↓sO, ↓qd, ↓iT, ↓oY, ↓sS, ↓ig, ↓iU, ↓iV, ↓m7, ↓oZ, ↓iW, ↓nO, ↓o5, ↓o7, ↓iY, ↓gU, ↓sU, ↓il, ↓cX, ↓bA, ↓cY, ↓o8, ↓jc, ↓je, ↓jf, ↓jh, ↓ji, ↓jk, ↓jm, ↓bB, ↓jn, ↓jo, ↓jr, ↓j6, ↓qp, ↓jt, ↓ir, ↓ju, ↓jV, ↓nY, ↓nZ, ↓nu, ↓nA, gM, oE, oF, nQ, ie, ue, uf, gR, oG, nH, oH, iG, oJ, oK, nJ, mX, mY, gY, ni, cZ, jP, pX, iZ, ↓km, ↓kE, ↓eO, ↓qu, ↓tK, ↓kJ, ↓kW, ↓oA, ↓lB, ↓lC, ↓qG, ↓qH, ↓qI, ↓qL, ↓lF, ↓eV, ↓tL, ↓eX, ↓lG, ↓lL, ↓lM, ↓fG, ↓fH, ↓fJ, ↓bY, ↓qM, ↓lN, ↓fL, ↓fM, ↓qN, ↓lU, ↓fO, ↓fP, ↓fQ, ↓qO, ↓qP, ↓qQ, ↓qR, ↓lX, ↓fU, ↓bZ, ↓cA, ↓qY, ↓qZ, ↓fY, ↓rA, ↓lZ, ↓mD, ↓mF, ↓fZ, ↓gh, ↓gj, ↓cG, ↓mH, ↓gA, ↓rB, ↓gG, jw, pD, o9, sV, jx, pF, jy, fz_non, jA, pG, ph, sW, pq, sX, jB, pH, jC, pJ, jD, pK, pA, sY, pB, tD, pC, tE, gQ, mV, m9, mW, di, jE, iw, jF, dw, pM, jG, jH, ul, uo, uv, uw, ux, uz, uA, tG, mK, rW, dB, dC, jJ, dD, dF, bD, dG, dH, bF, dI, nR, pN, pO, pP, jK, jL, dJ, tH, jM, pQ, jN, jO, pU, pW, rY, rZ, dR, jQ, dU, bO, dW, bQ, jR, dX, bR, dY, dZ, jT, jU, uh, uR, u6, bU, bV, eE, j7, d8, bT, pZ, qb, jW, d9, jY, jZ, j5, qm, jX, qj, ql, ai6, ai7, ai8, aiY, Int.reduceToNat, bG, bH, dM, bJ, bK, dN, dO, bL, bM, eQ, eU, lD, qJ, qK, Option.isSome_some, Option.isSome_none, lE, Int.reduceEq, beq_self_eq_true, cQ, cR, eY, lH, eZ, fj, fu, lJ, lK, fB, fD, fK, bW, bz, lO, lQ, lV, lW, fV, cC, cD, lY, fX, qT, tM, qU, qW, qX, uB, uC, gq, mG, nj, nU, iy, nW, j8, kh, eG, j9, kY, qw, kZ, lg, qC, lu, lw, lA, qD, qF, startF, aiU, aiW, ai1, ai5, aiV, aiX, ai3, ai4, ai9, aja, ai2, aiZ, ai0, Nat.reduceAdd, Nat.reduceSub, Nat.reduceLeDiff, Nat.reduceLT, Nat.zero_add, and_true, true_and, and_self, false_and, and_false, not_true_eq_false, not_false_eq_true, eq_self, decide_true, decide_false, Bool.not_true, Bool.not_false, Bool.true_and, Bool.false_and, Bool.and_true, Bool.and_false, Bool.or_true, Bool.or_false, Bool.true_or, Bool.false_or, Option.map_some, Option.map_none, Int.toNat_natCast, ↓reduceIte, Bool.false_eq_true, reduceCtorEq, Int.cast_ofNat_Int, Int.reduceLT, Int.reduceLE, Int.reduceAdd, Int.reduceSub, Int.reduceNeg, Int.natCast_zero, pY, and_assoc, ↓GF, ↓aU, aF, aG, aV, aP, aM, aW, aH, aX, aQ, az, aN, aY, aZ, au, ↓Fp, zP, u, c, d1, i1, i2]
theorem Rr {low high v : Int} {c : Nat} {r : List Nat} (hg : zU (uD ws s) = true) (h7 : (uD ws s).length ≤ 7) (hc : cs (uD ws s) = c :: r) (hz : c ≠ 48 ∨ (uD ws s).length ≤ 1) (hv : PySem.intText? (uD ws s) = some v) (h1 : low ≤ v) (h2 : v ≤ high) :
 xU [.ref h0.length, .int low, .int high] (TH h0 sz ws ps (s : Nat)) = .ok (.int v) [] (TH h0 sz ws ps ((s + 1 : Nat) : Int)) := by
 apply Wp.eq
 have u := Jb (h0 := h0) (sz := sz) (ws := ws) (ps := ps) (s := s)
 generalize uD ws s = w at *
 have hl : ∀ h : Hh, vh h (.str w) = some (.int (w.length : Nat)) := fun h => by rw [Xb (by omega), Hn]
 have hi : ∀ h : Hh, yo h (.str w) = some (.int v) := fun h => by
  show (if w.length ≤ 640 then (PySem.intText? w).map D.int else none) = _
  rw [if_pos (by omega), hv]
  rfl
 have i1 : ∀ h : Hh, gJ h (.str w) (.int 0) = some (.str ⟨#[c]⟩) := fun h => ag4 (by omega) hc
 have hcg : zU ⟨#[c]⟩ = true := by
  have e : w.cps.all (· < 0x110000) = true := hg
  rw [Array.all_eq_true'] at e
  have : c ∈ w.cps := Array.mem_toList_iff.mp (by show c ∈ cs w; rw [hc]; exact ajb)
  show (#[c] : Array Nat).all _ = true
  simp [of_decide_eq_true (e c this)]
 have i2 : ∀ h : Hh, uE h (.str ⟨#[c]⟩) (.str "0") = some (decide ((⟨#[c]⟩ : Str) = "0")) := fun h => Gg hcg (by decide +kernel)
 have d7 : decide ((7 : Int) < (w.length : Nat)) = false := decide_eq_false (by omega)
 have dl : decide (low ≤ v) = true := decide_eq_true h1
 have dh : decide (v ≤ high) = true := decide_eq_true h2
 by_cases c48 : c = 48
 · have d2 : decide ((⟨#[c]⟩ : Str) = "0") = true := by subst c48; exact decide_eq_true (by decide +kernel)
   have d3 : decide ((1 : Int) < (w.length : Nat)) = false := decide_eq_false (by rcases hz with z | z; exact absurd c48 z; omega)
   simp only [↓ou, ↓mU, ↓wp_bind, ↓oM, ↓tZ, ↓sE, ↓oN, ↓iH, ↓nM, ↓oO, ↓rQ, ↓rR, ↓sG, ↓oR, ↓iI, ↓oU, ↓sH, ↓iJ, ↓iK, ↓oV, ↓cU, ↓sJ, ↓cV, ↓cW, ↓oW, ↓oX, ↓iQ, ↓sO, ↓qd, ↓iT, ↓oY, ↓sS, ↓ig, ↓iU, ↓iV, ↓m7, ↓oZ, ↓iW, ↓nO, ↓o5, ↓o7, ↓iY, ↓gU, ↓sU, ↓il, ↓cX, ↓bA, ↓cY, ↓o8, ↓jc, ↓je, ↓jf, ↓jh, ↓ji, ↓jk, ↓jm, ↓bB, ↓jn, ↓jo, ↓jr, ↓j6, ↓qp, ↓jt, ↓ir, ↓ju, ↓jV, ↓nY, ↓nZ, ↓nu, ↓nA, gM, oE, oF, nQ, ie, ue, uf, gR, oG, nH, oH, iG, oJ, oK, nJ, mX, mY, gY, ni, cZ, jP, pX, iZ, ↓km, ↓kE, ↓eO, ↓qu, ↓tK, ↓kJ, ↓kW, ↓oA, ↓lB, ↓lC, ↓qG, ↓qH, ↓qI, ↓qL, ↓lF, ↓eV, ↓tL, ↓eX, ↓lG, ↓lL, ↓lM, ↓fG, ↓fH, ↓fJ, ↓bY, ↓qM, ↓lN, ↓fL, ↓fM, ↓qN, ↓lU, ↓fO, ↓fP, ↓fQ, ↓qO, ↓qP, ↓qQ, ↓qR, ↓lX, ↓fU, ↓bZ, ↓cA, ↓qY, ↓qZ, ↓fY, ↓rA, ↓lZ, ↓mD, ↓mF, ↓fZ, ↓gh, ↓gj, ↓cG, ↓mH, ↓gA, ↓rB, ↓gG, jw, pD, o9, sV, jx, pF, jy, fz_non, jA, pG, ph, sW, pq, sX, jB, pH, jC, pJ, jD, pK, pA, sY, pB, tD, pC, tE, gQ, mV, m9, mW, di, jE, iw, jF, dw, pM, jG, jH, ul, uo, uv, uw, ux, uz, uA, tG, mK, rW, dB, dC, jJ, dD, dF, bD, dG, dH, bF, dI, nR, pN, pO, pP, jK, jL, dJ, tH, jM, pQ, jN, jO, pU, pW, rY, rZ, dR, jQ, dU, bO, dW, bQ, jR, dX, bR, dY, dZ, jT, jU, uh, uR, u6, bU, bV, eE, j7, d8, bT, pZ, qb, jW, d9, jY, jZ, j5, qm, jX, qj, ql, ai6, ai7, ai8, aiY, Int.reduceToNat, bG, bH, dM, bJ, bK, dN, dO, bL, bM, eQ, eU, lD, qJ, qK, Option.isSome_some, Option.isSome_none, lE, Int.reduceEq, beq_self_eq_true, cQ, cR, eY, lH, eZ, fj, fu, lJ, lK, fB, fD, fK, bW, bz, lO, lQ, lV, lW, fV, cC, cD, lY, fX, qT, tM, qU, qW, qX, uB, uC, gq, mG, nj, nU, iy, nW, j8, kh, eG, j9, kY, qw, kZ, lg, qC, lu, lw, lA, qD, qF, startF, aiU, aiW, ai1, ai5, aiV, aiX, ai3, ai4, ai9, aja, ai2, aiZ, ai0, Nat.reduceAdd, Nat.reduceSub, Nat.reduceLeDiff, Nat.reduceLT, Nat.zero_add, and_true, true_and, and_self, false_and, and_false, not_true_eq_false, not_false_eq_true, eq_self, decide_true, decide_false, Bool.not_true, Bool.not_false, Bool.true_and, Bool.false_and, Bool.and_true, Bool.and_false, Bool.or_true, Bool.or_false, Bool.true_or, Bool.false_or, Option.map_some, Option.map_none, Int.toNat_natCast, ↓reduceIte, Bool.false_eq_true, reduceCtorEq, Int.cast_ofNat_Int, Int.reduceLT, Int.reduceLE, Int.reduceAdd, Int.reduceSub, Int.reduceNeg, Int.natCast_zero, pY, and_assoc, ↓Hr, ↓Ht, ↓Lq, ↓aU, aF, aG, aV, aP, aM, aW, aH, aX, aQ, az, aN, aY, aZ, au, ↓JQ, zP, u, hl, hi, i1, i2, d7, dl, dh, d2, d3, Ro, JG, xg]
   simp only [JG, Int.natCast_add, Int.natCast_one]
   first | exact ⟨rfl, rfl, rfl⟩ | trivial | skip
 · have d2 : decide ((⟨#[c]⟩ : Str) = "0") = false := decide_eq_false fun z => c48 (by
    have z' : (⟨#[c]⟩ : Str).cps.toList = ("0" : Str).cps.toList := by rw [z]
    have e2 : ("0" : Str).cps.toList = [48] := by decide +kernel
    rw [e2] at z'
    simpa using z')
   simp only [↓ou, ↓mU, ↓wp_bind, ↓oM, ↓tZ, ↓sE, ↓oN, ↓iH, ↓nM, ↓oO, ↓rQ, ↓rR, ↓sG, ↓oR, ↓iI, ↓oU, ↓sH, ↓iJ, ↓iK, ↓oV, ↓cU, ↓sJ, ↓cV, ↓cW, ↓oW, ↓oX, ↓iQ, ↓sO, ↓qd, ↓iT, ↓oY, ↓sS, ↓ig, ↓iU, ↓iV, ↓m7, ↓oZ, ↓iW, ↓nO, ↓o5, ↓o7, ↓iY, ↓gU, ↓sU, ↓il, ↓cX, ↓bA, ↓cY, ↓o8, ↓jc, ↓je, ↓jf, ↓jh, ↓ji, ↓jk, ↓jm, ↓bB, ↓jn, ↓jo, ↓jr, ↓j6, ↓qp, ↓jt, ↓ir, ↓ju, ↓jV, ↓nY, ↓nZ, ↓nu, ↓nA, gM, oE, oF, nQ, ie, ue, uf, gR, oG, nH, oH, iG, oJ, oK, nJ, mX, mY, gY, ni, cZ, jP, pX, iZ, ↓km, ↓kE, ↓eO, ↓qu, ↓tK, ↓kJ, ↓kW, ↓oA, ↓lB, ↓lC, ↓qG, ↓qH, ↓qI, ↓qL, ↓lF, ↓eV, ↓tL, ↓eX, ↓lG, ↓lL, ↓lM, ↓fG, ↓fH, ↓fJ, ↓bY, ↓qM, ↓lN, ↓fL, ↓fM, ↓qN, ↓lU, ↓fO, ↓fP, ↓fQ, ↓qO, ↓qP, ↓qQ, ↓qR, ↓lX, ↓fU, ↓bZ, ↓cA, ↓qY, ↓qZ, ↓fY, ↓rA, ↓lZ, ↓mD, ↓mF, ↓fZ, ↓gh, ↓gj, ↓cG, ↓mH, ↓gA, ↓rB, ↓gG, jw, pD, o9, sV, jx, pF, jy, fz_non, jA, pG, ph, sW, pq, sX, jB, pH, jC, pJ, jD, pK, pA, sY, pB, tD, pC, tE, gQ, mV, m9, mW, di, jE, iw, jF, dw, pM, jG, jH, ul, uo, uv, uw, ux, uz, uA, tG, mK, rW, dB, dC, jJ, dD, dF, bD, dG, dH, bF, dI, nR, pN, pO, pP, jK, jL, dJ, tH, jM, pQ, jN, jO, pU, pW, rY, rZ, dR, jQ, dU, bO, dW, bQ, jR, dX, bR, dY, dZ, jT, jU, uh, uR, u6, bU, bV, eE, j7, d8, bT, pZ, qb, jW, d9, jY, jZ, j5, qm, jX, qj, ql, ai6, ai7, ai8, aiY, Int.reduceToNat, bG, bH, dM, bJ, bK, dN, dO, bL, bM, eQ, eU, lD, qJ, qK, Option.isSome_some, Option.isSome_none, lE, Int.reduceEq, beq_self_eq_true, cQ, cR, eY, lH, eZ, fj, fu, lJ, lK, fB, fD, fK, bW, bz, lO, lQ, lV, lW, fV, cC, cD, lY, fX, qT, tM, qU, qW, qX, uB, uC, gq, mG, nj, nU, iy, nW, j8, kh, eG, j9, kY, qw, kZ, lg, qC, lu, lw, lA, qD, qF, startF, aiU, aiW, ai1, ai5, aiV, aiX, ai3, ai4, ai9, aja, ai2, aiZ, ai0, Nat.reduceAdd, Nat.reduceSub, Nat.reduceLeDiff, Nat.reduceLT, Nat.zero_add, and_true, true_and, and_self, false_and, and_false, not_true_eq_false, not_false_eq_true, eq_self, decide_true, decide_false, Bool.not_true, Bool.not_false, Bool.true_and, Bool.false_and, Bool.and_true, Bool.and_false, Bool.or_true, Bool.or_false, Bool.true_or, Bool.false_or, Option.map_some, Option.map_none, Int.toNat_natCast, ↓reduceIte, Bool.false_eq_true, reduceCtorEq, Int.cast_ofNat_Int, Int.reduceLT, Int.reduceLE, Int.reduceAdd, Int.reduceSub, Int.reduceNeg, Int.natCast_zero, pY, and_assoc, ↓Hr, ↓Ht, ↓Lq, ↓aU, aF, aG, aV, aP, aM, aW, aH, aX, aQ, az, aN, aY, aZ, au, ↓JQ, zP, u, hl, hi, i1, i2, d7, dl, dh, d2, Ro, JG, xg]
   simp only [JG, Int.natCast_add, Int.natCast_one]
   first | exact ⟨rfl, rfl, rfl⟩ | trivial | skip
structure Num (w : Str) (v : Int) : Prop where
 g : zU w = true
 l : w.length ≤ 7
 c : ∃ c r, cs w = c :: r ∧ (c ≠ 48 ∨ w.length ≤ 1) ∧ isIn Pu c = true
 v : PySem.intText? w = some v
theorem Num.sees {v : Int} (n : Num w v) : Sv w = true := by
 obtain ⟨c, r, e, _, h⟩ := n.c
 unfold Sv
 rw [e]
 exact h
theorem ab4 {a b : Int} (hs : uD ws s = "[") (ha : Num (uD ws (s + 1)) a) (hc : uD ws (s + 2) = ":") (hb : Num (uD ws (s + 3)) b) (he : uD ws (s + 4) = "]") (h0a : 0 ≤ a) (hab : a < b) (hbs : b ≤ sz) :
 xr [.ref h0.length] (TH h0 sz ws ps (s : Nat)) = .ok (.tup [.int a, .int b]) [] (TH h0 sz ws ps ((s + 5 : Nat) : Int)) := by
 have k1 := J5 (h0 := h0) (sz := sz) (ws := ws) (ps := ps) (s := s) (w := "[") (by rw [hs]; decide +kernel) (by decide +kernel)
 rw [if_pos hs, decide_eq_true hs] at k1
 have k2 := Rp (h0 := h0) (sz := sz) (ws := ws) (ps := ps) (s := s + 1) ha.g (Nat.le_trans ha.l (by decide))
 rw [ha.sees] at k2
 obtain ⟨c, r, ec, hz, _⟩ := ha.c
 have k3 := Rr (h0 := h0) (sz := sz) (ws := ws) (ps := ps) (s := s + 1) (low := 0) (high := sz - 1) ha.g ha.l ec hz ha.v h0a (by omega)
 have k4 := wD (h0 := h0) (sz := sz) (ws := ws) (ps := ps) (s := s + 2) (al := [":"]) (by rw [hc]; exact ajb)
 have k5 := Rp (h0 := h0) (sz := sz) (ws := ws) (ps := ps) (s := s + 3) hb.g (Nat.le_trans hb.l (by decide))
 rw [hb.sees] at k5
 obtain ⟨c', r', ec', hz', _⟩ := hb.c
 have k6 := Rr (h0 := h0) (sz := sz) (ws := ws) (ps := ps) (s := s + 3) (low := a + 1) (high := sz) hb.g hb.l ec' hz' hb.v (by omega) hbs
 have k7 := wD (h0 := h0) (sz := sz) (ws := ws) (ps := ps) (s := s + 4) (al := ["]"]) (by rw [he]; exact ajb)
 simp only [aiU, aiW] at k4 k7
 apply Wp.eq
 simp only [↓ou, ↓mU, ↓wp_bind, ↓oM, ↓tZ, ↓sE, ↓oN, ↓iH, ↓nM, ↓oO, ↓rQ, ↓rR, ↓sG, ↓oR, ↓iI, ↓oU, ↓sH, ↓iJ, ↓iK, ↓oV, ↓cU, ↓sJ, ↓cV, ↓cW, ↓oW, ↓oX, ↓iQ, ↓sO, ↓qd, ↓iT, ↓oY, ↓sS, ↓ig, ↓iU, ↓iV, ↓m7, ↓oZ, ↓iW, ↓nO, ↓o5, ↓o7, ↓iY, ↓gU, ↓sU, ↓il, ↓cX, ↓bA, ↓cY, ↓o8, ↓jc, ↓je, ↓jf, ↓jh, ↓ji, ↓jk, ↓jm, ↓bB, ↓jn, ↓jo, ↓jr, ↓j6, ↓qp, ↓jt, ↓ir, ↓ju, ↓jV, ↓nY, ↓nZ, ↓nu, ↓nA, gM, oE, oF, nQ, ie, ue, uf, gR, oG, nH, oH, iG, oJ, oK, nJ, mX, mY, gY, ni, cZ, jP, pX, iZ, ↓km, ↓kE, ↓eO, ↓qu, ↓tK, ↓kJ, ↓kW, ↓oA, ↓lB, ↓lC, ↓qG, ↓qH, ↓qI, ↓qL, ↓lF, ↓eV, ↓tL, ↓eX, ↓lG, ↓lL, ↓lM, ↓fG, ↓fH, ↓fJ, ↓bY, ↓qM, ↓lN, ↓fL, ↓fM, ↓qN, ↓lU, ↓fO, ↓fP, ↓fQ, ↓qO, ↓qP, ↓qQ, ↓qR, ↓lX, ↓fU, ↓bZ, ↓cA, ↓qY, ↓qZ, ↓fY, ↓rA, ↓lZ, ↓mD, ↓mF, ↓fZ, ↓gh, ↓gj, ↓cG, ↓mH, ↓gA, ↓rB, ↓gG, jw, pD, o9, sV, jx, pF, jy, fz_non, jA, pG, ph, sW, pq, sX, jB, pH, jC, pJ, jD, pK, pA, sY, pB, tD, pC, tE, gQ, mV, m9, mW, di, jE, iw, jF, dw, pM, jG, jH, ul, uo, uv, uw, ux, uz, uA, tG, mK, rW, dB, dC, jJ, dD, dF, bD, dG, dH, bF, dI, nR, pN, pO, pP, jK, jL, dJ, tH, jM, pQ, jN, jO, pU, pW, rY, rZ, dR, jQ, dU, bO, dW, bQ, jR, dX, bR, dY, dZ, jT, jU, uh, uR, u6, bU, bV, eE, j7, d8, bT, pZ, qb, jW, d9, jY, jZ, j5, qm, jX, qj, ql, ai6, ai7, ai8, aiY, Int.reduceToNat, bG, bH, dM, bJ, bK, dN, dO, bL, bM, eQ, eU, lD, qJ, qK, Option.isSome_some, Option.isSome_none, lE, Int.reduceEq, beq_self_eq_true, cQ, cR, eY, lH, eZ, fj, fu, lJ, lK, fB, fD, fK, bW, bz, lO, lQ, lV, lW, fV, cC, cD, lY, fX, qT, tM, qU, qW, qX, uB, uC, gq, mG, nj, nU, iy, nW, j8, kh, eG, j9, kY, qw, kZ, lg, qC, lu, lw, lA, qD, qF, startF, aiU, aiW, ai1, ai5, aiV, aiX, ai3, ai4, ai9, aja, ai2, aiZ, ai0, Nat.reduceAdd, Nat.reduceSub, Nat.reduceLeDiff, Nat.reduceLT, Nat.zero_add, and_true, true_and, and_self, false_and, and_false, not_true_eq_false, not_false_eq_true, eq_self, decide_true, decide_false, Bool.not_true, Bool.not_false, Bool.true_and, Bool.false_and, Bool.and_true, Bool.and_false, Bool.or_true, Bool.or_false, Bool.true_or, Bool.false_or, Option.map_some, Option.map_none, Int.toNat_natCast, ↓reduceIte, Bool.false_eq_true, reduceCtorEq, Int.cast_ofNat_Int, Int.reduceLT, Int.reduceLE, Int.reduceAdd, Int.reduceSub, Int.reduceNeg, Int.natCast_zero, pY, and_assoc, ↓Vy, ↓Vz, ↓Z4, ↓aU, aF, aG, aV, aP, aM, aW, aH, aX, aQ, az, aN, aY, aZ, au, ↓XJ, zP, afN, k1, k2, k3, k4, k5, k6, k7]
end
end L
namespace L
open PySem PySem.Spec L2 Pk
def fW : List Str := ["raw", "zero", "held"]
def Xc : List Str := ["first", "last", "change", "rises"]
def Sw : List Str := ["first", "last", "top", "low", "change", "rises", "told"]
theorem afO : ∀ m ∈ Xc, zU m = true ∧ m ≠ "events" ∧ m ≠ "sum" := by decide +kernel
theorem aeh : ∀ m ∈ Sw, zU m = true := by decide +kernel
section
variable {h0 : Hh} {sz : Int} {ws : List Str} {ps : List Int} {s : Nat} {a b : Int}
structure SlT (ws : List Str) (s : Nat) (a b sz : Int) : Prop where
 o : uD ws s = "["
 na : Num (uD ws (s + 1)) a
 c : uD ws (s + 2) = ":"
 nb : Num (uD ws (s + 3)) b
 e : uD ws (s + 4) = "]"
 h0a : 0 ≤ a
 hab : a < b
 hbs : b ≤ sz
theorem SlT.spec (t : SlT ws s a b sz) : xr [.ref h0.length] (TH h0 sz ws ps (s : Nat)) = .ok (.tup [.int a, .int b]) [] (TH h0 sz ws ps ((s + 5 : Nat) : Int)) := ab4 t.o t.na t.c t.nb t.e t.h0a t.hab t.hbs
theorem Ru {kind m f : Str} {al : List Str} (hf : uD ws s = f) (hm : f ∈ al) (hl : al.length ≤ 1000) (t : SlT ws (s + 1) a b sz) (e1 : uD ws (s + 6) = ")") (e2 : uD ws (s + 7) = ")") :
 wY [.ref h0.length, .str kind, .str m, .tup (al.map .str)] (TH h0 sz ws ps (s : Nat)) = .ok (.tup [.str "leaf", .str kind, .str m, .str f, .int a, .int b]) [] (TH h0 sz ws ps ((s + 8 : Nat) : Int)) := by
 have k1 := wD (h0 := h0) (sz := sz) (ws := ws) (ps := ps) (s := s) (al := al) (by rw [hf]; exact hm)
 have k2 := t.spec (h0 := h0) (ps := ps)
 have k3 := wD (h0 := h0) (sz := sz) (ws := ws) (ps := ps) (s := s + 6) (al := [")"]) (by rw [e1]; exact ajb)
 have k4 := wD (h0 := h0) (sz := sz) (ws := ws) (ps := ps) (s := s + 7) (al := [")"]) (by rw [e2]; exact ajb)
 rw [hf] at k1
 simp only [aiU, aiW] at k3 k4
 apply Wp.eq
 simp only [↓ou, ↓mU, ↓wp_bind, ↓oM, ↓tZ, ↓sE, ↓oN, ↓iH, ↓nM, ↓oO, ↓rQ, ↓rR, ↓sG, ↓oR, ↓iI, ↓oU, ↓sH, ↓iJ, ↓iK, ↓oV, ↓cU, ↓sJ, ↓cV, ↓cW, ↓oW, ↓oX, ↓iQ, ↓sO, ↓qd, ↓iT, ↓oY, ↓sS, ↓ig, ↓iU, ↓iV, ↓m7, ↓oZ, ↓iW, ↓nO, ↓o5, ↓o7, ↓iY, ↓gU, ↓sU, ↓il, ↓cX, ↓bA, ↓cY, ↓o8, ↓jc, ↓je, ↓jf, ↓jh, ↓ji, ↓jk, ↓jm, ↓bB, ↓jn, ↓jo, ↓jr, ↓j6, ↓qp, ↓jt, ↓ir, ↓ju, ↓jV, ↓nY, ↓nZ, ↓nu, ↓nA, gM, oE, oF, nQ, ie, ue, uf, gR, oG, nH, oH, iG, oJ, oK, nJ, mX, mY, gY, ni, cZ, jP, pX, iZ, ↓km, ↓kE, ↓eO, ↓qu, ↓tK, ↓kJ, ↓kW, ↓oA, ↓lB, ↓lC, ↓qG, ↓qH, ↓qI, ↓qL, ↓lF, ↓eV, ↓tL, ↓eX, ↓lG, ↓lL, ↓lM, ↓fG, ↓fH, ↓fJ, ↓bY, ↓qM, ↓lN, ↓fL, ↓fM, ↓qN, ↓lU, ↓fO, ↓fP, ↓fQ, ↓qO, ↓qP, ↓qQ, ↓qR, ↓lX, ↓fU, ↓bZ, ↓cA, ↓qY, ↓qZ, ↓fY, ↓rA, ↓lZ, ↓mD, ↓mF, ↓fZ, ↓gh, ↓gj, ↓cG, ↓mH, ↓gA, ↓rB, ↓gG, jw, pD, o9, sV, jx, pF, jy, fz_non, jA, pG, ph, sW, pq, sX, jB, pH, jC, pJ, jD, pK, pA, sY, pB, tD, pC, tE, gQ, mV, m9, mW, di, jE, iw, jF, dw, pM, jG, jH, ul, uo, uv, uw, ux, uz, uA, tG, mK, rW, dB, dC, jJ, dD, dF, bD, dG, dH, bF, dI, nR, pN, pO, pP, jK, jL, dJ, tH, jM, pQ, jN, jO, pU, pW, rY, rZ, dR, jQ, dU, bO, dW, bQ, jR, dX, bR, dY, dZ, jT, jU, uh, uR, u6, bU, bV, eE, j7, d8, bT, pZ, qb, jW, d9, jY, jZ, j5, qm, jX, qj, ql, ai6, ai7, ai8, aiY, Int.reduceToNat, bG, bH, dM, bJ, bK, dN, dO, bL, bM, eQ, eU, lD, qJ, qK, Option.isSome_some, Option.isSome_none, lE, Int.reduceEq, beq_self_eq_true, cQ, cR, eY, lH, eZ, fj, fu, lJ, lK, fB, fD, fK, bW, bz, lO, lQ, lV, lW, fV, cC, cD, lY, fX, qT, tM, qU, qW, qX, uB, uC, gq, mG, nj, nU, iy, nW, j8, kh, eG, j9, kY, qw, kZ, lg, qC, lu, lw, lA, qD, qF, startF, aiU, aiW, ai1, ai5, aiV, aiX, ai3, ai4, ai9, aja, ai2, aiZ, ai0, Nat.reduceAdd, Nat.reduceSub, Nat.reduceLeDiff, Nat.reduceLT, Nat.zero_add, and_true, true_and, and_self, false_and, and_false, not_true_eq_false, not_false_eq_true, eq_self, decide_true, decide_false, Bool.not_true, Bool.not_false, Bool.true_and, Bool.false_and, Bool.and_true, Bool.and_false, Bool.or_true, Bool.or_false, Bool.true_or, Bool.false_or, Option.map_some, Option.map_none, Int.toNat_natCast, ↓reduceIte, Bool.false_eq_true, reduceCtorEq, Int.cast_ofNat_Int, Int.reduceLT, Int.reduceLE, Int.reduceAdd, Int.reduceSub, Int.reduceNeg, Int.natCast_zero, pY, and_assoc, ↓Tn, ↓Tp, ↓Tq, ↓WR, ↓aU, aF, aG, aV, aP, aM, aW, aH, aX, aQ, az, aN, aY, aZ, au, ↓VF, zP, k1, k2, k3, k4]
 rw [aje]; exact Nat.le_trans hl (by decide)
theorem afP (h : uD ws s = "events") (t : SlT ws (s + 1) a b sz) : vH [.ref h0.length] (TH h0 sz ws ps (s : Nat)) = .ok (.tup [.str "events", .int a, .int b]) [] (TH h0 sz ws ps ((s + 6 : Nat) : Int)) := by
 have k1 := wD (h0 := h0) (sz := sz) (ws := ws) (ps := ps) (s := s) (al := ["events", "sum", "first", "last", "change", "rises"]) (by rw [h]; exact ajb)
 have k2 := t.spec (h0 := h0) (ps := ps)
 rw [h] at k1
 simp only [aiU, aiW] at k1
 have c1 : ∀ h : Hh, uE h (.str "events") (.str "events") = some true := fun h => (Gg (by decide +kernel) (by decide +kernel)).trans (congrArg some (decide_eq_true rfl))
 apply Wp.eq
 simp only [↓ou, ↓mU, ↓wp_bind, ↓oM, ↓tZ, ↓sE, ↓oN, ↓iH, ↓nM, ↓oO, ↓rQ, ↓rR, ↓sG, ↓oR, ↓iI, ↓oU, ↓sH, ↓iJ, ↓iK, ↓oV, ↓cU, ↓sJ, ↓cV, ↓cW, ↓oW, ↓oX, ↓iQ, ↓sO, ↓qd, ↓iT, ↓oY, ↓sS, ↓ig, ↓iU, ↓iV, ↓m7, ↓oZ, ↓iW, ↓nO, ↓o5, ↓o7, ↓iY, ↓gU, ↓sU, ↓il, ↓cX, ↓bA, ↓cY, ↓o8, ↓jc, ↓je, ↓jf, ↓jh, ↓ji, ↓jk, ↓jm, ↓bB, ↓jn, ↓jo, ↓jr, ↓j6, ↓qp, ↓jt, ↓ir, ↓ju, ↓jV, ↓nY, ↓nZ, ↓nu, ↓nA, gM, oE, oF, nQ, ie, ue, uf, gR, oG, nH, oH, iG, oJ, oK, nJ, mX, mY, gY, ni, cZ, jP, pX, iZ, ↓km, ↓kE, ↓eO, ↓qu, ↓tK, ↓kJ, ↓kW, ↓oA, ↓lB, ↓lC, ↓qG, ↓qH, ↓qI, ↓qL, ↓lF, ↓eV, ↓tL, ↓eX, ↓lG, ↓lL, ↓lM, ↓fG, ↓fH, ↓fJ, ↓bY, ↓qM, ↓lN, ↓fL, ↓fM, ↓qN, ↓lU, ↓fO, ↓fP, ↓fQ, ↓qO, ↓qP, ↓qQ, ↓qR, ↓lX, ↓fU, ↓bZ, ↓cA, ↓qY, ↓qZ, ↓fY, ↓rA, ↓lZ, ↓mD, ↓mF, ↓fZ, ↓gh, ↓gj, ↓cG, ↓mH, ↓gA, ↓rB, ↓gG, jw, pD, o9, sV, jx, pF, jy, fz_non, jA, pG, ph, sW, pq, sX, jB, pH, jC, pJ, jD, pK, pA, sY, pB, tD, pC, tE, gQ, mV, m9, mW, di, jE, iw, jF, dw, pM, jG, jH, ul, uo, uv, uw, ux, uz, uA, tG, mK, rW, dB, dC, jJ, dD, dF, bD, dG, dH, bF, dI, nR, pN, pO, pP, jK, jL, dJ, tH, jM, pQ, jN, jO, pU, pW, rY, rZ, dR, jQ, dU, bO, dW, bQ, jR, dX, bR, dY, dZ, jT, jU, uh, uR, u6, bU, bV, eE, j7, d8, bT, pZ, qb, jW, d9, jY, jZ, j5, qm, jX, qj, ql, ai6, ai7, ai8, aiY, Int.reduceToNat, bG, bH, dM, bJ, bK, dN, dO, bL, bM, eQ, eU, lD, qJ, qK, Option.isSome_some, Option.isSome_none, lE, Int.reduceEq, beq_self_eq_true, cQ, cR, eY, lH, eZ, fj, fu, lJ, lK, fB, fD, fK, bW, bz, lO, lQ, lV, lW, fV, cC, cD, lY, fX, qT, tM, qU, qW, qX, uB, uC, gq, mG, nj, nU, iy, nW, j8, kh, eG, j9, kY, qw, kZ, lg, qC, lu, lw, lA, qD, qF, startF, aiU, aiW, ai1, ai5, aiV, aiX, ai3, ai4, ai9, aja, ai2, aiZ, ai0, Nat.reduceAdd, Nat.reduceSub, Nat.reduceLeDiff, Nat.reduceLT, Nat.zero_add, and_true, true_and, and_self, false_and, and_false, not_true_eq_false, not_false_eq_true, eq_self, decide_true, decide_false, Bool.not_true, Bool.not_false, Bool.true_and, Bool.false_and, Bool.and_true, Bool.and_false, Bool.or_true, Bool.or_false, Bool.true_or, Bool.false_or, Option.map_some, Option.map_none, Int.toNat_natCast, ↓reduceIte, Bool.false_eq_true, reduceCtorEq, Int.cast_ofNat_Int, Int.reduceLT, Int.reduceLE, Int.reduceAdd, Int.reduceSub, Int.reduceNeg, Int.natCast_zero, pY, and_assoc, ↓wu, ↓ww, ↓wy, ↓wz, ↓wA, ↓wB, ↓yr, ↓aU, aF, aG, aV, aP, aM, aW, aH, aX, aQ, az, aN, aY, aZ, au, ↓Hm, zP, yZ, k1, k2, c1]
theorem aei {m f : Str} (hm : m ∈ Xc) (h : uD ws s = m) (h1 : uD ws (s + 1) = "(") (h2 : uD ws (s + 2) = "sum") (h3 : uD ws (s + 3) = "(") (hf : uD ws (s + 4) = f) (hff : f ∈ (["zero", "held"] : List Str)) (t : SlT ws (s + 5) a b sz) (e1 : uD ws (s + 10) = ")") (e2 : uD ws (s + 11) = ")") :
 vH [.ref h0.length] (TH h0 sz ws ps (s : Nat)) = .ok (.tup [.str "leaf", .str "all", .str m, .str f, .int a, .int b]) [] (TH h0 sz ws ps ((s + 12 : Nat) : Int)) := by
 obtain ⟨g, n1, n2⟩ := afO m hm
 have k1 := wD (h0 := h0) (sz := sz) (ws := ws) (ps := ps) (s := s) (al := ["events", "sum", "first", "last", "change", "rises"]) (by rw [h]; exact ajf _ (ajf _ hm))
 have k2 := wD (h0 := h0) (sz := sz) (ws := ws) (ps := ps) (s := s + 1) (al := ["("]) (by rw [h1]; exact ajb)
 have k3 := wD (h0 := h0) (sz := sz) (ws := ws) (ps := ps) (s := s + 2) (al := ["sum"]) (by rw [h2]; exact ajb)
 have k4 := wD (h0 := h0) (sz := sz) (ws := ws) (ps := ps) (s := s + 3) (al := ["("]) (by rw [h3]; exact ajb)
 have k5 := Ru (h0 := h0) (ps := ps) (kind := "all") (m := m) (al := ["zero", "held"]) hf hff (by decide) t e1 e2
 rw [h] at k1
 simp only [aiU, aiW] at k1 k2 k3 k4 k5
 have c1 : ∀ h : Hh, uE h (.str m) (.str "events") = some false := fun h => (Gg g (by decide +kernel)).trans (congrArg some (decide_eq_false n1))
 have c2 : ∀ h : Hh, uE h (.str m) (.str "sum") = some false := fun h => (Gg g (by decide +kernel)).trans (congrArg some (decide_eq_false n2))
 apply Wp.eq
 simp only [↓ou, ↓mU, ↓wp_bind, ↓oM, ↓tZ, ↓sE, ↓oN, ↓iH, ↓nM, ↓oO, ↓rQ, ↓rR, ↓sG, ↓oR, ↓iI, ↓oU, ↓sH, ↓iJ, ↓iK, ↓oV, ↓cU, ↓sJ, ↓cV, ↓cW, ↓oW, ↓oX, ↓iQ, ↓sO, ↓qd, ↓iT, ↓oY, ↓sS, ↓ig, ↓iU, ↓iV, ↓m7, ↓oZ, ↓iW, ↓nO, ↓o5, ↓o7, ↓iY, ↓gU, ↓sU, ↓il, ↓cX, ↓bA, ↓cY, ↓o8, ↓jc, ↓je, ↓jf, ↓jh, ↓ji, ↓jk, ↓jm, ↓bB, ↓jn, ↓jo, ↓jr, ↓j6, ↓qp, ↓jt, ↓ir, ↓ju, ↓jV, ↓nY, ↓nZ, ↓nu, ↓nA, gM, oE, oF, nQ, ie, ue, uf, gR, oG, nH, oH, iG, oJ, oK, nJ, mX, mY, gY, ni, cZ, jP, pX, iZ, ↓km, ↓kE, ↓eO, ↓qu, ↓tK, ↓kJ, ↓kW, ↓oA, ↓lB, ↓lC, ↓qG, ↓qH, ↓qI, ↓qL, ↓lF, ↓eV, ↓tL, ↓eX, ↓lG, ↓lL, ↓lM, ↓fG, ↓fH, ↓fJ, ↓bY, ↓qM, ↓lN, ↓fL, ↓fM, ↓qN, ↓lU, ↓fO, ↓fP, ↓fQ, ↓qO, ↓qP, ↓qQ, ↓qR, ↓lX, ↓fU, ↓bZ, ↓cA, ↓qY, ↓qZ, ↓fY, ↓rA, ↓lZ, ↓mD, ↓mF, ↓fZ, ↓gh, ↓gj, ↓cG, ↓mH, ↓gA, ↓rB, ↓gG, jw, pD, o9, sV, jx, pF, jy, fz_non, jA, pG, ph, sW, pq, sX, jB, pH, jC, pJ, jD, pK, pA, sY, pB, tD, pC, tE, gQ, mV, m9, mW, di, jE, iw, jF, dw, pM, jG, jH, ul, uo, uv, uw, ux, uz, uA, tG, mK, rW, dB, dC, jJ, dD, dF, bD, dG, dH, bF, dI, nR, pN, pO, pP, jK, jL, dJ, tH, jM, pQ, jN, jO, pU, pW, rY, rZ, dR, jQ, dU, bO, dW, bQ, jR, dX, bR, dY, dZ, jT, jU, uh, uR, u6, bU, bV, eE, j7, d8, bT, pZ, qb, jW, d9, jY, jZ, j5, qm, jX, qj, ql, ai6, ai7, ai8, aiY, Int.reduceToNat, bG, bH, dM, bJ, bK, dN, dO, bL, bM, eQ, eU, lD, qJ, qK, Option.isSome_some, Option.isSome_none, lE, Int.reduceEq, beq_self_eq_true, cQ, cR, eY, lH, eZ, fj, fu, lJ, lK, fB, fD, fK, bW, bz, lO, lQ, lV, lW, fV, cC, cD, lY, fX, qT, tM, qU, qW, qX, uB, uC, gq, mG, nj, nU, iy, nW, j8, kh, eG, j9, kY, qw, kZ, lg, qC, lu, lw, lA, qD, qF, startF, aiU, aiW, ai1, ai5, aiV, aiX, ai3, ai4, ai9, aja, ai2, aiZ, ai0, Nat.reduceAdd, Nat.reduceSub, Nat.reduceLeDiff, Nat.reduceLT, Nat.zero_add, and_true, true_and, and_self, false_and, and_false, not_true_eq_false, not_false_eq_true, eq_self, decide_true, decide_false, Bool.not_true, Bool.not_false, Bool.true_and, Bool.false_and, Bool.and_true, Bool.and_false, Bool.or_true, Bool.or_false, Bool.true_or, Bool.false_or, Option.map_some, Option.map_none, Int.toNat_natCast, ↓reduceIte, Bool.false_eq_true, reduceCtorEq, Int.cast_ofNat_Int, Int.reduceLT, Int.reduceLE, Int.reduceAdd, Int.reduceSub, Int.reduceNeg, Int.natCast_zero, pY, and_assoc, ↓wu, ↓ww, ↓wy, ↓wz, ↓wA, ↓wB, ↓yr, ↓aU, aF, aG, aV, aP, aM, aW, aH, aX, aQ, az, aN, aY, aZ, au, ↓Hm, zP, yZ, k1, k2, k3, k4, k5, c1, c2]
theorem acY {m f : Str} (hm : m ∈ Sw) (h : uD ws s = "sum") (h1 : uD ws (s + 1) = "(") (h2 : uD ws (s + 2) = m) (h3 : uD ws (s + 3) = "(") (hf : uD ws (s + 4) = f) (hff : if m = "told" then f = "raw" else f ∈ fW) (t : SlT ws (s + 5) a b sz) (e1 : uD ws (s + 10) = ")") (e2 : uD ws (s + 11) = ")") :
 vH [.ref h0.length] (TH h0 sz ws ps (s : Nat)) = .ok (.tup [.str "leaf", .str "each", .str m, .str f, .int a, .int b]) [] (TH h0 sz ws ps ((s + 12 : Nat) : Int)) := by
 have g := aeh m hm
 have k1 := wD (h0 := h0) (sz := sz) (ws := ws) (ps := ps) (s := s) (al := ["events", "sum", "first", "last", "change", "rises"]) (by rw [h]; exact ajf _ ajb)
 have k2 := wD (h0 := h0) (sz := sz) (ws := ws) (ps := ps) (s := s + 1) (al := ["("]) (by rw [h1]; exact ajb)
 have k3 := wD (h0 := h0) (sz := sz) (ws := ws) (ps := ps) (s := s + 2) (al := Sw) (by rw [h2]; exact hm)
 have k4 := wD (h0 := h0) (sz := sz) (ws := ws) (ps := ps) (s := s + 3) (al := ["("]) (by rw [h3]; exact ajb)
 rw [h] at k1
 rw [h2] at k3
 have c1 : ∀ h : Hh, uE h (.str "sum") (.str "events") = some false := fun h => (Gg (by decide +kernel) (by decide +kernel)).trans (congrArg some (decide_eq_false (by decide +kernel)))
 have c2 : ∀ h : Hh, uE h (.str "sum") (.str "sum") = some true := fun h => (Gg (by decide +kernel) (by decide +kernel)).trans (congrArg some (decide_eq_true rfl))
 have c3 : ∀ h : Hh, uE h (.str m) (.str "told") = some (decide (m = "told")) := fun h => Gg g (by decide +kernel)
 by_cases ht : m = "told"
 · rw [if_pos ht] at hff
   have k5 := Ru (h0 := h0) (ps := ps) (kind := "each") (m := m) (al := ["raw"]) hf (by rw [hff]; exact ajb) (by decide) t e1 e2
   have d1 : decide (m = "told") = true := decide_eq_true ht
   simp only [Sw, aiU, aiW] at k1 k2 k3 k4 k5
   apply Wp.eq
   simp only [↓ou, ↓mU, ↓wp_bind, ↓oM, ↓tZ, ↓sE, ↓oN, ↓iH, ↓nM, ↓oO, ↓rQ, ↓rR, ↓sG, ↓oR, ↓iI, ↓oU, ↓sH, ↓iJ, ↓iK, ↓oV, ↓cU, ↓sJ, ↓cV, ↓cW, ↓oW, ↓oX, ↓iQ, ↓sO, ↓qd, ↓iT, ↓oY, ↓sS, ↓ig, ↓iU, ↓iV, ↓m7, ↓oZ, ↓iW, ↓nO, ↓o5, ↓o7, ↓iY, ↓gU, ↓sU, ↓il, ↓cX, ↓bA, ↓cY, ↓o8, ↓jc, ↓je, ↓jf, ↓jh, ↓ji, ↓jk, ↓jm, ↓bB, ↓jn, ↓jo, ↓jr, ↓j6, ↓qp, ↓jt, ↓ir, ↓ju, ↓jV, ↓nY, ↓nZ, ↓nu, ↓nA, gM, oE, oF, nQ, ie, ue, uf, gR, oG, nH, oH, iG, oJ, oK, nJ, mX, mY, gY, ni, cZ, jP, pX, iZ, ↓km, ↓kE, ↓eO, ↓qu, ↓tK, ↓kJ, ↓kW, ↓oA, ↓lB, ↓lC, ↓qG, ↓qH, ↓qI, ↓qL, ↓lF, ↓eV, ↓tL, ↓eX, ↓lG, ↓lL, ↓lM, ↓fG, ↓fH, ↓fJ, ↓bY, ↓qM, ↓lN, ↓fL, ↓fM, ↓qN, ↓lU, ↓fO, ↓fP, ↓fQ, ↓qO, ↓qP, ↓qQ, ↓qR, ↓lX, ↓fU, ↓bZ, ↓cA, ↓qY, ↓qZ, ↓fY, ↓rA, ↓lZ, ↓mD, ↓mF, ↓fZ, ↓gh, ↓gj, ↓cG, ↓mH, ↓gA, ↓rB, ↓gG, jw, pD, o9, sV, jx, pF, jy, fz_non, jA, pG, ph, sW, pq, sX, jB, pH, jC, pJ, jD, pK, pA, sY, pB, tD, pC, tE, gQ, mV, m9, mW, di, jE, iw, jF, dw, pM, jG, jH, ul, uo, uv, uw, ux, uz, uA, tG, mK, rW, dB, dC, jJ, dD, dF, bD, dG, dH, bF, dI, nR, pN, pO, pP, jK, jL, dJ, tH, jM, pQ, jN, jO, pU, pW, rY, rZ, dR, jQ, dU, bO, dW, bQ, jR, dX, bR, dY, dZ, jT, jU, uh, uR, u6, bU, bV, eE, j7, d8, bT, pZ, qb, jW, d9, jY, jZ, j5, qm, jX, qj, ql, ai6, ai7, ai8, aiY, Int.reduceToNat, bG, bH, dM, bJ, bK, dN, dO, bL, bM, eQ, eU, lD, qJ, qK, Option.isSome_some, Option.isSome_none, lE, Int.reduceEq, beq_self_eq_true, cQ, cR, eY, lH, eZ, fj, fu, lJ, lK, fB, fD, fK, bW, bz, lO, lQ, lV, lW, fV, cC, cD, lY, fX, qT, tM, qU, qW, qX, uB, uC, gq, mG, nj, nU, iy, nW, j8, kh, eG, j9, kY, qw, kZ, lg, qC, lu, lw, lA, qD, qF, startF, aiU, aiW, ai1, ai5, aiV, aiX, ai3, ai4, ai9, aja, ai2, aiZ, ai0, Nat.reduceAdd, Nat.reduceSub, Nat.reduceLeDiff, Nat.reduceLT, Nat.zero_add, and_true, true_and, and_self, false_and, and_false, not_true_eq_false, not_false_eq_true, eq_self, decide_true, decide_false, Bool.not_true, Bool.not_false, Bool.true_and, Bool.false_and, Bool.and_true, Bool.and_false, Bool.or_true, Bool.or_false, Bool.true_or, Bool.false_or, Option.map_some, Option.map_none, Int.toNat_natCast, ↓reduceIte, Bool.false_eq_true, reduceCtorEq, Int.cast_ofNat_Int, Int.reduceLT, Int.reduceLE, Int.reduceAdd, Int.reduceSub, Int.reduceNeg, Int.natCast_zero, pY, and_assoc, ↓wu, ↓ww, ↓wy, ↓wz, ↓wA, ↓wB, ↓yr, ↓aU, aF, aG, aV, aP, aM, aW, aH, aX, aQ, az, aN, aY, aZ, au, ↓Hm, zP, yZ, Dd, k1, k2, k3, k4, k5, c1, c2, c3, d1]
 · rw [if_neg ht] at hff
   have k5 := Ru (h0 := h0) (ps := ps) (kind := "each") (m := m) (al := fW) hf hff (by decide) t e1 e2
   have d1 : decide (m = "told") = false := decide_eq_false ht
   simp only [Sw, fW, aiU, aiW] at k1 k2 k3 k4 k5
   apply Wp.eq
   simp only [↓ou, ↓mU, ↓wp_bind, ↓oM, ↓tZ, ↓sE, ↓oN, ↓iH, ↓nM, ↓oO, ↓rQ, ↓rR, ↓sG, ↓oR, ↓iI, ↓oU, ↓sH, ↓iJ, ↓iK, ↓oV, ↓cU, ↓sJ, ↓cV, ↓cW, ↓oW, ↓oX, ↓iQ, ↓sO, ↓qd, ↓iT, ↓oY, ↓sS, ↓ig, ↓iU, ↓iV, ↓m7, ↓oZ, ↓iW, ↓nO, ↓o5, ↓o7, ↓iY, ↓gU, ↓sU, ↓il, ↓cX, ↓bA, ↓cY, ↓o8, ↓jc, ↓je, ↓jf, ↓jh, ↓ji, ↓jk, ↓jm, ↓bB, ↓jn, ↓jo, ↓jr, ↓j6, ↓qp, ↓jt, ↓ir, ↓ju, ↓jV, ↓nY, ↓nZ, ↓nu, ↓nA, gM, oE, oF, nQ, ie, ue, uf, gR, oG, nH, oH, iG, oJ, oK, nJ, mX, mY, gY, ni, cZ, jP, pX, iZ, ↓km, ↓kE, ↓eO, ↓qu, ↓tK, ↓kJ, ↓kW, ↓oA, ↓lB, ↓lC, ↓qG, ↓qH, ↓qI, ↓qL, ↓lF, ↓eV, ↓tL, ↓eX, ↓lG, ↓lL, ↓lM, ↓fG, ↓fH, ↓fJ, ↓bY, ↓qM, ↓lN, ↓fL, ↓fM, ↓qN, ↓lU, ↓fO, ↓fP, ↓fQ, ↓qO, ↓qP, ↓qQ, ↓qR, ↓lX, ↓fU, ↓bZ, ↓cA, ↓qY, ↓qZ, ↓fY, ↓rA, ↓lZ, ↓mD, ↓mF, ↓fZ, ↓gh, ↓gj, ↓cG, ↓mH, ↓gA, ↓rB, ↓gG, jw, pD, o9, sV, jx, pF, jy, fz_non, jA, pG, ph, sW, pq, sX, jB, pH, jC, pJ, jD, pK, pA, sY, pB, tD, pC, tE, gQ, mV, m9, mW, di, jE, iw, jF, dw, pM, jG, jH, ul, uo, uv, uw, ux, uz, uA, tG, mK, rW, dB, dC, jJ, dD, dF, bD, dG, dH, bF, dI, nR, pN, pO, pP, jK, jL, dJ, tH, jM, pQ, jN, jO, pU, pW, rY, rZ, dR, jQ, dU, bO, dW, bQ, jR, dX, bR, dY, dZ, jT, jU, uh, uR, u6, bU, bV, eE, j7, d8, bT, pZ, qb, jW, d9, jY, jZ, j5, qm, jX, qj, ql, ai6, ai7, ai8, aiY, Int.reduceToNat, bG, bH, dM, bJ, bK, dN, dO, bL, bM, eQ, eU, lD, qJ, qK, Option.isSome_some, Option.isSome_none, lE, Int.reduceEq, beq_self_eq_true, cQ, cR, eY, lH, eZ, fj, fu, lJ, lK, fB, fD, fK, bW, bz, lO, lQ, lV, lW, fV, cC, cD, lY, fX, qT, tM, qU, qW, qX, uB, uC, gq, mG, nj, nU, iy, nW, j8, kh, eG, j9, kY, qw, kZ, lg, qC, lu, lw, lA, qD, qF, startF, aiU, aiW, ai1, ai5, aiV, aiX, ai3, ai4, ai9, aja, ai2, aiZ, ai0, Nat.reduceAdd, Nat.reduceSub, Nat.reduceLeDiff, Nat.reduceLT, Nat.zero_add, and_true, true_and, and_self, false_and, and_false, not_true_eq_false, not_false_eq_true, eq_self, decide_true, decide_false, Bool.not_true, Bool.not_false, Bool.true_and, Bool.false_and, Bool.and_true, Bool.and_false, Bool.or_true, Bool.or_false, Bool.true_or, Bool.false_or, Option.map_some, Option.map_none, Int.toNat_natCast, ↓reduceIte, Bool.false_eq_true, reduceCtorEq, Int.cast_ofNat_Int, Int.reduceLT, Int.reduceLE, Int.reduceAdd, Int.reduceSub, Int.reduceNeg, Int.natCast_zero, pY, and_assoc, ↓wu, ↓ww, ↓wy, ↓wz, ↓wA, ↓wB, ↓yr, ↓aU, aF, aG, aV, aP, aM, aW, aH, aX, aQ, az, aN, aY, aZ, au, ↓Hm, zP, yZ, Dd, k1, k2, k3, k4, k5, c1, c2, c3, d1]
end
end L
namespace L
open PySem PySem.Spec L2 Pk
section
variable {h0 : Hh} {sz : Int} {ws : List Str} {ps : List Int} {s k : Nat} {l : List D}
structure Fst (w : Str) : Prop where
 g : zU w = true
 n : w.length ≤ 1000
 o : w ≠ "("
 a : w ≠ "abs"
 m : w ∉ (["max", "min"] : List Str)
 d : w ≠ "-"
 s : Sv w = false
theorem acZ (hw : Fst (uD ws s)) (hl : vH [.ref h0.length] (TH h0 sz ws ps (s : Nat)) = .ok (.tup l) [] (TH h0 sz ws ps (k : Nat))) : zg [.ref h0.length] (TH h0 sz ws ps (s : Nat)) = .ok (.tup l) [] (TH h0 sz ws ps (k : Nat)) := by
 have k1 := J5 (h0 := h0) (sz := sz) (ws := ws) (ps := ps) (s := s) (w := "(") hw.g (by decide +kernel)
 have k2 := J5 (h0 := h0) (sz := sz) (ws := ws) (ps := ps) (s := s) (w := "abs") hw.g (by decide +kernel)
 rw [if_neg hw.o, decide_eq_false hw.o] at k1
 rw [if_neg hw.a, decide_eq_false hw.a] at k2
 have u := Jb (h0 := h0) (sz := sz) (ws := ws) (ps := ps) (s := s)
 have c1 : ∀ h : Hh, Aj h (.str (uD ws s)) (.tup [.str "max", .str "min"]) = some false := fun h => (ab3 (al := ["max", "min"])).trans (congrArg some (decide_eq_false hw.m))
 apply Wp.eq
 simp only [↓ou, ↓mU, ↓wp_bind, ↓oM, ↓tZ, ↓sE, ↓oN, ↓iH, ↓nM, ↓oO, ↓rQ, ↓rR, ↓sG, ↓oR, ↓iI, ↓oU, ↓sH, ↓iJ, ↓iK, ↓oV, ↓cU, ↓sJ, ↓cV, ↓cW, ↓oW, ↓oX, ↓iQ, ↓sO, ↓qd, ↓iT, ↓oY, ↓sS, ↓ig, ↓iU, ↓iV, ↓m7, ↓oZ, ↓iW, ↓nO, ↓o5, ↓o7, ↓iY, ↓gU, ↓sU, ↓il, ↓cX, ↓bA, ↓cY, ↓o8, ↓jc, ↓je, ↓jf, ↓jh, ↓ji, ↓jk, ↓jm, ↓bB, ↓jn, ↓jo, ↓jr, ↓j6, ↓qp, ↓jt, ↓ir, ↓ju, ↓jV, ↓nY, ↓nZ, ↓nu, ↓nA, gM, oE, oF, nQ, ie, ue, uf, gR, oG, nH, oH, iG, oJ, oK, nJ, mX, mY, gY, ni, cZ, jP, pX, iZ, ↓km, ↓kE, ↓eO, ↓qu, ↓tK, ↓kJ, ↓kW, ↓oA, ↓lB, ↓lC, ↓qG, ↓qH, ↓qI, ↓qL, ↓lF, ↓eV, ↓tL, ↓eX, ↓lG, ↓lL, ↓lM, ↓fG, ↓fH, ↓fJ, ↓bY, ↓qM, ↓lN, ↓fL, ↓fM, ↓qN, ↓lU, ↓fO, ↓fP, ↓fQ, ↓qO, ↓qP, ↓qQ, ↓qR, ↓lX, ↓fU, ↓bZ, ↓cA, ↓qY, ↓qZ, ↓fY, ↓rA, ↓lZ, ↓mD, ↓mF, ↓fZ, ↓gh, ↓gj, ↓cG, ↓mH, ↓gA, ↓rB, ↓gG, jw, pD, o9, sV, jx, pF, jy, fz_non, jA, pG, ph, sW, pq, sX, jB, pH, jC, pJ, jD, pK, pA, sY, pB, tD, pC, tE, gQ, mV, m9, mW, di, jE, iw, jF, dw, pM, jG, jH, ul, uo, uv, uw, ux, uz, uA, tG, mK, rW, dB, dC, jJ, dD, dF, bD, dG, dH, bF, dI, nR, pN, pO, pP, jK, jL, dJ, tH, jM, pQ, jN, jO, pU, pW, rY, rZ, dR, jQ, dU, bO, dW, bQ, jR, dX, bR, dY, dZ, jT, jU, uh, uR, u6, bU, bV, eE, j7, d8, bT, pZ, qb, jW, d9, jY, jZ, j5, qm, jX, qj, ql, ai6, ai7, ai8, aiY, Int.reduceToNat, bG, bH, dM, bJ, bK, dN, dO, bL, bM, eQ, eU, lD, qJ, qK, Option.isSome_some, Option.isSome_none, lE, Int.reduceEq, beq_self_eq_true, cQ, cR, eY, lH, eZ, fj, fu, lJ, lK, fB, fD, fK, bW, bz, lO, lQ, lV, lW, fV, cC, cD, lY, fX, qT, tM, qU, qW, qX, uB, uC, gq, mG, nj, nU, iy, nW, j8, kh, eG, j9, kY, qw, kZ, lg, qC, lu, lw, lA, qD, qF, startF, aiU, aiW, ai1, ai5, aiV, aiX, ai3, ai4, ai9, aja, ai2, aiZ, ai0, Nat.reduceAdd, Nat.reduceSub, Nat.reduceLeDiff, Nat.reduceLT, Nat.zero_add, and_true, true_and, and_self, false_and, and_false, not_true_eq_false, not_false_eq_true, eq_self, decide_true, decide_false, Bool.not_true, Bool.not_false, Bool.true_and, Bool.false_and, Bool.and_true, Bool.and_false, Bool.or_true, Bool.or_false, Bool.true_or, Bool.false_or, Option.map_some, Option.map_none, Int.toNat_natCast, ↓reduceIte, Bool.false_eq_true, reduceCtorEq, Int.cast_ofNat_Int, Int.reduceLT, Int.reduceLE, Int.reduceAdd, Int.reduceSub, Int.reduceNeg, Int.natCast_zero, pY, and_assoc, ↓wu, ↓ww, ↓wy, ↓wz, ↓wA, ↓wB, ↓yr, ↓WY, ↓W0, ↓W3, ↓W4, ↓W6, ↓W7, ↓W8, ↓W9, ↓aao, ↓aU, aF, aG, aV, aP, aM, aW, aH, aX, aQ, az, aN, aY, aZ, au, ↓Z6, zP, k1, k2, u, c1, hl]
theorem aac (hw : Fst (uD ws s)) (hl : vH [.ref h0.length] (TH h0 sz ws ps (s : Nat)) = .ok (.tup l) [] (TH h0 sz ws ps (k : Nat))) : wZ [.ref h0.length, .bl false] (TH h0 sz ws ps (s : Nat)) = .ok (.tup l) [] (TH h0 sz ws ps (k : Nat)) := by
 have k1 := Rp (h0 := h0) (sz := sz) (ws := ws) (ps := ps) (s := s) hw.g hw.n
 rw [hw.s] at k1
 have k2 := acZ hw hl
 apply Wp.eq
 simp only [↓ou, ↓mU, ↓wp_bind, ↓oM, ↓tZ, ↓sE, ↓oN, ↓iH, ↓nM, ↓oO, ↓rQ, ↓rR, ↓sG, ↓oR, ↓iI, ↓oU, ↓sH, ↓iJ, ↓iK, ↓oV, ↓cU, ↓sJ, ↓cV, ↓cW, ↓oW, ↓oX, ↓iQ, ↓sO, ↓qd, ↓iT, ↓oY, ↓sS, ↓ig, ↓iU, ↓iV, ↓m7, ↓oZ, ↓iW, ↓nO, ↓o5, ↓o7, ↓iY, ↓gU, ↓sU, ↓il, ↓cX, ↓bA, ↓cY, ↓o8, ↓jc, ↓je, ↓jf, ↓jh, ↓ji, ↓jk, ↓jm, ↓bB, ↓jn, ↓jo, ↓jr, ↓j6, ↓qp, ↓jt, ↓ir, ↓ju, ↓jV, ↓nY, ↓nZ, ↓nu, ↓nA, gM, oE, oF, nQ, ie, ue, uf, gR, oG, nH, oH, iG, oJ, oK, nJ, mX, mY, gY, ni, cZ, jP, pX, iZ, ↓km, ↓kE, ↓eO, ↓qu, ↓tK, ↓kJ, ↓kW, ↓oA, ↓lB, ↓lC, ↓qG, ↓qH, ↓qI, ↓qL, ↓lF, ↓eV, ↓tL, ↓eX, ↓lG, ↓lL, ↓lM, ↓fG, ↓fH, ↓fJ, ↓bY, ↓qM, ↓lN, ↓fL, ↓fM, ↓qN, ↓lU, ↓fO, ↓fP, ↓fQ, ↓qO, ↓qP, ↓qQ, ↓qR, ↓lX, ↓fU, ↓bZ, ↓cA, ↓qY, ↓qZ, ↓fY, ↓rA, ↓lZ, ↓mD, ↓mF, ↓fZ, ↓gh, ↓gj, ↓cG, ↓mH, ↓gA, ↓rB, ↓gG, jw, pD, o9, sV, jx, pF, jy, fz_non, jA, pG, ph, sW, pq, sX, jB, pH, jC, pJ, jD, pK, pA, sY, pB, tD, pC, tE, gQ, mV, m9, mW, di, jE, iw, jF, dw, pM, jG, jH, ul, uo, uv, uw, ux, uz, uA, tG, mK, rW, dB, dC, jJ, dD, dF, bD, dG, dH, bF, dI, nR, pN, pO, pP, jK, jL, dJ, tH, jM, pQ, jN, jO, pU, pW, rY, rZ, dR, jQ, dU, bO, dW, bQ, jR, dX, bR, dY, dZ, jT, jU, uh, uR, u6, bU, bV, eE, j7, d8, bT, pZ, qb, jW, d9, jY, jZ, j5, qm, jX, qj, ql, ai6, ai7, ai8, aiY, Int.reduceToNat, bG, bH, dM, bJ, bK, dN, dO, bL, bM, eQ, eU, lD, qJ, qK, Option.isSome_some, Option.isSome_none, lE, Int.reduceEq, beq_self_eq_true, cQ, cR, eY, lH, eZ, fj, fu, lJ, lK, fB, fD, fK, bW, bz, lO, lQ, lV, lW, fV, cC, cD, lY, fX, qT, tM, qU, qW, qX, uB, uC, gq, mG, nj, nU, iy, nW, j8, kh, eG, j9, kY, qw, kZ, lg, qC, lu, lw, lA, qD, qF, startF, aiU, aiW, ai1, ai5, aiV, aiX, ai3, ai4, ai9, aja, ai2, aiZ, ai0, Nat.reduceAdd, Nat.reduceSub, Nat.reduceLeDiff, Nat.reduceLT, Nat.zero_add, and_true, true_and, and_self, false_and, and_false, not_true_eq_false, not_false_eq_true, eq_self, decide_true, decide_false, Bool.not_true, Bool.not_false, Bool.true_and, Bool.false_and, Bool.and_true, Bool.and_false, Bool.or_true, Bool.or_false, Bool.true_or, Bool.false_or, Option.map_some, Option.map_none, Int.toNat_natCast, ↓reduceIte, Bool.false_eq_true, reduceCtorEq, Int.cast_ofNat_Int, Int.reduceLT, Int.reduceLE, Int.reduceAdd, Int.reduceSub, Int.reduceNeg, Int.natCast_zero, pY, and_assoc, ↓wu, ↓ww, ↓wy, ↓wz, ↓wA, ↓wB, ↓yr, ↓Tr, ↓Tt, ↓Tu, ↓Xa, ↓aU, aF, aG, aV, aP, aM, aW, aH, aX, aQ, az, aN, aY, aZ, au, ↓VG, zP, k1, k2]
theorem ab5 (hw : Fst (uD ws s)) (hk : uD ws k ∉ (["+", "-"] : List Str)) (hl : vH [.ref h0.length] (TH h0 sz ws ps (s : Nat)) = .ok (.tup l) [] (TH h0 sz ws ps (k : Nat))) : Ai [.ref h0.length] (TH h0 sz ws ps (s : Nat)) = .ok (.tup l) [] (TH h0 sz ws ps (k : Nat)) := by
 have k1 := J5 (h0 := h0) (sz := sz) (ws := ws) (ps := ps) (s := s) (w := "-") hw.g (by decide +kernel)
 rw [if_neg hw.d, decide_eq_false hw.d] at k1
 have k2 := aac hw hl
 have u := Jb (h0 := h0) (sz := sz) (ws := ws) (ps := ps) (s := k)
 have c1 : ∀ h : Hh, Aj h (.str (uD ws k)) (.tup [.str "+", .str "-"]) = some false := fun h => (ab3 (al := ["+", "-"])).trans (congrArg some (decide_eq_false hk))
 apply Wp.eq
 simp only [↓ou, ↓mU, ↓wp_bind, ↓oM, ↓tZ, ↓sE, ↓oN, ↓iH, ↓nM, ↓oO, ↓rQ, ↓rR, ↓sG, ↓oR, ↓iI, ↓oU, ↓sH, ↓iJ, ↓iK, ↓oV, ↓cU, ↓sJ, ↓cV, ↓cW, ↓oW, ↓oX, ↓iQ, ↓sO, ↓qd, ↓iT, ↓oY, ↓sS, ↓ig, ↓iU, ↓iV, ↓m7, ↓oZ, ↓iW, ↓nO, ↓o5, ↓o7, ↓iY, ↓gU, ↓sU, ↓il, ↓cX, ↓bA, ↓cY, ↓o8, ↓jc, ↓je, ↓jf, ↓jh, ↓ji, ↓jk, ↓jm, ↓bB, ↓jn, ↓jo, ↓jr, ↓j6, ↓qp, ↓jt, ↓ir, ↓ju, ↓jV, ↓nY, ↓nZ, ↓nu, ↓nA, gM, oE, oF, nQ, ie, ue, uf, gR, oG, nH, oH, iG, oJ, oK, nJ, mX, mY, gY, ni, cZ, jP, pX, iZ, ↓km, ↓kE, ↓eO, ↓qu, ↓tK, ↓kJ, ↓kW, ↓oA, ↓lB, ↓lC, ↓qG, ↓qH, ↓qI, ↓qL, ↓lF, ↓eV, ↓tL, ↓eX, ↓lG, ↓lL, ↓lM, ↓fG, ↓fH, ↓fJ, ↓bY, ↓qM, ↓lN, ↓fL, ↓fM, ↓qN, ↓lU, ↓fO, ↓fP, ↓fQ, ↓qO, ↓qP, ↓qQ, ↓qR, ↓lX, ↓fU, ↓bZ, ↓cA, ↓qY, ↓qZ, ↓fY, ↓rA, ↓lZ, ↓mD, ↓mF, ↓fZ, ↓gh, ↓gj, ↓cG, ↓mH, ↓gA, ↓rB, ↓gG, jw, pD, o9, sV, jx, pF, jy, fz_non, jA, pG, ph, sW, pq, sX, jB, pH, jC, pJ, jD, pK, pA, sY, pB, tD, pC, tE, gQ, mV, m9, mW, di, jE, iw, jF, dw, pM, jG, jH, ul, uo, uv, uw, ux, uz, uA, tG, mK, rW, dB, dC, jJ, dD, dF, bD, dG, dH, bF, dI, nR, pN, pO, pP, jK, jL, dJ, tH, jM, pQ, jN, jO, pU, pW, rY, rZ, dR, jQ, dU, bO, dW, bQ, jR, dX, bR, dY, dZ, jT, jU, uh, uR, u6, bU, bV, eE, j7, d8, bT, pZ, qb, jW, d9, jY, jZ, j5, qm, jX, qj, ql, ai6, ai7, ai8, aiY, Int.reduceToNat, bG, bH, dM, bJ, bK, dN, dO, bL, bM, eQ, eU, lD, qJ, qK, Option.isSome_some, Option.isSome_none, lE, Int.reduceEq, beq_self_eq_true, cQ, cR, eY, lH, eZ, fj, fu, lJ, lK, fB, fD, fK, bW, bz, lO, lQ, lV, lW, fV, cC, cD, lY, fX, qT, tM, qU, qW, qX, uB, uC, gq, mG, nj, nU, iy, nW, j8, kh, eG, j9, kY, qw, kZ, lg, qC, lu, lw, lA, qD, qF, startF, aiU, aiW, ai1, ai5, aiV, aiX, ai3, ai4, ai9, aja, ai2, aiZ, ai0, Nat.reduceAdd, Nat.reduceSub, Nat.reduceLeDiff, Nat.reduceLT, Nat.zero_add, and_true, true_and, and_self, false_and, and_false, not_true_eq_false, not_false_eq_true, eq_self, decide_true, decide_false, Bool.not_true, Bool.not_false, Bool.true_and, Bool.false_and, Bool.and_true, Bool.and_false, Bool.or_true, Bool.or_false, Bool.true_or, Bool.false_or, Option.map_some, Option.map_none, Int.toNat_natCast, ↓reduceIte, Bool.false_eq_true, reduceCtorEq, Int.cast_ofNat_Int, Int.reduceLT, Int.reduceLE, Int.reduceAdd, Int.reduceSub, Int.reduceNeg, Int.natCast_zero, pY, and_assoc, ↓wu, ↓ww, ↓wy, ↓wz, ↓wA, ↓wB, ↓yr, ↓IW, ↓Ja, ↓Nb, ↓aU, aF, aG, aV, aP, aM, aW, aH, aX, aQ, az, aN, aY, aZ, au, ↓Z7, zP, k1, k2]
 rw [show (60 : Nat) = 59 + 1 from rfl, abS]
 simp only [↓ou, ↓mU, ↓wp_bind, ↓oM, ↓tZ, ↓sE, ↓oN, ↓iH, ↓nM, ↓oO, ↓rQ, ↓rR, ↓sG, ↓oR, ↓iI, ↓oU, ↓sH, ↓iJ, ↓iK, ↓oV, ↓cU, ↓sJ, ↓cV, ↓cW, ↓oW, ↓oX, ↓iQ, ↓sO, ↓qd, ↓iT, ↓oY, ↓sS, ↓ig, ↓iU, ↓iV, ↓m7, ↓oZ, ↓iW, ↓nO, ↓o5, ↓o7, ↓iY, ↓gU, ↓sU, ↓il, ↓cX, ↓bA, ↓cY, ↓o8, ↓jc, ↓je, ↓jf, ↓jh, ↓ji, ↓jk, ↓jm, ↓bB, ↓jn, ↓jo, ↓jr, ↓j6, ↓qp, ↓jt, ↓ir, ↓ju, ↓jV, ↓nY, ↓nZ, ↓nu, ↓nA, gM, oE, oF, nQ, ie, ue, uf, gR, oG, nH, oH, iG, oJ, oK, nJ, mX, mY, gY, ni, cZ, jP, pX, iZ, ↓km, ↓kE, ↓eO, ↓qu, ↓tK, ↓kJ, ↓kW, ↓oA, ↓lB, ↓lC, ↓qG, ↓qH, ↓qI, ↓qL, ↓lF, ↓eV, ↓tL, ↓eX, ↓lG, ↓lL, ↓lM, ↓fG, ↓fH, ↓fJ, ↓bY, ↓qM, ↓lN, ↓fL, ↓fM, ↓qN, ↓lU, ↓fO, ↓fP, ↓fQ, ↓qO, ↓qP, ↓qQ, ↓qR, ↓lX, ↓fU, ↓bZ, ↓cA, ↓qY, ↓qZ, ↓fY, ↓rA, ↓lZ, ↓mD, ↓mF, ↓fZ, ↓gh, ↓gj, ↓cG, ↓mH, ↓gA, ↓rB, ↓gG, jw, pD, o9, sV, jx, pF, jy, fz_non, jA, pG, ph, sW, pq, sX, jB, pH, jC, pJ, jD, pK, pA, sY, pB, tD, pC, tE, gQ, mV, m9, mW, di, jE, iw, jF, dw, pM, jG, jH, ul, uo, uv, uw, ux, uz, uA, tG, mK, rW, dB, dC, jJ, dD, dF, bD, dG, dH, bF, dI, nR, pN, pO, pP, jK, jL, dJ, tH, jM, pQ, jN, jO, pU, pW, rY, rZ, dR, jQ, dU, bO, dW, bQ, jR, dX, bR, dY, dZ, jT, jU, uh, uR, u6, bU, bV, eE, j7, d8, bT, pZ, qb, jW, d9, jY, jZ, j5, qm, jX, qj, ql, ai6, ai7, ai8, aiY, Int.reduceToNat, bG, bH, dM, bJ, bK, dN, dO, bL, bM, eQ, eU, lD, qJ, qK, Option.isSome_some, Option.isSome_none, lE, Int.reduceEq, beq_self_eq_true, cQ, cR, eY, lH, eZ, fj, fu, lJ, lK, fB, fD, fK, bW, bz, lO, lQ, lV, lW, fV, cC, cD, lY, fX, qT, tM, qU, qW, qX, uB, uC, gq, mG, nj, nU, iy, nW, j8, kh, eG, j9, kY, qw, kZ, lg, qC, lu, lw, lA, qD, qF, startF, aiU, aiW, ai1, ai5, aiV, aiX, ai3, ai4, ai9, aja, ai2, aiZ, ai0, Nat.reduceAdd, Nat.reduceSub, Nat.reduceLeDiff, Nat.reduceLT, Nat.zero_add, and_true, true_and, and_self, false_and, and_false, not_true_eq_false, not_false_eq_true, eq_self, decide_true, decide_false, Bool.not_true, Bool.not_false, Bool.true_and, Bool.false_and, Bool.and_true, Bool.and_false, Bool.or_true, Bool.or_false, Bool.true_or, Bool.false_or, Option.map_some, Option.map_none, Int.toNat_natCast, ↓reduceIte, Bool.false_eq_true, reduceCtorEq, Int.cast_ofNat_Int, Int.reduceLT, Int.reduceLE, Int.reduceAdd, Int.reduceSub, Int.reduceNeg, Int.natCast_zero, pY, and_assoc, ↓wu, ↓ww, ↓wy, ↓wz, ↓wA, ↓wB, ↓yr, ↓IW, ↓Ja, ↓Nb, ↓aU, aF, aG, aV, aP, aM, aW, aH, aX, aQ, az, aN, aY, aZ, au, zP, u, c1]
theorem ab6 {z : Str} (hz : z.length ≤ 59) (hg : zU z = true) (hw : Fst (uD ((TK z).map (·.1)) 0)) (hk : uD ((TK z).map (·.1)) k = "")
 (hl : ∀ ps, vH [.ref h0.length] (TH h0 sz ((TK z).map (·.1)) ps (0 : Nat)) = .ok (.tup l) [] (TH h0 sz ((TK z).map (·.1)) ps (k : Nat))) :
 ∃ h', Kh [.str z, .int sz] h0 = .ok (.tup l) [] (h0 ++ h') := by
 have k1 := acV (h0 := h0) (sz := sz) hz hg
 generalize (TK z).map (·.1) = ws at *
 generalize (TK z).map (fun p => (p.2 : Int)) ++ [((cs z).length : Int)] = ps at k1
 have k2 := ab5 (s := 0) hw (by rw [hk]; decide +kernel) (hl ps)
 have u := Jb (h0 := h0) (sz := sz) (ws := ws) (ps := ps) (s := k)
 rw [hk] at u
 have c1 : ∀ h : Hh, uE h (.str "") (.str "") = some true := fun h => (Gg (by decide +kernel) (by decide +kernel)).trans (congrArg some (decide_eq_true rfl))
 have k2' : Ai [.ref h0.length] (TH h0 sz ws ps 0) = .ok (.tup l) [] (TH h0 sz ws ps (k : Nat)) := k2
 refine ⟨_, Wp.eq (?_ : Wp _ (fun d fr h => d = _ ∧ fr = _ ∧ h = h0 ++ [.no 0 [.int sz, .ref (h0.length + 1), .ref (h0.length + 2), .int (k : Nat)], .nl (ws.map .str), .nl (ps.map .int)]) wR)⟩
 simp only [↓ou, ↓mU, ↓wp_bind, ↓oM, ↓tZ, ↓sE, ↓oN, ↓iH, ↓nM, ↓oO, ↓rQ, ↓rR, ↓sG, ↓oR, ↓iI, ↓oU, ↓sH, ↓iJ, ↓iK, ↓oV, ↓cU, ↓sJ, ↓cV, ↓cW, ↓oW, ↓oX, ↓iQ, ↓sO, ↓qd, ↓iT, ↓oY, ↓sS, ↓ig, ↓iU, ↓iV, ↓m7, ↓oZ, ↓iW, ↓nO, ↓o5, ↓o7, ↓iY, ↓gU, ↓sU, ↓il, ↓cX, ↓bA, ↓cY, ↓o8, ↓jc, ↓je, ↓jf, ↓jh, ↓ji, ↓jk, ↓jm, ↓bB, ↓jn, ↓jo, ↓jr, ↓j6, ↓qp, ↓jt, ↓ir, ↓ju, ↓jV, ↓nY, ↓nZ, ↓nu, ↓nA, gM, oE, oF, nQ, ie, ue, uf, gR, oG, nH, oH, iG, oJ, oK, nJ, mX, mY, gY, ni, cZ, jP, pX, iZ, ↓km, ↓kE, ↓eO, ↓qu, ↓tK, ↓kJ, ↓kW, ↓oA, ↓lB, ↓lC, ↓qG, ↓qH, ↓qI, ↓qL, ↓lF, ↓eV, ↓tL, ↓eX, ↓lG, ↓lL, ↓lM, ↓fG, ↓fH, ↓fJ, ↓bY, ↓qM, ↓lN, ↓fL, ↓fM, ↓qN, ↓lU, ↓fO, ↓fP, ↓fQ, ↓qO, ↓qP, ↓qQ, ↓qR, ↓lX, ↓fU, ↓bZ, ↓cA, ↓qY, ↓qZ, ↓fY, ↓rA, ↓lZ, ↓mD, ↓mF, ↓fZ, ↓gh, ↓gj, ↓cG, ↓mH, ↓gA, ↓rB, ↓gG, jw, pD, o9, sV, jx, pF, jy, fz_non, jA, pG, ph, sW, pq, sX, jB, pH, jC, pJ, jD, pK, pA, sY, pB, tD, pC, tE, gQ, mV, m9, mW, di, jE, iw, jF, dw, pM, jG, jH, ul, uo, uv, uw, ux, uz, uA, tG, mK, rW, dB, dC, jJ, dD, dF, bD, dG, dH, bF, dI, nR, pN, pO, pP, jK, jL, dJ, tH, jM, pQ, jN, jO, pU, pW, rY, rZ, dR, jQ, dU, bO, dW, bQ, jR, dX, bR, dY, dZ, jT, jU, uh, uR, u6, bU, bV, eE, j7, d8, bT, pZ, qb, jW, d9, jY, jZ, j5, qm, jX, qj, ql, ai6, ai7, ai8, aiY, Int.reduceToNat, bG, bH, dM, bJ, bK, dN, dO, bL, bM, eQ, eU, lD, qJ, qK, Option.isSome_some, Option.isSome_none, lE, Int.reduceEq, beq_self_eq_true, cQ, cR, eY, lH, eZ, fj, fu, lJ, lK, fB, fD, fK, bW, bz, lO, lQ, lV, lW, fV, cC, cD, lY, fX, qT, tM, qU, qW, qX, uB, uC, gq, mG, nj, nU, iy, nW, j8, kh, eG, j9, kY, qw, kZ, lg, qC, lu, lw, lA, qD, qF, startF, aiU, aiW, ai1, ai5, aiV, aiX, ai3, ai4, ai9, aja, ai2, aiZ, ai0, Nat.reduceAdd, Nat.reduceSub, Nat.reduceLeDiff, Nat.reduceLT, Nat.zero_add, and_true, true_and, and_self, false_and, and_false, not_true_eq_false, not_false_eq_true, eq_self, decide_true, decide_false, Bool.not_true, Bool.not_false, Bool.true_and, Bool.false_and, Bool.and_true, Bool.and_false, Bool.or_true, Bool.or_false, Bool.true_or, Bool.false_or, Option.map_some, Option.map_none, Int.toNat_natCast, ↓reduceIte, Bool.false_eq_true, reduceCtorEq, Int.cast_ofNat_Int, Int.reduceLT, Int.reduceLE, Int.reduceAdd, Int.reduceSub, Int.reduceNeg, Int.natCast_zero, pY, and_assoc, ↓wu, ↓ww, ↓wy, ↓wz, ↓wA, ↓wB, ↓yr, ↓IW, ↓Ja, ↓Nb, ↓ab1, ↓ab2, ↓afJ, ↓aU, aF, aG, aV, aP, aM, aW, aH, aX, aQ, az, aN, aY, aZ, au, ↓aef, k1, k2', zP, u, c1]
 rfl
end
end L
namespace L
open PySem PySem.Spec L2 Pk
inductive Lk where
 | ev (a b : Nat)
 | all (m f : Str) (a b : Nat)
 | each (m f : Str) (a b : Nat)
 deriving DecidableEq
def dg (a : Nat) : Str := toString (a : Int)
def Lk.ldD : Lk → D
 | .ev a b => .tup [.str "events", .int (a : Int), .int (b : Int)]
 | .all m f a b => .tup [.str "all", .str m, .str f, .int (a : Int), .int (b : Int)]
 | .each m f a b => .tup [.str "each", .str m, .str f, .int (a : Int), .int (b : Int)]
def Lk.ndL : Lk → List D
 | .ev a b => [.str "events", .int (a : Int), .int (b : Int)]
 | .all m f a b => [.str "leaf", .str "all", .str m, .str f, .int (a : Int), .int (b : Int)]
 | .each m f a b => [.str "leaf", .str "each", .str m, .str f, .int (a : Int), .int (b : Int)]
def Lk.ndD (l : Lk) : D := .tup l.ndL
def sl (a b : Nat) : Str := "[" ++ dg a ++ ":" ++ dg b ++ "]"
def Lk.txt : Lk → Str
 | .ev a b => "events" ++ sl a b
 | .all m f a b => m ++ "(sum(" ++ f ++ sl a b ++ "))"
 | .each m f a b => "sum(" ++ m ++ "(" ++ f ++ sl a b ++ "))"
def Lk.wsL : Lk → List Str
 | .ev a b => ["events", "[", dg a, ":", dg b, "]"]
 | .all m f a b => [m, "(", "sum", "(", f, "[", dg a, ":", dg b, "]", ")", ")"]
 | .each m f a b => ["sum", "(", m, "(", f, "[", dg a, ":", dg b, "]", ")", ")"]
def Lk.lo : Lk → Nat
 | .ev a _ => a
 | .all _ _ a _ => a
 | .each _ _ a _ => a
def Lk.hi : Lk → Nat
 | .ev _ b => b
 | .all _ _ _ b => b
 | .each _ _ _ b => b
def prs : List (Nat × Nat) := [(0, 1), (0, 2), (0, 3), (0, 4), (1, 2), (1, 3), (1, 4), (2, 3), (2, 4), (3, 4)]
def m6 : List Str := ["first", "last", "top", "low", "change", "rises"]
def Xd (a b : Nat) : List Lk := .ev a b :: ((Xc.flatMap fun m => [.all m "zero" a b, .all m "held" a b]) ++ (m6.flatMap fun m => fW.map fun f => .each m f a b) ++ [.each "told" "raw" a b])
def xH : List Lk := prs.flatMap fun p => Xd p.1 p.2
def Lk.vars : Lk → List Lk
 | .ev a b => [.ev a b]
 | .all m f a b => vr m a b
 | .each m f a b => vr m a b
where vr (m : Str) (a b : Nat) : List Lk := if m = "rises" ∨ m = "told" then [.each "rises" "raw" a b, .each "rises" "zero" a b, .each "rises" "held" a b, .each "told" "raw" a b, .all "rises" "zero" a b, .all "rises" "held" a b]
 else if m = "top" ∨ m = "low" then [.each m "raw" a b, .each m "zero" a b, .each m "held" a b]
 else [.each m "raw" a b, .each m "zero" a b, .each m "held" a b, .all m "zero" a b, .all m "held" a b]
def tm (n : Int) (d : D) : D := .obj 1 [.int n, d]
theorem of_map {α β : Type} {f g : α → β} : ∀ {l : List α}, l.map f = l.map g → ∀ a ∈ l, f a = g a
 | _ :: _, e, a, h => by
   simp only [aiU, List.cons.injEq] at e
   rcases List.mem_cons.mp h with h | h
   · subst h; exact e.1
   · exact of_map e.2 a h
theorem lks_ok : (xH.all fun l => decide (l.txt.length ≤ 59) && zU l.txt && decide ((TK l.txt).map (·.1) = l.wsL)) = true := by decide +kernel
theorem ac0 {h : Hh} : xH.map (fun l => uL [l.ldD] h) = xH.map (fun l => R.ok (D.str l.txt) [] h) := by kernel_rfl
theorem aej {h : Hh} {n : Int} : xH.map (fun l => Bw [tm n l.ndD] h) = xH.map (fun l => R.ok (D.str l.txt) [] h) := by kernel_rfl
theorem aek : (xH.all fun l => l.vars.all fun v => decide (v ∈ xH) && decide (v.lo = l.lo) && decide (v.hi = l.hi)) = true := by decide +kernel
end L
namespace L
open PySem PySem.Spec L2 Pk
theorem ac1 : ∀ a : Nat, a ≤ 4 → Num (dg a) a
 | 0, _ => ⟨by decide +kernel, by decide +kernel, ⟨48, [], by decide +kernel, by decide +kernel, by decide +kernel⟩, by decide +kernel⟩
 | 1, _ => ⟨by decide +kernel, by decide +kernel, ⟨49, [], by decide +kernel, by decide +kernel, by decide +kernel⟩, by decide +kernel⟩
 | 2, _ => ⟨by decide +kernel, by decide +kernel, ⟨50, [], by decide +kernel, by decide +kernel, by decide +kernel⟩, by decide +kernel⟩
 | 3, _ => ⟨by decide +kernel, by decide +kernel, ⟨51, [], by decide +kernel, by decide +kernel, by decide +kernel⟩, by decide +kernel⟩
 | 4, _ => ⟨by decide +kernel, by decide +kernel, ⟨52, [], by decide +kernel, by decide +kernel, by decide +kernel⟩, by decide +kernel⟩
 | a + 5, h => absurd h (by omega)
theorem aad : ∀ w ∈ (["events", "sum", "first", "last", "change", "rises"] : List Str), Fst w := fun w hw => by
 have h : ∀ w ∈ (["events", "sum", "first", "last", "change", "rises"] : List Str), zU w = true ∧ w.length ≤ 1000 ∧ w ≠ "(" ∧ w ≠ "abs" ∧ w ∉ (["max", "min"] : List Str) ∧ w ≠ "-" ∧ Sv w = false := by decide +kernel
 obtain ⟨h1, h2, h3, h4, h5, h6, h7⟩ := h w hw
 exact ⟨h1, h2, h3, h4, h5, h6, h7⟩
def Lk.good : Lk → Bool
 | .ev a b => decide (a < b) && decide (b ≤ 4)
 | .all m f a b => decide (m ∈ Xc) && decide (f ∈ (["zero", "held"] : List Str)) && decide (a < b) && decide (b ≤ 4)
 | .each m f a b => decide (m ∈ Sw) && decide (if m = "told" then f = "raw" else f ∈ fW) && decide (a < b) && decide (b ≤ 4)
theorem ael : (xH.all Lk.good) = true := by decide +kernel
section
variable {h0 : Hh} {n : Nat} {ps : List Int}
theorem slt {ws : List Str} {s a b : Nat} (h1 : uD ws s = "[") (h2 : uD ws (s + 1) = dg a) (h3 : uD ws (s + 2) = ":") (h4 : uD ws (s + 3) = dg b) (h5 : uD ws (s + 4) = "]") (hab : a < b) (hb : b ≤ 4) (hn : b ≤ n) : SlT ws s (a : Int) (b : Int) (n : Int) :=
 ⟨h1, by rw [h2]; exact ac1 a (by omega), h3, by rw [h4]; exact ac1 b hb, h5, by omega, by omega, by omega⟩
theorem ac2 {l : Lk} (g : l.good = true) (hn : l.hi ≤ n) : vH [.ref h0.length] (TH h0 n l.wsL ps (0 : Nat)) = .ok (.tup l.ndL) [] (TH h0 n l.wsL ps (l.wsL.length : Nat)) := by
 cases l with
 | ev a b =>
   unfold Lk.good at g
   simp only [Bool.and_eq_true, decide_eq_true_eq] at g
   exact afP (s := 0) rfl (slt rfl rfl rfl rfl rfl g.1 g.2 hn)
 | all m f a b =>
   unfold Lk.good at g
   simp only [Bool.and_eq_true, decide_eq_true_eq] at g
   exact aei (s := 0) g.1.1.1 rfl rfl rfl rfl rfl g.1.1.2 (slt rfl rfl rfl rfl rfl g.1.2 g.2 hn) rfl rfl
 | each m f a b =>
   unfold Lk.good at g
   simp only [Bool.and_eq_true, decide_eq_true_eq] at g
   exact acY (s := 0) g.1.1.1 rfl rfl rfl rfl rfl g.1.1.2 (slt rfl rfl rfl rfl rfl g.1.2 g.2 hn) rfl rfl
theorem aem {l : Lk} (g : l.good = true) : Fst (uD l.wsL 0) ∧ uD l.wsL l.wsL.length = "" := by
 cases l with
 | ev a b => exact ⟨aad _ (by exact ajb), rfl⟩
 | all m f a b =>
   unfold Lk.good at g
   simp only [Bool.and_eq_true, decide_eq_true_eq] at g
   exact ⟨aad _ (ajf _ (ajf _ g.1.1.1)), rfl⟩
 | each m f a b => exact ⟨aad _ (ajf _ ajb), rfl⟩
theorem ac3 {l : Lk} (hl : l ∈ xH) (hn : l.hi ≤ n) : ∃ h', zJ [.cls 1, .str l.txt, .int (n : Int)] h0 = .ok (.no 1 [.int (n : Int), l.ndD]) [] (h0 ++ h') := by
 have g := List.all_eq_true.mp ael l hl
 have o := List.all_eq_true.mp lks_ok l hl
 simp only [Bool.and_eq_true, decide_eq_true_eq] at o
 obtain ⟨⟨o1, o2⟩, o3⟩ := o
 obtain ⟨f1, f2⟩ := aem g
 obtain ⟨h', e⟩ := ab6 (h0 := h0) (sz := (n : Int)) (k := l.wsL.length) o1 o2 (by rw [o3]; exact f1) (by rw [o3]; exact f2) (fun ps => by rw [o3]; exact ac2 g hn)
 refine ⟨h', ?_⟩
 unfold Lk.ndD
 apply Wp.eq
 simp only [↓ou, ↓mU, ↓wp_bind, ↓oM, ↓tZ, ↓sE, ↓oN, ↓iH, ↓nM, ↓oO, ↓rQ, ↓rR, ↓sG, ↓oR, ↓iI, ↓oU, ↓sH, ↓iJ, ↓iK, ↓oV, ↓cU, ↓sJ, ↓cV, ↓cW, ↓oW, ↓oX, ↓iQ, ↓sO, ↓qd, ↓iT, ↓oY, ↓sS, ↓ig, ↓iU, ↓iV, ↓m7, ↓oZ, ↓iW, ↓nO, ↓o5, ↓o7, ↓iY, ↓gU, ↓sU, ↓il, ↓cX, ↓bA, ↓cY, ↓o8, ↓jc, ↓je, ↓jf, ↓jh, ↓ji, ↓jk, ↓jm, ↓bB, ↓jn, ↓jo, ↓jr, ↓j6, ↓qp, ↓jt, ↓ir, ↓ju, ↓jV, ↓nY, ↓nZ, ↓nu, ↓nA, gM, oE, oF, nQ, ie, ue, uf, gR, oG, nH, oH, iG, oJ, oK, nJ, mX, mY, gY, ni, cZ, jP, pX, iZ, ↓km, ↓kE, ↓eO, ↓qu, ↓tK, ↓kJ, ↓kW, ↓oA, ↓lB, ↓lC, ↓qG, ↓qH, ↓qI, ↓qL, ↓lF, ↓eV, ↓tL, ↓eX, ↓lG, ↓lL, ↓lM, ↓fG, ↓fH, ↓fJ, ↓bY, ↓qM, ↓lN, ↓fL, ↓fM, ↓qN, ↓lU, ↓fO, ↓fP, ↓fQ, ↓qO, ↓qP, ↓qQ, ↓qR, ↓lX, ↓fU, ↓bZ, ↓cA, ↓qY, ↓qZ, ↓fY, ↓rA, ↓lZ, ↓mD, ↓mF, ↓fZ, ↓gh, ↓gj, ↓cG, ↓mH, ↓gA, ↓rB, ↓gG, jw, pD, o9, sV, jx, pF, jy, fz_non, jA, pG, ph, sW, pq, sX, jB, pH, jC, pJ, jD, pK, pA, sY, pB, tD, pC, tE, gQ, mV, m9, mW, di, jE, iw, jF, dw, pM, jG, jH, ul, uo, uv, uw, ux, uz, uA, tG, mK, rW, dB, dC, jJ, dD, dF, bD, dG, dH, bF, dI, nR, pN, pO, pP, jK, jL, dJ, tH, jM, pQ, jN, jO, pU, pW, rY, rZ, dR, jQ, dU, bO, dW, bQ, jR, dX, bR, dY, dZ, jT, jU, uh, uR, u6, bU, bV, eE, j7, d8, bT, pZ, qb, jW, d9, jY, jZ, j5, qm, jX, qj, ql, ai6, ai7, ai8, aiY, Int.reduceToNat, bG, bH, dM, bJ, bK, dN, dO, bL, bM, eQ, eU, lD, qJ, qK, Option.isSome_some, Option.isSome_none, lE, Int.reduceEq, beq_self_eq_true, cQ, cR, eY, lH, eZ, fj, fu, lJ, lK, fB, fD, fK, bW, bz, lO, lQ, lV, lW, fV, cC, cD, lY, fX, qT, tM, qU, qW, qX, uB, uC, gq, mG, nj, nU, iy, nW, j8, kh, eG, j9, kY, qw, kZ, lg, qC, lu, lw, lA, qD, qF, startF, aiU, aiW, ai1, ai5, aiV, aiX, ai3, ai4, ai9, aja, ai2, aiZ, ai0, Nat.reduceAdd, Nat.reduceSub, Nat.reduceLeDiff, Nat.reduceLT, Nat.zero_add, and_true, true_and, and_self, false_and, and_false, not_true_eq_false, not_false_eq_true, eq_self, decide_true, decide_false, Bool.not_true, Bool.not_false, Bool.true_and, Bool.false_and, Bool.and_true, Bool.and_false, Bool.or_true, Bool.or_false, Bool.true_or, Bool.false_or, Option.map_some, Option.map_none, Int.toNat_natCast, ↓reduceIte, Bool.false_eq_true, reduceCtorEq, Int.cast_ofNat_Int, Int.reduceLT, Int.reduceLE, Int.reduceAdd, Int.reduceSub, Int.reduceNeg, Int.natCast_zero, pY, and_assoc, ↓Uy, ↓Z5, ↓aU, aF, aG, aV, aP, aM, aW, aH, aX, aQ, az, aN, aY, aZ, au, ↓XM, ↓Tv, e, xg]
end
end L
namespace L
open PySem PySem.Spec L2 Pk
theorem afQ : ∀ b, b ≤ 4 → ∀ a, a < b → (a, b) ∈ prs := by decide
theorem VL {a b : Nat} {l : Lk} (hab : a < b) (hb : b ≤ 4) (h : l ∈ Xd a b) : l ∈ xH := List.mem_flatMap.mpr ⟨(a, b), afQ b hb a hab, h⟩
theorem ag5 {a b : Nat} : Lk.ev a b ∈ Xd a b := ajb
theorem afR {m f : Str} {a b : Nat} (hm : m ∈ Xc) (hf : f = "zero" ∨ f = "held") : Lk.all m f a b ∈ Xd a b := by
 refine ajf _ (List.mem_append_left _ (List.mem_append_left _ (List.mem_flatMap.mpr ⟨m, hm, ?_⟩)))
 rcases hf with rfl | rfl
 · exact ajb
 · exact ajf _ ajb
theorem aen {m f : Str} {a b : Nat} (hm : m ∈ m6) (hf : f ∈ fW) : Lk.each m f a b ∈ Xd a b :=
 ajf _ (List.mem_append_left _ (List.mem_append_right _ (List.mem_flatMap.mpr ⟨m, hm, List.mem_map.mpr ⟨f, hf, rfl⟩⟩)))
theorem aeo {a b : Nat} : Lk.each "told" "raw" a b ∈ Xd a b := ajf _ (List.mem_append_right _ ajb)
theorem VM {l : List Str} {i : Nat} {d : D} (e : (l.map D.str)[i]? = some d) : ∃ w, w ∈ l ∧ d = .str w := by
 rw [ajm] at e
 cases q : l[i]? with
 | none => rw [q] at e; cases e
 | some w => rw [q] at e; cases e; exact ⟨w, ajj q, rfl⟩
theorem ab7 {h : Hh} {n : Nat} {C : Int} {sz : Nat} (S : Src h n C) (hC : C ≤ 99000) (h2 : 2 ≤ sz) (h4 : sz ≤ 4) :
 ∃ l h', Cr [.ref n, .int (sz : Int)] h = .ok l.ldD [] h' ∧ Src h' n (C + 7) ∧ l ∈ xH ∧ l.hi ≤ sz := by
 obtain ⟨r0, h1, e1, S1, a1, b1⟩ := JF (m := (sz : Int)) S (by omega) (by omega) (by omega)
 obtain ⟨i, d, k1, hi, hd, e2, S2⟩ := Km (l := [.int 0, .int 0, .int r0]) S1 (by omega) (by simp) (by simp)
 obtain ⟨lo, rfl, hlo⟩ : ∃ lo : Nat, d = .int (lo : Int) ∧ lo < sz := by
  match i, hi with
  | 0, _ => cases hd; exact ⟨0, rfl, by omega⟩
  | 1, _ => cases hd; exact ⟨0, rfl, by omega⟩
  | 2, _ => cases hd; exact ⟨r0.toNat, by rw [Int.toNat_of_nonneg a1], by omega⟩
 clear hd hi i
 obtain ⟨r1, h3, e3, S3, a3, b3⟩ := JF (m := (sz : Int) - lo) S2 (by omega) (by omega) (by omega)
 obtain ⟨i, d, k2, hi, hd, e4, S4⟩ := Km (l := [.int (sz : Int), .int ((lo : Int) + 1 + r1)]) S3 (by omega) (by simp) (by simp)
 obtain ⟨hh, rfl, hab, hb⟩ : ∃ hh : Nat, d = .int (hh : Int) ∧ lo < hh ∧ hh ≤ sz := by
  match i, hi with
  | 0, _ => cases hd; exact ⟨sz, rfl, hlo, Nat.le_refl _⟩
  | 1, _ => cases hd; exact ⟨lo + 1 + r1.toNat, by simp only [Int.natCast_add, Int.natCast_one, Int.toNat_of_nonneg a3], by omega, by omega⟩
 clear hd hi i
 obtain ⟨r2, k3, e5, S5, a5, b5⟩ := JF (m := 5) S4 (by omega) (by omega) (by omega)
 by_cases c0 : r2 = 0
 · subst c0
   refine ⟨.ev lo hh, k3, ?_, S5.up (by omega), VL hab (by omega) ag5, hb⟩
   apply Wp.eq
   simp only [↓ou, ↓mU, ↓wp_bind, ↓oM, ↓tZ, ↓sE, ↓oN, ↓iH, ↓nM, ↓oO, ↓rQ, ↓rR, ↓sG, ↓oR, ↓iI, ↓oU, ↓sH, ↓iJ, ↓iK, ↓oV, ↓cU, ↓sJ, ↓cV, ↓cW, ↓oW, ↓oX, ↓iQ, ↓sO, ↓qd, ↓iT, ↓oY, ↓sS, ↓ig, ↓iU, ↓iV, ↓m7, ↓oZ, ↓iW, ↓nO, ↓o5, ↓o7, ↓iY, ↓gU, ↓sU, ↓il, ↓cX, ↓bA, ↓cY, ↓o8, ↓jc, ↓je, ↓jf, ↓jh, ↓ji, ↓jk, ↓jm, ↓bB, ↓jn, ↓jo, ↓jr, ↓j6, ↓qp, ↓jt, ↓ir, ↓ju, ↓jV, ↓nY, ↓nZ, ↓nu, ↓nA, gM, oE, oF, nQ, ie, ue, uf, gR, oG, nH, oH, iG, oJ, oK, nJ, mX, mY, gY, ni, cZ, jP, pX, iZ, ↓km, ↓kE, ↓eO, ↓qu, ↓tK, ↓kJ, ↓kW, ↓oA, ↓lB, ↓lC, ↓qG, ↓qH, ↓qI, ↓qL, ↓lF, ↓eV, ↓tL, ↓eX, ↓lG, ↓lL, ↓lM, ↓fG, ↓fH, ↓fJ, ↓bY, ↓qM, ↓lN, ↓fL, ↓fM, ↓qN, ↓lU, ↓fO, ↓fP, ↓fQ, ↓qO, ↓qP, ↓qQ, ↓qR, ↓lX, ↓fU, ↓bZ, ↓cA, ↓qY, ↓qZ, ↓fY, ↓rA, ↓lZ, ↓mD, ↓mF, ↓fZ, ↓gh, ↓gj, ↓cG, ↓mH, ↓gA, ↓rB, ↓gG, jw, pD, o9, sV, jx, pF, jy, fz_non, jA, pG, ph, sW, pq, sX, jB, pH, jC, pJ, jD, pK, pA, sY, pB, tD, pC, tE, gQ, mV, m9, mW, di, jE, iw, jF, dw, pM, jG, jH, ul, uo, uv, uw, ux, uz, uA, tG, mK, rW, dB, dC, jJ, dD, dF, bD, dG, dH, bF, dI, nR, pN, pO, pP, jK, jL, dJ, tH, jM, pQ, jN, jO, pU, pW, rY, rZ, dR, jQ, dU, bO, dW, bQ, jR, dX, bR, dY, dZ, jT, jU, uh, uR, u6, bU, bV, eE, j7, d8, bT, pZ, qb, jW, d9, jY, jZ, j5, qm, jX, qj, ql, ai6, ai7, ai8, aiY, Int.reduceToNat, bG, bH, dM, bJ, bK, dN, dO, bL, bM, eQ, eU, lD, qJ, qK, Option.isSome_some, Option.isSome_none, lE, Int.reduceEq, beq_self_eq_true, cQ, cR, eY, lH, eZ, fj, fu, lJ, lK, fB, fD, fK, bW, bz, lO, lQ, lV, lW, fV, cC, cD, lY, fX, qT, tM, qU, qW, qX, uB, uC, gq, mG, nj, nU, iy, nW, j8, kh, eG, j9, kY, qw, kZ, lg, qC, lu, lw, lA, qD, qF, startF, aiU, aiW, ai1, ai5, aiV, aiX, ai3, ai4, ai9, aja, ai2, aiZ, ai0, Nat.reduceAdd, Nat.reduceSub, Nat.reduceLeDiff, Nat.reduceLT, Nat.zero_add, and_true, true_and, and_self, false_and, and_false, not_true_eq_false, not_false_eq_true, eq_self, decide_true, decide_false, Bool.not_true, Bool.not_false, Bool.true_and, Bool.false_and, Bool.and_true, Bool.and_false, Bool.or_true, Bool.or_false, Bool.true_or, Bool.false_or, Option.map_some, Option.map_none, Int.toNat_natCast, ↓reduceIte, Bool.false_eq_true, reduceCtorEq, Int.cast_ofNat_Int, Int.reduceLT, Int.reduceLE, Int.reduceAdd, Int.reduceSub, Int.reduceNeg, Int.natCast_zero, pY, and_assoc, ↓uV, ↓uW, ↓uX, ↓uY, ↓uZ, ↓wH, ↓aU, aF, aG, aV, aP, aM, aW, aH, aX, aQ, az, aN, aY, aZ, au, ↓Hl, e1, e2, e3, e4, e5]
   rfl
 · have d0 : ∀ h : Hh, uE h (.int r2) (.int 0) = some false := fun h => (Vh (h := h) Em.int (aaW r2) (aaW 0) trivial trivial (by decide)).trans (congrArg some (decide_eq_false c0))
   by_cases c3 : r2 < 3
   · have d3 : decide (r2 < 3) = true := decide_eq_true c3
     obtain ⟨i, d, k4, hi, hd, e6, S6⟩ := Km (l := (["first", "last", "change", "rises", "rises"] : List Str).map D.str) S5 (by omega) (by decide) (by decide)
     obtain ⟨m, hm, rfl⟩ := VM hd
     obtain ⟨i', d', k5, hi', hd', e7, S7⟩ := Km (l := (["zero", "held"] : List Str).map D.str) S6 (by omega) (by decide) (by decide)
     obtain ⟨f, hf, rfl⟩ := VM hd'
     simp only [aiU, aiW] at e6 e7
     refine ⟨.all m f lo hh, k5, ?_, S7.up (by omega), VL hab (by omega) (afR ?_ ?_), hb⟩
     · apply Wp.eq
       simp only [↓ou, ↓mU, ↓wp_bind, ↓oM, ↓tZ, ↓sE, ↓oN, ↓iH, ↓nM, ↓oO, ↓rQ, ↓rR, ↓sG, ↓oR, ↓iI, ↓oU, ↓sH, ↓iJ, ↓iK, ↓oV, ↓cU, ↓sJ, ↓cV, ↓cW, ↓oW, ↓oX, ↓iQ, ↓sO, ↓qd, ↓iT, ↓oY, ↓sS, ↓ig, ↓iU, ↓iV, ↓m7, ↓oZ, ↓iW, ↓nO, ↓o5, ↓o7, ↓iY, ↓gU, ↓sU, ↓il, ↓cX, ↓bA, ↓cY, ↓o8, ↓jc, ↓je, ↓jf, ↓jh, ↓ji, ↓jk, ↓jm, ↓bB, ↓jn, ↓jo, ↓jr, ↓j6, ↓qp, ↓jt, ↓ir, ↓ju, ↓jV, ↓nY, ↓nZ, ↓nu, ↓nA, gM, oE, oF, nQ, ie, ue, uf, gR, oG, nH, oH, iG, oJ, oK, nJ, mX, mY, gY, ni, cZ, jP, pX, iZ, ↓km, ↓kE, ↓eO, ↓qu, ↓tK, ↓kJ, ↓kW, ↓oA, ↓lB, ↓lC, ↓qG, ↓qH, ↓qI, ↓qL, ↓lF, ↓eV, ↓tL, ↓eX, ↓lG, ↓lL, ↓lM, ↓fG, ↓fH, ↓fJ, ↓bY, ↓qM, ↓lN, ↓fL, ↓fM, ↓qN, ↓lU, ↓fO, ↓fP, ↓fQ, ↓qO, ↓qP, ↓qQ, ↓qR, ↓lX, ↓fU, ↓bZ, ↓cA, ↓qY, ↓qZ, ↓fY, ↓rA, ↓lZ, ↓mD, ↓mF, ↓fZ, ↓gh, ↓gj, ↓cG, ↓mH, ↓gA, ↓rB, ↓gG, jw, pD, o9, sV, jx, pF, jy, fz_non, jA, pG, ph, sW, pq, sX, jB, pH, jC, pJ, jD, pK, pA, sY, pB, tD, pC, tE, gQ, mV, m9, mW, di, jE, iw, jF, dw, pM, jG, jH, ul, uo, uv, uw, ux, uz, uA, tG, mK, rW, dB, dC, jJ, dD, dF, bD, dG, dH, bF, dI, nR, pN, pO, pP, jK, jL, dJ, tH, jM, pQ, jN, jO, pU, pW, rY, rZ, dR, jQ, dU, bO, dW, bQ, jR, dX, bR, dY, dZ, jT, jU, uh, uR, u6, bU, bV, eE, j7, d8, bT, pZ, qb, jW, d9, jY, jZ, j5, qm, jX, qj, ql, ai6, ai7, ai8, aiY, Int.reduceToNat, bG, bH, dM, bJ, bK, dN, dO, bL, bM, eQ, eU, lD, qJ, qK, Option.isSome_some, Option.isSome_none, lE, Int.reduceEq, beq_self_eq_true, cQ, cR, eY, lH, eZ, fj, fu, lJ, lK, fB, fD, fK, bW, bz, lO, lQ, lV, lW, fV, cC, cD, lY, fX, qT, tM, qU, qW, qX, uB, uC, gq, mG, nj, nU, iy, nW, j8, kh, eG, j9, kY, qw, kZ, lg, qC, lu, lw, lA, qD, qF, startF, aiU, aiW, ai1, ai5, aiV, aiX, ai3, ai4, ai9, aja, ai2, aiZ, ai0, Nat.reduceAdd, Nat.reduceSub, Nat.reduceLeDiff, Nat.reduceLT, Nat.zero_add, and_true, true_and, and_self, false_and, and_false, not_true_eq_false, not_false_eq_true, eq_self, decide_true, decide_false, Bool.not_true, Bool.not_false, Bool.true_and, Bool.false_and, Bool.and_true, Bool.and_false, Bool.or_true, Bool.or_false, Bool.true_or, Bool.false_or, Option.map_some, Option.map_none, Int.toNat_natCast, ↓reduceIte, Bool.false_eq_true, reduceCtorEq, Int.cast_ofNat_Int, Int.reduceLT, Int.reduceLE, Int.reduceAdd, Int.reduceSub, Int.reduceNeg, Int.natCast_zero, pY, and_assoc, ↓uV, ↓uW, ↓uX, ↓uY, ↓uZ, ↓wH, ↓aU, aF, aG, aV, aP, aM, aW, aH, aX, aQ, az, aN, aY, aZ, au, ↓Hl, e1, e2, e3, e4, e5, e6, e7, d0, d3]
       rfl
     · exact (show ∀ m ∈ (["first", "last", "change", "rises", "rises"] : List Str), m ∈ Xc by decide +kernel) m hm
     · simp only [List.mem_cons, List.not_mem_nil, or_false] at hf
       exact hf
   · have d3 : decide (r2 < 3) = false := decide_eq_false c3
     obtain ⟨i, d, k4, hi, hd, e6, S6⟩ := Km (l := (["first", "last", "top", "low", "change", "rises", "rises", "told"] : List Str).map D.str) S5 (by omega) (by decide) (by decide)
     obtain ⟨m, hm, rfl⟩ := VM hd
     have hmg : ∀ m ∈ (["first", "last", "top", "low", "change", "rises", "rises", "told"] : List Str), zU m = true ∧ (m = "told" ∨ m ∈ m6) := by decide +kernel
     obtain ⟨g, hm6⟩ := hmg m hm
     have dt : ∀ h : Hh, uE h (.str m) (.str "told") = some (decide (m = "told")) := fun h => Gg g (by decide +kernel)
     simp only [aiU, aiW] at e6
     by_cases ct : m = "told"
     · have d4 : decide (m = "told") = true := decide_eq_true ct
       refine ⟨.each m "raw" lo hh, k4, ?_, S6.up (by omega), VL hab (by omega) (by rw [ct]; exact aeo), hb⟩
       apply Wp.eq
       simp only [↓ou, ↓mU, ↓wp_bind, ↓oM, ↓tZ, ↓sE, ↓oN, ↓iH, ↓nM, ↓oO, ↓rQ, ↓rR, ↓sG, ↓oR, ↓iI, ↓oU, ↓sH, ↓iJ, ↓iK, ↓oV, ↓cU, ↓sJ, ↓cV, ↓cW, ↓oW, ↓oX, ↓iQ, ↓sO, ↓qd, ↓iT, ↓oY, ↓sS, ↓ig, ↓iU, ↓iV, ↓m7, ↓oZ, ↓iW, ↓nO, ↓o5, ↓o7, ↓iY, ↓gU, ↓sU, ↓il, ↓cX, ↓bA, ↓cY, ↓o8, ↓jc, ↓je, ↓jf, ↓jh, ↓ji, ↓jk, ↓jm, ↓bB, ↓jn, ↓jo, ↓jr, ↓j6, ↓qp, ↓jt, ↓ir, ↓ju, ↓jV, ↓nY, ↓nZ, ↓nu, ↓nA, gM, oE, oF, nQ, ie, ue, uf, gR, oG, nH, oH, iG, oJ, oK, nJ, mX, mY, gY, ni, cZ, jP, pX, iZ, ↓km, ↓kE, ↓eO, ↓qu, ↓tK, ↓kJ, ↓kW, ↓oA, ↓lB, ↓lC, ↓qG, ↓qH, ↓qI, ↓qL, ↓lF, ↓eV, ↓tL, ↓eX, ↓lG, ↓lL, ↓lM, ↓fG, ↓fH, ↓fJ, ↓bY, ↓qM, ↓lN, ↓fL, ↓fM, ↓qN, ↓lU, ↓fO, ↓fP, ↓fQ, ↓qO, ↓qP, ↓qQ, ↓qR, ↓lX, ↓fU, ↓bZ, ↓cA, ↓qY, ↓qZ, ↓fY, ↓rA, ↓lZ, ↓mD, ↓mF, ↓fZ, ↓gh, ↓gj, ↓cG, ↓mH, ↓gA, ↓rB, ↓gG, jw, pD, o9, sV, jx, pF, jy, fz_non, jA, pG, ph, sW, pq, sX, jB, pH, jC, pJ, jD, pK, pA, sY, pB, tD, pC, tE, gQ, mV, m9, mW, di, jE, iw, jF, dw, pM, jG, jH, ul, uo, uv, uw, ux, uz, uA, tG, mK, rW, dB, dC, jJ, dD, dF, bD, dG, dH, bF, dI, nR, pN, pO, pP, jK, jL, dJ, tH, jM, pQ, jN, jO, pU, pW, rY, rZ, dR, jQ, dU, bO, dW, bQ, jR, dX, bR, dY, dZ, jT, jU, uh, uR, u6, bU, bV, eE, j7, d8, bT, pZ, qb, jW, d9, jY, jZ, j5, qm, jX, qj, ql, ai6, ai7, ai8, aiY, Int.reduceToNat, bG, bH, dM, bJ, bK, dN, dO, bL, bM, eQ, eU, lD, qJ, qK, Option.isSome_some, Option.isSome_none, lE, Int.reduceEq, beq_self_eq_true, cQ, cR, eY, lH, eZ, fj, fu, lJ, lK, fB, fD, fK, bW, bz, lO, lQ, lV, lW, fV, cC, cD, lY, fX, qT, tM, qU, qW, qX, uB, uC, gq, mG, nj, nU, iy, nW, j8, kh, eG, j9, kY, qw, kZ, lg, qC, lu, lw, lA, qD, qF, startF, aiU, aiW, ai1, ai5, aiV, aiX, ai3, ai4, ai9, aja, ai2, aiZ, ai0, Nat.reduceAdd, Nat.reduceSub, Nat.reduceLeDiff, Nat.reduceLT, Nat.zero_add, and_true, true_and, and_self, false_and, and_false, not_true_eq_false, not_false_eq_true, eq_self, decide_true, decide_false, Bool.not_true, Bool.not_false, Bool.true_and, Bool.false_and, Bool.and_true, Bool.and_false, Bool.or_true, Bool.or_false, Bool.true_or, Bool.false_or, Option.map_some, Option.map_none, Int.toNat_natCast, ↓reduceIte, Bool.false_eq_true, reduceCtorEq, Int.cast_ofNat_Int, Int.reduceLT, Int.reduceLE, Int.reduceAdd, Int.reduceSub, Int.reduceNeg, Int.natCast_zero, pY, and_assoc, ↓uV, ↓uW, ↓uX, ↓uY, ↓uZ, ↓wH, ↓aU, aF, aG, aV, aP, aM, aW, aH, aX, aQ, az, aN, aY, aZ, au, ↓Hl, e1, e2, e3, e4, e5, e6, d0, d3, dt, d4]
       rfl
     · have d4 : decide (m = "told") = false := decide_eq_false ct
       obtain ⟨i', d', k5, hi', hd', e7, S7⟩ := Km (l := fW.map D.str) S6 (by omega) (by decide) (by decide)
       obtain ⟨f, hf, rfl⟩ := VM hd'
       simp only [fW, aiU, aiW] at e7
       refine ⟨.each m f lo hh, k5, ?_, S7.up (by omega), VL hab (by omega) (aen (hm6.resolve_left ct) hf), hb⟩
       apply Wp.eq
       simp only [↓ou, ↓mU, ↓wp_bind, ↓oM, ↓tZ, ↓sE, ↓oN, ↓iH, ↓nM, ↓oO, ↓rQ, ↓rR, ↓sG, ↓oR, ↓iI, ↓oU, ↓sH, ↓iJ, ↓iK, ↓oV, ↓cU, ↓sJ, ↓cV, ↓cW, ↓oW, ↓oX, ↓iQ, ↓sO, ↓qd, ↓iT, ↓oY, ↓sS, ↓ig, ↓iU, ↓iV, ↓m7, ↓oZ, ↓iW, ↓nO, ↓o5, ↓o7, ↓iY, ↓gU, ↓sU, ↓il, ↓cX, ↓bA, ↓cY, ↓o8, ↓jc, ↓je, ↓jf, ↓jh, ↓ji, ↓jk, ↓jm, ↓bB, ↓jn, ↓jo, ↓jr, ↓j6, ↓qp, ↓jt, ↓ir, ↓ju, ↓jV, ↓nY, ↓nZ, ↓nu, ↓nA, gM, oE, oF, nQ, ie, ue, uf, gR, oG, nH, oH, iG, oJ, oK, nJ, mX, mY, gY, ni, cZ, jP, pX, iZ, ↓km, ↓kE, ↓eO, ↓qu, ↓tK, ↓kJ, ↓kW, ↓oA, ↓lB, ↓lC, ↓qG, ↓qH, ↓qI, ↓qL, ↓lF, ↓eV, ↓tL, ↓eX, ↓lG, ↓lL, ↓lM, ↓fG, ↓fH, ↓fJ, ↓bY, ↓qM, ↓lN, ↓fL, ↓fM, ↓qN, ↓lU, ↓fO, ↓fP, ↓fQ, ↓qO, ↓qP, ↓qQ, ↓qR, ↓lX, ↓fU, ↓bZ, ↓cA, ↓qY, ↓qZ, ↓fY, ↓rA, ↓lZ, ↓mD, ↓mF, ↓fZ, ↓gh, ↓gj, ↓cG, ↓mH, ↓gA, ↓rB, ↓gG, jw, pD, o9, sV, jx, pF, jy, fz_non, jA, pG, ph, sW, pq, sX, jB, pH, jC, pJ, jD, pK, pA, sY, pB, tD, pC, tE, gQ, mV, m9, mW, di, jE, iw, jF, dw, pM, jG, jH, ul, uo, uv, uw, ux, uz, uA, tG, mK, rW, dB, dC, jJ, dD, dF, bD, dG, dH, bF, dI, nR, pN, pO, pP, jK, jL, dJ, tH, jM, pQ, jN, jO, pU, pW, rY, rZ, dR, jQ, dU, bO, dW, bQ, jR, dX, bR, dY, dZ, jT, jU, uh, uR, u6, bU, bV, eE, j7, d8, bT, pZ, qb, jW, d9, jY, jZ, j5, qm, jX, qj, ql, ai6, ai7, ai8, aiY, Int.reduceToNat, bG, bH, dM, bJ, bK, dN, dO, bL, bM, eQ, eU, lD, qJ, qK, Option.isSome_some, Option.isSome_none, lE, Int.reduceEq, beq_self_eq_true, cQ, cR, eY, lH, eZ, fj, fu, lJ, lK, fB, fD, fK, bW, bz, lO, lQ, lV, lW, fV, cC, cD, lY, fX, qT, tM, qU, qW, qX, uB, uC, gq, mG, nj, nU, iy, nW, j8, kh, eG, j9, kY, qw, kZ, lg, qC, lu, lw, lA, qD, qF, startF, aiU, aiW, ai1, ai5, aiV, aiX, ai3, ai4, ai9, aja, ai2, aiZ, ai0, Nat.reduceAdd, Nat.reduceSub, Nat.reduceLeDiff, Nat.reduceLT, Nat.zero_add, and_true, true_and, and_self, false_and, and_false, not_true_eq_false, not_false_eq_true, eq_self, decide_true, decide_false, Bool.not_true, Bool.not_false, Bool.true_and, Bool.false_and, Bool.and_true, Bool.and_false, Bool.or_true, Bool.or_false, Bool.true_or, Bool.false_or, Option.map_some, Option.map_none, Int.toNat_natCast, ↓reduceIte, Bool.false_eq_true, reduceCtorEq, Int.cast_ofNat_Int, Int.reduceLT, Int.reduceLE, Int.reduceAdd, Int.reduceSub, Int.reduceNeg, Int.natCast_zero, pY, and_assoc, ↓uV, ↓uW, ↓uX, ↓uY, ↓uZ, ↓wH, ↓aU, aF, aG, aV, aP, aM, aW, aH, aX, aQ, az, aN, aY, aZ, au, ↓Hl, e1, e2, e3, e4, e5, e6, e7, d0, d3, dt, d4]
       rfl
end L
namespace L
open PySem PySem.Spec L2 Pk
theorem aae {h : Hh} {n : Int} : xH.map (fun l => En [tm n l.ndD] h) = xH.map (fun l => R.ok (D.nl (l.vars.map fun v => tm n v.ndD)) [] h) := by kernel_rfl
theorem aep {h : Hh} : xH.map (fun l => l.vars.map fun v => vK [tm 2 v.ndD, tm 2 l.ndD] h) = xH.map (fun l => l.vars.map fun v => R.ok (D.bl (decide (v = l))) [] h) := by kernel_rfl
theorem aeq {h : Hh} : xH.map (fun l => l.vars.map fun v => vK [tm 3 v.ndD, tm 3 l.ndD] h) = xH.map (fun l => l.vars.map fun v => R.ok (D.bl (decide (v = l))) [] h) := by kernel_rfl
theorem aer {h : Hh} : xH.map (fun l => l.vars.map fun v => vK [tm 4 v.ndD, tm 4 l.ndD] h) = xH.map (fun l => l.vars.map fun v => R.ok (D.bl (decide (v = l))) [] h) := by kernel_rfl
theorem aes : (xH.all fun l => decide ((l.vars.filter fun v => decide (v = l)).length = 1)) = true := by decide +kernel
theorem afS {h : Hh} {x0 x1 x2 x3 x5 x6 x7 x8 x9 : Option D} : xH.map (fun l => Jp [9] (Jo (mJ (cJ 1 0 yO (aK []) (aj [(ak 4)]) (aj [])))) Gr Gu Gv [x0, x1, x2, x3, some l.ldD, x5, x6, x7, x8, x9] h) = xH.map (fun l => R.ok (D.nl (l.vars.map fun v => .str v.txt)) [x0, x1, x2, x3, some l.ldD, x5, x6, x7, x8, none] h) := by kernel_rfl
theorem aet : (xH.all fun l => zU l.txt) = true := by decide +kernel
section
variable {h : Hh} {n : Nat} {l v : Lk}
theorem aa5 (hl : l ∈ xH) (hv : v ∈ l.vars) : v ∈ xH := by
 have a := List.all_eq_true.mp (List.all_eq_true.mp aek l hl) v hv
 simp only [Bool.and_eq_true, decide_eq_true_eq] at a
 exact a.1.1
theorem VN (hl : l ∈ xH) : uL [l.ldD] h = .ok (.str l.txt) [] h := of_map ac0 l hl
theorem Xq (hl : l ∈ xH) : Bw [tm n l.ndD] h = .ok (.str l.txt) [] h := of_map aej l hl
theorem XQ (hl : l ∈ xH) : En [tm n l.ndD] h = .ok (.nl (l.vars.map fun v => tm n v.ndD)) [] h := of_map aae l hl
theorem aeu (h2 : 2 ≤ n) (h4 : n ≤ 4) (hl : l ∈ xH) (hv : v ∈ l.vars) : vK [tm n v.ndD, tm n l.ndD] h = .ok (.bl (decide (v = l))) [] h := by
 rcases (by omega : n = 2 ∨ n = 3 ∨ n = 4) with rfl | rfl | rfl
 · exact of_map (of_map (f := fun l : Lk => l.vars.map fun v => vK [tm 2 v.ndD, tm 2 l.ndD] h) aep l hl) v hv
 · exact of_map (of_map (f := fun l : Lk => l.vars.map fun v => vK [tm 3 v.ndD, tm 3 l.ndD] h) aeq l hl) v hv
 · exact of_map (of_map (f := fun l : Lk => l.vars.map fun v => vK [tm 4 v.ndD, tm 4 l.ndD] h) aer l hl) v hv
theorem once (hl : l ∈ xH) : (l.vars.filter fun v => decide (v = l)).length = 1 := of_decide_eq_true (List.all_eq_true.mp aes l hl)
theorem ab8 (hl : l ∈ xH) : zU l.txt = true := List.all_eq_true.mp aet l hl
end
section
variable {n : Nat} {l : List D} {vs : List Nat} {g : D → M Unit} {t : M Bool} {e : M D} {fr : Fr} {h : Hh}
theorem Nh {α : Type} {F G : α → D} {p : α → Bool} (hc : h[n]? = some (.nl l)) : ∀ {xs : List α}, (∀ a ∈ xs, xj vs g t e (F a) fr h = .ok (if p a then some (G a) else none) fr h) → vW n l vs g t e (xs.map F) fr h = .ok ((xs.filter p).map G) fr h
 | [], _ => ZJ hc
 | a :: xs, hx => by
   rw [aiU, Xl hc (hx a ajb) (Nh hc fun b hb => hx b (ajf _ hb)), List.filter_cons]
   cases p a <;> rfl
end
end L
namespace L
open PySem PySem.Spec L2 Pk
section
variable {h : Hh} {n s : Nat} {k : Int} {l : Lk} {S0 : D} {x0 x1 x2 x3 x4 x5 x6 x7 x8 : Option D}
abbrev xJ (n : Nat) (l : Lk) : List D := l.vars.map fun v => tm n v.ndD
abbrev Ho (l : Lk) : List D := l.vars.map fun v => .str v.txt
theorem aev {h : Hh} {r : List D} : Kz QQ (h ++ [.nl r]) (.ref h.length) (.ty "list") = some (.bl true) := by
 have e : (h ++ [D.nl r])[h.length]? = some (.nl r) := JR
 unfold Kz D.tag D.der
 simp only [e, Option.getD_some]
 rfl
theorem afT {h : Hh} {r : List D} : FP (h ++ [.nl r]) (.ref h.length) = some (h.length, r) := by
 have e : (h ++ [D.nl r])[h.length]? = some (.nl r) := JR
 unfold FP
 simp only [e]
theorem afU (hl : l ∈ xH) {fr : Fr} (hf : fr = [x0, x1, x2, x3, x4, x5, x6, x7, x8, none]) : vW h.length (xJ n l) [9] La Ld Le (xJ n l) fr (h ++ [.nl (xJ n l)]) = .ok (Ho l) fr (h ++ [.nl (xJ n l)]) := by
 refine ZK JR fun v hv => ?_
 subst hf
 have t := Xq (h := h ++ [.nl (xJ n l)]) (n := n) (aa5 hl hv)
 unfold tm at *
 apply Wp.eq
 simp only [↓ou, ↓mU, ↓wp_bind, ↓oM, ↓tZ, ↓sE, ↓oN, ↓iH, ↓nM, ↓oO, ↓rQ, ↓rR, ↓sG, ↓oR, ↓iI, ↓oU, ↓sH, ↓iJ, ↓iK, ↓oV, ↓cU, ↓sJ, ↓cV, ↓cW, ↓oW, ↓oX, ↓iQ, ↓sO, ↓qd, ↓iT, ↓oY, ↓sS, ↓ig, ↓iU, ↓iV, ↓m7, ↓oZ, ↓iW, ↓nO, ↓o5, ↓o7, ↓iY, ↓gU, ↓sU, ↓il, ↓cX, ↓bA, ↓cY, ↓o8, ↓jc, ↓je, ↓jf, ↓jh, ↓ji, ↓jk, ↓jm, ↓bB, ↓jn, ↓jo, ↓jr, ↓j6, ↓qp, ↓jt, ↓ir, ↓ju, ↓jV, ↓nY, ↓nZ, ↓nu, ↓nA, gM, oE, oF, nQ, ie, ue, uf, gR, oG, nH, oH, iG, oJ, oK, nJ, mX, mY, gY, ni, cZ, jP, pX, iZ, ↓km, ↓kE, ↓eO, ↓qu, ↓tK, ↓kJ, ↓kW, ↓oA, ↓lB, ↓lC, ↓qG, ↓qH, ↓qI, ↓qL, ↓lF, ↓eV, ↓tL, ↓eX, ↓lG, ↓lL, ↓lM, ↓fG, ↓fH, ↓fJ, ↓bY, ↓qM, ↓lN, ↓fL, ↓fM, ↓qN, ↓lU, ↓fO, ↓fP, ↓fQ, ↓qO, ↓qP, ↓qQ, ↓qR, ↓lX, ↓fU, ↓bZ, ↓cA, ↓qY, ↓qZ, ↓fY, ↓rA, ↓lZ, ↓mD, ↓mF, ↓fZ, ↓gh, ↓gj, ↓cG, ↓mH, ↓gA, ↓rB, ↓gG, jw, pD, o9, sV, jx, pF, jy, fz_non, jA, pG, ph, sW, pq, sX, jB, pH, jC, pJ, jD, pK, pA, sY, pB, tD, pC, tE, gQ, mV, m9, mW, di, jE, iw, jF, dw, pM, jG, jH, ul, uo, uv, uw, ux, uz, uA, tG, mK, rW, dB, dC, jJ, dD, dF, bD, dG, dH, bF, dI, nR, pN, pO, pP, jK, jL, dJ, tH, jM, pQ, jN, jO, pU, pW, rY, rZ, dR, jQ, dU, bO, dW, bQ, jR, dX, bR, dY, dZ, jT, jU, uh, uR, u6, bU, bV, eE, j7, d8, bT, pZ, qb, jW, d9, jY, jZ, j5, qm, jX, qj, ql, ai6, ai7, ai8, aiY, Int.reduceToNat, bG, bH, dM, bJ, bK, dN, dO, bL, bM, eQ, eU, lD, qJ, qK, Option.isSome_some, Option.isSome_none, lE, Int.reduceEq, beq_self_eq_true, cQ, cR, eY, lH, eZ, fj, fu, lJ, lK, fB, fD, fK, bW, bz, lO, lQ, lV, lW, fV, cC, cD, lY, fX, qT, tM, qU, qW, qX, uB, uC, gq, mG, nj, nU, iy, nW, j8, kh, eG, j9, kY, qw, kZ, lg, qC, lu, lw, lA, qD, qF, startF, aiU, aiW, ai1, ai5, aiV, aiX, ai3, ai4, ai9, aja, ai2, aiZ, ai0, Nat.reduceAdd, Nat.reduceSub, Nat.reduceLeDiff, Nat.reduceLT, Nat.zero_add, and_true, true_and, and_self, false_and, and_false, not_true_eq_false, not_false_eq_true, eq_self, decide_true, decide_false, Bool.not_true, Bool.not_false, Bool.true_and, Bool.false_and, Bool.and_true, Bool.and_false, Bool.or_true, Bool.or_false, Bool.true_or, Bool.false_or, Option.map_some, Option.map_none, Int.toNat_natCast, ↓reduceIte, Bool.false_eq_true, reduceCtorEq, Int.cast_ofNat_Int, Int.reduceLT, Int.reduceLE, Int.reduceAdd, Int.reduceSub, Int.reduceNeg, Int.natCast_zero, pY, and_assoc, ↓aU, ↓xV, ↓xW, ↓xX, ↓xY, ↓xZ, ↓yc, ↓ye, ↓yf, ↓yg, ↓yh, ↓yj, ↓ym, ↓vL, ↓vM, ↓xf, ↓vP, ↓v8, ↓u9, ↓vf, ↓vg, ↓wC, ↓Ep, aF, aG, aV, aP, aM, aW, aH, aX, aQ, az, aN, aY, aZ, au, t]
theorem afV (h4 : True) {fr : Fr} (hf : fr = [x0, x1, x2, some (.int (n : Int)), x4, x5, x6, x7, x8, none]) : vW h.length (xJ n l) [9] Iv Iw Iz (xJ n l) fr (h ++ [.nl (xJ n l)]) = .ok [] fr (h ++ [.nl (xJ n l)]) := by
 have e := Nh (n := h.length) (l := xJ n l) (vs := [9]) (g := Iv) (t := Iw) (e := Iz) (fr := fr) (h := h ++ [.nl (xJ n l)]) (F := fun v : Lk => tm n v.ndD) (G := fun v : Lk => tm n v.ndD) (p := fun _ => false) JR (xs := l.vars) fun v hv => by
  subst hf
  have c : ∀ h : Hh, uE h (.int (n : Int)) (.int (n : Int)) = some true := fun h => nR.trans (congrArg some (decide_eq_true rfl))
  unfold tm
  apply Wp.eq
  simp only [↓ou, ↓mU, ↓wp_bind, ↓oM, ↓tZ, ↓sE, ↓oN, ↓iH, ↓nM, ↓oO, ↓rQ, ↓rR, ↓sG, ↓oR, ↓iI, ↓oU, ↓sH, ↓iJ, ↓iK, ↓oV, ↓cU, ↓sJ, ↓cV, ↓cW, ↓oW, ↓oX, ↓iQ, ↓sO, ↓qd, ↓iT, ↓oY, ↓sS, ↓ig, ↓iU, ↓iV, ↓m7, ↓oZ, ↓iW, ↓nO, ↓o5, ↓o7, ↓iY, ↓gU, ↓sU, ↓il, ↓cX, ↓bA, ↓cY, ↓o8, ↓jc, ↓je, ↓jf, ↓jh, ↓ji, ↓jk, ↓jm, ↓bB, ↓jn, ↓jo, ↓jr, ↓j6, ↓qp, ↓jt, ↓ir, ↓ju, ↓jV, ↓nY, ↓nZ, ↓nu, ↓nA, gM, oE, oF, nQ, ie, ue, uf, gR, oG, nH, oH, iG, oJ, oK, nJ, mX, mY, gY, ni, cZ, jP, pX, iZ, ↓km, ↓kE, ↓eO, ↓qu, ↓tK, ↓kJ, ↓kW, ↓oA, ↓lB, ↓lC, ↓qG, ↓qH, ↓qI, ↓qL, ↓lF, ↓eV, ↓tL, ↓eX, ↓lG, ↓lL, ↓lM, ↓fG, ↓fH, ↓fJ, ↓bY, ↓qM, ↓lN, ↓fL, ↓fM, ↓qN, ↓lU, ↓fO, ↓fP, ↓fQ, ↓qO, ↓qP, ↓qQ, ↓qR, ↓lX, ↓fU, ↓bZ, ↓cA, ↓qY, ↓qZ, ↓fY, ↓rA, ↓lZ, ↓mD, ↓mF, ↓fZ, ↓gh, ↓gj, ↓cG, ↓mH, ↓gA, ↓rB, ↓gG, jw, pD, o9, sV, jx, pF, jy, fz_non, jA, pG, ph, sW, pq, sX, jB, pH, jC, pJ, jD, pK, pA, sY, pB, tD, pC, tE, gQ, mV, m9, mW, di, jE, iw, jF, dw, pM, jG, jH, ul, uo, uv, uw, ux, uz, uA, tG, mK, rW, dB, dC, jJ, dD, dF, bD, dG, dH, bF, dI, nR, pN, pO, pP, jK, jL, dJ, tH, jM, pQ, jN, jO, pU, pW, rY, rZ, dR, jQ, dU, bO, dW, bQ, jR, dX, bR, dY, dZ, jT, jU, uh, uR, u6, bU, bV, eE, j7, d8, bT, pZ, qb, jW, d9, jY, jZ, j5, qm, jX, qj, ql, ai6, ai7, ai8, aiY, Int.reduceToNat, bG, bH, dM, bJ, bK, dN, dO, bL, bM, eQ, eU, lD, qJ, qK, Option.isSome_some, Option.isSome_none, lE, Int.reduceEq, beq_self_eq_true, cQ, cR, eY, lH, eZ, fj, fu, lJ, lK, fB, fD, fK, bW, bz, lO, lQ, lV, lW, fV, cC, cD, lY, fX, qT, tM, qU, qW, qX, uB, uC, gq, mG, nj, nU, iy, nW, j8, kh, eG, j9, kY, qw, kZ, lg, qC, lu, lw, lA, qD, qF, startF, aiU, aiW, ai1, ai5, aiV, aiX, ai3, ai4, ai9, aja, ai2, aiZ, ai0, Nat.reduceAdd, Nat.reduceSub, Nat.reduceLeDiff, Nat.reduceLT, Nat.zero_add, and_true, true_and, and_self, false_and, and_false, not_true_eq_false, not_false_eq_true, eq_self, decide_true, decide_false, Bool.not_true, Bool.not_false, Bool.true_and, Bool.false_and, Bool.and_true, Bool.and_false, Bool.or_true, Bool.or_false, Bool.true_or, Bool.false_or, Option.map_some, Option.map_none, Int.toNat_natCast, ↓reduceIte, Bool.false_eq_true, reduceCtorEq, Int.cast_ofNat_Int, Int.reduceLT, Int.reduceLE, Int.reduceAdd, Int.reduceSub, Int.reduceNeg, Int.natCast_zero, pY, and_assoc, ↓aU, ↓xV, ↓xW, ↓xX, ↓xY, ↓xZ, ↓yc, ↓ye, ↓yf, ↓yg, ↓yh, ↓yj, ↓ym, ↓vL, ↓vM, ↓xf, ↓vP, ↓v8, ↓u9, ↓vf, ↓vg, ↓wC, ↓Ep, aF, aG, aV, aP, aM, aW, aH, aX, aQ, az, aN, aY, aZ, au, c]
 rw [e]
 simp
theorem afW (h2 : 2 ≤ n) (h4 : n ≤ 4) (hl : l ∈ xH) {fr : Fr} (hf : fr = [x0, x1, x2, x3, x4, some (tm n l.ndD), x6, x7, x8, none]) : vW h.length (xJ n l) [9] Lf Lg Lh (xJ n l) fr (h ++ [.nl (xJ n l)]) = .ok ((l.vars.filter fun v => decide (v = l)).map fun v => tm n v.ndD) fr (h ++ [.nl (xJ n l)]) := by
 refine Nh JR fun v hv => ?_
 subst hf
 have t := aeu (h := h ++ [.nl (xJ n l)]) h2 h4 hl hv
 unfold tm at *
 apply Wp.eq
 cases hd : decide (v = l) with
 | true =>
   rw [hd] at t
   simp only [↓ou, ↓mU, ↓wp_bind, ↓oM, ↓tZ, ↓sE, ↓oN, ↓iH, ↓nM, ↓oO, ↓rQ, ↓rR, ↓sG, ↓oR, ↓iI, ↓oU, ↓sH, ↓iJ, ↓iK, ↓oV, ↓cU, ↓sJ, ↓cV, ↓cW, ↓oW, ↓oX, ↓iQ, ↓sO, ↓qd, ↓iT, ↓oY, ↓sS, ↓ig, ↓iU, ↓iV, ↓m7, ↓oZ, ↓iW, ↓nO, ↓o5, ↓o7, ↓iY, ↓gU, ↓sU, ↓il, ↓cX, ↓bA, ↓cY, ↓o8, ↓jc, ↓je, ↓jf, ↓jh, ↓ji, ↓jk, ↓jm, ↓bB, ↓jn, ↓jo, ↓jr, ↓j6, ↓qp, ↓jt, ↓ir, ↓ju, ↓jV, ↓nY, ↓nZ, ↓nu, ↓nA, gM, oE, oF, nQ, ie, ue, uf, gR, oG, nH, oH, iG, oJ, oK, nJ, mX, mY, gY, ni, cZ, jP, pX, iZ, ↓km, ↓kE, ↓eO, ↓qu, ↓tK, ↓kJ, ↓kW, ↓oA, ↓lB, ↓lC, ↓qG, ↓qH, ↓qI, ↓qL, ↓lF, ↓eV, ↓tL, ↓eX, ↓lG, ↓lL, ↓lM, ↓fG, ↓fH, ↓fJ, ↓bY, ↓qM, ↓lN, ↓fL, ↓fM, ↓qN, ↓lU, ↓fO, ↓fP, ↓fQ, ↓qO, ↓qP, ↓qQ, ↓qR, ↓lX, ↓fU, ↓bZ, ↓cA, ↓qY, ↓qZ, ↓fY, ↓rA, ↓lZ, ↓mD, ↓mF, ↓fZ, ↓gh, ↓gj, ↓cG, ↓mH, ↓gA, ↓rB, ↓gG, jw, pD, o9, sV, jx, pF, jy, fz_non, jA, pG, ph, sW, pq, sX, jB, pH, jC, pJ, jD, pK, pA, sY, pB, tD, pC, tE, gQ, mV, m9, mW, di, jE, iw, jF, dw, pM, jG, jH, ul, uo, uv, uw, ux, uz, uA, tG, mK, rW, dB, dC, jJ, dD, dF, bD, dG, dH, bF, dI, nR, pN, pO, pP, jK, jL, dJ, tH, jM, pQ, jN, jO, pU, pW, rY, rZ, dR, jQ, dU, bO, dW, bQ, jR, dX, bR, dY, dZ, jT, jU, uh, uR, u6, bU, bV, eE, j7, d8, bT, pZ, qb, jW, d9, jY, jZ, j5, qm, jX, qj, ql, ai6, ai7, ai8, aiY, Int.reduceToNat, bG, bH, dM, bJ, bK, dN, dO, bL, bM, eQ, eU, lD, qJ, qK, Option.isSome_some, Option.isSome_none, lE, Int.reduceEq, beq_self_eq_true, cQ, cR, eY, lH, eZ, fj, fu, lJ, lK, fB, fD, fK, bW, bz, lO, lQ, lV, lW, fV, cC, cD, lY, fX, qT, tM, qU, qW, qX, uB, uC, gq, mG, nj, nU, iy, nW, j8, kh, eG, j9, kY, qw, kZ, lg, qC, lu, lw, lA, qD, qF, startF, aiU, aiW, ai1, ai5, aiV, aiX, ai3, ai4, ai9, aja, ai2, aiZ, ai0, Nat.reduceAdd, Nat.reduceSub, Nat.reduceLeDiff, Nat.reduceLT, Nat.zero_add, and_true, true_and, and_self, false_and, and_false, not_true_eq_false, not_false_eq_true, eq_self, decide_true, decide_false, Bool.not_true, Bool.not_false, Bool.true_and, Bool.false_and, Bool.and_true, Bool.and_false, Bool.or_true, Bool.or_false, Bool.true_or, Bool.false_or, Option.map_some, Option.map_none, Int.toNat_natCast, ↓reduceIte, Bool.false_eq_true, reduceCtorEq, Int.cast_ofNat_Int, Int.reduceLT, Int.reduceLE, Int.reduceAdd, Int.reduceSub, Int.reduceNeg, Int.natCast_zero, pY, and_assoc, ↓aU, ↓xV, ↓xW, ↓xX, ↓xY, ↓xZ, ↓yc, ↓ye, ↓yf, ↓yg, ↓yh, ↓yj, ↓ym, ↓vL, ↓vM, ↓xf, ↓vP, ↓v8, ↓u9, ↓vf, ↓vg, ↓wC, ↓Ep, aF, aG, aV, aP, aM, aW, aH, aX, aQ, az, aN, aY, aZ, au, t]
 | false =>
   rw [hd] at t
   simp only [↓ou, ↓mU, ↓wp_bind, ↓oM, ↓tZ, ↓sE, ↓oN, ↓iH, ↓nM, ↓oO, ↓rQ, ↓rR, ↓sG, ↓oR, ↓iI, ↓oU, ↓sH, ↓iJ, ↓iK, ↓oV, ↓cU, ↓sJ, ↓cV, ↓cW, ↓oW, ↓oX, ↓iQ, ↓sO, ↓qd, ↓iT, ↓oY, ↓sS, ↓ig, ↓iU, ↓iV, ↓m7, ↓oZ, ↓iW, ↓nO, ↓o5, ↓o7, ↓iY, ↓gU, ↓sU, ↓il, ↓cX, ↓bA, ↓cY, ↓o8, ↓jc, ↓je, ↓jf, ↓jh, ↓ji, ↓jk, ↓jm, ↓bB, ↓jn, ↓jo, ↓jr, ↓j6, ↓qp, ↓jt, ↓ir, ↓ju, ↓jV, ↓nY, ↓nZ, ↓nu, ↓nA, gM, oE, oF, nQ, ie, ue, uf, gR, oG, nH, oH, iG, oJ, oK, nJ, mX, mY, gY, ni, cZ, jP, pX, iZ, ↓km, ↓kE, ↓eO, ↓qu, ↓tK, ↓kJ, ↓kW, ↓oA, ↓lB, ↓lC, ↓qG, ↓qH, ↓qI, ↓qL, ↓lF, ↓eV, ↓tL, ↓eX, ↓lG, ↓lL, ↓lM, ↓fG, ↓fH, ↓fJ, ↓bY, ↓qM, ↓lN, ↓fL, ↓fM, ↓qN, ↓lU, ↓fO, ↓fP, ↓fQ, ↓qO, ↓qP, ↓qQ, ↓qR, ↓lX, ↓fU, ↓bZ, ↓cA, ↓qY, ↓qZ, ↓fY, ↓rA, ↓lZ, ↓mD, ↓mF, ↓fZ, ↓gh, ↓gj, ↓cG, ↓mH, ↓gA, ↓rB, ↓gG, jw, pD, o9, sV, jx, pF, jy, fz_non, jA, pG, ph, sW, pq, sX, jB, pH, jC, pJ, jD, pK, pA, sY, pB, tD, pC, tE, gQ, mV, m9, mW, di, jE, iw, jF, dw, pM, jG, jH, ul, uo, uv, uw, ux, uz, uA, tG, mK, rW, dB, dC, jJ, dD, dF, bD, dG, dH, bF, dI, nR, pN, pO, pP, jK, jL, dJ, tH, jM, pQ, jN, jO, pU, pW, rY, rZ, dR, jQ, dU, bO, dW, bQ, jR, dX, bR, dY, dZ, jT, jU, uh, uR, u6, bU, bV, eE, j7, d8, bT, pZ, qb, jW, d9, jY, jZ, j5, qm, jX, qj, ql, ai6, ai7, ai8, aiY, Int.reduceToNat, bG, bH, dM, bJ, bK, dN, dO, bL, bM, eQ, eU, lD, qJ, qK, Option.isSome_some, Option.isSome_none, lE, Int.reduceEq, beq_self_eq_true, cQ, cR, eY, lH, eZ, fj, fu, lJ, lK, fB, fD, fK, bW, bz, lO, lQ, lV, lW, fV, cC, cD, lY, fX, qT, tM, qU, qW, qX, uB, uC, gq, mG, nj, nU, iy, nW, j8, kh, eG, j9, kY, qw, kZ, lg, qC, lu, lw, lA, qD, qF, startF, aiU, aiW, ai1, ai5, aiV, aiX, ai3, ai4, ai9, aja, ai2, aiZ, ai0, Nat.reduceAdd, Nat.reduceSub, Nat.reduceLeDiff, Nat.reduceLT, Nat.zero_add, and_true, true_and, and_self, false_and, and_false, not_true_eq_false, not_false_eq_true, eq_self, decide_true, decide_false, Bool.not_true, Bool.not_false, Bool.true_and, Bool.false_and, Bool.and_true, Bool.and_false, Bool.or_true, Bool.or_false, Bool.true_or, Bool.false_or, Option.map_some, Option.map_none, Int.toNat_natCast, ↓reduceIte, Bool.false_eq_true, reduceCtorEq, Int.cast_ofNat_Int, Int.reduceLT, Int.reduceLE, Int.reduceAdd, Int.reduceSub, Int.reduceNeg, Int.natCast_zero, pY, and_assoc, ↓aU, ↓xV, ↓xW, ↓xX, ↓xY, ↓xZ, ↓yc, ↓ye, ↓yf, ↓yg, ↓yh, ↓yj, ↓ym, ↓vL, ↓vM, ↓xf, ↓vP, ↓v8, ↓u9, ↓vf, ↓vg, ↓wC, ↓Ep, aF, aG, aV, aP, aM, aW, aH, aX, aQ, az, aN, aY, aZ, au, t]
end
end L
namespace L
open PySem PySem.Spec L2 Pk
section
variable {h : Hh} {n s : Nat} {k : Int} {l : Lk} {S0 : D} {ns : List Int}
def FQ (S0 : D) (k : Int) (s n : Nat) (l : Lk) (d5 : D) (x7 x8 x9 : Option D) : Fr := [some S0, some (.int k), some (.ref s), some (.int (n : Int)), some l.ldD, some d5, some (.nl (Ho l)), x7, x8, x9]
def T5 (n : Nat) (l : Lk) (d : D) : Prop := d = .no 1 [.int (n : Int), l.ndD] ∨ d = tm n l.ndD
theorem aew {l : Lk} : Ho l = (l.vars.map Lk.txt).map .str := by unfold Ho; rw [List.map_map]; rfl
theorem ag6 (hl : l ∈ xH) {h : Hh} : uE h (.fl (Ho l)) (.nl (Ho l)) = some true := by
 rw [aew]
 have g : ∀ x ∈ l.vars.map Lk.txt, zU x = true := fun x hx => by
  obtain ⟨v, hv, rfl⟩ := List.mem_map.mp hx
  exact ab8 (aa5 hl hv)
 exact (Vh Em.str.list (agP Em.str Kf _) (agQ Em.str Kf _) g g (by decide)).trans (congrArg some (decide_eq_true rfl))
theorem nil_eq {h : Hh} : uE h (.fl []) (.nl []) = some true := rfl
theorem aex : ∀ l ∈ xH, l.vars.length ≤ 6 := by
 have e : (xH.all fun l => decide (l.vars.length ≤ 6)) = true := by decide +kernel
 exact fun l hl => of_decide_eq_true (List.all_eq_true.mp e l hl)
theorem inner (h2 : 2 ≤ n) (h4 : n ≤ 4) (hl : l ∈ xH) {d5 : D} (h5 : T5 n l d5) (x7 x8 x9 : Option D) :
 Wp (GD (FQ S0 k s n l d5 x7 x8 x9) h) (fun f fr _ => f = .nx ∧ ∃ y8 y9, fr = FQ S0 k s n l (tm n l.ndD) x7 y8 y9) wR := by
 have v : ∀ h : Hh, En [tm n l.ndD] h = .ok (.nl (xJ n l)) [] h := fun h => XQ hl
 have i1 := aev (h := h) (r := xJ n l)
 have ca := afT (h := h) (r := xJ n l)
 have lt := afU (x0 := some S0) (x1 := some (.int k)) (x2 := some (.ref s)) (x3 := some (.int (n : Int))) (x4 := some l.ldD) (x5 := some (tm n l.ndD)) (x6 := some (.nl (Ho l))) (x7 := x7) (x8 := some (.ref h.length)) (h := h) (n := n) hl rfl
 have lr := afV (l := l) (x0 := some S0) (x1 := some (.int k)) (x2 := some (.ref s)) (x4 := some l.ldD) (x5 := some (tm n l.ndD)) (x6 := some (.nl (Ho l))) (x7 := x7) (x8 := some (.ref h.length)) (h := h) (n := n) trivial rfl
 have ls := afW (x0 := some S0) (x1 := some (.int k)) (x2 := some (.ref s)) (x3 := some (.int (n : Int))) (x4 := some l.ldD) (x6 := some (.nl (Ho l))) (x7 := x7) (x8 := some (.ref h.length)) (h := h) h2 h4 hl rfl
 have de : ∀ h : Hh, uE h (.fl (Ho l)) (.nl (Ho l)) = some true := fun h => ag6 hl
 have ne : ∀ h : Hh, uE h (.fl []) (.nl []) = some true := fun h => nil_eq
 have on := once hl
 have lv := aex l hl
 have tl : (xJ n l).length ≤ 6 := by unfold xJ; rw [aje]; exact lv
 have e1 : ∀ h : Hh, vh h (.nl ((l.vars.filter fun v => decide (v = l)).map fun v => tm n v.ndD)) = some (.int 1) := fun h => by
  show some (D.int ((((l.vars.filter fun v => decide (v = l)).map fun v => tm n v.ndD).length : Nat) : Int)) = _
  rw [aje, on]
  rfl
 have c1 : ∀ h : Hh, uE h (.int 1) (.int 1) = some true := fun h => rfl
 have g8 : (h ++ [D.nl (xJ n l)])[h.length]? = some (.nl (xJ n l)) := JR
 have ap : ∀ d : D, Et d (xJ n l) = some (xJ n l ++ [d]) := fun d => VJ (by omega)
 have big6 : (xJ n l).length ≤ big := Nat.le_trans tl (by decide)
 unfold FQ
 generalize hL : l.ldD = ld at *
 rcases h5 with rfl | rfl
 · unfold tm at *
   generalize xJ n l = tr at *
   generalize Ho l = tx at *
   generalize l.ndD = nd at *
   generalize ((l.vars.filter fun v => decide (v = l)).map fun v => D.obj 1 [.int (n : Int), v.ndD]) = fs at *
   simp only [↓ou, ↓mU, ↓wp_bind, ↓oM, ↓tZ, ↓sE, ↓oN, ↓iH, ↓nM, ↓oO, ↓rQ, ↓rR, ↓sG, ↓oR, ↓iI, ↓oU, ↓sH, ↓iJ, ↓iK, ↓oV, ↓cU, ↓sJ, ↓cV, ↓cW, ↓oW, ↓oX, ↓iQ, ↓sO, ↓qd, ↓iT, ↓oY, ↓sS, ↓ig, ↓iU, ↓iV, ↓m7, ↓oZ, ↓iW, ↓nO, ↓o5, ↓o7, ↓iY, ↓gU, ↓sU, ↓il, ↓cX, ↓bA, ↓cY, ↓o8, ↓jc, ↓je, ↓jf, ↓jh, ↓ji, ↓jk, ↓jm, ↓bB, ↓jn, ↓jo, ↓jr, ↓j6, ↓qp, ↓jt, ↓ir, ↓ju, ↓jV, ↓nY, ↓nZ, ↓nu, ↓nA, gM, oE, oF, nQ, ie, ue, uf, gR, oG, nH, oH, iG, oJ, oK, nJ, mX, mY, gY, ni, cZ, jP, pX, iZ, ↓km, ↓kE, ↓eO, ↓qu, ↓tK, ↓kJ, ↓kW, ↓oA, ↓lB, ↓lC, ↓qG, ↓qH, ↓qI, ↓qL, ↓lF, ↓eV, ↓tL, ↓eX, ↓lG, ↓lL, ↓lM, ↓fG, ↓fH, ↓fJ, ↓bY, ↓qM, ↓lN, ↓fL, ↓fM, ↓qN, ↓lU, ↓fO, ↓fP, ↓fQ, ↓qO, ↓qP, ↓qQ, ↓qR, ↓lX, ↓fU, ↓bZ, ↓cA, ↓qY, ↓qZ, ↓fY, ↓rA, ↓lZ, ↓mD, ↓mF, ↓fZ, ↓gh, ↓gj, ↓cG, ↓mH, ↓gA, ↓rB, ↓gG, jw, pD, o9, sV, jx, pF, jy, fz_non, jA, pG, ph, sW, pq, sX, jB, pH, jC, pJ, jD, pK, pA, sY, pB, tD, pC, tE, gQ, mV, m9, mW, di, jE, iw, jF, dw, pM, jG, jH, ul, uo, uv, uw, ux, uz, uA, tG, mK, rW, dB, dC, jJ, dD, dF, bD, dG, dH, bF, dI, nR, pN, pO, pP, jK, jL, dJ, tH, jM, pQ, jN, jO, pU, pW, rY, rZ, dR, jQ, dU, bO, dW, bQ, jR, dX, bR, dY, dZ, jT, jU, uh, uR, u6, bU, bV, eE, j7, d8, bT, pZ, qb, jW, d9, jY, jZ, j5, qm, jX, qj, ql, ai6, ai7, ai8, aiY, Int.reduceToNat, bG, bH, dM, bJ, bK, dN, dO, bL, bM, eQ, eU, lD, qJ, qK, Option.isSome_some, Option.isSome_none, lE, Int.reduceEq, beq_self_eq_true, cQ, cR, eY, lH, eZ, fj, fu, lJ, lK, fB, fD, fK, bW, bz, lO, lQ, lV, lW, fV, cC, cD, lY, fX, qT, tM, qU, qW, qX, uB, uC, gq, mG, nj, nU, iy, nW, j8, kh, eG, j9, kY, qw, kZ, lg, qC, lu, lw, lA, qD, qF, startF, aiU, aiW, ai1, ai5, aiV, aiX, ai3, ai4, ai9, aja, ai2, aiZ, ai0, Nat.reduceAdd, Nat.reduceSub, Nat.reduceLeDiff, Nat.reduceLT, Nat.zero_add, and_true, true_and, and_self, false_and, and_false, not_true_eq_false, not_false_eq_true, eq_self, decide_true, decide_false, Bool.not_true, Bool.not_false, Bool.true_and, Bool.false_and, Bool.and_true, Bool.and_false, Bool.or_true, Bool.or_false, Bool.true_or, Bool.false_or, Option.map_some, Option.map_none, Int.toNat_natCast, ↓reduceIte, Bool.false_eq_true, reduceCtorEq, Int.cast_ofNat_Int, Int.reduceLT, Int.reduceLE, Int.reduceAdd, Int.reduceSub, Int.reduceNeg, Int.natCast_zero, pY, and_assoc, ↓Pn, ↓Pq, ↓Pr, ↓VB, ↓aU, ↓xV, ↓xW, ↓xX, ↓xY, ↓xZ, ↓yc, ↓ye, ↓yf, ↓yg, ↓yh, ↓yj, ↓ym, ↓vL, ↓vM, ↓xf, ↓vP, ↓v8, ↓u9, ↓vf, ↓vg, ↓wC, ↓Ep, aF, aG, aV, aP, aM, aW, aH, aX, aQ, az, aN, aY, aZ, au, v, i1, ca, lt, lr, ls, de, ne, e1, c1, g8, st0, JR, ap, wj]
   refine ⟨by omega, by omega, by omega, by omega, ?_⟩
   first | exact ⟨rfl, _, _, rfl⟩ | exact ⟨_, _, rfl⟩
 · unfold tm at *
   generalize xJ n l = tr at *
   generalize Ho l = tx at *
   generalize l.ndD = nd at *
   generalize ((l.vars.filter fun v => decide (v = l)).map fun v => D.obj 1 [.int (n : Int), v.ndD]) = fs at *
   simp only [↓ou, ↓mU, ↓wp_bind, ↓oM, ↓tZ, ↓sE, ↓oN, ↓iH, ↓nM, ↓oO, ↓rQ, ↓rR, ↓sG, ↓oR, ↓iI, ↓oU, ↓sH, ↓iJ, ↓iK, ↓oV, ↓cU, ↓sJ, ↓cV, ↓cW, ↓oW, ↓oX, ↓iQ, ↓sO, ↓qd, ↓iT, ↓oY, ↓sS, ↓ig, ↓iU, ↓iV, ↓m7, ↓oZ, ↓iW, ↓nO, ↓o5, ↓o7, ↓iY, ↓gU, ↓sU, ↓il, ↓cX, ↓bA, ↓cY, ↓o8, ↓jc, ↓je, ↓jf, ↓jh, ↓ji, ↓jk, ↓jm, ↓bB, ↓jn, ↓jo, ↓jr, ↓j6, ↓qp, ↓jt, ↓ir, ↓ju, ↓jV, ↓nY, ↓nZ, ↓nu, ↓nA, gM, oE, oF, nQ, ie, ue, uf, gR, oG, nH, oH, iG, oJ, oK, nJ, mX, mY, gY, ni, cZ, jP, pX, iZ, ↓km, ↓kE, ↓eO, ↓qu, ↓tK, ↓kJ, ↓kW, ↓oA, ↓lB, ↓lC, ↓qG, ↓qH, ↓qI, ↓qL, ↓lF, ↓eV, ↓tL, ↓eX, ↓lG, ↓lL, ↓lM, ↓fG, ↓fH, ↓fJ, ↓bY, ↓qM, ↓lN, ↓fL, ↓fM, ↓qN, ↓lU, ↓fO, ↓fP, ↓fQ, ↓qO, ↓qP, ↓qQ, ↓qR, ↓lX, ↓fU, ↓bZ, ↓cA, ↓qY, ↓qZ, ↓fY, ↓rA, ↓lZ, ↓mD, ↓mF, ↓fZ, ↓gh, ↓gj, ↓cG, ↓mH, ↓gA, ↓rB, ↓gG, jw, pD, o9, sV, jx, pF, jy, fz_non, jA, pG, ph, sW, pq, sX, jB, pH, jC, pJ, jD, pK, pA, sY, pB, tD, pC, tE, gQ, mV, m9, mW, di, jE, iw, jF, dw, pM, jG, jH, ul, uo, uv, uw, ux, uz, uA, tG, mK, rW, dB, dC, jJ, dD, dF, bD, dG, dH, bF, dI, nR, pN, pO, pP, jK, jL, dJ, tH, jM, pQ, jN, jO, pU, pW, rY, rZ, dR, jQ, dU, bO, dW, bQ, jR, dX, bR, dY, dZ, jT, jU, uh, uR, u6, bU, bV, eE, j7, d8, bT, pZ, qb, jW, d9, jY, jZ, j5, qm, jX, qj, ql, ai6, ai7, ai8, aiY, Int.reduceToNat, bG, bH, dM, bJ, bK, dN, dO, bL, bM, eQ, eU, lD, qJ, qK, Option.isSome_some, Option.isSome_none, lE, Int.reduceEq, beq_self_eq_true, cQ, cR, eY, lH, eZ, fj, fu, lJ, lK, fB, fD, fK, bW, bz, lO, lQ, lV, lW, fV, cC, cD, lY, fX, qT, tM, qU, qW, qX, uB, uC, gq, mG, nj, nU, iy, nW, j8, kh, eG, j9, kY, qw, kZ, lg, qC, lu, lw, lA, qD, qF, startF, aiU, aiW, ai1, ai5, aiV, aiX, ai3, ai4, ai9, aja, ai2, aiZ, ai0, Nat.reduceAdd, Nat.reduceSub, Nat.reduceLeDiff, Nat.reduceLT, Nat.zero_add, and_true, true_and, and_self, false_and, and_false, not_true_eq_false, not_false_eq_true, eq_self, decide_true, decide_false, Bool.not_true, Bool.not_false, Bool.true_and, Bool.false_and, Bool.and_true, Bool.and_false, Bool.or_true, Bool.or_false, Bool.true_or, Bool.false_or, Option.map_some, Option.map_none, Int.toNat_natCast, ↓reduceIte, Bool.false_eq_true, reduceCtorEq, Int.cast_ofNat_Int, Int.reduceLT, Int.reduceLE, Int.reduceAdd, Int.reduceSub, Int.reduceNeg, Int.natCast_zero, pY, and_assoc, ↓Pn, ↓Pq, ↓Pr, ↓VB, ↓aU, ↓xV, ↓xW, ↓xX, ↓xY, ↓xZ, ↓yc, ↓ye, ↓yf, ↓yg, ↓yh, ↓yj, ↓ym, ↓vL, ↓vM, ↓xf, ↓vP, ↓v8, ↓u9, ↓vf, ↓vg, ↓wC, ↓Ep, aF, aG, aV, aP, aM, aW, aH, aX, aQ, az, aN, aY, aZ, au, v, i1, ca, lt, lr, ls, de, ne, e1, c1, g8, st0, JR, ap, wj]
   refine ⟨by omega, by omega, by omega, by omega, ?_⟩
   first | exact ⟨rfl, _, _, rfl⟩ | exact ⟨_, _, rfl⟩
abbrev FS (S0 : D) (k : Int) (s n : Nat) (l : Lk) (fr : Fr) : Prop := ∃ d5 x7 x8 x9, T5 n l d5 ∧ fr = FQ S0 k s n l d5 x7 x8 x9
theorem turns (h2 : 2 ≤ n) (h4 : n ≤ 4) (hl : l ∈ xH) {fr : Fr} (hf : FS S0 k s n l fr) : Wp (zj fr h) (fun f fr _ => f = .nx ∧ ∃ x2 x3 x4 x5 x6 x7 x8 x9, fr = [some S0, some (.int k), x2, x3, x4, x5, x6, x7, x8, x9]) wR := by
 have lt : ∀ h : Hh, uL [l.ldD] h = .ok (.str l.txt) [] h := fun h => VN hl
 have tx : ∀ h : Hh, Bw [tm n l.ndD] h = .ok (.str l.txt) [] h := fun h => Xq hl
 have ce : ∀ h : Hh, uE h (.str l.txt) (.str l.txt) = some true := fun h => (Gg (ab8 hl) (ab8 hl)).trans (congrArg some (decide_eq_true rfl))
 unfold zj
 rw [m7, gU]
 simp only [↓ou, ↓mU, ↓wp_bind, ↓oM, ↓tZ, ↓sE, ↓oN, ↓iH, ↓nM, ↓oO, ↓rQ, ↓rR, ↓sG, ↓oR, ↓iI, ↓oU, ↓sH, ↓iJ, ↓iK, ↓oV, ↓cU, ↓sJ, ↓cV, ↓cW, ↓oW, ↓oX, ↓iQ, ↓sO, ↓qd, ↓iT, ↓oY, ↓sS, ↓ig, ↓iU, ↓iV, ↓m7, ↓oZ, ↓iW, ↓nO, ↓o5, ↓o7, ↓iY, ↓gU, ↓sU, ↓il, ↓cX, ↓bA, ↓cY, ↓o8, ↓jc, ↓je, ↓jf, ↓jh, ↓ji, ↓jk, ↓jm, ↓bB, ↓jn, ↓jo, ↓jr, ↓j6, ↓qp, ↓jt, ↓ir, ↓ju, ↓jV, gM, oE, oF, nQ, ie, ue, uf, gR, oG, nH, oH, iG, oJ, oK, nJ, mX, mY, gY, ni, cZ, jP, pX, iZ, ↓km, ↓kE, ↓eO, ↓qu, ↓tK, ↓kJ, ↓kW, ↓oA, ↓lB, ↓lC, ↓qG, ↓qH, ↓qI, ↓qL, ↓lF, ↓eV, ↓tL, ↓eX, ↓lG, ↓lL, ↓lM, ↓fG, ↓fH, ↓fJ, ↓bY, ↓qM, ↓lN, ↓fL, ↓fM, ↓qN, ↓lU, ↓fO, ↓fP, ↓fQ, ↓qO, ↓qP, ↓qQ, ↓qR, ↓lX, ↓fU, ↓bZ, ↓cA, ↓qY, ↓qZ, ↓fY, ↓rA, ↓lZ, ↓mD, ↓mF, ↓fZ, ↓gh, ↓gj, ↓cG, ↓mH, ↓gA, ↓rB, ↓gG, jw, pD, o9, sV, jx, pF, jy, fz_non, jA, pG, ph, sW, pq, sX, jB, pH, jC, pJ, jD, pK, pA, sY, pB, tD, pC, tE, gQ, mV, m9, mW, di, jE, iw, jF, dw, pM, jG, jH, ul, uo, uv, uw, ux, uz, uA, tG, mK, rW, dB, dC, jJ, dD, dF, bD, dG, dH, bF, dI, nR, pN, pO, pP, jK, jL, dJ, tH, jM, pQ, jN, jO, pU, pW, rY, rZ, dR, jQ, dU, bO, dW, bQ, jR, dX, bR, dY, dZ, jT, jU, uh, uR, u6, bU, bV, eE, j7, d8, bT, pZ, qb, jW, d9, jY, jZ, j5, qm, jX, qj, ql, ai6, ai7, ai8, aiY, Int.reduceToNat, bG, bH, dM, bJ, bK, dN, dO, bL, bM, eQ, eU, lD, qJ, qK, Option.isSome_some, Option.isSome_none, lE, Int.reduceEq, beq_self_eq_true, cQ, cR, eY, lH, eZ, fj, fu, lJ, lK, fB, fD, fK, bW, bz, lO, lQ, lV, lW, fV, cC, cD, lY, fX, qT, tM, qU, qW, qX, uB, uC, gq, mG, nj, nU, iy, nW, j8, kh, eG, j9, kY, qw, kZ, lg, qC, lu, lw, lA, qD, qF, startF, aiU, aiW, ai1, ai5, aiV, aiX, ai3, ai4, ai9, aja, ai2, aiZ, ai0, Nat.reduceAdd, Nat.reduceSub, Nat.reduceLeDiff, Nat.reduceLT, Nat.zero_add, and_true, true_and, and_self, false_and, and_false, not_true_eq_false, not_false_eq_true, eq_self, decide_true, decide_false, Bool.not_true, Bool.not_false, Bool.true_and, Bool.false_and, Bool.and_true, Bool.and_false, Bool.or_true, Bool.or_false, Bool.true_or, Bool.false_or, Option.map_some, Option.map_none, Int.toNat_natCast, ↓reduceIte, Bool.false_eq_true, reduceCtorEq, Int.cast_ofNat_Int, Int.reduceLT, Int.reduceLE, Int.reduceAdd, Int.reduceSub, Int.reduceNeg, Int.natCast_zero, pY, and_assoc, ↓uV, ↓uW, ↓uX, ↓uY, ↓uZ, ↓wH, ↓vQ, ↓vR, ↓wL, ↓aU, ↓Dh, ↓xV, ↓xW, ↓xX, ↓xY, ↓xZ, ↓yc, ↓ye, ↓yf, ↓yg, ↓yh, ↓yj, ↓ym, ↓vL, ↓vM, ↓xf, ↓vP, ↓v8, ↓u9, ↓vf, ↓vg, ↓wC, ↓Ep, aF, aG, aV, aP, aM, aW, aH, aX, aQ, az, aN, aY, aZ, au]
 refine ⟨by decide, aaV (fun _ fr _ => FS S0 k s n l fr) hf ?_ ?_⟩
 · rintro j fr h' j0 j1 ⟨d5, x7, x8, x9, h5, rfl⟩
   have t := inner (S0 := S0) (k := k) (s := s) (h := h') h2 h4 hl h5 (some (.int j)) x8 x9
   unfold FQ at t ⊢
   generalize GD = B at t ⊢
   simp only [↓ou, ↓mU, ↓wp_bind, ↓oM, ↓tZ, ↓sE, ↓oN, ↓iH, ↓nM, ↓oO, ↓rQ, ↓rR, ↓sG, ↓oR, ↓iI, ↓oU, ↓sH, ↓iJ, ↓iK, ↓oV, ↓cU, ↓sJ, ↓cV, ↓cW, ↓oW, ↓oX, ↓iQ, ↓sO, ↓qd, ↓iT, ↓oY, ↓sS, ↓ig, ↓iU, ↓iV, ↓m7, ↓oZ, ↓iW, ↓nO, ↓o5, ↓o7, ↓iY, ↓gU, ↓sU, ↓il, ↓cX, ↓bA, ↓cY, ↓o8, ↓jc, ↓je, ↓jf, ↓jh, ↓ji, ↓jk, ↓jm, ↓bB, ↓jn, ↓jo, ↓jr, ↓j6, ↓qp, ↓jt, ↓ir, ↓ju, ↓jV, gM, oE, oF, nQ, ie, ue, uf, gR, oG, nH, oH, iG, oJ, oK, nJ, mX, mY, gY, ni, cZ, jP, pX, iZ, ↓km, ↓kE, ↓eO, ↓qu, ↓tK, ↓kJ, ↓kW, ↓oA, ↓lB, ↓lC, ↓qG, ↓qH, ↓qI, ↓qL, ↓lF, ↓eV, ↓tL, ↓eX, ↓lG, ↓lL, ↓lM, ↓fG, ↓fH, ↓fJ, ↓bY, ↓qM, ↓lN, ↓fL, ↓fM, ↓qN, ↓lU, ↓fO, ↓fP, ↓fQ, ↓qO, ↓qP, ↓qQ, ↓qR, ↓lX, ↓fU, ↓bZ, ↓cA, ↓qY, ↓qZ, ↓fY, ↓rA, ↓lZ, ↓mD, ↓mF, ↓fZ, ↓gh, ↓gj, ↓cG, ↓mH, ↓gA, ↓rB, ↓gG, jw, pD, o9, sV, jx, pF, jy, fz_non, jA, pG, ph, sW, pq, sX, jB, pH, jC, pJ, jD, pK, pA, sY, pB, tD, pC, tE, gQ, mV, m9, mW, di, jE, iw, jF, dw, pM, jG, jH, ul, uo, uv, uw, ux, uz, uA, tG, mK, rW, dB, dC, jJ, dD, dF, bD, dG, dH, bF, dI, nR, pN, pO, pP, jK, jL, dJ, tH, jM, pQ, jN, jO, pU, pW, rY, rZ, dR, jQ, dU, bO, dW, bQ, jR, dX, bR, dY, dZ, jT, jU, uh, uR, u6, bU, bV, eE, j7, d8, bT, pZ, qb, jW, d9, jY, jZ, j5, qm, jX, qj, ql, ai6, ai7, ai8, aiY, Int.reduceToNat, bG, bH, dM, bJ, bK, dN, dO, bL, bM, eQ, eU, lD, qJ, qK, Option.isSome_some, Option.isSome_none, lE, Int.reduceEq, beq_self_eq_true, cQ, cR, eY, lH, eZ, fj, fu, lJ, lK, fB, fD, fK, bW, bz, lO, lQ, lV, lW, fV, cC, cD, lY, fX, qT, tM, qU, qW, qX, uB, uC, gq, mG, nj, nU, iy, nW, j8, kh, eG, j9, kY, qw, kZ, lg, qC, lu, lw, lA, qD, qF, startF, aiU, aiW, ai1, ai5, aiV, aiX, ai3, ai4, ai9, aja, ai2, aiZ, ai0, Nat.reduceAdd, Nat.reduceSub, Nat.reduceLeDiff, Nat.reduceLT, Nat.zero_add, and_true, true_and, and_self, false_and, and_false, not_true_eq_false, not_false_eq_true, eq_self, decide_true, decide_false, Bool.not_true, Bool.not_false, Bool.true_and, Bool.false_and, Bool.and_true, Bool.and_false, Bool.or_true, Bool.or_false, Bool.true_or, Bool.false_or, Option.map_some, Option.map_none, Int.toNat_natCast, ↓reduceIte, Bool.false_eq_true, reduceCtorEq, Int.cast_ofNat_Int, Int.reduceLT, Int.reduceLE, Int.reduceAdd, Int.reduceSub, Int.reduceNeg, Int.natCast_zero, pY, and_assoc, ↓uV, ↓uW, ↓uX, ↓uY, ↓uZ, ↓wH, ↓vQ, ↓vR, ↓wL, ↓aU, ↓Dh, ↓xV, ↓xW, ↓xX, ↓xY, ↓xZ, ↓yc, ↓ye, ↓yf, ↓yg, ↓yh, ↓yj, ↓ym, ↓vL, ↓vM, ↓xf, ↓vP, ↓v8, ↓u9, ↓vf, ↓vg, ↓wC, ↓Ep, aF, aG, aV, aP, aM, aW, aH, aX, aQ, az, aN, aY, aZ, au]
   refine t.mono ?_
   rintro f fr h'' ⟨rfl, y8, y9, rfl⟩
   simp only [↓ou, ↓mU, ↓wp_bind, ↓oM, ↓tZ, ↓sE, ↓oN, ↓iH, ↓nM, ↓oO, ↓rQ, ↓rR, ↓sG, ↓oR, ↓iI, ↓oU, ↓sH, ↓iJ, ↓iK, ↓oV, ↓cU, ↓sJ, ↓cV, ↓cW, ↓oW, ↓oX, ↓iQ, ↓sO, ↓qd, ↓iT, ↓oY, ↓sS, ↓ig, ↓iU, ↓iV, ↓m7, ↓oZ, ↓iW, ↓nO, ↓o5, ↓o7, ↓iY, ↓gU, ↓sU, ↓il, ↓cX, ↓bA, ↓cY, ↓o8, ↓jc, ↓je, ↓jf, ↓jh, ↓ji, ↓jk, ↓jm, ↓bB, ↓jn, ↓jo, ↓jr, ↓j6, ↓qp, ↓jt, ↓ir, ↓ju, ↓jV, gM, oE, oF, nQ, ie, ue, uf, gR, oG, nH, oH, iG, oJ, oK, nJ, mX, mY, gY, ni, cZ, jP, pX, iZ, ↓km, ↓kE, ↓eO, ↓qu, ↓tK, ↓kJ, ↓kW, ↓oA, ↓lB, ↓lC, ↓qG, ↓qH, ↓qI, ↓qL, ↓lF, ↓eV, ↓tL, ↓eX, ↓lG, ↓lL, ↓lM, ↓fG, ↓fH, ↓fJ, ↓bY, ↓qM, ↓lN, ↓fL, ↓fM, ↓qN, ↓lU, ↓fO, ↓fP, ↓fQ, ↓qO, ↓qP, ↓qQ, ↓qR, ↓lX, ↓fU, ↓bZ, ↓cA, ↓qY, ↓qZ, ↓fY, ↓rA, ↓lZ, ↓mD, ↓mF, ↓fZ, ↓gh, ↓gj, ↓cG, ↓mH, ↓gA, ↓rB, ↓gG, jw, pD, o9, sV, jx, pF, jy, fz_non, jA, pG, ph, sW, pq, sX, jB, pH, jC, pJ, jD, pK, pA, sY, pB, tD, pC, tE, gQ, mV, m9, mW, di, jE, iw, jF, dw, pM, jG, jH, ul, uo, uv, uw, ux, uz, uA, tG, mK, rW, dB, dC, jJ, dD, dF, bD, dG, dH, bF, dI, nR, pN, pO, pP, jK, jL, dJ, tH, jM, pQ, jN, jO, pU, pW, rY, rZ, dR, jQ, dU, bO, dW, bQ, jR, dX, bR, dY, dZ, jT, jU, uh, uR, u6, bU, bV, eE, j7, d8, bT, pZ, qb, jW, d9, jY, jZ, j5, qm, jX, qj, ql, ai6, ai7, ai8, aiY, Int.reduceToNat, bG, bH, dM, bJ, bK, dN, dO, bL, bM, eQ, eU, lD, qJ, qK, Option.isSome_some, Option.isSome_none, lE, Int.reduceEq, beq_self_eq_true, cQ, cR, eY, lH, eZ, fj, fu, lJ, lK, fB, fD, fK, bW, bz, lO, lQ, lV, lW, fV, cC, cD, lY, fX, qT, tM, qU, qW, qX, uB, uC, gq, mG, nj, nU, iy, nW, j8, kh, eG, j9, kY, qw, kZ, lg, qC, lu, lw, lA, qD, qF, startF, aiU, aiW, ai1, ai5, aiV, aiX, ai3, ai4, ai9, aja, ai2, aiZ, ai0, Nat.reduceAdd, Nat.reduceSub, Nat.reduceLeDiff, Nat.reduceLT, Nat.zero_add, and_true, true_and, and_self, false_and, and_false, not_true_eq_false, not_false_eq_true, eq_self, decide_true, decide_false, Bool.not_true, Bool.not_false, Bool.true_and, Bool.false_and, Bool.and_true, Bool.and_false, Bool.or_true, Bool.or_false, Bool.true_or, Bool.false_or, Option.map_some, Option.map_none, Int.toNat_natCast, ↓reduceIte, Bool.false_eq_true, reduceCtorEq, Int.cast_ofNat_Int, Int.reduceLT, Int.reduceLE, Int.reduceAdd, Int.reduceSub, Int.reduceNeg, Int.natCast_zero, pY, and_assoc, ↓uV, ↓uW, ↓uX, ↓uY, ↓uZ, ↓wH, ↓vQ, ↓vR, ↓wL, ↓aU, ↓Dh, ↓xV, ↓xW, ↓xX, ↓xY, ↓xZ, ↓yc, ↓ye, ↓yf, ↓yg, ↓yh, ↓yj, ↓ym, ↓vL, ↓vM, ↓xf, ↓vP, ↓v8, ↓u9, ↓vf, ↓vg, ↓wC, ↓Ep, aF, aG, aV, aP, aM, aW, aH, aX, aQ, az, aN, aY, aZ, au]
   exact ⟨_, _, _, _, .inr rfl, rfl⟩
 · rintro fr h' ⟨d5, x7, x8, x9, h5, rfl⟩
   unfold FQ
   have own : l.ldD.own = false := by cases l <;> rfl
   have fz : l.ldD.fz = l.ldD := by cases l <;> rfl
   generalize l.ldD = ld at *
   rcases h5 with rfl | rfl
   · unfold tm at *
     generalize l.ndD = nd at *
     simp only [↓ou, ↓mU, ↓wp_bind, ↓oM, ↓tZ, ↓sE, ↓oN, ↓iH, ↓nM, ↓oO, ↓rQ, ↓rR, ↓sG, ↓oR, ↓iI, ↓oU, ↓sH, ↓iJ, ↓iK, ↓oV, ↓cU, ↓sJ, ↓cV, ↓cW, ↓oW, ↓oX, ↓iQ, ↓sO, ↓qd, ↓iT, ↓oY, ↓sS, ↓ig, ↓iU, ↓iV, ↓m7, ↓oZ, ↓iW, ↓nO, ↓o5, ↓o7, ↓iY, ↓gU, ↓sU, ↓il, ↓cX, ↓bA, ↓cY, ↓o8, ↓jc, ↓je, ↓jf, ↓jh, ↓ji, ↓jk, ↓jm, ↓bB, ↓jn, ↓jo, ↓jr, ↓j6, ↓qp, ↓jt, ↓ir, ↓ju, ↓jV, gM, oE, oF, nQ, ie, ue, uf, gR, oG, nH, oH, iG, oJ, oK, nJ, mX, mY, gY, ni, cZ, jP, pX, iZ, ↓km, ↓kE, ↓eO, ↓qu, ↓tK, ↓kJ, ↓kW, ↓oA, ↓lB, ↓lC, ↓qG, ↓qH, ↓qI, ↓qL, ↓lF, ↓eV, ↓tL, ↓eX, ↓lG, ↓lL, ↓lM, ↓fG, ↓fH, ↓fJ, ↓bY, ↓qM, ↓lN, ↓fL, ↓fM, ↓qN, ↓lU, ↓fO, ↓fP, ↓fQ, ↓qO, ↓qP, ↓qQ, ↓qR, ↓lX, ↓fU, ↓bZ, ↓cA, ↓qY, ↓qZ, ↓fY, ↓rA, ↓lZ, ↓mD, ↓mF, ↓fZ, ↓gh, ↓gj, ↓cG, ↓mH, ↓gA, ↓rB, ↓gG, jw, pD, o9, sV, jx, pF, jy, fz_non, jA, pG, ph, sW, pq, sX, jB, pH, jC, pJ, jD, pK, pA, sY, pB, tD, pC, tE, gQ, mV, m9, mW, di, jE, iw, jF, dw, pM, jG, jH, ul, uo, uv, uw, ux, uz, uA, tG, mK, rW, dB, dC, jJ, dD, dF, bD, dG, dH, bF, dI, nR, pN, pO, pP, jK, jL, dJ, tH, jM, pQ, jN, jO, pU, pW, rY, rZ, dR, jQ, dU, bO, dW, bQ, jR, dX, bR, dY, dZ, jT, jU, uh, uR, u6, bU, bV, eE, j7, d8, bT, pZ, qb, jW, d9, jY, jZ, j5, qm, jX, qj, ql, ai6, ai7, ai8, aiY, Int.reduceToNat, bG, bH, dM, bJ, bK, dN, dO, bL, bM, eQ, eU, lD, qJ, qK, Option.isSome_some, Option.isSome_none, lE, Int.reduceEq, beq_self_eq_true, cQ, cR, eY, lH, eZ, fj, fu, lJ, lK, fB, fD, fK, bW, bz, lO, lQ, lV, lW, fV, cC, cD, lY, fX, qT, tM, qU, qW, qX, uB, uC, gq, mG, nj, nU, iy, nW, j8, kh, eG, j9, kY, qw, kZ, lg, qC, lu, lw, lA, qD, qF, startF, aiU, aiW, ai1, ai5, aiV, aiX, ai3, ai4, ai9, aja, ai2, aiZ, ai0, Nat.reduceAdd, Nat.reduceSub, Nat.reduceLeDiff, Nat.reduceLT, Nat.zero_add, and_true, true_and, and_self, false_and, and_false, not_true_eq_false, not_false_eq_true, eq_self, decide_true, decide_false, Bool.not_true, Bool.not_false, Bool.true_and, Bool.false_and, Bool.and_true, Bool.and_false, Bool.or_true, Bool.or_false, Bool.true_or, Bool.false_or, Option.map_some, Option.map_none, Int.toNat_natCast, ↓reduceIte, Bool.false_eq_true, reduceCtorEq, Int.cast_ofNat_Int, Int.reduceLT, Int.reduceLE, Int.reduceAdd, Int.reduceSub, Int.reduceNeg, Int.natCast_zero, pY, and_assoc, ↓uV, ↓uW, ↓uX, ↓uY, ↓uZ, ↓wH, ↓vQ, ↓vR, ↓wL, ↓aU, ↓Dh, ↓xV, ↓xW, ↓xX, ↓xY, ↓xZ, ↓yc, ↓ye, ↓yf, ↓yg, ↓yh, ↓yj, ↓ym, ↓vL, ↓vM, ↓xf, ↓vP, ↓v8, ↓u9, ↓vf, ↓vg, ↓wC, ↓Ep, aF, aG, aV, aP, aM, aW, aH, aX, aQ, az, aN, aY, aZ, au, lt, tx, ce, own, fz]
     exact ⟨_, _, _, _, _, _, _, _, rfl⟩
   · unfold tm at *
     generalize l.ndD = nd at *
     simp only [↓ou, ↓mU, ↓wp_bind, ↓oM, ↓tZ, ↓sE, ↓oN, ↓iH, ↓nM, ↓oO, ↓rQ, ↓rR, ↓sG, ↓oR, ↓iI, ↓oU, ↓sH, ↓iJ, ↓iK, ↓oV, ↓cU, ↓sJ, ↓cV, ↓cW, ↓oW, ↓oX, ↓iQ, ↓sO, ↓qd, ↓iT, ↓oY, ↓sS, ↓ig, ↓iU, ↓iV, ↓m7, ↓oZ, ↓iW, ↓nO, ↓o5, ↓o7, ↓iY, ↓gU, ↓sU, ↓il, ↓cX, ↓bA, ↓cY, ↓o8, ↓jc, ↓je, ↓jf, ↓jh, ↓ji, ↓jk, ↓jm, ↓bB, ↓jn, ↓jo, ↓jr, ↓j6, ↓qp, ↓jt, ↓ir, ↓ju, ↓jV, gM, oE, oF, nQ, ie, ue, uf, gR, oG, nH, oH, iG, oJ, oK, nJ, mX, mY, gY, ni, cZ, jP, pX, iZ, ↓km, ↓kE, ↓eO, ↓qu, ↓tK, ↓kJ, ↓kW, ↓oA, ↓lB, ↓lC, ↓qG, ↓qH, ↓qI, ↓qL, ↓lF, ↓eV, ↓tL, ↓eX, ↓lG, ↓lL, ↓lM, ↓fG, ↓fH, ↓fJ, ↓bY, ↓qM, ↓lN, ↓fL, ↓fM, ↓qN, ↓lU, ↓fO, ↓fP, ↓fQ, ↓qO, ↓qP, ↓qQ, ↓qR, ↓lX, ↓fU, ↓bZ, ↓cA, ↓qY, ↓qZ, ↓fY, ↓rA, ↓lZ, ↓mD, ↓mF, ↓fZ, ↓gh, ↓gj, ↓cG, ↓mH, ↓gA, ↓rB, ↓gG, jw, pD, o9, sV, jx, pF, jy, fz_non, jA, pG, ph, sW, pq, sX, jB, pH, jC, pJ, jD, pK, pA, sY, pB, tD, pC, tE, gQ, mV, m9, mW, di, jE, iw, jF, dw, pM, jG, jH, ul, uo, uv, uw, ux, uz, uA, tG, mK, rW, dB, dC, jJ, dD, dF, bD, dG, dH, bF, dI, nR, pN, pO, pP, jK, jL, dJ, tH, jM, pQ, jN, jO, pU, pW, rY, rZ, dR, jQ, dU, bO, dW, bQ, jR, dX, bR, dY, dZ, jT, jU, uh, uR, u6, bU, bV, eE, j7, d8, bT, pZ, qb, jW, d9, jY, jZ, j5, qm, jX, qj, ql, ai6, ai7, ai8, aiY, Int.reduceToNat, bG, bH, dM, bJ, bK, dN, dO, bL, bM, eQ, eU, lD, qJ, qK, Option.isSome_some, Option.isSome_none, lE, Int.reduceEq, beq_self_eq_true, cQ, cR, eY, lH, eZ, fj, fu, lJ, lK, fB, fD, fK, bW, bz, lO, lQ, lV, lW, fV, cC, cD, lY, fX, qT, tM, qU, qW, qX, uB, uC, gq, mG, nj, nU, iy, nW, j8, kh, eG, j9, kY, qw, kZ, lg, qC, lu, lw, lA, qD, qF, startF, aiU, aiW, ai1, ai5, aiV, aiX, ai3, ai4, ai9, aja, ai2, aiZ, ai0, Nat.reduceAdd, Nat.reduceSub, Nat.reduceLeDiff, Nat.reduceLT, Nat.zero_add, and_true, true_and, and_self, false_and, and_false, not_true_eq_false, not_false_eq_true, eq_self, decide_true, decide_false, Bool.not_true, Bool.not_false, Bool.true_and, Bool.false_and, Bool.and_true, Bool.and_false, Bool.or_true, Bool.or_false, Bool.true_or, Bool.false_or, Option.map_some, Option.map_none, Int.toNat_natCast, ↓reduceIte, Bool.false_eq_true, reduceCtorEq, Int.cast_ofNat_Int, Int.reduceLT, Int.reduceLE, Int.reduceAdd, Int.reduceSub, Int.reduceNeg, Int.natCast_zero, pY, and_assoc, ↓uV, ↓uW, ↓uX, ↓uY, ↓uZ, ↓wH, ↓vQ, ↓vR, ↓wL, ↓aU, ↓Dh, ↓xV, ↓xW, ↓xX, ↓xY, ↓xZ, ↓yc, ↓ye, ↓yf, ↓yg, ↓yh, ↓yj, ↓ym, ↓vL, ↓vM, ↓xf, ↓vP, ↓v8, ↓u9, ↓vf, ↓vg, ↓wC, ↓Ep, aF, aG, aV, aP, aM, aW, aH, aX, aQ, az, aN, aY, aZ, au, lt, tx, ce, own, fz]
     exact ⟨_, _, _, _, _, _, _, _, rfl⟩
theorem body {q : Nat} (hq : q ≤ 62) (x2 x3 x4 x5 x6 x7 x8 x9 : Option D) :
 Wp (Jv [some (.kl (ns.map .int)), some (.int (q : Int)), x2, x3, x4, x5, x6, x7, x8, x9] h) (fun f fr _ => (f = .nx ∨ f = .ct) ∧ ∃ x1 ys, fr = some (.kl (ns.map .int)) :: x1 :: ys ∧ ys.length = 10 - 2) wR := by
 obtain ⟨a, b, e1, b0, b1⟩ := aap (h := h) (ns := ns) hq
 have S1 : Src (h ++ [.nl [.int a, .int b, .int 0]]) h.length 0 := ⟨a, b, 0, by rw [ajl (Nat.le_refl _), Nat.sub_self]; rfl, b0, b1, by decide, by decide⟩
 obtain ⟨r, h2, e2, S2, r0, r1⟩ := JF (m := 3) S1 (by omega) (by decide) (by decide)
 obtain ⟨n, hn⟩ : ∃ n : Nat, 2 + r = (n : Int) := ⟨(2 + r).toNat, by omega⟩
 have n2 : 2 ≤ n := by omega
 have n4 : n ≤ 4 := by omega
 obtain ⟨l, h3, e3, S3, hl, hi⟩ := ab7 (sz := n) S2 (by omega) n2 n4
 have lt : ∀ h : Hh, uL [l.ldD] h = .ok (.str l.txt) [] h := fun h => VN hl
 obtain ⟨r4, e4⟩ := ac3 (h0 := h3) hl hi
 have du := of_map (afS (h := h3 ++ r4) (x0 := some (.kl (ns.map .int))) (x1 := some (.int (q : Int))) (x2 := some (.ref h.length)) (x3 := some (.int (n : Int))) (x5 := some (.no 1 [.int (n : Int), l.ndD])) (x6 := x6) (x7 := x7) (x8 := x8) (x9 := x9)) l hl
 have tt := turns (S0 := .kl (ns.map .int)) (k := (q : Int)) (s := h.length) (h := h3 ++ r4) n2 n4 hl (fr := FQ (.kl (ns.map .int)) (q : Int) h.length n l (.no 1 [.int (n : Int), l.ndD]) x7 x8 none) ⟨_, _, _, _, .inl rfl, rfl⟩
 unfold FQ at tt
 have own : l.ldD.own = false := by cases l <;> rfl
 have fz : l.ldD.fz = l.ldD := by cases l <;> rfl
 unfold Ho at tt
 generalize l.ldD = ld at *
 generalize l.ndD = nd at *
 generalize ns.map D.int = S0 at *
 generalize (l.vars.map fun v => D.str v.txt) = tx at *
 have hk4 : Cu = aC (cP 6 (Jp [9] (Jo (mJ (cJ 1 0 yO (aK []) (aj [(ak 4)]) (aj [])))) Gr Gu Gv)) zj := rfl
 have k4 : Wp (Cu [some (.kl S0), some (.int (q : Int)), some (.ref h.length), some (.int (n : Int)), some ld, some (.no 1 [.int (n : Int), nd]), x6, x7, x8, x9] (h3 ++ r4)) (fun f fr _ => (f = .nx ∨ f = .ct) ∧ ∃ x1 ys, fr = some (.kl S0) :: x1 :: ys ∧ ys.length = 10 - 2) wR := by
  rw [hk4]
  generalize zj = B at tt ⊢
  generalize Jp [9] (Jo (mJ (cJ 1 0 yO (aK []) (aj [(ak 4)]) (aj [])))) Gr Gu Gv = M0 at du ⊢
  simp only [↓ou, ↓mU, ↓wp_bind, ↓oM, ↓tZ, ↓sE, ↓oN, ↓iH, ↓nM, ↓oO, ↓rQ, ↓rR, ↓sG, ↓oR, ↓iI, ↓oU, ↓sH, ↓iJ, ↓iK, ↓oV, ↓cU, ↓sJ, ↓cV, ↓cW, ↓oW, ↓oX, ↓iQ, ↓sO, ↓qd, ↓iT, ↓oY, ↓sS, ↓ig, ↓iU, ↓iV, ↓m7, ↓oZ, ↓iW, ↓nO, ↓o5, ↓o7, ↓iY, ↓gU, ↓sU, ↓il, ↓cX, ↓bA, ↓cY, ↓o8, ↓jc, ↓je, ↓jf, ↓jh, ↓ji, ↓jk, ↓jm, ↓bB, ↓jn, ↓jo, ↓jr, ↓j6, ↓qp, ↓jt, ↓ir, ↓ju, ↓jV, gM, oE, oF, nQ, ie, ue, uf, gR, oG, nH, oH, iG, oJ, oK, nJ, mX, mY, gY, ni, cZ, jP, pX, iZ, ↓km, ↓kE, ↓eO, ↓qu, ↓tK, ↓kJ, ↓kW, ↓oA, ↓lB, ↓lC, ↓qG, ↓qH, ↓qI, ↓qL, ↓lF, ↓eV, ↓tL, ↓eX, ↓lG, ↓lL, ↓lM, ↓fG, ↓fH, ↓fJ, ↓bY, ↓qM, ↓lN, ↓fL, ↓fM, ↓qN, ↓lU, ↓fO, ↓fP, ↓fQ, ↓qO, ↓qP, ↓qQ, ↓qR, ↓lX, ↓fU, ↓bZ, ↓cA, ↓qY, ↓qZ, ↓fY, ↓rA, ↓lZ, ↓mD, ↓mF, ↓fZ, ↓gh, ↓gj, ↓cG, ↓mH, ↓gA, ↓rB, ↓gG, jw, pD, o9, sV, jx, pF, jy, fz_non, jA, pG, ph, sW, pq, sX, jB, pH, jC, pJ, jD, pK, pA, sY, pB, tD, pC, tE, gQ, mV, m9, mW, di, jE, iw, jF, dw, pM, jG, jH, ul, uo, uv, uw, ux, uz, uA, tG, mK, rW, dB, dC, jJ, dD, dF, bD, dG, dH, bF, dI, nR, pN, pO, pP, jK, jL, dJ, tH, jM, pQ, jN, jO, pU, pW, rY, rZ, dR, jQ, dU, bO, dW, bQ, jR, dX, bR, dY, dZ, jT, jU, uh, uR, u6, bU, bV, eE, j7, d8, bT, pZ, qb, jW, d9, jY, jZ, j5, qm, jX, qj, ql, ai6, ai7, ai8, aiY, Int.reduceToNat, bG, bH, dM, bJ, bK, dN, dO, bL, bM, eQ, eU, lD, qJ, qK, Option.isSome_some, Option.isSome_none, lE, Int.reduceEq, beq_self_eq_true, cQ, cR, eY, lH, eZ, fj, fu, lJ, lK, fB, fD, fK, bW, bz, lO, lQ, lV, lW, fV, cC, cD, lY, fX, qT, tM, qU, qW, qX, uB, uC, gq, mG, nj, nU, iy, nW, j8, kh, eG, j9, kY, qw, kZ, lg, qC, lu, lw, lA, qD, qF, startF, aiU, aiW, ai1, ai5, aiV, aiX, ai3, ai4, ai9, aja, ai2, aiZ, ai0, Nat.reduceAdd, Nat.reduceSub, Nat.reduceLeDiff, Nat.reduceLT, Nat.zero_add, and_true, true_and, and_self, false_and, and_false, not_true_eq_false, not_false_eq_true, eq_self, decide_true, decide_false, Bool.not_true, Bool.not_false, Bool.true_and, Bool.false_and, Bool.and_true, Bool.and_false, Bool.or_true, Bool.or_false, Bool.true_or, Bool.false_or, Option.map_some, Option.map_none, Int.toNat_natCast, ↓reduceIte, Bool.false_eq_true, reduceCtorEq, Int.cast_ofNat_Int, Int.reduceLT, Int.reduceLE, Int.reduceAdd, Int.reduceSub, Int.reduceNeg, Int.natCast_zero, pY, and_assoc, ↓uV, ↓uW, ↓uX, ↓uY, ↓uZ, ↓wH, ↓vQ, ↓vR, ↓wL, ↓aU, ↓Jy, ↓Jz, ↓JB, ↓JC, ↓JD, ↓Mr, ↓xV, ↓xW, ↓xX, ↓xY, ↓xZ, ↓yc, ↓ye, ↓yf, ↓yg, ↓yh, ↓yj, ↓ym, ↓vL, ↓vM, ↓xf, ↓vP, ↓v8, ↓u9, ↓vf, ↓vg, ↓wC, ↓Ep, aF, aG, aV, aP, aM, aW, aH, aX, aQ, az, aN, aY, aZ, au, du]
  refine tt.mono ?_
  rintro f fr h' ⟨rfl, y2, y3, y4, y5, y6, y7, y8, y9, rfl⟩
  exact ⟨.inl rfl, _, _, rfl, rfl⟩
 simp only [↓ou, ↓mU, ↓wp_bind, ↓oM, ↓tZ, ↓sE, ↓oN, ↓iH, ↓nM, ↓oO, ↓rQ, ↓rR, ↓sG, ↓oR, ↓iI, ↓oU, ↓sH, ↓iJ, ↓iK, ↓oV, ↓cU, ↓sJ, ↓cV, ↓cW, ↓oW, ↓oX, ↓iQ, ↓sO, ↓qd, ↓iT, ↓oY, ↓sS, ↓ig, ↓iU, ↓iV, ↓m7, ↓oZ, ↓iW, ↓nO, ↓o5, ↓o7, ↓iY, ↓gU, ↓sU, ↓il, ↓cX, ↓bA, ↓cY, ↓o8, ↓jc, ↓je, ↓jf, ↓jh, ↓ji, ↓jk, ↓jm, ↓bB, ↓jn, ↓jo, ↓jr, ↓j6, ↓qp, ↓jt, ↓ir, ↓ju, ↓jV, gM, oE, oF, nQ, ie, ue, uf, gR, oG, nH, oH, iG, oJ, oK, nJ, mX, mY, gY, ni, cZ, jP, pX, iZ, ↓km, ↓kE, ↓eO, ↓qu, ↓tK, ↓kJ, ↓kW, ↓oA, ↓lB, ↓lC, ↓qG, ↓qH, ↓qI, ↓qL, ↓lF, ↓eV, ↓tL, ↓eX, ↓lG, ↓lL, ↓lM, ↓fG, ↓fH, ↓fJ, ↓bY, ↓qM, ↓lN, ↓fL, ↓fM, ↓qN, ↓lU, ↓fO, ↓fP, ↓fQ, ↓qO, ↓qP, ↓qQ, ↓qR, ↓lX, ↓fU, ↓bZ, ↓cA, ↓qY, ↓qZ, ↓fY, ↓rA, ↓lZ, ↓mD, ↓mF, ↓fZ, ↓gh, ↓gj, ↓cG, ↓mH, ↓gA, ↓rB, ↓gG, jw, pD, o9, sV, jx, pF, jy, fz_non, jA, pG, ph, sW, pq, sX, jB, pH, jC, pJ, jD, pK, pA, sY, pB, tD, pC, tE, gQ, mV, m9, mW, di, jE, iw, jF, dw, pM, jG, jH, ul, uo, uv, uw, ux, uz, uA, tG, mK, rW, dB, dC, jJ, dD, dF, bD, dG, dH, bF, dI, nR, pN, pO, pP, jK, jL, dJ, tH, jM, pQ, jN, jO, pU, pW, rY, rZ, dR, jQ, dU, bO, dW, bQ, jR, dX, bR, dY, dZ, jT, jU, uh, uR, u6, bU, bV, eE, j7, d8, bT, pZ, qb, jW, d9, jY, jZ, j5, qm, jX, qj, ql, ai6, ai7, ai8, aiY, Int.reduceToNat, bG, bH, dM, bJ, bK, dN, dO, bL, bM, eQ, eU, lD, qJ, qK, Option.isSome_some, Option.isSome_none, lE, Int.reduceEq, beq_self_eq_true, cQ, cR, eY, lH, eZ, fj, fu, lJ, lK, fB, fD, fK, bW, bz, lO, lQ, lV, lW, fV, cC, cD, lY, fX, qT, tM, qU, qW, qX, uB, uC, gq, mG, nj, nU, iy, nW, j8, kh, eG, j9, kY, qw, kZ, lg, qC, lu, lw, lA, qD, qF, startF, aiU, aiW, ai1, ai5, aiV, aiX, ai3, ai4, ai9, aja, ai2, aiZ, ai0, Nat.reduceAdd, Nat.reduceSub, Nat.reduceLeDiff, Nat.reduceLT, Nat.zero_add, and_true, true_and, and_self, false_and, and_false, not_true_eq_false, not_false_eq_true, eq_self, decide_true, decide_false, Bool.not_true, Bool.not_false, Bool.true_and, Bool.false_and, Bool.and_true, Bool.and_false, Bool.or_true, Bool.or_false, Bool.true_or, Bool.false_or, Option.map_some, Option.map_none, Int.toNat_natCast, ↓reduceIte, Bool.false_eq_true, reduceCtorEq, Int.cast_ofNat_Int, Int.reduceLT, Int.reduceLE, Int.reduceAdd, Int.reduceSub, Int.reduceNeg, Int.natCast_zero, pY, and_assoc, ↓uV, ↓uW, ↓uX, ↓uY, ↓uZ, ↓wH, ↓vQ, ↓vR, ↓wL, ↓aU, ↓Jy, ↓Jz, ↓JB, ↓JC, ↓JD, ↓Mr, ↓xV, ↓xW, ↓xX, ↓xY, ↓xZ, ↓yc, ↓ye, ↓yf, ↓yg, ↓yh, ↓yj, ↓ym, ↓vL, ↓vM, ↓xf, ↓vP, ↓u9, ↓vf, ↓vg, ↓wC, ↓Ep, aF, aG, aV, aP, aM, aW, aH, aX, aQ, az, aN, aY, aZ, au, wC, vg, vf, u9, e1, e2, hn, e3, lt, e4, own, fz]
 exact k4
theorem plain (ns : List Int) (hl : ns.length ≤ 63) : ∃ fr h, abW [.kl (ns.map Pk.D.int)] [] = .ok (.bl true) fr h := by
 unfold abW Vm
 refine afF (by decide) (by decide) (by decide) fun k xs h hk hx => ?_
 match xs, hx with
 | [x2, x3, x4, x5, x6, x7, x8, x9], _ => exact body (by omega) x2 x3 x4 x5 x6 x7 x8 x9
end
end L
namespace L
open PySem PySem.Spec PyProof.Rows L2
theorem facts {P : Program} {w : World} {K : PySem.W.Frag} {h : Heap} {mg : Str → Option Value} {f : Addr} (X : K.In h) (G : h.Ns mainGlobals mg) (hfa : mg ("law" : Str) = some (.ref f)) (c : cI K) :
 ∃ fd : FuncData, (∀ (s : Shared) (v : Value), BindsTo s fd ⟨[v], []⟩ [("_law_script", v)]) ∧ ∀ base : Heap, K.In base → base.Ns mainGlobals mg → FnOk P w K mg base (L2.CX P w) 11 f fd ["_law_script"] (Pk.spF K (T K) 1 abW) := by
 obtain ⟨fd, F⟩ := c.def_ (fn.length - 1) (d := aeH) rfl
 have e := hfa.symm.trans (He.glo_ok X G (c.fact (fa.length - 1) (f := .he (.glo "law")) rfl))
 cases e
 have b := FunD.bindsA (ps := ["_law_script"]) F fun _ _ _ _ _ _ us hl => match us, hl with | [_], _ => rfl
 exact ⟨fd, fun s v => b s [v] rfl, fun base Y Gb => Pk.fn_sim F agj (aee c Y Gb)⟩
end L
open PySem PySem.W PySem.Calls PyProof.Rows
theorem PySem.Challenge.cw_countrestarts_k78_variants_holds : PySem.Challenge.rw_countrestarts_k78_variants.Holds := by
 w_on; o_law
 refine HandSHeadRun.head_any (r := OpenLaw.row PySem.Challenge.rw_countrestarts_k78_variants) (q := L.vw) (H := L.hk) (ob := L.ob) (M := 20000) (loose := L.names) (d := HandSHeadRun.topDef (OpenLaw.row PySem.Challenge.rw_countrestarts_k78_variants).prog 53) (kwd := []) L.ob_eq
  (by kernel_rfl) (fun s => by kernel_rfl) L.run (by kernel_rfl) (by kernel_rfl) (by kernel_rfl) (by rfl) (by first | assumption | decide +kernel) (by decide +kernel) ⟨rfl, rfl, rfl, rfl, rfl, by decide +kernel⟩ ?hw ?hc
 case hw => w_witness2
 case hc =>
  refine L2.walk_ofE (l := PySem.Challenge.rw_countrestarts_k78_variants) (n := 63) (k := 11) (x := "_law_script") (CX := L2.CX0) rfl (by decide) (by kernel_rfl) ⟨rfl, by decide, by decide⟩ ?F (fun _ _ _ _ z => z)
  intro w mg fa h Y G hmg0
  obtain ⟨K, KX, c⟩ := Y
  have hmg : mg ("law" : PySem.Str) = some (.ref fa) := by
   have e : (HandSHeadRun.topDef (OpenLaw.row PySem.Challenge.rw_countrestarts_k78_variants).prog 53).name = ("law" : PySem.Str) := by kernel_rfl
   rw [← e]
   exact hmg0
  obtain ⟨fd, hb, hF⟩ := L.facts (P := (PySem.Challenge.rw_countrestarts_k78_variants).prog) (w := w) KX G hmg c
  exact ⟨K, fd, _, KX, hb, fun H a ns hl _ hS => (let ⟨fr, h, e⟩ := L.plain ns hl; Pk.law_sp hS e), fun base Y Gb => Pk.fn_cx0 (hF base Y Gb)⟩
