import PyProof.Rows.All
import Wide.All
import OpenK.AllK
import Wide.FinOn
import HandS.ForMost
import HandS.Exc
import HandS.IsInst
import HandS.Wide
import HandS.TupAny
import HandS.Conv
import HandS.Deep
import HandS.Property
import HandS.MakeKwOnly
import HandS.SortInts
import HandS.RaiseMore
import HandS.Style
import HandS.Zip
import HandS.CallSlots
import HandS.Defaults
import HandS.HeadHook1
import HandS.HeadHook2
import HandS.HeadHook3
import HandS.HeadHook4
import HandS.HeadEnd
import HandS.ExcIs
import HandS.ExcField
import KE.GoesMore
import PyProof.EnumMake
import PyProof.EnumFor
import HandS.Iter
import HandS.Star
import KE.KExcSuper
import KE.KSuper
import HandS.ExcInit
import KE.KStateDown
import HandS.Head0
import HandS.Head1
import HandS.Head2
import PySem.Challenge.RW_countrestarts_k78_variants
import KE.KExcIs
import HandS.TryOnly
import HandS.TryMany
import HandS.ClsMeth
import HandS.OwnEq
import PyProof.CallFns
import HandS.FStr
import PyProof.Rows.StrWeight2
import PyProof.Rows.StrSplitJoin
import PyProof.Rows.StrFin3
import HandS.ExcOwn
import KE.GoesSet
import HandS.Strs
import KE.KTupSum
import PyProof.Rows.RuleN_abs
import KE.KOpsOwn
import KE.KMethU
import HandS.Dict
import HandS.Flow
import HandS.MethStar
set_option Elab.async false
set_option linter.all false
set_option maxRecDepth 100000
set_option maxHeartbeats 40000000
set_option autoImplicit false
open List renaming map_cons → aiR, append_nil → aiS, map_nil → aiT, length_cons → aiU, drop_zero → aiV, set_cons_succ → aiW, set_cons_zero → aiX, cons_append → aiY, getElem?_cons_zero → aiZ, length_nil → ai0, replicate_succ → ai1, nil_append → ai2, take_succ_cons → ai3, take_zero → ai4, drop_succ_cons → ai5, replicate_zero → ai6, getElem?_cons_succ → ai7, mem_cons_self → ai8, getElem?_eq_getElem → ai9, lookup → aja, length_map → ajb, mem_cons_of_mem → ajc, getElem?_set_ne → ajd, getElem?_set_self → aje, length_set → ajf, mem_of_getElem? → ajg, length_append → ajh, getElem?_append_right → aji, getElem?_map → ajj
namespace Pk
open PySem PySem.Spec L2
inductive D where
 | non | bl (b : Bool) | int (i : Int) | str (s : Str)
 | tup (l : List D) | fl (l : List D) | nl (l : List D) | kl (l : List D)
 | obj (c : Nat) (fs : List D) | no (c : Nat) (fs : List D) | ref (n : Nat) | cls (c : Nat) | ty (t : String)
 | sl (lo hi : Option Int)
 /-- a dict with tuples for keys, in a cell: its keys, its values -/
 | dc (ks : List (List (Sum Int Str))) (ds : List D)
 deriving Inhabited
def D.own : D → Bool
 | .nl _ => true
 | .no _ _ => true
 | _ => false
def D.fz : D → D
 | .nl l => .fl l
 | .no c fs => .obj c fs
 | d => d
abbrev Fr := List (Option D)
abbrev Hh := List D
structure Tb where
 cad : Nat → Addr
 fld : Nat → List Str
structure Wd where
 F : Hp
 I : List Addr
def Wd.le (w w' : Wd) : Prop := (∀ a o, w.F a = some o → w'.F a = some o) ∧ ∃ r, w'.I = w.I ++ r
theorem Wd.le_refl (w : Wd) : w.le w := ⟨fun _ _ h => h, [], by simp⟩
theorem Wd.le_trans {a b c : Wd} (x : a.le b) (y : b.le c) : a.le c :=
 ⟨fun p o h => y.1 p o (x.1 p o h), by
  obtain ⟨r, e⟩ := x.2
  obtain ⟨q, f⟩ := y.2
  exact ⟨r ++ q, by rw [f, e, List.append_assoc]⟩⟩
theorem Wd.le_at {w w' : Wd} (x : w.le w') {n : Nat} {a : Addr} (h : w.I[n]? = some a) : w'.I[n]? = some a := by
 obtain ⟨r, e⟩ := x.2
 rw [e, List.getElem?_append_left (List.getElem?_eq_some_iff.mp h).1]
 exact h
theorem Wd.le_mem {w w' : Wd} (x : w.le w') {a : Addr} (h : a ∈ w.I) : a ∈ w'.I := by
 obtain ⟨r, e⟩ := x.2
 rw [e]
 exact List.mem_append_left _ h
theorem aev {F F' : Hp} (x : ∀ a o, F a = some o → F' a = some o) {a : Addr} {u : HO} (h : Rd F a u) : Rd F' a u := by
 rcases h with h | ⟨o, h⟩
 · exact .inl (x _ _ h)
 · exact .inr ⟨o, x _ _ h⟩
theorem Ba {K : PySem.W.Frag} {F F' : Hp} (x : ∀ a o, F a = some o → F' a = some o) {a : Addr} {vs : List V} (h : SqL K F a vs) : SqL K F' a vs := by
 rcases h with h | h
 · exact .inl (aev x h)
 · exact .inr h
theorem wN {K : PySem.W.Frag} {F F' : Hp} (x : ∀ a o, F a = some o → F' a = some o) {a : Addr} {vs : List V} (h : SqT K F a vs) : SqT K F' a vs := by
 rcases h with h | h
 · exact .inl (aev x h)
 · exact .inr h
def SlO (a : Addr) (lo hi : Option Int) (h : Heap) : Prop := ∃ vl vu, h.IsSliceOf a vl vu .none ∧ IsPart vl lo ∧ IsPart vu hi
mutual
inductive rC (K : PySem.W.Frag) (T : Tb) (w : Wd) : V → D → Prop where
 | non : rC K T w .non .non
 | bl (b : Bool) : rC K T w (.bl b) (.bl b)
 | int (i : Int) : rC K T w (.int i) (.int i)
 | str (s : Str) : rC K T w (.str s) (.str s)
 | tup {a : Addr} {vs : List V} {ds : List D} : SqT K w.F a vs → aO K T w vs ds → rC K T w (.ref a) (.tup ds)
 | fl {a : Addr} {vs : List V} {ds : List D} : w.F a = some (.lst vs) → aO K T w vs ds → rC K T w (.ref a) (.fl ds)
 | kl {a : Addr} {vs : List V} {ds : List D} : SqL K w.F a vs → aO K T w vs ds → rC K T w (.ref a) (.kl ds)
 | obj {a dx : Addr} {c : Nat} {vs : List V} {ds : List D} : w.F a = some (.ins (T.cad c) dx ((T.fld c).zip vs)) → aO K T w vs ds → rC K T w (.ref a) (.obj c ds)
 | ref {a : Addr} {n : Nat} : w.I[n]? = some a → rC K T w (.ref a) (.ref n)
 | cls (c : Nat) : rC K T w (.ref (T.cad c)) (.cls c)
 | ty (t : String) : rC K T w (.ty t) (.ty t)
 | sl {a : Addr} {lo hi : Option Int} : w.F a = some (.ext (SlO a lo hi)) → rC K T w (.ref a) (.sl lo hi)
inductive aO (K : PySem.W.Frag) (T : Tb) (w : Wd) : List V → List D → Prop where
 | nil : aO K T w [] []
 | cons {v : V} {d : D} {vs : List V} {ds : List D} : rC K T w v d → aO K T w vs ds → aO K T w (v :: vs) (d :: ds)
end
section
variable {K : PySem.W.Frag} {T : Tb} {w w' : Wd}
mutual
theorem rC.mono (x : w.le w') : ∀ {v : V} {d : D}, rC K T w v d → rC K T w' v d
 | _, _, .non => .non
 | _, _, .bl b => .bl b
 | _, _, .int i => .int i
 | _, _, .str s => .str s
 | _, _, .tup h t => .tup (wN x.1 h) (aO.mono x t)
 | _, _, .fl h t => .fl (x.1 _ _ h) (aO.mono x t)
 | _, _, .kl h t => .kl (Ba x.1 h) (aO.mono x t)
 | _, _, .obj h t => .obj (x.1 _ _ h) (aO.mono x t)
 | _, _, .ref h => .ref (Wd.le_at x h)
 | _, _, .cls c => .cls c
 | _, _, .ty t => .ty t
 | _, _, .sl h => .sl (x.1 _ _ h)
theorem aO.mono (x : w.le w') : ∀ {vs : List V} {ds : List D}, aO K T w vs ds → aO K T w' vs ds
 | _, _, .nil => .nil
 | _, _, .cons h t => .cons (rC.mono x h) (aO.mono x t)
end
theorem aO.length : ∀ {vs : List V} {ds : List D}, aO K T w vs ds → vs.length = ds.length
 | _, _, .nil => rfl
 | _, _, .cons _ t => congrArg Nat.succ (aO.length t)
theorem aO.get : ∀ {vs : List V} {ds : List D} {i : Nat} {d : D}, aO K T w vs ds → ds[i]? = some d → ∃ v, vs[i]? = some v ∧ rC K T w v d
 | _, _, _, _, .nil, e => by simp at e
 | _, _, 0, _, .cons h _, e => by
   simp at e
   subst e
   exact ⟨_, rfl, h⟩
 | _, _, i + 1, d, .cons _ t, e => by
   obtain ⟨v, h1, h2⟩ := aO.get (i := i) (d := d) t (by simpa using e)
   exact ⟨v, by simpa using h1, h2⟩
theorem aO.append : ∀ {vs us : List V} {ds es : List D}, aO K T w vs ds → aO K T w us es → aO K T w (vs ++ us) (ds ++ es)
 | _, _, _, _, .nil, t => t
 | _, _, _, _, .cons h r, t => .cons h (aO.append r t)
theorem aO.drop : ∀ {vs : List V} {ds : List D} (n : Nat), aO K T w vs ds → aO K T w (vs.drop n) (ds.drop n)
 | _, _, 0, h => h
 | _, _, _ + 1, .nil => .nil
 | _, _, n + 1, .cons _ t => aO.drop n t
theorem aO.take : ∀ {vs : List V} {ds : List D} (n : Nat), aO K T w vs ds → aO K T w (vs.take n) (ds.take n)
 | _, _, 0, _ => .nil
 | _, _, _ + 1, .nil => .nil
 | _, _, n + 1, .cons h t => .cons h (aO.take n t)
theorem aO.set : ∀ {vs : List V} {ds : List D} {v : V} {d : D} (n : Nat), aO K T w vs ds → rC K T w v d → aO K T w (vs.set n v) (ds.set n d)
 | _, _, _, _, _, .nil, _ => .nil
 | _, _, _, _, 0, .cons _ t, h => .cons h t
 | _, _, _, _, n + 1, .cons h t, k => .cons h (aO.set n t k)
theorem aO.ints : ∀ {vs : List V} {is : List Int}, aO K T w vs (is.map D.int) → vs = is.map V.int
 | _, [], .nil => rfl
 | _, i :: is, .cons h t => by
   cases h
   rw [aO.ints t]
   rfl
end
structure Bs where
 w0 : Wd
 H0 : Hp
 P : List (Addr × HO)
 /-- where an __init__'s own instance is: in slot 0, as long as that holds an object of the body's own -/
 me : Option Addr
abbrev Bs.of (w : Wd) (H : Hp) : Bs := ⟨w, H, [], none⟩
structure Own (B : Bs) (w : Wd) (p : Addr) : Prop where
 f : w.F p = none
 i : p ∉ w.I
 e : B.H0 p = none
 p : ∀ q ∈ B.P, q.1 ≠ p
inductive Bb (K : PySem.W.Frag) (T : Tb) (w : Wd) : HO → D → Prop where
 | lst {vs : List V} {ds : List D} : aO K T w vs ds → Bb K T w (.lst vs) (.nl ds)
 | obj {dx : Addr} {c : Nat} {vs : List V} {ds : List D} : aO K T w vs ds → Bb K T w (.ins (T.cad c) dx ((T.fld c).zip vs)) (.no c ds)
theorem Bb.own {K : PySem.W.Frag} {T : Tb} {w : Wd} {o : HO} {d : D} (x : Bb K T w o d) : d.own = true := by
 cases x <;> rfl
theorem Bb.mono {K : PySem.W.Frag} {T : Tb} {w w' : Wd} {o : HO} {d : D} (l : w.le w') (x : Bb K T w o d) : Bb K T w' o d := by
 cases x with
 | lst r => exact .lst (r.mono l)
 | obj r => exact .obj (r.mono l)
theorem Bb.fz {K : PySem.W.Frag} {T : Tb} {w w' : Wd} {o : HO} {d : D} {p : Addr} (l : w.le w') (e : w'.F p = some o) (x : Bb K T w o d) : rC K T w' (.ref p) d.fz := by
 cases x with
 | lst r => exact .fl e (r.mono l)
 | obj r => exact .obj e (r.mono l)
theorem N8 {K : PySem.W.Frag} {T : Tb} {w : Wd} {v : V} {d : D} (r : rC K T w v d) : d.own = false := by
 cases r <;> rfl
theorem aeR {K : PySem.W.Frag} {T : Tb} {w : Wd} {v : V} {d : D} (r : rC K T w v d) : d.fz = d := by
 cases r <;> rfl
theorem Dj {K : PySem.W.Frag} {T : Tb} {w : Wd} {v : V} {d : D} (o : d.own = true) (r : rC K T w v d) : False := by
 rw [N8 r] at o
 cases o
theorem ab7 (d : D) : d.fz.own = false := by
 cases d <;> rfl
inductive Oa (K : PySem.W.Frag) (T : Tb) (B : Bs) (w : Wd) (H : Hp) : Option V → Option D → Prop where
 | none {v : Option V} : Oa K T B w H v none
 | val {v : V} {d : D} : rC K T w v d → Oa K T B w H (some v) (some d)
 | own {p : Addr} {o : HO} {d : D} : Own B w p → H p = some o → Bb K T w o d → Oa K T B w H (some (.ref p)) (some d)
inductive JM (K : PySem.W.Frag) (T : Tb) (w : Wd) : HO → D → Prop where
 | lst {vs : List V} {ds : List D} : aO K T w vs ds → JM K T w (.lst vs) (.nl ds)
 | obj {dx : Addr} {c : Nat} {vs : List V} {ds : List D} : aO K T w vs ds → JM K T w (.ins (T.cad c) dx ((T.fld c).zip vs)) (.no c ds)
 | dct {ks : List (List Key)} {vs : List V} {ds : List D} : ks.length = ds.length → aO K T w vs ds → JM K T w (.dT (ks.zip vs)) (.dc ks ds)
theorem Bb.cel {K : PySem.W.Frag} {T : Tb} {w : Wd} {o : HO} {d : D} (x : Bb K T w o d) : JM K T w o d := by
 cases x with
 | lst r => exact .lst r
 | obj r => exact .obj r
theorem JM.mono {K : PySem.W.Frag} {T : Tb} {w w' : Wd} {o : HO} {d : D} (l : w.le w') (x : JM K T w o d) : JM K T w' o d := by
 cases x with
 | lst r => exact .lst (r.mono l)
 | obj r => exact .obj (r.mono l)
 | dct h r => exact .dct h (r.mono l)
def Mv (K : PySem.W.Frag) (T : Tb) (w : Wd) (H : Hp) (a : Addr) (d : D) : Prop := ∃ o, H a = some o ∧ JM K T w o d
def Fv (σ : St) (fr : Fr) (i : Nat) (p : Addr) : Prop := σ[i]? = some (some (.ref p)) ∧ ∃ d, fr[i]? = some (some d) ∧ d.own = true
structure Rel (K : PySem.W.Frag) (T : Tb) (B : Bs) (w : Wd) (σ : St) (H : Hp) (fr : Fr) (h : Hh) : Prop where
 le : B.w0.le w
 nF : ∀ a, w.F a ≠ none → B.w0.F a ≠ none ∨ B.H0 a = none
 nI : ∀ a ∈ w.I, a ∈ B.w0.I ∨ B.H0 a = none
 keep : ∀ a o, B.H0 a = some o → a ∉ B.w0.I → H a = some o
 prot : ∀ q ∈ B.P, H q.1 = some q.2 ∧ w.F q.1 = none ∧ q.1 ∉ w.I
 sub : ∀ a o, w.F a = some o → H a = some o
 len : w.I.length = h.length
 nd : w.I.Nodup
 dis : ∀ a ∈ w.I, w.F a = none
 cel : ∀ (n : Nat) a c, w.I[n]? = some a → h[n]? = some c → Mv K T w H a c
 fl : fr.length = σ.length
 sl : ∀ (i : Nat) s d, σ[i]? = some s → fr[i]? = some d → Oa K T B w H s d
 sep : ∀ i j p, i ≠ j → Fv σ fr i p → Fv σ fr j p → False
 me : ∀ x d, B.me = some x → fr[0]? = some (some d) → d.own = true → σ[0]? = some (some (.ref x))
section
variable {K : PySem.W.Frag} {T : Tb} {B : Bs} {w w' : Wd} {σ : St} {H H' : Hp} {fr : Fr} {h : Hh}
theorem Rel.nP (R : Rel K T B w σ H fr h) {p : Addr} (np : H p = none) : w.F p = none ∧ p ∉ w.I ∧ (∀ q ∈ B.P, q.1 ≠ p) := by
 refine ⟨?_, fun hm => ?_, fun q hq e => ?_⟩
 · cases e : w.F p with
   | none => rfl
   | some o =>
     have := R.sub p o e
     rw [np] at this
     cases this
 · obtain ⟨n, hn, e⟩ := List.getElem_of_mem hm
   have hl : n < h.length := by rw [← R.len]; exact hn
   obtain ⟨o, q, _⟩ := R.cel n p h[n] (by rw [ai9 hn, e]) (ai9 hl)
   rw [np] at q
   cases q
 · have z := (R.prot q hq).1
   rw [e, np] at z
   cases z
theorem Rel.iSome (R : Rel K T B w σ H fr h) {a : Addr} (hm : a ∈ w.I) : H a ≠ none := fun np => (R.nP np).2.1 hm
theorem Mv.keep {a : Addr} {c : D} (x : w.le w') (e : H' a = H a) (z : Mv K T w H a c) : Mv K T w' H' a c := by
 obtain ⟨o, q, r⟩ := z
 exact ⟨o, by rw [e]; exact q, r.mono x⟩
theorem Rel.grow (R : Rel K T B w σ H fr h) (x : w.le w') (eI : w'.I = w.I) (hk : ∀ a o, H a = some o → H' a = some o) (hF : ∀ a o, w'.F a = some o → H' a = some o)
 (hn : ∀ a, w'.F a ≠ none → w.F a ≠ none ∨ H a = none) (he : ∀ a, H a = none → B.H0 a = none ∨ True) : Rel K T B w' σ H' fr h where
 le := Wd.le_trans R.le x
 nF := fun a ha => by
  rcases hn a ha with q | q
  · exact R.nF a q
  · right
    cases e : B.H0 a with
    | none => rfl
    | some o =>
      by_cases hm : a ∈ B.w0.I
      · exact absurd q (R.iSome (Wd.le_mem R.le hm))
      · have := R.keep a o e hm
        rw [q] at this
        cases this
 nI := fun a ha => R.nI a (by rw [← eI]; exact ha)
 keep := fun a o e hm => hk a o (R.keep a o e hm)
 prot := fun q hq => by
  obtain ⟨h1, h2, h3⟩ := R.prot q hq
  refine ⟨hk _ _ h1, ?_, by rw [eI]; exact h3⟩
  cases e : w'.F q.1 with
  | none => rfl
  | some o =>
    rcases hn q.1 (by rw [e]; simp) with z | z
    · exact absurd h2 z
    · rw [h1] at z
      cases z
 sub := hF
 len := by rw [eI]; exact R.len
 nd := by rw [eI]; exact R.nd
 dis := fun a ha => by
  have hm : a ∈ w.I := by rw [← eI]; exact ha
  cases e : w'.F a with
  | none => rfl
  | some o =>
    rcases hn a (by rw [e]; simp) with z | z
    · exact absurd (R.dis a hm) z
    · exact absurd z (R.iSome hm)
 cel := fun n a c e1 e2 => by
  have e1' : w.I[n]? = some a := by rw [← eI]; exact e1
  have z := R.cel n a c e1' e2
  refine Mv.keep x ?_ z
  have hs := R.iSome (ajg e1')
  cases q : H a with
  | none => exact absurd q hs
  | some o => exact hk a o q
 fl := R.fl
 sl := fun i s d e1 e2 => by
  have z := R.sl i s d e1 e2
  cases z with
  | none => exact .none
  | val r => exact .val (r.mono x)
  | own o e r =>
    refine .own ⟨?_, by rw [eI]; exact o.i, o.e, o.p⟩ (hk _ _ e) (r.mono x)
    cases q : w'.F _ with
    | none => rfl
    | some u =>
      rcases hn _ (by rw [q]; simp) with z | z
      · exact absurd o.f z
      · rw [e] at z
        cases z
 sep := R.sep
 me := R.me
def Wd.add (w : Wd) (p : Addr) (o : HO) : Wd := ⟨upd w.F p o, w.I⟩
theorem Wd.le_add {p : Addr} {o : HO} (e : w.F p = none) : w.le (w.add p o) :=
 ⟨fun a u h => by
  show upd w.F p o a = some u
  rw [upd_ne (ne_of_none h e)]
  exact h, [], by simp [Wd.add]⟩
theorem Rel.laid (R : Rel K T B w σ H fr h) {p : Addr} {o : HO} (np : H p = none) : Rel K T B (w.add p o) σ (upd H p o) fr h := by
 refine R.grow (Wd.le_add (R.nP np).1) rfl (fun a u e => ?_) (fun a u e => ?_) (fun a e => ?_) (fun _ _ => .inr trivial)
 · rw [upd_ne (ne_of_none e np)]
   exact e
 · have e' : upd w.F p o a = some u := e
   by_cases ha : a = p
   · subst ha
     rw [upd_same] at e' ⊢
     exact e'
   · rw [upd_ne ha] at e' ⊢
     exact R.sub a u e'
 · have e' : upd w.F p o a ≠ none := e
   by_cases ha : a = p
   · subst ha
     exact .inr np
   · rw [upd_ne ha] at e'
     exact .inl e'
theorem Rel.temp (R : Rel K T B w σ H fr h) {p : Addr} {o : HO} (np : H p = none) : Rel K T B w σ (upd H p o) fr h :=
 R.grow (Wd.le_refl w) rfl (fun a u e => by rw [upd_ne (ne_of_none e np)]; exact e) (fun a u e => by rw [upd_ne (ne_of_none (R.sub a u e) np)]; exact R.sub a u e) (fun a e => .inl e) (fun _ _ => .inr trivial)
theorem Rel.own_new (R : Rel K T B w σ H fr h) {p : Addr} (np : H p = none) : Own B w p := by
 obtain ⟨h1, h2, h3⟩ := R.nP np
 refine ⟨h1, h2, ?_, h3⟩
 cases e : B.H0 p with
 | none => rfl
 | some o =>
   by_cases hm : p ∈ B.w0.I
   · exact absurd np (R.iSome (Wd.le_mem R.le hm))
   · have := R.keep p o e hm
     rw [np] at this
     cases this
def Fw (σ : St) (fr : Fr) (p : Addr) : Prop := ∀ i, ¬ Fv σ fr i p
theorem Rel.loose_new (R : Rel K T B w σ H fr h) {p : Addr} (np : H p = none) : Fw σ fr p := fun i ⟨e1, d, e2, od⟩ => by
 have z := R.sl i _ _ e1 e2
 cases z with
 | val r => exact Dj od r
 | own o e r =>
   rw [np] at e
   cases e
theorem Rel.freeze (R : Rel K T B w σ H fr h) {p : Addr} {o : HO} (O : Own B w p) (l : Fw σ fr p) (e : H p = some o) : Rel K T B (w.add p o) σ H fr h where
 le := Wd.le_trans R.le (Wd.le_add O.f)
 nF := fun a ha => by
  have e' : upd w.F p o a ≠ none := ha
  by_cases hp : a = p
  · subst hp
    exact .inr O.e
  · rw [upd_ne hp] at e'
    exact R.nF a e'
 nI := R.nI
 keep := R.keep
 prot := fun q hq => by
  obtain ⟨h1, h2, h3⟩ := R.prot q hq
  refine ⟨h1, ?_, h3⟩
  show upd w.F p o q.1 = none
  rw [upd_ne (O.p q hq)]
  exact h2
 sub := fun a u ha => by
  have e' : upd w.F p o a = some u := ha
  by_cases hp : a = p
  · subst hp
    rw [upd_same] at e'
    rw [← e']
    exact e
  · rw [upd_ne hp] at e'
    exact R.sub a u e'
 len := R.len
 nd := R.nd
 dis := fun a ha => by
  show upd w.F p o a = none
  have hne : a ≠ p := fun z => O.i (by rw [← z]; exact ha)
  rw [upd_ne hne]
  exact R.dis a ha
 cel := fun n a c e1 e2 => Mv.keep (Wd.le_add O.f) rfl (R.cel n a c e1 e2)
 fl := R.fl
 sl := fun i s d e1 e2 => by
  have z := R.sl i s d e1 e2
  cases z with
  | none => exact .none
  | val r => exact .val (r.mono (Wd.le_add O.f))
  | @own q _ _ o' e' r =>
    refine .own ⟨?_, o'.i, o'.e, o'.p⟩ e' (r.mono (Wd.le_add O.f))
    show upd w.F p o q = none
    have hne : q ≠ p := fun z => l i ⟨by rw [← z]; exact e1, _, e2, r.own⟩
    rw [upd_ne hne]
    exact o'.f
 sep := R.sep
 me := R.me
theorem Qc {σ : St} {fr : Fr} {i j : Nat} {s : Option V} {d : Option D} {p : Addr} (hi : i ≠ j) (o : Fv (σ.set j s) (fr.set j d) i p) : Fv σ fr i p := by
 obtain ⟨e1, dd, e2, od⟩ := o
 rw [ajd (Ne.symm hi)] at e1 e2
 exact ⟨e1, dd, e2, od⟩
theorem Rel.set_slot (R : Rel K T B w σ H fr h) {i : Nat} {s : Option V} {d : Option D} (r : Oa K T B w H s d) (hp : ∀ p d', s = some (.ref p) → d = some d' → d'.own = true → Fw σ fr p) (hm : i = 0 → ∀ d', d = some d' → d'.own = false) : Rel K T B w (σ.set i s) H (fr.set i d) h :=
 { R with
   me := fun x d' bx e od => by
    by_cases hi : i = 0
    · subst hi
      have l2 : 0 < fr.length := by
       have := (List.getElem?_eq_some_iff.mp e).1
       rwa [ajf] at this
      rw [aje l2] at e
      rw [hm rfl d' (Option.some.inj e)] at od
      cases od
    · rw [ajd hi] at e ⊢
      exact R.me x d' bx e od
   fl := by rw [ajf, ajf]; exact R.fl
   sl := fun j s' d' e1 e2 => by
    by_cases hj : i = j
    · subst hj
      have l1 : i < σ.length := by
       have := (List.getElem?_eq_some_iff.mp e1).1
       rwa [ajf] at this
      rw [aje l1] at e1
      rw [aje (by rw [R.fl]; exact l1)] at e2
      cases e1
      cases e2
      exact r
    · rw [ajd hj] at e1 e2
      exact R.sl j s' d' e1 e2
   sep := fun a b p hab o1 o2 => by
    have key : ∀ a b, a ≠ b → a = i → Fv (σ.set i s) (fr.set i d) a p → Fv (σ.set i s) (fr.set i d) b p → False := fun a b hab ha o1 o2 => by
     subst ha
     have o2' := Qc (Ne.symm hab) o2
     obtain ⟨e1, dd, e2, od⟩ := o1
     have l1 : a < σ.length := by
      have := (List.getElem?_eq_some_iff.mp e1).1
      rwa [ajf] at this
     rw [aje l1] at e1
     rw [aje (by rw [R.fl]; exact l1)] at e2
     cases e1
     cases e2
     exact hp p dd rfl rfl od b o2'
    by_cases ha : a = i
    · exact key a b hab ha o1 o2
    · by_cases hb : b = i
      · exact key b a (Ne.symm hab) hb o2 o1
      · exact R.sep a b p hab (Qc ha o1) (Qc hb o2) }
theorem Rel.drop_slot (R : Rel K T B w σ H fr h) (i : Nat) : Rel K T B w σ H (fr.set i none) h :=
 { R with
   me := fun x d' bx e od => by
    by_cases hi : i = 0
    · subst hi
      have l2 : 0 < fr.length := by
       have := (List.getElem?_eq_some_iff.mp e).1
       rwa [ajf] at this
      rw [aje l2] at e
      cases e
    · rw [ajd hi] at e
      exact R.me x d' bx e od
   fl := by rw [ajf]; exact R.fl
   sl := fun j s' d' e1 e2 => by
    by_cases hj : i = j
    · subst hj
      have l2 : i < fr.length := by
       have := (List.getElem?_eq_some_iff.mp e2).1
       rwa [ajf] at this
      rw [aje l2] at e2
      cases e2
      exact .none
    · rw [ajd hj] at e2
      exact R.sl j s' d' e1 e2
   sep := fun a b p hab o1 o2 => by
    have key : ∀ a, Fv σ (fr.set i none) a p → Fv σ fr a p := fun a o => by
     obtain ⟨e1, dd, e2, od⟩ := o
     by_cases ha : i = a
     · subst ha
       have l2 : i < fr.length := by
        have := (List.getElem?_eq_some_iff.mp e2).1
        rwa [ajf] at this
       rw [aje l2] at e2
       cases e2
     · rw [ajd ha] at e2
       exact ⟨e1, dd, e2, od⟩
    exact R.sep a b p hab (key a o1) (key b o2) }
theorem Rel.freeze_slot (R : Rel K T B w σ H fr h) {i : Nat} {d : D} (e : fr[i]? = some (some d)) (od : d.own = true) :
 ∃ p o, σ[i]? = some (some (.ref p)) ∧ H p = some o ∧ Bb K T w o d ∧ w.F p = none ∧ Rel K T B (w.add p o) σ H (fr.set i (some d.fz)) h := by
 have l2 : i < fr.length := (List.getElem?_eq_some_iff.mp e).1
 have l1 : i < σ.length := by rw [← R.fl]; exact l2
 have e1 : σ[i]? = some σ[i] := ai9 l1
 have z := R.sl i _ _ e1 e
 generalize hs : σ[i] = s at z e1
 cases z with
 | val r => exact (Dj od r).elim
 | @own p o _ O eH r =>
   refine ⟨p, o, e1, eH, r, O.f, ?_⟩
   have R1 := R.drop_slot i
   have lo : Fw σ (fr.set i none) p := fun j q => by
    obtain ⟨q1, dq, q2, oq⟩ := q
    by_cases hj : i = j
    · subst hj
      rw [aje l2] at q2
      cases q2
    · rw [ajd hj] at q2
      exact R.sep i j p hj ⟨e1, d, e, od⟩ ⟨q1, dq, q2, oq⟩
   have R2 := R1.freeze O lo eH
   have R3 := R2.set_slot (i := i) (s := some (.ref p)) (d := some d.fz) (.val (r.fz (Wd.le_add O.f) (by show upd w.F p _ p = _; rw [upd_same]))) (fun _ _ _ q oq => by
    cases q
    rw [ab7] at oq
    cases oq) (fun _ d' q => by
    cases q
    exact ab7 d)
   rw [List.set_set] at R3
   have es : σ.set i (some (.ref p)) = σ := by
    have := List.set_getElem_self (as := σ) (h := l1)
    rw [hs] at this
    exact this
   rw [es] at R3
   exact R3
theorem Ye {α : Type} : ∀ {l : List α} {i j : Nat} {a : α}, l.Nodup → l[i]? = some a → l[j]? = some a → i = j
 | [], _, _, _, _, e, _ => by simp at e
 | b :: l, 0, 0, _, _, _, _ => rfl
 | b :: l, 0, j + 1, a, n, e1, e2 => by
   simp at e1 e2
   subst e1
   exact absurd (ajg e2) (List.nodup_cons.mp n).1
 | b :: l, i + 1, 0, a, n, e1, e2 => by
   simp at e1 e2
   subst e2
   exact absurd (ajg e1) (List.nodup_cons.mp n).1
 | b :: l, i + 1, j + 1, a, n, e1, e2 => by
   simp at e1 e2
   rw [Ye (List.nodup_cons.mp n).2 e1 e2]
theorem Rel.change_slot (R : Rel K T B w σ H fr h) {i : Nat} {d d' : D} {p : Addr} {o o' : HO} (e1 : σ[i]? = some (some (.ref p))) (e : fr[i]? = some (some d)) (O : Own B w p) (eH : H p = some o) (od : d.own = true) (r' : Bb K T w o' d') :
 Rel K T B w σ (upd H p o') (fr.set i (some d')) h := by
 have l2 : i < fr.length := (List.getElem?_eq_some_iff.mp e).1
 have l1 : i < σ.length := by rw [← R.fl]; exact l2
 refine { R with keep := fun a u ha hm => ?_, prot := fun q hq => ?_, sub := fun a u ha => ?_, cel := fun n a c q1 q2 => ?_, fl := by rw [ajf]; exact R.fl, sl := fun j s dj q1 q2 => ?_, sep := fun a b q hab o1 o2 => ?_, me := fun x dx bx q od' => ?_ }
 · rw [upd_ne (fun z => by rw [z, O.e] at ha; cases ha)]
   exact R.keep a u ha hm
 · obtain ⟨h1, h2, h3⟩ := R.prot q hq
   exact ⟨by rw [upd_ne (O.p q hq)]; exact h1, h2, h3⟩
 · rw [upd_ne (fun z => by rw [z, O.f] at ha; cases ha)]
   exact R.sub a u ha
 · refine Mv.keep (Wd.le_refl w) ?_ (R.cel n a c q1 q2)
   exact upd_ne (fun z => O.i (z ▸ ajg q1))
 · by_cases hj : i = j
   · subst hj
     rw [e1] at q1
     rw [aje l2] at q2
     cases q1
     cases q2
     exact .own O upd_same r'
   · rw [ajd hj] at q2
     have z := R.sl j s dj q1 q2
     cases z with
     | none => exact .none
     | val r => exact .val r
     | @own q u _ O' eH' rr =>
       refine .own O' ?_ rr
       have hne : q ≠ p := fun z => R.sep i j p hj ⟨e1, d, e, od⟩ ⟨by rw [← z]; exact q1, _, q2, rr.own⟩
       rw [upd_ne hne]
       exact eH'
 · have key : ∀ a, Fv σ (fr.set i (some d')) a q → Fv σ fr a q := fun a ⟨q1, dq, q2, oq⟩ => by
    by_cases ha : i = a
    · subst ha
      exact ⟨q1, d, e, od⟩
    · rw [ajd ha] at q2
      exact ⟨q1, dq, q2, oq⟩
   exact R.sep a b q hab (key a o1) (key b o2)
 · by_cases hi : i = 0
   · subst hi
     exact R.me x d bx e od
   · rw [ajd hi] at q
     exact R.me x dx bx q od'
theorem Rel.change_cell (R : Rel K T B w σ H fr h) {n : Nat} {a : Addr} {d d' : D} {o' : HO} (e1 : w.I[n]? = some a) (e : h[n]? = some d) (r' : JM K T w o' d') : Rel K T B w σ (upd H a o') fr (h.set n d') := by
 have hm : a ∈ w.I := ajg e1
 have lh : n < h.length := (List.getElem?_eq_some_iff.mp e).1
 refine { R with keep := fun b u hb hn => ?_, prot := fun q hq => ?_, sub := fun b u hb => ?_, len := by rw [ajf]; exact R.len, cel := fun k b c q1 q2 => ?_, sl := fun j s dj q1 q2 => ?_ }
 · rw [upd_ne (fun z => by
    subst z
    rcases R.nI _ hm with q | q
    · exact hn q
    · rw [q] at hb
      cases hb)]
   exact R.keep b u hb hn
 · obtain ⟨h1, h2, h3⟩ := R.prot q hq
   have hne : q.1 ≠ a := fun z => h3 (by rw [z]; exact hm)
   exact ⟨by rw [upd_ne hne]; exact h1, h2, h3⟩
 · rw [upd_ne (fun z => by rw [z, R.dis a hm] at hb; cases hb)]
   exact R.sub b u hb
 · by_cases hk : n = k
   · subst hk
     rw [e1] at q1
     rw [aje lh] at q2
     cases q1
     cases q2
     exact ⟨o', upd_same, r'⟩
   · rw [ajd hk] at q2
     refine Mv.keep (Wd.le_refl w) (upd_ne fun z => ?_) (R.cel k b c q1 q2)
     subst z
     exact hk (Ye R.nd e1 q1)
 · have z := R.sl j s dj q1 q2
   cases z with
   | none => exact .none
   | val r => exact .val r
   | @own q u _ O' eH' rr =>
     have hne : q ≠ a := fun z => O'.i (by rw [z]; exact hm)
     exact .own O' (by rw [upd_ne hne]; exact eH') rr
theorem Rel.to_cellO (R : Rel K T B w σ H fr h) {p : Addr} {o : HO} {d : D} (O : Own B w p) (lo : Fw σ fr p) (e : H p = some o) (r : JM K T w o d) : Rel K T B ⟨w.F, w.I ++ [p]⟩ σ H fr (h ++ [d]) := by
 have le : w.le ⟨w.F, w.I ++ [p]⟩ := ⟨fun _ _ q => q, [p], rfl⟩
 refine ⟨Wd.le_trans R.le le, R.nF, fun a ha => ?_, R.keep, fun q hq => ?_, R.sub, ?_, ?_, fun a ha => ?_, fun n a c q1 q2 => ?_, R.fl, fun j s dj q1 q2 => ?_, R.sep, R.me⟩
 · rcases List.mem_append.mp ha with q | q
   · exact R.nI a q
   · rw [List.mem_singleton] at q
     subst q
     exact .inr O.e
 · obtain ⟨h1, h2, h3⟩ := R.prot q hq
   refine ⟨h1, h2, fun z => ?_⟩
   rcases List.mem_append.mp z with y | y
   · exact h3 y
   · rw [List.mem_singleton] at y
     exact O.p q hq y
 · show (w.I ++ [p]).length = (h ++ [d]).length
   rw [ajh, ajh, R.len]
   rfl
 · show (w.I ++ [p]).Nodup
   rw [List.nodup_append]
   exact ⟨R.nd, by simp, fun a ha b hb => by
    rw [List.mem_singleton] at hb
    subst hb
    exact fun z => O.i (z ▸ ha)⟩
 · rcases List.mem_append.mp ha with q | q
   · exact R.dis a q
   · rw [List.mem_singleton] at q
     subst q
     exact O.f
 · have q1' : (w.I ++ [p])[n]? = some a := q1
   by_cases hn : n < w.I.length
   · rw [List.getElem?_append_left hn] at q1'
     rw [List.getElem?_append_left (by rw [← R.len]; exact hn)] at q2
     exact Mv.keep le rfl (R.cel n a c q1' q2)
   · have hn' : w.I.length ≤ n := Nat.le_of_not_lt hn
     rw [aji hn'] at q1'
     rw [aji (by rw [← R.len]; exact hn'), ← R.len] at q2
     cases k : n - w.I.length with
     | zero =>
       rw [k] at q1' q2
       cases q1'
       cases q2
       exact ⟨o, e, r.mono le⟩
     | succ m =>
       rw [k] at q1'
       simp at q1'
 · have z := R.sl j s dj q1 q2
   cases z with
   | none => exact .none
   | val r => exact .val (r.mono le)
   | @own q u _ O' eH' rr =>
     refine .own ⟨O'.f, fun z => ?_, O'.e, O'.p⟩ eH' (rr.mono le)
     rcases List.mem_append.mp z with y | y
     · exact O'.i y
     · rw [List.mem_singleton] at y
       exact lo j ⟨by rw [← y]; exact q1, _, q2, rr.own⟩
theorem Rel.to_cell (R : Rel K T B w σ H fr h) {p : Addr} {o : HO} {d : D} (O : Own B w p) (lo : Fw σ fr p) (e : H p = some o) (r : Bb K T w o d) : Rel K T B ⟨w.F, w.I ++ [p]⟩ σ H fr (h ++ [d]) := R.to_cellO O lo e r.cel
theorem Qe {i : Nat} {p : Addr} : ¬ Fv [] [] i p := fun ⟨q, _⟩ => by simp at q
theorem Rel.enter (R : Rel K T B w σ H fr h) : Rel K T (Bs.of w H) w [] H [] h where
 le := Wd.le_refl w
 nF := fun _ q => .inl q
 nI := fun _ q => .inl q
 keep := fun _ _ q _ => q
 prot := fun _ q => by cases q
 sub := R.sub
 len := R.len
 nd := R.nd
 dis := R.dis
 cel := R.cel
 fl := rfl
 sl := fun _ _ _ q => by simp at q
 sep := fun _ _ _ _ q => (Qe q).elim
 me := fun _ _ _ q _ => by simp at q
theorem Rel.unframe (R : Rel K T B w σ H fr h) : Rel K T B w [] H [] h where
 le := R.le
 nF := R.nF
 nI := R.nI
 keep := R.keep
 prot := R.prot
 sub := R.sub
 len := R.len
 nd := R.nd
 dis := R.dis
 cel := R.cel
 fl := rfl
 sl := fun _ _ _ q => by simp at q
 sep := fun _ _ _ _ q => (Qe q).elim
 me := fun _ _ _ q _ => by simp at q
theorem Rel.back {h' : Hh} (R : Rel K T B w σ H fr h) (x : w.le w') (C : Rel K T (Bs.of w H) w' [] H' [] h') : Rel K T B w' σ H' fr h' where
 le := Wd.le_trans R.le x
 nF := fun a ha => by
  rcases C.nF a ha with q | q
  · exact R.nF a q
  · exact .inr (R.own_new q).e
 nI := fun a ha => by
  rcases C.nI a ha with q | q
  · exact R.nI a q
  · exact .inr (R.own_new q).e
 keep := fun a o e hm => C.keep a o (R.keep a o e hm) fun z => by
  rcases R.nI a z with q | q
  · exact hm q
  · rw [q] at e
    cases e
 prot := fun q hq => by
  obtain ⟨h1, h2, h3⟩ := R.prot q hq
  refine ⟨C.keep _ _ h1 h3, ?_, fun z => ?_⟩
  · cases e : w'.F q.1 with
    | none => rfl
    | some o =>
      rcases C.nF q.1 (by rw [e]; simp) with y | y
      · exact absurd h2 y
      · have y' : H q.1 = none := y
        rw [h1] at y'
        cases y'
  · rcases C.nI _ z with y | y
    · exact h3 y
    · have y' : H q.1 = none := y
      rw [h1] at y'
      cases y'
 sub := C.sub
 len := C.len
 nd := C.nd
 dis := C.dis
 cel := C.cel
 fl := R.fl
 sl := fun i s d e1 e2 => by
  have z := R.sl i s d e1 e2
  cases z with
  | none => exact .none
  | val r => exact .val (r.mono x)
  | @own p o _ O eH rr =>
    refine .own ⟨?_, fun z => ?_, O.e, O.p⟩ (C.keep _ _ eH O.i) (rr.mono x)
    · cases e : w'.F p with
      | none => rfl
      | some o =>
        rcases C.nF p (by rw [e]; simp) with y | y
        · exact absurd O.f y
        · have y' : H p = none := y
          rw [eH] at y'
          cases y'
    · rcases C.nI _ z with y | y
      · exact O.i y
      · have y' : H p = none := y
        rw [eH] at y'
        cases y'
 sep := R.sep
 me := R.me
end
end Pk
namespace Pk
open PySem PySem.Spec L2
structure bh where
 c : Nat
 fs : List D
inductive R (α : Type) where
 | ok (a : α) (fr : Fr) (h : Hh)
 | exc (x : bh) (fr : Fr) (h : Hh)
 | err
abbrev M (α : Type) := Fr → Hh → R α
def M.ret {α : Type} (a : α) : M α := fun fr h => .ok a fr h
def M.bind {α β : Type} (m : M α) (f : α → M β) : M β := fun fr h => match m fr h with
 | .ok a fr h => f a fr h
 | .exc x fr h => .exc x fr h
 | .err => .err
def M.opt {α : Type} (o : Option α) : M α := fun fr h => match o with
 | some a => .ok a fr h
 | none => .err
@[simp] theorem M.bind_ret {α β : Type} (a : α) (f : α → M β) : (M.ret a).bind f = f a := rfl
@[simp] theorem M.ret_ap {α : Type} (a : α) (fr : Fr) (h : Hh) : M.ret a fr h = .ok a fr h := rfl
@[simp] theorem M.opt_some {α : Type} (a : α) (fr : Fr) (h : Hh) : M.opt (some a) fr h = .ok a fr h := rfl
@[simp] theorem M.opt_none {α : Type} (fr : Fr) (h : Hh) : M.opt (none : Option α) fr h = .err := rfl
theorem M.bind_ok {α β : Type} {m : M α} {f : α → M β} {fr fr1 : Fr} {h h1 : Hh} {a : α} (e : m fr h = .ok a fr1 h1) : m.bind f fr h = f a fr1 h1 := by
 unfold M.bind
 rw [e]
theorem M.bind_exc {α β : Type} {m : M α} {f : α → M β} {fr fr1 : Fr} {h h1 : Hh} {x : bh} (e : m fr h = .exc x fr1 h1) : m.bind f fr h = .exc x fr1 h1 := by
 unfold M.bind
 rw [e]
theorem M.bind_err {α β : Type} {m : M α} {f : α → M β} {fr : Fr} {h : Hh} (e : m fr h = .err) : m.bind f fr h = .err := by
 unfold M.bind
 rw [e]
def VN (K : PySem.W.Frag) (T : Tb) (w : Wd) (x : bh) (cls : Value) (dd : Option Addr) : Prop :=
 cls = .ref (T.cad x.c) ∧ ((x.fs = [] ∧ dd = none) ∨ ∃ d vs, dd = some d ∧ w.F d = some (.xd ((T.fld x.c).zip vs)) ∧ aO K T w vs x.fs)
section
variable {α β : Type}
def bu (K : PySem.W.Frag) (T : Tb) (B : Bs) (W : WX) (VR : Wd → Hp → Fr → β → α → Prop) (w : Wd) (σ : L2.St) (r : R α) (Q : β → Hp → Prop) : Prop :=
 match r with
 | .ok d fr h => ∀ w' H' v, w.le w' → Rel K T B w' σ H' fr h → VR w' H' fr v d → Q v H'
 | .exc x fr h => ∀ w' H' cls dd, w.le w' → Rel K T B w' σ H' fr h → VN K T w' x cls dd → W cls dd σ H'
 | .err => False
end
abbrev wJ (β α : Type) := PySem.W.Frag → Tb → Bs → L2.St → Wd → Hp → Fr → β → α → Prop
def vV : wJ V D := fun K T _ _ w _ _ v d => rC K T w v d
def vE : wJ V D := fun K T B σ w H fr v d => rC K T w v d ∨ ∃ p o, v = .ref p ∧ Own B w p ∧ Fw σ fr p ∧ H p = some o ∧ Bb K T w o d
def vO : wJ V D := fun K T _ _ w H _ v d => rC K T w v d ∨ ∃ p o, v = .ref p ∧ H p = some o ∧ Bb K T w o d
def vB : wJ Bool Bool := fun _ _ _ _ _ _ _ b c => b = c
def vA : wJ (List V) (List D) := fun K T _ _ w _ _ vs ds => aO K T w vs ds
def wF {α β : Type} (run : L2.St → Hp → (β → Hp → Prop) → Prop) (K : PySem.W.Frag) (T : Tb) (W : WX) (VR : wJ β α) (m : M α) : Prop :=
 ∀ (B : Bs) (w : Wd) (σ : L2.St) (H : Hp) (fr : Fr) (h : Hh) (Q : β → Hp → Prop), Rel K T B w σ H fr h → bu K T B W (VR K T B σ) w σ (m fr h) Q → run σ H Q
section
variable {α β γ δ : Type} {K : PySem.W.Frag} {T : Tb} {B : Bs} {W : WX} {w w' : Wd} {σ : L2.St} {H : Hp}
theorem bu.le {VR : Wd → Hp → Fr → β → α → Prop} {r : R α} {Q : β → Hp → Prop} (x : w.le w') (p : bu K T B W VR w σ r Q) : bu K T B W VR w' σ r Q := by
 cases r with
 | ok d fr h => exact fun w2 H2 v y => p w2 H2 v (Wd.le_trans x y)
 | exc e fr h => exact fun w2 H2 c d y => p w2 H2 c d (Wd.le_trans x y)
 | err => exact p
theorem bu.imp {VR : Wd → Hp → Fr → β → α → Prop} {r : R α} {Q Q' : β → Hp → Prop} (p : bu K T B W VR w σ r Q) (hq : ∀ v H, Q v H → Q' v H) : bu K T B W VR w σ r Q' := by
 cases r with
 | ok d fr h => exact fun w2 H2 v y r z => hq _ _ (p w2 H2 v y r z)
 | exc e fr h => exact p
 | err => exact p
theorem bu.bind {VR : Wd → Hp → Fr → γ → δ → Prop} {VR' : Wd → Hp → Fr → β → α → Prop} {m : M δ} {f : δ → M α} {fr : Fr} {h : Hh} {Q : β → Hp → Prop} {Q' : γ → Hp → Prop} (p : bu K T B W VR' w σ (m.bind f fr h) Q)
 (k : ∀ d fr1 h1 w1 H1 v, m fr h = .ok d fr1 h1 → w.le w1 → Rel K T B w1 σ H1 fr1 h1 → VR w1 H1 fr1 v d → bu K T B W VR' w1 σ (f d fr1 h1) Q → Q' v H1) : bu K T B W VR w σ (m fr h) Q' := by
 cases e : m fr h with
 | ok d fr1 h1 =>
   rw [M.bind_ok e] at p
   exact fun w1 H1 v x r z => k d fr1 h1 w1 H1 v e x r z (p.le x)
 | exc y fr1 h1 =>
   rw [M.bind_exc e] at p
   exact p
 | err =>
   rw [M.bind_err e] at p
   exact p
theorem wF.bind {run1 : L2.St → Hp → (γ → Hp → Prop) → Prop} {run2 : γ → L2.St → Hp → (β → Hp → Prop) → Prop} {VR1 : wJ γ δ} {VR : wJ β α} {m : M δ} {f : δ → M α} (s1 : wF run1 K T W VR1 m)
 (s2 : ∀ B w σ H fr h d v Q, Rel K T B w σ H fr h → VR1 K T B σ w H fr v d → bu K T B W (VR K T B σ) w σ (f d fr h) Q → run2 v σ H Q) :
 wF (fun σ H Q => run1 σ H fun v H1 => run2 v σ H1 Q) K T W VR (m.bind f) := fun B w σ H fr h Q r p =>
 s1 B w σ H fr h _ r (p.bind fun d fr1 h1 w1 H1 v e x r1 z p1 => s2 B w1 σ H1 fr1 h1 d v Q r1 z p1)
end
structure WE (X : Cx) (e : Expr) (σ : L2.St) (H : Hp) (Q : VK) : Prop where
 go : ∀ pins s, Inv X pins σ H s → wpAny (model X.prog X.w) X.A (eval e X.env) (EP X pins σ Q) X.xe s
structure WT (X : Cx) (e : Expr) (σ : L2.St) (H : Hp) (Q : Bool → Hp → Prop) : Prop where
 go : ∀ pins s, Inv X pins σ H s → wpAny (model X.prog X.w) X.A (isTrue e X.env (eval e X.env)) (TP X pins σ Q) X.xe s
structure WW (X : Cx) (e : Expr) (σ : L2.St) (H : Hp) (Q : Bool → Hp → Prop) : Prop where
 go : ∀ whole pins s, Inv X pins σ H s → wpAny (model X.prog X.w) X.A (isTrue e X.env whole) (TP X pins σ Q) X.xe s
structure WA (X : Cx) (es : List Expr) (σ : L2.St) (H : Hp) (Q : List V → Hp → Prop) : Prop where
 go : ∀ pos pins s, Inv X pins σ H s → wpAny (model X.prog X.w) X.A (spliced (backTo pos (starEach es X.env))) (AP X pins σ Q) X.xe s
structure WS (X : Cx) (st : Stmt) (D : Ends) (σ : L2.St) (H : Hp) : Prop where
 go : ∀ pins s, Inv X pins σ H s → wpAny (model X.prog X.w) X.A (exec st X.env) (SP X pins D) X.xe s
structure Yg (X : Cx) (st : List Stmt) (D : Ends) (σ : L2.St) (H : Hp) : Prop where
 go : ∀ pins s, Inv X pins σ H s → wpAny (model X.prog X.w) X.A (execs st X.env) (SP X pins D) X.xe s
def rM (X : Cx) (f : Value → Value → Sem Value) : R2 := fun x y H Q => ∀ pins s σ v u, Inv X pins σ H s → RelV x v → RelV y u → wpAny (model X.prog X.w) X.A (f v u) (EP X pins σ Q) X.xe s
def uM (X : Cx) (f : Value → Sem Value) : V → Hp → VK → Prop := fun x H Q => ∀ pins s σ v, Inv X pins σ H s → RelV x v → wpAny (model X.prog X.w) X.A (f v) (EP X pins σ Q) X.xe s
def cM (X : Cx) (f : Value) : List V → Hp → VK → Prop := fun xs H Q => ∀ pins s σ us, Inv X pins σ H s → Vals xs us → wpAny (model X.prog X.w) X.A (call f us) (EP X pins σ Q) X.xe s
section
variable {X : Cx} {e : Expr} {es : List Expr} {st : Stmt} {sts : List Stmt}
theorem mZ : PE X e (WE X e) := ⟨fun pins s σ H Q I h => h.go pins s I⟩
theorem GZ : PT X e (WT X e) := ⟨fun pins s σ H Q I h => h.go pins s I⟩
theorem Yh : PW X e (WW X e) := ⟨fun wh pins s σ H Q I h => h.go wh pins s I⟩
theorem Ks : PA X es (WA X es) := ⟨fun pos pins s σ H Q I h => h.go pos pins s I⟩
theorem ab8 : PS X st (WS X st) := ⟨fun pins s σ H D I h => h.go pins s I⟩
theorem Dk : PSs X sts (Yg X sts) := ⟨fun pins s σ H D I h => h.go pins s I⟩
theorem uP {t : TE} (p : PE X e t) {σ : L2.St} {H : Hp} {Q : VK} (h : t σ H Q) : WE X e σ H Q := ⟨fun pins s I => p.run pins s σ H Q I h⟩
theorem Ru {t : TT} (p : PT X e t) {σ : L2.St} {H : Hp} {Q : Bool → Hp → Prop} (h : t σ H Q) : WT X e σ H Q := ⟨fun pins s I => p.run pins s σ H Q I h⟩
theorem XQ {t : TT} (p : PW X e t) {σ : L2.St} {H : Hp} {Q : Bool → Hp → Prop} (h : t σ H Q) : WW X e σ H Q := ⟨fun wh pins s I => p.run wh pins s σ H Q I h⟩
theorem Rv {t : TA} (p : PA X es t) {σ : L2.St} {H : Hp} {Q : List V → Hp → Prop} (h : t σ H Q) : WA X es σ H Q := ⟨fun pos pins s I => p.run pos pins s σ H Q I h⟩
theorem Ak {t : TS} (p : PS X st t) {D : Ends} {σ : L2.St} {H : Hp} (h : t D σ H) : WS X st D σ H := ⟨fun pins s I => p.run pins s σ H D I h⟩
theorem VP {t : TS} (p : PSs X sts t) {D : Ends} {σ : L2.St} {H : Hp} (h : t D σ H) : Yg X sts D σ H := ⟨fun pins s I => p.run pins s σ H D I h⟩
theorem Jq {f : Value → Value → Sem Value} : OpR X f (rM X f) := fun pins s σ H x y v u Q I rx ry h => h pins s σ v u I rx ry
theorem Cy {f : Value → Value → Sem Value} {r : R2} (o : OpR X f r) {x y : V} {H : Hp} {Q : VK} (h : r x y H Q) : rM X f x y H Q := fun pins s σ v u I rx ry => o pins s σ H x y v u Q I rx ry h
theorem afU {f : Value → Sem Value} : UnR X f (uM X f) := fun pins s σ H x v Q I rx h => h pins s σ v I rx
theorem ag4 {f : Value → Sem Value} {r : V → Hp → VK → Prop} (o : UnR X f r) {x : V} {H : Hp} {Q : VK} (h : r x H Q) : uM X f x H Q := fun pins s σ v I rx => o pins s σ H x v Q I rx h
theorem T7 {f : Value} : CallR X f (cM X f) := fun pins s σ H xs us Q I r h => h pins s σ us I r
theorem yD {f : Value} {r : List V → Hp → VK → Prop} (o : CallR X f r) {xs : List V} {H : Hp} {Q : VK} (h : r xs H Q) : cM X f xs H Q := fun pins s σ us I rr => o pins s σ H xs us Q I rr h
end
abbrev zQ (X : Cx) (T : Tb) (W : WX) (e : Expr) (m : M D) : Prop := wF (WE X e) X.K T W vE m
abbrev cO (X : Cx) (T : Tb) (W : WX) (e : Expr) (m : M D) : Prop := wF (WE X e) X.K T W vV m
abbrev Gi (X : Cx) (T : Tb) (W : WX) (e : Expr) (m : M Bool) : Prop := wF (WT X e) X.K T W vB m
abbrev T8 (X : Cx) (T : Tb) (W : WX) (e : Expr) (m : M Bool) : Prop := wF (WW X e) X.K T W vB m
abbrev CP (X : Cx) (T : Tb) (W : WX) (es : List Expr) (m : M (List D)) : Prop := wF (WA X es) X.K T W vA m
abbrev V1 (X : Cx) (T : Tb) (W : WX) (e : Expr) (m : M D) : Prop := wF (WE X e) X.K T W vO m
def mJ (m : M D) : M D := m.bind fun d => M.ret d.fz
def mC (d : D) : M D := M.ret d
def ak (i : Nat) : M D := fun fr h => match fr[i]? with
 | some (some d) => if d.own then .ok d.fz (fr.set i (some d.fz)) h else .ok d fr h
 | _ => .err
def za (i : Nat) : M D := fun fr h => match fr[i]? with
 | some (some d) => .ok d (fr.set i none) h
 | _ => .err
def iz (i : Nat) : M D := fun fr h => match fr[i]? with
 | some (some d) => .ok d fr h
 | _ => .err
section
variable {X : Cx} {T : Tb} {W : WX} {e a b c : Expr} {es : List Expr} {m ma mb mc : M D} {pos : Pos}
theorem V2 {α β : Type} {run : L2.St → Hp → (β → Hp → Prop) → Prop} {K : PySem.W.Frag} {VR VR' : wJ β α} {m : M α} (s : wF run K T W VR m) (h : ∀ B σ w H fr v d, VR K T B σ w H fr v d → VR' K T B σ w H fr v d) : wF run K T W VR' m :=
 fun B w σ H fr hh Q r p => s B w σ H fr hh Q r (by
  cases q : m fr hh with
  | ok d fr1 h1 =>
    rw [q] at p
    exact fun w1 H1 v x r1 z => p w1 H1 v x r1 (h _ _ _ _ _ _ _ z)
  | exc y fr1 h1 => rw [q] at p; exact p
  | err => rw [q] at p; exact p)
theorem uH (s : cO X T W e m) : zQ X T W e m := V2 s fun _ _ _ _ _ _ _ z => .inl z
theorem u5 (s : cO X T W e m) : V1 X T W e m := V2 s fun _ _ _ _ _ _ _ z => .inl z
theorem G3 (s : zQ X T W e m) : V1 X T W e m := V2 s fun _ _ _ _ _ _ _ z => by
 rcases z with z | ⟨p, o, e1, _, _, e2, r⟩
 · exact .inl z
 · exact .inr ⟨p, o, e1, e2, r⟩
theorem rG (s : zQ X T W e m) : cO X T W e (mJ m) := fun B w σ H fr h Q r p => s B w σ H fr h Q r (by
 refine bu.bind (VR := vE X.K T B σ) p fun d fr1 h1 w1 H1 v eq x r1 z p1 => ?_
 rcases z with z | ⟨p', o, rfl, O, lo, eH, rd⟩
 · rw [aeR z] at p1
   exact p1 w1 H1 v (Wd.le_refl _) r1 z
 · exact p1 (w1.add p' o) H1 (.ref p') (Wd.le_add O.f) (r1.freeze O lo eH) (rd.fz (Wd.le_add O.f) (by show upd w1.F p' _ p' = _; rw [upd_same])))
theorem aR {i : Int} {j : Nat} : cO X T W (.Constant (.int i) j pos) (mC (.int i)) := fun B w σ H fr h Q r p => uP pe_int (p w H _ (Wd.le_refl _) r (.int i))
theorem Ly {i : Bool} {j : Nat} : cO X T W (.Constant (.bool i) j pos) (mC (.bl i)) := fun B w σ H fr h Q r p => uP pe_bl (p w H _ (Wd.le_refl _) r (.bl i))
theorem aq {i : Str} {j : Nat} : cO X T W (.Constant (.str i) j pos) (mC (.str i)) := fun B w σ H fr h Q r p => uP pe_str (p w H _ (Wd.le_refl _) r (.str i))
theorem vm {K : PySem.W.Frag} {T : Tb} {B : Bs} {w : Wd} {σ : L2.St} {H : Hp} {fr : Fr} {h : Hh} (R : Rel K T B w σ H fr h) {i : Nat} {d : D} (e : fr[i]? = some (some d)) :
 ∃ v, σ[i]? = some (some v) ∧ Oa K T B w H (some v) (some d) := by
 have l2 : i < fr.length := (List.getElem?_eq_some_iff.mp e).1
 have l1 : i < σ.length := by rw [← R.fl]; exact l2
 have e1 : σ[i]? = some σ[i] := ai9 l1
 have z := R.sl i _ _ e1 e
 generalize σ[i] = s at z e1
 cases z with
 | val r => exact ⟨_, e1, .val r⟩
 | own O eH r => exact ⟨_, e1, .own O eH r⟩
theorem ao (i : Nat) {x : Str} (hN : X.N[i]? = some x := by rfl) (hv : Vis X.env.scope x := by first | exact Or.inl rfl | exact Or.inr (Or.inl rfl) | exact Or.inr (Or.inr rfl)) (hd : (x == ("__debug__" : Str)) = false := by decide)
 (hcd : (x == ("__classdict__" : Str)) = false := by decide) : cO X T W (.Name x pos) (ak i) := fun B w σ H fr h Q r p => uP (pe_var hN hv hd hcd) (by
 unfold ak at p
 split at p
 · rename_i d e1
   cases od : d.own with
   | true =>
     rw [od] at p
     obtain ⟨q, o, e2, eH, rd, nf, r1⟩ := r.freeze_slot e1 od
     exact ⟨_, e2, p (w.add q o) H (.ref q) (Wd.le_add nf) r1 (rd.fz (Wd.le_add nf) (by show upd w.F q _ q = _; rw [upd_same]))⟩
   | false =>
     rw [od] at p
     obtain ⟨v, e2, z⟩ := vm r e1
     cases z with
     | val rd => exact ⟨v, e2, p w H v (Wd.le_refl _) r rd⟩
     | own O eH rd =>
       rw [rd.own] at od
       cases od
 · exact p.elim)
theorem t8 (i : Nat) {x : Str} (hN : X.N[i]? = some x := by rfl) (hv : Vis X.env.scope x := by first | exact Or.inl rfl | exact Or.inr (Or.inl rfl) | exact Or.inr (Or.inr rfl)) (hd : (x == ("__debug__" : Str)) = false := by decide)
 (hcd : (x == ("__classdict__" : Str)) = false := by decide) : V1 X T W (.Name x pos) (iz i) := fun B w σ H fr h Q r p => uP (pe_var hN hv hd hcd) (by
 unfold iz at p
 split at p
 · rename_i d e1
   obtain ⟨v, e2, z⟩ := vm r e1
   refine ⟨v, e2, p w H v (Wd.le_refl _) r ?_⟩
   cases z with
   | val rd => exact .inl rd
   | own O eH rd => exact .inr ⟨_, _, rfl, eH, rd⟩
 · exact p.elim)
theorem HD (i : Nat) {x : Str} (hN : X.N[i]? = some x := by rfl) (hv : Vis X.env.scope x := by first | exact Or.inl rfl | exact Or.inr (Or.inl rfl) | exact Or.inr (Or.inr rfl)) (hd : (x == ("__debug__" : Str)) = false := by decide)
 (hcd : (x == ("__classdict__" : Str)) = false := by decide) : zQ X T W (.Name x pos) (za i) := fun B w σ H fr h Q r p => uP (pe_var hN hv hd hcd) (by
 unfold za at p
 split at p
 · rename_i d e1
   obtain ⟨v, e2, z⟩ := vm r e1
   refine ⟨v, e2, p w H v (Wd.le_refl _) (r.drop_slot i) ?_⟩
   cases z with
   | val rd => exact .inl rd
   | @own q o _ O eH rd =>
     refine .inr ⟨q, o, rfl, O, fun j z => ?_, eH, rd⟩
     obtain ⟨q1, dq, q2, oq⟩ := z
     by_cases hj : i = j
     · subst hj
       rw [aje (List.getElem?_eq_some_iff.mp e1).1] at q2
       cases q2
     · rw [ajd hj] at q2
       exact r.sep i j q hj ⟨e2, d, e1, rd.own⟩ ⟨q1, dq, q2, oq⟩
 · exact p.elim)
def big : Nat := 100000
theorem xO {n : Nat} (h : n ≤ big) : n ≤ sizeLine := Nat.le_trans h (by decide)
def D.der (h : Hh) : D → D
 | .ref n => (h[n]?).getD .non
 | d => d
def D.its (h : Hh) (d : D) : Option (List D) := match d.der h with
 | .tup l => some l
 | .fl l => some l
 | .kl l => some l
 | .nl l => some l
 | _ => none
theorem HF {K : PySem.W.Frag} {T : Tb} {B : Bs} {w : Wd} {σ : L2.St} {H : Hp} {fr : Fr} {h : Hh} {v : V} {d : D} {ds : List D} (R : Rel K T B w σ H fr h) (z : vO K T B σ w H fr v d) (e : d.its h = some ds) :
 ∃ p vs, v = .ref p ∧ aO K T w vs ds ∧ (SqL K H p vs ∨ SqT K H p vs) := by
 rcases z with z | ⟨p, o, rfl, eH, z⟩
 · cases z with
   | tup s r =>
     have e' : some _ = some ds := e
     cases e'
     exact ⟨_, _, rfl, r, .inr (wN R.sub s)⟩
   | fl s r =>
     have e' : some _ = some ds := e
     cases e'
     exact ⟨_, _, rfl, r, .inl (SqL.of (R.sub _ _ s))⟩
   | kl s r =>
     have e' : some _ = some ds := e
     cases e'
     exact ⟨_, _, rfl, r, .inl (Ba R.sub s)⟩
   | @ref a n s =>
     have ln : n < h.length := by
      rw [← R.len]
      exact (List.getElem?_eq_some_iff.mp s).1
     obtain ⟨o, q, rr⟩ := R.cel n a h[n] s (ai9 ln)
     have e0 : (h[n]?).getD .non = h[n] := by rw [ai9 ln]; rfl
     unfold D.its D.der at e
     dsimp only at e
     rw [e0] at e
     generalize h[n] = c at rr e
     cases rr with
     | lst r =>
       have e' : some _ = some ds := e
       cases e'
       exact ⟨_, _, rfl, r, .inl (SqL.of q)⟩
     | obj r => cases e
     | dct _ r => cases e
   | non => cases e
   | bl _ => cases e
   | int _ => cases e
   | str _ => cases e
   | obj _ _ => cases e
   | cls _ => cases e
   | ty _ => cases e
   | sl _ => cases e
 · cases z with
   | lst r =>
     have e' : some _ = some ds := e
     cases e'
     exact ⟨_, _, rfl, r, .inl (SqL.of eH)⟩
   | obj r => cases e
def bf {α : Type} (f : Hh → D → D → Option α) (ma mb : M D) : M α := ma.bind fun x => mb.bind fun y fr h => M.opt (f h x y) fr h
theorem V3 {α β : Type} {VR2 : wJ V D} {VR : wJ β α} {f : Hh → D → D → Option α} {r : V → V → Hp → (β → Hp → Prop) → Prop} (sa : cO X T W a ma) (sb : wF (WE X b) X.K T W VR2 mb)
 (hr : ∀ B w σ H fr h x y d e z Q, Rel X.K T B w σ H fr h → rC X.K T w x d → VR2 X.K T B σ w H fr y e → f h d e = some z → (∀ w' H' v, w.le w' → Rel X.K T B w' σ H' fr h → VR X.K T B σ w' H' fr v z → Q v H') → r x y H Q) :
 wF (fun σ H Q => WE X a σ H fun x H1 => WE X b σ H1 fun y H2 => r x y H2 Q) X.K T W VR (bf f ma mb) := fun B w σ H fr h Q r1 p =>
 sa B w σ H fr h _ r1 (bu.bind (VR := vV X.K T B σ) p fun d fr1 h1 w1 H1 x e1 l1 r1 rx p1 => sb B w1 σ H1 fr1 h1 _ r1 (bu.bind (VR := VR2 X.K T B σ) p1 fun e fr2 h2 w2 H2 y e2 l2 r2 ry p2 => by
  cases q : f h2 d e with
  | none => rw [q] at p2; exact p2.elim
  | some z =>
    rw [q] at p2
    exact hr B w2 σ H2 fr2 h2 x y d e z Q r2 (rx.mono l2) ry q p2))
end
end Pk
namespace Pk
open PySem PySem.Spec L2
structure Cq (X : Cx) (T : Tb) (W : WX) (k : Nat) : Prop where
 calm : X.calm = true
 nd : X.N.Nodup
 room : Room k X.A
 takes : Takes X W
 po : PassesOwn (model X.prog X.w) X.A X.env X.xe
theorem Cq.u {X : Cx} {T : Tb} {W : WX} {k : Nat} (C : Cq X T W k) : X.A.units + 65 < cLine := by
 have := C.room.un
 omega
section
variable {X : Cx} {T : Tb} {W : WX} {k : Nat} {e a b c : Expr} {es : List Expr} {m ma mb mc : M D} {pos : Pos}
mutual
def D.toP : D → Option PyData
 | .non => some .none
 | .bl b => some (.bool b)
 | .int i => some (.int i)
 | .str s => some (.str s)
 | .tup l => (D.toPs l).map .tuple
 | .fl l => (D.toPs l).map .list
 | .kl l => (D.toPs l).map .list
 | .nl l => (D.toPs l).map .list
 | _ => none
def D.toPs : List D → Option (List PyData)
 | [] => some []
 | d :: ds => match D.toP d, D.toPs ds with
   | some p, some ps => some (p :: ps)
   | _, _ => none
end
section
variable {K : PySem.W.Frag} {w : Wd} {H : Hp}
mutual
theorem XR (hs : ∀ a o, w.F a = some o → H a = some o) : ∀ {v : V} {d : D} {p : PyData}, rC K T w v d → d.toP = some p → Dp K H v p
 | _, _, _, .non, e => by cases e; exact .non
 | _, _, _, .bl b, e => by cases e; exact .bl b
 | _, _, _, .int i, e => by cases e; exact .int i
 | _, _, _, .str s, e => by cases e; exact .str s
 | _, _, _, .tup s r, e => by
   unfold D.toP at e
   obtain ⟨ps, e1, e2⟩ := Option.map_eq_some_iff.mp e
   subst e2
   exact .tup (wN hs s) (Qg hs r e1)
 | _, _, _, .fl s r, e => by
   unfold D.toP at e
   obtain ⟨ps, e1, e2⟩ := Option.map_eq_some_iff.mp e
   subst e2
   exact .lst (SqL.of (hs _ _ s)) (Qg hs r e1)
 | _, _, _, .kl s r, e => by
   unfold D.toP at e
   obtain ⟨ps, e1, e2⟩ := Option.map_eq_some_iff.mp e
   subst e2
   exact .lst (Ba hs s) (Qg hs r e1)
 | _, _, _, .obj _ _, e => by cases e
 | _, _, _, .ref _, e => by cases e
 | _, _, _, .cls _, e => by cases e
 | _, _, _, .ty _, e => by cases e
 | _, _, _, .sl _, e => by cases e
theorem Qg (hs : ∀ a o, w.F a = some o → H a = some o) : ∀ {vs : List V} {ds : List D} {ps : List PyData}, aO K T w vs ds → D.toPs ds = some ps → DpAll K H vs ps
 | _, _, _, .nil, e => by cases e; exact .nil
 | _, _, _, @aO.cons _ _ _ _ d _ ds h t, e => by
   unfold D.toPs at e
   cases e1 : d.toP with
   | none => rw [e1] at e; cases e
   | some p =>
     cases e2 : D.toPs ds with
     | none => rw [e1, e2] at e; cases e
     | some ps =>
       rw [e1, e2] at e
       cases e
       exact .cons (XR hs h e1) (Qg hs t e2)
end
theorem ab9 {B : Bs} {σ : L2.St} {fr : Fr} {h : Hh} {v : V} {d : D} {p : PyData} (R : Rel K T B w σ H fr h) (z : vO K T B σ w H fr v d) (e : d.toP = some p) : Dp K H v p := by
 rcases z with z | ⟨q, o, rfl, eH, z⟩
 · exact XR R.sub z e
 · cases z with
   | lst r =>
     unfold D.toP at e
     obtain ⟨ps, e1, e2⟩ := Option.map_eq_some_iff.mp e
     subst e2
     exact .lst (SqL.of eH) (Qg R.sub r e1)
   | obj r => cases e
end
def tV (h : Hh) : D → D → Option D
 | .int i, .int j => some (.int (i + j))
 | .str a, .str b => if a.length + b.length ≤ big then some (.str (a ++ b)) else none
 | .tup a, .tup b => if a.length + b.length ≤ big then some (.tup (a ++ b)) else none
 | .fl a, .fl b => if a.length + b.length ≤ big then some (.nl (a ++ b)) else none
 | _, _ => none
theorem T9 {w : Wd} {K : PySem.W.Frag} {v : V} {ds : List D} (r : rC K T w v (.fl ds)) : ∃ a vs, v = .ref a ∧ w.F a = some (.lst vs) ∧ aO K T w vs ds := by
 cases r with
 | fl s t => exact ⟨_, _, rfl, s, t⟩
theorem Kc {w : Wd} {K : PySem.W.Frag} {v : V} {ds : List D} (r : rC K T w v (.tup ds)) : ∃ a vs, v = .ref a ∧ SqT K w.F a vs ∧ aO K T w vs ds := by
 cases r with
 | tup s t => exact ⟨_, _, rfl, s, t⟩
theorem vp {w : Wd} {K : PySem.W.Frag} {v : V} {i : Int} (r : rC K T w v (.int i)) : v = .int i := by
 cases r
 rfl
theorem aca {w : Wd} {K : PySem.W.Frag} {v : V} {i : Bool} (r : rC K T w v (.bl i)) : v = .bl i := by
 cases r
 rfl
theorem zV {w : Wd} {K : PySem.W.Frag} {v : V} {i : Str} (r : rC K T w v (.str i)) : v = .str i := by
 cases r
 rfl
theorem Rx {K : PySem.W.Frag} {B : Bs} {w : Wd} {σ : L2.St} {H : Hp} {fr : Fr} {h : Hh} {p : Addr} {vs : List V} {ds : List D} {Q : V → Hp → Prop} (R : Rel K T B w σ H fr h) (r : aO K T w vs ds) (np : H p = none)
 (q : ∀ w' H' v, w.le w' → Rel K T B w' σ H' fr h → rC K T w' v (.tup ds) → Q v H') : Q (.ref p) (upd H p (.tup vs)) :=
 q (w.add p (.tup vs)) _ _ (Wd.le_add (R.nP np).1) (R.laid np) (.tup (SqT.of (by show upd w.F p _ p = _; rw [upd_same])) (r.mono (Wd.le_add (R.nP np).1)))
theorem V4 {K : PySem.W.Frag} {B : Bs} {w : Wd} {σ : L2.St} {H : Hp} {fr : Fr} {h : Hh} {p : Addr} {vs : List V} {ds : List D} {Q : V → Hp → Prop} (R : Rel K T B w σ H fr h) (r : aO K T w vs ds) (np : H p = none)
 (q : ∀ w' H' v, w.le w' → Rel K T B w' σ H' fr h → vE K T B σ w' H' fr v (.nl ds) → Q v H') : Q (.ref p) (upd H p (.lst vs)) :=
 q w _ _ (Wd.le_refl w) (R.temp np) (.inr ⟨p, _, rfl, R.own_new np, R.loose_new np, upd_same, .lst r⟩)
theorem uQ (sa : cO X T W a ma) (sb : cO X T W b mb) : zQ X T W (.BinOp a .Add b pos) (bf tV ma mb) := fun B w σ H fr h Q r1 p =>
 uP (pe_op Jq mZ mZ) (V3 (VR := vE) sa sb (fun B w σ H fr h x y d e z Q R rx ry q k => by
  unfold tV at q
  split at q
  · cases q
    rw [vp rx, vp ry]
    exact Cy op_add ⟨_, _, rfl, rfl, k w H _ (Wd.le_refl _) R (.inl (.int _))⟩
  · split at q
    · rename_i hl
      cases q
      rw [zV rx, zV ry]
      exact Cy op_add_str ⟨_, _, rfl, rfl, xO hl, k w H _ (Wd.le_refl _) R (.inl (.str _))⟩
    · cases q
  · split at q
    · rename_i ds es hl
      cases q
      obtain ⟨p1, vs, rfl, s1, r1⟩ := Kc rx
      obtain ⟨p2, us, rfl, s2, r2⟩ := Kc ry
      refine Cy op_catA ⟨p1, p2, vs, us, rfl, rfl, wN R.sub s1, wN R.sub s2, by rw [r1.length, r2.length]; exact xO hl, fun e0 => ?_, fun _ e0 => ?_, fun _ _ p np => ?_⟩
      · subst e0
        cases r1
        exact k w H _ (Wd.le_refl _) R (.inl ry)
      · subst e0
        cases r2
        rw [aiS] at k
        exact k w H _ (Wd.le_refl _) R (.inl rx)
      · exact Rx R (r1.append r2) np fun w' H' v l R' r' => k w' H' v l R' (.inl r')
    · cases q
  · split at q
    · rename_i ds es hl
      cases q
      obtain ⟨p1, vs, rfl, s1, r1⟩ := T9 rx
      obtain ⟨p2, us, rfl, s2, r2⟩ := T9 ry
      refine Cy op_cat ⟨p1, p2, vs, us, rfl, rfl, R.sub _ _ s1, R.sub _ _ s2, by rw [r1.length, r2.length]; exact xO hl, fun p np => ?_⟩
      exact V4 R (r1.append r2) np k
    · cases q
  · cases q) B w σ H fr h Q r1 p)
def Cv (C : Int → Int → Bool) (g : Int → Int → Int) (_ : Hh) : D → D → Option D
 | .int i, .int j => if C i j then some (.int (g i j)) else none
 | _, _ => none
theorem Ku {op : Operator} {P : Int → Int → Prop} {C : Int → Int → Bool} {g : Int → Int → Int} (o : OpR X (binaryOp op) (rI P fun i j => .int (g i j))) (hC : ∀ i j, C i j = true → P i j) (sa : cO X T W a ma) (sb : cO X T W b mb) :
 cO X T W (.BinOp a op b pos) (bf (Cv C g) ma mb) := fun B w σ H fr h Q r1 p =>
 uP (pe_op Jq mZ mZ) (V3 (VR := vV) sa sb (fun B w σ H fr h x y d e z Q R rx ry q k => by
  unfold Cv at q
  split at q
  · split at q
    · rename_i hc
      cases q
      rw [vp rx, vp ry]
      exact Cy o ⟨_, _, rfl, rfl, hC _ _ hc, k w H _ (Wd.le_refl _) R (.int _)⟩
    · cases q
  · cases q) B w σ H fr h Q r1 p)
def Yi (_ _ : Int) : Bool := true
def aa4 (i j : Int) : Bool := decide (i.natAbs.log2 + j.natAbs.log2 < 1000000)
def ac2 (_ j : Int) : Bool := decide (0 < j)
def aa5 (_ j : Int) : Bool := decide (0 < j) && decide (j.natAbs.log2 < 9000)
def V5 (i j : Int) : Bool := decide (0 ≤ j) && decide (j ≤ 1000000) && decide (i.natAbs < 2 ^ 64)
abbrev Yj := Cv Yi (fun i j => i - j)
abbrev aa6 := Cv aa4 (fun i j => i * j)
abbrev V6 := Cv ac2 (fun i j => i % j)
abbrev ac3 := Cv aa5 (fun i j => i / j)
abbrev aa7 := Cv V5 (fun i j => i ^ j.toNat)
theorem aeS : OpR X (binaryOp .Sub) (rI (fun _ _ => True) fun i j => .int (i - j)) := fun pins s σ H x y v u Q I rx ry ⟨i, j, e1, e2, _, q⟩ => op_sub pins s σ H x y v u Q I rx ry ⟨i, j, e1, e2, q⟩
theorem acb (sa : cO X T W a ma) (sb : cO X T W b mb) : cO X T W (.BinOp a .Sub b pos) (bf Yj ma mb) := Ku aeS (fun _ _ _ => trivial) sa sb
theorem Yk (sa : cO X T W a ma) (sb : cO X T W b mb) : cO X T W (.BinOp a .Mult b pos) (bf aa6 ma mb) := Ku op_mulW (fun i j h => by
 have h' : decide (i.natAbs.log2 + j.natAbs.log2 < 1000000) = true := h
 have h2 : i.natAbs.log2 + j.natAbs.log2 < 1000000 := of_decide_eq_true h'
 exact h2) sa sb
theorem Qh (sa : cO X T W a ma) (sb : cO X T W b mb) : cO X T W (.BinOp a .Mod b pos) (bf V6 ma mb) := Ku op_mod (fun _ j h => by
 have h' : decide (0 < j) = true := h
 exact of_decide_eq_true h') sa sb
theorem acd (sa : cO X T W a ma) (sb : cO X T W b mb) : cO X T W (.BinOp a .FloorDiv b pos) (bf ac3 ma mb) := Ku op_fdivW (fun _ _ h => by
 obtain ⟨h1, h2⟩ := Bool.and_eq_true_iff.mp h
 exact ⟨of_decide_eq_true h1, of_decide_eq_true h2⟩) sa sb
theorem Yl (sa : cO X T W a ma) (sb : cO X T W b mb) : cO X T W (.BinOp a .Pow b pos) (bf aa7 ma mb) := Ku op_pow (fun _ _ h => by
 obtain ⟨h1, h3⟩ := Bool.and_eq_true_iff.mp h
 obtain ⟨h1, h2⟩ := Bool.and_eq_true_iff.mp h1
 exact ⟨of_decide_eq_true h1, of_decide_eq_true h2, of_decide_eq_true h3⟩) sa sb
def HH : D → Option D
 | .int i => some (.int (-i))
 | _ => none
def mQ {α : Type} (f : Hh → D → Option α) (ma : M D) : M α := ma.bind fun x fr h => M.opt (f h x) fr h
theorem aa8 {α β : Type} {VR1 : wJ V D} {VR : wJ β α} {f : Hh → D → Option α} {r : V → Hp → (β → Hp → Prop) → Prop} (sa : wF (WE X a) X.K T W VR1 ma)
 (hr : ∀ B w σ H fr h x d z Q, Rel X.K T B w σ H fr h → VR1 X.K T B σ w H fr x d → f h d = some z → (∀ w' H' v, w.le w' → Rel X.K T B w' σ H' fr h → VR X.K T B σ w' H' fr v z → Q v H') → r x H Q) :
 wF (fun σ H Q => WE X a σ H fun x H1 => r x H1 Q) X.K T W VR (mQ f ma) := fun B w σ H fr h Q r1 p =>
 sa B w σ H fr h _ r1 (bu.bind (VR := VR1 X.K T B σ) p fun d fr1 h1 w1 H1 x e1 l1 r1 rx p1 => by
  cases q : f h1 d with
  | none => rw [q] at p1; exact p1.elim
  | some z =>
    rw [q] at p1
    exact hr B w1 σ H1 fr1 h1 x d z Q r1 rx q p1)
theorem Qi (sa : cO X T W a ma) : cO X T W (.UnaryOp .USub a pos) (mQ (fun _ => HH) ma) := fun B w σ H fr h Q r1 p =>
 uP (pe_un afU mZ) (aa8 (VR := vV) sa (fun B w σ H fr h x d z Q R rx q k => by
  unfold HH at q
  split at q
  · cases q
    rw [vp rx]
    exact ag4 un_neg ⟨_, rfl, k w H _ (Wd.le_refl _) R (.int _)⟩
  · cases q) B w σ H fr h Q r1 p)
def Cz (X : Cx) (T : Tb) (VR2 : wJ V D) (op : CmpOp) (f : Hh → D → D → Option Bool) : Prop :=
 ∀ B w σ H fr h x y d e c Q, Rel X.K T B w σ H fr h → rC X.K T w x d → VR2 X.K T B σ w H fr y e → f h d e = some c → Q (.bl c) H → rM X (compareOp op) x y H Q
def cInt (p : Int → Int → Bool) (_ : Hh) : D → D → Option Bool
 | .int i, .int j => some (p i j)
 | _, _ => none
theorem Ry {op : CmpOp} {p : Int → Int → Bool} (o : OpR X (compareOp op) (rI0 fun i j => .bl (p i j))) : Cz X T vV op (cInt p) := fun B w σ H fr h x y d e c Q R rx ry q k => by
 unfold cInt at q
 split at q
 · cases q
   rw [vp rx, vp ry]
   exact Cy o ⟨_, _, rfl, rfl, k⟩
 · cases q
abbrev O7 := cInt fun i j => decide (i < j)
abbrev cLe := cInt fun i j => decide (i ≤ j)
abbrev cGt := cInt fun i j => decide (j < i)
abbrev cGe := cInt fun i j => decide (j ≤ i)
theorem cmp_lt : Cz X T vV .Lt O7 := Ry op_lt
theorem cmp_le : Cz X T vV .LtE cLe := Ry op_le
theorem cmp_gt : Cz X T vV .Gt cGt := Ry op_gt
theorem cmp_ge : Cz X T vV .GtE cGe := Ry op_ge
def uE (_ : Hh) (d e : D) : Option Bool := match d.toP, e.toP with
 | some p, some q => if SeqAt.shaped p && SeqAt.shaped q then some (PyData.eqv p q) else none
 | _, _ => none
def Ey (h : Hh) (d e : D) : Option Bool := (uE h d e).map (!·)
theorem Ym {h : Hh} {d e : D} {c : Bool} (q : uE h d e = some c) : ∃ p p', d.toP = some p ∧ e.toP = some p' ∧ SeqAt.shaped p = true ∧ SeqAt.shaped p' = true ∧ c = PyData.eqv p p' := by
 unfold uE at q
 split at q
 · rename_i p p' e1 e2
   split at q
   · rename_i hs
     obtain ⟨h1, h2⟩ := Bool.and_eq_true_iff.mp hs
     cases q
     exact ⟨p, p', e1, e2, h1, h2, rfl⟩
   · cases q
 · cases q
theorem cmp_eq (C : Cq X T W k) : Cz X T vO .Eq uE := fun B w σ H fr h x y d e c Q R rx ry q kk => by
 obtain ⟨p, p', e1, e2, s1, s2, rfl⟩ := Ym q
 exact Cy (op_eqD (by have := C.u; omega)) ⟨p, p', XR R.sub rx e1, ab9 R ry e2, s1, s2, kk⟩
theorem G4 (C : Cq X T W k) : Cz X T vO .NotEq Ey := fun B w σ H fr h x y d e c Q R rx ry q kk => by
 obtain ⟨c', q', rfl⟩ := Option.map_eq_some_iff.mp q
 obtain ⟨p, p', e1, e2, s1, s2, rfl⟩ := Ym q'
 exact Cy (op_neD (by have := C.u; omega)) ⟨p, p', XR R.sub rx e1, ab9 R ry e2, s1, s2, kk⟩
def D.flat : D → Bool
 | .non => true
 | .bl _ => true
 | .int _ => true
 | .str _ => true
 | _ => false
def D.eqf : D → D → Bool
 | .non, .non => true
 | .bl a, .bl b => a == b
 | .bl a, .int b => (if a then 1 else 0) == b
 | .int a, .bl b => a == (if b then 1 else 0)
 | .int a, .int b => a == b
 | .str a, .str b => a == b
 | _, _ => false
theorem Ua {K : PySem.W.Frag} {w : Wd} {v : V} {d : D} (r : rC K T w v d) (f : d.flat = true) : flatV v = true := by
 cases r <;> first | rfl | cases f
theorem Ql {K : PySem.W.Frag} {w : Wd} : ∀ {vs : List V} {ds : List D}, aO K T w vs ds → ds.all D.flat = true → vs.all flatV = true
 | _, _, .nil, _ => rfl
 | _, _, .cons h t, f => by
   rw [List.all_cons, Bool.and_eq_true] at f ⊢
   exact ⟨Ua h f.1, Ql t f.2⟩
theorem aeT {K : PySem.W.Frag} {w : Wd} {v u : V} {d e : D} (r : rC K T w v d) (s : rC K T w u e) : eqV v u = D.eqf d e := by
 cases r <;> cases s <;> rfl
theorem V7 {K : PySem.W.Frag} {w : Wd} {u : V} {e : D} (s : rC K T w u e) : ∀ {vs : List V} {ds : List D}, aO K T w vs ds → inV u vs = ds.any fun z => D.eqf z e
 | _, _, .nil => rfl
 | _, _, @aO.cons _ _ _ v d vs ds h t => by
   have q := V7 s t
   unfold inV at q ⊢
   rw [List.any_cons, List.any_cons, aeT h s, q]
def Aj (h : Hh) (x y : D) : Option Bool := match x, y with
 | .str c, .str z => if c.length = 1 then some (decide (c.cps.toList.headD 0 ∈ z.cps.toList)) else some (!(Builtin.Str.occurrences z c 0 z.length 1).isEmpty)
 | x, y => match y.its h with
   | some l => if x.flat && l.all D.flat then some (l.any fun z => D.eqf z x) else none
   | none => none
def Qm (h : Hh) (x y : D) : Option Bool := (Aj h x y).map (!·)
theorem str1 {c : Str} (h : c.length = 1) : c = ⟨#[c.cps.toList.headD 0]⟩ := by
 obtain ⟨⟨l⟩⟩ := c
 have h' : l.length = 1 := h
 match l, h' with
 | [x], _ => rfl
theorem Kv : Cz X T vO .In Aj := fun B w σ H fr h x y d e c Q R rx ry q kk => by
 unfold Aj at q
 split at q
 · rename_i cc z
   have ey : y = .str z := by
    rcases ry with ry | ⟨_, _, _, _, r⟩
    · exact zV ry
    · cases r
   rw [zV rx, ey]
   split at q
   · rename_i h1
     cases q
     exact Cy op_in_sign ⟨_, z, by rw [← str1 h1], rfl, kk⟩
   · cases q
     exact Cy op_in_str ⟨cc, z, rfl, rfl, kk⟩
 · split at q
   · rename_i l el
     split at q
     · rename_i hf
       obtain ⟨f1, f2⟩ := Bool.and_eq_true_iff.mp hf
       cases q
       obtain ⟨p, vs, rfl, rl, sq⟩ := HF R ry el
       refine Cy op_in_seq ⟨p, vs, rfl, sq, Ua rx f1, Ql rl f2, ?_⟩
       rw [if_neg Bool.false_ne_true, V7 rx rl]
       exact kk
     · cases q
   · cases q
theorem V8 : Cz X T vO .NotIn Qm := fun B w σ H fr h x y d e c Q R rx ry q kk => by
 obtain ⟨c', q', rfl⟩ := Option.map_eq_some_iff.mp q
 clear q
 have q := q'
 clear q'
 unfold Aj at q
 split at q
 · rename_i cc z
   have ey : y = .str z := by
    rcases ry with ry | ⟨_, _, _, _, r⟩
    · exact zV ry
    · cases r
   rw [zV rx, ey]
   split at q
   · rename_i h1
     cases q
     exact Cy op_notIn_sign ⟨_, z, by rw [← str1 h1], rfl, kk⟩
   · cases q
     exact Cy op_notin_str ⟨cc, z, rfl, rfl, kk⟩
 · split at q
   · rename_i l el
     split at q
     · rename_i hf
       obtain ⟨f1, f2⟩ := Bool.and_eq_true_iff.mp hf
       cases q
       obtain ⟨p, vs, rfl, rl, sq⟩ := HF R ry el
       refine Cy op_notIn_seq ⟨p, vs, rfl, sq, Ua rx f1, Ql rl f2, ?_⟩
       rw [if_pos rfl, V7 rx rl]
       exact kk
     · cases q
   · cases q
def D.isNon : D → Bool
 | .non => true
 | _ => false
def cIs (_ : Hh) (d e : D) : Option Bool := if e.isNon then some d.isNon else none
def afV (_ : Hh) (d e : D) : Option Bool := if e.isNon then some (!d.isNon) else none
theorem rP {op : CmpOp} {VR2 : wJ V D} {f : Hh → D → D → Option Bool} (o : Cz X T VR2 op f) (sa : cO X T W a ma) (sb : wF (WE X b) X.K T W VR2 mb) (hm : behindInMarks op b = false := by with_unfolding_all rfl) :
 Gi X T W (.Compare a [op] [b] pos) (bf f ma mb) := fun B w σ H fr h Q r1 p =>
 Ru (pt_cmpR Jq mZ mZ hm) (V3 (VR := vB) (r := fun x y H Q => rM X (compareOp op) x y H fun z H' => ∃ k, z = .bl k ∧ Q k H') sa sb (fun B w σ H fr h x y d e z Q R rx ry q k =>
  o B w σ H fr h x y d e z _ R rx ry q ⟨z, rfl, k w H z (Wd.le_refl _) R rfl⟩) B w σ H fr h Q r1 p)
def mBl (m : M Bool) : M D := m.bind fun b => M.ret (.bl b)
theorem Uy {op : CmpOp} {VR2 : wJ V D} {f : Hh → D → D → Option Bool} (o : Cz X T VR2 op f) (sa : cO X T W a ma) (sb : wF (WE X b) X.K T W VR2 mb) (hm : behindInMarks op b = false := by with_unfolding_all rfl) :
 cO X T W (.Compare a [op] [b] pos) (bf (fun h x y => (f h x y).map .bl) ma mb) := fun B w σ H fr h Q r1 p =>
 uP (pe_cmpR Jq mZ mZ hm) (V3 (VR := vV) sa sb (fun B w σ H fr h x y d e z Q R rx ry q k => by
  obtain ⟨c, q', rfl⟩ := Option.map_eq_some_iff.mp q
  exact o B w σ H fr h x y d e c _ R rx ry q' (k w H _ (Wd.le_refl _) R (.bl c))) B w σ H fr h Q r1 p)
def Np (f g : Hh → D → D → Option Bool) (ma mb mc : M D) : M Bool := ma.bind fun x => mb.bind fun y fr h => match f h x y with
 | some true => (mc.bind fun z fr h => M.opt (g h y z) fr h) fr h
 | some false => .ok false fr h
 | none => .err
theorem ac4 {op op' : CmpOp} {f g : Hh → D → D → Option Bool} (o : Cz X T vV op f) (o' : Cz X T vV op' g) (sa : cO X T W a ma) (sb : cO X T W b mb) (sc : cO X T W c mc) (hm : lastMarks [op, op'] [b, c] = false := by with_unfolding_all rfl) :
 Gi X T W (.Compare a [op, op'] [b, c] pos) (Np f g ma mb mc) := fun B w σ H fr h Q r1 p =>
 Ru (pt_chain Jq Jq mZ mZ mZ hm) (sa B w σ H fr h _ r1 (bu.bind (VR := vV X.K T B σ) p fun d fr1 h1 w1 H1 x e1 l1 r1 rx p1 => sb B w1 σ H1 fr1 h1 _ r1 (bu.bind (VR := vV X.K T B σ) p1 fun e fr2 h2 w2 H2 y e2 l2 r2 ry p2 => by
  cases q : f h2 d e with
  | none => rw [q] at p2; exact p2.elim
  | some k =>
    rw [q] at p2
    cases k with
    | false => exact o B w2 σ H2 fr2 h2 x y d e false _ r2 (rx.mono l2) ry q ⟨false, rfl, ⟨false, rfl, p2 w2 H2 false (Wd.le_refl _) r2 rfl⟩⟩
    | true => exact o B w2 σ H2 fr2 h2 x y d e true _ r2 (rx.mono l2) ry q ⟨true, rfl, by
     show WE X c σ H2 _
     exact sc B w2 σ H2 fr2 h2 _ r2 (bu.bind (VR := vV X.K T B σ) p2 fun z fr3 h3 w3 H3 zv e3 l3 r3 rz p3 => by
      cases q' : g h3 e z with
      | none => rw [q'] at p3; exact p3.elim
      | some k' =>
        rw [q'] at p3
        exact o' B w3 σ H3 fr3 h3 y zv e z k' _ r3 (ry.mono l3) rz q' ⟨k', rfl, p3 w3 H3 k' (Wd.le_refl _) r3 rfl⟩)⟩)))
def D.tb : D → Option Bool
 | .bl b => some b
 | _ => none
theorem afX {K : PySem.W.Frag} {B : Bs} {σ : L2.St} {w : Wd} {H : Hp} {fr : Fr} {v : V} {d : D} {b : Bool} (r : vO K T B σ w H fr v d) (e : d.tb = some b) : v = .bl b := by
 rcases r with r | ⟨_, _, _, _, r⟩
 · cases r <;> first | (cases e; rfl) | cases e
 · cases r <;> cases e
def D.tru (h : Hh) (d : D) : Option Bool := match d with
 | .non => some false
 | .bl b => some b
 | .int i => some (i != 0)
 | .str z => if z.length ≤ big then some ((z.length : Int) != 0) else none
 | d => (d.its h).map fun l => !l.isEmpty
theorem Xd {K : PySem.W.Frag} {w : Wd} {vs : List V} {ds : List D} (r : aO K T w vs ds) : vs.isEmpty = ds.isEmpty := by
 cases r <;> rfl
theorem Ez (s : V1 X T W e m) (he : ∀ whole, isTrue e X.env whole = (do let v ← whole; standAt e.pos; holding [v] (truthy v)) := by intro _; rfl) : Gi X T W e (mQ D.tru m) := fun B w σ H fr h Q r1 p =>
 Ru (pt_truth mZ he) (aa8 (VR := vB) (r := fun x H Q => ∃ k, TruV X.K x H k ∧ Q k H) s (fun B w σ H fr h x d z Q R rx q k => by
  refine ⟨z, ?_, k w H z (Wd.le_refl _) R rfl⟩
  have viaIts : ∀ {l : List D}, d.its h = some l → (!l.isEmpty) = z → TruV X.K x H z := fun {l} el ez => by
   obtain ⟨p, vs, rfl, rl, sq⟩ := HF R rx el
   rcases sq with sq | sq
   · exact .inl ⟨vs, sq, by rw [← ez, Xd rl]⟩
   · exact .inr (.inl ⟨vs, sq, by rw [← ez, Xd rl]⟩)
  unfold D.tru at q
  split at q
  · rcases rx with rx | ⟨_, _, _, _, rx⟩
    · cases rx
      cases q
      rfl
    · cases rx
  · rcases rx with rx | ⟨_, _, _, _, rx⟩
    · cases rx
      cases q
      rfl
    · cases rx
  · rcases rx with rx | ⟨_, _, _, _, rx⟩
    · cases rx
      cases q
      rfl
    · cases rx
  · split at q
    · rename_i hl
      rcases rx with rx | ⟨_, _, _, _, rx⟩
      · cases rx
        cases q
        exact ⟨xO hl, rfl⟩
      · cases rx
    · cases q
  · obtain ⟨l, e1, e2⟩ := Option.map_eq_some_iff.mp q
    exact viaIts e1 e2) B w σ H fr h Q r1 p)
def Kw (m : M Bool) : M Bool := m.bind fun b => M.ret !b
def Mw (m n : M Bool) : M Bool := m.bind fun b => if b then n else M.ret false
def O8 (m n : M Bool) : M Bool := m.bind fun b => if b then M.ret true else n
variable {n ta tb tc : M Bool} {rest : List Expr}
theorem Uz (s : Gi X T W a n) : Gi X T W (.UnaryOp .Not a pos) (Kw n) := fun B w σ H fr h Q r1 p =>
 Ru (pt_not GZ) (s B w σ H fr h _ r1 (bu.bind (VR := vB X.K T B σ) p fun d fr1 h1 w1 H1 x e1 l1 r1 rx p1 => by
  have rx' : x = d := rx
  subst rx'
  exact p1 w1 H1 _ (Wd.le_refl _) r1 rfl))
theorem Rz (s : T8 X T W e n) : Gi X T W e n := fun B w σ H fr h Q r1 p => Ru Yh.pt (s B w σ H fr h Q r1 p)
theorem V9 (s : Gi X T W a ta) : T8 X T W (.BoolOp .And [a] pos) ta := fun B w σ H fr h Q r1 p => XQ (pw_and1 GZ) (s B w σ H fr h Q r1 p)
theorem Yn (s : Gi X T W a ta) : T8 X T W (.BoolOp .Or [a] pos) ta := fun B w σ H fr h Q r1 p => XQ (pw_or1 GZ) (s B w σ H fr h Q r1 p)
theorem Yo (s : Gi X T W a ta) (t : T8 X T W (.BoolOp .And (b :: rest) pos) tb) : T8 X T W (.BoolOp .And (a :: b :: rest) pos) (Mw ta tb) := fun B w σ H fr h Q r1 p =>
 XQ (pw_and GZ Yh) (s B w σ H fr h _ r1 (bu.bind (VR := vB X.K T B σ) p fun d fr1 h1 w1 H1 x e1 l1 r1 rx p1 => by
  have rx' : x = d := rx
  subst rx'
  cases x with
  | true => exact t B w1 σ H1 fr1 h1 Q r1 p1
  | false => exact p1 w1 H1 false (Wd.le_refl _) r1 rfl))
theorem XS (s : Gi X T W a ta) (t : T8 X T W (.BoolOp .Or (b :: rest) pos) tb) : T8 X T W (.BoolOp .Or (a :: b :: rest) pos) (O8 ta tb) := fun B w σ H fr h Q r1 p =>
 XQ (pw_or GZ Yh) (s B w σ H fr h _ r1 (bu.bind (VR := vB X.K T B σ) p fun d fr1 h1 w1 H1 x e1 l1 r1 rx p1 => by
  have rx' : x = d := rx
  subst rx'
  cases x with
  | false => exact t B w1 σ H1 fr1 h1 Q r1 p1
  | true => exact p1 w1 H1 true (Wd.le_refl _) r1 rfl))
def aa9 (m : M D) : M D := m.bind fun d => M.opt (d.tb.map fun b => .bl (!b))
def Oc (m n : M D) : M D := m.bind fun d => match d.tb with
 | some true => n
 | some false => M.ret (.bl false)
 | none => M.opt none
def ac5 (m n : M D) : M D := m.bind fun d => match d.tb with
 | some true => M.ret (.bl true)
 | some false => n
 | none => M.opt none
theorem acf {op : BoolOp} (s : cO X T W a ma) : cO X T W (.BoolOp op [a] pos) ma := fun B w σ H fr h Q r1 p => uP (pe_one mZ) (s B w σ H fr h Q r1 p)
theorem acg (s : cO X T W a ma) (t : cO X T W (.BoolOp .And (b :: rest) pos) mb) : cO X T W (.BoolOp .And (a :: b :: rest) pos) (Oc ma mb) := fun B w σ H fr h Q r1 p =>
 uP (pe_and mZ mZ) (s B w σ H fr h _ r1 (bu.bind (VR := vV X.K T B σ) p fun d fr1 h1 w1 H1 x e1 l1 r1 rx p1 => by
  cases q : d.tb with
  | none => rw [q] at p1; exact p1.elim
  | some c =>
    rw [q] at p1
    refine ⟨c, afX (fr := fr1) (B := B) (σ := σ) (H := H1) (.inl rx) q, ?_⟩
    cases c with
    | true => exact t B w1 σ H1 fr1 h1 Q r1 p1
    | false => exact p1 w1 H1 _ (Wd.le_refl _) r1 (.bl _)))
def BW {α : Type} (t : M Bool) (m n : M α) : M α := t.bind fun b => if b then m else n
theorem s_if {VR : wJ V D} (st : Gi X T W c tc) (sa : wF (WE X a) X.K T W VR ma) (sb : wF (WE X b) X.K T W VR mb) : wF (WE X (.IfExp c a b pos)) X.K T W VR (BW tc ma mb) := fun B w σ H fr h Q r1 p =>
 uP (pe_ifExp GZ mZ mZ) (st B w σ H fr h _ r1 (bu.bind (VR := vB X.K T B σ) p fun d fr1 h1 w1 H1 x e1 l1 r1 rx p1 => by
  have rx' : x = d := rx
  subst rx'
  cases x with
  | true => exact sa B w1 σ H1 fr1 h1 Q r1 p1
  | false => exact sb B w1 σ H1 fr1 h1 Q r1 p1))
def ag5 : Expr → Bool
 | .Starred .. => true
 | _ => false
theorem uG {e : Expr} {es : List Expr} {env : Env} (h : ag5 e = false) : starEach (e :: es) env = (false, eval e env) :: starEach es env := by
 cases e <;> first | (cases h; done) | rfl
def aj : List (M D) → M (List D)
 | [] => M.ret []
 | m :: ms => m.bind fun d => (aj ms).bind fun ds => M.ret (d :: ds)
variable {ms : List (M D)}
theorem aJ : CP X T W [] (aj []) := fun B w σ H fr h Q r1 p => Rv pa_nil (p w H _ (Wd.le_refl _) r1 .nil)
theorem aa (s : cO X T W e m) (t : CP X T W es (aj ms)) (hs : starEach (e :: es) X.env = (false, eval e X.env) :: starEach es X.env := by exact uG rfl) : CP X T W (e :: es) (aj (m :: ms)) := fun B w σ H fr h Q r1 p =>
 Rv (pa_cons mZ Ks hs) (s B w σ H fr h _ r1 (bu.bind (VR := vV X.K T B σ) p fun d fr1 h1 w1 H1 x e1 l1 r1 rx p1 =>
  t B w1 σ H1 fr1 h1 _ r1 (bu.bind (VR := vA X.K T B σ) p1 fun ds fr2 h2 w2 H2 vs e2 l2 r2 rs p2 => p2 w2 H2 _ (Wd.le_refl _) r2 (.cons (rx.mono l2) rs))))
def oh (ms : List (M D)) : M D := (aj ms).bind fun ds => M.opt (if ds.length ≤ big then some (.tup ds) else none)
def vq (ms : List (M D)) : M D := (aj ms).bind fun ds => M.opt (if ds.length ≤ big then some (.nl ds) else none)
theorem tU {x1 : Nat} (s : CP X T W es (aj ms)) : cO X T W (.Tuple es x1 pos) (oh ms) := fun B w σ H fr h Q r1 p =>
 uP (pe_tup Ks) (s B w σ H fr h _ r1 (bu.bind (VR := vA X.K T B σ) p fun ds fr1 h1 w1 H1 vs e1 l1 r1 rs p1 => by
  by_cases hl : ds.length ≤ big
  · rw [if_pos hl] at p1
    exact ⟨by rw [aO.length rs]; exact xO hl, fun q nq => Rx r1 rs nq p1⟩
  · rw [if_neg hl] at p1
    exact p1.elim))
theorem yt (s : CP X T W es (aj ms)) : zQ X T W (.List es pos) (vq ms) := fun B w σ H fr h Q r1 p =>
 uP (pe_lst Ks) (s B w σ H fr h _ r1 (bu.bind (VR := vA X.K T B σ) p fun ds fr1 h1 w1 H1 vs e1 l1 r1 rs p1 => by
  by_cases hl : ds.length ≤ big
  · rw [if_pos hl] at p1
    exact ⟨by rw [aO.length rs]; exact xO hl, fun q nq => V4 r1 rs nq p1⟩
  · rw [if_neg hl] at p1
    exact p1.elim))
end
end Pk
namespace Pk
open PySem PySem.Spec L2
section
variable {X : Cx} {T : Tb} {W : WX} {k : Nat} {e a b c o : Expr} {es : List Expr} {m ma mb mc : M D} {pos p2 pf : Pos}
def gJ (h : Hh) (d i : D) : Option D := match d, i with
 | .str z, .int i => if z.length ≤ big then (atI z.cps.toList i).map fun c => .str ⟨#[c]⟩ else none
 | d, .int i => match d.its h with
   | some l => atI l i
   | none => none
 | _, _ => none
def ixM (X : Cx) : R2 := fun x y H Q => ∀ value slice pins s σ v u, Inv X pins σ H s → RelV x v → RelV y u → subscripted slice false v u = operate [v, u] (getItem v u) → wpAny (model X.prog X.w) X.A (PyProof.Rows.subscriptTail value slice v u) (EP X pins σ Q) X.xe s
theorem ach : IxR X (ixM X) := fun value slice pins s σ H x y v u Q I rx ry h hs => h value slice pins s σ v u I rx ry hs
theorem Yp {r : R2} (o : IxR X r) {x y : V} {H : Hp} {Q : VK} (h : r x y H Q) : ixM X x y H Q := fun value slice pins s σ v u I rx ry hs => o value slice pins s σ H x y v u Q I rx ry h hs
theorem aeU {K : PySem.W.Frag} {w : Wd} {vs : List V} {ds : List D} {i : Int} {d : D} (r : aO K T w vs ds) (e : atI ds i = some d) : ∃ v, atI vs i = some v ∧ rC K T w v d := by
 unfold atI at e ⊢
 rw [r.length]
 cases q : ixN ds.length i with
 | none => rw [q] at e; cases e
 | some j =>
   rw [q] at e
   exact r.get (show ds[j]? = some d from e)
theorem Yq {K : PySem.W.Frag} {B : Bs} {σ : L2.St} {w : Wd} {H : Hp} {fr : Fr} {v : V} {z : Str} (r : vO K T B σ w H fr v (.str z)) : v = .str z := by
 rcases r with r | ⟨_, _, _, _, r⟩
 · exact zV r
 · cases r
theorem aci {B : Bs} {w : Wd} {σ : L2.St} {H : Hp} {fr : Fr} {h : Hh} {x y : V} {d i z : D} {Q : VK} (R : Rel X.K T B w σ H fr h) (rx : vO X.K T B σ w H fr x d) (ry : rC X.K T w y i) (q : gJ h d i = some z)
 (k : ∀ v, rC X.K T w v z → Q v H) : ixM X x y H Q := by
 unfold gJ at q
 split at q
 · rename_i z' i'
   split at q
   · rename_i hl
     obtain ⟨c, ec, rfl⟩ := Option.map_eq_some_iff.mp q
     rw [Yq rx, vp ry]
     exact Yp ix_str ⟨z', i', c, rfl, rfl, xO hl, ec, k _ (.str _)⟩
   · cases q
 · rename_i i' _
   split at q
   · rename_i l el
     obtain ⟨p, vs, rfl, rl, sq⟩ := HF R rx el
     obtain ⟨v, ev, rv⟩ := aeU rl q
     rw [vp ry]
     rcases sq with sq | sq
     · exact Yp ix_list ⟨p, vs, i', v, rfl, rfl, sq, ev, k v rv⟩
     · exact Yp ix_tup ⟨p, vs, i', v, rfl, rfl, sq, ev, k v rv⟩
   · cases q
 · cases q
theorem UG (sa : cO X T W a ma) (sb : cO X T W b mb) (hs : PlainIx b := by intro _ _; rfl) : cO X T W (.Subscript a b pos) (bf gJ ma mb) := fun B w σ H fr h Q r1 p =>
 uP (pe_ix ach mZ mZ hs) (V3 (VR := vV) sa sb (fun B w σ H fr h x y d e z Q R rx ry q k => aci R (.inl rx) ry q fun v rv => k w H v (Wd.le_refl _) R rv) B w σ H fr h Q r1 p)
def yu (i : Nat) : M Unit := fun fr h => match fr[i]? with
 | some (some _) => .ok () fr h
 | _ => .err
def gH {α : Type} (i : Nat) (m : M α) (f : Hh → D → α → Option D) : M D := (yu i).bind fun _ => m.bind fun y => (iz i).bind fun d fr h => M.opt (f h d y) fr h
theorem Yr {K : PySem.W.Frag} {B : Bs} {w : Wd} {σ : L2.St} {H : Hp} {fr : Fr} {h : Hh} {i : Nat} {α β : Type} {VR : Wd → Hp → Fr → β → α → Prop} {m : M α} {Q : β → Hp → Prop} (R : Rel K T B w σ H fr h) (p : bu K T B W VR w σ ((yu i).bind (fun _ => m) fr h) Q) :
 (∃ v, σ[i]? = some (some v)) ∧ bu K T B W VR w σ (m fr h) Q := by
 cases e1 : fr[i]? with
 | none =>
   have q : yu i fr h = .err := by unfold yu; rw [e1]
   rw [M.bind_err q] at p
   exact p.elim
 | some o =>
   cases o with
   | none =>
     have q : yu i fr h = .err := by unfold yu; rw [e1]
     rw [M.bind_err q] at p
     exact p.elim
   | some d =>
     have q : yu i fr h = .ok () fr h := by unfold yu; rw [e1]
     rw [M.bind_ok q] at p
     obtain ⟨v, e2, z⟩ := vm R e1
     exact ⟨⟨v, e2⟩, p⟩
theorem Ys {K : PySem.W.Frag} {B : Bs} {w : Wd} {σ : L2.St} {H : Hp} {fr : Fr} {h : Hh} {i : Nat} {v : V} {α β : Type} {VR : Wd → Hp → Fr → β → α → Prop} {f : D → M α} {Q : β → Hp → Prop} (R : Rel K T B w σ H fr h) (ev : σ[i]? = some (some v))
 (p : bu K T B W VR w σ ((iz i).bind f fr h) Q) : ∃ d, vO K T B σ w H fr v d ∧ bu K T B W VR w σ (f d fr h) Q := by
 cases e1 : fr[i]? with
 | none =>
   have q : iz i fr h = .err := by unfold iz; rw [e1]
   rw [M.bind_err q] at p
   exact p.elim
 | some o =>
   cases o with
   | none =>
     have q : iz i fr h = .err := by unfold iz; rw [e1]
     rw [M.bind_err q] at p
     exact p.elim
   | some d =>
     have q : iz i fr h = .ok d fr h := by unfold iz; rw [e1]
     rw [M.bind_ok q] at p
     obtain ⟨v', e2, z⟩ := vm R e1
     rw [ev] at e2
     cases e2
     refine ⟨d, ?_, p⟩
     cases z with
     | val rd => exact .inl rd
     | own O eH rd => exact .inr ⟨_, _, rfl, eH, rd⟩
theorem iD (i : Nat) {x : Str} {px : Pos} (sb : cO X T W b mb) (hs : PlainIx b := by intro _ _; rfl) (hN : X.N[i]? = some x := by rfl) (hv : Vis X.env.scope x := by first | exact Or.inl rfl | exact Or.inr (Or.inl rfl) | exact Or.inr (Or.inr rfl)) (hd : (x == ("__debug__" : Str)) = false := by decide)
 (hcd : (x == ("__classdict__" : Str)) = false := by decide) : cO X T W (.Subscript (.Name x px) b pos) (gH i mb gJ) := fun B w σ H fr h Q r1 p => by
 obtain ⟨⟨v, ev⟩, p⟩ := Yr r1 p
 refine uP (pe_ix ach (pe_var hN hv hd hcd) mZ hs) ⟨v, ev, sb B w σ H fr h _ r1 (bu.bind (VR := vV X.K T B σ) p fun y fr1 h1 w1 H1 u e1 l1 r2 ru p1 => ?_)⟩
 obtain ⟨d, rd, p2⟩ := Ys r2 ev p1
 cases q : gJ h1 d y with
 | none => rw [q] at p2; exact p2.elim
 | some z =>
   rw [q] at p2
   exact aci r2 rd ru q fun v' rv => p2 w1 H1 v' (Wd.le_refl _) r2 rv
def slM (X : Cx) : V → Option Int → Option Int → Hp → VK → Prop := fun x lo hi H Q => ∀ pins s σ v vl vu sl, Inv X pins σ H s → RelV x v → s.heap.IsSliceOf sl vl vu .none → IsPart vl lo → IsPart vu hi →
    ∃ T id, typeLookup (.type T) "__getitem__" = pure (some (.builtin id)) ∧ s.TypeIs v T ∧ wpAny (model X.prog X.w) X.A (getItem v (.ref sl)) (EP X pins σ Q) X.xe s
theorem afZ : SlR X (slM X) := fun pins s σ H x v vl vu lo hi sl Q I rx hs pl pu h => h pins s σ v vl vu sl I rx hs pl pu
theorem Yt {r : V → Option Int → Option Int → Hp → VK → Prop} (o : SlR X r) {x : V} {lo hi : Option Int} {H : Hp} {Q : VK} (h : r x lo hi H Q) : slM X x lo hi H Q := fun pins s σ v vl vu sl I rx hs pl pu => o pins s σ H x v vl vu lo hi sl Q I rx hs pl pu h
def WO (X : Cx) (e : Option Expr) : TO := fun σ H Q => ∀ pins s, Inv X pins σ H s → wpAny (model X.prog X.w) X.A (evalPart e X.env) (fun u s' => ∃ o H', Inv X pins σ H' s' ∧ IsPart u o ∧ Q o H') X.xe s
theorem acj {e : Option Expr} : PO X e (WO X e) := ⟨fun pins s σ H Q I h => h pins s I⟩
theorem ag6 {e : Option Expr} {t : TO} (p : PO X e t) {σ : L2.St} {H : Hp} {Q : Option Int → Hp → Prop} (h : t σ H Q) : WO X e σ H Q := fun pins s I => p.run pins s σ H Q I h
def vI : wJ (Option Int) (Option Int) := fun _ _ _ _ _ _ _ b c => b = c
abbrev ac6 (X : Cx) (T : Tb) (W : WX) (e : Option Expr) (m : M (Option Int)) : Prop := wF (WO X e) X.K T W vI m
def mPn : M (Option Int) := M.ret none
def UJ (m : M D) : M (Option Int) := m.bind fun d => M.opt (match d with | .int i => some (some i) | _ => none)
theorem aap (s : cO X T W e m) : ac6 X T W (some e) (UJ m) := fun B w σ H fr h Q r p =>
 ag6 (po_some mZ) (s B w σ H fr h _ r (bu.bind (VR := vV X.K T B σ) p fun d fr1 h1 w1 H1 x e1 l1 r1 rx p1 => by
  cases rx with
  | int i => exact ⟨i, rfl, p1 w1 H1 _ (Wd.le_refl _) r1 rfl⟩
  | _ => exact (show False from p1).elim))
def cutD {α : Type} (xs : List α) (lo hi : Option Int) : List α := (xs.drop (HT.sIx xs.length 0 lo)).take (HT.sIx xs.length xs.length hi - HT.sIx xs.length 0 lo)
theorem aaq {K : PySem.W.Frag} {w : Wd} {vs : List V} {ds : List D} {lo hi : Option Int} (r : aO K T w vs ds) : aO K T w (cutV vs lo hi) (cutD ds lo hi) := by
 unfold cutV cutD
 rw [r.length]
 exact (r.drop _).take _
def zR (h : Hh) (d : D) (p : Option Int × Option Int) : Option D := match d with
 | .str z => if z.length ≤ big then some (.str (cutS z p.1 p.2)) else none
 | .tup l => some (.tup (cutD l p.1 p.2))
 | d => match d.der h with
   | .fl l => some (.nl (cutD l p.1 p.2))
   | .nl l => some (.nl (cutD l p.1 p.2))
   | .kl l => some (.nl (cutD l p.1 p.2))
   | _ => none
theorem ack {α : Type} {xs : List α} {lo hi : Option Int} (h1 : HT.sIx xs.length 0 lo = 0) (h2 : HT.sIx xs.length xs.length hi = xs.length) : cutD xs lo hi = xs := by
 unfold cutD
 rw [h1, h2, aiV, Nat.sub_zero, List.take_length]
theorem aeV {K : PySem.W.Frag} {B : Bs} {w : Wd} {σ : L2.St} {H : Hp} {fr : Fr} {h : Hh} {v : V} {d : D} {l : List D} (R : Rel K T B w σ H fr h) (z : vO K T B σ w H fr v d) (e : d.der h = .fl l ∨ d.der h = .nl l ∨ d.der h = .kl l) :
 ∃ p vs, v = .ref p ∧ aO K T w vs l ∧ SqL K H p vs := by
 rcases z with z | ⟨p, o, rfl, eH, z⟩
 · cases z with
   | fl s r =>
     rcases e with e | e | e <;> cases e
     exact ⟨_, _, rfl, r, SqL.of (R.sub _ _ s)⟩
   | kl s r =>
     rcases e with e | e | e <;> cases e
     exact ⟨_, _, rfl, r, Ba R.sub s⟩
   | @ref a n s =>
     have ln : n < h.length := by
      rw [← R.len]
      exact (List.getElem?_eq_some_iff.mp s).1
     obtain ⟨o, q, rr⟩ := R.cel n a h[n] s (ai9 ln)
     have e0 : D.der h (.ref n) = h[n] := by
      unfold D.der
      dsimp only
      rw [ai9 ln]
      rfl
     rw [e0] at e
     generalize h[n] = c at rr e
     cases rr with
     | lst r =>
       rcases e with e | e | e <;> cases e
       exact ⟨_, _, rfl, r, SqL.of q⟩
     | obj r => rcases e with e | e | e <;> cases e
     | dct _ r => rcases e with e | e | e <;> cases e
   | _ => rcases e with e | e | e <;> cases e
 · cases z with
   | lst r =>
     rcases e with e | e | e <;> cases e
     exact ⟨_, _, rfl, r, SqL.of eH⟩
   | obj r => rcases e with e | e | e <;> cases e
theorem af0 {B : Bs} {w : Wd} {σ : L2.St} {H : Hp} {fr : Fr} {h : Hh} {x : V} {d z : D} {lo hi : Option Int} {Q : VK} (R : Rel X.K T B w σ H fr h) (rx : vO X.K T B σ w H fr x d) (q : zR h d (lo, hi) = some z)
 (k : ∀ w' H' v, w.le w' → Rel X.K T B w' σ H' fr h → vE X.K T B σ w' H' fr v z → Q v H') : slM X x lo hi H Q := by
 have fin : ∀ {l : List D}, (d.der h = .fl l ∨ d.der h = .nl l ∨ d.der h = .kl l) → z = .nl (cutD l lo hi) → slM X x lo hi H Q := fun {l} el ez => by
  obtain ⟨p, vs, rfl, rl, sq⟩ := aeV R rx el
  subst ez
  exact Yt sl_list ⟨p, vs, rfl, sq, fun q nq => V4 R (aaq rl) nq k⟩
 unfold zR at q
 split at q
 · split at q
   · rename_i hl
     cases q
     rw [Yq rx]
     exact Yt sl_str ⟨_, rfl, xO hl, k w H _ (Wd.le_refl _) R (.inl (.str _))⟩
   · cases q
 · cases q
   rcases rx with rx | ⟨_, _, _, _, r⟩
   · obtain ⟨p, vs, rfl, s, rl⟩ := Kc rx
     refine Yt sl_tupA ⟨p, vs, rfl, wN R.sub s, fun hw => ?_, fun _ q nq => Rx R (aaq rl) nq fun w' H' v l R' r' => k w' H' v l R' (.inl r')⟩
     rw [rl.length] at hw
     refine k w H _ (Wd.le_refl _) R (.inl ?_)
     rw [ack hw.1 hw.2]
     exact rx
   · cases r
 · split at q
   · rename_i l el
     exact fin (.inl el) (by cases q; rfl)
   · rename_i l el
     exact fin (.inr (.inl el)) (by cases q; rfl)
   · rename_i l el
     exact fin (.inr (.inr el)) (by cases q; rfl)
   · cases q
def Lz (ml mh : M (Option Int)) : M (Option Int × Option Int) := ml.bind fun l => mh.bind fun u => M.ret (l, u)
variable {lo hi : Option Expr} {ml mh : M (Option Int)}
theorem aeW (i : Nat) {x : Str} {px : Pos} (sl : ac6 X T W lo ml) (sh : ac6 X T W hi mh) (hN : X.N[i]? = some x := by rfl) (hv : Vis X.env.scope x := by first | exact Or.inl rfl | exact Or.inr (Or.inl rfl) | exact Or.inr (Or.inr rfl)) (hd : (x == ("__debug__" : Str)) = false := by decide)
 (hcd : (x == ("__classdict__" : Str)) = false := by decide) : zQ X T W (.Subscript (.Name x px) (.Slice lo hi none p2) pos) (gH i (Lz ml mh) zR) := fun B w σ H fr h Q r1 p => by
 obtain ⟨⟨v, ev⟩, p⟩ := Yr r1 p
 have p0 : bu X.K T B W (vE X.K T B σ) w σ ((ml.bind fun l => mh.bind fun u => (iz i).bind fun d fr h => M.opt (zR h d (l, u)) fr h) fr h) Q := by
  have e : (Lz ml mh).bind (fun y => (iz i).bind fun d fr h => M.opt (zR h d y) fr h) fr h = (ml.bind fun l => mh.bind fun u => (iz i).bind fun d fr h => M.opt (zR h d (l, u)) fr h) fr h := by
   unfold Lz M.bind
   cases ml fr h with
   | ok l fr1 h1 => dsimp only; cases mh fr1 h1 <;> rfl
   | exc _ _ _ => rfl
   | err => rfl
  rw [← e]
  exact p
 refine uP (pe_slice afZ (pe_var hN hv hd hcd) acj acj) ⟨v, ev, sl B w σ H fr h _ r1 (bu.bind (VR := vI X.K T B σ) p0 fun l fr1 h1 w1 H1 l' e1 l1 r2 rl p1 => sh B w1 σ H1 fr1 h1 _ r2 (bu.bind (VR := vI X.K T B σ) p1 fun u fr2 h2 w2 H2 u' e2 l2 r3 ru p2 => ?_))⟩
 have rl' : l' = l := rl
 have ru' : u' = u := ru
 subst rl' ru'
 obtain ⟨d, rd, p3⟩ := Ys r3 ev p2
 cases q : zR h2 d (l', u') with
 | none => rw [q] at p3; exact p3.elim
 | some z =>
   rw [q] at p3
   exact af0 r3 rd q p3
def ac7 (ma : M D) (ml mh : M (Option Int)) : M D := ma.bind fun d => ml.bind fun l => mh.bind fun u fr h => M.opt (zR h d (l, u)) fr h
variable {x : Str}
theorem af1 {VR1 VR : wJ V D} {id : String} {f : Hh → D → Option D} (sa : wF (WE X a) X.K T W VR1 ma) (hr : ∀ B w σ H fr h x d z Q, Rel X.K T B w σ H fr h → VR1 X.K T B σ w H fr x d → f h d = some z → (∀ w' H' v, w.le w' → Rel X.K T B w' σ H' fr h → VR X.K T B σ w' H' fr v z → Q v H') → cM X (.builtin id) [x] H Q)
 (hm : X.mg x = none) (hg : Gl X x := by rfl) (hv : bootBuiltins x = some (.builtin id) := by decide +kernel) (hn : x ≠ "__name__" := by decide) (hdb : (x == ("__debug__" : Str)) = false := by decide)
 (he : starEach (a :: []) X.env = (false, eval a X.env) :: starEach [] X.env := by exact uG rfl) (hpl : (backTo pos (starEach [] X.env)).any (·.1) = false := by rfl) : wF (WE X (.Call (.Name x pf) [a] [] pos)) X.K T W VR (mQ f ma) := fun B w σ H fr h Q r1 p =>
 uP (pe_callB T7 hg hm hv (pa_cons mZ pa_nil he) hn hdb he hpl) (aa8 (r := fun x H Q => cM X (.builtin id) [x] H Q) sa hr B w σ H fr h Q r1 p)
theorem af2 {VR1 VR : wJ V D} {id : String} {f : Hh → D → Option D} (sa : wF (WE X a) X.K T W VR1 ma) (hr : ∀ B w σ H fr h x d z Q, Rel X.K T B w σ H fr h → VR1 X.K T B σ w H fr x d → f h d = some z → (∀ w' H' v, w.le w' → Rel X.K T B w' σ H' fr h → VR X.K T B σ w' H' fr v z → Q v H') → cM X (.type id) [x] H Q)
 (hm : X.mg x = none) (hg : Gl X x := by rfl) (hv : bootBuiltins x = some (.type id) := by decide +kernel) (hn : x ≠ "__name__" := by decide) (hdb : (x == ("__debug__" : Str)) = false := by decide)
 (he : starEach (a :: []) X.env = (false, eval a X.env) :: starEach [] X.env := by exact uG rfl) (hpl : (backTo pos (starEach [] X.env)).any (·.1) = false := by rfl) : wF (WE X (.Call (.Name x pf) [a] [] pos)) X.K T W VR (mQ f ma) := fun B w σ H fr h Q r1 p =>
 uP (pe_callTy T7 hg hm hv (pa_cons mZ pa_nil he) hn hdb he hpl) (aa8 (r := fun x H Q => cM X (.type id) [x] H Q) sa hr B w σ H fr h Q r1 p)
def vh (h : Hh) (d : D) : Option D := match d with
 | .str z => if z.length ≤ big then some (.int z.length) else none
 | d => (d.its h).map fun l => .int l.length
theorem EY (sa : V1 X T W a ma) (hm : X.mg "len" = none) (hg : Gl X "len" := by rfl) (he : starEach (a :: []) X.env = (false, eval a X.env) :: starEach [] X.env := by exact uG rfl) : cO X T W (.Call (.Name "len" pf) [a] [] pos) (mQ vh ma) :=
 af1 (id := "len") sa (fun B w σ H fr h x d z Q R rx q k => by
  unfold vh at q
  split at q
  · split at q
    · rename_i hl
      cases q
      rw [Yq rx]
      exact yD call_len_str ⟨_, rfl, xO hl, k w H _ (Wd.le_refl _) R (.int _)⟩
    · cases q
  · obtain ⟨l, el, rfl⟩ := Option.map_eq_some_iff.mp q
    obtain ⟨p, vs, rfl, rl, sq⟩ := HF R rx el
    refine yD call_len_seq ⟨p, vs, rfl, sq, ?_⟩
    rw [rl.length]
    exact k w H _ (Wd.le_refl _) R (.int _)) hm hg (by decide +kernel) (by decide) (by decide) he
def yq (_ : Hh) (d : D) : Option D := match d with
 | .int i => some (.int i)
 | .bl b => some (.int (if b then 1 else 0))
 | .str z => if z.length ≤ 640 then (PySem.intText? z).map .int else none
 | _ => none
theorem HJ (sa : cO X T W a ma) (hm : X.mg "int" = none) (hg : Gl X "int" := by rfl) (he : starEach (a :: []) X.env = (false, eval a X.env) :: starEach [] X.env := by exact uG rfl) : cO X T W (.Call (.Name "int" pf) [a] [] pos) (mQ yq ma) :=
 af2 (id := "int") sa (fun B w σ H fr h x d z Q R rx q k => by
  unfold yq at q
  split at q
  · cases q
    rw [vp rx]
    exact yD call_int1 (.inl ⟨_, rfl, k w H _ (Wd.le_refl _) R (.int _)⟩)
  · cases q
    rw [aca rx]
    exact yD call_int1 (.inr ⟨_, rfl, k w H _ (Wd.le_refl _) R (.int _)⟩)
  · split at q
    · rename_i hl
      obtain ⟨n, en, rfl⟩ := Option.map_eq_some_iff.mp q
      rw [zV rx]
      exact yD call_int_str ⟨_, n, rfl, en, hl, k w H _ (Wd.le_refl _) R (.int _)⟩
    · cases q
  · cases q) hm hg (by decide +kernel) (by decide) (by decide) he
def Od (_ : Hh) (d : D) : Option D := match d with
 | .int i => some (.int (if i < 0 then -i else i))
 | _ => none
theorem acl (sa : cO X T W a ma) (hm : X.mg "abs" = none) (hg : Gl X "abs" := by rfl) (he : starEach (a :: []) X.env = (false, eval a X.env) :: starEach [] X.env := by exact uG rfl) : cO X T W (.Call (.Name "abs" pf) [a] [] pos) (mQ Od ma) :=
 af1 (id := "abs") sa (fun B w σ H fr h x d z Q R rx q k => by
  unfold Od at q
  split at q
  · cases q
    rw [vp rx]
    exact yD call_abs ⟨_, rfl, k w H _ (Wd.le_refl _) R (.int _)⟩
  · cases q) hm hg (by decide +kernel) (by decide) (by decide) he
def aex (h : Hh) (d : D) : Option D := (d.its h).map .nl
def acn (h : Hh) (d : D) : Option D := (d.its h).map .tup
def D.ints : List D → Option (List Int)
 | [] => some []
 | .int i :: r => (D.ints r).map (i :: ·)
 | _ :: _ => none
def D.lints (h : Hh) (d : D) : Option (List Int) := match d.der h with
 | .fl l => D.ints l
 | .nl l => D.ints l
 | .kl l => D.ints l
 | _ => none
def Yu (h : Hh) (d : D) : Option D := (d.lints h).map fun l => .int l.sum
def aba : Int → List Int → Int
 | a, [] => a
 | a, b :: r => aba (if b > a then b else a) r
def af3 : Int → List Int → Int
 | a, [] => a
 | a, b :: r => af3 (if b < a then b else a) r
def ag7 (h : Hh) (d : D) : Option D := match d.lints h with
 | some (a :: r) => some (.int (aba a r))
 | _ => none
def ah3 (h : Hh) (d : D) : Option D := match d.lints h with
 | some (a :: r) => some (.int (af3 a r))
 | _ => none
theorem ac8 {VR2 VR : wJ V D} {id : String} {f : Hh → D → D → Option D} (sa : cO X T W a ma) (sb : wF (WE X b) X.K T W VR2 mb)
 (hr : ∀ B w σ H fr h x y d e z Q, Rel X.K T B w σ H fr h → rC X.K T w x d → VR2 X.K T B σ w H fr y e → f h d e = some z → (∀ w' H' v, w.le w' → Rel X.K T B w' σ H' fr h → VR X.K T B σ w' H' fr v z → Q v H') → cM X (.builtin id) [x, y] H Q)
 (hm : X.mg x = none) (hg : Gl X x := by rfl) (hv : bootBuiltins x = some (.builtin id) := by decide +kernel) (hn : x ≠ "__name__" := by decide) (hdb : (x == ("__debug__" : Str)) = false := by decide)
 (he : starEach (a :: b :: []) X.env = (false, eval a X.env) :: starEach (b :: []) X.env := by exact uG rfl) (he2 : starEach (b :: []) X.env = (false, eval b X.env) :: starEach [] X.env := by exact uG rfl)
 (hpl : (backTo pos (starEach (b :: []) X.env)).any (·.1) = false := by rfl) : wF (WE X (.Call (.Name x pf) [a, b] [] pos)) X.K T W VR (bf f ma mb) := fun B w σ H fr h Q r1 p =>
 uP (pe_callB T7 hg hm hv (pa_cons mZ (pa_cons mZ pa_nil he2) he) hn hdb he hpl) (V3 (r := fun x y H Q => cM X (.builtin id) [x, y] H Q) sa sb hr B w σ H fr h Q r1 p)
abbrev RB := Cv Yi fun i j => if j > i then j else i
abbrev RD := Cv Yi fun i j => if j < i then j else i
theorem aeX (C : Cq X T W k) (sa : cO X T W a ma) (sb : cO X T W b mb) (hm : X.mg "max" = none) (hg : Gl X "max" := by rfl) (he : starEach (a :: b :: []) X.env = (false, eval a X.env) :: starEach (b :: []) X.env := by exact uG rfl) (he2 : starEach (b :: []) X.env = (false, eval b X.env) :: starEach [] X.env := by exact uG rfl)
 (hpl : (backTo pos (starEach (b :: []) X.env)).any (·.1) = false := by rfl) : cO X T W (.Call (.Name "max" pf) [a, b] [] pos) (bf RB ma mb) :=
 ac8 (id := "max") sa sb (fun B w σ H fr h x y d e z Q R rx ry q kk => by
  unfold RB Cv at q
  split at q
  · cases q
    rw [vp rx, vp ry]
    exact yD (call_max2 C.calm) ⟨_, _, rfl, kk w H _ (Wd.le_refl _) R (.int _)⟩
  · cases q) hm hg (by decide +kernel) (by decide) (by decide) he he2 hpl
theorem aeY (C : Cq X T W k) (sa : cO X T W a ma) (sb : cO X T W b mb) (hm : X.mg "min" = none) (hg : Gl X "min" := by rfl) (he : starEach (a :: b :: []) X.env = (false, eval a X.env) :: starEach (b :: []) X.env := by exact uG rfl) (he2 : starEach (b :: []) X.env = (false, eval b X.env) :: starEach [] X.env := by exact uG rfl)
 (hpl : (backTo pos (starEach (b :: []) X.env)).any (·.1) = false := by rfl) : cO X T W (.Call (.Name "min" pf) [a, b] [] pos) (bf RD ma mb) :=
 ac8 (id := "min") sa sb (fun B w σ H fr h x y d e z Q R rx ry q kk => by
  unfold RD Cv at q
  split at q
  · cases q
    rw [vp rx, vp ry]
    exact yD (call_min2 C.calm) ⟨_, _, rfl, kk w H _ (Wd.le_refl _) R (.int _)⟩
  · cases q) hm hg (by decide +kernel) (by decide) (by decide) he he2 hpl
end
end Pk
namespace Pk
open PySem PySem.Spec L2
def Bs.pr (B : Bs) (p : Addr) (o : HO) : Bs := ⟨B.w0, B.H0, (p, o) :: B.P, B.me⟩
section
variable {K : PySem.W.Frag} {T : Tb} {B : Bs} {w w' : Wd} {σ : L2.St} {H H' : Hp} {fr : Fr} {h : Hh} {p : Addr} {o : HO}
theorem Own.pr (O : Own B w p) {q : Addr} {u : HO} (hq : q ≠ p) : Own (B.pr q u) w p := ⟨O.f, O.i, O.e, fun z hz => by
 rcases List.mem_cons.mp hz with e | hz
 · rw [e]
   exact hq
 · exact O.p z hz⟩
theorem Own.unpr {q : Addr} {u : HO} (O : Own (B.pr q u) w p) : Own B w p := ⟨O.f, O.i, O.e, fun z hz => O.p z (ajc _ hz)⟩
theorem Rel.protect (R : Rel K T B w σ H fr h) (O : Own B w p) (lo : Fw σ fr p) (e : H p = some o) : Rel K T (B.pr p o) w σ H fr h :=
 { R with
   prot := fun q hq => by
    rcases List.mem_cons.mp hq with z | hq
    · rw [z]
      exact ⟨e, O.f, O.i⟩
    · exact R.prot q hq
   sl := fun i s d e1 e2 => by
    have z := R.sl i s d e1 e2
    cases z with
    | none => exact .none
    | val r => exact .val r
    | @own q u _ O' eH' rr =>
      have hne : p ≠ q := fun z => lo i ⟨by rw [z]; exact e1, _, e2, rr.own⟩
      exact .own (O'.pr hne) eH' rr }
theorem Rel.unprotect (R : Rel K T (B.pr p o) w σ H fr h) (e0 : B.H0 p = none) (hP : ∀ q ∈ B.P, q.1 ≠ p) : Rel K T B w σ H fr h ∧ Own B w p ∧ Fw σ fr p ∧ H p = some o := by
 obtain ⟨h1, h2, h3⟩ := R.prot (p, o) (ai8)
 refine ⟨{ R with prot := fun q hq => R.prot q (ajc _ hq), sl := fun i s d e1 e2 => ?_ }, ⟨h2, h3, e0, hP⟩, fun i ⟨q1, d, q2, od⟩ => ?_, h1⟩
 · have z := R.sl i s d e1 e2
   cases z with
   | none => exact .none
   | val r => exact .val r
   | own O' eH' rr => exact .own O'.unpr eH' rr
 · have z := R.sl i _ _ q1 q2
   cases z with
   | val r => exact Dj od r
   | own O' eH' rr => exact O'.p (p, o) (ai8) rfl
theorem Rel.repr {o' : HO} (R : Rel K T (B.pr p o) w σ H fr h) (e0 : B.H0 p = none) (hP : ∀ q ∈ B.P, q.1 ≠ p) : Rel K T (B.pr p o') w σ (upd H p o') fr h := by
 obtain ⟨R1, O, lo, e⟩ := R.unprotect e0 hP
 refine Rel.protect { R1 with keep := fun a u ha hm => ?_, prot := fun q hq => ?_, sub := fun a u ha => ?_, cel := fun n a c q1 q2 => ?_, sl := fun j s dj q1 q2 => ?_ } O lo upd_same
 · rw [upd_ne (fun z => by rw [z, e0] at ha; cases ha)]
   exact R1.keep a u ha hm
 · obtain ⟨h1, h2, h3⟩ := R1.prot q hq
   exact ⟨by rw [upd_ne (hP q hq)]; exact h1, h2, h3⟩
 · rw [upd_ne (fun z => by rw [z, O.f] at ha; cases ha)]
   exact R1.sub a u ha
 · have hne : a ≠ p := fun z => O.i (by rw [← z]; exact ajg q1)
   exact Mv.keep (Wd.le_refl w) (upd_ne hne) (R1.cel n a c q1 q2)
 · have z := R1.sl j s dj q1 q2
   cases z with
   | none => exact .none
   | val r => exact .val r
   | @own q u _ O' eH' rr =>
     have hne : q ≠ p := fun z => lo j ⟨by rw [← z]; exact q1, _, q2, rr.own⟩
     exact .own O' (by rw [upd_ne hne]; exact eH') rr
end
def WG (X : Cx) (tg : Expr) : TG := fun v σ H Q => ∀ pins s u, Inv X pins σ H s → RelV v u → wpAny (model X.prog X.w) X.A (assign tg X.env u) (fun _ s' => ∃ σ' H', Inv X pins σ' H' s' ∧ Q σ' H') X.xe s
structure WI (X : Cx) (tg iter : Expr) (σ : L2.St) (H : Hp) (R : It → Hp → Prop) : Prop where
 go : ∀ pins s, Inv X pins σ H s → wpAny (model X.prog X.w) X.A (eval iter X.env) (fun v s1 => wpAny (model X.prog X.w) X.A (pyIter v) (PIE X pins σ tg R) X.xe s1) X.xe s
def UL (X : Cx) (ifs : List Expr) : TT := fun σ H Q => ∀ pins s, Inv X pins σ H s →
    wpAny (model X.prog X.w) X.A (forIn ifs true fun c r => if r = true then do let ok ← isTrue c X.env (eval c X.env); pure (ForInStep.yield ok) else pure (ForInStep.yield r)) (TP X pins σ Q) X.xe s
section
variable {X : Cx} {tg iter : Expr} {ifs : List Expr}
theorem Yv : PG X tg (WG X tg) := ⟨fun pins s σ H v u Q I r h => h pins s u I r⟩
theorem UT : PI X tg iter (WI X tg iter) := ⟨fun pins s σ H R I h => h.go pins s I⟩
theorem aey {t : TG} (p : PG X tg t) {v : V} {σ : L2.St} {H : Hp} {Q : L2.St → Hp → Prop} (h : t v σ H Q) : WG X tg v σ H Q := fun pins s u I r => p.run pins s σ H v u Q I r h
theorem abb {t : TI} (p : PI X tg iter t) {σ : L2.St} {H : Hp} {R : It → Hp → Prop} (h : t σ H R) : WI X tg iter σ H R := ⟨fun pins s I => p.run pins s σ H R I h⟩
theorem aar {t : TT} (p : PTs X ifs t) {σ : L2.St} {H : Hp} {Q : Bool → Hp → Prop} (h : t σ H Q) : UL X ifs σ H Q := fun pins s I => p.run pins s σ H Q I h
end
inductive Hu (K : PySem.W.Frag) (T : Tb) (B : Bs) (σ : L2.St) (w : Wd) (H : Hp) (fr : Fr) : List V → List D → List Addr → Prop where
 | nil : Hu K T B σ w H fr [] [] []
 | val {v : V} {d : D} {vs : List V} {ds : List D} {ps : List Addr} : rC K T w v d → Hu K T B σ w H fr vs ds ps → Hu K T B σ w H fr (v :: vs) (d :: ds) ps
 | own {p : Addr} {o : HO} {d : D} {vs : List V} {ds : List D} {ps : List Addr} : Own B w p → Fw σ fr p → H p = some o → Bb K T w o d → p ∉ ps → Hu K T B σ w H fr vs ds ps → Hu K T B σ w H fr (.ref p :: vs) (d :: ds) (p :: ps)
def vEs : wJ (List V) (List D) := fun K T B σ w H fr vs ds => ∃ ps, Hu K T B σ w H fr vs ds ps
abbrev XX (X : Cx) (T : Tb) (W : WX) (es : List Expr) (m : M (List D)) : Prop := wF (WA X es) X.K T W vEs m
theorem Hu.unpr {K : PySem.W.Frag} {T : Tb} {B : Bs} {σ : L2.St} {w : Wd} {H : Hp} {fr : Fr} {p : Addr} {o : HO} {vs : List V} {ds : List D} {ps : List Addr} (x : Hu K T (B.pr p o) σ w H fr vs ds ps) : Hu K T B σ w H fr vs ds ps ∧ p ∉ ps := by
 induction x with
 | nil => exact ⟨.nil, by simp⟩
 | val r _ ih => exact ⟨.val r ih.1, ih.2⟩
 | @own q u d vs ds ps O lo e r nq _ ih =>
   refine ⟨.own O.unpr lo e r nq ih.1, fun z => ?_⟩
   rcases List.mem_cons.mp z with z | z
   · exact O.p (p, o) (ai8) z
   · exact ih.2 z
theorem Hu.length {K : PySem.W.Frag} {T : Tb} {B : Bs} {σ : L2.St} {w : Wd} {H : Hp} {fr : Fr} {vs : List V} {ds : List D} {ps : List Addr} (x : Hu K T B σ w H fr vs ds ps) : vs.length = ds.length := by
 induction x with
 | nil => rfl
 | val _ _ ih => exact congrArg Nat.succ ih
 | own _ _ _ _ _ _ ih => exact congrArg Nat.succ ih
theorem bu.pr {α β : Type} {K : PySem.W.Frag} {T : Tb} {B : Bs} {W : WX} {VR VR' : Wd → Hp → Fr → β → α → Prop} {w : Wd} {σ : L2.St} {p : Addr} {o : HO} {r : R α} {Q Q' : β → Hp → Prop} (e0 : B.H0 p = none) (hP : ∀ q ∈ B.P, q.1 ≠ p) (x : bu K T B W VR w σ r Q)
 (k : ∀ d fr h w' H' v, r = .ok d fr h → w.le w' → Rel K T (B.pr p o) w' σ H' fr h → VR' w' H' fr v d → (∀ w2 H2 v2, w.le w2 → Rel K T B w2 σ H2 fr h → VR w2 H2 fr v2 d → Q v2 H2) → Q' v H') : bu K T (B.pr p o) W VR' w σ r Q' := by
 cases r with
 | ok d fr h => exact fun w' H' v l R z => k d fr h w' H' v rfl l R z x
 | exc e fr h => exact fun w' H' c dd l R z => x w' H' c dd l (R.unprotect e0 hP).1 z
 | err => exact x
section
variable {X : Cx} {T : Tb} {W : WX} {e : Expr} {es : List Expr} {m : M D} {ms : List (M D)}
theorem aas : XX X T W [] (aj []) := fun B w σ H fr h Q r1 p => Rv pa_nil (p w H _ (Wd.le_refl _) r1 ⟨[], .nil⟩)
theorem HQ (s : zQ X T W e m) (t : XX X T W es (aj ms)) (hs : starEach (e :: es) X.env = (false, eval e X.env) :: starEach es X.env := by exact uG rfl) : XX X T W (e :: es) (aj (m :: ms)) := fun B w σ H fr h Q r1 p =>
 Rv (pa_cons mZ Ks hs) (s B w σ H fr h _ r1 (bu.bind (VR := vE X.K T B σ) p fun d fr1 h1 w1 H1 x e1 l1 r1 rx p1 => by
  rcases rx with rx | ⟨q, o, rfl, O, lo, eH, rd⟩
  · exact t B w1 σ H1 fr1 h1 _ r1 (bu.bind (VR := vEs X.K T B σ) p1 fun ds fr2 h2 w2 H2 vs e2 l2 r2 ⟨ps, rs⟩ p2 => p2 w2 H2 _ (Wd.le_refl _) r2 ⟨ps, .val (rx.mono l2) rs⟩)
  · refine t (B.pr q o) w1 σ H1 fr1 h1 _ (r1.protect O lo eH) ?_
    have p1' : bu X.K T B W (vEs X.K T B σ) w1 σ ((aj ms).bind (fun ds => M.ret (d :: ds)) fr1 h1) Q := p1
    cases e2 : aj ms fr1 h1 with
    | ok ds fr2 h2 =>
      rw [M.bind_ok e2] at p1'
      intro w2 H2 vs l2 r2 ⟨ps, rs⟩
      obtain ⟨r3, O3, lo3, eH3⟩ := r2.unprotect O.e O.p
      obtain ⟨rs', np⟩ := rs.unpr
      exact p1' w2 H2 (.ref q :: vs) l2 r3 ⟨q :: ps, .own O3 lo3 eH3 (rd.mono l2) np rs'⟩
    | exc y fr2 h2 =>
      rw [M.bind_exc e2] at p1'
      exact fun w' H' c dd l R z => p1' w' H' c dd l (R.unprotect O.e O.p).1 z
    | err =>
      rw [M.bind_err e2] at p1'
      exact p1'))
end
def RG (is : List Nat) (σ' σ : L2.St) : Prop := σ'.length = σ.length ∧ ∀ j : Nat, j ∉ is → σ'[j]? = σ[j]?
def Mx (X : Cx) (T : Tb) (is : List Nat) (tg : Expr) (mg : D → M Unit) : Prop := ∀ B w σ H fr h x d (Q : L2.St → Hp → Prop), Rel X.K T B w σ H fr h → rC X.K T w x d →
 (match mg d fr h with
  | .ok _ fr' h' => ∀ w' σ' H', w.le w' → Rel X.K T B w' σ' H' fr' h' → RG is σ' σ → Q σ' H'
  | _ => False) → WG X tg x σ H Q
def X3 (X : Cx) (T : Tb) (is : List Nat) (tgs : List Expr) (mg : List D → M Unit) : Prop := ∃ t, PGs X tgs t ∧ ∀ B w σ H fr h xs ds (Q : L2.St → Hp → Prop), Rel X.K T B w σ H fr h → aO X.K T w xs ds →
 (match mg ds fr h with
  | .ok _ fr' h' => ∀ w' σ' H', w.le w' → Rel X.K T B w' σ' H' fr' h' → RG is σ' σ → Q σ' H'
  | _ => False) → t xs σ H Q
def wg (i : Nat) (d : D) : M Unit := fun fr h => .ok () (fr.set i (some d)) h
def Oe : List D → M Unit
 | [] => M.ret ()
 | _ => M.opt none
def BX (g : D → M Unit) (gs : List D → M Unit) : List D → M Unit
 | [] => M.opt none
 | d :: ds => (g d).bind fun _ => gs ds
def LC (n : Nat) (gs : List D → M Unit) (d : D) : M Unit := match d with
 | .tup l => if l.length = n then gs l else M.opt none
 | _ => M.opt none
section
variable {X : Cx} {T : Tb} {W : WX} {k : Nat} {pos : Pos} {tg : Expr} {tgs : List Expr} {g : D → M Unit} {gs : List D → M Unit} {is js : List Nat}
theorem xP (C : Cq X T W k) (i : Nat) {x : Str} (hi : X.N[i]? = some x := by rfl) (hx : Loc X.env.scope x := by first | exact Or.inl rfl | exact Or.inr rfl) (hf : X.fn x = true ∨ X.env.scope.names.lookup x = some .local := by first | exact .inl rfl | exact .inr rfl) :
 Mx X T [i] (.Name x pos) (wg i) := fun B w σ H fr h v d Q R rd p => aey (pg_name C.nd hi hx hf) (p w _ H (Wd.le_refl _) (R.set_slot (.val rd) (fun _ _ _ e od => by
 cases e
 exact (Dj od rd).elim) fun _ _ e => by
 cases e
 exact N8 rd) ⟨ajf, fun j hj => by
  rw [ajd]
  intro e
  exact hj (by simp [e])⟩)
theorem aat : X3 X T [] [] Oe := ⟨_, pgs_nil, fun B w σ H fr h vs ds Q R rd p => by
 cases rd with
 | nil => exact ⟨rfl, p w σ H (Wd.le_refl _) R ⟨rfl, fun _ _ => rfl⟩⟩
 | cons _ _ => exact p.elim⟩
theorem Og (s : Mx X T is tg g) (t : X3 X T js tgs gs) (hs : (assignEach (tg :: tgs) X.env).map (·.2) = assign tg X.env :: (assignEach tgs X.env).map (·.2) := by rfl) : X3 X T (is ++ js) (tg :: tgs) (BX g gs) := by
 obtain ⟨u, pu, t⟩ := t
 refine ⟨_, pgs_cons Yv pu hs, fun B w σ H fr h vs ds Q R rd p => ?_⟩
 cases rd with
 | nil => exact p.elim
 | @cons v d vr dr r rr =>
   refine ⟨v, vr, rfl, s B w σ H fr h v d _ R r ?_⟩
   have p' : (match (g d).bind (fun _ => gs dr) fr h with
    | .ok _ fr' h' => ∀ w' σ' H', w.le w' → Rel X.K T B w' σ' H' fr' h' → RG (is ++ js) σ' σ → Q σ' H'
    | _ => False) := p
   cases e : g d fr h with
   | ok _ fr1 h1 =>
     rw [M.bind_ok e] at p'
     intro w1 σ1 H1 l1 R1 k1
     refine t B w1 σ1 H1 fr1 h1 vr dr Q R1 (rr.mono l1) ?_
     cases e2 : gs dr fr1 h1 with
     | ok _ fr2 h2 =>
       rw [e2] at p'
       exact fun w2 σ2 H2 l2 R2 k2 => p' w2 σ2 H2 (Wd.le_trans l1 l2) R2 ⟨k2.1.trans k1.1, fun j hj => by
        rw [List.mem_append, not_or] at hj
        rw [k2.2 j hj.2, k1.2 j hj.1]⟩
     | exc _ _ _ => rw [e2] at p'; exact p'
     | err => rw [e2] at p'; exact p'
   | exc y fr1 h1 =>
     rw [M.bind_exc e] at p'
     exact p'.elim
   | err =>
     rw [M.bind_err e] at p'
     exact p'.elim
theorem aco (C : Cq X T W k) {kk : Nat} {n : Nat} (t : X3 X T is tgs gs) (hn : (assignEach tgs X.env).length = n := by rfl) (hst : (assignEach tgs X.env).findIdx? (·.1) = none := by rfl) : Mx X T is (.Tuple tgs kk pos) (LC n gs) := by
 obtain ⟨u, pu, t⟩ := t
 refine fun B w σ H fr h x d Q R rd p => aey (pg_tup C.calm pu hn hst) ?_
 cases d with
 | tup l =>
   have p' : (match (if l.length = n then gs l else M.opt none) fr h with
    | .ok _ fr' h' => ∀ w' σ' H', w.le w' → Rel X.K T B w' σ' H' fr' h' → RG is σ' σ → Q σ' H'
    | _ => False) := p
   by_cases hl : l.length = n
   · rw [if_pos hl] at p'
     obtain ⟨a, vs, rfl, sq, rl⟩ := Kc rd
     exact ⟨a, vs, rfl, wN R.sub sq, rl.length.trans hl, t B w σ H fr h vs l Q R rl p'⟩
   · rw [if_neg hl] at p'
     exact p'.elim
 | _ => exact (show False from p).elim
def Dm : List Nat → List D → Fr → Option Fr
 | [], [], fr => some fr
 | i :: is, d :: ds, fr => Dm is ds (fr.set i (some d))
 | _, _, _ => none
theorem Rel.putV {K : PySem.W.Frag} {B : Bs} {w : Wd} {σ : L2.St} {H : Hp} {fr : Fr} {h : Hh} {v : V} {d : D} (R : Rel K T B w σ H fr h) (i : Nat) (r : rC K T w v d) : Rel K T B w (σ.set i (some v)) H (fr.set i (some d)) h :=
 R.set_slot (.val r) (fun _ _ _ e od => by
  cases e
  exact (Dj od r).elim) fun _ _ e => by
  cases e
  exact N8 r
theorem Rel.put {K : PySem.W.Frag} {B : Bs} {w : Wd} {σ : L2.St} {H : Hp} {fr : Fr} {h : Hh} {v : V} {d : D} (R : Rel K T B w σ H fr h) (i : Nat) (hi : i ≠ 0) (x : vE K T B σ w H fr v d) : Rel K T B w (σ.set i (some v)) H (fr.set i (some d)) h := by
 rcases x with r | ⟨p, o, rfl, O, lo, e, r⟩
 · exact R.putV i r
 · exact R.set_slot (.own O e r) (fun q d' e1 e2 od => by
    cases e1
    cases e2
    exact lo) fun z => (hi z).elim
theorem acp {σ : L2.St} {fr : Fr} {i : Nat} {v : V} {d : D} {p : Addr} (lo : Fw σ fr p) (hv : d.own = true → v ≠ .ref p) : Fw (σ.set i (some v)) (fr.set i (some d)) p := fun j z => by
 obtain ⟨e1, dd, e2, od⟩ := z
 by_cases hj : i = j
 · subst hj
   have l1 : i < σ.length := by
    have := (List.getElem?_eq_some_iff.mp e1).1
    rwa [ajf] at this
   have l2 : i < fr.length := by
    have := (List.getElem?_eq_some_iff.mp e2).1
    rwa [ajf] at this
   rw [aje l1] at e1
   rw [aje l2] at e2
   cases e1
   cases e2
   exact hv od rfl
 · rw [ajd hj] at e1 e2
   exact lo j ⟨e1, dd, e2, od⟩
theorem Hu.set {K : PySem.W.Frag} {B : Bs} {w : Wd} {σ : L2.St} {H : Hp} {fr : Fr} {vs : List V} {ds : List D} {ps : List Addr} {i : Nat} {v : V} {d : D} (x : Hu K T B σ w H fr vs ds ps) (hv : ∀ p ∈ ps, d.own = true → v ≠ .ref p) :
 Hu K T B (σ.set i (some v)) w H (fr.set i (some d)) vs ds ps := by
 induction x with
 | nil => exact .nil
 | val r _ ih => exact .val r (ih hv)
 | own O lo e r nq _ ih => exact .own O (acp lo (hv _ (ai8))) e r nq (ih fun q hq => hv q (ajc _ hq))
def X4 (X : Cx) (T : Tb) (is : List Nat) (tgs : List Expr) : Prop := ∃ t, PGs X tgs t ∧ ∀ B w σ H fr fr' h xs ds ps (Q : L2.St → Hp → Prop), Rel X.K T B w σ H fr h → Hu X.K T B σ w H fr xs ds ps → Dm is ds fr = some fr' →
 (∀ σ', Rel X.K T B w σ' H fr' h → Q σ' H) → t xs σ H Q
theorem aau : X4 X T [] [] := ⟨_, pgs_nil, fun B w σ H fr fr' h xs ds ps Q R rs e q => by
 cases rs with
 | nil =>
   cases e
   exact ⟨rfl, q σ R⟩
 | val _ _ => cases e
 | own _ _ _ _ _ _ => cases e⟩
theorem HR (C : Cq X T W k) (i : Nat) {x : Str} (t : X4 X T is tgs) (hs : (assignEach (.Name x pos :: tgs) X.env).map (·.2) = assign (.Name x pos) X.env :: (assignEach tgs X.env).map (·.2) := by rfl)
 (hi : X.N[i]? = some x := by rfl) (hx : Loc X.env.scope x := by first | exact Or.inl rfl | exact Or.inr rfl) (hf : X.fn x = true ∨ X.env.scope.names.lookup x = some .local := by first | exact .inl rfl | exact .inr rfl) (h0 : i ≠ 0 := by decide) : X4 X T (i :: is) (.Name x pos :: tgs) := by
 obtain ⟨u, pu, t⟩ := t
 refine ⟨_, pgs_cons (pg_name C.nd hi hx hf) pu hs, fun B w σ H fr fr' h xs ds ps Q R rs e q => ?_⟩
 cases rs with
 | nil => cases e
 | val r rr => exact ⟨_, _, rfl, t B w _ H _ fr' h _ _ _ Q (R.put i h0 (.inl r)) (rr.set fun p _ od => (Dj od r).elim) e q⟩
 | own O lo eH r nq rr => exact ⟨_, _, rfl, t B w _ H _ fr' h _ _ _ Q (R.put i h0 (.inr ⟨_, _, rfl, O, lo, eH, r⟩)) (rr.set fun p hp _ z => by
  cases z
  exact nq hp) e q⟩
end
def vJ : wJ It (List D) := fun K T _ _ w _ _ J ds => ∀ i w1 H1, w.le w1 → (∀ a o, w1.F a = some o → H1 a = some o) →
 (ds.length ≤ i → J.stop i H1) ∧ ∀ d, ds[i]? = some d → J.go i H1 ∧ ∀ x H2, J.yld i H1 x H2 → ∀ B σ fr h, Rel K T B w1 σ H1 fr h → ∃ w2, w1.le w2 ∧ Rel K T B w2 σ H2 fr h ∧ rC K T w2 x d
abbrev Wb (X : Cx) (T : Tb) (W : WX) (tg iter : Expr) (m : M (List D)) : Prop := wF (WI X tg iter) X.K T W vJ m
section
variable {X : Cx} {T : Tb} {W : WX} {k : Nat} {pos p pf tpos : Pos} {tg e a b : Expr} {m ma mb : M D}
def Jr (m : M D) : M (List D) := m.bind fun d => M.opt (d.its [])
theorem aeZ {K : PySem.W.Frag} {w : Wd} {v : V} {d : D} {l : List D} (r : rC K T w v d) (e : d.its [] = some l) : ∃ p vs, v = .ref p ∧ aO K T w vs l ∧ (SqT K w.F p vs ∨ SqL K w.F p vs) := by
 cases r with
 | tup s r =>
   have e' : some _ = some l := e
   cases e'
   exact ⟨_, _, rfl, r, .inl s⟩
 | fl s r =>
   have e' : some _ = some l := e
   cases e'
   exact ⟨_, _, rfl, r, .inr (SqL.of s)⟩
 | kl s r =>
   have e' : some _ = some l := e
   cases e'
   exact ⟨_, _, rfl, r, .inr s⟩
 | ref s => cases e
 | _ => cases e
def ahB (K : PySem.W.Frag) (tl : TE) : TI := fun σ H R => tl σ H fun x H1 => ∃ a, x = .ref a ∧ (((∃ xs, SqT K H1 a xs) ∧ R (Itt K a) H1) ∨ ((∃ xs, SqL K H1 a xs) ∧ R (Itl K a) H1))
open PyProof.Rows in
theorem acq {l : Expr} {tl : TE} (hl : PE X l tl) : PI X tg l (ahB X.K tl) := by
 refine ⟨fun pins s σ H R I h => ?_⟩
 refine thn (hl.run pins s σ H _ I h) fun v s1 ⟨x, H1, I1, r1, q1⟩ => ?_
 obtain ⟨a, e, ⟨⟨xs, hq⟩, q⟩ | ⟨⟨xs, hq⟩, q⟩⟩ := q1
 · subst e
   cases r1
   obtain ⟨its, rv, p, hz⟩ := I1.tuple hq
   refine wpAny_pyIter_tuple (show s1.heap.IsTuple a its.toArray from p) ?_
   refine ⟨s1.heap.objs.size, [s1.heap.objs.size], _, _, H1, rfl, I1.kept (t' := s1.toks) fun b o e => Heap.get?_push_of_some _ e, turn_tuple a _, ⟨_, Heap.get?_push_size _ rfl, rfl, rfl⟩, fun b hb => ?_, q⟩
   have e : b = s1.heap.objs.size := by simpa using hb
   subst e
   exact I1.fpOk (Nat.le_refl _) (I1.hok.fresh (Nat.le_refl _))
 · subst e
   cases r1
   obtain ⟨its, rv, p, hz⟩ := I1.list hq
   refine wpAny_pyIter_list p.isList ?_
   refine ⟨s1.heap.objs.size, [s1.heap.objs.size], _, _, H1, rfl, I1.kept (t' := s1.toks) fun b o e => Heap.get?_push_of_some _ e, turn_list a _, ⟨_, Heap.get?_push_size _ rfl, rfl, rfl⟩, fun b hb => ?_, q⟩
   have e : b = s1.heap.objs.size := by simpa using hb
   subst e
   exact I1.fpOk (Nat.le_refl _) (I1.hok.fresh (Nat.le_refl _))
theorem af4 {K : PySem.W.Frag} {B : Bs} {σ : L2.St} {w : Wd} {H : Hp} {fr : Fr} {a : Addr} {vs : List V} {l : List D} (sq : SqT K w.F a vs) (rl : aO K T w vs l) : vJ K T B σ w H fr (Itt K a) l := fun i w2 H2 l2 hs => ⟨fun hi => ⟨vs, wN hs (wN l2.1 sq), by rw [rl.length]; exact hi⟩, fun d' hd => by
 obtain ⟨v, hv, rv⟩ := rl.get hd
 refine ⟨⟨vs, v, wN hs (wN l2.1 sq), hv⟩, fun y H3 hy B' σ' fr' h' R' => ?_⟩
 obtain ⟨rfl, hy⟩ := hy
 have z := hy vs (wN hs (wN l2.1 sq))
 rw [hv] at z
 cases z
 exact ⟨w2, Wd.le_refl _, R', rv.mono l2⟩⟩
theorem af5 {K : PySem.W.Frag} {B : Bs} {σ : L2.St} {w : Wd} {H : Hp} {fr : Fr} {a : Addr} {vs : List V} {l : List D} (sq : SqL K w.F a vs) (rl : aO K T w vs l) : vJ K T B σ w H fr (Itl K a) l := fun i w2 H2 l2 hs => ⟨fun hi => ⟨vs, Ba hs (Ba l2.1 sq), by rw [rl.length]; exact hi⟩, fun d' hd => by
 obtain ⟨v, hv, rv⟩ := rl.get hd
 refine ⟨⟨vs, v, Ba hs (Ba l2.1 sq), hv⟩, fun y H3 hy B' σ' fr' h' R' => ?_⟩
 obtain ⟨rfl, hy⟩ := hy
 have z := hy vs (Ba hs (Ba l2.1 sq))
 rw [hv] at z
 cases z
 exact ⟨w2, Wd.le_refl _, R', rv.mono l2⟩⟩
theorem Nr (s : cO X T W e m) : Wb X T W tg e (Jr m) := fun B w σ H fr h Q r p => abb (acq mZ) (s B w σ H fr h _ r (bu.bind (VR := vV X.K T B σ) p fun d fr1 h1 w1 H1 x e1 l1 r1 rx p1 => by
 cases q : d.its [] with
 | none => rw [q] at p1; exact p1.elim
 | some l =>
   rw [q] at p1
   obtain ⟨a, vs, rfl, rl, sq⟩ := aeZ rx q
   refine ⟨a, rfl, ?_⟩
   rcases sq with sq | sq
   · exact .inl ⟨⟨vs, wN r1.sub sq⟩, p1 w1 H1 (Itt X.K a) (Wd.le_refl _) r1 (af4 sq rl)⟩
   · exact .inr ⟨⟨vs, Ba r1.sub sq⟩, p1 w1 H1 (Itl X.K a) (Wd.le_refl _) r1 (af5 sq rl)⟩))
def Ky (lo : Int) (n : Nat) : List D := (List.range n).map fun (i : Nat) => D.int (lo + (i : Int))
def Tv (i : Int) : Bool := decide (-(2 ^ 62) ≤ i) && decide (i < 2 ^ 62)
theorem af6 {i : Int} (h : Tv i = true) : -(2 ^ 62) ≤ i ∧ i < 2 ^ 62 := by
 obtain ⟨h1, h2⟩ := Bool.and_eq_true_iff.mp h
 exact ⟨of_decide_eq_true h1, of_decide_eq_true h2⟩
def Jf (m : M D) : M (List D) := m.bind fun d => M.opt (match d with
 | .int j => if Tv j then some (Ky 0 j.toNat) else none
 | _ => none)
def abd (ma mb : M D) : M (List D) := ma.bind fun x => mb.bind fun y => M.opt (match x, y with
 | .int i, .int j => if Tv i && Tv j then some (Ky i (j - i).toNat) else none
 | _, _ => none)
theorem af7 {K : PySem.W.Frag} {B : Bs} {σ : L2.St} {w : Wd} {H : Hp} {fr : Fr} (lo : Int) (n : Nat) : vJ K T B σ w H fr (Itr lo n) (Ky lo n) := fun i w2 H2 l2 hs => ⟨fun hi => by
 have hi' : (Ky lo n).length ≤ i := hi
 unfold Ky at hi'
 rw [ajb, List.length_range] at hi'
 exact hi', fun d' hd => by
 unfold Ky at hd
 rw [ajj] at hd
 obtain ⟨j, hj, rfl⟩ := Option.map_eq_some_iff.mp hd
 obtain ⟨hl, ej⟩ := List.getElem?_eq_some_iff.mp hj
 rw [List.length_range] at hl
 rw [List.getElem_range] at ej
 subst ej
 refine ⟨hl, fun y H3 hy B' σ' fr' h' R' => ?_⟩
 obtain ⟨rfl, rfl⟩ := hy
 exact ⟨w2, Wd.le_refl _, R', .int _⟩⟩
theorem aav (s : cO X T W a ma) (hm : X.mg "range" = none) (hg : Gl X "range" := by rfl) (hs : starEach [a] X.env = [(false, eval a X.env)] := by rfl) : Wb X T W tg (.Call (.Name "range" p) [a] [] pos) (Jf ma) := fun B w σ H fr h Q r p =>
 abb (pi_range1 hg hm (pa_cons mZ pa_nil (hs.trans (by rfl))) hs) (s B w σ H fr h _ r (bu.bind (VR := vV X.K T B σ) p fun d fr1 h1 w1 H1 x e1 l1 r1 rx p1 => by
  cases rx with
  | int j =>
    dsimp only at p1
    cases hj : Tv j with
    | false => rw [hj] at p1; exact (show False from p1).elim
    | true =>
      rw [hj] at p1
      obtain ⟨h1', h2'⟩ := af6 hj
      exact ⟨j, rfl, h1', h2', p1 w1 H1 (Itr 0 j.toNat) (Wd.le_refl _) r1 (af7 0 _)⟩
  | _ => exact (show False from p1).elim))
end
end Pk
namespace Pk
open PySem PySem.Spec L2
inductive Fl where
 | nx | brk | ct | rt (d : D)
def tW (K : PySem.W.Frag) (T : Tb) (B : Bs) (W : WX) (w : Wd) (r : R Fl) (D : Ends) : Prop :=
 match r with
 | .ok .nx fr h => ∀ w' σ' H', w.le w' → Rel K T B w' σ' H' fr h → D.nx σ' H'
 | .ok .brk fr h => ∀ w' σ' H', w.le w' → Rel K T B w' σ' H' fr h → D.bk σ' H'
 | .ok .ct fr h => ∀ w' σ' H', w.le w' → Rel K T B w' σ' H' fr h → D.ct σ' H'
 | .ok (.rt d) fr h => ∀ w' σ' H' v, w.le w' → Rel K T B w' σ' H' fr h → vE K T B σ' w' H' fr v d → D.rt v H'
 | .exc x fr h => ∀ w' σ' H' cls dd, w.le w' → Rel K T B w' σ' H' fr h → VN K T w' x cls dd → W cls dd σ' H'
 | .err => False
def Bc (X : Cx) (T : Tb) (W : WX) (st : Stmt) (m : M Fl) : Prop := ∀ (B : Bs) (w : Wd) (σ : L2.St) (H : Hp) (fr : Fr) (h : Hh) (D : Ends), Rel X.K T B w σ H fr h → tW X.K T B W w (m fr h) D → WS X st D σ H
def G5 (X : Cx) (T : Tb) (W : WX) (sts : List Stmt) (m : M Fl) : Prop := ∀ (B : Bs) (w : Wd) (σ : L2.St) (H : Hp) (fr : Fr) (h : Hh) (D : Ends), Rel X.K T B w σ H fr h → tW X.K T B W w (m fr h) D → Yg X sts D σ H
section
variable {K : PySem.W.Frag} {T : Tb} {B : Bs} {W : WX} {w w' : Wd} {σ : L2.St} {H : Hp}
theorem tW.le {r : R Fl} {D : Ends} (x : w.le w') (p : tW K T B W w r D) : tW K T B W w' r D := by
 cases r with
 | ok f fr h =>
   cases f with
   | rt d => exact fun w2 σ2 H2 v y => p w2 σ2 H2 v (Wd.le_trans x y)
   | _ => exact fun w2 σ2 H2 y => p w2 σ2 H2 (Wd.le_trans x y)
 | exc e fr h => exact fun w2 σ2 H2 c d y => p w2 σ2 H2 c d (Wd.le_trans x y)
 | err => exact p
theorem tW.bind {α β : Type} {VR : Wd → Hp → Fr → β → α → Prop} {m : M α} {f : α → M Fl} {fr : Fr} {h : Hh} {D : Ends} {Q : β → Hp → Prop} (p : tW K T B W w (m.bind f fr h) D)
 (k : ∀ d fr1 h1 w1 H1 v, m fr h = .ok d fr1 h1 → w.le w1 → Rel K T B w1 σ H1 fr1 h1 → VR w1 H1 fr1 v d → tW K T B W w1 (f d fr1 h1) D → Q v H1) : bu K T B W VR w σ (m fr h) Q := by
 cases e : m fr h with
 | ok d fr1 h1 =>
   rw [M.bind_ok e] at p
   exact fun w1 H1 v x r z => k d fr1 h1 w1 H1 v e x r z (p.le x)
 | exc y fr1 h1 =>
   rw [M.bind_exc e] at p
   exact fun w1 H1 c dd x r z => p w1 σ H1 c dd x r z
 | err =>
   rw [M.bind_err e] at p
   exact p
end
def aC (m n : M Fl) : M Fl := m.bind fun f => match f with
 | .nx => n
 | f => M.ret f
def tO (t : M Bool) (m n : M Fl) : M Fl := t.bind fun b => if b then m else n
def su {α : Type} (m : M α) : M Fl := m.bind fun _ => M.ret .nx
def gK (m : M D) : M Fl := m.bind fun d => M.ret (.rt d)
def cP (i : Nat) (m : M D) : M Fl := m.bind fun d fr h => .ok .nx (fr.set i (some d)) h
def Qn (m : M D) (g : D → M Unit) : M Fl := m.bind fun d fr h => match g d fr h with
 | .ok _ fr h => .ok .nx fr h
 | _ => .err
def Oh (is : List Nat) (m : M (List D)) : M Fl := m.bind fun ds fr h => match Dm is ds fr with
 | some fr' => if ds.length ≤ big then .ok .nx fr' h else .err
 | none => .err
section
variable {X : Cx} {T : Tb} {W : WX} {k : Nat} {pos pos' p2 : Pos} {e a b c : Expr} {st : Stmt} {sts as bs : List Stmt} {m : M D} {s n : M Fl} {t : M Bool} {es : List Expr}
theorem uF : G5 X T W [] (M.ret .nx) := fun B w σ H fr h D R p => VP pss_nil (p w σ H (Wd.le_refl _) R)
theorem aD (s1 : Bc X T W st s) (s2 : G5 X T W sts n) : G5 X T W (st :: sts) (aC s n) := fun B w σ H fr h D R p =>
 VP (pss_cons ab8 Dk) (s1 B w σ H fr h _ R (by
  unfold aC at p
  cases e : s fr h with
  | ok f fr1 h1 =>
    rw [M.bind_ok e] at p
    cases f with
    | nx => exact fun w1 σ1 H1 l R1 => s2 B w1 σ1 H1 fr1 h1 D R1 (p.le l)
    | _ => exact p
  | exc y fr1 h1 => rw [M.bind_exc e] at p; exact p
  | err => rw [M.bind_err e] at p; exact p))
theorem cH (s1 : Bc X T W st s) : G5 X T W [st] s := fun B w σ H fr h D R p => VP (pss_one ab8) (s1 B w σ H fr h _ R p)
theorem af8 : Bc X T W (.Continue pos) (M.ret .ct) := fun B w σ H fr h D R p => Ak ps_continue (p w σ H (Wd.le_refl _) R)
theorem vC {VR : wJ V D} (s : wF (WE X e) X.K T W VR m) (hs : swapsWith e none pos.line X.env = pure false := by rfl) : Bc X T W (.Expr e pos) (su m) := fun B w σ H fr h D R p =>
 Ak (ps_expr mZ hs) (s B w σ H fr h _ R (tW.bind (VR := VR X.K T B σ) p fun d fr1 h1 w1 H1 v e1 l1 r1 rx p1 => p1 w1 σ H1 (Wd.le_refl _) r1))
theorem s_ret (s : zQ X T W e m) : Bc X T W (.Return (some e) pos) (gK m) := fun B w σ H fr h D R p =>
 Ak (ps_ret mZ) (s B w σ H fr h _ R (tW.bind (VR := vE X.K T B σ) p fun d fr1 h1 w1 H1 v e1 l1 r1 rx p1 => p1 w1 σ H1 v (Wd.le_refl _) r1 rx))
theorem uO (st : Gi X T W c t) (sa : G5 X T W as s) (sb : G5 X T W bs n) : Bc X T W (.If c as bs pos) (tO t s n) := fun B w σ H fr h D R p =>
 Ak (ps_if GZ Dk Dk) (st B w σ H fr h _ R (tW.bind (VR := vB X.K T B σ) p fun d fr1 h1 w1 H1 x e1 l1 r1 rx p1 => by
  have rx' : x = d := rx
  subst rx'
  cases x with
  | true => exact sa B w1 σ H1 fr1 h1 D r1 p1
  | false => exact sb B w1 σ H1 fr1 h1 D r1 p1))
theorem ae0 : Bc X T W st (fun _ _ => .err) := fun B w σ H fr h D R p => p.elim
theorem vz (C : Cq X T W k) (i : Nat) {x : Str} (s : zQ X T W e m) (hs : swapsWith e (some (.Name x pos')) pos.line X.env = pure false := by rfl) (hi : X.N[i]? = some x := by rfl) (hx : Loc X.env.scope x := by first | exact Or.inl rfl | exact Or.inr rfl)
 (hf : X.fn x = true ∨ X.env.scope.names.lookup x = some .local := by first | exact .inl rfl | exact .inr rfl) (h0 : i ≠ 0 := by decide) : Bc X T W (.Assign [.Name x pos'] e pos) (cP i m) := fun B w σ H fr h D R p =>
 Ak (ps_set C.nd hi hx mZ hs hf) (s B w σ H fr h _ R (tW.bind (VR := vE X.K T B σ) p fun d fr1 h1 w1 H1 v e1 l1 r1 rx p1 => p1 w1 _ H1 (Wd.le_refl _) (r1.put i h0 rx)))
theorem v4 (C : Cq X T W k) (i : Nat) {x : Str} (s : cO X T W e m) (hs : swapsWith e (some (.Name x pos')) pos.line X.env = pure false := by rfl) (hi : X.N[i]? = some x := by rfl) (hx : Loc X.env.scope x := by first | exact Or.inl rfl | exact Or.inr rfl)
 (hf : X.fn x = true ∨ X.env.scope.names.lookup x = some .local := by first | exact .inl rfl | exact .inr rfl) : Bc X T W (.Assign [.Name x pos'] e pos) (cP i m) := fun B w σ H fr h D R p =>
 Ak (ps_set C.nd hi hx mZ hs hf) (s B w σ H fr h _ R (tW.bind (VR := vV X.K T B σ) p fun d fr1 h1 w1 H1 v e1 l1 r1 rx p1 => p1 w1 _ H1 (Wd.le_refl _) (r1.putV i rx)))
theorem s_asg {tg : Expr} {is : List Nat} {g : D → M Unit} (s : cO X T W e m) (sg : Mx X T is tg g) (hs : swapsWithSole [tg] e pos.line X.env = pure false := by rfl) (hw : swappedStores [tg] e X.env = pure none := by rfl)
 (h1 : (assignEach [tg] X.env).map (·.2) = [assign tg X.env] := by rfl) : Bc X T W (.Assign [tg] e pos) (Qn m g) := fun B w σ H fr h D R p =>
 Ak (ps_asg mZ Yv hs hw h1) (s B w σ H fr h _ R (tW.bind (VR := vV X.K T B σ) p fun d fr1 h1 w1 H1 v e1 l1 r1 rx p1 => sg B w1 σ H1 fr1 h1 v d _ r1 rx (by
  cases e2 : g d fr1 h1 with
  | ok u fr2 h2 =>
    rw [e2] at p1
    exact fun w2 σ2 H2 l2 r2 _ => p1 w2 σ2 H2 l2 r2
  | exc y fr2 h2 =>
    rw [e2] at p1
    exact p1.elim
  | err =>
    rw [e2] at p1
    exact p1.elim)))
theorem Hu.temp {K : PySem.W.Frag} {B : Bs} {σ : L2.St} {w : Wd} {H : Hp} {fr : Fr} {vs : List V} {ds : List D} {ps : List Addr} {p : Addr} {o : HO} (x : Hu K T B σ w H fr vs ds ps) (np : H p = none) : Hu K T B σ w (upd H p o) fr vs ds ps := by
 induction x with
 | nil => exact .nil
 | val r _ ih => exact .val r ih
 | own O lo e r nq _ ih => exact .own O lo (by rw [upd_ne (ne_of_none e np)]; exact e) r nq ih
theorem Yw : ∀ (is : List Nat) (ds : List D) (fr fr' : Fr), Dm is ds fr = some fr' → ds.length = is.length
 | [], [], _, _, _ => rfl
 | [], _ :: _, _, _, q => by cases q
 | _ :: _, [], _, _, q => by cases q
 | _ :: is, _ :: ds, _, fr', q => congrArg Nat.succ (Yw is ds _ fr' q)
theorem acr (C : Cq X T W k) {tgs : List Expr} {is : List Nat} {kk x1 : Nat} {n : Nat} {ms : M (List D)} (se : XX X T W es ms) (g : X4 X T is tgs) (hn : (assignEach tgs X.env).length = n := by rfl) (hl : is.length = n := by rfl) (hst : (assignEach tgs X.env).findIdx? (·.1) = none := by rfl)
 (hs : swapsWithSole [.Tuple tgs kk pos'] (.Tuple es x1 p2) pos.line X.env = pure false := by rfl) (hw : swappedStores [.Tuple tgs kk pos'] (.Tuple es x1 p2) X.env = pure none := by rfl)
 (h1 : (assignEach [.Tuple tgs kk pos'] X.env).map (·.2) = [assign (.Tuple tgs kk pos') X.env] := by rfl) : Bc X T W (.Assign [.Tuple tgs kk pos'] (.Tuple es x1 p2) pos) (Oh is ms) := by
 obtain ⟨u, pu, g⟩ := g
 refine fun B w σ H fr h D R p => Ak (ps_asg (pe_tup Ks) (pg_tup C.calm pu hn hst) hs hw h1) (se B w σ H fr h _ R (tW.bind (VR := vEs X.K T B σ) p fun ds fr1 h1 w1 H1 vs e1 l1 r1 ⟨ps, rs⟩ p1 => ?_))
 cases q : Dm is ds fr1 with
 | none => rw [q] at p1; exact p1.elim
 | some fr' =>
   rw [q] at p1
   dsimp only at p1
   by_cases hb : ds.length ≤ big
   · rw [if_pos hb] at p1
     refine ⟨by rw [rs.length]; exact xO hb, fun a na => ⟨a, vs, rfl, SqT.of upd_same, ?_, ?_⟩⟩
     · rw [rs.length, Yw _ _ _ _ q, hl]
     · exact g B w1 σ (upd H1 a (.tup vs)) fr1 fr' h1 vs ds ps _ (r1.temp na) (rs.temp na) q fun σ' R' => p1 w1 σ' _ (Wd.le_refl _) R'
   · rw [if_neg hb] at p1
     exact p1.elim
end
end Pk
namespace Pk
open PySem PySem.Spec L2
def Et (g : D → M Unit) (b : M Fl) : List D → M Fl
 | [] => M.ret .nx
 | d :: ds => fun fr h => match g d fr h with
   | .ok _ fr h => match b fr h with
     | .ok .nx fr h => Et g b ds fr h
     | .ok .ct fr h => Et g b ds fr h
     | .ok .brk fr h => .ok .nx fr h
     | .ok (.rt d) fr h => .ok (.rt d) fr h
     | .exc x fr h => .exc x fr h
     | .err => .err
   | _ => .err
def Fy (l : M (List D)) (g : D → M Unit) (b : M Fl) : M Fl := l.bind fun ds => Et g b ds
def yw (t : M Bool) (b : M Fl) : Nat → M Fl
 | 0 => fun _ _ => .err
 | n + 1 => fun fr h => match t fr h with
   | .ok true fr h => match b fr h with
     | .ok .nx fr h => yw t b n fr h
     | .ok .ct fr h => yw t b n fr h
     | .ok .brk fr h => .ok .nx fr h
     | .ok (.rt d) fr h => .ok (.rt d) fr h
     | .exc x fr h => .exc x fr h
     | .err => .err
   | .ok false fr h => .ok .nx fr h
   | .exc x fr h => .exc x fr h
   | .err => .err
section
variable {X : Cx} {T : Tb} {W : WX} {k : Nat} {pos pos' : Pos} {tg iter c : Expr} {body : List Stmt} {li : M (List D)} {g : D → M Unit} {b : M Fl} {is : List Nat} {t : M Bool}
theorem abe (C : Cq X T W k) (si : Wb X T W tg iter li) (sg : Mx X T is tg g) (sb : G5 X T W body b) (hs : ∀ x, foldedSetIterable iter X.env x = pure x := by intro _; rfl) : Bc X T W (.For tg iter body [] pos) (Fy li g b) := fun B w σ H fr h D R p =>
 Ak (ps_for C.po C.calm UT Yv Dk hs) (si B w σ H fr h _ R (tW.bind (VR := vJ X.K T B σ) p fun ds fr1 h1 w1 H1 J e1 l1 r1 vj p1 => by
  refine ⟨fun i m σ H => m = ds.length - i ∧ i ≤ ds.length ∧ ∃ w' fr' h', w1.le w' ∧ Rel X.K T B w' σ H fr' h' ∧ tW X.K T B W w' (Et g b (ds.drop i) fr' h') D, ⟨ds.length, by simp, Nat.zero_le _, w1, fr1, h1, Wd.le_refl _, r1, p1⟩, ?_⟩
  rintro i m σ2 H2 ⟨rfl, hi, w2, fr2, h2, l2, r2, p2⟩
  obtain ⟨js, jg⟩ := vj i w2 H2 l2 r2.sub
  by_cases hlt : i < ds.length
  · obtain ⟨go, y⟩ := jg ds[i] (ai9 hlt)
    refine .inr ⟨go, fun σ' H' => ∃ w' fr' h', w1.le w' ∧ Rel X.K T B w' σ' H' fr' h' ∧ tW X.K T B W w' (Et g b (ds.drop (i + 1)) fr' h') D, fun σ' H' q => ⟨ds.length - (i + 1), by omega, rfl, hlt, q⟩, fun x H3 yx => ?_⟩
    obtain ⟨w3, l3, r3, rx⟩ := y x H3 yx B σ2 fr2 h2 r2
    have ed : ds.drop i = ds[i] :: ds.drop (i + 1) := List.drop_eq_getElem_cons hlt
    rw [ed] at p2
    refine sg B w3 σ2 H3 fr2 h2 x ds[i] _ r3 rx ?_
    unfold Et at p2
    cases e2 : g ds[i] fr2 h2 with
    | ok u fr3 h3 =>
      rw [e2] at p2
      intro w4 σ4 H4 l4 r4 _
      refine sb B w4 σ4 H4 fr3 h3 _ r4 ?_
      have l34 : w1.le w4 := Wd.le_trans l2 (Wd.le_trans l3 l4)
      dsimp only at p2
      cases e3 : b fr3 h3 with
      | ok f fr4 h4 =>
        rw [e3] at p2
        cases f with
        | nx => exact fun w5 σ5 H5 l5 r5 => ⟨w5, fr4, h4, Wd.le_trans l34 l5, r5, p2.le (Wd.le_trans (Wd.le_trans l3 l4) l5)⟩
        | ct => exact fun w5 σ5 H5 l5 r5 => ⟨w5, fr4, h4, Wd.le_trans l34 l5, r5, p2.le (Wd.le_trans (Wd.le_trans l3 l4) l5)⟩
        | brk => exact fun w5 σ5 H5 l5 r5 => p2 w5 σ5 H5 (Wd.le_trans (Wd.le_trans l3 l4) l5) r5
        | rt d => exact fun w5 σ5 H5 v l5 r5 rv => p2 w5 σ5 H5 v (Wd.le_trans (Wd.le_trans l3 l4) l5) r5 rv
      | exc y fr4 h4 =>
        rw [e3] at p2
        exact fun w5 σ5 H5 cc dd l5 r5 z => p2 w5 σ5 H5 cc dd (Wd.le_trans (Wd.le_trans l3 l4) l5) r5 z
      | err => rw [e3] at p2; exact p2
    | exc y fr3 h3 => rw [e2] at p2; exact p2
    | err => rw [e2] at p2; exact p2
  · have e : i = ds.length := by omega
    subst e
    rw [List.drop_length] at p2
    exact .inl ⟨js (Nat.le_refl _), p2 w2 σ2 H2 (Wd.le_refl _) r2⟩))
theorem s_while (C : Cq X T W k) (n : Nat) (st : Gi X T W c t) (sb : G5 X T W body b) : Bc X T W (.While c body [] pos) (yw t b n) := fun B w σ H fr h D R p =>
 Ak (ps_while C.po GZ Dk) ⟨fun m σ H => ∃ w' fr' h', w.le w' ∧ Rel X.K T B w' σ H fr' h' ∧ tW X.K T B W w' (yw t b m fr' h') D, ⟨n, w, fr, h, Wd.le_refl _, R, p⟩, fun m σ2 H2 ⟨w2, fr2, h2, l2, r2, p2⟩ => by
  cases m with
  | zero => exact (show False from p2).elim
  | succ m =>
    unfold yw at p2
    refine st B w2 σ2 H2 fr2 h2 _ r2 ?_
    cases e2 : t fr2 h2 with
    | ok c fr3 h3 =>
      rw [e2] at p2
      intro w3 H3 v l3 r3 rv
      have rv' : v = c := rv
      subst rv'
      cases v with
      | false => exact p2 w3 σ2 H3 l3 r3
      | true =>
        rw [if_pos rfl]
        refine ⟨fun σ' H' => ∃ w' fr' h', w.le w' ∧ Rel X.K T B w' σ' H' fr' h' ∧ tW X.K T B W w' (yw t b m fr' h') D, fun σ' H' q => ⟨m, Nat.lt_succ_self m, q⟩, ?_⟩
        refine sb B w3 σ2 H3 fr3 h3 _ r3 ?_
        dsimp only at p2
        cases e3 : b fr3 h3 with
        | ok f fr4 h4 =>
          rw [e3] at p2
          cases f with
          | nx => exact fun w5 σ5 H5 l5 r5 => ⟨w5, fr4, h4, Wd.le_trans l2 (Wd.le_trans l3 l5), r5, p2.le (Wd.le_trans l3 l5)⟩
          | ct => exact fun w5 σ5 H5 l5 r5 => ⟨w5, fr4, h4, Wd.le_trans l2 (Wd.le_trans l3 l5), r5, p2.le (Wd.le_trans l3 l5)⟩
          | brk => exact fun w5 σ5 H5 l5 r5 => p2 w5 σ5 H5 (Wd.le_trans l3 l5) r5
          | rt d => exact fun w5 σ5 H5 v l5 r5 rv => p2 w5 σ5 H5 v (Wd.le_trans l3 l5) r5 rv
        | exc y fr4 h4 =>
          rw [e3] at p2
          exact fun w5 σ5 H5 cc dd l5 r5 z => p2 w5 σ5 H5 cc dd (Wd.le_trans l3 l5) r5 z
        | err => rw [e3] at p2; exact p2
    | exc y fr3 h3 =>
      rw [e2] at p2
      exact fun w3 H3 cc dd l3 r3 z => p2 w3 σ2 H3 cc dd l3 r3 z
    | err => rw [e2] at p2; exact p2⟩
end
def WF : WX := fun _ _ _ _ => False
def vU (fr : Fr) : List Nat → Fr
 | [] => fr
 | v :: vs => (vU fr vs).set v none
theorem Qo (fr : Fr) : ∀ vs : List Nat, (vU fr vs).length = fr.length
 | [] => rfl
 | v :: vs => by unfold vU; rw [ajf, Qo fr vs]
theorem LK {fr : Fr} {i : Nat} : ∀ {vs : List Nat}, i ∉ vs → (vU fr vs)[i]? = fr[i]?
 | [], _ => rfl
 | v :: vs, h => by
   unfold vU
   rw [List.mem_cons, not_or] at h
   rw [ajd (Ne.symm h.1), LK h.2]
theorem Af {fr : Fr} {i : Nat} {d : D} : ∀ {vs : List Nat}, i ∈ vs → (vU fr vs)[i]? ≠ some (some d)
 | [], h => by cases h
 | v :: vs, h => by
   unfold vU
   by_cases e : v = i
   · subst e
     by_cases l : v < (vU fr vs).length
     · rw [aje l]
       exact fun z => by cases z
     · rw [List.getElem?_eq_none (by rw [ajf]; omega)]
       exact fun z => by cases z
   · rw [ajd e]
     rcases List.mem_cons.mp h with z | z
     · exact absurd z.symm e
     · exact Af z
theorem wipe_out {σ : L2.St} {i : Nat} : ∀ {vs : List Nat}, i ∉ vs → (wipe σ vs)[i]? = σ[i]?
 | [], _ => rfl
 | v :: vs, h => by
   unfold wipe
   rw [List.mem_cons, not_or] at h
   rw [ajd (Ne.symm h.1), wipe_out h.2]
theorem ae1 {σ : L2.St} {i : Nat} {v : V} {vs : List Nat} (h : i ∈ vs) : (wipe σ vs)[i]? ≠ some (some v) := fun z => (wipe_some z).2 h
section
variable {K : PySem.W.Frag} {T : Tb} {B : Bs} {w w' : Wd} {σ σ' : L2.St} {H H' : Hp} {fr fr' : Fr} {h : Hh}
theorem Rel.refr (R : Rel K T B w σ H fr h) (fl : fr'.length = σ'.length) (hs : ∀ (i : Nat) (d : D), fr'[i]? = some (some d) → fr[i]? = some (some d) ∧ σ'[i]? = σ[i]?) : Rel K T B w σ' H fr' h :=
 { R with
   me := fun x d bx e od => by
    obtain ⟨h1, h2⟩ := hs 0 d e
    rw [h2]
    exact R.me x d bx h1 od
   fl := fl
   sl := fun i s d e1 e2 => by
    cases d with
    | none => exact .none
    | some d =>
      obtain ⟨h1, h2⟩ := hs i d e2
      rw [h2] at e1
      exact R.sl i s (some d) e1 h1
   sep := fun i j p hij ⟨a1, d1, a2, a3⟩ ⟨b1, d2, b2, b3⟩ => by
    obtain ⟨h1, h2⟩ := hs i d1 a2
    obtain ⟨h3, h4⟩ := hs j d2 b2
    rw [h2] at a1
    rw [h4] at b1
    exact R.sep i j p hij ⟨a1, d1, h1, a3⟩ ⟨b1, d2, h3, b3⟩ }
theorem Rel.wipe (R : Rel K T B w σ H fr h) (vs : List Nat) : Rel K T B w (wipe σ vs) H (vU fr vs) h := by
 refine R.refr (by rw [Qo, wipe_length]; exact R.fl) fun i d e => ?_
 by_cases hi : i ∈ vs
 · exact absurd e (Af hi)
 · rw [LK hi] at e
   exact ⟨e, wipe_out hi⟩
end
def xm (vs : List Nat) (g : D → M Unit) (t : M Bool) (e : M D) (d : D) : M (Option D) := fun fr h => match g d fr h with
 | .ok _ fr h => match t fr h with
   | .ok true fr h => match e fr h with
     | .ok y fr h => .ok (some y) (vU fr vs) h
     | _ => .err
   | .ok false fr h => .ok none (vU fr vs) h
   | _ => .err
 | _ => .err
def Ag {α : Type} : Option α → List α → List α
 | some y, r => y :: r
 | none, r => r
def Be (vs : List Nat) (g : D → M Unit) (t : M Bool) (e : M D) : List D → M (List D)
 | [] => M.ret []
 | d :: ds => (xm vs g t e d).bind fun o => (Be vs g t e ds).bind fun r => M.ret (Ag o r)
def X5 (vs : List Nat) : M Unit := fun fr h => .ok () (vU fr vs) h
def Jt (vs : List Nat) (l : M (List D)) (g : D → M Unit) (t : M Bool) (e : M D) : M D := l.bind fun ds => (X5 vs).bind fun _ => if ds.length ≤ big then (Be vs g t e ds).bind fun r => M.ret (.nl r) else M.opt none
section
variable {X : Cx} {T : Tb} {W : WX} {k : Nat} {pos pos' : Pos} {tg iter elt c : Expr} {ifs : List Expr} {li : M (List D)} {g : D → M Unit} {b : M Fl} {is : List Nat} {t : M Bool} {me : M D} {scope : Scope} {own : List (Str × Nat)}
theorem Yx {σ σ2 : L2.St} {vs is : List Nat} (hl : σ2.length = σ.length) (hi : ∀ i ∈ is, i ∈ vs) (hk : ∀ (j : Nat), j ∉ is → σ2[j]? = (wipe σ vs)[j]?) : wipe σ2 vs = wipe σ vs := by
 refine List.ext_getElem? fun j => ?_
 by_cases hj : j ∈ vs
 · have key : ∀ τ : L2.St, τ.length = σ.length → (wipe τ vs)[j]? = if j < σ.length then some none else none := fun τ hτ => by
    by_cases hjl : j < σ.length
    · rw [if_pos hjl]
      have hjl' : j < (wipe τ vs).length := by rw [wipe_length, hτ]; exact hjl
      rw [ai9 hjl']
      cases e : (wipe τ vs)[j] with
      | none => rfl
      | some v => exact absurd (by rw [ai9 hjl', e]) (ae1 (σ := τ) (v := v) hj)
    · rw [if_neg hjl]
      exact List.getElem?_eq_none (by rw [wipe_length, hτ]; omega)
   rw [key σ2 hl, key σ rfl]
 · rw [wipe_out hj, hk j fun z => hj (hi j z), wipe_out hj]
def GB (X : Cx) (scope : Scope) (tg : Expr) : TG := fun v σ H Q => ∀ (s : Shared) (H0 : Hp) (C : Addr) (cl : List (Str × Addr)) (fp : List Addr), WG (X.blk s H0 scope (compEnvC scope cl C X.env) fp) tg v σ H Q
def TB (X : Cx) (scope : Scope) (ifs : List Expr) : TT := fun σ H Q => ∀ (s : Shared) (H0 : Hp) (C : Addr) (cl : List (Str × Addr)) (fp : List Addr), UL (X.blk s H0 scope (compEnvC scope cl C X.env) fp) ifs σ H Q
def EB (X : Cx) (scope : Scope) (e : Expr) : TE := fun σ H Q => ∀ (s : Shared) (H0 : Hp) (C : Addr) (cl : List (Str × Addr)) (fp : List Addr), WE (X.blk s H0 scope (compEnvC scope cl C X.env) fp) e σ H Q
theorem acs {B : Bs} {w : Wd} {σ : L2.St} {H : Hp} {fr : Fr} {h : Hh} {Q : VK} (si : Wb X T W tg iter li) (hi : ∀ i ∈ is, i ∈ own.map (·.2))
 (sg : ∀ (s : Shared) (H0 : Hp) (C : Addr) (cl : List (Str × Addr)) (fp : List Addr), Mx (X.blk s H0 scope (compEnvC scope cl C X.env) fp) T is tg g)
 (st : ∀ (s : Shared) (H0 : Hp) (C : Addr) (cl : List (Str × Addr)) (fp : List Addr), wF (UL (X.blk s H0 scope (compEnvC scope cl C X.env) fp) ifs) X.K T WF vB t)
 (se : ∀ (s : Shared) (H0 : Hp) (C : Addr) (cl : List (Str × Addr)) (fp : List Addr), cO (X.blk s H0 scope (compEnvC scope cl C X.env) fp) T WF elt me)
 (R : Rel X.K T B w σ H fr h) (p : bu X.K T B W (vE X.K T B σ) w σ (Jt (own.map (·.2)) li g t me fr h) Q) : tLc (WI X tg iter) (GB X scope tg) (TB X scope ifs) (EB X scope elt) (own.map (·.2)) σ H Q := by
 refine si B w σ H fr h _ R (bu.bind (VR := vJ X.K T B σ) p fun ds fr0 h0 w1 H1 J e1 l1 r0 vj p0 => ?_)
 generalize hvs : own.map (·.2) = vs at hi p0 ⊢
 intro A0 nD
 have p1 : bu X.K T B W (vE X.K T B σ) w1 σ ((if ds.length ≤ big then (Be vs g t me ds).bind fun r => M.ret (.nl r) else M.opt none) (vU fr0 vs) h0) Q := p0
 by_cases hb : ds.length ≤ big
 · rw [if_pos hb] at p1
   have rD := r0.temp (o := .lst []) nD
   have OD : Own B w1 A0 := r0.own_new nD
   refine ⟨fun i m H => m = ds.length - i ∧ i ≤ ds.length ∧ ∃ w' fr' h' acc vs', w1.le w' ∧ aO X.K T w' vs' acc ∧ acc.length ≤ i ∧ Rel X.K T (B.pr A0 (.lst vs')) w' (wipe σ vs) H fr' h' ∧ (∀ j ∈ vs, ∀ d, fr'[j]? ≠ some (some d)) ∧
    bu X.K T B W (vE X.K T B σ) w' σ (((Be vs g t me (ds.drop i)).bind fun r => M.ret (D.nl (acc ++ r))) fr' h') Q, ⟨ds.length, by simp, Nat.zero_le _, w1, vU fr0 vs, h0, [], [], Wd.le_refl _, .nil, Nat.zero_le _,
     (rD.wipe vs).protect OD (fun i ⟨z1, dd, z2, z3⟩ => r0.loose_new nD i (by
      by_cases hj : i ∈ vs
      · exact absurd z2 (Af hj)
      · rw [LK hj] at z2
        rw [wipe_out hj] at z1
        exact ⟨z1, dd, z2, z3⟩)) upd_same, fun j hj d => Af hj, p1⟩, ?_⟩
   rintro i m H2 ⟨rfl, hil, w2, fr2, h2, acc, us, l2, ra, la, r2, hw2, p2⟩
   have hP := OD.p
   obtain ⟨js, jg⟩ := vj i w2 H2 l2 r2.sub
   by_cases hlt : i < ds.length
   · obtain ⟨go, y⟩ := jg ds[i] (ai9 hlt)
     have ed : ds.drop i = ds[i] :: ds.drop (i + 1) := List.drop_eq_getElem_cons hlt
     rw [ed] at p2
     refine .inr ⟨go, fun H' => ∃ w' fr' h' acc vs', w1.le w' ∧ aO X.K T w' vs' acc ∧ acc.length ≤ i + 1 ∧ Rel X.K T (B.pr A0 (.lst vs')) w' (wipe σ vs) H' fr' h' ∧ (∀ j ∈ vs, ∀ d, fr'[j]? ≠ some (some d)) ∧
      bu X.K T B W (vE X.K T B σ) w' σ (((Be vs g t me (ds.drop (i + 1))).bind fun r => M.ret (D.nl (acc ++ r))) fr' h') Q, fun H' q => ⟨ds.length - (i + 1), by omega, rfl, hlt, q⟩, fun x H3 yx => ?_⟩
     obtain ⟨w3, l3, r3, rx⟩ := y x H3 yx (B.pr A0 (.lst us)) (wipe σ vs) fr2 h2 r2
     have turn : ∃ o fr' h', xm vs g t me ds[i] fr2 h2 = .ok o fr' h' ∧ bu X.K T B W (vE X.K T B σ) w2 σ (((Be vs g t me (ds.drop (i + 1))).bind fun r => M.ret (D.nl (acc ++ Ag o r))) fr' h') Q := by
      have p2' : bu X.K T B W (vE X.K T B σ) w2 σ (((xm vs g t me ds[i]).bind fun o => (Be vs g t me (ds.drop (i + 1))).bind fun r => M.ret (D.nl (acc ++ Ag o r))) fr2 h2) Q := by
       have ee : ((Be vs g t me (ds[i] :: ds.drop (i + 1))).bind fun r => M.ret (D.nl (acc ++ r))) fr2 h2 = ((xm vs g t me ds[i]).bind fun o => (Be vs g t me (ds.drop (i + 1))).bind fun r => M.ret (D.nl (acc ++ Ag o r))) fr2 h2 := by
        show M.bind (M.bind _ _) _ fr2 h2 = _
        unfold M.bind
        cases xm vs g t me ds[i] fr2 h2 with
        | ok o fr' h' => dsimp only; cases Be vs g t me (ds.drop (i + 1)) fr' h' <;> rfl
        | exc _ _ _ => rfl
        | err => rfl
       rw [← ee]
       exact p2
      cases q : xm vs g t me ds[i] fr2 h2 with
      | ok o fr' h' =>
        rw [M.bind_ok q] at p2'
        exact ⟨o, fr', h', rfl, p2'⟩
      | exc y fr' h' =>
        exfalso
        unfold xm at q
        split at q
        · split at q
          · split at q <;> cases q
          · cases q
          · cases q
        · cases q
      | err =>
        rw [M.bind_err q] at p2'
        exact p2'.elim
     obtain ⟨o, fro, ho, qt, p3⟩ := turn
     have upw : ∀ {u2 : L2.St} {w' : Wd} {H' : Hp} {fr' : Fr} {h' : Hh} {B' : Bs}, wipe u2 vs = wipe σ vs → Rel X.K T B' w' u2 H' fr' h' → Rel X.K T B' w' (wipe σ vs) H' (vU fr' vs) h' := fun {u2 w' H' fr' h' B'} e R' => by
      rw [← e]
      exact R'.wipe vs
     intro s0 H0 C cl fp
     refine sg s0 H0 C cl fp (B.pr A0 (.lst us)) w3 (wipe σ vs) H3 fr2 h2 x ds[i] _ r3 rx ?_
     unfold xm at qt
     cases q1 : g ds[i] fr2 h2 with
     | exc _ _ _ => rw [q1] at qt; cases qt
     | err => rw [q1] at qt; cases qt
     | ok _ fr3 h3 =>
       rw [q1] at qt
       dsimp only at qt
       intro w4 σ4 H4 l4 r4 k4
       have ew : wipe σ4 vs = wipe σ vs := Yx (k4.1.trans (wipe_length σ vs)) hi k4.2
       refine ⟨ew, fun s0 H0 C cl fp => st s0 H0 C cl fp (B.pr A0 (.lst us)) w4 σ4 H4 fr3 h3 _ r4 ?_⟩
       cases q2 : t fr3 h3 with
       | exc _ _ _ => rw [q2] at qt; cases qt
       | err => rw [q2] at qt; cases qt
       | ok b fr4 h4 =>
         rw [q2] at qt
         intro w5 H5 v l5 r5 rv
         have rv' : v = b := rv
         subst rv'
         cases v with
         | false =>
           dsimp only at qt
           cases qt
           simp only [Bool.false_eq_true, if_false]
           exact ⟨w5, _, _, acc, us, Wd.le_trans l2 (Wd.le_trans l3 (Wd.le_trans l4 l5)), ra.mono (Wd.le_trans l3 (Wd.le_trans l4 l5)), Nat.le_succ_of_le la, upw ew r5, fun j hj d => Af hj, p3.le (Wd.le_trans l3 (Wd.le_trans l4 l5))⟩
         | true =>
           dsimp only at qt
           simp only [if_true]
           intro s0 H0 C cl fp
           refine se s0 H0 C cl fp (B.pr A0 (.lst us)) w5 σ4 H5 fr4 h4 _ r5 ?_
           cases q3 : me fr4 h4 with
           | exc _ _ _ => rw [q3] at qt; cases qt
           | err => rw [q3] at qt; cases qt
           | ok yd fr5 h5 =>
             rw [q3] at qt
             cases qt
             intro w6 H6 yv l6 r6 ry
             have hD6 : H6 A0 = some (.lst us) := (r6.prot (A0, .lst us) (ai8)).1
             have lall : w2.le w6 := Wd.le_trans l3 (Wd.le_trans l4 (Wd.le_trans l5 l6))
             refine ⟨us, hD6, ?_, w6, _, _, acc ++ [yd], us ++ [yv], Wd.le_trans l2 lall, (ra.mono lall).append (.cons ry .nil), ?_, (upw ew r6).repr OD.e OD.p, fun j hj d => Af hj, ?_⟩
             · rw [ra.length]
               have : big < sizeLine := by decide
               omega
             · rw [ajh]
               show acc.length + 1 ≤ i + 1
               omega
             · have e9 : ∀ r : List _, acc ++ Ag (some yd) r = acc ++ [yd] ++ r := fun r => by
                show acc ++ yd :: r = _
                rw [List.append_assoc]
                rfl
               simp only [e9] at p3
               exact p3.le lall
   · have e : i = ds.length := by omega
     subst e
     rw [List.drop_length] at p2
     obtain ⟨r3, O3, lo3, eD⟩ := r2.unprotect OD.e OD.p
     refine .inl ⟨js (Nat.le_refl _), ?_⟩
     have p3 : bu X.K T B W (vE X.K T B σ) w2 σ (.ok (D.nl (acc ++ [])) fr2 h2) Q := p2
     rw [aiS] at p3
     have r4 : Rel X.K T B w2 σ H2 fr2 h2 := r3.refr (by rw [← wipe_length σ vs]; exact r3.fl) fun j d ej => ⟨ej, by
      by_cases hj : j ∈ vs
      · exact absurd ej (hw2 j hj d)
      · exact (wipe_out hj).symm⟩
     refine p3 w2 H2 (.ref A0) (Wd.le_refl _) r4 (.inr ⟨A0, _, rfl, O3, fun j ⟨z1, dd, z2, z3⟩ => lo3 j ⟨?_, dd, z2, z3⟩, eD, .lst ra⟩)
     by_cases hj : j ∈ vs
     · exact absurd z2 (hw2 j hj dd)
     · rw [wipe_out hj]
       exact z1
 · rw [if_neg hb] at p1
   exact p1.elim
theorem abf (C : Cq X T W k) (own : List (Str × Nat)) (si : Wb X T W tg iter li) (hi : ∀ i ∈ is, i ∈ own.map (·.2))
 (sg : ∀ (s : Shared) (H0 : Hp) (C : Addr) (cl : List (Str × Addr)) (fp : List Addr), Mx (X.blk s H0 scope (compEnvC scope cl C X.env) fp) T is tg g)
 (st : ∀ (s : Shared) (H0 : Hp) (C : Addr) (cl : List (Str × Addr)) (fp : List Addr), wF (UL (X.blk s H0 scope (compEnvC scope cl C X.env) fp) ifs) X.K T WF vB t)
 (se : ∀ (s : Shared) (H0 : Hp) (C : Addr) (cl : List (Str × Addr)) (fp : List Addr), cO (X.blk s H0 scope (compEnvC scope cl C X.env) fp) T WF elt me)
 (ok : BlkOk X.N X.env.scope scope own) (hs : ∀ x, foldedSetIterable iter X.env x = pure x := by intro _; rfl) : zQ X T W (.ListComp elt [⟨tg, iter, ifs, 0⟩] scope pos) (Jt (own.map (·.2)) li g t me) := fun B w σ H fr h Q R p =>
 uP (pe_lc C.calm C.nd UT ok (fun s H C cl fp => ⟨fun pins s' σ H v u Q I r hh => hh s _ C cl fp pins s' u I r⟩) (fun s H C cl fp => ⟨fun pins s' σ H Q I hh => hh s _ C cl fp pins s' I⟩) (fun s H C cl fp => ⟨fun pins s' σ H Q I hh => (hh s _ C cl fp).go pins s' I⟩) hs) (acs si hi sg st se R p)
theorem aaw (C : Cq X T W k) (j : Nat) {y : Str} {py spos : Pos} (own : List (Str × Nat)) (si : Wb X T W tg iter li) (hi : ∀ i ∈ is, i ∈ own.map (·.2))
 (sg : ∀ (s : Shared) (H0 : Hp) (C : Addr) (cl : List (Str × Addr)) (fp : List Addr), Mx (X.blk s H0 scope (compEnvC scope cl C X.env) fp) T is tg g)
 (st : ∀ (s : Shared) (H0 : Hp) (C : Addr) (cl : List (Str × Addr)) (fp : List Addr), wF (UL (X.blk s H0 scope (compEnvC scope cl C X.env) fp) ifs) X.K T WF vB t)
 (se : ∀ (s : Shared) (H0 : Hp) (C : Addr) (cl : List (Str × Addr)) (fp : List Addr), cO (X.blk s H0 scope (compEnvC scope cl C X.env) fp) T WF elt me)
 (ok : BlkOk X.N X.env.scope scope own) (hsw : swapsWith (.ListComp elt [⟨tg, iter, ifs, 0⟩] scope pos) (some (.Name y py)) spos.line X.env = pure true) (hy : X.N[j]? = some y := by rfl) (j0 : j ≠ 0 := by decide) (hyl : X.env.scope.names.lookup y = some .local := by rfl)
 (hs : ∀ x, foldedSetIterable iter X.env x = pure x := by intro _; rfl) : Bc X T W (.Assign [.Name y py] (.ListComp elt [⟨tg, iter, ifs, 0⟩] scope pos) spos) (cP j (Jt (own.map (·.2)) li g t me)) := fun B w σ H fr h D R p =>
 Ak (ps_setLc C.calm C.nd hy hyl hsw UT ok (fun s H C cl fp => ⟨fun pins s' σ H v u Q I r hh => hh s _ C cl fp pins s' u I r⟩) (fun s H C cl fp => ⟨fun pins s' σ H Q I hh => hh s _ C cl fp pins s' I⟩) (fun s H C cl fp => ⟨fun pins s' σ H Q I hh => (hh s _ C cl fp).go pins s' I⟩) hs)
  (acs si hi sg st se R (tW.bind (VR := vE X.K T B σ) p fun d fr1 h1 w1 H1 v e1 l1 r1 rx p1 => p1 w1 _ H1 (Wd.le_refl _) (r1.put j j0 rx)))
theorem Kd : wF (UL X []) X.K T W vB (M.ret true) := fun B w σ H fr h Q R p => aar pts_nil (p w H true (Wd.le_refl _) R rfl)
theorem aax (s : Gi X T W c t) : wF (UL X [c]) X.K T W vB t := fun B w σ H fr h Q R p => aar (pts_one GZ) (s B w σ H fr h Q R p)
theorem Cq.blk (C : Cq X T W k) {s : Shared} {H0 : Hp} {A0 : Addr} {cl : List (Str × Addr)} {fp : List Addr} : Cq (X.blk s H0 scope (compEnvC scope cl A0 X.env) fp) T WF k :=
 ⟨C.calm, C.nd, C.room, fun u s' ⟨_, _, _, _, _, _, _, _, _, _, _, _, _, _, _, _, w⟩ => w.elim, fun _ _ z => z.elim⟩
end
def mO (i : Nat) (f : List D → Option (List D)) : M Unit := fun fr h => match fr[i]? with
 | some (some (.nl l)) => match f l with
   | some l' => .ok () (fr.set i (some (.nl l'))) h
   | none => .err
 | some (some (.ref n)) => match h[n]? with
   | some (.nl l) => match f l with
     | some l' => .ok () fr (h.set n (.nl l'))
     | none => .err
   | _ => .err
 | _ => .err
def xq (d : D) (f : List D → Option (List D)) : M Unit := fun fr h => match d with
 | .ref n => match h[n]? with
   | some (.nl l) => match f l with
     | some l' => .ok () fr (h.set n (.nl l'))
     | none => .err
   | _ => .err
 | _ => .err
def wj (l : List D) : Option (List D) := some l
def Eu (d : D) (l : List D) : Option (List D) := if l.length < big then some (l ++ [d]) else none
def HS (j : D) (d : D) (l : List D) : Option (List D) := match j with
 | .int j => (ixN l.length j).map fun n => l.set n d
 | _ => none
def Qp (_ : List D) : Option (List D) := some []
def JW (K : PySem.W.Frag) (T : Tb) (B : Bs) (w : Wd) (σ : L2.St) (H : Hp) (v : V) (f : List D → Option (List D)) (fr' : Fr) (h' : Hh) : Prop :=
 ∃ p vs l l', v = .ref p ∧ H p = some (.lst vs) ∧ aO K T w vs l ∧ f l = some l' ∧ ∀ vs', aO K T w vs' l' → Rel K T B w σ (upd H p (.lst vs')) fr' h'
section
variable {K : PySem.W.Frag} {T : Tb} {B : Bs} {w : Wd} {σ : L2.St} {H : Hp} {fr : Fr} {h : Hh}
theorem Ub (R : Rel K T B w σ H fr h) {n : Nat} {v : V} (rv : rC K T w v (.ref n)) {f : List D → Option (List D)} {l l' : List D} (e : h[n]? = some (.nl l)) (ef : f l = some l') : JW K T B w σ H v f fr (h.set n (.nl l')) := by
 cases rv with
 | @ref a n s =>
   obtain ⟨o, q, rr⟩ := R.cel n a _ s e
   cases rr with
   | lst r => exact ⟨a, _, l, l', rfl, q, r, ef, fun vs' rs => R.change_cell s e (.lst rs)⟩
theorem aay {α β : Type} {VR : Wd → Hp → Fr → β → α → Prop} {W : WX} {d : D} {v : V} {f : List D → Option (List D)} {m : M α} {Q : β → Hp → Prop} (R : Rel K T B w σ H fr h) (rv : rC K T w v d) (p : bu K T B W VR w σ ((xq d f).bind (fun _ => m) fr h) Q) :
 ∃ fr' h', JW K T B w σ H v f fr' h' ∧ bu K T B W VR w σ (m fr' h') Q := by
 cases q : xq d f fr h with
 | ok u fr' h' =>
   rw [M.bind_ok q] at p
   refine ⟨fr', h', ?_, p⟩
   unfold xq at q
   split at q
   · split at q
     · split at q
       · cases q
         exact Ub R rv (by assumption) (by assumption)
       · cases q
     · cases q
   · cases q
 | exc y fr' h' =>
   exfalso
   unfold xq at q
   split at q
   · split at q
     · split at q <;> cases q
     · cases q
   · cases q
 | err =>
   rw [M.bind_err q] at p
   exact p.elim
theorem Oi {α β : Type} {VR : Wd → Hp → Fr → β → α → Prop} {W : WX} {i : Nat} {v : V} {f : List D → Option (List D)} {m : M α} {Q : β → Hp → Prop} (R : Rel K T B w σ H fr h) (ev : σ[i]? = some (some v)) (p : bu K T B W VR w σ ((mO i f).bind (fun _ => m) fr h) Q) :
 ∃ fr' h', JW K T B w σ H v f fr' h' ∧ bu K T B W VR w σ (m fr' h') Q := by
 cases q : mO i f fr h with
 | ok u fr' h' =>
   rw [M.bind_ok q] at p
   refine ⟨fr', h', ?_, p⟩
   unfold mO at q
   split at q
   · rename_i l e1
     split at q
     · rename_i l' ef
       cases q
       obtain ⟨v', e2, z⟩ := vm R e1
       rw [ev] at e2
       cases e2
       cases z with
       | val r => cases r
       | own O eH r =>
         cases r with
         | lst r => exact ⟨_, _, l, l', rfl, eH, r, ef, fun vs' rs => R.change_slot ev e1 O eH rfl (.lst rs)⟩
     · cases q
   · rename_i n e1
     split at q
     · split at q
       · cases q
         obtain ⟨v', e2, z⟩ := vm R e1
         rw [ev] at e2
         cases e2
         cases z with
         | val r => exact Ub R r (by assumption) (by assumption)
         | own O eH r => cases r
       · cases q
     · cases q
   · cases q
 | exc y fr' h' =>
   exfalso
   unfold mO at q
   split at q
   · split at q <;> cases q
   · split at q
     · split at q <;> cases q
     · cases q
   · cases q
 | err =>
   rw [M.bind_err q] at p
   exact p.elim
end
def Oj (i : Nat) (m : M D) : M D := (mO i wj).bind fun _ => m.bind fun d => (mO i (Eu d)).bind fun _ => M.ret .non
def abg (i : Nat) : M D := (mO i Qp).bind fun _ => M.ret .non
def Jg (mo m : M D) : M D := mo.bind fun o => (xq o wj).bind fun _ => m.bind fun d => (xq o (Eu d)).bind fun _ => M.ret .non
def abh (mo : M D) : M D := mo.bind fun o => (xq o Qp).bind fun _ => M.ret .non
section
variable {X : Cx} {T : Tb} {W : WX} {k : Nat} {apos cpos px : Pos} {e o : Expr} {m mo : M D}
theorem Yy {K : PySem.W.Frag} {B : Bs} {w : Wd} {σ : L2.St} {H : Hp} {v : V} {f : List D → Option (List D)} {fr' : Fr} {h' : Hh} (z : JW K T B w σ H v f fr' h') : tyV K "list" v H := by
 obtain ⟨p, vs, l, l', rfl, e, _⟩ := z
 exact .inl ⟨rfl, vs, SqL.of e⟩
theorem Uc {K : PySem.W.Frag} {B : Bs} {w : Wd} {σ : L2.St} {H : Hp} {v : V} {fr' : Fr} {h' : Hh} (z : JW K T B w σ H v wj fr' h') : Rel K T B w σ H fr' h' := by
 obtain ⟨p, vs, l, l', rfl, e, r, ef, k⟩ := z
 have e1 : l = l' := Option.some.inj ef
 subst e1
 have z := k vs r
 have : upd H p (.lst vs) = H := by
  funext a
  unfold upd
  split
  · rename_i h
    rw [h, e]
  · rfl
 rw [this] at z
 exact z
theorem aaz {K : PySem.W.Frag} {B : Bs} {w : Wd} {σ : L2.St} {H : Hp} {v y : V} {d : D} {fr' : Fr} {h' : Hh} {Q : VK} (z : JW K T B w σ H v (Eu d) fr' h') (ry : rC K T w y d) (q : ∀ H', Rel K T B w σ H' fr' h' → Q .non H') : rAppend v [y] H Q := by
 obtain ⟨p, vs, l, l', rfl, e, r, ef, k⟩ := z
 unfold Eu at ef
 by_cases hl : l.length < big
 · rw [if_pos hl] at ef
   cases ef
   exact ⟨p, vs, y, rfl, rfl, e, by rw [r.length]; exact Nat.lt_of_lt_of_le hl (by decide), q _ (k _ (r.append (.cons ry .nil)))⟩
 · rw [if_neg hl] at ef
   cases ef
theorem aaA (i : Nat) {x : Str} (s : cO X T W e m) (hN : X.N[i]? = some x := by rfl) (hv : Vis X.env.scope x := by first | exact Or.inl rfl | exact Or.inr (Or.inl rfl) | exact Or.inr (Or.inr rfl)) (hd : (x == ("__debug__" : Str)) = false := by decide)
 (hcd : (x == ("__classdict__" : Str)) = false := by decide)
 (hbase : attributeBase (.Name x px) "append" X.env (eval (.Name x px) X.env) = eval (.Name x px) X.env := by rfl)
 (hfew : ((backTo cpos (starEach (e :: []) X.env)).all (fun x => !x.1) && (backToKw cpos (keywordEach [] X.env)).all (fun x => x.1.isSome)
  && decide ((e :: []).length + ([] : List Keyword).length + (if ([] : List Keyword).isEmpty then 0 else 1) < 30)) = true := by rfl)
 (hline : (apos.endLine == cpos.line) = true := by rfl) (hs : starEach (e :: []) X.env = (false, eval e X.env) :: starEach [] X.env := by exact uG rfl) (hplain : (backTo cpos (starEach [] X.env)).any (·.1) = false := by rfl) :
 cO X T W (.Call (.Attribute (.Name x px) "append" apos) [e] [] cpos) (Oj i m) := fun B w σ H fr h Q R p => by
 have hh : ∃ v, σ[i]? = some (some v) := by
  cases e1 : fr[i]? with
  | none =>
    have q : mO i wj fr h = .err := by unfold mO; rw [e1]
    have p' : bu X.K T B W (vV X.K T B σ) w σ ((mO i wj).bind _ fr h) Q := p
    rw [M.bind_err q] at p'
    exact p'.elim
  | some o =>
    cases o with
    | none =>
      have q : mO i wj fr h = .err := by unfold mO; rw [e1]
      have p' : bu X.K T B W (vV X.K T B σ) w σ ((mO i wj).bind _ fr h) Q := p
      rw [M.bind_err q] at p'
      exact p'.elim
    | some d =>
      obtain ⟨v, e2, _⟩ := vm R e1
      exact ⟨v, e2⟩
 obtain ⟨v, ev⟩ := hh
 obtain ⟨fr1, h1, z1, p1⟩ := Oi (VR := vV X.K T B σ) R ev p
 have R1 := Uc z1
 refine uP (pe_bm PySem.F.plainAttrs_list PySem.F.slot_list_append PySem.F.type_list_append mt_append (pe_var hN hv hd hcd) (pa_cons mZ pa_nil hs) hbase hfew hline hs hplain) ⟨v, ev, Yy z1, s B w σ H fr1 h1 _ R1 (bu.bind (VR := vV X.K T B σ) p1 fun d fr2 h2 w2 H2 y e2 l2 r2 ry p2 => ?_)⟩
 obtain ⟨fr3, h3, z3, p3⟩ := Oi (VR := vV X.K T B σ) r2 ev p2
 exact aaz z3 ry fun H' R' => p3 w2 H' .non (Wd.le_refl _) R' .non
theorem Wc (so : cO X T W o mo) (s : cO X T W e m)
 (hbase : attributeBase o "append" X.env (eval o X.env) = eval o X.env := by rfl)
 (hfew : ((backTo cpos (starEach (e :: []) X.env)).all (fun x => !x.1) && (backToKw cpos (keywordEach [] X.env)).all (fun x => x.1.isSome)
  && decide ((e :: []).length + ([] : List Keyword).length + (if ([] : List Keyword).isEmpty then 0 else 1) < 30)) = true := by rfl)
 (hline : (apos.endLine == cpos.line) = true := by rfl) (hs : starEach (e :: []) X.env = (false, eval e X.env) :: starEach [] X.env := by exact uG rfl) (hplain : (backTo cpos (starEach [] X.env)).any (·.1) = false := by rfl) :
 cO X T W (.Call (.Attribute o "append" apos) [e] [] cpos) (Jg mo m) := fun B w σ H fr h Q R p => by
 refine uP (pe_bm PySem.F.plainAttrs_list PySem.F.slot_list_append PySem.F.type_list_append mt_append mZ (pa_cons mZ pa_nil hs) hbase hfew hline hs hplain) (so B w σ H fr h _ R (bu.bind (VR := vV X.K T B σ) p fun od fr0 h0 w0 H0 ov e0 l0 r0 ro p0 => ?_))
 obtain ⟨fr1, h1, z1, p1⟩ := aay (VR := vV X.K T B σ) r0 ro p0
 have R1 := Uc z1
 refine ⟨Yy z1, s B w0 σ H0 fr1 h1 _ R1 (bu.bind (VR := vV X.K T B σ) p1 fun d fr2 h2 w2 H2 y e2 l2 r2 ry p2 => ?_)⟩
 obtain ⟨fr3, h3, z3, p3⟩ := aay (VR := vV X.K T B σ) r2 (ro.mono l2) p2
 exact aaz z3 ry fun H' R' => p3 w2 H' .non (Wd.le_refl _) R' .non
def LQ (i : Nat) (m mi : M D) : M Fl := m.bind fun d => (yu i).bind fun _ => mi.bind fun j => (mO i (HS j d)).bind fun _ => M.ret .nx
def abi (mo m mi : M D) : M Fl := m.bind fun d => mo.bind fun o => mi.bind fun j => (xq o (HS j d)).bind fun _ => M.ret .nx
end
end Pk
namespace Pk
open PySem PySem.Spec L2
section
variable {K : PySem.W.Frag} {T : Tb} {B : Bs} {w : Wd} {σ : L2.St} {H : Hp} {fr : Fr} {h : Hh}
theorem acu {i : Nat} {v : V} {f : List D → Option (List D)} (R : Rel K T B w σ H fr h) (ev : σ[i]? = some (some v)) : mO i f fr h = .err ∨ ∃ fr' h', mO i f fr h = .ok () fr' h' ∧ JW K T B w σ H v f fr' h' := by
 cases q : mO i f fr h with
 | ok u fr' h' =>
   right
   refine ⟨fr', h', rfl, ?_⟩
   unfold mO at q
   split at q
   · rename_i l e1
     split at q
     · rename_i l' ef
       cases q
       obtain ⟨v', e2, z⟩ := vm R e1
       rw [ev] at e2
       cases e2
       cases z with
       | val r => cases r
       | own O eH r =>
         cases r with
         | lst r => exact ⟨_, _, l, l', rfl, eH, r, ef, fun vs' rs => R.change_slot ev e1 O eH rfl (.lst rs)⟩
     · cases q
   · rename_i n e1
     split at q
     · split at q
       · cases q
         obtain ⟨v', e2, z⟩ := vm R e1
         rw [ev] at e2
         cases e2
         cases z with
         | val r => exact Ub R r (by assumption) (by assumption)
         | own O eH r => cases r
       · cases q
     · cases q
   · cases q
 | exc y fr' h' =>
   exfalso
   unfold mO at q
   split at q
   · split at q <;> cases q
   · split at q
     · split at q <;> cases q
     · cases q
   · cases q
 | err => exact .inl rfl
end
section
variable {X : Cx} {T : Tb} {W : WX} {k : Nat} {pos px tpos : Pos} {e o j : Expr} {m mo mj : M D}
theorem af9 {K : PySem.W.Frag} {B : Bs} {w : Wd} {σ : L2.St} {H : Hp} {v y u : V} {d jd : D} {fr' : Fr} {h' : Hh} {Q : Hp → Prop} (z : JW K T B w σ H v (HS jd d) fr' h') (ry : rC K T w y d) (rj : rC K T w u jd) (q : ∀ H', Rel K T B w σ H' fr' h' → Q H') : rSetL v u y H Q := by
 obtain ⟨p, vs, l, l', rfl, e, r, ef, k⟩ := z
 unfold HS at ef
 split at ef
 · rename_i i
   obtain ⟨n, en, rfl⟩ := Option.map_eq_some_iff.mp ef
   rw [vp rj]
   exact ⟨p, vs, i, n, rfl, rfl, e, by rw [r.length]; exact en, q _ (k _ (r.set n ry))⟩
 · cases ef
theorem acv (i : Nat) {x : Str} (s : cO X T W e m) (sj : cO X T W j mj) (hN : X.N[i]? = some x := by rfl) (hv : Vis X.env.scope x := by first | exact Or.inl rfl | exact Or.inr (Or.inl rfl) | exact Or.inr (Or.inr rfl)) (hd : (x == ("__debug__" : Str)) = false := by decide)
 (hcd : (x == ("__classdict__" : Str)) = false := by decide)
 (ha : ∀ v, assign (.Subscript (.Name x px) j tpos) X.env v = (do
  let ov ← holding [v] (eval (.Name x px) X.env)
  let iv ← holding [v, ov] (eval j X.env)
  standAt tpos
  holding [v, ov, iv] (setItem ov iv v)
  release [v, ov, iv] []) := by intro _; rfl)
 (hs : swapsWithSole [.Subscript (.Name x px) j tpos] e pos.line X.env = pure false := by rfl) (hw : swappedStores [.Subscript (.Name x px) j tpos] e X.env = pure none := by rfl)
 (h1 : (assignEach [.Subscript (.Name x px) j tpos] X.env).map (·.2) = [assign (.Subscript (.Name x px) j tpos) X.env] := by rfl) : Bc X T W (.Assign [.Subscript (.Name x px) j tpos] e pos) (LQ i m mj) := fun B w σ H fr h D R p =>
 Ak (ps_asg mZ (pg_sub (pe_var hN hv hd hcd) mZ set_list ha) hs hw h1) (s B w σ H fr h _ R (tW.bind (VR := vV X.K T B σ) p fun d fr1 h1 w1 H1 v e1 l1 r1 rx p1 => by
  have p1' : tW X.K T B W w1 ((yu i).bind (fun _ => mj.bind fun j => (mO i (HS j d)).bind fun _ => M.ret .nx) fr1 h1) D := p1
  cases es : fr1[i]? with
  | none =>
    have q : yu i fr1 h1 = .err := by unfold yu; rw [es]
    rw [M.bind_err q] at p1'
    exact p1'.elim
  | some os =>
    cases os with
    | none =>
      have q : yu i fr1 h1 = .err := by unfold yu; rw [es]
      rw [M.bind_err q] at p1'
      exact p1'.elim
    | some ds =>
      have q : yu i fr1 h1 = .ok () fr1 h1 := by unfold yu; rw [es]
      rw [M.bind_ok q] at p1'
      obtain ⟨ov, ev, _⟩ := vm r1 es
      refine ⟨ov, ev, sj B w1 σ H1 fr1 h1 _ r1 (tW.bind (VR := vV X.K T B σ) p1' fun jd fr2 h2 w2 H2 jv e2 l2 r2 rj p2 => ?_)⟩
      have p2' : tW X.K T B W w2 ((mO i (HS jd d)).bind (fun _ => M.ret .nx) fr2 h2) D := p2
      rcases acu (f := HS jd d) r2 ev with q | ⟨fr3, h3, q, z⟩
      · rw [M.bind_err q] at p2'
        exact p2'.elim
      · rw [M.bind_ok q] at p2'
        exact af9 z (rx.mono l2) rj fun H' R' => p2' w2 σ H' (Wd.le_refl _) R'))
def FJ (m : M D) : M D := m.bind fun d fr h => if d.own then .ok (.ref h.length) fr (h ++ [d]) else .err
theorem RJ (s : zQ X T W e m) : cO X T W e (FJ m) := fun B w σ H fr h Q R p => s B w σ H fr h Q R (bu.bind (VR := vE X.K T B σ) p fun d fr1 h1 w1 H1 v e1 l1 r1 rx p1 => by
 rcases rx with rx | ⟨q, o, rfl, O, lo, eH, rd⟩
 · have p1' : bu X.K T B W (vV X.K T B σ) w1 σ (if d.own then .ok (.ref h1.length) fr1 (h1 ++ [d]) else .err) Q := p1
   rw [N8 rx] at p1'
   exact (show False from p1').elim
 · have p1' : bu X.K T B W (vV X.K T B σ) w1 σ (if d.own then .ok (.ref h1.length) fr1 (h1 ++ [d]) else .err) Q := p1
   rw [rd.own] at p1'
   have R2 := r1.to_cell O lo eH rd
   exact p1' ⟨w1.F, w1.I ++ [q]⟩ H1 (.ref q) ⟨fun _ _ z => z, [q], rfl⟩ R2 (.ref (by
    rw [← r1.len]
    show (w1.I ++ [q])[w1.I.length]? = some q
    rw [aji (Nat.le_refl _), Nat.sub_self]
    rfl)))
theorem Ol {α : Type} {f : Str} : ∀ {fs : List Str} {vs : List α} {i : Nat}, fs.Nodup → fs[i]? = some f → (fs.zip vs).lookup f = vs[i]?
 | [], _, _, _, e => by simp at e
 | g :: fs, [], i, _, _ => by simp
 | g :: fs, v :: vs, 0, _, e => by
   simp at e
   subst e
   simp [aja]
 | g :: fs, v :: vs, i + 1, n, e => by
   have hf : f ∈ fs := ajg (by simpa using e)
   have hne : (f == g) = false := by
    rw [beq_eq_false_iff_ne]
    rintro rfl
    exact (List.nodup_cons.mp n).1 hf
   show aja f ((g, v) :: fs.zip vs) = (v :: vs)[i + 1]?
   rw [List.lookup_cons, hne]
   show (fs.zip vs).lookup f = _
   rw [Ol (List.nodup_cons.mp n).2 (by simpa using e)]
   simp
theorem Yz {f : Str} {y : V} : ∀ {fs : List Str} {vs : List V} {i : Nat}, fs.Nodup → fs[i]? = some f → i ≤ vs.length → putF f y (fs.zip vs) = fs.zip (if i < vs.length then vs.set i y else vs ++ [y])
 | [], _, _, _, e, _ => by simp at e
 | g :: fs, [], i, _, e, hl => by
   have h0 : i = 0 := by simpa using hl
   subst h0
   simp at e
   subst e
   simp [putF]
 | g :: fs, v :: vs, 0, _, e, _ => by
   simp at e
   subst e
   show putF g y ((g, v) :: fs.zip vs) = _
   unfold putF
   rw [if_pos rfl, if_pos (show 0 < (v :: vs).length from Nat.succ_pos _)]
   rfl
 | g :: fs, v :: vs, i + 1, n, e, hl => by
   have hf : f ∈ fs := ajg (by simpa using e)
   have hne : ¬ g = f := by
    rintro rfl
    exact (List.nodup_cons.mp n).1 hf
   show putF f y ((g, v) :: fs.zip vs) = _
   unfold putF
   rw [if_neg hne, Yz (List.nodup_cons.mp n).2 (i := i) (by simpa using e) (by simpa using hl)]
   by_cases h : i < vs.length
   · rw [if_pos h, if_pos (by simpa using h)]
     rfl
   · rw [if_neg h, if_neg (by simpa using h)]
     rfl
structure Qq (X : Cx) (T : Tb) (f : Str) (ix : Nat → Option Nat) : Prop where
 cls : ∀ c i, ix c = some i → Cls X.K (T.cad c)
 na : ∀ c i, ix c = some i → NoAttr X.K (T.cad c) f
 nd : ∀ c i, ix c = some i → (T.fld c).Nodup ∧ (T.fld c).length < 1000
 at_ : ∀ c i, ix c = some i → (T.fld c)[i]? = some f
def D.ins (h : Hh) (d : D) : Option (Nat × List D) := match d.der h with
 | .obj c fs => some (c, fs)
 | .no c fs => some (c, fs)
 | _ => none
def ug (ix : Nat → Option Nat) (h : Hh) (d : D) : Option D := match d.ins h with
 | some (c, fs) => match ix c with
   | some i => fs[i]?
   | none => none
 | none => none
theorem HW {K : PySem.W.Frag} {B : Bs} {w : Wd} {σ : L2.St} {H : Hp} {fr : Fr} {h : Hh} {v : V} {d : D} {c : Nat} {fs : List D} (R : Rel K T B w σ H fr h) (z : vO K T B σ w H fr v d) (e : d.ins h = some (c, fs)) :
 ∃ a dx vs, v = .ref a ∧ H a = some (.ins (T.cad c) dx ((T.fld c).zip vs)) ∧ aO K T w vs fs := by
 rcases z with z | ⟨p, o, rfl, eH, z⟩
 · cases z with
   | obj s r =>
     cases e
     exact ⟨_, _, _, rfl, R.sub _ _ s, r⟩
   | @ref a n s =>
     have ln : n < h.length := by
      rw [← R.len]
      exact (List.getElem?_eq_some_iff.mp s).1
     obtain ⟨o, q, rr⟩ := R.cel n a h[n] s (ai9 ln)
     have e0 : D.der h (.ref n) = h[n] := by
      unfold D.der
      dsimp only
      rw [ai9 ln]
      rfl
     unfold D.ins at e
     rw [e0] at e
     generalize h[n] = cc at rr e
     cases rr with
     | lst r => cases e
     | dct _ r => cases e
     | obj r =>
       cases e
       exact ⟨_, _, _, rfl, q, r⟩
   | _ => cases e
 · cases z with
   | lst r => cases e
   | obj r =>
     cases e
     exact ⟨_, _, _, rfl, eH, r⟩
theorem xM {f : Str} {ix : Nat → Option Nat} (F : Qq X T f ix) (s : V1 X T W o mo) (hb : attributeBase o f X.env (eval o X.env) = eval o X.env := by rfl) : cO X T W (.Attribute o f pos) (mQ (ug ix) mo) := fun B w σ H fr h Q R p =>
 uP (pe_fld mZ hb) (s B w σ H fr h _ R (bu.bind (VR := vO X.K T B σ) p fun d fr1 h1 w1 H1 v e1 l1 r1 rx p1 => by
  have p1' : bu X.K T B W (vV X.K T B σ) w1 σ (M.opt (ug ix h1 d) fr1 h1) Q := p1
  cases q : ug ix h1 d with
  | none => rw [q] at p1'; exact p1'.elim
  | some z =>
    rw [q] at p1'
    unfold ug at q
    split at q
    · rename_i c fs ei
      split at q
      · rename_i i ec
        obtain ⟨a, dx, vs, rfl, eH, rs⟩ := HW r1 rx ei
        obtain ⟨v, ev, rv⟩ := rs.get q
        exact ⟨a, _, dx, _, v, rfl, eH, F.cls c i ec, F.na c i ec, by rw [Ol (F.nd c i ec).1 (F.at_ c i ec)]; exact ev, p1' w1 H1 v (Wd.le_refl _) r1 rv⟩
      · cases q
    · cases q))
def xj (i : Nat) (d : D) (fs : List D) : Option (List D) := if i ≤ fs.length then some (if i < fs.length then fs.set i d else fs ++ [d]) else none
def Fd (j : Nat) (ix : Nat → Option Nat) (d : D) : M Unit := fun fr h => match fr[j]? with
 | some (some (.no c fs)) => match ix c with
   | some i => match xj i d fs with
     | some fs' => .ok () (fr.set j (some (.no c fs'))) h
     | none => .err
   | none => .err
 | some (some (.ref n)) => match h[n]? with
   | some (.no c fs) => match ix c with
     | some i => match xj i d fs with
       | some fs' => .ok () fr (h.set n (.no c fs'))
       | none => .err
     | none => .err
   | _ => .err
 | _ => .err
def xG (j : Nat) (ix : Nat → Option Nat) (m : M D) : M Fl := m.bind fun d => (Fd j ix d).bind fun _ => M.ret .nx
theorem Xe {K : PySem.W.Frag} {w : Wd} {f : Str} {c i : Nat} {fs fs' : List D} {vs : List V} {y : V} {d : D} (nd : (T.fld c).Nodup) (at_ : (T.fld c)[i]? = some f) (rs : aO K T w vs fs) (ry : rC K T w y d) (e : xj i d fs = some fs') :
 ∃ vs', putF f y ((T.fld c).zip vs) = (T.fld c).zip vs' ∧ aO K T w vs' fs' := by
 unfold xj at e
 by_cases hi : i ≤ fs.length
 · rw [if_pos hi] at e
   cases e
   refine ⟨_, Yz nd at_ (by rw [rs.length]; exact hi), ?_⟩
   rw [rs.length]
   by_cases hl : i < fs.length
   · rw [if_pos hl, if_pos hl]
     exact rs.set i ry
   · rw [if_neg hl, if_neg hl]
     exact rs.append (.cons ry .nil)
 · rw [if_neg hi] at e
   cases e
theorem HX (j : Nat) {x f : Str} {ix : Nat → Option Nat} (F : Qq X T f ix) (s : cO X T W e m) (hs : swapsWith e (some (.Attribute (.Name x px) f tpos)) pos.line X.env = pure false := by rfl)
 (hN : X.N[j]? = some x := by rfl) (hv : Vis X.env.scope x := by first | exact Or.inl rfl | exact Or.inr (Or.inl rfl) | exact Or.inr (Or.inr rfl)) (hd : (x == ("__debug__" : Str)) = false := by decide)
 (hcd : (x == ("__classdict__" : Str)) = false := by decide) : Bc X T W (.Assign [.Attribute (.Name x px) f tpos] e pos) (xG j ix m) := fun B w σ H fr h D R p =>
 Ak (ps_fld (pe_var hN hv hd hcd) mZ hs) (s B w σ H fr h _ R (tW.bind (VR := vV X.K T B σ) p fun d fr1 h1 w1 H1 y e1 l1 r1 ry p1 => by
  have p1' : tW X.K T B W w1 ((Fd j ix d).bind (fun _ => M.ret .nx) fr1 h1) D := p1
  have fin : ∀ {c i : Nat} {a dx : Addr} {vs : List V} {fs fs' : List Pk.D}, ix c = some i → H1 a = some (.ins (T.cad c) dx ((T.fld c).zip vs)) → aO X.K T w1 vs fs → xj i d fs = some fs' → (∀ vs', aO X.K T w1 vs' fs' → D.nx σ (upd H1 a (.ins (T.cad c) dx ((T.fld c).zip vs')))) → σ[j]? = some (some (.ref a)) →
   ∃ v, σ[j]? = some (some v) ∧ ∃ a C dx fs, v = .ref a ∧ H1 a = some (.ins C dx fs) ∧ Cls X.K C ∧ NoAttr X.K C f ∧ fs.length < 1000 ∧ D.nx σ (upd H1 a (.ins C dx (putF f y fs))) := fun {c i a dx vs fs fs'} ec eH rs ep kk es => by
   obtain ⟨vs', e1, rs'⟩ := Xe (F.nd c i ec).1 (F.at_ c i ec) rs ry ep
   refine ⟨_, es, a, _, dx, _, rfl, eH, F.cls c i ec, F.na c i ec, ?_, ?_⟩
   · rw [List.length_zip]
     have := (F.nd c i ec).2
     omega
   · rw [e1]
     exact kk vs' rs'
  cases q : Fd j ix d fr1 h1 with
  | err => rw [M.bind_err q] at p1'; exact p1'.elim
  | exc z fr2 h2 =>
    exfalso
    unfold Fd at q
    repeat' (first | (split at q) | (cases q))
  | ok u fr2 h2 =>
    rw [M.bind_ok q] at p1'
    have p2 : ∀ w' σ' H', w1.le w' → Rel X.K T B w' σ' H' fr2 h2 → D.nx σ' H' := p1'
    unfold Fd at q
    split at q
    · rename_i c fs es
      split at q
      · rename_i i ec
        split at q
        · rename_i fs' ep
          cases q
          obtain ⟨v, e2, z⟩ := vm r1 es
          cases z with
          | val r => cases r
          | own O eH r =>
            cases r with
            | obj r => exact fin ec eH r ep (fun vs' rs' => p2 w1 σ _ (Wd.le_refl _) (r1.change_slot e2 es O eH rfl (.obj rs'))) e2
        · cases q
      · cases q
    · rename_i n es
      split at q
      · rename_i c fs en
        split at q
        · rename_i i ec
          split at q
          · rename_i fs' ep
            cases q
            obtain ⟨v, e2, z⟩ := vm r1 es
            cases z with
            | val r =>
              cases r with
              | ref sI =>
                obtain ⟨o, qo, rr⟩ := r1.cel n _ _ sI en
                cases rr with
                | obj r => exact fin ec qo r ep (fun vs' rs' => p2 w1 σ _ (Wd.le_refl _) (r1.change_cell sI en (.obj rs'))) e2
            | own O eH r => cases r
          · cases q
        · cases q
      · cases q
    · cases q))
end
end Pk
namespace Pk
open PySem PySem.Spec L2
abbrev Fn := List D → Hh → R D
def startF (n : Nat) (ds : List D) : Fr := ds.map some ++ List.replicate (n - ds.length) none
def tR (n : Nat) (m : M Fl) : Fn := fun ds h => match m (startF n ds) h with
 | .ok (.rt d) _ h => .ok d [] h
 | .ok .nx _ h => .ok .non [] h
 | .ok _ _ _ => .err
 | .exc x _ h => .exc x [] h
 | .err => .err
def runI (c n : Nat) (m : M Fl) : Fn := fun ds h => match m (startF n (.no c [] :: ds)) h with
 | .ok .nx fr h => match (fr : Fr)[0]? with
   | some (some (D.no c' fs)) => if c' = c then .ok (.no c fs) [] h else .err
   | _ => .err
 | .ok _ _ _ => .err
 | .exc x _ h => .exc x [] h
 | .err => .err
def spF (K : PySem.W.Frag) (T : Tb) (n : Nat) (F : Fn) : Sp := fun vs H Q E => ∃ w h ds, Rel K T (Bs.of w H) w [] H [] h ∧ aO K T w vs ds ∧ ds.length = n ∧ bu K T (Bs.of w H) (fun c d _ H' => E c d H') (vE K T (Bs.of w H) []) w [] (F ds h) Q
def vN (K : PySem.W.Frag) (T : Tb) (w : Wd) (G : Hp) (x : Addr) (w' : Wd) (H' : Hp) (_ : Fr) (v : V) (d : D) : Prop := v = .non ∧ Own (Bs.of w G) w' x ∧ ∃ o, H' x = some o ∧ Bb K T w' o d
def spI (K : PySem.W.Frag) (T : Tb) (c n : Nat) (F : Fn) : Sp := fun vs H Q E => ∃ w h ds G x dx us, vs = .ref x :: us ∧ G x = none ∧ H = upd G x (.ins (T.cad c) dx []) ∧ Rel K T (Bs.of w G) w [] G [] h ∧ aO K T w us ds ∧ ds.length + 1 = n ∧
 bu K T (Bs.of w G) (fun c d _ H' => E c d H') (vN K T w G x) w [] (F ds h) Q
section
variable {K : PySem.W.Frag} {T : Tb} {B : Bs} {w w' : Wd} {σ : L2.St} {H H' : Hp} {fr : Fr} {h : Hh}
theorem O9 {n : Nat} {ds : List D} (hl : ds.length ≤ n) : (startF n ds).length = n := by
 unfold startF
 rw [ajh, ajb, List.length_replicate]
 omega
theorem Ju {n i : Nat} {ds : List D} {d : D} (e : (startF n ds)[i]? = some (some d)) : ds[i]? = some d := by
 unfold startF at e
 by_cases hi : i < ds.length
 · rw [List.getElem?_append_left (by simpa using hi), ajj] at e
   cases q : ds[i]? with
   | none => rw [q] at e; cases e
   | some a => rw [q] at e; cases e; rfl
 · rw [aji (by simpa using hi), List.getElem?_replicate] at e
   split at e <;> cases e
theorem YB {N : List Str} {vs : List V} {i : Nat} {v : V} (e : vs[i]? = some v) : (L2.start N vs)[i]? = some (some v) := by
 unfold L2.start
 have hi : i < vs.length := (List.getElem?_eq_some_iff.mp e).1
 rw [List.getElem?_append_left (by simpa using hi), ajj, e]
 rfl
theorem Xf {N : List Str} {vs : List V} (hl : vs.length ≤ N.length) : (L2.start N vs).length = N.length := by
 unfold L2.start
 rw [ajh, ajb, List.length_replicate]
 omega
theorem Rel.start (R : Rel K T B w [] H [] h) {N : List Str} {vs : List V} {ds : List D} (rs : aO K T w vs ds) (hl : ds.length ≤ N.length) : Rel K T B w (L2.start N vs) H (startF N.length ds) h :=
 { R with
   me := fun x d bx e od => by
    obtain ⟨v, ev, rv⟩ := rs.get (Ju e)
    exact (Dj od rv).elim
   fl := by rw [O9 hl, Xf (by rw [rs.length]; exact hl)]
   sl := fun i s d e1 e2 => by
    cases d with
    | none => exact .none
    | some d =>
      obtain ⟨v, ev, rv⟩ := rs.get (Ju e2)
      rw [YB ev] at e1
      cases e1
      exact .val rv
   sep := fun i j p hij ⟨_, d, e, od⟩ _ => by
    obtain ⟨v, ev, rv⟩ := rs.get (Ju e)
    exact Dj od rv }
theorem Rel.startI (R : Rel K T B w [] H [] h) {N : List Str} {x dx : Addr} {c : Nat} {vs : List V} {ds : List D} (hB : B.me = some x) (nx : H x = none) (rs : aO K T w vs ds) (hl : ds.length + 1 ≤ N.length) :
 Rel K T B w (L2.start N (.ref x :: vs)) (upd H x (.ins (T.cad c) dx [])) (startF N.length (.no c [] :: ds)) h := by
 have R1 : Rel K T B w [] (upd H x (.ins (T.cad c) dx [])) [] h := R.temp nx
 have O : Own B w x := R.own_new nx
 have sl : ∀ (i : Nat) s d, (L2.start N (.ref x :: vs))[i]? = some s → (startF N.length (.no c [] :: ds))[i]? = some d → Oa K T B w (upd H x (.ins (T.cad c) dx [])) s d := fun i s d e1 e2 => by
  cases d with
  | none => exact .none
  | some d =>
    have q := Ju e2
    cases i with
    | zero =>
      cases q
      cases e1
      exact .own O upd_same (by
       have z : Bb K T w (.ins (T.cad c) dx ((T.fld c).zip [])) (.no c []) := .obj .nil
       rw [List.zip_nil_right] at z
       exact z)
    | succ i =>
      obtain ⟨v, ev, rv⟩ := rs.get (show ds[i]? = some d from q)
      have e3 : (L2.start N (.ref x :: vs))[i + 1]? = some (some v) := YB (show (V.ref x :: vs)[i + 1]? = some v from ev)
      rw [e3] at e1
      cases e1
      exact .val rv
 have hown : ∀ (i : Nat) d, (startF N.length (.no c [] :: ds))[i]? = some (some d) → d.own = true → i = 0 := fun i d e od => by
  cases i with
  | zero => rfl
  | succ i =>
    have q := Ju e
    obtain ⟨v, ev, rv⟩ := rs.get (show ds[i]? = some d from q)
    exact (Dj od rv).elim
 refine { R1 with fl := ?_, sl := sl, sep := fun i j p hij ⟨_, d, e, od⟩ ⟨_, d', e', od'⟩ => hij ((hown i d e od).trans (hown j d' e' od').symm), me := fun y d bx e od => ?_ }
 · rw [O9 (by simpa using hl), Xf (by rw [aiU, rs.length]; exact hl)]
 · have bx' : some x = some y := hB.symm.trans bx
   cases bx'
   rfl
theorem Rel.unme {m : Option Addr} {w0 : Wd} {G : Hp} (R : Rel K T ⟨w0, G, [], m⟩ w [] H [] h) : Rel K T (Bs.of w0 G) w [] H [] h := { R with me := (fun _ _ _ q _ => by simp at q), sl := fun _ _ _ q => by simp at q }
theorem Rel.ofme {x : Addr} {w0 : Wd} {G : Hp} (R : Rel K T (Bs.of w0 G) w [] H [] h) : Rel K T ⟨w0, G, [], some x⟩ w [] H [] h := { R with me := (fun _ _ _ q _ => by simp at q), sl := fun _ _ _ q => by simp at q }
end
section
variable {P : Program} {w : World} {K : PySem.W.Frag} {mg : Str → Option Value} {base : Heap} {T : Tb} {k : Nat} {x qual : Str} {params : Arguments} {body : List Stmt} {scope : Scope} {dvs : List V} {kws : List (Str × V)} {f : Addr} {fd : FuncData} {N ps : List Str}
abbrev Cxd (P : Program) (w : World) (K : PySem.W.Frag) (mg : Str → Option Value) (base : Heap) (N : List Str) (qual : Str) (scope : Scope) (f : Addr) (cdv : Value) (A : Around) (outer : List Env) (s : Shared) (H : Hp) (E : XK) : Cx := cxOf (L2.CX P w) P w K mg base N qual scope f cdv A outer s H E
def WX.up (E : XK) : WX := fun c d _ H' => E c d H'
def Does (P : Program) (w : World) (K : PySem.W.Frag) (mg : Str → Option Value) (base : Heap) (T : Tb) (k : Nat) (N : List Str) (qual : Str) (scope : Scope) (body : List Stmt) (m : M Fl) : Prop :=
 ∀ (f : Addr) (cdv : Value) (A : Around) (outer : List Env) (s : Shared) (H : Hp) (E : XK), Cq (Cxd P w K mg base N qual scope f cdv A outer s H E) T (WX.up E) k → G5 (Cxd P w K mg base N qual scope f cdv A outer s H E) T (WX.up E) body m
theorem abj (S : FnScope N ps scope) {cdv : Value} {A : Around} {outer : List Env} {s : Shared} {H : Hp} {E : XK} (hr : Room k (A.deeper (PyProof.Rows.envOfC qual scope s.heap.objs.size f cdv))) : Cq (Cxd P w K mg base N qual scope f cdv A outer s H E) T (WX.up E) k :=
 ⟨rfl, S.nd, hr, takes_of rfl rfl rfl rfl, passes_of rfl⟩
theorem fn_sim (F : FunD K x qual params body scope dvs kws f fd) (S : FnScope N ps scope) {m : M Fl} (dm : Does P w K mg base T k N qual scope body m) : FnOk P w K mg base (L2.CX P w) (k + 1) f fd ps (spF K T ps.length (tR N.length m)) := by
 refine F.ok S (fun vs H Q E ⟨w, h, ds, _, rs, hl, _⟩ => rs.length.trans hl) fun cdv A outer s H vs Q E hr ⟨w, h, ds, R, rs, hl, post⟩ => ⟨Yg _ body, Dk, ?_⟩
 have hpl : ps.length ≤ N.length := by
  have := congrArg List.length S.pre
  rw [List.length_take] at this
  omega
 refine dm f cdv A outer s H E (abj S hr) (Bs.of w H) w _ H (startF N.length ds) h _ (R.start rs (by rw [hl]; exact hpl)) ?_
 unfold tR at post
 cases e : m (startF N.length ds) h with
 | ok fl fr h' =>
   rw [e] at post
   cases fl with
   | nx => exact fun w' σ' H' l R' => post w' H' .non l R'.unframe (.inl .non)
   | rt d => exact fun w' σ' H' v l R' rv => post w' H' v l R'.unframe (by
    rcases rv with rv | ⟨p, o, rfl, O, lo, eH, rd⟩
    · exact .inl rv
    · exact .inr ⟨p, o, rfl, O, fun i => Qe, eH, rd⟩)
   | brk => exact post.elim
   | ct => exact post.elim
 | exc y fr h' =>
   rw [e] at post
   exact fun w' σ' H' c dd l R' z => post w' H' c dd l R'.unframe z
 | err => rw [e] at post; exact post
theorem ae2 (c : Nat) (F : FunD K x qual params body scope dvs kws f fd) (S : FnScope N ps scope) {m : M Fl} (dm : Does P w K mg base T k N qual scope body m) : FnOk P w K mg base (L2.CX P w) (k + 1) f fd ps (spI K T c ps.length (runI c N.length m)) := by
 refine F.ok S (fun vs H Q E ⟨w, h, ds, G, x, dx, us, ev, _, _, _, rs, hl, _⟩ => by rw [ev, aiU, rs.length]; exact hl) fun cdv A outer s H vs Q E hr ⟨w, h, ds, G, x, dx, us, ev, nx, eH, R, rs, hl, post⟩ => ⟨Yg _ body, Dk, ?_⟩
 have hpl : ps.length ≤ N.length := by
  have := congrArg List.length S.pre
  rw [List.length_take] at this
  omega
 subst ev eH
 refine dm f cdv A outer s _ E (abj S hr) ⟨w, G, [], some x⟩ w _ _ (startF N.length (.no c [] :: ds)) h _ (R.ofme.startI rfl nx rs (by rw [hl]; exact hpl)) ?_
 unfold runI at post
 cases e : m (startF N.length (.no c [] :: ds)) h with
 | ok fl fr h' =>
   rw [e] at post
   cases fl with
   | nx =>
     intro w' σ' H' l R'
     dsimp only at post
     cases e0 : (fr : Fr)[0]? with
     | none => rw [e0] at post; exact post.elim
     | some od =>
       rw [e0] at post
       cases od with
       | none => exact post.elim
       | some d =>
         cases d with
         | no c' fs =>
           dsimp only at post
           by_cases hc : c' = c
           · rw [if_pos hc] at post
             subst hc
             have s0 := R'.me x _ rfl e0 rfl
             obtain ⟨v, ev, z⟩ := vm R' e0
             rw [s0] at ev
             cases ev
             cases z with
             | val r => cases r
             | own O eH r => exact post w' H' .non l R'.unframe.unme ⟨rfl, ⟨O.f, O.i, O.e, fun q hq => by cases hq⟩, _, eH, r⟩
           · rw [if_neg hc] at post
             exact post.elim
         | _ => exact post.elim
   | rt d => exact post.elim
   | brk => exact post.elim
   | ct => exact post.elim
 | exc y fr h' =>
   rw [e] at post
   exact fun w' σ' H' c dd l R' z => post w' H' c dd l R'.unframe.unme z
 | err => rw [e] at post; exact post
end
end Pk
namespace Pk
open PySem PySem.Spec L2
structure WKw (X : Cx) (kws : List Keyword) (σ : L2.St) (H : Hp) (Q : List V → Hp → Prop) : Prop where
 go : ∀ pos pins s, Inv X pins σ H s → wpAny (model X.prog X.w) X.A (evalAll ((backToKw pos (keywordEach kws X.env)).map (·.2))) (AP X pins σ Q) X.xe s
abbrev aif (X : Cx) (T : Tb) (W : WX) (kws : List Keyword) (m : M (List D)) : Prop := wF (WKw X kws) X.K T W vA m
section
variable {X : Cx} {T : Tb} {W : WX} {e : Expr} {kws : List Keyword} {m : M D} {ms : List (M D)} {nm : Option Str} {kpos : Pos}
end
def vD (fr : Fr) : R D → R D
 | .ok d _ h => .ok d fr h
 | .exc x _ h => .exc x fr h
 | .err => .err
theorem RK {K : PySem.W.Frag} {T : Tb} {B : Bs} {W : WX} {w : Wd} {σ : L2.St} {H : Hp} {fr : Fr} {h : Hh} {n : Nat} {F : Fn} {vs : List V} {ds : List D} {Q : VK} (R : Rel K T B w σ H fr h) (rs : aO K T w vs ds) (hl : ds.length = n)
 (p : bu K T B W (vE K T B σ) w σ (vD fr (F ds h)) Q) : spF K T n F vs H Q (fun c d H' => W c d σ H') := by
 refine ⟨w, h, ds, R.enter, rs, hl, ?_⟩
 cases e : F ds h with
 | ok d fr' h' =>
   rw [e] at p
   intro w' H' v l R' rv
   have ef : fr' = [] := by
    have := R'.fl
    exact List.length_eq_zero_iff.mp this
   subst ef
   have R2 := R.back l R'
   refine p w' H' v l R2 ?_
   rcases rv with rv | ⟨q, o, rfl, O, lo, eH, rd⟩
   · exact .inl rv
   · have nq : H q = none := O.e
     refine .inr ⟨q, o, rfl, ⟨O.f, O.i, (R.own_new nq).e, (R.own_new nq).p⟩, fun i z => R.loose_new nq i z, eH, rd⟩
 | exc y fr' h' =>
   rw [e] at p
   intro w' H' c dd l R' z
   have ef : fr' = [] := by
    have := R'.fl
    exact List.length_eq_zero_iff.mp this
   subst ef
   exact p w' H' c dd l (R.back l R') z
 | err => rw [e] at p; exact p
theorem ac9 {K : PySem.W.Frag} {T : Tb} {B : Bs} {W : WX} {w : Wd} {σ : L2.St} {H : Hp} {fr : Fr} {h : Hh} {n c : Nat} {F : Fn} {vs : List V} {ds : List D} {Q : VK} {x dx : Addr} (R : Rel K T B w σ H fr h) (rs : aO K T w vs ds) (hl : ds.length + 1 = n)
 (nx : H x = none) (nd : H dx = none) (ne : dx ≠ x)
 (p : bu K T B W (vE K T B σ) w σ (vD fr (F ds h)) Q) : spI K T c n F (.ref x :: vs) (upd (upd H dx (.own x)) x (.ins (T.cad c) dx [])) (fun v H2 => v = .non ∧ Q (.ref x) H2) (fun c d H' => W c d σ H') := by
 have R1 : Rel K T B w σ (upd H dx (.own x)) fr h := R.temp nd
 have nx1 : (upd H dx (.own x)) x = none := by rw [upd_ne (Ne.symm ne)]; exact nx
 refine ⟨w, h, ds, upd H dx (.own x), x, dx, vs, rfl, nx1, rfl, R1.enter, rs, hl, ?_⟩
 cases e : F ds h with
 | ok d fr' h' =>
   rw [e] at p
   intro w' H' v l R' ⟨ev, O, o, eH, rd⟩
   have ef : fr' = [] := by
    have := R'.fl
    exact List.length_eq_zero_iff.mp this
   subst ef
   exact ⟨ev, p w' H' (.ref x) l (R1.back l R') (.inr ⟨x, o, rfl, ⟨O.f, O.i, (R1.own_new nx1).e, (R1.own_new nx1).p⟩, fun i z => R1.loose_new nx1 i z, eH, rd⟩)⟩
 | exc y fr' h' =>
   rw [e] at p
   intro w' H' c dd l R' z
   have ef : fr' = [] := by
    have := R'.fl
    exact List.length_eq_zero_iff.mp this
   subst ef
   exact p w' H' c dd l (R1.back l R') z
 | err => rw [e] at p; exact p
structure Bn (K : PySem.W.Frag) (T : Tb) (fd : FuncData) (ps : List Str) (n : Nat) (ks : List Str) (gD : List D → List D → List D) : Prop where
 ex : ∃ (g : List Value → List Value → List Value) (gV : List V → List V → List V), KBn K fd ps n ks g gV ∧
  ∀ (w : Wd) (vs zs : List V) (ds es : List D), aO K T w vs ds → aO K T w zs es → ds.length = n → es.length = ks.length → aO K T w (gV vs zs) (gD ds es) ∧ (gD ds es).length = ps.length
def aK (dfl : List D) (ds _ : List D) : List D := ds ++ dfl
structure v9 (P : Program) (w : World) (K : PySem.W.Frag) (mg : Str → Option Value) (base : Heap) (T : Tb) (k : Nat) (f : Addr) (fd : FuncData) (ps : List Str) (F : Fn) : Prop where
 ok : FnOk P w K mg base (L2.CX P w) k f fd ps (spF K T ps.length F)
 kp : PySem.W.keepIn K (.ref f) = true
structure FnI (P : Program) (w : World) (K : PySem.W.Frag) (mg : Str → Option Value) (base : Heap) (T : Tb) (k c : Nat) (f : Addr) (fd : FuncData) (ps : List Str) (F : Fn) : Prop where
 ok : FnOk P w K mg base (L2.CX P w) k f fd ps (spI K T c ps.length F)
 made : Mk K (T.cad c) f
def cJ (n m : Nat) (F : Fn) (gD : List D → List D → List D) (ma mk : M (List D)) : M D := ma.bind fun ds => mk.bind fun es fr h => if ds.length = n ∧ es.length = m then vD fr (F (gD ds es) h) else .err
theorem vo {K : PySem.W.Frag} {T : Tb} {fd : FuncData} {ps : List Str} (h : Binds K fd ps []) : Bn K T fd ps ps.length [] (aK []) :=
 ⟨fun us _ => us, fun vs _ => vs, ⟨fun s us ws X l1 _ => by
  have b := h s us X (by rw [aiS]; exact l1)
  rw [aiS] at b
  exact b, fun r _ => r⟩, fun w vs zs ds es rs _ hl _ => ⟨by
   show aO K T w vs (ds ++ [])
   rw [aiS]
   exact rs, by
   show (ds ++ []).length = _
   rw [aiS]
   exact hl⟩⟩
section
variable {X : Cx} {T : Tb} {W : WX} {k kk n : Nat} {f C : Addr} {fd : FuncData} {ps ks : List Str} {F : Fn} {x m : Str} {p pos apos : Pos} {e o : Expr} {es : List Expr} {kws : List Keyword} {mo : M D} {ma mk : M (List D)} {gD : List D → List D → List D}
theorem We {pins : List (Addr × Obj)} {σ : L2.St} {H : Hp} {s : Shared} {Q : VK} {us ws : List Value} {vs zs : List V} {g : List Value → List Value → List Value} {gV : List V → List V → List V} {sp : Sp} (F : FnOk X.prog X.w X.K X.mg X.base (L2.CX X.prog X.w) kk f fd ps sp) (hr : Room kk X.A) (hb : KBn X.K fd ps n ks g gV) (tk : Takes X W)
 (I : Inv X pins σ H s) (r : Vals vs us) (rz : Vals zs ws) (l1 : vs.length = n) (l2 : zs.length = ks.length) (h : sp (gV vs zs) H Q (fun c d H' => W c d σ H')) : wpAny (model X.prog X.w) X.A (call (.ref f) us (ks.zip ws)) (EP X pins σ Q) X.xe s := by
 have r2 := hb.rel r rz
 refine wpAny_call (codeAny_mono (F.run X.A X.stack s H ⟨us, ks.zip ws⟩ (g us ws) (gV vs zs) Q _ hr I.env0 (hb.to s us ws I.kIn (r.length.symm.trans l1) (rz.length.symm.trans l2)) r2 h) fun r s' hq => ?_)
 cases r with
 | error e => exact passAt tk σ pins H s e s' I hq
 | ok fl =>
   cases fl with
   | ret u => exact I.after hq
   | next => exact False.elim hq
   | brk => exact False.elim hq
   | cont => exact False.elim hq
theorem run_mk {pins : List (Addr × Obj)} {σ : L2.St} {H : Hp} {s : Shared} {Q : VK} {us ws : List Value} {vs zs : List V} {g : List Value → List Value → List Value} {gV : List V → List V → List V} {sp : Sp} (M : Mk X.K C f) (F : FnOk X.prog X.w X.K X.mg X.base (L2.CX X.prog X.w) kk f fd ps sp) (hr : Room (kk + 1) X.A) (hb : KBn X.K fd ps (n + 1) ks g gV) (tk : Takes X W)
 (I : Inv X pins σ H s) (r : Vals vs us) (rz : Vals zs ws) (l1 : vs.length = n) (l2 : zs.length = ks.length)
 (h : ∀ x dx, H x = none → H dx = none → dx ≠ x → sp (gV (.ref x :: vs) zs) (upd (upd H dx (.own x)) x (.ins C dx [])) (fun v H2 => v = .non ∧ Q (.ref x) H2) (fun c d H' => W c d σ H')) :
 wpAny (model X.prog X.w) X.A (call (.ref C) us (ks.zip ws)) (EP X pins σ Q) X.xe s := by
 have hq := h (s.heap.objs.size + 1) s.heap.objs.size (I.hok.fresh (Nat.le_succ _)) (I.hok.fresh (Nat.le_refl _)) (Nat.ne_of_lt (Nat.lt_succ_self _))
 have I2 := Inv.made (C := C) I
 have r1 : Vals (V.ref (s.heap.objs.size + 1) :: vs) (Value.ref (s.heap.objs.size + 1) :: us) := .cons rfl r
 have r2 := hb.rel r1 rz
 have n1 : (Value.ref (s.heap.objs.size + 1) :: us).length = n + 1 := by
  rw [aiU, ← r.length, l1]
 refine wpAny_call (make_map (f := f) I.kIn M.makes M.init (beq_iff_eq.mp M.fn) (codeAny_mono (F.run _ X.stack _ _ ⟨Value.ref (s.heap.objs.size + 1) :: us, ks.zip ws⟩ (g (Value.ref (s.heap.objs.size + 1) :: us) ws) _ _ _ (hr.make C us (ks.zip ws))
  (I2.env0.make C us (ks.zip ws)) (hb.to _ (Value.ref (s.heap.objs.size + 1) :: us) ws I2.kIn n1 (rz.length.symm.trans l2)) r2 hq) fun r s' hq' => ?_))
 cases r with
 | error e => exact passAt tk σ pins _ _ e s' I2 hq'
 | ok fl =>
   cases fl with
   | ret u =>
     obtain ⟨v, H', I3, rv, ev, q3⟩ := I2.after hq'
     subst ev
     exact ⟨rv, ⟨V.ref (s.heap.objs.size + 1), H', I3, rfl, q3⟩⟩
   | next => exact False.elim hq'
   | brk => exact False.elim hq'
   | cont => exact False.elim hq'
theorem Kz {B : Bs} {w : Wd} {σ : L2.St} {H : Hp} {fr : Fr} {h : Hh} {m : Nat} {vs zs : List V} {ds es : List D} {Q : VK} {gV : List V → List V → List V} (hg : ∀ (w : Wd) (vs zs : List V) (ds es : List D), aO X.K T w vs ds → aO X.K T w zs es → ds.length = n → es.length = m → aO X.K T w (gV vs zs) (gD ds es) ∧ (gD ds es).length = ps.length)
 (R : Rel X.K T B w σ H fr h) (rs : aO X.K T w vs ds) (rz : aO X.K T w zs es) (p : bu X.K T B W (vE X.K T B σ) w σ (if ds.length = n ∧ es.length = m then vD fr (F (gD ds es) h) else .err) Q) :
 vs.length = n ∧ zs.length = m ∧ spF X.K T ps.length F (gV vs zs) H Q (fun c d H' => W c d σ H') := by
 by_cases hl : ds.length = n ∧ es.length = m
 · rw [if_pos hl] at p
   obtain ⟨r2, l2⟩ := hg w vs zs ds es rs rz hl.1 hl.2
   exact ⟨rs.length.trans hl.1, rz.length.trans hl.2, RK R r2 l2 p⟩
 · rw [if_neg hl] at p
   exact p.elim
theorem rN (C : Cq X T W k) (F0 : v9 X.prog X.w X.K X.mg X.base T kk f fd ps F) (hk : kk ≤ k) (bn : Bn X.K T fd ps n [] gD) (hm : X.mg x = some (.ref f)) (sa : CP X T W (e :: es) ma) (hg : Gl X x := by rfl) (hdb : (x == ("__debug__" : Str)) = false := by decide)
 (he : starEach (e :: es) X.env = (false, eval e X.env) :: starEach es X.env := by exact uG rfl) (hpl : (backTo pos (starEach es X.env)).any (·.1) = false := by rfl) : zQ X T W (.Call (.Name x p) (e :: es) [] pos) (cJ n 0 F gD ma (aj [])) := fun B w σ H fr h Q R pp => WE.mk <| fun pins s I => by
 obtain ⟨g, gV, hb, hgD⟩ := bn.ex
 refine wpAny_Call_Name_kw (ld_glob I hg hm ?_ hdb)
 refine PySem.W.callWith_K (h₀ := X.base) I.ok.mod.kin F0.kp (thn ((sa B w σ H fr h _ R (bu.bind (VR := vA X.K T B σ) pp fun ds fr1 h1 w1 H1 vs e1 l1 r1 rs p1 => Kz hgD r1 rs .nil p1)).go pos pins s I) fun us s1 ⟨vs, H1, I1, r, q⟩ => ⟨I1.kIn, ?_⟩) he hpl
 exact We (ws := []) F0.ok (C.room.mono hk) hb C.takes I1 r .nil q.1 rfl q.2.2
end
end Pk
namespace Pk
open PySem PySem.Spec L2
structure BnI (K : PySem.W.Frag) (T : Tb) (fd : FuncData) (ps : List Str) (n : Nat) (ks : List Str) (gD : List D → List D → List D) : Prop where
 ex : ∃ (g : List Value → List Value → List Value) (gV gW : List V → List V → List V), KBn K fd ps (n + 1) ks g gV ∧ (∀ x vs zs, vs.length = n → zs.length = ks.length → gV (x :: vs) zs = x :: gW vs zs) ∧
  ∀ (w : Wd) (vs zs : List V) (ds es : List D), aO K T w vs ds → aO K T w zs es → ds.length = n → es.length = ks.length → aO K T w (gW vs zs) (gD ds es) ∧ (gD ds es).length + 1 = ps.length
theorem aaB {K : PySem.W.Frag} {T : Tb} {fd : FuncData} {ps : List Str} (n : Nat) (h : Binds K fd ps []) (hn : n + 1 = ps.length) : BnI K T fd ps n [] (aK []) :=
 ⟨fun us _ => us, fun vs _ => vs, fun vs _ => vs, ⟨fun s us ws X l1 _ => by
  have b := h s us X (by rw [aiS, l1]; exact hn)
  rw [aiS] at b
  exact b, fun r _ => r⟩, fun _ _ _ _ _ => rfl, fun w vs zs ds es rs _ hl _ => ⟨by
   show aO K T w vs (ds ++ [])
   rw [aiS]
   exact rs, by
   show (ds ++ []).length + 1 = _
   rw [aiS, hl]
   exact hn⟩⟩
section
variable {X : Cx} {T : Tb} {W : WX} {k kk n c : Nat} {f : Addr} {fd : FuncData} {ps ks : List Str} {F : Fn} {x m : Str} {p pos apos : Pos} {e o : Expr} {es : List Expr} {kws : List Keyword} {mo : M D} {ma mk : M (List D)} {gD : List D → List D → List D}
theorem ada {B : Bs} {w : Wd} {σ : L2.St} {H : Hp} {fr : Fr} {h : Hh} {m : Nat} {vs zs : List V} {ds es : List D} {Q : VK} {gV gW : List V → List V → List V} (hv : ∀ x vs zs, vs.length = n → zs.length = m → gV (x :: vs) zs = x :: gW vs zs)
 (hg : ∀ (w : Wd) (vs zs : List V) (ds es : List D), aO X.K T w vs ds → aO X.K T w zs es → ds.length = n → es.length = m → aO X.K T w (gW vs zs) (gD ds es) ∧ (gD ds es).length + 1 = ps.length)
 (R : Rel X.K T B w σ H fr h) (rs : aO X.K T w vs ds) (rz : aO X.K T w zs es) (p : bu X.K T B W (vE X.K T B σ) w σ (if ds.length = n ∧ es.length = m then vD fr (F (gD ds es) h) else .err) Q) :
 vs.length = n ∧ zs.length = m ∧ ∀ x dx, H x = none → H dx = none → dx ≠ x → spI X.K T c ps.length F (gV (.ref x :: vs) zs) (upd (upd H dx (.own x)) x (.ins (T.cad c) dx [])) (fun v H2 => v = .non ∧ Q (.ref x) H2) (fun c d H' => W c d σ H') := by
 by_cases hl : ds.length = n ∧ es.length = m
 · rw [if_pos hl] at p
   obtain ⟨r2, l2⟩ := hg w vs zs ds es rs rz hl.1 hl.2
   refine ⟨rs.length.trans hl.1, rz.length.trans hl.2, fun x dx nx nd ne => ?_⟩
   rw [hv _ _ _ (rs.length.trans hl.1) (rz.length.trans hl.2)]
   exact ac9 R r2 l2 nx nd ne p
 · rw [if_neg hl] at p
   exact p.elim
theorem aaC (C : Cq X T W k) (F0 : FnI X.prog X.w X.K X.mg X.base T kk c f fd ps F) (hk : kk + 1 ≤ k) (bn : BnI X.K T fd ps n [] gD) (hm : X.mg x = some (.ref (T.cad c))) (sa : CP X T W (e :: es) ma) (hg : Gl X x := by rfl) (hdb : (x == ("__debug__" : Str)) = false := by decide)
 (he : starEach (e :: es) X.env = (false, eval e X.env) :: starEach es X.env := by exact uG rfl) (hpl : (backTo pos (starEach es X.env)).any (·.1) = false := by rfl) : zQ X T W (.Call (.Name x p) (e :: es) [] pos) (cJ n 0 F gD ma (aj [])) := fun B w σ H fr h Q R pp => WE.mk <| fun pins s I => by
 obtain ⟨g, gV, gW, hb, hv, hgD⟩ := bn.ex
 refine wpAny_Call_Name_kw (ld_glob I hg hm ?_ hdb)
 refine PySem.W.callWith_K (h₀ := X.base) I.ok.mod.kin F0.made.kp (thn ((sa B w σ H fr h _ R (bu.bind (VR := vA X.K T B σ) pp fun ds fr1 h1 w1 H1 vs e1 l1 r1 rs p1 => ada (c := c) hv hgD r1 rs .nil p1)).go pos pins s I) fun us s1 ⟨vs, H1, I1, r, q⟩ => ⟨I1.kIn, ?_⟩) he hpl
 exact run_mk (ws := []) F0.made F0.ok (C.room.mono hk) hb C.takes I1 r .nil q.1 rfl q.2.2
theorem G6 {α : Type} {f : Str} : ∀ {fs : List Str} {vs : List α}, f ∉ fs → (fs.zip vs).lookup f = none
 | [], _, _ => rfl
 | g :: fs, [], _ => by simp
 | g :: fs, v :: vs, h => by
   rw [List.mem_cons, not_or] at h
   show aja f ((g, v) :: fs.zip vs) = none
   rw [List.lookup_cons, beq_eq_false_iff_ne.mpr h.1]
   exact G6 h.2
structure Do (X : Cx) (T : Tb) (k : Nat) (m : Str) (mt : Nat → Option Fn) (n : Nat) (ks : List Str) (gD : List D → List D → List D) : Prop where
 ex : ∀ c F, mt c = some F → ∃ (kk : Nat) (f : Addr) (fd : FuncData) (ps : List Str), Cls X.K (T.cad c) ∧ Meth X.K (T.cad c) m f ∧ v9 X.prog X.w X.K X.mg X.base T kk f fd ps F ∧ Bn X.K T fd ps (n + 1) ks gD ∧ m ∉ T.fld c ∧ kk ≤ k
def fnOf (mt : Nat → Option Fn) (h : Hh) (o : D) : Option Fn := match o.ins h with
 | some (c, _) => mt c
 | none => none
def tX (n m : Nat) (mt : Nat → Option Fn) (gD : List D → List D → List D) (mo : M D) (ma mk : M (List D)) : M D := mo.bind fun o fr h => match fnOf mt h o with
 | some F => (cJ (n + 1) m F gD (ma.bind fun ds => M.ret (o :: ds)) mk) fr h
 | none => .err
theorem Qs {B : Bs} {w : Wd} {σ : L2.St} {H : Hp} {fr : Fr} {h : Hh} {mt : Nat → Option Fn} {v : V} {d : D} {G : Fn} (M : Do X T k m mt n ks gD) (R : Rel X.K T B w σ H fr h) (rv : rC X.K T w v d) (e : fnOf mt h d = some G) :
 ∃ (kk : Nat) (f : Addr) (fd : FuncData) (ps : List Str) (a C dx : Addr) (fs : List (Str × V)), v = .ref a ∧ H a = some (.ins C dx fs) ∧ fs.lookup m = none ∧ Cls X.K C ∧ Meth X.K C m f ∧ v9 X.prog X.w X.K X.mg X.base T kk f fd ps G ∧ Bn X.K T fd ps (n + 1) ks gD ∧ kk ≤ k := by
 unfold fnOf at e
 split at e
 · rename_i c fs ei
   obtain ⟨kk, f, fd, ps, c1, c2, c3, c4, c5, c6⟩ := M.ex c G e
   obtain ⟨a, dx, vs, rfl, eH, rs⟩ := HW R (.inl rv) ei
   exact ⟨kk, f, fd, ps, a, T.cad c, dx, _, rfl, eH, G6 c5, c1, c2, c3, c4, c6⟩
 · cases e
theorem HY {pl : Sem Bool} {mt : Nat → Option Fn} (C : Cq X T W k) (Mf : Do X T k m mt n [] gD) (so : cO X T W o mo) (sa : CP X T W (e :: es) ma)
 (hst : starEach (e :: es) X.env = (false, eval e X.env) :: starEach es X.env := by exact uG rfl) (hpl : (backTo pos (starEach es X.env)).any (·.1) = false := by rfl)
 (ht : eval (.Call (.Attribute o m apos) (e :: es) [] pos) X.env = (do
  let ov ← eval o X.env
  standAt apos.atName
  let (f, first) ← holding [ov] (getMethod ov m pl)
  callWith pos f first (backTo pos (starEach (e :: es) X.env)) (backToKw pos (keywordEach [] X.env))) := by rfl) :
 zQ X T W (.Call (.Attribute o m apos) (e :: es) [] pos) (tX n 0 mt gD mo ma (aj [])) := fun B w σ H fr h Q R pp => WE.mk <| fun pins s I => by
 refine PySem.W.methodCall_KW (pl := pl) (thn ((so B w σ H fr h (fun v H1 => ∃ (kk : Nat) (f : Addr) (fd : FuncData) (ps : List Str) (a C dx : Addr) (fs : List (Str × V)) (G : Fn), v = .ref a ∧ H1 a = some (.ins C dx fs) ∧ fs.lookup m = none ∧ Cls X.K C ∧ Meth X.K C m f ∧ v9 X.prog X.w X.K X.mg X.base T kk f fd ps G ∧ Bn X.K T fd ps (n + 1) [] gD ∧ kk ≤ k ∧
  ∀ g gV, KBn X.K fd ps (n + 1) [] g gV → (∀ (w : Wd) (vs zs : List V) (ds es : List D), aO X.K T w vs ds → aO X.K T w zs es → ds.length = n + 1 → es.length = ([] : List Str).length → aO X.K T w (gV vs zs) (gD ds es) ∧ (gD ds es).length = ps.length) →
    WA X (e :: es) σ H1 fun vs H2 => (.ref a :: vs).length = n + 1 ∧ spF X.K T ps.length G (gV (.ref a :: vs) []) H2 Q (fun c d H' => W c d σ H')) R (bu.bind (VR := vV X.K T B σ) pp fun d fr1 h1 w1 H1 v e1 l1 r1 rv p1 => ?_)).go pins s I) fun u s1 ⟨x, H1, I1, rx, kk, f, fd, ps, a, Cl, dx, fs, G, ex, ea, l, c1, c2, c3, c4, c5, q⟩ => ?_) ht
 · have p1' : bu X.K T B W (vE X.K T B σ) w1 σ (match fnOf mt h1 d with | some F => (cJ (n + 1) 0 F gD (ma.bind fun ds => M.ret (d :: ds)) (aj [])) fr1 h1 | none => .err) Q := p1
   cases ef : fnOf mt h1 d with
   | none => rw [ef] at p1'; exact p1'.elim
   | some G =>
     rw [ef] at p1'
     obtain ⟨kk, f, fd, ps, a, Cl, dx, fs, rfl, eH, l, c1, c2, c3, c4, c5⟩ := Qs Mf r1 rv ef
     refine ⟨kk, f, fd, ps, a, Cl, dx, fs, G, rfl, eH, l, c1, c2, c3, c4, c5, fun g gV hb hgD => ?_⟩
     have p2 : bu X.K T B W (vE X.K T B σ) w1 σ ((ma.bind fun ds fr h => if (d :: ds).length = n + 1 ∧ ([] : List D).length = 0 then vD fr (G (gD (d :: ds) []) h) else .err) fr1 h1) Q := by
      have ee : (cJ (n + 1) 0 G gD (ma.bind fun ds => M.ret (d :: ds)) (aj [])) fr1 h1 = (ma.bind fun ds fr h => if (d :: ds).length = n + 1 ∧ ([] : List D).length = 0 then vD fr (G (gD (d :: ds) []) h) else .err) fr1 h1 := by
       unfold cJ M.bind
       cases ma fr1 h1 <;> rfl
      rw [← ee]
      exact p1'
     refine sa B w1 σ H1 fr1 h1 _ r1 (bu.bind (VR := vA X.K T B σ) p2 fun ds fr2 h2 w2 H2 vs e2 l2 r2 rs p3 => ?_)
     have q := Kz (n := n + 1) (m := 0) (zs := []) (es := []) hgD r2 (.cons (rv.mono l2) rs) .nil p3
     exact ⟨q.1, q.2.2⟩
 · subst ex
   obtain rfl : u = Value.ref a := rx
   obtain ⟨g, gV, hb, hgD⟩ := c4.ex
   refine getmeth_ok I1 ea c1 c2 l ?_
   refine PySem.W.callWith_K (first := [.ref a]) (h₀ := X.base) I.ok.mod.kin c2.kp (thn ((q g gV hb hgD).go pos pins s1 I1) fun us s2 ⟨vs, H2, I2, r, q2⟩ => ⟨I2.kIn, ?_⟩) hst hpl
   exact We (us := .ref a :: us) (ws := []) (vs := .ref a :: vs) c3.ok (C.room.mono c5) hb C.takes I2 (.cons rfl r) .nil q2.1 rfl q2.2
theorem xr {pl : Sem Bool} {mt : Nat → Option Fn} (C : Cq X T W k) (Mf : Do X T k m mt 0 [] gD) (so : cO X T W o mo)
 (ht : eval (.Call (.Attribute o m apos) [] [] pos) X.env = (do
  let ov ← eval o X.env
  standAt apos.atName
  let (f, first) ← holding [ov] (getMethod ov m pl)
  callWith pos f first (backTo pos (starEach [] X.env)) (backToKw pos (keywordEach [] X.env))) := by rfl) :
 zQ X T W (.Call (.Attribute o m apos) [] [] pos) (tX 0 0 mt gD mo (aj []) (aj [])) := fun B w σ H fr h Q R pp => WE.mk <| fun pins s I => by
 refine PySem.W.methodCall_KW (pl := pl) (thn ((so B w σ H fr h (fun v H1 => ∃ (kk : Nat) (f : Addr) (fd : FuncData) (ps : List Str) (a C dx : Addr) (fs : List (Str × V)) (G : Fn), v = .ref a ∧ H1 a = some (.ins C dx fs) ∧ fs.lookup m = none ∧ Cls X.K C ∧ Meth X.K C m f ∧ v9 X.prog X.w X.K X.mg X.base T kk f fd ps G ∧ Bn X.K T fd ps (0 + 1) [] gD ∧ kk ≤ k ∧
  ∀ g gV, KBn X.K fd ps (0 + 1) [] g gV → (∀ (w : Wd) (vs zs : List V) (ds es : List D), aO X.K T w vs ds → aO X.K T w zs es → ds.length = 0 + 1 → es.length = ([] : List Str).length → aO X.K T w (gV vs zs) (gD ds es) ∧ (gD ds es).length = ps.length) →
    spF X.K T ps.length G (gV [.ref a] []) H1 Q (fun c d H' => W c d σ H')) R (bu.bind (VR := vV X.K T B σ) pp fun d fr1 h1 w1 H1 v e1 l1 r1 rv p1 => ?_)).go pins s I) fun u s1 ⟨x, H1, I1, rx, kk, f, fd, ps, a, Cl, dx, fs, G, ex, ea, l, c1, c2, c3, c4, c5, q⟩ => ?_) ht
 · have p1' : bu X.K T B W (vE X.K T B σ) w1 σ (match fnOf mt h1 d with | some F => (cJ (0 + 1) 0 F gD ((aj []).bind fun ds => M.ret (d :: ds)) (aj [])) fr1 h1 | none => .err) Q := p1
   cases ef : fnOf mt h1 d with
   | none => rw [ef] at p1'; exact p1'.elim
   | some G =>
     rw [ef] at p1'
     obtain ⟨kk, f, fd, ps, a, Cl, dx, fs, rfl, eH, l, c1, c2, c3, c4, c5⟩ := Qs Mf r1 rv ef
     refine ⟨kk, f, fd, ps, a, Cl, dx, fs, G, rfl, eH, l, c1, c2, c3, c4, c5, fun g gV hb hgD => ?_⟩
     exact (Kz (n := 0 + 1) (m := 0) (zs := []) (es := []) (ds := [d]) hgD r1 (.cons rv .nil) .nil p1').2.2
 · subst ex
   obtain rfl : u = Value.ref a := rx
   obtain ⟨g, gV, hb, hgD⟩ := c4.ex
   refine getmeth_ok I1 ea c1 c2 l ?_
   exact PySem.W.callWith_K0 (first := [.ref a]) I1.kIn c2.kp (We (us := [.ref a]) (ws := []) (vs := [.ref a]) c3.ok (C.room.mono c5) hb C.takes I1 (.cons rfl .nil) .nil rfl rfl (q g gV hb hgD))
structure aeB (X : Cx) (T : Tb) (k : Nat) (m : Str) (mt : Nat → Option Fn) : Prop where
 ex : ∀ c F, mt c = some F → ∃ (kk : Nat) (pa f : Addr) (fd : FuncData) (ps : List Str), Cls X.K (T.cad c) ∧ PropOf X.K (T.cad c) m pa f ∧ v9 X.prog X.w X.K X.mg X.base T kk f fd ps F ∧ Binds X.K fd ps [] ∧ ps.length = 1 ∧ kk + 1 ≤ k
def LR (mt : Nat → Option Fn) (mo : M D) : M D := mo.bind fun o fr h => match fnOf mt h o with
 | some F => match F [o] h with
   | .ok d _ h => .ok d fr h
   | _ => .err
 | none => .err
theorem aad {X : Cx} : Passes (L2.CX X.prog X.w) X.nox (fun _ _ _ => False) := fun pins σ H s e s' I c => by
 obtain ⟨a, B, H', cls, d, rfl, fl, hok, ub, na, os, ag, hE⟩ := c
 exact hE.elim
theorem aaD {mt : Nat → Option Fn} (C : Cq X T W k) (M : aeB X T k m mt) (so : cO X T W o mo) (hab : attributeBase o m X.env (eval o X.env) = eval o X.env := by rfl) : zQ X T W (.Attribute o m pos) (LR mt mo) := fun B w σ H fr h Q R pp => WE.mk <| fun pins s I => by
 refine attr_of hab (thn ((so B w σ H fr h (fun v H1 => ∃ (kk : Nat) (pa f : Addr) (fd : FuncData) (ps : List Str) (a C dx : Addr) (fs : List (Str × V)) (G : Fn), v = .ref a ∧ H1 a = some (.ins C dx fs) ∧ Cls X.K C ∧ PropOf X.K C m pa f ∧ v9 X.prog X.w X.K X.mg X.base T kk f fd ps G ∧ Binds X.K fd ps [] ∧ kk + 1 ≤ k ∧ spF X.K T ps.length G [.ref a] H1 Q (fun _ _ _ => False))
  R (bu.bind (VR := vV X.K T B σ) pp fun d fr1 h1 w1 H1 v e1 l1 r1 rv p1 => ?_)).go pins s I) fun u s1 ⟨x, H1, I1, rx, kk, pa, f, fd, ps, a, Cl, dx, fs, G, ex, ea, c1, c2, c3, c4, c5, q⟩ => ?_)
 · have p1' : bu X.K T B W (vE X.K T B σ) w1 σ (match fnOf mt h1 d with | some F => (match F [d] h1 with | .ok d _ h => .ok d fr1 h | _ => .err) | none => .err) Q := p1
   cases ef : fnOf mt h1 d with
   | none => rw [ef] at p1'; exact p1'.elim
   | some G =>
     rw [ef] at p1'
     have ei : ∃ c fs, d.ins h1 = some (c, fs) ∧ mt c = some G := by
      unfold fnOf at ef
      split at ef
      · rename_i c fs ei
        exact ⟨c, fs, ei, ef⟩
      · cases ef
     obtain ⟨c, fs, ei, em⟩ := ei
     obtain ⟨kk, pa, f, fd, ps, c1, c2, c3, c4, c5, c6⟩ := M.ex c G em
     obtain ⟨a, dx, vs, rfl, eH, rs⟩ := HW r1 (.inl rv) ei
     refine ⟨kk, pa, f, fd, ps, a, T.cad c, dx, _, G, rfl, eH, c1, c2, c3, c4, c6, ?_⟩
     have z := RK (W := WF) (n := ps.length) (F := G) (Q := Q) r1 (.cons rv .nil) (show [d].length = ps.length from c5.symm) (by
      dsimp only at p1'
      cases e : G [d] h1 with
      | ok d' fr' h' => rw [e] at p1'; exact p1'
      | exc _ _ _ => rw [e] at p1'; exact p1'.elim
      | err => rw [e] at p1'; exact p1'.elim)
     exact z
 · subst ex
   obtain rfl : u = Value.ref a := rx
   exact getprop_ok (dvs := []) I1 ea c1 c2 c3.ok (C.room.mono c5) c4 .nil aad q
end
end Pk
namespace Pk
open PySem PySem.Spec L2
section
variable {X : Cx} {T : Tb} {W : WX} {k c : Nat} {x : Str} {pos : Pos}
theorem acx (hm : X.mg x = some (.ref (T.cad c))) (hg : Gl X x := by rfl) (hd : (x == ("__debug__" : Str)) = false := by decide) : cO X T W (.Name x pos) (mC (.cls c)) := fun B w σ H fr h Q r p =>
 uP (pe_glob (v := .ref (T.cad c)) hg hm rfl hd) (p w H _ (Wd.le_refl _) r (.cls c))
theorem ag8 {t : String} (hm : X.mg x = none) (hg : Gl X x := by rfl) (hv : bootBuiltins x = some (.type t) := by decide +kernel) (hn : x ≠ "__name__" := by decide) (hd : (x == ("__debug__" : Str)) = false := by decide) : cO X T W (.Name x pos) (mC (.ty t)) := fun B w σ H fr h Q r p =>
 uP (pe_bltn (v := .ty t) hg hm hv rfl hn hd) (p w H _ (Wd.le_refl _) r (.ty t))
structure Qt (X : Cx) (T : Tb) (x : Str) (d : D) : Prop where
 ex : ∃ (u : Value) (v : V), X.mg x = some u ∧ RelV v u ∧ rC X.K T ⟨fun _ => none, []⟩ v d
theorem Wd.le_bot (w : Wd) : Wd.le ⟨fun _ => none, []⟩ w := by
 refine ⟨fun a o q => ?_, w.I, rfl⟩
 have q' : (none : Option HO) = some o := q
 cases q'
theorem Jv {d : D} (F : Qt X T x d) (hg : Gl X x := by rfl) (hd : (x == ("__debug__" : Str)) = false := by decide) : cO X T W (.Name x pos) (mC d) := fun B w σ H fr h Q r p => by
 obtain ⟨u, v, hm, ru, rd⟩ := F.ex
 exact uP (pe_glob hg hm ru hd) (p w H _ (Wd.le_refl _) r (rd.mono (Wd.le_bot w)))
end
inductive Tg where
 | b (t : String) | o (c : Nat)
 deriving DecidableEq
def Tg.v (T : Tb) : Tg → Value
 | .b t => .type t
 | .o c => .ref (T.cad c)
def D.tag (h : Hh) (d : D) : Option Tg := match d.der h with
 | .non => some (.b "NoneType")
 | .bl _ => some (.b "bool")
 | .int _ => some (.b "int")
 | .str _ => some (.b "str")
 | .tup _ => some (.b "tuple")
 | .fl _ => some (.b "list")
 | .nl _ => some (.b "list")
 | .kl _ => some (.b "list")
 | .obj c _ => some (.o c)
 | .no c _ => some (.o c)
 | _ => none
def D.ctag : D → Option Tg
 | .ty t => some (.b t)
 | .cls c => some (.o c)
 | _ => none
structure abk (K : PySem.W.Frag) (C : Addr) : Prop where
 cls : Cls K C
 ha : PySem.W.findIn K (.ref C) "__class__" = some (some (.builtin "object.__class__"))
 hn : PySem.W.specialIn K (.builtin "object.__class__") "__get__" = some (some (.builtin "getset_descriptor.__get__"))
 htk : PySem.W.takesIn K (.builtin "object.__class__") = some true
 hm : PySem.W.mroIn K C (.type "object") = some true
structure Wf (K : PySem.W.Frag) (T : Tb) (tab : Tg → Tg → Option Bool) : Prop where
 kit : ∀ t u b, tab t u = some b → PySem.W.kitOne K (t.v T) (u.v T) = some b
 ins : ∀ c u b, tab (.o c) u = some b → abk K (T.cad c)
def JN : List String := ["NoneType", "bool", "int", "str", "tuple", "list"]
def YC (a b : String) : Option Bool := if JN.contains a && JN.contains b then some (a == b || (a == "bool" && b == "int")) else none
theorem ae3 : ∀ a b r, YC a b = some r → kitB a b = some r := by
 have key : ∀ a ∈ JN, ∀ b ∈ JN, kitB a b = YC a b := by decide +kernel
 intro a b r h
 unfold YC at h
 split at h
 · rename_i hh
   obtain ⟨h1, h2⟩ := Bool.and_eq_true_iff.mp hh
   rw [key a (List.contains_iff_mem.mp h1) b (List.contains_iff_mem.mp h2)]
   unfold YC
   rw [if_pos hh]
   exact h
 · cases h
def Ma : List D → Option (List Tg)
 | [] => some []
 | d :: ds => match d.ctag, Ma ds with
   | some u, some us => some (u :: us)
   | _, _ => none
def KC (tab : Tg → Tg → Option Bool) (t : Tg) : List Tg → Option Bool
 | [] => some false
 | u :: us => match tab t u with
   | some true => some true
   | some false => KC tab t us
   | none => none
def KD (tab : Tg → Tg → Option Bool) (h : Hh) (d c : D) : Option D := match d.tag h with
 | some t => match c with
   | .tup l => match Ma l with
     | some (u :: us) => (KC tab t (u :: us)).map .bl
     | _ => none
   | c => match c.ctag with
     | some u => (tab t u).map .bl
     | none => none
 | none => none
section
variable {X : Cx} {T : Tb} {W : WX} {k : Nat} {pos pf : Pos} {a b : Expr} {ma mb : M D} {tab : Tg → Tg → Option Bool}
theorem Ud {K : PySem.W.Frag} {w : Wd} {v : V} {d : D} {u : Tg} (r : rC K T w v d) (e : d.ctag = some u) : ClsV v (u.v T) := by
 cases r <;> cases e
 · exact .own _
 · exact .ty _
theorem Nt {K : PySem.W.Frag} {B : Bs} {w : Wd} {σ : L2.St} {H : Hp} {fr : Fr} {h : Hh} {v : V} {d : D} {t u : Tg} {bb : Bool} (F : Wf K T tab) (R : Rel K T B w σ H fr h) (rv : vO K T B σ w H fr v d) (e : d.tag h = some t) (e2 : tab t u = some bb) : TyX K H v (t.v T) := by
 have sqT : ∀ {a : Addr} {vs : List V}, SqT K H a vs → TyX K H (.ref a) (.type "tuple") := fun {a vs} q => by
  rcases q with (q | ⟨o, q⟩) | ⟨o, its, n, q1, q2, _⟩
  · exact .base (.tup q)
  · exact .fTuple q
  · exact .kTuple q1 q2
 have sqL : ∀ {a : Addr} {vs : List V}, SqL K H a vs → TyX K H (.ref a) (.type "list") := fun {a vs} q => by
  rcases q with (q | ⟨o, q⟩) | ⟨o, its, n, q1, q2, _⟩
  · exact .base (.lst q)
  · exact .base (.frz q)
  · exact .kList q1 q2
 have ins : ∀ {c : Nat} {a dx : Addr} {fs : List (Str × V)}, tab (.o c) u = some bb → H a = some (.ins (T.cad c) dx fs) → TyX K H (.ref a) (.ref (T.cad c)) := fun {c a dx fs} q eH => by
  have i := F.ins c u bb q
  exact .base (.ins eH i.cls i.ha i.hn i.htk i.hm)
 rcases rv with rv | ⟨p, o, rfl, eH, rv⟩
 · cases rv with
   | non => cases e; exact .base .non
   | bl b => cases e; exact .base (.bl b)
   | int i => cases e; exact .base (.int i)
   | str s => cases e; exact .base (.str s)
   | tup s r => cases e; exact sqT (wN R.sub s)
   | fl s r => cases e; exact .base (.lst (R.sub _ _ s))
   | kl s r => cases e; exact sqL (Ba R.sub s)
   | obj s r => cases e; exact ins e2 (R.sub _ _ s)
   | @ref a n s =>
     have ln : n < h.length := by
      rw [← R.len]
      exact (List.getElem?_eq_some_iff.mp s).1
     obtain ⟨o, q, rr⟩ := R.cel n a h[n] s (ai9 ln)
     have e0 : D.der h (.ref n) = h[n] := by
      unfold D.der
      dsimp only
      rw [ai9 ln]
      rfl
     unfold D.tag at e
     rw [e0] at e
     generalize h[n] = cc at rr e
     cases rr with
     | lst r => cases e; exact .base (.lst q)
     | obj r => cases e; exact ins e2 q
     | dct _ r => cases e
   | cls _ => cases e
   | ty _ => cases e
   | sl _ => cases e
 · cases rv with
   | lst r => cases e; exact .base (.lst eH)
   | obj r => cases e; exact ins e2 eH
theorem Qu {K : PySem.W.Frag} {w : Wd} : ∀ {vs : List V} {ds : List D} {us : List Tg}, aO K T w vs ds → Ma ds = some us → Paired ClsV vs (us.map (Tg.v T))
 | _, _, _, .nil, e => by cases e; exact .nil
 | _, _, _, @aO.cons _ _ _ v d vs ds r rr, e => by
   unfold Ma at e
   cases e1 : d.ctag with
   | none => rw [e1] at e; cases e
   | some u =>
     cases e2 : Ma ds with
     | none => rw [e1, e2] at e; cases e
     | some us =>
       rw [e1, e2] at e
       cases e
       exact .cons (Ud r e1) (Qu rr e2)
theorem Om {K : PySem.W.Frag} {t : Tg} {bb : Bool} (F : Wf K T tab) : ∀ {us : List Tg}, KC tab t us = some bb → PySem.W.kitAny K (t.v T) (us.map (Tg.v T)) = some bb
 | [], e => by cases e; exact kitAny_nil
 | u :: us, e => by
   unfold KC at e
   cases et : tab t u with
   | none => rw [et] at e; cases e
   | some b1 =>
     rw [et] at e
     cases b1 with
     | false => exact kitAny_cons (F.kit t u false et) (fun _ => Om F e) (fun z => by cases z)
     | true =>
       cases e
       exact kitAny_cons (F.kit t u true et) (fun z => by cases z) (fun _ => rfl)
theorem Tw {t : Tg} {bb : Bool} {us : List Tg} (e : KC tab t us = some bb) : us = [] ∨ ∃ u b, tab t u = some b := by
 cases us with
 | nil => exact .inl rfl
 | cons u us =>
   right
   unfold KC at e
   cases et : tab t u with
   | none => rw [et] at e; cases e
   | some b => exact ⟨u, b, et⟩
theorem Xg : CallR X (.builtin "isinstance") (fun xs H Q => ∃ (x : V) (tp : Addr) (cs : List V) (t : Value) (us : List Value) (b : Bool), xs = [x, .ref tp] ∧ SqT X.K H tp cs ∧ Paired ClsV cs us ∧ TyX X.K H x t ∧ PySem.W.kitAny X.K t us = some b ∧ Q (.bl b) H) := by
 intro pins s σ H xs us Q I r h
 obtain ⟨x, tp, cs, t, ws, b, rfl, hT, k, ty, e, q⟩ := h
 obtain ⟨u1, u2, rfl, r1, r2⟩ := vals2 r
 cases (show u2 = Value.ref tp from r2)
 obtain ⟨P, Z, p, hx⟩ := kit_of I r1 ty
 obtain ⟨its, rv, pl, _⟩ := I.tuple hT
 obtain ⟨o, h1, h2, n, h3⟩ := pl
 have e3 := ClsV.all k rv
 subst e3
 obtain ⟨oc, od, dt, sl⟩ := o
 simp only at h2 h3
 subst h2 h3
 exact PySem.W.kia_tup Z I.kIn p h1 e hx fun tk => ⟨.bl b, H, I.tok tk, rfl, q⟩
theorem acy (F : Wf X.K T tab) (sa : cO X T W a ma) (sb : cO X T W b mb) (hm : X.mg "isinstance" = none) (hg : Gl X "isinstance" := by rfl) (he : starEach (a :: b :: []) X.env = (false, eval a X.env) :: starEach (b :: []) X.env := by exact uG rfl) (he2 : starEach (b :: []) X.env = (false, eval b X.env) :: starEach [] X.env := by exact uG rfl)
 (hpl : (backTo pos (starEach (b :: []) X.env)).any (·.1) = false := by rfl) : cO X T W (.Call (.Name "isinstance" pf) [a, b] [] pos) (bf (KD tab) ma mb) :=
 ac8 (id := "isinstance") sa sb (fun B w σ H fr h x y d e z Q R rx ry q kk => by
  have ry : rC X.K T w y e := ry
  unfold KD at q
  cases et : d.tag h with
  | none => rw [et] at q; cases q
  | some t =>
    rw [et] at q
    have one : ∀ u, e.ctag = some u → (tab t u).map D.bl = some z → cM X (.builtin "isinstance") [x, y] H Q := fun u ec eq => by
     obtain ⟨bb, eb, rfl⟩ := Option.map_eq_some_iff.mp eq
     exact yD call_isi ⟨x, y, t.v T, u.v T, bb, rfl, Ud ry ec, Nt F R (.inl rx) et eb, F.kit t u bb eb, kk w H _ (Wd.le_refl _) R (.bl bb)⟩
    cases e with
    | tup l =>
      dsimp only at q
      cases ec : Ma l with
      | none => rw [ec] at q; cases q
      | some us =>
        rw [ec] at q
        cases us with
        | nil => cases q
        | cons u us =>
          obtain ⟨bb, eb, rfl⟩ := Option.map_eq_some_iff.mp q
          obtain ⟨p, vs, rfl, sq, rs⟩ := Kc ry
          have ty : TyX X.K H x (t.v T) := by
           rcases Tw eb with z | ⟨u', b', z⟩
           · cases z
           · exact Nt F R (.inl rx) et z
          exact yD Xg ⟨x, p, vs, t.v T, (u :: us).map (Tg.v T), bb, rfl, wN R.sub sq, Qu rs ec, ty, Om F eb, kk w H _ (Wd.le_refl _) R (.bl bb)⟩
    | cls c => exact one _ rfl q
    | ty t => exact one _ rfl q
    | _ => cases q) hm hg (by decide +kernel) (by decide) (by decide) he he2 hpl
end
end Pk
namespace Pk
open PySem PySem.Spec L2
structure PD where
 adr : PySem.W.Frag → Addr
 name : Str
 qual : Str
 params : Arguments
 body : List Stmt
 scope : Scope
 dfl : List He.Dv
 kwd : List (Str × He.Dv)
 /-- an __init__ that says super() -/
 clo : Bool
def YD (K : PySem.W.Frag) (a : Addr) : He.FnW := match K.lookup a with
 | some ⟨_, _, .func fd, _⟩ => some (fd.name, fd.qualname, fd.params, fd.body, fd.scope, fd.globals, fd.closure.map (fun q => (q.1, 0)), fd.builtins)
 | _ => none
def PD.val (d : PD) : He.FnW := some (d.name, d.qual, d.params, .stmts d.body, d.scope, mainGlobals, if d.clo then [("__class__", 0)] else [], builtinsNs)
def PD.dvs (K : PySem.W.Frag) (d : PD) : List V := d.dfl.map (He.Dv.v K)
def PD.kws (K : PySem.W.Frag) (d : PD) : List (Str × V) := d.kwd.map fun q => (q.1, q.2.v K)
def PD.ok (K : PySem.W.Frag) (d : PD) : Bool := PySem.W.keepIn K (.ref (d.adr K)) && (match K.lookup (d.adr K) with
 | some ⟨_, _, .func fd, _⟩ => PySem.W.codeIn K fd.code d.qual && (He.dflB K fd.defaults (d.dvs K) && He.kwdB K fd.kwdefaults (d.kws K))
 | _ => false)
theorem PD.funD {K : PySem.W.Frag} {d : PD} (hc : d.clo = false) (e : YD K (d.adr K) = d.val) (c : d.ok K = true) : ∃ fd, FunD K d.name d.qual d.params d.body d.scope (d.dvs K) (d.kws K) (d.adr K) fd := by
 obtain ⟨kp, c2⟩ := He.ba c
 unfold YD at e
 cases q : K.lookup (d.adr K) with
 | none =>
   rw [q] at c2
   cases c2
 | some o =>
   obtain ⟨oc, od, dt, osl⟩ := o
   rw [q] at c2 e
   cases dt with
   | func fd =>
     obtain ⟨n1, n2, n3, n4, n5, n6, n7, n8, n9, n10, n11, n12, n13, n14, n15⟩ := fd
     unfold PD.val at e
     rw [hc] at e
     have e2 : (some (n1, n2, n3, n4, n5, n6, n7.map (fun q => (q.1, 0)), n15) : He.FnW) = some (d.name, d.qual, d.params, .stmts d.body, d.scope, mainGlobals, [], builtinsNs) := e
     simp only [Option.some.injEq, Prod.mk.injEq, List.map_eq_nil_iff] at e2
     obtain ⟨h1, h2, h3, h4, h5, h6, h7, h8⟩ := e2
     subst h1 h2 h3 h4 h5 h6 h7 h8
     have c3 : (PySem.W.codeIn K n13 d.qual && (He.dflB K n8 (d.dvs K) && He.kwdB K n9 (d.kws K))) = true := c2
     obtain ⟨k1, k2⟩ := He.ba c3
     obtain ⟨k3, k4⟩ := He.ba k2
     exact ⟨_, ⟨oc, od, n8, n9, n10, n11, n12, n13, n14, osl, rfl, q, k1, He.dflB_ok k3, He.kwdB_ok k4⟩, kp⟩
   | _ => cases c2
def pgA (K : PySem.W.Frag) (C : Addr) (f : Str) : Addr := match PySem.W.findIn K (.ref C) f with
 | some (some (.ref p)) => (match PySem.W.recIn K p "property" with
   | some (.ref g :: _) => g
   | _ => 0)
 | _ => 0
def kwA (a : PySem.W.Frag → Addr) (x : Str) (K : PySem.W.Frag) : Addr := match K.lookup (a K) with
 | some ⟨_, _, .func fd, _⟩ => (match fd.kwdefaults with
   | .ref d => (match PySem.W.nsIn K d x with
     | some (some (.ref b)) => b
     | _ => 0)
   | _ => 0)
 | _ => 0
def dfA (a : PySem.W.Frag → Addr) (i : Nat) (K : PySem.W.Frag) : Addr := match K.lookup (a K) with
 | some ⟨_, _, .func fd, _⟩ => (match fd.defaults with
   | .ref T => (match K.lookup T with
     | some ⟨_, _, .seq its _, _⟩ => (match its.toList[i]? with
       | some (.ref b) => b
       | _ => 0)
     | _ => 0)
   | _ => 0)
 | _ => 0
def abl (K : PySem.W.Frag) (a : Addr) (vs : List He.Dv) : Bool := match K.lookup a with
 | some ⟨.type c, _, .seq its _, _⟩ => decide (c = "tuple") && (decide (its.size ≤ sizeLine) && He.relAll (vs.map (He.Dv.v K)) its.toList)
 | _ => false
theorem RL {K : PySem.W.Frag} {a : Addr} {vs : List He.Dv} (h : abl K a vs = true) (H : Hp) : SqT K H a (vs.map (He.Dv.v K)) := by
 unfold abl at h
 cases q : K.lookup a with
 | none =>
   rw [q] at h
   cases h
 | some o =>
   obtain ⟨oc, od, dt, osl⟩ := o
   rw [q] at h
   cases oc with
   | type c =>
     cases dt with
     | seq its n =>
       obtain ⟨h1, h2⟩ := He.ba (show (decide (c = "tuple") && (decide (its.size ≤ sizeLine) && He.relAll (vs.map (He.Dv.v K)) its.toList)) = true from h)
       obtain ⟨h3, h4⟩ := He.ba h2
       exact .inr ⟨_, its, n, q, congrArg Value.type (of_decide_eq_true h1), rfl, of_decide_eq_true h3, He.relAll_ok h4⟩
     | _ => cases h
   | _ => cases dt <;> cases h
inductive Fx where
 | he (f : He.Fa)
 | prop (x f : Str)
 | ins (x : Str)
 | kit (t u : Tg) (b : Bool)
 | tup (a : PySem.W.Frag → Addr) (vs : List He.Dv)
 | slf (x : Str)
 /-- an own error class whose __init__ says super(): its fields, the file -/
 | own (x file : Str) (fs : List Str)
 /-- an error class as isinstance wants it -/
 | exi (x : Str)
 /-- a class that is no kind of number -/
 | nsb (x : Str)
 /-- anything else that is to be seen -/
 | raw (p : PySem.W.Frag → Bool)
def Tbo (cn : Nat → Str) (fld : Nat → List Str) (K : PySem.W.Frag) : Tb := ⟨fun c => He.ga K (cn c), fld⟩
def ahC (K : PySem.W.Frag) (C : Addr) : Bool := match K.lookup C with
 | some ⟨.type "type", _, .cls cd, sl⟩ => (match cd.mro, sl.toList with
   | .ref C' :: bm, [_, _, _, _, some (.builtin n), _] => C' == C && (n == "ValueError.__new__" && (!cd.hasDel && (cd.hasDict && (PySem.HandSPX.refsVE bm && He.eqO (PySem.W.alongIn K "__init__" bm) (some (some (.builtin "ValueError.__init__")))))))
   | _, _ => false)
 | _ => false
def ahD (K : PySem.W.Frag) (C f : Addr) (file : Str) : Bool := match K.lookup f with
 | some ⟨_, _, .func fd, _⟩ => (match fd.closure, fd.defaults, fd.code with
   | [(_, cc)], .none, .ref cda => (match K.lookup cc with
       | some ⟨_, _, .cell (some (.ref a)), _⟩ => decide (a = C)
       | _ => false) && (PySem.W.codeIn K (.ref cda) fd.qualname && (match K.lookup cda with
       | some ⟨_, _, Data.fields vs, _⟩ => (match (vs[2]? : Option Value) with
         | some (.str fi _) => decide (fi = file)
         | _ => false)
       | _ => false))
   | _, _, _ => false)
 | _ => false
def ahE (K : PySem.W.Frag) (C f : Addr) (file : Str) (fs : List Str) : Bool :=
 ahC K C && (He.eqO (PySem.W.findIn K (.ref C) "__setattr__") (some (some (.builtin "object.__setattr__"))) && (He.eqO (PySem.W.findIn K (.ref C) "__init__") (some (some (.ref f))) && (decide (PySem.W.typeIn K (.ref f) = some (.type "function")) &&
  (decide (PySem.W.subIn K (.ref C) (.type "ValueError") = some true) && (decide (PySem.W.mroIn K C (.ref C) = some true) && (He.eqO (PySem.W.nsIn K cStatics "thirdparty.any") (some none) && (ahD K C f file && (fs.all (fun y => He.eqO (PySem.W.findIn K (.ref C) y) (some none)) &&
  (PySem.W.keepIn K (.ref C) && (decide (PySem.W.subIn K (.ref C) (.type "BaseException") = some true) && (decide (PySem.W.typeIn K (.ref C) = some (.type "type")) && (He.eqO (PySem.W.findIn K (.ref C) "__getattribute__") (some (some (.builtin "BaseException.__getattribute__"))) &&
  (He.eqO (PySem.W.findIn K (.ref C) "__getattr__") (some none) && PySem.W.hasDictIn K C)))))))))))))
def ahF (K : PySem.W.Frag) (C : Addr) : Bool :=
 He.eqO (PySem.W.findIn K (.ref C) "__getattribute__") (some (some (.builtin "BaseException.__getattribute__"))) && (He.eqO (PySem.W.findIn K (.ref C) "__getattr__") (some none) && (decide (PySem.W.subIn K (.ref C) (.type "BaseException") = some true) && (PySem.W.hasDictIn K C &&
  (He.eqO (PySem.W.findIn K (.ref C) "__class__") (some (some (.builtin "object.__class__"))) && (He.eqO (PySem.W.specialIn K (.builtin "object.__class__") "__get__") (some (some (.builtin "getset_descriptor.__get__"))) && (decide (PySem.W.takesIn K (.builtin "object.__class__") = some true) && decide (PySem.W.mroIn K C (.type "object") = some true)))))))
def Fx.ok (cn : Nat → Str) (K : PySem.W.Frag) : Fx → Bool
 | .he f => f.ok K
 | .prop x f => He.eqO (PySem.W.findIn K (.ref (He.ga K x)) f) (some (some (.ref (He.ma K (He.ga K x) f)))) && (He.eqO (PySem.W.specialIn K (.ref (He.ma K (He.ga K x) f)) "__get__") (some (some (.builtin "property.__get__"))) &&
  (decide (PySem.W.takesIn K (.ref (He.ma K (He.ga K x) f)) = some true) && (match PySem.W.recIn K (He.ma K (He.ga K x) f) "property" with
   | some (.ref g :: _) => decide (g = pgA K (He.ga K x) f)
   | _ => false)))
 | .ins x => (He.Fa.cls x).ok K && (He.eqO (PySem.W.findIn K (.ref (He.ga K x)) "__class__") (some (some (.builtin "object.__class__"))) && (He.eqO (PySem.W.specialIn K (.builtin "object.__class__") "__get__") (some (some (.builtin "getset_descriptor.__get__"))) &&
  (decide (PySem.W.takesIn K (.builtin "object.__class__") = some true) && decide (PySem.W.mroIn K (He.ga K x) (.type "object") = some true))))
 | .kit t u b => decide (PySem.W.kitOne K (t.v (Tbo cn (fun _ => []) K)) (u.v (Tbo cn (fun _ => []) K)) = some b)
 | .tup a vs => abl K (a K) vs
 | .slf x => PySem.W.selfFirst K (He.ga K x)
 | .nsb x => decide (PySem.W.subIn K (.ref (He.ga K x)) (.type "int") = some false) && decide (PySem.W.subIn K (.ref (He.ga K x)) (.type "bool") = some false)
 | .exi x => ahF K (He.ga K x)
 | .raw p => p K
 | .own x file fs => ahE K (He.ga K x) (He.ma K (He.ga K x) "__init__") file fs
section
variable {K : PySem.W.Frag} {cn : Nat → Str} {fld : Nat → List Str}
theorem YF {p : PySem.W.Frag → Bool} (c : (Fx.raw p).ok cn K = true) : p K = true := c
theorem ae4 {x f : Str} (c : (Fx.prop x f).ok cn K = true) : PropOf K (He.ga K x) f (He.ma K (He.ga K x) f) (pgA K (He.ga K x) f) := by
 obtain ⟨c1, c⟩ := He.ba c
 obtain ⟨c2, c⟩ := He.ba c
 obtain ⟨c3, c4⟩ := He.ba c
 refine ⟨He.eqO_ok c1, He.eqO_ok c2, of_decide_eq_true c3, ?_⟩
 split at c4
 · rename_i g rest e
   rw [e, of_decide_eq_true c4]
   exact ⟨rest, rfl⟩
 · cases c4
theorem BZ {x : Str} (c : (Fx.ins x).ok cn K = true) : abk K (He.ga K x) := by
 obtain ⟨c1, c⟩ := He.ba c
 obtain ⟨c2, c⟩ := He.ba c
 obtain ⟨c3, c⟩ := He.ba c
 obtain ⟨c4, c5⟩ := He.ba c
 exact ⟨He.cls_ok c1, He.eqO_ok c2, He.eqO_ok c3, of_decide_eq_true c4, of_decide_eq_true c5⟩
theorem xN {t u : Tg} {b : Bool} (c : (Fx.kit t u b).ok cn K = true) : PySem.W.kitOne K (t.v (Tbo cn fld K)) (u.v (Tbo cn fld K)) = some b := by
 have h := of_decide_eq_true c
 cases t <;> cases u <;> exact h
end
abbrev AlP : Type := Bool × List He.FnW
def agb (cn : Nat → Str) (fa : List Fx) (fn : List PD) (K : PySem.W.Frag) : AlP := ((fa.all fun f => f.ok cn K) && fn.all fun d => d.ok K, fn.map fun d => YD K (d.adr K))
def agc (fn : List PD) : AlP := (true, fn.map PD.val)
def RM (cn : Nat → Str) (fa : List Fx) (fn : List PD) (K : PySem.W.Frag) : Prop := agb cn fa fn K = agc fn
def ag9 (o : Obj) : List Addr := (match o.dict with
 | some d => [d]
 | none => []) ++ match o.data with
 | .seq its _ => its.toList.flatMap He.refV
 | .dict es _ => es.toList.flatMap fun e => He.refV e.val
 | .func fd => He.refV fd.code ++ (He.refV fd.defaults ++ (He.refV fd.kwdefaults ++ fd.closure.map (·.2)))
 | .cls cd => cd.ns :: (cd.mro.drop 1).flatMap He.refV
 | .fields vs => vs.toList.flatMap He.refV
 | .cell (some v) => He.refV v
 | _ => []
def asF (g : Addr → Option Obj) : Nat → List Addr → List Addr
 | 0, l => l
 | n + 1, l => l ++ asF g n (l.flatMap fun a => match g a with
   | some o => ag9 o
   | none => [])
def asP (g : Addr → Option Obj) (n : Nat) : List Addr := asF g n [mainGlobals] ++ [cStatics]
def obsPG (n : Nat) (cn : Nat → Str) (fa : List Fx) (fn : List PD) (g : Addr → Option Obj) : AlP := agb cn fa fn (He.frG g (asP g n))
def hookP (n : Nat) (cn : Nat → Str) (fa : List Fx) (fn : List PD) : PySem.W.Hook where
 α := AlP
 obs := fun s => obsPG n cn fa fn s.heap.get?
 val := fun _ => agc fn
 says := fun _ h => ∃ K : PySem.W.Frag, K.In h ∧ RM cn fa fn K
 of := fun _ _ e => ⟨_, He.frG_in, e⟩
 keeps := fun _ _ _ ⟨K, hK, c⟩ k => ⟨K, PySem.W.Frag.In.keeps hK k, c⟩
theorem obsPG_eq {n : Nat} {cn : Nat → Str} {fa : List Fx} {fn : List PD} {g : Addr → Option Obj} {s : Shared} (h : ∀ a, g a = s.heap.get? a) : obsPG n cn fa fn g = (hookP n cn fa fn).obs s := by
 have e : g = s.heap.get? := funext h
 rw [e] <;> rfl
section
variable {cn : Nat → Str} {fa : List Fx} {fn : List PD} {K : PySem.W.Frag}
theorem RM.fact (c : RM cn fa fn K) (i : Nat) {f : Fx} (h : fa[i]? = some f := by rfl) : f.ok cn K = true := by
 have c1 := (He.ba (show ((fa.all fun f => f.ok cn K) && fn.all fun d => d.ok K) = true from congrArg (fun z : AlP => z.1) c)).1
 exact List.all_eq_true.mp c1 f (ajg h)
theorem RM.def_ (c : RM cn fa fn K) (i : Nat) {d : PD} (h : fn[i]? = some d := by rfl) (hc : d.clo = false := by rfl) : ∃ fd, FunD K d.name d.qual d.params d.body d.scope (d.dvs K) (d.kws K) (d.adr K) fd := by
 have c2 := (He.ba (show ((fa.all fun f => f.ok cn K) && fn.all fun d => d.ok K) = true from congrArg (fun z : AlP => z.1) c)).2
 have e : fn.map (fun d => YD K (d.adr K)) = fn.map PD.val := congrArg (fun z : AlP => z.2) c
 have e2 : (fn.map fun d => YD K (d.adr K))[i]? = (fn.map PD.val)[i]? := by rw [e]
 rw [ajj, ajj, h] at e2
 exact PD.funD hc (Option.some.inj e2) (List.all_eq_true.mp c2 d (ajg h))
end
theorem UV {K : PySem.W.Frag} {T : Tb} {w : Wd} : ∀ ns : List Int, aO K T w (ns.map V.int) (ns.map D.int)
 | [] => .nil
 | i :: r => .cons (.int i) (UV r)
theorem law_sp {K : PySem.W.Frag} {T : Tb} {F : Fn} {H : Hp} {a : Addr} {ns : List Int} (hq : SqL K H a (ns.map V.int)) {fr : Fr} {h : Hh} (e : F [.kl (ns.map D.int)] [] = .ok (.bl true) fr h) : spF K T 1 F [.ref a] H (fun v _ => v = .bl true) (fun _ _ _ => False) := by
 refine ⟨⟨H, []⟩, [], [.kl (ns.map D.int)], ⟨Wd.le_refl _, fun _ q => .inl q, fun _ q => (by cases q), fun _ _ q _ => q, fun _ q => (by cases q), fun _ _ q => q, rfl, List.nodup_nil, fun _ q => (by cases q), fun _ _ _ q => (by simp at q), rfl, fun _ _ _ q => (by simp at q), fun _ _ _ _ q => (Qe q).elim, fun _ _ _ q _ => (by simp at q)⟩, .cons (.kl hq (UV ns)) .nil, rfl, ?_⟩
 rw [e]
 intro w' H' v l R rv
 rcases rv with rv | ⟨p, o, _, _, _, _, r⟩
 · cases rv
   rfl
 · cases r
def pick {α : Type} (is : List Nat) (l : List α) : List α := is.filterMap fun i => l[i]?
def gKw {α : Type} (is : List Nat) (us mv ws : List α) : List α := us ++ pick is (ws ++ mv)
end Pk
namespace PySem
namespace EnT
abbrev itO (l : Addr) : Obj := { cls := .type "tuple_iterator", data := .fields #[.ref l, .int 0 0] }
abbrev enO (it : Addr) : Obj := { cls := .type "enumerate", data := .fields #[.none, .bool false, .ref it, rawInt 0, .none, .none] }
theorem Rx (l : Addr) (items : Array Value) (n : Nat) (dct : Option Addr) (sl : Array (Option Value)) :
 Meets (Builtin.«enumerate.__new__» ⟨[.type "enumerate", .ref l], []⟩) (fun _ R s => s.heap.get? l = some { cls := .type "tuple", dict := dct, data := .seq items n, slots := sl } ∧
  R (.ok (.ret (.ref (s.heap.push (itO l)).objs.size))) { s with heap := (s.heap.push (itO l)).push (enO s.heap.objs.size) }) := by
 refine .of_wp fun prog w A R s h => ?_
 obtain ⟨hp, g, d, tk, os⟩ := s
 obtain ⟨hl, h⟩ := h
 have hsub := sub_enumerate
 have hT : Heap.IsTuple (Shared.heap ⟨hp, g, d, tk, os⟩) l items := ⟨_, hl, rfl, n, rfl⟩
 wp_walk using AutoSeq1.wpAny_loadPart' hl
 refine wpAny_stack_any fun st => wpAny_pure ?_
 split
 · rename_i c _ _ _ _ _
   cases (c == Value.type "enumerate") <;> (wp_walk using AutoSeq1.wpAny_loadPart' hl, wpAny_pyIter_tuple hT; exact ⟨_, rfl, h⟩)
 · wp_walk using AutoSeq1.wpAny_loadPart' hl, wpAny_pyIter_tuple hT
   exact ⟨_, rfl, h⟩
section
variable {prog : Program} {w : World} {A : Around} {E : Value → Shared → Prop} {s : Shared}
end
end EnT
end PySem
namespace L2
open PySem PySem.Spec PyProof.Rows
def ItE (K : PySem.W.Frag) (a : Addr) : It :=
 ⟨fun i H => ∃ (xs : List V) (x : V), SqT K H a xs ∧ xs[i]? = some x, fun i H v H' => ∃ T x, v = .ref T ∧ H T = none ∧ H' = upd H T (.tup [.int (i : Nat), x]) ∧ ∀ xs, SqT K H a xs → xs[i]? = some x, fun i H => ∃ xs : List V, SqT K H a xs ∧ xs.length ≤ i⟩
def aig (K : PySem.W.Frag) (ta : TA) : TI := fun σ H R => ta σ H fun vs H1 => ∃ a xs, vs = [.ref a] ∧ ((SqL K H1 a xs ∧ R (Ite K a) H1) ∨ (SqT K H1 a xs ∧ R (ItE K a) H1))
end L2
namespace Pk
open PySem PySem.Spec L2
def FP : Nat → List D → List D
 | _, [] => []
 | i, d :: ds => .tup [.int (i : Int), d] :: FP (i + 1) ds
def D.lst : D → Option (List D)
 | .fl l => some l
 | .kl l => some l
 | .tup l => some l
 | _ => none
def abm (m : M D) : M (List D) := m.bind fun d => M.opt (d.lst.map (FP 0))
section
variable {X : Cx} {T : Tb} {W : WX} {k kk : Nat} {pos p tpos : Pos} {elts : List Expr} {a : Expr} {ma : M D}
end
end Pk
namespace Pk
open PySem PySem.Spec L2
inductive AllL {β : Type} (Q : Nat → β → Prop) : List (Nat × β) → Prop where
 | nil : AllL Q []
 | cons {a : Nat} {b : β} {l : List (Nat × β)} : Q a b → AllL Q l → AllL Q ((a, b) :: l)
theorem uN {β : Type} {Q : Nat → β → Prop} : ∀ {l : List (Nat × β)}, AllL Q l → ∀ c i, aja c l = some i → Q c i
 | _, .nil, _, _, e => by cases e
 | _, @AllL.cons _ _ a b l q r, c, i, e => by
   rw [List.lookup_cons] at e
   cases h : c == a with
   | true =>
     rw [h] at e
     cases e
     rw [beq_iff_eq.mp h]
     exact q
   | false =>
     rw [h] at e
     exact uN r c i e
def abn (rows : List ((Tg × Tg) × Bool)) (t u : Tg) : Option Bool := match t, u with
 | .b a, .b b => YC a b
 | t, u => aja (t, u) rows
inductive G7 (K : PySem.W.Frag) (T : Tb) : List ((Tg × Tg) × Bool) → Prop where
 | nil : G7 K T []
 | b {a : String} {c : Nat} {r : Bool} {l : List ((Tg × Tg) × Bool)} : PySem.W.kitOne K (Tg.v T (.b a)) (Tg.v T (.o c)) = some r → G7 K T l → G7 K T (((.b a, .o c), r) :: l)
 | o {c : Nat} {u : Tg} {r : Bool} {l : List ((Tg × Tg) × Bool)} : PySem.W.kitOne K (Tg.v T (.o c)) (u.v T) = some r → abk K (T.cad c) → G7 K T l → G7 K T (((.o c, u), r) :: l)
theorem Nu {K : PySem.W.Frag} {T : Tb} : ∀ {l : List ((Tg × Tg) × Bool)}, G7 K T l → ∀ t u b, aja (t, u) l = some b → PySem.W.kitOne K (t.v T) (u.v T) = some b ∧ ∀ c, t = .o c → abk K (T.cad c)
 | _, .nil, _, _, _, e => by cases e
 | _, @G7.b _ _ a c r l q rr, t, u, b, e => by
   rw [List.lookup_cons] at e
   cases h : (t, u) == (Tg.b a, Tg.o c) with
   | true =>
     rw [h] at e
     cases e
     cases beq_iff_eq.mp h
     exact ⟨q, fun c' z => by cases z⟩
   | false =>
     rw [h] at e
     exact Nu rr t u b e
 | _, @G7.o _ _ c u' r l q i rr, t, u, b, e => by
   rw [List.lookup_cons] at e
   cases h : (t, u) == (Tg.o c, u') with
   | true =>
     rw [h] at e
     cases e
     cases beq_iff_eq.mp h
     exact ⟨q, fun c' z => by cases z; exact i⟩
   | false =>
     rw [h] at e
     exact Nu rr t u b e
theorem acA {K : PySem.W.Frag} {T : Tb} {l : List ((Tg × Tg) × Bool)} (h : G7 K T l) : Wf K T (abn l) := by
 refine ⟨fun t u b e => ?_, fun c u b e => ?_⟩
 · cases t with
   | b a =>
     cases u with
     | b a' => exact kit_ty (ae3 _ _ _ e)
     | o c => exact (Nu h _ _ _ e).1
   | o c => exact (Nu h _ _ _ e).1
 · exact (Nu h _ _ _ e).2 c rfl
def uh (is : List Nat) (md : List D) (ds es : List D) : List D := ds ++ pick is (es ++ md)
theorem fn_cx0 {P : Program} {w : World} {K : PySem.W.Frag} {mg : Str → Option Value} {base : Heap} {k : Nat} {f : Addr} {fd : FuncData} {ps : List Str} {sp : Sp} (F : FnOk P w K mg base (L2.CX P w) k f fd ps sp) :
 FnOk P w K mg base CX0 k f fd ps (fun vs H Q _ => sp vs H Q fun _ _ _ => False) := by
 refine ⟨fun vs H Q _ q => F.len vs H Q _ q, fun A outer s H args us vs Q E hr e0 hb r hsp => codeAny_mono (F.run A outer s H args us vs Q _ hr e0 hb r hsp) fun r s' hq => ?_⟩
 cases r with
 | error e =>
   obtain ⟨a, B, H', cls, d, rfl, fl, hok, ub, na, os, ag, hE⟩ := (show L2.CX P w outer H s (fun _ _ _ => False) e s' from hq)
   exact hE.elim
 | ok fl => cases fl <;> exact hq
end Pk
namespace Pk
open PySem PySem.Spec L2
section
variable {P : Program} {w : World} {K : PySem.W.Frag} {mg : Str → Option Value} {base : Heap} {T : Tb} {k : Nat} {x qual : Str} {params : Arguments} {body : List Stmt} {scope : Scope} {dvs : List V} {kws : List (Str × V)} {f : Addr} {fd : FuncData} {N ps : List Str}
end
structure FnS (P : Program) (w : World) (K : PySem.W.Frag) (mg : Str → Option Value) (base : Heap) (T : Tb) (k c : Nat) (f : Addr) (n : Nat) (ks : List Str) (F : Fn) : Prop where
 run : ∀ (A : Around) (outer : List Env) (s : Shared) (H : Hp) (u0 : Value) (ur ws : List Value) (v0 : V) (vr zs : List V) (Q : VK) (E : XK), Room k A → Env0 P w K mg base A outer s H → RelV v0 u0 → Vals vr ur → Vals zs ws → zs.length = ks.length → vr.length ≤ sizeLine →
  (∀ p, H p = none → spI K T c n F (v0 :: (zs ++ [.ref p])) (upd H p (.tup vr)) Q E) → codeAny (model P w) A (.call (.ref f) ⟨u0 :: ur, ks.zip ws⟩) (CR (L2.CX P w) outer P w H s Q E) s
 made : Mk K (T.cad c) f
section
variable {P : Program} {w : World} {K : PySem.W.Frag} {mg : Str → Option Value} {base : Heap} {T : Tb} {k : Nat} {x qual : Str} {params : Arguments} {body : List Stmt} {scope : Scope} {f : Addr} {fd : FuncData} {N : List Str} {p0 pv : Str} {ks : List Str}
end
def UW (ds es : List D) : List D := es ++ [.tup ds]
def abo (m : Nat) (F : Fn) (ma : M D) (mk : M (List D)) : M D := ma.bind fun d => mk.bind fun es fr h => match d.its [] with
 | some ds => if ds.length ≤ big ∧ es.length = m then vD fr (F (UW ds es) h) else .err
 | none => .err
section
variable {X : Cx} {T : Tb} {W : WX} {k kk n c : Nat} {f : Addr} {ks : List Str} {F : Fn} {x : Str} {p pos apos : Pos} {e : Expr} {es : List Expr} {kws : List Keyword} {ma : M (List D)} {mo : M D} {mk : M (List D)}
end
section
open PySem.W
variable {M' : Model} {A : Around} {E : Value → Shared → Prop} {s : Shared}
end
section
variable {X : Cx} {T : Tb} {W : WX} {k kk n c : Nat} {f : Addr} {ks : List Str} {F : Fn} {x : Str} {p sp_ pos apos : Pos} {e : Expr} {kws : List Keyword} {mo : M D} {mk : M (List D)}
end
end Pk
namespace Pk
open PySem PySem.Spec L2
structure aih (X : Cx) (T : Tb) (k : Nat) (op : Operator) (mt : Nat → Option Fn) : Prop where
 ex : ∀ c F, mt c = some F → ∃ (kk : Nat) (f : Addr) (fd : FuncData) (ps : List Str), Cls X.K (T.cad c) ∧ Meth X.K (T.cad c) (PySem.dunder op.info.2) f ∧ PySem.W.selfFirst X.K (T.cad c) = true ∧ v9 X.prog X.w X.K X.mg X.base T kk f fd ps F ∧ Bn X.K T fd ps 2 [] (aK []) ∧ kk ≤ k
def CG (h : Hh) (x y : D) : Option Nat := match x.ins h, y.ins h with
 | some (c, _), some (c', _) => if c = c' then some c else none
 | _, _ => none
def RN (mt : Nat → Option Fn) (h : Hh) (x y : D) : Option Fn := match CG h x y with
 | some c => mt c
 | none => none
def adb (mt : Nat → Option Fn) (ma mb : M D) : M D := ma.bind fun x => mb.bind fun y fr h => match RN mt h x y with
 | some F => vD fr (F [x, y] h)
 | none => .err
section
variable {X : Cx} {T : Tb} {W : WX} {k : Nat} {a b : Expr} {ma mb : M D} {pos : Pos} {op : Operator}
theorem abp {pins : List (Addr × Obj)} {σ : L2.St} {Q : VK} {v : Value} {s : Shared} (h : EP X pins σ Q v s) : PySem.W.CmpBack (EP X pins σ Q) v s := by
 obtain ⟨y, H', I', r, q⟩ := id h
 cases y <;> first | (obtain rfl := (r : v = _); exact h) | (obtain ⟨t, rfl⟩ := r; exact h)
theorem adc {h : Hh} {x y : D} {c : Nat} (e : CG h x y = some c) : (∃ fs, x.ins h = some (c, fs)) ∧ ∃ gs, y.ins h = some (c, gs) := by
 unfold CG at e
 split at e
 · rename_i c1 fs c2 gs e1 e2
   by_cases hc : c1 = c2
   · rw [if_pos hc] at e
     cases e
     subst hc
     exact ⟨⟨fs, e1⟩, gs, e2⟩
   · rw [if_neg hc] at e
     cases e
 · cases e
end
end Pk
namespace PySem
namespace ExS
open PySem.W PySem.Calls PyProof.Rows PySem.HandSPX
abbrev asg (f : Str) (q1 q2 q3 q4 : Pos) : Stmt := .Assign [.Attribute (.Name "self" q1) f q2] (.Name f q3) q4
abbrev sup (e : Expr) (p0 p1 p2 p3 p4 : Pos) : Stmt := .Expr (.Call (.Attribute (.Call (.Name "super" p0) [] [] p1) "__init__" p2) [e] [] p3) p4
structure RP (prog : Program) (K : Frag) (C fI : Addr) (params : Arguments) (body : List Stmt) (scope : Scope) (qual : Str) : Prop where
 cls : ∃ nm q N bs bm sn sub ab col dd k0 k1 k2 k3 k5, K.lookup C = some (excClassObj nm q C N bs bm true sn sub ab col dd k0 k1 k2 k3 k5 "ValueError.__new__") ∧ refsVE bm = true ∧ alongIn K "__init__" bm = some (some (.builtin "ValueError.__init__"))
 sa : findIn K (.ref C) "__setattr__" = some (some (.builtin "object.__setattr__"))
 iC : findIn K (.ref C) "__init__" = some (some (.ref fI))
 tC : typeIn K (.ref fI) = some (.type "function")
 subB : subIn K (.ref C) (.type "ValueError") = some true
 subC : mroIn K C (.ref C) = some true
 opq : nsIn K cStatics "thirdparty.any" = some none
 top : (prog.main.scope.names.lookup ("super" : Str)).isSome = false
 fn : ∃ (oc : Value) (od : Option Addr) (kV doc pm : Value) (an : Option Addr) (cda : Addr) (ct : Value) (osl : Array (Option Value)) (cc : Addr),
  K.lookup fI = some ⟨oc, od, .func (ksFn "__init__" qual params body scope .none kV doc pm an (.ref cda) ct cc), osl⟩ ∧ codeIn K (.ref cda) qual = true ∧
  (∃ (ccl : Value) (cdd : Option Addr) (vs : Array Value) (ccs : Array (Option Value)) (file : Str) (tf : Tok), K.lookup cda = some ⟨ccl, cdd, .fields vs, ccs⟩ ∧ vs[2]? = some (.str file tf) ∧ ((prog.main.file : Str) == file) = true) ∧
  ∃ (cl : Value) (cld : Option Addr) (csl : Array (Option Value)), K.lookup cc = some ⟨cl, cld, .cell (some (.ref C)), csl⟩
section
variable {prog : Program} {w : World} {M : Model} {A : Around} {E : Value → Shared → Prop} {s : Shared}
theorem ade {t : Sem Value} {Q : List Value → Shared → Prop} (h : wpAny M A t (fun v s => Q [v] s) E s) : wpAny M A (spliced [(false, t)]) Q E s := by
 unfold spliced
 refine wpAny_bind (wpAny_mono h (fun v s' h' => ?_) fun _ _ x => x)
 refine wpAny_bind (wpAny_pure ?_)
 refine wpAny_bind (wpAny_holding ?_)
 exact Calls.spliced_nil (wpAny_pure h')
theorem ae5 {h : Heap} {g : Array GenState} {d : Drawn} {t : Nat} {os : OsState} {nm q : Str} {C N : Addr} {bs bm : List Value} {hdct : Bool} {sn : List Str} {sub : List Value} {ab : Bool} {col : Option Bool} {dd : Option Addr} {k0 k1 k2 k3 k5 : Option Value} {u x t0 : Addr} {rest : List Value} {Q : Value → Shared → Prop}
 (hC : h.get? C = some (excClassObj nm q C N bs bm hdct sn sub ab col dd k0 k1 k2 k3 k5 "ValueError.__new__")) (he : h.get? x = some (excO C t0)) (hu : h.get? u = some (kxs_mw "ValueError.__init__" x)) (hz : rest.length ≤ sizeLine)
 (hq : ∀ h' t1, (∀ b o, b ≠ x → h.get? b = some o → h'.get? b = some o) → h'.get? x = some (excO C t1) → Q .none ⟨h', g, d, t, os⟩) :
 wpAny (model prog w) A (call (.ref u) rest) Q E ⟨h, g, d, t, os⟩ := by
 refine wpAny_call (codeAny_of_tree ?_)
 show wpAny _ A.in1 (callAny (.ref u) ⟨rest, []⟩) _ _ _
 simp only [callAny]
 refine wpAny_bind (wpAny_load hu ?_)
 simp only [kxs_mw, show (Value.type "method-wrapper" == Value.type "method" || Value.type "method-wrapper" == Value.type "builtin_function_or_method" || Value.type "method-wrapper" == Value.type "method-wrapper") = true by decide, if_true]
 refine KFB.if_so (by decide) ?_
 refine wpAny_bind (check_bound_init F.excBase_ValueError.toExcCallFacts hC he rfl ?_)
 refine wpAny_bind (wpAny_pure (wpAny_pure ?_))
 refine ⟨plainId_quiet F.excBase_ValueError.init.plain _, codeAny_builtin F.excBase_ValueError.initEntry ?_⟩
 exact exc_init_tree (cls := .ref C) (t0 := t0) (dv := none) (c2 := .none) (c3 := .none) (b4 := .bool false) he hz fun h' k e' _ => hq h' _ k e'
end
theorem ae6 {K : Frag} {h : Heap} {b : Addr} (X : K.In h) (hb : h.objs.size ≤ b) : K.lookup b = none := by
 cases e : K.lookup b with
 | none => rfl
 | some o => exact absurd (Heap.lt_size (X _ _ e)) (Nat.not_lt.mpr hb)
theorem YG {K : Frag} {h h' : Heap} {x : Addr} (X : K.In h) (hx : K.lookup x = none) (k : ∀ b o, b ≠ x → h.get? b = some o → h'.get? b = some o) : K.In h' := fun a o e =>
 k a o (fun z => by rw [z, hx] at e; cases e) (X a o e)
section
variable {prog : Program} {w : World} {A : Around} {R : Result → Shared → Prop} {s : Shared} {K : Frag} {C fI : Addr} {params : Arguments} {scope : Scope} {qual : Str} {ex : Expr} {p0 p1 p2 p3 p4 : Pos} {rest : List Stmt} {mg mb : Str → Option Value}
theorem enter (T : RP prog K C fI params (sup ex p0 p1 p2 p3 p4 :: rest) scope qual) {x t0 : Addr} {us : List Value} {binds : List (Str × Value)} (X : K.In s.heap) (hlim : s.heap.NoLimit) (hx : s.heap.get? x = some (excO C t0)) (hnx : K.lookup x = none) (hroom : A.depth < recursionLimit)
 (hG : s.heap.Ns mainGlobals mg) (hg : mg "super" = none) (hB : s.heap.Ns builtinsNs mb) (hb : mb "super" = some (.type "super"))
 (hbind : ∀ (kV doc pm : Value) (an : Option Addr) (cdv ct : Value) (cc : Addr), bindArgs (ksFn "__init__" qual params (sup ex p0 p1 p2 p3 p4 :: rest) scope .none kV doc pm an cdv ct cc) ⟨.ref x :: us, []⟩ = pure binds)
 (hself : binds.reverse.lookup ("self" : Str) = some (.ref x)) (hloc : ∀ y ∈ binds, scope.names.lookup y.1 = some .local)
 (hcell : ∀ y ∈ scope.names, y.2 ≠ .cell) (hp : ∃ ar : Arg, (params.posonlyargs ++ params.args).head? = some ar ∧ ar.arg = "self") (hks : scope.names.lookup ("super" : Str) = some .globalImplicit) (hkc : scope.names.lookup ("__class__" : Str) = some .free) (hka : scope.names.lookup ("self" : Str) = some .local)
 (hco : scope.isCoroutine = false) (hgen : scope.isGenerator = false) (hk : scope.kind = .function)
 (hE : ∀ (cda cc : Addr) (L : Addr) (A' : Around) (h : Heap) (g : Array GenState) (d : Drawn) (t : Nat) (os : OsState) (E' : Value → Shared → Prop) (Q : Value → Shared → Prop), (∀ b o, s.heap.get? b = some o → h.get? b = some o) → h.Ns L (fun y => binds.reverse.lookup y) → (∀ v t', Q v ⟨h, g, d, t', os⟩) → wpAny (model prog w) A' (eval ex (ksEnv qual scope L fI (.ref cda) cc)) Q E' ⟨h, g, d, t, os⟩)
 (hin : ∀ (cda cc L : Addr), interactive (ksEnv qual scope L fI (.ref cda) cc) = false)
 (hev : ∀ (cda cc L : Addr), ∃ pl : Sem Bool, eval (.Call (.Attribute (.Call (.Name "super" p0) [] [] p1) "__init__" p2) [ex] [] p3) (ksEnv qual scope L fI (.ref cda) cc) = (do
  let ov ← attributeBase (.Call (.Name "super" p0) [] [] p1) "__init__" (ksEnv qual scope L fI (.ref cda) cc) (eval (.Call (.Name "super" p0) [] [] p1) (ksEnv qual scope L fI (.ref cda) cc))
  standAt p2.atName
  let (f, first) ← holding [ov] (getMethod ov "__init__" pl)
  callWith p3 f first (backTo p3 (starEach [ex] (ksEnv qual scope L fI (.ref cda) cc))) []))
 (hsw : ∀ (cda cc L : Addr), swapsWith (.Call (.Attribute (.Call (.Name "super" p0) [] [] p1) "__init__" p2) [ex] [] p3) none p4.line (ksEnv qual scope L fI (.ref cda) cc) = pure false)
 (hst : ∀ env : Env, starEach [ex] env = [(false, eval ex env)])
 (hq : ∀ (cda cc : Addr) h' tk t1, (∀ b o, b ≠ x → s.heap.get? b = some o → h'.get? b = some o) → h'.get? x = some (excO C t1) → h'.Ns s.heap.objs.size (fun y => binds.reverse.lookup y) →
  wpAny (model prog w) (A.deeper (ksEnv qual scope s.heap.objs.size fI (.ref cda) cc)) (execs rest (ksEnv qual scope s.heap.objs.size fI (.ref cda) cc)) (fun f s' => R (.ok (.ret (match f with | .ret v => v | _ => .none))) s')
   (fun _ _ => False) { s with heap := h', toks := tk }) : codeAny (model prog w) A (.call (.ref fI) ⟨.ref x :: us, []⟩) R s := by
 obtain ⟨oc, od, kV, doc, pm, an, cda, ct, osl, cc, ho, hcd, ⟨ccl, cdd, vs, ccs, file, tf, hcode, hvs, hfile⟩, cl, cld, csl, hcel⟩ := T.fn
 obtain ⟨nm, q, N, bs, bm, sn, sub, ab, col, dd, k0, k1, k2, k3, k5, hC, hbm, hal⟩ := T.cls
 obtain ⟨ar, hp, har⟩ := hp
 have hcl : clsIn K C = some { name := nm, bases := bs, mro := .ref C :: bm, ns := N, qualname := q, hasDict := true, slotNames := sn, subclasses := sub, abstract := ab, collection := col, hasDel := false } := by unfold clsIn; rw [hC] <;> rfl
 refine ks_codeAny_call_defAt (fd := ksFn "__init__" qual params (sup ex p0 p1 p2 p3 p4 :: rest) scope .none kV doc pm an (.ref cda) ct cc) (body := sup ex p0 p1 p2 p3 p4 :: rest) (binds := binds) hroom (X _ _ ho) rfl hlim (codeRec_of X hcd) rfl (BindsTo.of_eq (hbind kV doc pm an (.ref cda) ct cc)) hcell hloc (fun h₁ hns hk₁ => ?_) hco hgen hk
 obtain ⟨hp0, g, d, t, os⟩ := s
 show wpAt (model prog w) (A.deeper (ksEnv qual scope hp0.objs.size fI (.ref cda) cc)) (.func (sup ex p0 p1 p2 p3 p4 :: rest) (ksEnv qual scope hp0.objs.size fI (.ref cda) cc)) (execs (sup ex p0 p1 p2 p3 p4 :: rest) (ksEnv qual scope hp0.objs.size fI (.ref cda) cc)) _ _ _
 have X₁ : K.In h₁ := X.keeps hk₁
 have hx₁ := hk₁ _ _ hx
 have hC₁ := X₁ _ _ hC
 have hxC : x ≠ C := fun z => by
  rw [z, hC₁] at hx₁
  cases hx₁
 obtain ⟨pl, hev⟩ := hev cda cc hp0.objs.size
 refine ks_wpAt_execs_cons (ks_wpAt_Expr_any (ks_wpAt_MethodCall (pl := pl) ?_ hev) (hin _ _ _) (hsw _ _ _))
 refine ks_wpAt_super_base (fd := ksFn "__init__" qual params (sup ex p0 p1 p2 p3 p4 :: rest) scope .none kV doc pm an (.ref cda) ct cc) hks hkc (by decide) rfl (X₁ _ _ ho) rfl hp rfl (X₁ _ _ hcode) rfl hvs hfile T.top ?_
 refine ks_loadName_global hk hks (Calls.loadGlobal_builtin (hG.keeps hk₁) hg (hB.keeps hk₁) hb ⟨rfl, ?_⟩)
 refine wpAny_loadName_free hk hkc rfl ⟨_, X₁ _ _ hcel, rfl⟩ ?_
 rw [har]
 refine wpAny_loadName_local hk hka hns hself ?_
 refine ks_wpAny_isType_cls hC₁ rfl ⟨rfl, ?_⟩
 refine ks_wpAny_call_super hC₁ rfl hx₁ rfl (fun c e => by cases e) (looks_mroIn X₁ T.subC) (fun h₂ hso k₂ => ?_)
 have X₂ : K.In h₂ := X₁.keeps k₂
 have hx₂ := k₂ _ _ hx₁
 have I₂ : InstAt h₂ x (excO C t0) C none := ⟨hx₂, rfl, rfl, trivial⟩
 refine kxs_getMethod kxs_ValueError hso (looks_opaque X₂ T.opq) (l₀ := .ref C :: bm) ((looks_clsIn X₂ hcl).andThen .now) (by simp [List.dropWhile_cons]) X₂ hal (I₂.type.andThen (looks_subIn X₂ T.subB)) hxC rfl ?_
 have k₃ : ∀ b o, h₂.get? b = some o → (h₂.push (kxs_mw "ValueError.__init__" x)).get? b = some o := fun b o e => Heap.get?_push_of_some _ e
 have hu : (h₂.push (kxs_mw "ValueError.__init__" x)).get? h₂.objs.size = some (kxs_mw "ValueError.__init__" x) := Heap.get?_push_at rfl rfl
 refine kxs_callWith (i := "ValueError.__init__") (x := x) (by rw [hst]; rfl) ?_
 rw [hst]
 refine evalArgs_plain ?_
 show wpAny _ _ (spliced [(false, eval ex (ksEnv qual scope hp0.objs.size fI (.ref cda) cc))]) _ _ _
 refine ade (hE cda cc hp0.objs.size _ _ _ _ _ _ _ _ (fun b o e => k₃ _ _ (k₂ _ _ (hk₁ _ _ e))) ((hns.keeps k₂).keeps k₃) fun v t' => ⟨hu, ?_⟩)
 refine ae5 (k₃ _ _ (k₂ _ _ hC₁)) (k₃ _ _ hx₂) hu (by show 1 ≤ sizeLine; decide) fun h₄ t1 k₄ hx₄ => ?_
 have hxL : hp0.objs.size ≠ x := Nat.ne_of_gt (Heap.lt_size hx)
 refine wpAt_of_wpAny (wpAny_mono (hq cda cc h₄ _ t1 (fun b o hb e => k₄ b o hb (k₃ _ _ (k₂ _ _ (hk₁ _ _ e)))) hx₄ ?_) (fun _ _ z => z) fun _ _ z => z.elim)
 obtain ⟨o, es, ep, eo, r⟩ := (hns.keeps k₂).keeps k₃
 exact ⟨o, es, ep, k₄ _ _ hxL eo, r⟩
end
abbrev Tz : Type := Str × Pos × Pos × Pos × Pos
abbrev Qv (gs : List Tz) : List Stmt := gs.map fun g => asg g.1 g.2.1 g.2.2.1 g.2.2.2.1 g.2.2.2.2
theorem CQ {α : Type} (f g : Str) (y : α) (fs : List (Str × α)) : ((f, y) :: fs).lookup g = if g = f then some y else fs.lookup g := by
 by_cases h : g = f
 · subst h
   simp [aja]
 · have e : (g == f) = false := by simpa using h
   rw [if_neg h]
   simp [aja, e]
theorem Ue {α : Type} {y : Str} : ∀ {l : List (Str × α)} {v : α}, l.lookup y = some v → y ∈ l.map (·.1)
 | [], v, h => by cases h
 | (f, z) :: l, v, h => by
   rw [CQ] at h
   by_cases e : y = f
   · rw [e]; exact ai8 ..
   · rw [if_neg e] at h
     exact ajc _ (Ue h)
theorem YH {α : Type} {y : Str} : ∀ (l r : List (Str × α)), (l ++ r).lookup y = match l.lookup y with | some v => some v | none => r.lookup y
 | [], r => rfl
 | (f, z) :: l, r => by
   rw [aiY, CQ, CQ]
   by_cases e : y = f
   · rw [if_pos e, if_pos e]
   · rw [if_neg e, if_neg e]; exact YH l r
theorem look_none {α : Type} {y : Str} {l : List (Str × α)} (h : y ∉ l.map (·.1)) : l.lookup y = none := by
 cases e : l.lookup y with
 | none => rfl
 | some v => exact absurd (Ue e) h
theorem YJ {α : Type} {y : Str} : ∀ {l : List (Str × α)}, (l.map (·.1)).Nodup → l.reverse.lookup y = l.lookup y
 | [], _ => rfl
 | (f, z) :: l, h => by
   rw [aiR, List.nodup_cons] at h
   have e1 : ((f, z) :: l).lookup y = if y = f then some z else l.lookup y := CQ f y z l
   have e2 : [(f, z)].lookup y = if y = f then some z else none := CQ f y z []
   rw [List.reverse_cons, YH, YJ h.2, e1, e2]
   by_cases e : y = f
   · subst e
     rw [look_none h.1, if_pos rfl]
   · rw [if_neg e, if_neg e]
     cases l.lookup y <;> rfl
structure U0 (h0 h : Heap) (x C : Addr) (done : List (Str × Value)) : Prop where
 keep : ∀ b o, b ≠ x → h0.get? b = some o → h.get? b = some o
 big : h0.objs.size ≤ h.objs.size
 at_ : ∃ (t1 : Addr) (dv : Option Addr), h.get? x = some { cls := .ref C, dict := dv, data := .fields #[.ref t1, .none, .none, .none, .bool false, .none] } ∧
  ((done = [] ∧ dv = none) ∨ ∃ (dx : Addr) (m : Str → Option Value), dv = some dx ∧ h0.objs.size ≤ dx ∧ dx ≠ x ∧ h.Ns1 dx m ∧ ∀ y, m y = done.lookup y)
section
variable {prog : Program} {w : World} {A : Around} {E : Value → Shared → Prop} {K : Frag} {C fI L x : Addr} {scope : Scope} {qual : Str} {cda cc : Addr} {m : Str → Option Value} {h0 : Heap} {g : Array GenState} {d : Drawn} {os : OsState} {Q : Flow → Shared → Prop} {cd : ClassData}
theorem stores (X0 : K.In h0) (hnx : K.lookup x = none) (hLx : L ≠ x) (hL0 : L < h0.objs.size) (hcl : clsIn K C = some cd) (hm : refsVE cd.mro = true) (hh : cd.hasDict = true) (sa : findIn K (.ref C) "__setattr__" = some (some (.builtin "object.__setattr__"))) (hk : scope.kind = .function) (hself : m "self" = some (.ref x)) (ls : scope.names.lookup ("self" : Str) = some .local)
 (hsw : ∀ g : Tz, swapsWith (.Name g.1 g.2.2.2.1) (some (.Attribute (.Name "self" g.2.1) g.1 g.2.2.1)) g.2.2.2.2.line (ksEnv qual scope L fI (.ref cda) cc) = pure false) (hns0 : h0.Ns L m) :
 ∀ (gs : List Tz) (vs : List Value) (done : List (Str × Value)) (h : Heap) (t : Nat), (∀ g ∈ gs, (g.1 == ("__debug__" : Str)) = false ∧ scope.names.lookup g.1 = some .local ∧ findIn K (.ref C) g.1 = some none) → gs.length = vs.length → (∀ (i : Nat) (f : Str) (v : Value), (gs.map (·.1))[i]? = some f → vs[i]? = some v → m f = some v) → done.length + gs.length ≤ 500 → U0 h0 h x C done →
   (∀ h' t', U0 h0 h' x C (((gs.map (·.1)).zip vs).reverse ++ done) → Q .next ⟨h', g, d, t', os⟩) → wpAny (model prog w) A (execs (Qv gs) (ksEnv qual scope L fI (.ref cda) cc)) Q E ⟨h, g, d, t, os⟩
 | [], vs, done, h, t, _, hl, _, _, S, hq => by
   cases vs with
   | nil => exact wpAny_execs_nil (hq h t S)
   | cons v vs => cases hl
 | a :: gs, vs, done, h, t, hg, hl, hv, hlen, S, hq => by
   cases vs with
   | nil => cases hl
   | cons v vs =>
     obtain ⟨n1, n2, n3⟩ := hg a ai8
     have hva : m a.1 = some v := hv 0 a.1 v rfl rfl
     obtain ⟨t1, dv, hx, hd⟩ := S.at_
     have X : K.In h := YG X0 hnx S.keep
     have hns : h.Ns L m := by
      obtain ⟨o, es, ep, eo, r⟩ := hns0
      exact ⟨o, es, ep, S.keep _ _ hLx eo, r⟩
     have go : ∀ h' t', U0 h0 h' x C ((a.1, v) :: done) → wpAny (model prog w) A (execs (Qv gs) (ksEnv qual scope L fI (.ref cda) cc)) Q E ⟨h', g, d, t', os⟩ := fun h' t' S' => by
      refine stores X0 hnx hLx hL0 hcl hm hh sa hk hself ls hsw hns0 gs vs ((a.1, v) :: done) h' t' (fun b hb => hg b (ajc _ hb)) (Nat.succ.inj hl) (fun i f u e1 e2 => hv (i + 1) f u e1 e2) (by simp only [aiU] at hlen ⊢; omega) S' fun h2 t2 S2 => hq h2 t2 ?_
      have e : ((List.map (·.1) (a :: gs)).zip (v :: vs)).reverse ++ done = ((gs.map (·.1)).zip vs).reverse ++ (a.1, v) :: done := by
       simp
      rw [e]
      exact S2
     refine wpAny_execs_cons (plainObj_wpAny_Assign_Attribute ?_ (hsw a))
     refine wpAny_Name (wpAny_loadName_local hk (show (ksEnv qual scope L fI (.ref cda) cc).kindOf a.1 = some .local from n2) hns hva ?_) n1
     refine wpAny_Name (wpAny_loadName_local hk (show (ksEnv qual scope L fI (.ref cda) cc).kindOf "self" = some .local from ls) hns hself ?_) (by decide)
     rcases hd with ⟨rfl, rfl⟩ | ⟨dx, m0, rfl, dn, dne, hn1, hmm⟩
     · refine set_plain X (ox := { cls := .ref C, dict := none, data := .fields #[.ref t1, .none, .none, .none, .bool false, .none] }) (od := none) ⟨hx, rfl, rfl, trivial⟩ sa ?_
       refine exc_osa X hx hcl hm hh n3 (fun h₃ tk₃ dx k₃ dn dne hx₃ hn₃ => ?_)
       have zz : dx < h₃.objs.size := by
        obtain ⟨o, es, ep, eo, _⟩ := hn₃
        exact Heap.lt_size eo
       refine go h₃ _ ⟨fun b o hb e => k₃ b o hb (S.keep b o hb e), Nat.le_of_lt (Nat.lt_of_le_of_lt (Nat.le_trans S.big dn) zz), t1, some dx, hx₃, .inr ⟨dx, _, rfl, Nat.le_trans S.big dn, dne, hn₃, fun y => ?_⟩⟩
       · rw [CQ]
         rfl
     · obtain ⟨oD, es, ep, hoD, r⟩ := id hn1
       have hw : Within m0 (done.map (·.1)) := fun y hy => by
        rw [hmm y] at hy
        cases e : done.lookup y with
        | none => exact absurd e hy
        | some u => exact Ue e
       refine set_plain X (ox := { cls := .ref C, dict := some dx, data := .fields #[.ref t1, .none, .none, .none, .bool false, .none] }) (od := some oD) ⟨hx, rfl, rfl, hoD⟩ sa ?_
       refine OEX.osa_old X hx hn1 hw (by rw [ajb]; omega) hcl hm hh n3 (fun h₃ tk₃ k₃ hn₃ => ?_)
       have zz : dx < h₃.objs.size := by
        obtain ⟨o, es, ep, eo, _⟩ := hn₃
        exact Heap.lt_size eo
       refine go h₃ _ ⟨fun b o hb e => k₃ b o (fun z => ?_) (S.keep b o hb e), Nat.le_of_lt (Nat.lt_of_le_of_lt dn zz), t1, some dx, k₃ _ _ (Ne.symm dne) hx, .inr ⟨dx, _, rfl, dn, dne, hn₃, fun y => ?_⟩⟩
       · rw [z] at e
         exact absurd (Heap.lt_size e) (Nat.not_lt.mpr dn)
       · rw [CQ, hmm y]
end
structure YK (K : Frag) (params : Arguments) (scope : Scope) (qual : Str) (ex : Expr) (p0 p1 p2 p3 p4 : Pos) (gs : List Tz) (Ok : L2.Hp → List L2.V → Prop) : Prop where
 bind : ∀ (kV doc pm : Value) (an : Option Addr) (cdv ct : Value) (cc x : Addr) (us : List Value), us.length = gs.length → bindArgs (ksFn "__init__" qual params (sup ex p0 p1 p2 p3 p4 :: Qv gs) scope .none kV doc pm an cdv ct cc) ⟨.ref x :: us, []⟩ = pure ((("self" : Str) :: gs.map (·.1)).zip (.ref x :: us))
 nd : (("self" : Str) :: gs.map (·.1)).Nodup
 len : gs.length ≤ 100
 loc : ∀ y ∈ ("self" : Str) :: gs.map (·.1), scope.names.lookup y = some .local
 dbg : ∀ g ∈ gs, (g.1 == ("__debug__" : Str)) = false
 cell : ∀ y ∈ scope.names, y.2 ≠ .cell
 hp : ∃ ar : Arg, (params.posonlyargs ++ params.args).head? = some ar ∧ ar.arg = "self"
 ks : scope.names.lookup ("super" : Str) = some .globalImplicit
 kc : scope.names.lookup ("__class__" : Str) = some .free
 co : scope.isCoroutine = false
 gen : scope.isGenerator = false
 k : scope.kind = .function
 hE : ∀ (H0 : L2.Hp) (vs : List L2.V) (us : List Value), Ok H0 vs → L2.Vals vs us → vs.length = gs.length → ∀ (cda cc L x fI : Addr) (prog : Program) (w : World) (A' : Around) (h0 h : Heap) (g : Array GenState) (d : Drawn) (t : Nat) (os : OsState) (E' : Value → Shared → Prop) (Q : Value → Shared → Prop), K.In h → L2.HOk prog w H0 h0 → (∀ b o, h0.get? b = some o → h.get? b = some o) →
  h.Ns L (fun y => ((("self" : Str) :: gs.map (·.1)).zip (Value.ref x :: us)).reverse.lookup y) → (∀ v t', Q v ⟨h, g, d, t', os⟩) → wpAny (model prog w) A' (eval ex (ksEnv qual scope L fI (.ref cda) cc)) Q E' ⟨h, g, d, t, os⟩
 hin : ∀ (fI cda cc L : Addr), interactive (ksEnv qual scope L fI (.ref cda) cc) = false
 hev : ∀ (fI cda cc L : Addr), ∃ pl : Sem Bool, eval (.Call (.Attribute (.Call (.Name "super" p0) [] [] p1) "__init__" p2) [ex] [] p3) (ksEnv qual scope L fI (.ref cda) cc) = (do
     let ov ← attributeBase (.Call (.Name "super" p0) [] [] p1) "__init__" (ksEnv qual scope L fI (.ref cda) cc) (eval (.Call (.Name "super" p0) [] [] p1) (ksEnv qual scope L fI (.ref cda) cc))
     standAt p2.atName
     let (f, first) ← holding [ov] (getMethod ov "__init__" pl)
     callWith p3 f first (backTo p3 (starEach [ex] (ksEnv qual scope L fI (.ref cda) cc))) [])
 hsw : ∀ (fI cda cc L : Addr), swapsWith (.Call (.Attribute (.Call (.Name "super" p0) [] [] p1) "__init__" p2) [ex] [] p3) none p4.line (ksEnv qual scope L fI (.ref cda) cc) = pure false
 hst : ∀ env : Env, starEach [ex] env = [(false, eval ex env)]
 hsw2 : ∀ (fI cda cc L : Addr) (g : Tz), swapsWith (.Name g.1 g.2.2.2.1) (some (.Attribute (.Name "self" g.2.1) g.1 g.2.2.1)) g.2.2.2.2.line (ksEnv qual scope L fI (.ref cda) cc) = pure false
theorem zip_get {α : Type} : ∀ {ps : List Str} {us : List α} {i : Nat} {f : Str} {v : α}, ps.Nodup → ps[i]? = some f → us[i]? = some v → (ps.zip us).lookup f = some v
 | [], _, i, f, v, _, e, _ => by simp at e
 | _ :: _, [], i, f, v, _, _, e => by simp at e
 | p :: ps, u :: us, 0, f, v, _, e1, e2 => by
   simp at e1 e2
   subst e1 e2
   simp [aja]
 | p :: ps, u :: us, i + 1, f, v, nd, e1, e2 => by
   rw [List.nodup_cons] at nd
   have e1' : ps[i]? = some f := by simpa using e1
   have e2' : us[i]? = some v := by simpa using e2
   rw [List.zip_cons_cons, CQ, if_neg (fun z => nd.1 (by rw [← z]; exact ajg e1'))]
   exact zip_get nd.2 e1' e2'
theorem adf {α : Type} {ps : List Str} {us : List α} (hl : ps.length = us.length) : (ps.zip us).map (·.1) = ps := by
 rw [List.map_fst_zip]
 omega
section
variable {prog : Program} {w : World} {A : Around} {R : Result → Shared → Prop} {s : Shared} {K : Frag} {C fI : Addr} {params : Arguments} {scope : Scope} {qual : Str} {ex : Expr} {p0 p1 p2 p3 p4 : Pos} {gs : List Tz} {Ok : L2.Hp → List L2.V → Prop} {H0 : L2.Hp} {h00 : Heap} {mg mb : Str → Option Value}
theorem adg (T : RP prog K C fI params (sup ex p0 p1 p2 p3 p4 :: Qv gs) scope qual) (S : YK K params scope qual ex p0 p1 p2 p3 p4 gs Ok) (hno : ∀ g ∈ gs, findIn K (.ref C) g.1 = some none) {x t0 : Addr} {vs : List L2.V} {us : List Value} (X : K.In s.heap) (hlim : s.heap.NoLimit) (hx : s.heap.get? x = some (excO C t0)) (hnx : K.lookup x = none) (hroom : A.depth < recursionLimit)
 (hG : s.heap.Ns mainGlobals mg) (hg : mg "super" = none) (hB : s.heap.Ns builtinsNs mb) (hb : mb "super" = some (.type "super")) (hH : L2.HOk prog w H0 h00) (kp0 : ∀ b o, h00.get? b = some o → s.heap.get? b = some o) (ok : Ok H0 vs) (rv : L2.Vals vs us) (hl : vs.length = gs.length)
 (hq : ∀ h' tk, U0 s.heap h' x C ((gs.map (·.1)).zip us).reverse → R (.ok (.ret .none)) { s with heap := h', toks := tk }) : codeAny (model prog w) A (.call (.ref fI) ⟨.ref x :: us, []⟩) R s := by
 have hlu : us.length = gs.length := by rw [← rv.length]; exact hl
 have keys : (((("self" : Str) :: gs.map (·.1)).zip (Value.ref x :: us)).map (·.1)) = ("self" : Str) :: gs.map (·.1) := adf (by simp [hlu])
 have hrev : ∀ y, ((("self" : Str) :: gs.map (·.1)).zip (Value.ref x :: us)).reverse.lookup y = ((("self" : Str) :: gs.map (·.1)).zip (Value.ref x :: us)).lookup y := fun y => YJ (by rw [keys]; exact S.nd)
 have hself : ((("self" : Str) :: gs.map (·.1)).zip (Value.ref x :: us)).reverse.lookup ("self" : Str) = some (.ref x) := by
  rw [hrev]
  exact zip_get S.nd (i := 0) rfl rfl
 refine enter T (mg := mg) (mb := mb) (binds := (("self" : Str) :: gs.map (·.1)).zip (.ref x :: us)) X hlim hx hnx hroom hG hg hB hb (fun kV doc pm an cdv ct cc => S.bind kV doc pm an cdv ct cc x us hlu) hself (fun y hy => S.loc y.1 (List.of_mem_zip hy).1) S.cell S.hp S.ks S.kc (S.loc _ ai8) S.co S.gen S.k
  (fun cda cc L A' h g d t os E' Q hk hn hq' => S.hE H0 vs us ok rv hl cda cc L x fI prog w A' h00 h g d t os E' Q (X.keeps hk) hH (fun b o e => hk b o (kp0 b o e)) hn hq') (S.hin fI) (S.hev fI) (S.hsw fI) S.hst fun cda cc h' tk t1 k hx' hns => ?_
 obtain ⟨nm, q, N, bs, bm, sn, sub, ab, col, dd, k0, k1, k2, k3, k5, hC, hbm, hal⟩ := T.cls
 have hcl : clsIn K C = some { name := nm, bases := bs, mro := .ref C :: bm, ns := N, qualname := q, hasDict := true, slotNames := sn, subclasses := sub, abstract := ab, collection := col, hasDel := false } := by unfold clsIn; rw [hC] <;> rfl
 have X' : K.In h' := YG X hnx k
 have hsz : s.heap.objs.size < h'.objs.size := by
  obtain ⟨o, es, ep, eo, _⟩ := hns
  exact Heap.lt_size eo
 obtain ⟨hp0, g, d, t, os⟩ := s
 refine stores (C := C) (x := x) (L := hp0.objs.size) (h0 := h') (m := fun y => ((("self" : Str) :: gs.map (·.1)).zip (Value.ref x :: us)).reverse.lookup y) X' hnx (Nat.ne_of_gt (Heap.lt_size hx)) hsz hcl (show refsVE (.ref C :: bm) = true from hbm) rfl T.sa S.k hself (S.loc _ ai8) (S.hsw2 fI cda cc _) hns gs us [] h' tk
  (fun b hb' => ⟨S.dbg b hb', S.loc b.1 (ajc _ (List.mem_map_of_mem hb')), hno b hb'⟩) hlu.symm (fun i f v e1 e2 => by
   show aja f _ = _
   rw [hrev]
   exact zip_get S.nd (i := i + 1) (by simpa using e1) (by simpa using e2)) (by have := S.len; simp only [ai0]; omega) ⟨fun b o hb' e => e, Nat.le_refl _, t1, none, hx', .inl ⟨rfl, rfl⟩⟩ fun h2 t2 S2 => ?_
 rw [aiS] at S2
 refine hq h2 t2 ⟨fun b o hb' e => S2.keep b o hb' (k b o hb' e), Nat.le_trans (Nat.le_of_lt hsz) S2.big, ?_⟩
 obtain ⟨t3, dv, e1, e2⟩ := S2.at_
 refine ⟨t3, dv, e1, ?_⟩
 rcases e2 with e2 | ⟨dx, m, q1, q2, q3, q4, q5⟩
 · exact .inl e2
 · exact .inr ⟨dx, m, q1, Nat.le_trans (Nat.le_of_lt hsz) q2, q3, q4, q5⟩
end
end ExS
end PySem
namespace PySem
namespace ExS
open PySem.W PySem.Calls PyProof.Rows PySem.HandSPX
structure MadeX (h h' : Heap) (e C : Addr) (fs : List (Str × Value)) : Prop where
 keep : ∀ b o, h.get? b = some o → h'.get? b = some o
 new : h.objs.size ≤ e
 at_ : ∃ (t1 : Addr) (dv : Option Addr), h'.get? e = some { cls := .ref C, dict := dv, data := .fields #[.ref t1, .none, .none, .none, .bool false, .none] } ∧
  ((fs = [] ∧ dv = none) ∨ ∃ (dx : Addr) (m : Str → Option Value), dv = some dx ∧ h.objs.size ≤ dx ∧ dx ≠ e ∧ h'.Ns1 dx m ∧ ∀ y, m y = fs.lookup y)
section
variable {prog : Program} {w : World} {A : Around} {R : Result → Shared → Prop} {s : Shared} {K : Frag} {C fI : Addr} {params : Arguments} {scope : Scope} {qual : Str} {ex : Expr} {p0 p1 p2 p3 p4 : Pos} {gs : List Tz} {Ok : L2.Hp → List L2.V → Prop} {H0 : L2.Hp} {mg mb : Str → Option Value}
theorem small {l : List Value} {n : Nat} (e : l.length = n) (h : n ≤ 100) : l.length ≤ sizeLine := by
 have : (100 : Nat) ≤ sizeLine := by decide
 omega
theorem made (T : RP prog K C fI params (sup ex p0 p1 p2 p3 p4 :: Qv gs) scope qual) (S : YK K params scope qual ex p0 p1 p2 p3 p4 gs Ok) (hno : ∀ g ∈ gs, findIn K (.ref C) g.1 = some none) {vs : List L2.V} {us : List Value} (X : K.In s.heap) (hlim : s.heap.NoLimit) (hroom : A.depth + 1 < recursionLimit)
 (hG : s.heap.Ns mainGlobals mg) (hg : mg "super" = none) (hB : s.heap.Ns builtinsNs mb) (hb : mb "super" = some (.type "super")) (hH : L2.HOk prog w H0 s.heap) (ok : Ok H0 vs) (rv : L2.Vals vs us) (hl : vs.length = gs.length)
 (hq : ∀ h' tk e, MadeX s.heap h' e C ((gs.map (·.1)).zip us).reverse → R (.ok (.ret (.ref e))) { s with heap := h', toks := tk }) : codeAny (model prog w) A (.call (.ref C) ⟨us, []⟩) R s := by
 have hlu : us.length = gs.length := by rw [← rv.length]; exact hl
 obtain ⟨nm, q, N, bs, bm, sn, sub, ab, col, dd, k0, k1, k2, k3, k5, hC, hbm, hal⟩ := T.cls
 obtain ⟨hp, g, dr, tk, os⟩ := s
 have k : ∀ b o, hp.get? b = some o → ((hp.push (kdv_tup us)).push (excO C hp.objs.size)).get? b = some o := fun b o e => Heap.get?_push_of_some _ (Heap.get?_push_of_some _ e)
 have hget : ((hp.push (kdv_tup us)).push (excO C hp.objs.size)).get? (hp.objs.size + 1) = some (excO C hp.objs.size) := by heap_get
 have hnx : K.lookup (hp.objs.size + 1) = none := ae6 X (Nat.le_succ _)
 refine call_own F.excBase_ValueError (fun X => refsVE_contains X bm hbm) (X _ _ hC) (looks_findIn X T.iC) (fun self => bind_fn X self T.tC) (small hlu S.len) ?_
 refine adg (s := ⟨(hp.push (kdv_tup us)).push (excO C hp.objs.size), g, dr, tk, os⟩) T S hno (X.keeps k) (hlim.keeps k) hget hnx ?_ (hG.keeps k) hg (hB.keeps k) hb hH k ok rv hl fun h' tk' S' => ?_
 · show A.depth + 1 < recursionLimit
   exact hroom
 · have old : ∀ b o, hp.get? b = some o → h'.get? b = some o := fun b o e => S'.keep b o (Nat.ne_of_lt (Nat.lt_succ_of_lt (Heap.lt_size e))) (k b o e)
   refine ⟨rfl, hq h' tk' (hp.objs.size + 1) ⟨old, Nat.le_succ _, ?_⟩⟩
   obtain ⟨t1, dv, e1, e2⟩ := S'.at_
   refine ⟨t1, dv, e1, ?_⟩
   rcases e2 with ⟨e2, e3⟩ | ⟨dx, m, q1, q2, q3, q4, q5⟩
   · exact .inl ⟨e2, e3⟩
   · refine .inr ⟨dx, m, q1, ?_, q3, q4, q5⟩
     have z : hp.objs.size + 1 + 1 ≤ dx := by
      first
       | (simpa only [Heap.size_push] using q2)
       | exact q2
       | (have q := q2; rw [Heap.size_push, Heap.size_push] at q; exact q)
     exact Nat.le_trans (Nat.le_trans (Nat.le_succ _) (Nat.le_succ _)) z
end
end ExS
end PySem
namespace Pk
open PySem PySem.Spec PyProof.Rows L2
open PySem.ExS (RP YK sup Qv Tz)
structure ExC (P : Program) (K : PySem.W.Frag) (T : Tb) (c : Nat) (Ok : Hp → List V → Prop) : Prop where
 tx : ∃ (fI : Addr) (params : Arguments) (scope : Scope) (qual : Str) (ex : Expr) (p0 p1 p2 p3 p4 : Pos) (gs : List Tz),
  RP P K (T.cad c) fI params (sup ex p0 p1 p2 p3 p4 :: Qv gs) scope qual ∧ YK K params scope qual ex p0 p1 p2 p3 p4 gs Ok ∧ (∀ g ∈ gs, PySem.W.findIn K (.ref (T.cad c)) g.1 = some none) ∧ T.fld c = gs.map (·.1) ∧ (T.fld c).Nodup
 kC : PySem.W.keepIn K (.ref (T.cad c)) = true
 exC : PySem.W.subIn K (.ref (T.cad c)) (.type "BaseException") = some true
 tyC : PySem.W.typeIn K (.ref (T.cad c)) = some (.type "type")
section
variable {X : Cx} {T : Tb} {W : WX} {k c : Nat} {x : Str} {a : Expr} {es : List Expr} {ma : M (List D)} {p pos pos2 : Pos} {Ok : Hp → List V → Prop}
def aii (T : Tb) (c : Nat) (Ok : Hp → List V → Prop) (ta : TA) : L2.St → Hp → XK → Prop := fun σ H Q => ta σ H fun vs H1 => Ok H1 vs ∧ vs.length = (T.fld c).length ∧
 (T.fld c = [] → Q (.ref (T.cad c)) none H1) ∧ (∀ d, H1 d = none → Q (.ref (T.cad c)) (some d) (upd H1 d (.xd ((T.fld c).zip vs))))
end
end Pk
namespace PySem
namespace ExS
open PySem.W PySem.Calls PyProof.Rows PySem.HandSPX
end ExS
end PySem
namespace Pk
open PySem PySem.Spec PyProof.Rows L2
open PySem.ExS (RP YK sup Qv Tz)
section
variable {params : Arguments} {scope : Scope} {qual : Str}
end
section
variable {X : Cx} {T : Tb} {W : WX} {k c n : Nat} {x : Str} {a : Expr} {es : List Expr} {ma : M (List D)} {p pos pos2 : Pos} {Ok : Hp → List V → Prop} {chk : List D → Bool}
def YL (c n : Nat) (chk : List D → Bool) (ma : M (List D)) : M Fl := ma.bind fun ds fr h => if ds.length = n ∧ chk ds = true then .exc ⟨c, ds⟩ fr h else .err
end
end Pk
namespace L
open PySem PySem.Spec L2 Pk
def cn : Nat → Str
 | 0 => "Tokens"
 | 1 => "Term"
 | _ => "?"
def top (i : Nat) : Stmt := PySem.Challenge.pw_countrestarts_k78_variants.main.body.getD i (.Pass ⟨0, 0, 0, 0⟩)
abbrev zW : Stmt := top 47
abbrev Pa : List Str := ["_law_script", "_law_at", "_law_cell", "_law_large"]
abbrev JQ : List Str := ["_law_script", "_law_at"]
theorem Wg : FnScope Pa JQ (defScope zW) := ⟨rfl, rfl, rfl, by decide +kernel, rfl, by decide +kernel, by decide +kernel⟩
def JR : PD := ⟨fun K => He.ga K "_law_source", "_law_source", "_law_source", defArgs zW, defBody zW, defScope zW, [], [], false⟩
abbrev Cg : Stmt := top 48
abbrev TF : List Str := ["_law_source_here", "_law_many", "_law_digit", "_law_mixed"]
abbrev Mz : List Str := ["_law_source_here", "_law_many"]
theorem YM : FnScope TF Mz (defScope Cg) := ⟨rfl, rfl, rfl, by decide +kernel, rfl, by decide +kernel, by decide +kernel⟩
def MF : PD := ⟨fun K => He.ga K "_law_draw", "_law_draw", "_law_draw", defArgs Cg, defBody Cg, defScope Cg, [], [], false⟩
abbrev Gy : Stmt := top 49
abbrev Xh : List Str := ["_law_source_here", "_law_some"]
abbrev Qw : List Str := ["_law_source_here", "_law_some"]
theorem abq : FnScope Xh Qw (defScope Gy) := ⟨rfl, rfl, rfl, by decide +kernel, rfl, by decide +kernel, by decide +kernel⟩
def Qx : PD := ⟨fun K => He.ga K "_law_of", "_law_of", "_law_of", defArgs Gy, defBody Gy, defScope Gy, [], [], false⟩
abbrev Ci : Stmt := top 50
abbrev TJ : List Str := ["_law_source_here", "_law_size", "_law_low", "_law_high", "_law_road", "_law_word"]
abbrev MJ : List Str := ["_law_source_here", "_law_size"]
theorem YQ : FnScope TJ MJ (defScope Ci) := ⟨rfl, rfl, rfl, by decide +kernel, rfl, by decide +kernel, by decide +kernel⟩
def MK : PD := ⟨fun K => He.ga K "_law_leaf", "_law_leaf", "_law_leaf", defArgs Ci, defBody Ci, defScope Ci, [], [], false⟩
abbrev xQ : Stmt := inClass (top 40) 1
abbrev KH : List Str := ["self", "readings", "node"]
abbrev Gj : List Str := ["self", "readings", "node"]
theorem Sw : FnScope KH Gj (defScope xQ) := ⟨rfl, rfl, rfl, by decide +kernel, rfl, by decide +kernel, by decide +kernel⟩
def Gk : PD := ⟨fun K => He.ma K (He.ga K "Term") "__init__", "__init__", "Term.__init__", defArgs xQ, defBody xQ, defScope xQ, [], [], false⟩
abbrev Dq : Stmt := top 23
abbrev U3 : List Str := ["text", "at", "end", "signs"]
abbrev Oo : List Str := ["text", "at"]
theorem aae : FnScope U3 Oo (defScope Dq) := ⟨rfl, rfl, rfl, by decide +kernel, rfl, by decide +kernel, by decide +kernel⟩
def Ot : PD := ⟨fun K => He.ga K "word_end", "word_end", "word_end", defArgs Dq, defBody Dq, defScope Dq, [], [], false⟩
abbrev wO : Stmt := inClass (top 24) 0
abbrev Jw : List Str := ["self", "text", "readings", "at", "end"]
abbrev CT : List Str := ["self", "text", "readings"]
theorem Py : FnScope Jw CT (defScope wO) := ⟨rfl, rfl, rfl, by decide +kernel, rfl, by decide +kernel, by decide +kernel⟩
def CV : PD := ⟨fun K => He.ma K (He.ga K "Tokens") "__init__", "__init__", "Tokens.__init__", defArgs wO, defBody wO, defScope wO, [], [], false⟩
abbrev wQ : Stmt := inClass (top 24) 1
abbrev Jx : List Str := ["self"]
abbrev CW : List Str := ["self"]
theorem PB : FnScope Jx CW (defScope wQ) := ⟨rfl, rfl, rfl, by decide +kernel, rfl, by decide +kernel, by decide +kernel⟩
def CZ : PD := ⟨fun K => He.ma K (He.ga K "Tokens") "upcoming", "upcoming", "Tokens.upcoming", defArgs wQ, defBody wQ, defScope wQ, [], [], false⟩
abbrev yE : Stmt := inClass (top 24) 4
abbrev Mg : List Str := ["self", "word"]
abbrev G8 : List Str := ["self", "word"]
theorem Ug : FnScope Mg G8 (defScope yE) := ⟨rfl, rfl, rfl, by decide +kernel, rfl, by decide +kernel, by decide +kernel⟩
def G9 : PD := ⟨fun K => He.ma K (He.ga K "Tokens") "skips", "skips", "Tokens.skips", defArgs yE, defBody yE, defScope yE, [], [], false⟩
abbrev vY : Stmt := inClass (top 24) 5
abbrev Gz : List Str := ["self"]
abbrev Bf : List Str := ["self"]
theorem MN : FnScope Gz Bf (defScope vY) := ⟨rfl, rfl, rfl, by decide +kernel, rfl, by decide +kernel, by decide +kernel⟩
def Bg : PD := ⟨fun K => He.ma K (He.ga K "Tokens") "sees_number", "sees_number", "Tokens.sees_number", defArgs vY, defBody vY, defScope vY, [], [], false⟩
abbrev zp : Stmt := inClass (top 24) 2
abbrev Nv : List Str := ["self"]
abbrev Ib : List Str := ["self"]
theorem U4 : FnScope Nv Ib (defScope zp) := ⟨rfl, rfl, rfl, by decide +kernel, rfl, by decide +kernel, by decide +kernel⟩
def Ie : PD := ⟨fun K => He.ma K (He.ga K "Tokens") "fail", "fail", "Tokens.fail", defArgs zp, defBody zp, defScope zp, [], [], false⟩
abbrev zq : Stmt := inClass (top 24) 3
abbrev Ny : List Str := ["self", "allowed", "word"]
abbrev Wh : List Str := ["self", "allowed"]
theorem U5 : FnScope Ny Wh (defScope zq) := ⟨rfl, rfl, rfl, by decide +kernel, rfl, by decide +kernel, by decide +kernel⟩
def Ig : PD := ⟨fun K => He.ma K (He.ga K "Tokens") "take", "take", "Tokens.take", defArgs zq, defBody zq, defScope zq, [], [], false⟩
abbrev xR : Stmt := inClass (top 24) 6
abbrev KJ : List Str := ["self", "low", "high", "word"]
abbrev Gm : List Str := ["self", "low", "high"]
theorem Sy : FnScope KJ Gm (defScope xR) := ⟨rfl, rfl, rfl, by decide +kernel, rfl, by decide +kernel, by decide +kernel⟩
def Gn : PD := ⟨fun K => He.ma K (He.ga K "Tokens") "number", "number", "Tokens.number", defArgs xR, defBody xR, defScope xR, [], [], false⟩
abbrev Bh : Stmt := top 25
abbrev Qy : List Str := ["tokens", "start", "stop"]
abbrev KN : List Str := ["tokens"]
theorem Xq : FnScope Qy KN (defScope Bh) := ⟨rfl, rfl, rfl, by decide +kernel, rfl, by decide +kernel, by decide +kernel⟩
def KQ : PD := ⟨fun K => He.ga K "read_slice", "read_slice", "read_slice", defArgs Bh, defBody Bh, defScope Bh, [], [], false⟩
abbrev zr : Stmt := top 26
abbrev Nz : List Str := ["tokens", "kind", "measure", "fillings", "filling", "start", "stop"]
abbrev Ih : List Str := ["tokens", "kind", "measure", "fillings"]
theorem U6 : FnScope Nz Ih (defScope zr) := ⟨rfl, rfl, rfl, by decide +kernel, rfl, by decide +kernel, by decide +kernel⟩
def Ii : PD := ⟨fun K => He.ga K "read_filling", "read_filling", "read_filling", defArgs zr, defBody zr, defScope zr, [], [], false⟩
abbrev Cj : Stmt := top 27
abbrev TQ : List Str := ["tokens", "word", "start", "stop", "measure", "fillings"]
abbrev MP : List Str := ["tokens"]
theorem YS : FnScope TQ MP (defScope Cj) := ⟨rfl, rfl, rfl, by decide +kernel, rfl, by decide +kernel, by decide +kernel⟩
def MT : PD := ⟨fun K => He.ga K "read_leaf", "read_leaf", "read_leaf", defArgs Cj, defBody Cj, defScope Cj, [], [], false⟩
abbrev Ck : Stmt := top 28
abbrev TV : List Str := ["tokens", "inner", "word", "left", "right"]
abbrev M3 : List Str := ["tokens"]
theorem YT : FnScope TV M3 (defScope Ck) := ⟨rfl, rfl, rfl, by decide +kernel, rfl, by decide +kernel, by decide +kernel⟩
def M4 : PD := ⟨fun K => He.ga K "read_atom", "read_atom", "read_atom", defArgs Ck, defBody Ck, defScope Ck, [], [], false⟩
abbrev zu : Stmt := top 29
abbrev NB : List Str := ["tokens", "is_negative", "inner", "factor"]
abbrev Ij : List Str := ["tokens", "is_negative"]
theorem U7 : FnScope NB Ij (defScope zu) := ⟨rfl, rfl, rfl, by decide +kernel, rfl, by decide +kernel, by decide +kernel⟩
def Ik : PD := ⟨fun K => He.ga K "read_product", "read_product", "read_product", defArgs zu, defBody zu, defScope zu, [], [], false⟩
abbrev Cm : Stmt := top 30
abbrev TX : List Str := ["tokens", "found", "sign"]
abbrev M5 : List Str := ["tokens"]
theorem YW : FnScope TX M5 (defScope Cm) := ⟨rfl, rfl, rfl, by decide +kernel, rfl, by decide +kernel, by decide +kernel⟩
def M6 : PD := ⟨fun K => He.ga K "read_term", "read_term", "read_term", defArgs Cm, defBody Cm, defScope Cm, [], [], false⟩
abbrev Ke : Stmt := top 31
abbrev aaE : List Str := ["text", "readings", "tokens", "found"]
abbrev Wi : List Str := ["text", "readings"]
theorem adh : FnScope aaE Wi (defScope Ke) := ⟨rfl, rfl, rfl, by decide +kernel, rfl, by decide +kernel, by decide +kernel⟩
def Wj : PD := ⟨fun K => He.ga K "parse", "parse", "parse", defArgs Ke, defBody Ke, defScope Ke, [], [], false⟩
abbrev Bj : Stmt := inClass (top 40) 2
abbrev Qz : List Str := ["cls", "text", "readings"]
abbrev KR : List Str := ["cls", "text", "readings"]
theorem Xr : FnScope Qz KR (defScope Bj) := ⟨rfl, rfl, rfl, by decide +kernel, rfl, by decide +kernel, by decide +kernel⟩
def KY : PD := ⟨fun K => cmA K (He.ga K "Term") "read", "read", "Term.read", defArgs Bj, defBody Bj, defScope Bj, [], [], false⟩
abbrev xT : Stmt := top 51
abbrev KZ : List Str := ["_law_node", "_law_place"]
abbrev Gp : List Str := ["_law_node"]
theorem SJ : FnScope KZ Gp (defScope xT) := ⟨rfl, rfl, rfl, by decide +kernel, rfl, by decide +kernel, by decide +kernel⟩
def Gq : PD := ⟨fun K => He.ga K "_law_leaf_text", "_law_leaf_text", "_law_leaf_text", defArgs xT, defBody xT, defScope xT, [], [], false⟩
abbrev yF : Stmt := top 44
abbrev Mh : List Str := ["node", "measure", "start", "stop", "found", "filling"]
abbrev Hf : List Str := ["node"]
theorem Uh : FnScope Mh Hf (defScope yF) := ⟨rfl, rfl, rfl, by decide +kernel, rfl, by decide +kernel, by decide +kernel⟩
def Hg : PD := ⟨fun K => He.ga K "variant_nodes", "variant_nodes", "variant_nodes", defArgs yF, defBody yF, defScope yF, [], [], false⟩
abbrev Dr : Stmt := top 45
abbrev U8 : List Str := ["leaf", "node"]
abbrev Ou : List Str := ["leaf"]
theorem aaf : FnScope U8 Ou (defScope Dr) := ⟨rfl, rfl, rfl, by decide +kernel, rfl, by decide +kernel, by decide +kernel⟩
def Ov : PD := ⟨fun K => He.ga K "variants", "variants", "variants", defArgs Dr, defBody Dr, defScope Dr, [], [], false⟩
abbrev Bl : Stmt := top 21
abbrev QC : List Str := ["node", "inner"]
abbrev K6 : List Str := ["node"]
theorem Xu : FnScope QC K6 (defScope Bl) := ⟨rfl, rfl, rfl, by decide +kernel, rfl, by decide +kernel, by decide +kernel⟩
def K7 : PD := ⟨fun K => He.ga K "write_leaf", "write_leaf", "write_leaf", defArgs Bl, defBody Bl, defScope Bl, [], [], false⟩
abbrev Cp : Stmt := top 20
abbrev TY : List Str := ["node", "kinds", "text"]
abbrev M7 : List Str := ["node", "kinds"]
theorem YX : FnScope TY M7 (defScope Cp) := ⟨rfl, rfl, rfl, by decide +kernel, rfl, by decide +kernel, by decide +kernel⟩
def M8 : PD := ⟨fun K => He.ga K "bracketed", "bracketed", "bracketed", defArgs Cp, defBody Cp, defScope Cp, [], [], false⟩
abbrev Kf : Stmt := top 22
abbrev aaF : List Str := ["node", "inner", "sign", "kinds"]
abbrev Bm : List Str := ["node"]
theorem YZ : FnScope aaF Bm (defScope Kf) := ⟨rfl, rfl, rfl, by decide +kernel, rfl, by decide +kernel, by decide +kernel⟩
def d_write : PD := ⟨fun K => He.ga K "write", "write", "write", defArgs Kf, defBody Kf, defScope Kf, [], [], false⟩
abbrev Bo : Stmt := inClass (top 40) 3
abbrev QD : List Str := ["self"]
abbrev K8 : List Str := ["self"]
theorem Xv : FnScope QD K8 (defScope Bo) := ⟨rfl, rfl, rfl, by decide +kernel, rfl, by decide +kernel, by decide +kernel⟩
def K9 : PD := ⟨fun K => pgA K (He.ga K "Term") "text", "text", "Term.text", defArgs Bo, defBody Bo, defScope Bo, [], [], false⟩
abbrev yG : Stmt := top 52
abbrev Mi : List Str := ["_law_node", "_law_word", "_law_low", "_law_high", "_law_rows", "_law_row"]
abbrev Hi : List Str := ["_law_node"]
theorem Ui : FnScope Mi Hi (defScope yG) := ⟨rfl, rfl, rfl, by decide +kernel, rfl, by decide +kernel, by decide +kernel⟩
def Hj : PD := ⟨fun K => He.ga K "_law_variants", "_law_variants", "_law_variants", defArgs yG, defBody yG, defScope yG, [], [], false⟩
abbrev zA : Stmt := inClass (top 40) 17
abbrev NK : List Str := ["self", "other"]
abbrev Il : List Str := ["self", "other"]
theorem U9 : FnScope NK Il (defScope zA) := ⟨rfl, rfl, rfl, by decide +kernel, rfl, by decide +kernel, by decide +kernel⟩
def Im : PD := ⟨fun K => He.ma K (He.ga K "Term") "__eq__", "__eq__", "Term.__eq__", defArgs zA, defBody zA, defScope zA, [], [], false⟩
abbrev RQ : Stmt := top 53
abbrev aeC : List Str := ["_law_script", "_law_at", "_law_source_here", "_law_size", "_law_node", "_law_leaf_here", "_law_due", "_law_turn", "_law_found", "_law_one"]
abbrev aha : List Str := ["_law_script"]
theorem agd : FnScope aeC aha (defScope RQ) := ⟨rfl, rfl, rfl, by decide +kernel, rfl, by decide +kernel, by decide +kernel⟩
def aeD : PD := ⟨fun K => He.ga K "law", "law", "law", defArgs RQ, defBody RQ, defScope RQ, [], [], false⟩
def fa : List Fx := [.he (.free "len"),
 .he (.free "abs"),
 .he (.free "int"),
 .he (.glo "_law_draw"),
 .he (.glo "_law_of"),
 .he (.glo "word_end"),
 .he (.glo "read_slice"),
 .he (.glo "read_filling"),
 .he (.glo "read_leaf"),
 .he (.glo "read_atom"),
 .he (.glo "read_product"),
 .he (.glo "Tokens"),
 .he (.glo "read_term"),
 .he (.glo "parse"),
 .he (.glo "Term"),
 .he (.free "str"),
 .he (.glo "variant_nodes"),
 .he (.glo "write"),
 .he (.glo "write_leaf"),
 .he (.glo "bracketed"),
 .he (.free "isinstance"),
 .he (.free "min"),
 .he (.free "max"),
 .he (.free "range"),
 .he (.glo "_law_source"),
 .he (.glo "_law_leaf"),
 .he (.glo "_law_leaf_text"),
 .he (.glo "_law_variants"),
 .he (.glo "variants"),
 .he (.free "list"),
 .he (.cls "Tokens"),
 .he (.noat "Tokens" "readings"),
 .he (.cls "Term"),
 .he (.noat "Term" "readings"),
 .he (.noat "Term" "node"),
 .he (.noat "Tokens" "words"),
 .he (.noat "Tokens" "places"),
 .he (.noat "Tokens" "spot"),
 .prop "Term" "text",
 .he (.meth "Tokens" "upcoming"),
 .he (.meth "Tokens" "fail"),
 .he (.meth "Tokens" "skips"),
 .he (.meth "Tokens" "sees_number"),
 .he (.meth "Tokens" "number"),
 .he (.meth "Term" "__eq__"),
 .he (.meth "Tokens" "take"),
 .raw (fun K => bmX K (He.ga K "Tokens") "take"),
 .he (.str "LETTERS" "abcdefghijklmnopqrstuvwxyz"),
 .he (.str "DIGITS" "0123456789"),
 .he (.glo "OF_TOTALS"),
 .tup (fun K => He.ga K "OF_TOTALS") [.str "first", .str "last", .str "change", .str "rises"],
 .he (.glo "MEASURES"),
 .tup (fun K => He.ga K "MEASURES") [.str "first", .str "last", .str "top", .str "low", .str "change", .str "rises", .str "told"],
 .he (.int "MOST" 1000000),
 .he (.glo "FILLINGS"),
 .tup (fun K => He.ga K "FILLINGS") [.str "raw", .str "zero", .str "held"],
 .he (.glo "TOTALS"),
 .tup (fun K => He.ga K "TOTALS") [.str "zero", .str "held"],
 .raw (fun K => cmX K (He.ga K "Term") "read"),
 .raw (fun K => eqX K (He.ga K "Term")),
 .he (.mkr "Term"),
 .he (.mkr "Tokens"),
 .ins "Tokens",
 .ins "Term",
 .kit (.b "NoneType") (.o 1) false,
 .kit (.b "bool") (.o 1) false,
 .kit (.b "int") (.o 1) false,
 .kit (.b "str") (.o 1) false,
 .kit (.b "tuple") (.o 1) false,
 .kit (.b "list") (.o 1) false,
 .kit (.o 0) (.b "bool") false,
 .kit (.o 0) (.b "int") false,
 .kit (.o 0) (.b "str") false,
 .kit (.o 0) (.b "tuple") false,
 .kit (.o 0) (.b "list") false,
 .kit (.o 0) (.o 1) false,
 .kit (.o 1) (.b "bool") false,
 .kit (.o 1) (.b "int") false,
 .kit (.o 1) (.b "str") false,
 .kit (.o 1) (.b "tuple") false,
 .kit (.o 1) (.b "list") false,
 .kit (.o 1) (.o 1) true,
 .he (.glo "law")]
def fn : List PD := [JR, MF, Qx, MK, Gk, Ot, CV, CZ, G9, Bg, Ie, Ig, Gn, KQ, Ii, MT, M4, Ik, M6, Wj, KY, Gq, Hg, Ov, K7, M8, d_write, K9, Hj, Im, aeD]
abbrev cI (K : PySem.W.Frag) : Prop := RM cn fa fn K
section
open PySem PySem.Spec PyProof.Rows L2
abbrev Rw : PySem.W.OpenRow := PySem.W.OpenLaw.row PySem.Challenge.rw_countrestarts_k78_variants
abbrev hk : PySem.W.Hook := Pk.hookP 7 cn fa fn
def ob (s : PySem.W.SharedT) : Pk.AlP := Pk.obsPG 7 cn fa fn (HandSHeadRun.getT s)
theorem ob_eq (s : PySem.W.SharedT) : ob s = hk.obs s.abs := Pk.obsPG_eq (HandSHeadRun.getT_eq s)
def names : List PySem.Str := "_wall" :: "CountError" :: "Unlike" :: "BadTerm" :: "BadText" :: "filled" :: "amounts" :: "rises_of" :: "told_of" :: "measure_of" :: "leaf_number" :: "measure_of_totals" :: "LETTERS" :: "DIGITS" :: "MEASURES" :: "OF_TOTALS" :: "MOST" :: "bracketed" :: "write_leaf" :: "write" :: "word_end" :: "Tokens" :: "read_slice" :: "read_filling" :: "read_leaf" :: "read_atom" :: "read_product" :: "read_term" :: "parse" :: "is_integer" :: "View" :: "view_of" :: "totals_of" :: "value_of" :: "Term" :: "FILLINGS" :: "TOTALS" :: "variant_nodes" :: "variants" :: "_law_source" :: "_law_draw" :: "_law_of" :: "_law_leaf" :: "_law_leaf_text" :: "_law_variants" :: []
theorem ahG {α β γ δ : Type} {o : Option α} {f : α → β} {g : α → γ} {k : α → δ} {a : β} {b : γ} {c : δ} (h1 : o.map f = some a) (h2 : o.map g = some b) (h3 : o.map k = some c) : o.map (fun s => (f s, g s, k s)) = some (a, b, c) := by
 cases o with
 | none => cases h1
 | some s =>
   cases h1
   cases h2
   cases h3
   rfl
abbrev vw : Program := PySem.W.view Rw.prog [53]
noncomputable abbrev ends (w : World) (os : PySem.OsState) : Option PySem.W.SharedT := HandSHeadRun.endF (HandSHeadRun.stepQ (HandSHeadRun.denQ HandSHeadRun.tabQ) Rw.prog w) 20000 Rw.prog w os
open PySem.W PySem.Calls HandSHeadRun in
set_option maxHeartbeats 0 in
theorem ahb (w : World) (os : PySem.OsState) : (ends w os).map (fun s => looksF Rw.prog (boot_heap w.params) s.abs) = some true := by
 kernel_rfl
open PySem.W PySem.Calls HandSHeadRun in
set_option maxHeartbeats 0 in
theorem ahc (w : World) (os : PySem.OsState) : (ends w os).map (fun s => seenQ vw names (importedModules Rw.prog.main.body) (fun s => xlAt vw [] s && recOk Rw.toRowW.records s) s.abs) = some (openGood vw names) := by
 kernel_rfl
abbrev fr0 (s : PySem.W.SharedT) : PySem.W.Frag := He.frG (HandSHeadRun.getT s) (Pk.asP (HandSHeadRun.getT s) 7)
abbrev nh : Nat := fn.length / 2
set_option maxHeartbeats 0 in
theorem age (w : World) (os : PySem.OsState) : (ends w os).map (fun s => fa.all fun f => f.ok cn (fr0 s)) = some true := by
 kernel_rfl
set_option maxHeartbeats 0 in
theorem agf (w : World) (os : PySem.OsState) : (ends w os).map (fun s => (fn.take nh).all fun d => d.ok (fr0 s)) = some true := by
 kernel_rfl
set_option maxHeartbeats 0 in
theorem agg (w : World) (os : PySem.OsState) : (ends w os).map (fun s => (fn.drop nh).all fun d => d.ok (fr0 s)) = some true := by
 kernel_rfl
theorem all2 {α : Type} {l : List α} {p : α → Bool} {m : Nat} (h1 : (l.take m).all p = true) (h2 : (l.drop m).all p = true) : l.all p = true := by
 rw [← List.take_append_drop m l, List.all_append, h1, h2]
 rfl
theorem ahH {α : Type} {o : Option α} {f g k b : α → Bool} (h1 : o.map f = some true) (h2 : o.map g = some true) (h3 : o.map k = some true) (h : ∀ s, f s = true → g s = true → k s = true → b s = true) : o.map b = some true := by
 cases o with
 | none => cases h1
 | some s => exact congrArg some (h s (Option.some.inj h1) (Option.some.inj h2) (Option.some.inj h3))
theorem ahd (w : World) (os : PySem.OsState) : (ends w os).map (fun s => (ob s).1) = some true :=
 ahH (age w os) (agf w os) (agg w os) fun s h1 h2 h3 => (show ((fa.all fun f => f.ok cn (fr0 s)) && fn.all fun d => d.ok (fr0 s)) = true by rw [h1, all2 h2 h3]; rfl)
abbrev nq : Nat := fn.length / 3
set_option maxHeartbeats 0 in
theorem agh (w : World) (os : PySem.OsState) : (ends w os).map (fun s => (ob s).2.take nq) = some ((fn.map Pk.PD.val).take nq) := by
 kernel_rfl
set_option maxHeartbeats 0 in
theorem agi (w : World) (os : PySem.OsState) : (ends w os).map (fun s => ((ob s).2.drop nq).take nq) = some (((fn.map Pk.PD.val).drop nq).take nq) := by
 kernel_rfl
set_option maxHeartbeats 0 in
theorem agj (w : World) (os : PySem.OsState) : (ends w os).map (fun s => ((ob s).2.drop nq).drop nq) = some (((fn.map Pk.PD.val).drop nq).drop nq) := by
 kernel_rfl
theorem agk {α : Type} {l x : List α} {m : Nat} (h1 : l.take m = x.take m) (h2 : l.drop m = x.drop m) : l = x := by
 rw [← List.take_append_drop m l, h1, h2, List.take_append_drop]
theorem ahI {α β : Type} {o : Option α} {f : α → List β} {x : List β} {m : Nat} (h1 : o.map (fun s => (f s).take m) = some (x.take m)) (h2 : o.map (fun s => ((f s).drop m).take m) = some ((x.drop m).take m)) (h3 : o.map (fun s => ((f s).drop m).drop m) = some ((x.drop m).drop m)) : o.map f = some x := by
 cases o with
 | none => cases h1
 | some s => exact congrArg some (agk (Option.some.inj h1) (agk (Option.some.inj h2) (Option.some.inj h3)))
theorem ahe (w : World) (os : PySem.OsState) : (ends w os).map (fun s => (ob s).2) = some (fn.map Pk.PD.val) := ahI (agh w os) (agi w os) (agj w os)
theorem ahJ {α β γ : Type} {o : Option α} {f : α → β × γ} {a : β} {b : γ} (h1 : o.map (fun s => (f s).1) = some a) (h2 : o.map (fun s => (f s).2) = some b) : o.map f = some (a, b) := by
 cases o with
 | none => cases h1
 | some s =>
   have e1 := Option.some.inj h1
   have e2 := Option.some.inj h2
   exact congrArg some (Prod.ext e1 e2)
theorem run (w : World) : HandSHeadRun.RunEq Rw vw hk ob 20000 names w := fun os => ahG (ahb w os) (ahc w os) (ahJ (ahd w os) (ahe w os))
end
end L
namespace Pk
open PySem PySem.Spec L2
def Y0 {α β : Type} (P : Wd → L2.St → Prop) (run : L2.St → Hp → (β → Hp → Prop) → Prop) (K : PySem.W.Frag) (T : Tb) (W : WX) (VR : wJ β α) (m : M α) : Prop :=
 ∀ (B : Bs) (w : Wd) (σ : L2.St) (H : Hp) (fr : Fr) (h : Hh) (Q : β → Hp → Prop), P w σ → Rel K T B w σ H fr h → bu K T B W (VR K T B σ) w σ (m fr h) Q → run σ H Q
def aij (P : Wd → L2.St → Prop) : Prop := ∀ w w' σ, w.le w' → P w σ → P w' σ
abbrev SqE (P : Wd → L2.St → Prop) (X : Cx) (T : Tb) (W : WX) (e : Expr) (m : M D) : Prop := Y0 P (WE X e) X.K T W vE m
abbrev SqV (P : Wd → L2.St → Prop) (X : Cx) (T : Tb) (W : WX) (e : Expr) (m : M D) : Prop := Y0 P (WE X e) X.K T W vV m
abbrev aik (P : Wd → L2.St → Prop) (X : Cx) (T : Tb) (W : WX) (e : Expr) (m : M Bool) : Prop := Y0 P (WT X e) X.K T W vB m
abbrev SqW (P : Wd → L2.St → Prop) (X : Cx) (T : Tb) (W : WX) (e : Expr) (m : M Bool) : Prop := Y0 P (WW X e) X.K T W vB m
abbrev SqA (P : Wd → L2.St → Prop) (X : Cx) (T : Tb) (W : WX) (es : List Expr) (m : M (List D)) : Prop := Y0 P (WA X es) X.K T W vA m
section
variable {P : Wd → L2.St → Prop} {X : Cx} {T : Tb} {W : WX} {a b c e : Expr} {es rest : List Expr} {m ma mb : M D} {n ta tb tc : M Bool} {ms : List (M D)} {pos : Pos}
end
def Jh (P : Wd → L2.St → Prop) (K : PySem.W.Frag) (T : Tb) (B : Bs) (W : WX) (w : Wd) (r : R Fl) (D : Ends) : Prop :=
 match r with
 | .ok .nx fr h => ∀ w' σ' H', w.le w' → P w' σ' → Rel K T B w' σ' H' fr h → D.nx σ' H'
 | r => tW K T B W w r D
def SqS (P : Wd → L2.St → Prop) (X : Cx) (T : Tb) (W : WX) (st : Stmt) (m : M Fl) : Prop := ∀ (B : Bs) (w : Wd) (σ : L2.St) (H : Hp) (fr : Fr) (h : Hh) (D : Ends), P w σ → Rel X.K T B w σ H fr h → Jh P X.K T B W w (m fr h) D → WS X st D σ H
def abr (P : Wd → L2.St → Prop) (X : Cx) (T : Tb) (W : WX) (sts : List Stmt) (m : M Fl) : Prop := ∀ (B : Bs) (w : Wd) (σ : L2.St) (H : Hp) (fr : Fr) (h : Hh) (D : Ends), P w σ → Rel X.K T B w σ H fr h → Jh P X.K T B W w (m fr h) D → Yg X sts D σ H
section
variable {P : Wd → L2.St → Prop} {K : PySem.W.Frag} {T : Tb} {B : Bs} {W : WX} {w w' : Wd} {σ : L2.St} {H : Hp}
theorem Jh.of {r : R Fl} {D : Ends} (p : tW K T B W w r D) : Jh P K T B W w r D := by
 cases r with
 | ok f fr h =>
   cases f with
   | nx => exact fun w' σ' H' l _ r => p w' σ' H' l r
   | _ => exact p
 | exc e fr h => exact p
 | err => exact p
theorem Jh.le {r : R Fl} {D : Ends} (x : w.le w') (p : Jh P K T B W w r D) : Jh P K T B W w' r D := by
 cases r with
 | ok f fr h =>
   cases f with
   | nx => exact fun w2 σ2 H2 y => p w2 σ2 H2 (Wd.le_trans x y)
   | brk => exact tW.le x (show tW K T B W w (.ok .brk fr h) D from p)
   | ct => exact tW.le x (show tW K T B W w (.ok .ct fr h) D from p)
   | rt d => exact tW.le x (show tW K T B W w (.ok (.rt d) fr h) D from p)
 | exc e fr h => exact tW.le (D := D) (r := .exc e fr h) x p
 | err => exact p
theorem Jh.bind {α β : Type} {VR : Wd → Hp → Fr → β → α → Prop} {m : M α} {f : α → M Fl} {fr : Fr} {h : Hh} {D : Ends} {Q : β → Hp → Prop} (p : Jh P K T B W w (m.bind f fr h) D)
 (k : ∀ d fr1 h1 w1 H1 v, m fr h = .ok d fr1 h1 → w.le w1 → Rel K T B w1 σ H1 fr1 h1 → VR w1 H1 fr1 v d → Jh P K T B W w1 (f d fr1 h1) D → Q v H1) : bu K T B W VR w σ (m fr h) Q := by
 cases e : m fr h with
 | ok d fr1 h1 =>
   rw [M.bind_ok e] at p
   exact fun w1 H1 v x r z => k d fr1 h1 w1 H1 v e x r z (p.le x)
 | exc y fr1 h1 =>
   rw [M.bind_exc e] at p
   exact fun w1 H1 c dd x r z => p w1 σ H1 c dd x r z
 | err =>
   rw [M.bind_err e] at p
   exact p.elim
end
section
variable {P : Wd → L2.St → Prop} {X : Cx} {T : Tb} {W : WX} {k : Nat} {pos pos' p2 : Pos} {e a b c : Expr} {st : Stmt} {sts as bs : List Stmt} {m : M D} {s n : M Fl} {t : M Bool}
end
def PX (K : PySem.W.Frag) (T : Tb) (i : Nat) (a : Addr) (x : bh) (cls : Value) (dd : Option Addr) : Wd → L2.St → Prop := fun w σ => σ[i]? = some (some (.ref a)) ∧ VN K T w x cls dd
theorem VN.mono {K : PySem.W.Frag} {T : Tb} {w w' : Wd} {x : bh} {cls : Value} {dd : Option Addr} (l : w.le w') (h : VN K T w x cls dd) : VN K T w' x cls dd :=
 ⟨h.1, h.2.imp id fun ⟨d, vs, e1, e2, e3⟩ => ⟨d, vs, e1, l.1 _ _ e2, e3.mono l⟩⟩
section
variable {K : PySem.W.Frag} {T : Tb} {i j : Nat} {a : Addr} {x : bh} {cls : Value} {dd : Option Addr}
theorem agl (h : j ≠ i := by decide) : ∀ w σ v, PX K T i a x cls dd w σ → PX K T i a x cls dd w (σ.set j v) := fun w σ v h' => ⟨by rw [ajd h]; exact h'.1, h'.2⟩
end
structure Su (X : Cx) (T : Tb) (i : Nat) (a : Addr) (oe : Obj) (cls : Value) (dd : Option Addr) (pn : List (Addr × Obj)) (y : bh) : Prop where
 hz : Zc cls dd oe
 hf : ∃ vs, oe.data = .fields vs
theorem Su.st {X : Cx} {T : Tb} {i j : Nat} {a : Addr} {oe : Obj} {cls : Value} {dd : Option Addr} {pn : List (Addr × Obj)} {y : bh} (_ : Su X T i a oe cls dd pn y) (h : j ≠ i := by decide) : ∀ w σ v, PX X.K T i a y cls dd w σ → PX X.K T i a y cls dd w (σ.set j v) := agl h
structure ail (K : PySem.W.Frag) (T : Tb) (tab : Tg → Tg → Option Bool) : Prop where
 kit : ∀ t u b, tab t u = some b → PySem.W.kitOne K (t.v T) (u.v T) = some b
 exc : ∀ c u b, tab (.o c) u = some b → L2.ExcC K (T.cad c)
def adi (tab : Tg → Tg → Option Bool) (c : Nat) (d : D) : Option Bool := match d with
 | .tup l => match Ma l with
   | some (u :: us) => KC tab (.o c) (u :: us)
   | _ => none
 | d => match d.ctag with
   | some u => tab (.o c) u
   | none => none
def adk (tab : Tg → Tg → Option Bool) (c : Nat) (mb : M D) : M D := mb.bind fun d => M.opt ((adi tab c d).map .bl)
def DkX (H : Hp) (dd : Option Addr) : Prop := dd = none ∨ ∃ d0 fs, dd = some d0 ∧ H d0 = some (.xd fs)
def aim (K : PySem.W.Frag) (C a : Addr) (dd : Option Addr) : List V → Hp → VK → Prop := fun xs H Q => ∃ (y : V) (b : Bool), xs = [.ref a, y] ∧ L2.ExcC K C ∧ DkX H dd ∧
 ((∃ cv, ClsV y cv ∧ PySem.W.kitOne K (.ref C) cv = some b) ∨ ∃ tp cs us, y = .ref tp ∧ L2.SqT K H tp cs ∧ Paired ClsV cs us ∧ PySem.W.kitAny K (.ref C) us = some b) ∧ Q (.bl b) H
section
variable {X : Cx} {T : Tb} {W : WX} {k i : Nat} {a : Addr} {oe : Obj} {cls : Value} {dd : Option Addr} {x : bh} {pn : List (Addr × Obj)} {tab : Tg → Tg → Option Bool} {b : Expr} {mb : M D} {n : Str} {np pf pos : Pos}
def mXf (j : Nat) (x : bh) : M D := fun fr h => match x.fs[j]? with
 | some d => .ok d fr h
 | none => .err
structure XfF (K : PySem.W.Frag) (T : Tb) (f : Str) (ix : Nat → Option Nat) : Prop where
 at_ : ∀ c j, ix c = some j → (T.fld c)[j]? = some f ∧ (T.fld c).Nodup ∧ XfC K (T.cad c) ∧ PySem.W.findIn K (.ref (T.cad c)) f = some none
def mXF (ix : Nat → Option Nat) (x : bh) : M D := match ix x.c with
 | some j => mXf j x
 | none => fun _ _ => .err
end
def adl (i : Nat) (r : R Fl) : R Fl := match r with
 | .ok .nx fr h => .ok .nx (fr.set i none) h
 | .ok .brk fr h => .ok .brk (fr.set i none) h
 | .ok .ct fr h => .ok .ct (fr.set i none) h
 | r => r
def abt (i : Nat) (cond : Nat → Option Bool) (mb : M Fl) (ms : bh → M Fl) : M Fl := fun fr h => match mb fr h with
 | .exc x fr1 h1 => match cond x.c with
   | some true => if i < fr1.length then adl i (ms x (fr1.set i none) h1) else .err
   | some false => .exc x fr1 h1
   | none => .err
 | r => r
def abu (cond : Nat → Option Bool) (mb : M Fl) (ms : bh → M Fl) : M Fl := fun fr h => match mb fr h with
 | .exc x fr1 h1 => match cond x.c with
   | some true => ms x fr1 h1
   | some false => .exc x fr1 h1
   | none => .err
 | r => r
section
variable {X : Cx} {T : Tb} {W : WX} {k : Nat} {x n : Str} {c : Value} {cond : Nat → Option Bool} {body suite : List Stmt} {b₀ : Stmt} {np pos pos' : Pos} {mb : M Fl} {ms : bh → M Fl}
end
end Pk
namespace PySem
namespace OwO
open PySem.W PySem.Calls PyProof.Rows
section
variable {prog : Program} {w : World} {A : Around} {E : Value → Shared → Prop} {s : Shared} {K : Frag} {x C L f : Addr} {h₀ : Heap} {m : Str → Option Value} {ox : Obj} {od : Option Obj} {t : String} {b : Value} {op : Operator} {Q : Value → Shared → Prop}
def ain (Q : Option Value → Shared → Prop) (v : Value) (s : Shared) : Prop := v ≠ .notImplemented ∧ Q (some v) s
end
section
variable {prog : Program} {w : World} {A : Around} {E : Value → Shared → Prop} {s : Shared} {x C dx : Addr}
end
end OwO
end PySem
namespace Pk
open PySem PySem.Spec L2
structure aio (X : Cx) (T : Tb) (k : Nat) (mt : Nat → Option Fn) : Prop where
 ex : ∀ c F, mt c = some F → ∃ (kk : Nat) (f : Addr) (fd : FuncData) (ps : List Str), Cls X.K (T.cad c) ∧ Meth X.K (T.cad c) (PySem.dunder "mul") f ∧ PySem.W.selfFirst X.K (T.cad c) = true ∧ v9 X.prog X.w X.K X.mg X.base T kk f fd ps F ∧ Bn X.K T fd ps 2 [] (aK []) ∧ kk ≤ k ∧
  ∃ g, PySem.W.findIn X.K (.ref (T.cad c)) (PySem.dunderR "mul") = some (some (.ref g))
structure ah4 (X : Cx) (T : Tb) (k : Nat) (mt : Nat → Option Fn) : Prop where
 ex : ∀ c F, mt c = some F → ∃ (kk : Nat) (f : Addr) (fd : FuncData) (ps : List Str), Cls X.K (T.cad c) ∧ Meth X.K (T.cad c) (PySem.dunderR "mul") f ∧ PySem.W.selfFirst X.K (T.cad c) = true ∧ v9 X.prog X.w X.K X.mg X.base T kk f fd ps F ∧ Bn X.K T fd ps 2 [] (aK []) ∧ kk ≤ k ∧
  (∃ g, PySem.W.findIn X.K (.ref (T.cad c)) (PySem.dunder "mul") = some (some (.ref g))) ∧ PySem.W.subIn X.K (.ref (T.cad c)) (.type "int") = some false ∧ PySem.W.subIn X.K (.ref (T.cad c)) (.type "bool") = some false
def D.bty (h : Hh) (d : D) : Option String := match d.tag h with
 | some (.b t) => some t
 | _ => none
def abv (mt : Nat → Option Fn) (ma mb : M D) : M D := ma.bind fun x => mb.bind fun y fr h => match fnOf mt h x, y.bty h with
 | some F, some _ => vD fr (F [x, y] h)
 | _, _ => .err
def D.smp : D → Bool
 | .non => true
 | .bl _ => true
 | .int _ => true
 | _ => false
def abw (mt : Nat → Option Fn) (ma mb : M D) : M D := ma.bind fun x => mb.bind fun y fr h => match fnOf mt h y, x.smp with
 | some F, true => vD fr (F [y, x] h)
 | _, _ => .err
section
variable {X : Cx} {T : Tb} {W : WX} {k : Nat} {a b : Expr} {ma mb : M D} {pos : Pos}
theorem aaG {K : PySem.W.Frag} {B : Bs} {w : Wd} {σ : L2.St} {H : Hp} {fr : Fr} {h : Hh} {v : V} {d : D} {t : String} (R : Rel K T B w σ H fr h) (rv : rC K T w v d) (e : d.bty h = some t) : TyX K H v (.type t) ∧ t ∈ JN := by
 unfold D.bty at e
 split at e
 · rename_i t' et
   cases e
   have mem : t ∈ JN := by
    unfold D.tag at et
    split at et <;> first | (cases et; decide) | cases et
   have e2 : abn [] (.b t) (.b t) = some true := by
    have : ∀ t ∈ JN, abn [] (.b t) (.b t) = some true := by decide +kernel
    exact this t mem
   exact ⟨Nt (u := .b t) (bb := true) (acA (K := K) (T := T) (l := []) .nil) R (.inl rv) et e2, mem⟩
 · cases e
end
end Pk
namespace Pk
open PySem PySem.Spec L2
def ahK (l : List ((Tg × Tg) × Bool)) : Tg → Tg → Option Bool := fun t u => aja (t, u) l
inductive abx (K : PySem.W.Frag) (T : Tb) : List ((Tg × Tg) × Bool) → Prop where
 | nil : abx K T []
 | cons {c : Nat} {u : Tg} {b : Bool} {l : List ((Tg × Tg) × Bool)} (q : PySem.W.kitOne K (.ref (T.cad c)) (u.v T) = some b) (i : L2.ExcC K (T.cad c)) (r : abx K T l) : abx K T (((.o c, u), b) :: l)
end Pk
namespace Pk
open PySem PySem.Spec L2
def Gr (mt : Nat → Option Fn) (o : D) (as : List D) : M D := fun fr h => match fnOf mt h o with
 | some F => match F (o :: as) h with
   | .ok d _ h => .ok d fr h
   | _ => .err
 | none => .err
def Ow (mt : Nat → Option Fn) (o : D) (as : List D) : M D := fun fr h => match fnOf mt h o with
 | some F => vD fr (F (o :: as) h)
 | none => .err
section
variable {X : Cx} {T : Tb} {W : WX} {k kk j n : Nat} {f C : Addr} {fd : FuncData} {ps ks : List Str} {F : Fn} {m : Str} {pos pf : Pos} {a b : Expr} {ma mb : M D}
theorem acB {A : Around} {pins : List (Addr × Obj)} {σ : L2.St} {H : Hp} {s : Shared} {Q : VK} {us : List Value} {vs : List V} {g : List Value → List Value → List Value} {gV : List V → List V → List V} {sp : Sp} {E : XK} (F : FnOk X.prog X.w X.K X.mg X.base (L2.CX X.prog X.w) kk f fd ps sp) (hr : Room kk A) (e0 : Env0 X.prog X.w X.K X.mg X.base A X.stack s H) (hb : KBn X.K fd ps n [] g gV)
 (hx : ∀ e s', L2.CX X.prog X.w X.stack H s E e s' → X.xe e s') (I : Inv X pins σ H s) (r : Vals vs us) (l1 : vs.length = n) (h : sp (gV vs []) H Q E) : wpAny (model X.prog X.w) A (call (.ref f) us) (EP X pins σ Q) X.xe s := by
 have r2 := hb.rel r (.nil : Vals [] [])
 refine wpAny_call (codeAny_mono (F.run A X.stack s H ⟨us, []⟩ (g us []) (gV vs []) Q _ hr e0 (hb.to s us [] I.kIn (r.length.symm.trans l1) rfl) r2 h) fun r s' hq => ?_)
 cases r with
 | error e => exact hx e s' hq
 | ok fl =>
   cases fl with
   | ret u => exact I.after hq
   | next => exact False.elim hq
   | brk => exact False.elim hq
   | cont => exact False.elim hq
theorem aaH {H : Hp} {s : Shared} (e : Value) (s' : Shared) : L2.CX X.prog X.w X.stack H s (fun _ _ _ => False) e s' → X.xe e s' := fun c => by
 obtain ⟨a, B, H', cls, d, rfl, fl, hok, ub, na, os, ag, hE⟩ := c
 exact hE.elim
structure OwnRun (X : Cx) (T : Tb) (k n : Nat) (m : Str) (v : V) (H : Hp) (vs : List V) (Q : VK) (E : XK) : Prop where
 ex : ∃ (kk : Nat) (f : Addr) (fd : FuncData) (ps : List Str) (a C dx : Addr) (fs : List (Str × V)) (G : Fn), v = .ref a ∧ H a = some (.ins C dx fs) ∧ Cls X.K C ∧ Meth X.K C m f ∧ v9 X.prog X.w X.K X.mg X.base T kk f fd ps G ∧ kk ≤ k ∧
  ∃ g gV, KBn X.K fd ps (n + 1) [] g gV ∧ spF X.K T ps.length G (gV (.ref a :: vs) []) H Q E
theorem ae7 {mt : Nat → Option Fn} {B : Bs} {w : Wd} {σ : L2.St} {H : Hp} {fr : Fr} {h : Hh} {v : V} {d : D} {vs : List V} {as : List D} {Q : VK} (Mf : Do X T j m mt n [] (aK [])) (R : Rel X.K T B w σ H fr h) (rv : rC X.K T w v d) (rs : aO X.K T w vs as) (hl : as.length = n)
 (p : bu X.K T B W (vE X.K T B σ) w σ (Ow mt d as fr h) Q) : OwnRun X T j n m v H vs Q (fun c d H' => W c d σ H') := by
 unfold Ow at p
 cases ef : fnOf mt h d with
 | none => rw [ef] at p; exact p.elim
 | some G =>
   rw [ef] at p
   obtain ⟨kk, f, fd, ps, a, Cl, dx, fs, rfl, eH, l, c1, c2, c3, c4, c5⟩ := Qs Mf R rv ef
   obtain ⟨g, gV, hb, hgD⟩ := c4.ex
   refine ⟨kk, f, fd, ps, a, Cl, dx, fs, G, rfl, eH, c1, c2, c3, c5, g, gV, hb, ?_⟩
   have p4 : bu X.K T B W (vE X.K T B σ) w σ (if (d :: as).length = n + 1 ∧ ([] : List D).length = 0 then vD fr (G (aK [] (d :: as) []) h) else .err) Q := by
    rw [if_pos ⟨by rw [aiU, hl], rfl⟩]
    show bu X.K T B W (vE X.K T B σ) w σ (vD fr (G (d :: as ++ []) h)) Q
    rw [aiS]
    exact p
   exact (Kz (n := n + 1) (m := 0) (zs := []) (es := []) (ds := d :: as) hgD R (.cons rv rs) .nil p4).2.2
theorem acC {mt : Nat → Option Fn} {B : Bs} {w : Wd} {σ : L2.St} {H : Hp} {fr : Fr} {h : Hh} {v : V} {d : D} {vs : List V} {as : List D} {Q : VK} (Mf : Do X T j m mt n [] (aK [])) (R : Rel X.K T B w σ H fr h) (rv : rC X.K T w v d) (rs : aO X.K T w vs as) (hl : as.length = n)
 (p : bu X.K T B W (vE X.K T B σ) w σ (Gr mt d as fr h) Q) : OwnRun X T j n m v H vs Q (fun _ _ _ => False) := by
 refine ae7 (W := WF) Mf R rv rs hl ?_
 unfold Gr at p
 unfold Ow
 cases ef : fnOf mt h d with
 | none => rw [ef] at p; exact p.elim
 | some G =>
   rw [ef] at p
   dsimp only at p ⊢
   cases e : G (d :: as) h with
   | ok d' fr' h' => rw [e] at p; exact p
   | exc _ _ _ => rw [e] at p; exact p.elim
   | err => rw [e] at p; exact p.elim
def aby (d : D) : M D := fun fr h => match d with
 | .int i => if 0 ≤ i ∧ i < 2 ^ 60 then .ok (.int i) fr h else .err
 | _ => .err
def abz (mt : Nat → Option Fn) (ma : M D) : M D := ma.bind fun o => (Gr mt o []).bind aby
theorem ahf {K : PySem.W.Frag} {B : Bs} {σ : L2.St} {w : Wd} {H : Hp} {fr : Fr} {v : V} {i : Bool} (r : vE K T B σ w H fr v (.bl i)) : v = .bl i := by
 rcases r with r | ⟨_, _, _, _, _, _, r⟩
 · exact aca r
 · cases r
def abA (mt : Nat → Option Fn) (ma mb : M D) : M D := ma.bind fun o => mb.bind fun i => Ow mt o [i]
def adm (X : Cx) (T : Tb) (W : WX) (VR2 : wJ V D) (op : CmpOp) (g : D → D → M Bool) : Prop :=
 ∀ B w σ H fr h x y d e Q, Rel X.K T B w σ H fr h → rC X.K T w x d → VR2 X.K T B σ w H fr y e → bu X.K T B W (vB X.K T B σ) w σ (g d e fr h) Q → rM X (compareOp op) x y H (fun z H' => ∃ c, z = .bl c ∧ Q c H')
def Wk {α : Type} (g : D → D → M α) (ma mb : M D) : M α := ma.bind fun x => mb.bind fun y => g x y
theorem ae8 {op : CmpOp} {VR2 : wJ V D} {g : D → D → M Bool} (o : adm X T W VR2 op g) (sa : cO X T W a ma) (sb : wF (WE X b) X.K T W VR2 mb) (hm : behindInMarks op b = false := by with_unfolding_all rfl) :
 Gi X T W (.Compare a [op] [b] pos) (Wk g ma mb) := fun B w σ H fr h Q r1 p =>
 Ru (pt_cmpR Jq mZ mZ hm) (sa B w σ H fr h (fun x H1 => WE X b σ H1 fun y H2 => rM X (compareOp op) x y H2 fun z H' => ∃ k, z = .bl k ∧ Q k H') r1 (bu.bind (VR := vV X.K T B σ) p fun d fr1 h1 w1 H1 x e1 l1 r1 rx p1 =>
  sb B w1 σ H1 fr1 h1 _ r1 (bu.bind (VR := VR2 X.K T B σ) p1 fun e fr2 h2 w2 H2 y e2 l2 r2 ry p2 => o B w2 σ H2 fr2 h2 x y d e Q r2 (rx.mono l2) ry p2)))
def Y4 (d : D) : M Bool := M.opt d.tb
theorem aaI {B : Bs} {w : Wd} {σ : L2.St} {m : M D} {fr : Fr} {h : Hh} {Q : Bool → Hp → Prop} {c : Bool → Bool} (p : bu X.K T B W (vB X.K T B σ) w σ ((m.bind fun d => (Y4 d).bind fun b => M.ret (c b)) fr h) Q) : bu X.K T B W (vE X.K T B σ) w σ (m fr h) (fun v H' => ∃ b, v = .bl b ∧ Q (c b) H') :=
 bu.bind p fun d fr2 h2 w2 H2 v e2 l2 r2 rv2 p3 => by
  unfold Y4 M.bind at p3
  cases d with
  | bl b => exact ⟨b, ahf rv2, p3 w2 H2 _ (Wd.le_refl _) r2 rfl⟩
  | _ => exact p3.elim
def gIn (mt : Nat → Option Fn) (c : Bool → Bool) (x o : D) : M Bool := (Gr mt o [x]).bind fun d => (Y4 d).bind fun b => M.ret (c b)
end
end Pk
namespace PySem
namespace OwE
open PySem.W PySem.Calls PyProof.Rows
section
variable {prog : Program} {w : World} {M : Model} {A : Around} {E : Value → Shared → Prop} {s : Shared} {K : Frag} {x C f : Addr} {ox : Obj} {od : Option Obj} {b tb : Value}
end
end OwE
end PySem
namespace Pk
open PySem PySem.Spec L2
def eqX (K : PySem.W.Frag) (C : Addr) : Bool := He.eqO (PySem.W.findIn K (.ref C) "__ne__") (some (some (.builtin "object.__ne__"))) && (decide (PySem.W.mroIn K C (.type "object") = some true) && (JN.all (fun t => PySem.W.notFirst K C (.type t)) && JN.all fun t => decide (PySem.W.subIn K (.ref C) (.type t) = some false)))
structure EqX (K : PySem.W.Frag) (C : Addr) : Prop where
 ne : PySem.W.findIn K (.ref C) "__ne__" = some (some (.builtin "object.__ne__"))
 ob : PySem.W.mroIn K C (.type "object") = some true
 nf : ∀ t ∈ JN, PySem.W.notFirst K C (.type t) = true
 nb : ∀ t ∈ JN, PySem.W.subIn K (.ref C) (.type t) = some false
theorem agq {K : PySem.W.Frag} {C : Addr} (h : eqX K C = true) : EqX K C := by
 obtain ⟨c1, h⟩ := He.ba h
 obtain ⟨c2, h⟩ := He.ba h
 obtain ⟨c3, c4⟩ := He.ba h
 exact ⟨He.eqO_ok c1, of_decide_eq_true c2, fun t ht => List.all_eq_true.mp c3 t ht, fun t ht => of_decide_eq_true (List.all_eq_true.mp c4 t ht)⟩
structure EqF (K : PySem.W.Frag) (T : Tb) (mt : Nat → Option Fn) : Prop where
 ex : ∀ c F, mt c = some F → EqX K (T.cad c)
def Va (mt : Nat → Option Fn) (c : Bool → Bool) (x y : D) : M Bool := fun fr h => if (y.bty h).isSome || (CG h x y).isSome then ((Gr mt x [y]).bind fun d => (Y4 d).bind fun b => M.ret (c b)) fr h else .err
section
variable {X : Cx} {T : Tb} {W : WX} {k j : Nat}
theorem Y5 {mt : Nat → Option Fn} {h : Hh} {d : D} {G : Fn} (e : fnOf mt h d = some G) : ∃ c fs, d.ins h = some (c, fs) ∧ mt c = some G := by
 unfold fnOf at e
 split at e
 · rename_i c fs ei
   exact ⟨c, fs, ei, e⟩
 · cases e
theorem adn {mt : Nat → Option Fn} {B : Bs} {w : Wd} {σ σ' : L2.St} {H : Hp} {fr : Fr} {h : Hh} {x y : V} {d e : D} {u : Value} {pins : List (Addr × Obj)} {s : Shared} {a' Cl dx : Addr} {fs : List (Str × V)} (Ef : EqF X.K T mt) (R : Rel X.K T B w σ H fr h) (rx : rC X.K T w x d) (ry : rC X.K T w y e)
 (hc : ((e.bty h).isSome || (CG h d e).isSome) = true) (hG : fnOf mt h d ≠ none) (I : Inv X pins σ' H s) (ru : RelV y u) (ex : x = .ref a') (eH : H a' = some (.ins Cl dx fs)) : EqX X.K Cl ∧ ∃ tb, PySem.W.Looks (model X.prog X.w) s.heap (typeOf u) tb ∧ PySem.W.notFirst X.K Cl tb = true := by
 obtain ⟨c, gs, ei, em⟩ : ∃ c gs, d.ins h = some (c, gs) ∧ ∃ G, mt c = some G := by
  cases q : fnOf mt h d with
  | none => exact absurd q hG
  | some G =>
    obtain ⟨c, gs, e1, e2⟩ := Y5 q
    exact ⟨c, gs, e1, G, e2⟩
 obtain ⟨G, em⟩ := em
 obtain ⟨p1, dx1, vs1, e1, eH1, _⟩ := HW R (.inl rx) ei
 have ep : p1 = a' := V.ref.inj (e1.symm.trans ex)
 subst ep
 have eo := Option.some.inj (eH1.symm.trans eH)
 injection eo with eC _ _
 subst eC
 have Eq := Ef.ex c G em
 refine ⟨Eq, ?_⟩
 rcases Bool.or_eq_true_iff.mp hc with z | z
 · obtain ⟨t, et⟩ := Option.isSome_iff_exists.mp z
   obtain ⟨ty, ht⟩ := aaG R ry et
   obtain ⟨P, Z, p, _⟩ := kit_of I ru ty
   exact ⟨.type t, Z.ty (model X.prog X.w) s.heap I.kIn p, Eq.nf t ht⟩
 · obtain ⟨c', ec⟩ := Option.isSome_iff_exists.mp z
   obtain ⟨⟨fs1, i1⟩, gs2, i2⟩ := adc ec
   have : c' = c := by
    rw [ei] at i1
    cases i1
    rfl
   subst this
   obtain ⟨p2, dy, vs2, rfl, eH2, _⟩ := HW R (.inl ry) i2
   obtain rfl : u = Value.ref p2 := ru
   obtain ⟨mB, J', _⟩ := ins_get I.hok eH2
   obtain ⟨od', J', _⟩ := J'.look
   exact ⟨_, J'.type, by unfold PySem.W.notFirst; simp⟩
theorem ado {mt : Nat → Option Fn} {c : Bool → Bool} {B : Bs} {w : Wd} {σ : L2.St} {fr : Fr} {h : Hh} {d e : D} {Q : Bool → Hp → Prop} (p : bu X.K T B W (vB X.K T B σ) w σ (Va mt c d e fr h) Q) :
 ((e.bty h).isSome || (CG h d e).isSome) = true ∧ fnOf mt h d ≠ none ∧ bu X.K T B W (vE X.K T B σ) w σ (Gr mt d [e] fr h) (fun v H' => ∃ b, v = .bl b ∧ Q (c b) H') := by
 unfold Va at p
 cases hc : ((e.bty h).isSome || (CG h d e).isSome) with
 | false => rw [hc] at p; exact p.elim
 | true =>
   rw [hc, if_pos rfl] at p
   have p' := aaI p
   refine ⟨rfl, fun z => ?_, p'⟩
   have q : Gr mt d [e] fr h = .err := by unfold Gr; rw [z]
   rw [q] at p'
   exact p'
theorem ae9 {mt : Nat → Option Fn} (C : Cq X T W k) (hk : j + 1 ≤ k) (Mf : Do X T j "__eq__" mt 1 [] (aK [])) (Ef : EqF X.K T mt) : adm X T W vV .Eq (Va mt fun b => b) := fun B w σ H fr h x y d e Q R rx ry p => by
 obtain ⟨hc, hG, p'⟩ := ado p
 obtain ⟨kk, f, fd, ps, a', Cl, dx, fs, G, ex, eH, c1, c2, c3, c5, g, gV, hb, q⟩ := (acC Mf R rx (.cons ry .nil) rfl p').ex
 intro pins s σ' v u I rv ru
 obtain ⟨Eq, tb, lk, nf⟩ := adn Ef R rx ry hc hG I ru ex eH
 subst ex
 obtain rfl : v = Value.ref a' := rv
 obtain ⟨mA, J, _⟩ := ins_get I.hok eH
 obtain ⟨od, J, _⟩ := J.look
 obtain ⟨m, hF⟩ := I.fr
 show wpAny _ _ (richCompare .Eq _ _) _ _ _
 have hu : X.A.units < cLine := by
  have := C.u
  omega
 refine PySem.W.cmp_K (op := .Eq) hu hF I.ok.mod.kin J lk nf c2.at_ c2.fn (wpAny_mono (acB (n := 1 + 1) (us := [.ref a', u]) (vs := [.ref a', y]) c3.ok (C.room.mono (Nat.le_trans c5 (Nat.le_of_succ_le hk))) I.env0 hb aaH I (.cons rfl (.cons ru .nil)) rfl q) (fun r s' z => ?_) fun _ _ z => z)
 obtain ⟨z', H', I', rz, b, eb, qz⟩ := z
 subst eb
 exact abp ⟨.bl b, H', I', rz, b, rfl, qz⟩
end
end Pk
namespace Pk
open PySem PySem.Spec L2
def Vb (K : PySem.W.Frag) (C : Addr) : Bool := PySem.W.readsIn K C (.type "type") && He.eqO (PySem.W.specialIn K (.ref C) "__getattribute__") (some (some (.builtin "type.__getattribute__")))
theorem acD {K : PySem.W.Frag} {C : Addr} (h : Vb K C = true) : ClX.CRead K C (.type "type") := by
 obtain ⟨c1, c2⟩ := He.ba h
 exact ⟨c1, He.eqO_ok c2⟩
def ccA (K : PySem.W.Frag) (C : Addr) (f : Str) : Addr := match PySem.W.findCls K (.ref C) (.type "type") f with
 | some (.val (.ref a)) => a
 | _ => 0
def ah5 (K : PySem.W.Frag) (C : Addr) (f : Str) (vs : List He.Dv) : Bool := Vb K C && ((match PySem.W.findCls K (.ref C) (.type "type") f with
 | some (.val (.ref a)) => decide (a = ccA K C f)
 | _ => false) && abl K (ccA K C f) vs)
structure ah6 (X : Cx) (T : Tb) (c : Nat) (f : Str) (d : D) : Prop where
 ex : ∃ (u : Value) (v : V), ClX.CRead X.K (T.cad c) (.type "type") ∧ ClX.CVal X.K (T.cad c) (.type "type") f v u ∧ rC X.K T ⟨fun _ => none, []⟩ v d
section
variable {X : Cx} {T : Tb} {W : WX} {k c : Nat} {x f : Str} {p pos : Pos} {d : D}
end
end Pk
namespace PySem
namespace OwB
open PySem.W PySem.Calls PyProof.Rows
section
variable {prog : Program} {w : World} {A : Around} {E : Value → Shared → Prop} {s : Shared} {K : Frag} {x C f : Addr} {ox : Obj} {od : Option Obj}
def ahS (Q : Bool → Shared → Prop) (v : Value) (s' : Shared) : Prop := match v with
 | .int n _ => (0 ≤ n ∧ n < 2 ^ 63) ∧ Q (n != 0) { s' with toks := s'.toks + 1 }
 | _ => False
end
end OwB
end PySem
namespace Pk
open PySem PySem.Spec L2
section
variable {X : Cx} {T : Tb} {W : WX} {k kk j n c : Nat} {pos pf px apos cpos p : Pos} {a b e : Expr} {es : List Expr} {ma mb m : M D} {m1 : M (List D)} {x f : Str}
structure NoB (K : PySem.W.Frag) (T : Tb) (mt : Nat → Option Fn) : Prop where
 ex : ∀ c F, mt c = some F → PySem.W.findIn K (.ref (T.cad c)) "__bool__" = some none
def aip (K : PySem.W.Frag) (C : Addr) : Bool := He.eqO (PySem.W.findIn K (.ref C) "__bool__") (some none)
def Y6 (mt : Nat → Option Fn) (ma : M D) : M D := ma.bind fun o => (Gr mt o []).bind fun d => (aby d).bind fun d => M.opt (match d with
 | .int i => some (.bl (i != 0))
 | _ => none)
theorem aO.eraseIdx {K : PySem.W.Frag} {w : Wd} : ∀ {vs : List V} {ds : List D} (n : Nat), aO K T w vs ds → aO K T w (vs.eraseIdx n) (ds.eraseIdx n)
 | _, _, _, .nil => .nil
 | _, _, 0, .cons _ t => t
 | _, _, n + 1, .cons h t => .cons h (aO.eraseIdx n t)
def Kg (i : Nat) (d : D) : M D := fun fr h => match fr[i]?, d with
 | some (some (.nl l)), .int j => if -(2 ^ 63) ≤ j ∧ j < 2 ^ 63 then (match seqIndex? j l.length with
   | some q => (match l[q]? with
     | some y => .ok y (fr.set i (some (.nl (l.eraseIdx q)))) h
     | none => .err)
   | none => .err) else .err
 | _, _ => .err
def abB (i : Nat) (m : M D) : M D := (mO i wj).bind fun _ => m.bind fun d => Kg i d
theorem adp {A : Around} {pins : List (Addr × Obj)} {σ : L2.St} {H : Hp} {s : Shared} {Q : VK} {us : List Value} {vs : List V} {g : List Value → List Value → List Value} {gV : List V → List V → List V} {sp : Sp} {E : XK} {f : Addr} {fd : FuncData} {ps : List Str} (F : FnOk X.prog X.w X.K X.mg X.base (L2.CX X.prog X.w) kk f fd ps sp) (hr : Room kk A) (e0 : Env0 X.prog X.w X.K X.mg X.base A X.stack s H) (hb : KBn X.K fd ps n [] g gV)
 (hx : ∀ e s', L2.CX X.prog X.w X.stack H s E e s' → X.xe e s') (I : Inv X pins σ H s) (r : Vals vs us) (l1 : vs.length = n) (h : sp (gV vs []) H Q E) :
 codeAny (model X.prog X.w) A (.call (.ref f) ⟨us, []⟩) (fun r s' => match r with | .ok (.ret v) => EP X pins σ Q v s' | .ok _ => False | .error e => X.xe e s') s := by
 have r2 := hb.rel r (.nil : Vals [] [])
 refine codeAny_mono (F.run A X.stack s H ⟨us, []⟩ (g us []) (gV vs []) Q _ hr e0 (hb.to s us [] I.kIn (r.length.symm.trans l1) rfl) r2 h) fun r s' hq => ?_
 cases r with
 | error e => exact hx e s' hq
 | ok fl =>
   cases fl with
   | ret u => exact I.after hq
   | next => exact False.elim hq
   | brk => exact False.elim hq
   | cont => exact False.elim hq
structure CmF (X : Cx) (T : Tb) (k c : Nat) (m : Str) (n : Nat) (F : Fn) : Prop where
 ex : ∃ (kk : Nat) (p f : Addr) (fd : FuncData) (ps : List Str), ClX.CRead X.K (T.cad c) (.type "type") ∧ ClX.CMet X.K (T.cad c) (.type "type") m p f ∧ v9 X.prog X.w X.K X.mg X.base T kk f fd ps F ∧ Bn X.K T fd ps (n + 1) [] (aK []) ∧ kk ≤ k
def cmA (K : PySem.W.Frag) (C : Addr) (m : Str) : Addr := match PySem.W.findCls K (.ref C) (.type "type") m with
 | some (.get _ (.ref p) _ _) => (match PySem.W.recIn K p "classmethod" with
   | some (.ref g :: _) => g
   | _ => 0)
 | _ => 0
def cmX (K : PySem.W.Frag) (C : Addr) (m : Str) : Bool := Vb K C && (match PySem.W.findCls K (.ref C) (.type "type") m with
 | some (.get (.builtin i) (.ref p) .none (.ref C')) => decide (i = "classmethod.__get__") && (decide (C' = C) && ((match PySem.W.recIn K p "classmethod" with
   | some (.ref g :: _) => decide (g = cmA K C m)
   | _ => false) && PySem.W.fnIn K (cmA K C m)))
 | _ => false)
theorem ags {K : PySem.W.Frag} {C : Addr} {m : Str} (h : cmX K C m = true) : ClX.CRead K C (.type "type") ∧ ∃ p, ClX.CMet K C (.type "type") m p (cmA K C m) := by
 obtain ⟨c1, h⟩ := He.ba h
 refine ⟨acD c1, ?_⟩
 split at h
 · rename_i i p C' e
   obtain ⟨h1, h⟩ := He.ba h
   obtain ⟨h2, h⟩ := He.ba h
   obtain ⟨h3, h4⟩ := He.ba h
   have e1 := of_decide_eq_true h1
   have e2 := of_decide_eq_true h2
   subst e1 e2
   refine ⟨p, e, ?_, h4⟩
   split at h3
   · rename_i g rest er
     rw [er, of_decide_eq_true h3]
     exact ⟨rest, rfl⟩
   · cases h3
 · cases h
def mCm (n c : Nat) (F : Fn) (ma : M (List D)) : M D := ma.bind fun ds fr h => if ds.length = n then vD fr (F (.cls c :: ds) h) else .err
theorem ahg {F : Fn} {me : Str} {pl : Sem Bool} (C : Cq X T W k) (Cf : CmF X T k c me n F) (hm : X.mg x = some (.ref (T.cad c))) (sa : CP X T W (e :: es) m1) (hg : Gl X x := by rfl) (hdb : (x == ("__debug__" : Str)) = false := by decide)
 (hst : starEach (e :: es) X.env = (false, eval e X.env) :: starEach es X.env := by exact uG rfl) (hpl : (backTo pos (starEach es X.env)).any (·.1) = false := by rfl)
 (ht : eval (.Call (.Attribute (.Name x p) me apos) (e :: es) [] pos) X.env = (do
  let ov ← eval (.Name x p) X.env
  standAt apos.atName
  let (f, first) ← holding [ov] (getMethod ov me pl)
  callWith pos f first (backTo pos (starEach (e :: es) X.env)) (backToKw pos (keywordEach [] X.env))) := by rfl) :
 zQ X T W (.Call (.Attribute (.Name x p) me apos) (e :: es) [] pos) (mCm n c F m1) := fun B w σ H fr h Q R pp => WE.mk <| fun pins s I => by
 obtain ⟨kk, pa, f, fd, ps, cr, cm, fp, bn, hk⟩ := Cf.ex
 obtain ⟨g, gV, hb, hgD⟩ := bn.ex
 refine PySem.W.methodCall_KW (pl := pl) (thn (((acx (T := T) (W := W) (c := c) hm hg hdb) B w σ H fr h (fun v H1 => v = .ref (T.cad c) ∧ WA X (e :: es) σ H1 fun vs H2 => vs.length = n ∧ spF X.K T ps.length F (gV (.ref (T.cad c) :: vs) []) H2 Q (fun c d H' => W c d σ H')) R (fun w1 H1 v l1 R1 rv => ?_)).go pins s I) fun u s1 ⟨z, H1, I1, rx, ez, q⟩ => ?_) ht
 · cases rv with
   | cls _ =>
     refine ⟨rfl, sa B w1 σ H1 fr h _ R1 (bu.bind (VR := vA X.K T B σ) (pp.le l1) fun ds fr2 h2 w2 H2 vs e2 l2 r2 rs p3 => ?_)⟩
     have p4 : bu X.K T B W (vE X.K T B σ) w2 σ (if ds.length = n then vD fr2 (F (.cls c :: ds) h2) else .err) Q := p3
     by_cases hl : ds.length = n
     · rw [if_pos hl] at p4
       have p5 : bu X.K T B W (vE X.K T B σ) w2 σ (if (D.cls c :: ds).length = n + 1 ∧ ([] : List D).length = 0 then vD fr2 (F (aK [] (D.cls c :: ds) []) h2) else .err) Q := by
        rw [if_pos ⟨by rw [aiU, hl], rfl⟩]
        show bu X.K T B W (vE X.K T B σ) w2 σ (vD fr2 (F (D.cls c :: ds ++ []) h2)) Q
        rw [aiS]
        exact p4
       exact ⟨rs.length.trans hl, (Kz (n := n + 1) (m := 0) (zs := []) (es := []) (ds := D.cls c :: ds) hgD r2 (.cons (.cls c) rs) .nil p5).2.2⟩
     · rw [if_neg hl] at p4
       exact p4.elim
 · subst ez
   obtain rfl : u = Value.ref (T.cad c) := rx
   refine ClX.getmethcm_ok I1 cr cm fun s2 I2 => ?_
   refine ClX.callwith_cm I2 (ClX.base_none I1 (Nat.le_refl _)) cm.fi (thn (q.go pos _ s2 I2) fun us s3 ⟨vs, H2, I3, rv, l, q2⟩ => ⟨⟨ClX.pin_at I3, I3.kIn⟩, ?_⟩) hst hpl
   have cx : ∀ e s', L2.CX X.prog X.w X.stack H2 s3 (fun c d H' => W c d σ H') e s' → X.xe e s' := fun e s' z => passAt C.takes σ _ H2 s3 e s' I3 z
   have z := wpAny_call (PySem.W.method_call (ClX.pin_at I3) (adp (n := n + 1) (us := .ref (T.cad c) :: us) (vs := .ref (T.cad c) :: vs) fp.ok (C.room.mono hk) I3.env0 hb cx I3 (.cons rfl rv) (by rw [aiU, l]) q2))
   exact thn z fun _ _ y => ClX.unpinE y
end
end Pk
namespace Pk
open PySem PySem.Spec L2
section
variable {X : Cx} {T : Tb} {W : WX} {k : Nat} {b : Expr} {mb : M D} {pos px : Pos}
def ah7 (X : Cx) (T : Tb) (op : CmpOp) (f : Hh → D → D → Option Bool) : Prop :=
 ∀ B w σ H fr h x y d e c Q, Rel X.K T B w σ H fr h → vO X.K T B σ w H fr x d → vO X.K T B σ w H fr y e → f h d e = some c → Q (.bl c) H → rM X (compareOp op) x y H Q
def Y7 (i : Nat) (f : Hh → D → D → Option Bool) (mb : M D) : M Bool := (yu i).bind fun _ => mb.bind fun y => (iz i).bind fun d fr h => M.opt (f h d y) fr h
end
end Pk
namespace PySem
namespace OwR
open PySem.W PySem.Calls PyProof.Rows
open PySem.AutoSeq1 (wpAny_loadPart')
section
variable {K : Frag} {x C : Addr} {ox : Obj} {od : Option Obj}
theorem GD {M : Model} {A : Around} {E : Value → Shared → Prop} {s : Shared} {t : String} {Q : Bool → Shared → Prop} (X : K.In s.heap) (I : InstAt s.heap x ox C od) (e : subIn K (.ref C) (.type t) = some false) (h : Q false s) : wpAny M A (isInstance (.ref x) (.type t)) Q E s :=
 wpAny_bind (I.type.here ((looks_subIn X e).here h))
theorem list_eq (l : Addr) (e : subIn K (.ref C) (.type "list") = some false) : Meets (Builtin.«list.__eq__» ⟨[.ref l, .ref x], []⟩) (fun _ R s => (K.In s.heap ∧ InstAt s.heap x ox C od) ∧ R (.ok (.ret .notImplemented)) s) :=
 .of_wp fun prog w A R s h => by
  obtain ⟨⟨X, I⟩, h⟩ := h
  repeat (first | (with_reducible refine GD X I e ?_) | (refine wpAny_bind (m := isInstance (.ref x) (.type "list")) (GD X I e ?_)) | wp_step)
  exact ⟨_, rfl, h⟩
theorem list_ne (l : Addr) (e : subIn K (.ref C) (.type "list") = some false) : Meets (Builtin.«list.__ne__» ⟨[.ref l, .ref x], []⟩) (fun _ R s => (K.In s.heap ∧ InstAt s.heap x ox C od) ∧ R (.ok (.ret .notImplemented)) s) :=
 .of_wp fun prog w A R s h => by
  obtain ⟨⟨X, I⟩, h⟩ := h
  repeat (first | (with_reducible refine GD X I e ?_) | (refine wpAny_bind (m := isInstance (.ref x) (.type "list")) (GD X I e ?_)) | wp_step)
  exact ⟨_, rfl, h⟩
theorem tup_eq (l : Addr) (e : subIn K (.ref C) (.type "tuple") = some false) : Meets (Builtin.«tuple.__eq__» ⟨[.ref l, .ref x], []⟩) (fun _ R s => (K.In s.heap ∧ InstAt s.heap x ox C od) ∧ R (.ok (.ret .notImplemented)) s) :=
 .of_wp fun prog w A R s h => by
  obtain ⟨⟨X, I⟩, h⟩ := h
  repeat (first | (with_reducible refine GD X I e ?_) | (refine wpAny_bind (m := isInstance (.ref x) (.type "tuple")) (GD X I e ?_)) | wp_step)
  exact ⟨_, rfl, h⟩
theorem tup_ne (l : Addr) (e : subIn K (.ref C) (.type "tuple") = some false) : Meets (Builtin.«tuple.__ne__» ⟨[.ref l, .ref x], []⟩) (fun _ R s => (K.In s.heap ∧ InstAt s.heap x ox C od) ∧ R (.ok (.ret .notImplemented)) s) :=
 .of_wp fun prog w A R s h => by
  obtain ⟨⟨X, I⟩, h⟩ := h
  repeat (first | (with_reducible refine GD X I e ?_) | (refine wpAny_bind (m := isInstance (.ref x) (.type "tuple")) (GD X I e ?_)) | wp_step)
  exact ⟨_, rfl, h⟩
theorem int_eq_int (a : Int) (u : Tok) (dx : Addr) : Meets (Builtin.«int.__eq__» ⟨[.int a u, .ref x], []⟩) (fun _ R s => s.heap.get? x = some (instObj C dx) ∧ R (.ok (.ret Value.notImplemented)) s) :=
 .of_wp fun prog w A R s h => by obtain ⟨hp, g, d, tk, os⟩ := s; obtain ⟨hl, h⟩ := h; wp_walk using wpAny_loadPart' hl, wpAny_load hl; exact ⟨_, rfl, h⟩
theorem int_ne_int (a : Int) (u : Tok) (dx : Addr) : Meets (Builtin.«int.__ne__» ⟨[.int a u, .ref x], []⟩) (fun _ R s => s.heap.get? x = some (instObj C dx) ∧ R (.ok (.ret Value.notImplemented)) s) :=
 .of_wp fun prog w A R s h => by obtain ⟨hp, g, d, tk, os⟩ := s; obtain ⟨hl, h⟩ := h; wp_walk using wpAny_loadPart' hl, wpAny_load hl; exact ⟨_, rfl, h⟩
theorem int_eq_bool (a : Bool) (dx : Addr) : Meets (Builtin.«int.__eq__» ⟨[.bool a, .ref x], []⟩) (fun _ R s => s.heap.get? x = some (instObj C dx) ∧ R (.ok (.ret Value.notImplemented)) s) :=
 .of_wp fun prog w A R s h => by obtain ⟨hp, g, d, tk, os⟩ := s; obtain ⟨hl, h⟩ := h; wp_walk using wpAny_loadPart' hl, wpAny_load hl; exact ⟨_, rfl, h⟩
theorem int_ne_bool (a : Bool) (dx : Addr) : Meets (Builtin.«int.__ne__» ⟨[.bool a, .ref x], []⟩) (fun _ R s => s.heap.get? x = some (instObj C dx) ∧ R (.ok (.ret Value.notImplemented)) s) :=
 .of_wp fun prog w A R s h => by obtain ⟨hp, g, d, tk, os⟩ := s; obtain ⟨hl, h⟩ := h; wp_walk using wpAny_loadPart' hl, wpAny_load hl; exact ⟨_, rfl, h⟩
theorem str_eq (a : Str) (u : Tok) (dx : Addr) : Meets (Builtin.«str.__eq__» ⟨[.str a u, .ref x], []⟩) (fun _ R s => s.heap.get? x = some (instObj C dx) ∧ R (.ok (.ret Value.notImplemented)) s) :=
 .of_wp fun prog w A R s h => by obtain ⟨hp, g, d, tk, os⟩ := s; obtain ⟨hl, h⟩ := h; wp_walk using wpAny_loadPart' hl, wpAny_load hl; exact ⟨_, rfl, h⟩
theorem str_ne (a : Str) (u : Tok) (dx : Addr) : Meets (Builtin.«str.__ne__» ⟨[.str a u, .ref x], []⟩) (fun _ R s => s.heap.get? x = some (instObj C dx) ∧ R (.ok (.ret Value.notImplemented)) s) :=
 .of_wp fun prog w A R s h => by obtain ⟨hp, g, d, tk, os⟩ := s; obtain ⟨hl, h⟩ := h; wp_walk using wpAny_loadPart' hl, wpAny_load hl; exact ⟨_, rfl, h⟩
end
section
variable {prog : Program} {w : World} {A : Around} {E : Value → Shared → Prop} {s : Shared} {K : Frag} {x C f : Addr} {ox : Obj} {od : Option Obj} {a : Value} {t : String}
def Declines (prog : Program) (w : World) (A : Around) (E : Value → Shared → Prop) (s : Shared) (a : Value) (nm : Str) (x : Addr) : Prop := ∀ P' : Option Value → Shared → Prop, P' none s → wpAny (model prog w) A (tryCompare a nm (.ref x)) P' E s
theorem right (op : CmpOp) {Q : Value → Shared → Prop} (hu : A.units < cLine) (X : K.In s.heap) (I : InstAt s.heap x ox C od) (h1 : oneThing? op a (.ref x) = none) (ha : Looks (model prog w) s.heap (typeOf a) (.type t)) (hn : subIn K (.ref C) (.type t) = some false)
 (hd : Declines prog w A E s a (cmpInfo op).2.1 x) (h : wpAny (model prog w) A (tryCompare (.ref x) (cmpInfo op).2.2 a) (fun r s' => ∃ v, r = some v ∧ Q v s') E s) : wpAny (model prog w) A (richCompare op a (.ref x)) Q E s := by
 unfold richCompare
 simp only [h1]
 refine wpAny_holding (wpAny_bind (wpAny_cRoomFor hu ?_))
 refine wpAny_bind (ha.here (wpAny_bind (I.type.here ?_)))
 rw [if_pos (show ((Value.type t != Value.ref C) = true) from rfl)]
 refine wpAny_bind ((looks_subIn X hn).here ?_)
 simp only [Bool.false_eq_true, if_false]
 refine wpAny_bind (hd _ ?_)
 simp only [Bool.not_false, if_true]
 refine wpAny_bind (wpAny_mono h (fun r s' z => ?_) fun _ _ e => e)
 obtain ⟨v, rfl, q⟩ := z
 exact wpAny_pure q
end
end OwR
end PySem
namespace Pk
open PySem PySem.Spec L2
def Uj (mt : Nat → Option Fn) (c : Bool → Bool) (x y : D) : M Bool := fun fr h => match fnOf mt h x with
 | some _ => Va mt c x y fr h
 | none => if (x.bty h).isSome then ((Gr mt y [x]).bind fun d => (Y4 d).bind fun b => M.ret (c b)) fr h else .err
section
variable {X : Cx} {T : Tb} {W : WX} {k j : Nat}
theorem declines {B : Bs} {w : Wd} {σ σ' : L2.St} {H : Hp} {fr : Fr} {h : Hh} {v : V} {d : D} {u : Value} {pins : List (Addr × Obj)} {s : Shared} {a' Cl dx : Addr} {fs : List (Str × V)} {A : Around} {E : Value → Shared → Prop} {t : String} {ox : Obj} {od : Option Obj} (R : Rel X.K T B w σ H fr h) (rv : rC X.K T w v d) (et : d.bty h = some t) (I : Inv X pins σ' H s) (ru : RelV v u)
 (J : PySem.W.InstAt s.heap a' ox Cl od) (hx : ∃ dt : Addr, s.heap.get? a' = some (PySem.W.instObj Cl dt)) (Eq : EqX X.K Cl) :
 oneThing? .Eq u (.ref a') = none ∧ oneThing? .NotEq u (.ref a') = none ∧ PySem.OwR.Declines X.prog X.w A E s u "__eq__" a' ∧ PySem.OwR.Declines X.prog X.w A E s u "__ne__" a' := by
 obtain ⟨dt, hx⟩ := hx
 have sqL : ∀ {p : Addr} {vs : List V}, SqL X.K H p vs → PySem.OwR.Declines X.prog X.w A E s (.ref p) "__eq__" a' ∧ PySem.OwR.Declines X.prog X.w A E s (.ref p) "__ne__" a' := fun {p vs} q => by
  obtain ⟨its, rv, pl, hz⟩ := I.list q
  have hT : s.TypeIs (.ref p) "list" := pl.isList.typeIs
  exact ⟨fun P' h' => wpAny_tryCompare_declines hT PySem.F.slot_list_eq (call_meets PySem.F.slot_list_eq hT PySem.F.entry_list_eq (PySem.F.args_list_eq_2 _ _) (PySem.OwR.list_eq p (Eq.nb "list" (by decide))) ⟨⟨I.kIn, J⟩, rfl, h'⟩),
   fun P' h' => wpAny_tryCompare_declines hT PySem.F.slot_list_ne (call_meets PySem.F.slot_list_ne hT PySem.F.entry_list_ne (PySem.F.args_list_ne_2 _ _) (PySem.OwR.list_ne p (Eq.nb "list" (by decide))) ⟨⟨I.kIn, J⟩, rfl, h'⟩)⟩
 have sqT : ∀ {p : Addr} {vs : List V}, SqT X.K H p vs → PySem.OwR.Declines X.prog X.w A E s (.ref p) "__eq__" a' ∧ PySem.OwR.Declines X.prog X.w A E s (.ref p) "__ne__" a' := fun {p vs} q => by
  obtain ⟨its, rv, pl, hz⟩ := I.tuple q
  have hT : s.TypeIs (.ref p) "tuple" := by
   obtain ⟨o, e1, e2, _⟩ := pl
   exact ⟨o, e1, e2⟩
  exact ⟨fun P' h' => wpAny_tryCompare_declines hT PySem.F.slot_tuple_eq (call_meets PySem.F.slot_tuple_eq hT PySem.F.entry_tuple_eq (PySem.F.args_tuple_eq_2 _ _) (PySem.OwR.tup_eq p (Eq.nb "tuple" (by decide))) ⟨⟨I.kIn, J⟩, rfl, h'⟩),
   fun P' h' => wpAny_tryCompare_declines hT PySem.F.slot_tuple_ne (call_meets PySem.F.slot_tuple_ne hT PySem.F.entry_tuple_ne (PySem.F.args_tuple_ne_2 _ _) (PySem.OwR.tup_ne p (Eq.nb "tuple" (by decide))) ⟨⟨I.kIn, J⟩, rfl, h'⟩)⟩
 unfold D.bty at et
 cases rv with
 | non =>
   obtain rfl : u = Value.none := ru
   exact ⟨rfl, rfl, fun P' h' => wpAny_tryCompare_declines (show s.TypeIs .none "NoneType" from rfl) PySem.F.slot_NoneType_eq (call_gives PySem.F.slot_NoneType_eq rfl PySem.F.entry_NoneType_eq (PySem.F.args_NoneType_eq_2 _ _) (SeqAt.NoneType___eq___none_ref_0 a') ⟨rfl, h'⟩),
    fun P' h' => wpAny_tryCompare_declines (show s.TypeIs .none "NoneType" from rfl) PySem.F.slot_NoneType_ne (call_gives PySem.F.slot_NoneType_ne rfl PySem.F.entry_NoneType_ne (PySem.F.args_NoneType_ne_2 _ _) (SeqAt.NoneType___ne___none_ref_0 a') ⟨rfl, h'⟩)⟩
 | bl b =>
   obtain rfl : u = Value.bool b := ru
   exact ⟨rfl, rfl, fun P' h' => wpAny_tryCompare_declines (show s.TypeIs (.bool b) "bool" from rfl) PySem.F.slot_bool_eq (call_meets PySem.F.slot_bool_eq (show s.TypeIs (.bool b) "bool" from rfl) PySem.F.entry_int_eq (PySem.F.args_int_eq_2 _ _) (PySem.OwR.int_eq_bool (C := Cl) b dt) ⟨hx, rfl, h'⟩),
    fun P' h' => wpAny_tryCompare_declines (show s.TypeIs (.bool b) "bool" from rfl) PySem.F.slot_bool_ne (call_meets PySem.F.slot_bool_ne (show s.TypeIs (.bool b) "bool" from rfl) PySem.F.entry_int_ne (PySem.F.args_int_ne_2 _ _) (PySem.OwR.int_ne_bool (C := Cl) b dt) ⟨hx, rfl, h'⟩)⟩
 | int i =>
   obtain ⟨tt, rfl⟩ := ru
   exact ⟨rfl, rfl, fun P' h' => wpAny_tryCompare_declines (typeIs_int s i tt) PySem.F.slot_int_eq (call_meets PySem.F.slot_int_eq (typeIs_int s i tt) PySem.F.entry_int_eq (PySem.F.args_int_eq_2 _ _) (PySem.OwR.int_eq_int (C := Cl) i tt dt) ⟨hx, rfl, h'⟩),
    fun P' h' => wpAny_tryCompare_declines (typeIs_int s i tt) PySem.F.slot_int_ne (call_meets PySem.F.slot_int_ne (typeIs_int s i tt) PySem.F.entry_int_ne (PySem.F.args_int_ne_2 _ _) (PySem.OwR.int_ne_int (C := Cl) i tt dt) ⟨hx, rfl, h'⟩)⟩
 | str z =>
   obtain ⟨tt, rfl⟩ := ru
   exact ⟨rfl, rfl, fun P' h' => wpAny_tryCompare_declines (typeIs_str s z tt) PySem.F.slot_str_eq (call_meets PySem.F.slot_str_eq (typeIs_str s z tt) PySem.F.entry_str_eq (PySem.F.args_str_eq_2 _ _) (PySem.OwR.str_eq (C := Cl) z tt dt) ⟨hx, rfl, h'⟩),
    fun P' h' => wpAny_tryCompare_declines (typeIs_str s z tt) PySem.F.slot_str_ne (call_meets PySem.F.slot_str_ne (typeIs_str s z tt) PySem.F.entry_str_ne (PySem.F.args_str_ne_2 _ _) (PySem.OwR.str_ne (C := Cl) z tt dt) ⟨hx, rfl, h'⟩)⟩
 | tup q r =>
   obtain rfl : u = Value.ref _ := ru
   exact ⟨oneThing_ref .., oneThing_ref .., sqT (wN R.sub q)⟩
 | fl q r =>
   obtain rfl : u = Value.ref _ := ru
   exact ⟨oneThing_ref .., oneThing_ref .., sqL (SqL.of (R.sub _ _ q))⟩
 | kl q r =>
   obtain rfl : u = Value.ref _ := ru
   exact ⟨oneThing_ref .., oneThing_ref .., sqL (Ba R.sub q)⟩
 | obj q r => cases et
 | cls c => cases et
 | ty t => cases et
 | sl q => cases et
 | @ref a n q =>
   obtain rfl : u = Value.ref _ := ru
   refine ⟨oneThing_ref .., oneThing_ref .., ?_⟩
   have ln : n < h.length := by
    rw [← R.len]
    exact (List.getElem?_eq_some_iff.mp q).1
   obtain ⟨o, e, rr⟩ := R.cel n a h[n] q (ai9 ln)
   have e0 : (h[n]?).getD .non = h[n] := by rw [ai9 ln]; rfl
   unfold D.tag D.der at et
   dsimp only at et
   rw [e0] at et
   generalize h[n] = c at rr et
   cases rr with
   | lst r => exact sqL (SqL.of e)
   | obj r => cases et
   | dct _ r => cases et
theorem afa {mt : Nat → Option Fn} (C : Cq X T W k) (hk : j + 1 ≤ k) (Mf : Do X T j "__eq__" mt 1 [] (aK [])) (Ef : EqF X.K T mt) : adm X T W vV .Eq (Uj mt fun b => b) := fun B w σ H fr h x y d e Q R rx ry p => by
 unfold Uj at p
 cases ex : fnOf mt h d with
 | some G => rw [ex] at p; exact ae9 C hk Mf Ef B w σ H fr h x y d e Q R rx ry p
 | none =>
   rw [ex] at p
   dsimp only at p
   cases hb : (d.bty h).isSome with
   | false => rw [hb] at p; exact p.elim
   | true =>
     rw [hb, if_pos rfl] at p
     obtain ⟨t, et⟩ := Option.isSome_iff_exists.mp hb
     have p' := aaI p
     have hG : fnOf mt h e ≠ none := fun z => by
      have q : Gr mt e [d] fr h = .err := by unfold Gr; rw [z]
      rw [q] at p'
      exact p'
     obtain ⟨c, gs, ei, G0, em⟩ : ∃ c gs, e.ins h = some (c, gs) ∧ ∃ G, mt c = some G := by
      cases q : fnOf mt h e with
      | none => exact absurd q hG
      | some G =>
        obtain ⟨c, gs, e1, e2⟩ := Y5 q
        exact ⟨c, gs, e1, G, e2⟩
     obtain ⟨p1, dx1, vs1, e1, eH1, _⟩ := HW R (.inl ry) ei
     obtain ⟨kk, f, fd, ps, a', Cl, dx, fs, G, ey, eH, c1, c2, c3, c5, g, gV, hb', q⟩ := (acC Mf R ry (.cons rx .nil) rfl p').ex
     have ep : p1 = a' := V.ref.inj (e1.symm.trans ey)
     subst ep
     have eo := Option.some.inj (eH1.symm.trans eH)
     injection eo with eC _ _
     subst eC
     subst ey
     intro pins s σ' v u I rv ru
     obtain rfl : u = Value.ref p1 := ru
     have Eq := Ef.ex c G0 em
     have hx : ∃ dt : Addr, s.heap.get? p1 = some (PySem.W.instObj (T.cad c) dt) := by
      have z : ObjOk X.prog X.w H s.heap p1 (.ins (T.cad c) dx fs) := I.hok p1 _ eH
      exact ⟨dx, z.2.2.2.1⟩
     obtain ⟨mA, J, _⟩ := ins_get I.hok eH
     obtain ⟨od, J, _⟩ := J.look
     obtain ⟨ty, ht⟩ := aaG R rx et
     obtain ⟨P, Z, pp, _⟩ := kit_of I rv ty
     obtain ⟨o1, _, d1, _⟩ := declines (A := X.A) (E := X.xe) (dx := dx) (fs := fs) R rx et I rv J hx Eq
     show wpAny _ _ (richCompare .Eq _ _) _ _ _
     have hu : X.A.units < cLine := by
      have := C.u
      omega
     refine PySem.OwR.right .Eq hu I.kIn J o1 (Z.ty (model X.prog X.w) s.heap I.kIn pp) (Eq.nb t ht) d1 ?_
     show wpAny _ _ (tryCompare (.ref p1) "__eq__" v) _ _ _
     unfold tryCompare
     refine wpAny_bind (PySem.W.ifBound_K I.kIn J c2.at_ c2.fn (wpAny_mono (acB (n := 1 + 1) (us := [.ref p1, v]) (vs := [.ref p1, x]) c3.ok (C.room.mono (Nat.le_trans c5 (Nat.le_of_succ_le hk))) I.env0 hb' aaH I (.cons rfl (.cons rv .nil)) rfl q) (fun r s' z => ?_) fun _ _ z => z))
     obtain ⟨z', H', I', rz, b, eb, qz⟩ := z
     subst eb
     obtain rfl : r = Value.bool b := rz
     exact wpAny_pure ⟨_, rfl, .bl b, H', I', rfl, b, rfl, qz⟩
end
end Pk
namespace Pk
open PySem PySem.Spec L2
def ahL (_ : Hh) : D → D → Option Bool
 | .bl a, .bl b => some (decide (a = b))
 | _, _ => none
def ahh (_ : Hh) : D → D → Option Bool
 | .bl a, .bl b => some (!decide (a = b))
 | _, _ => none
section
variable {X : Cx} {T : Tb}
end
end Pk
namespace PySem
namespace OwT
open PySem.W PySem.Calls PyProof.Rows PySem.SeqAt
open PySem.AutoSeq1 (wpAny_loadPart')
section
variable {prog : Program} {w : World} {A : Around} {R : Result → Shared → Prop}
end
end OwT
end PySem
namespace Pk
open PySem PySem.Spec L2
mutual
def D.sim : D → D → Bool
 | .int i, .int j => i == j
 | .bl a, .bl b => a == b
 | .str a, .str b => a == b
 | .tup l, .tup m => D.sims l m
 | _, _ => true
def D.sims : List D → List D → Bool
 | d :: ds, e :: es => D.sim d e && D.sims ds es
 | [], [] => true
 | _, _ => false
end
section
variable {X : Cx} {T : Tb} {W : WX} {k j : Nat} {w : Wd} {pins : List (Addr × Obj)} {σ : L2.St} {H : Hp} {s : Shared}
mutual
theorem afb (I : Inv X pins σ H s) (sub : ∀ a o, w.F a = some o → H a = some o) : ∀ {v : V} {d : D}, rC X.K T w v d → ∀ {e : D}, rC X.K T w v e → D.sim d e = true
 | _, _, .tup h1 t1, _, r2 => by
   cases r2 with
   | tup h2 t2 =>
     have := I.tuple_inj (wN sub h1) (wN sub h2)
     subst this
     exact Y8 I sub t1 t2
   | _ => rfl
 | _, _, .int i, _, r2 => by cases r2; simp [D.sim]
 | _, _, .bl b, _, r2 => by cases r2; simp [D.sim]
 | _, _, .str z, _, r2 => by cases r2; simp [D.sim]
 | _, _, .non, _, _ => rfl
 | _, _, .fl _ _, _, _ => rfl
 | _, _, .kl _ _, _, _ => rfl
 | _, _, .obj _ _, _, _ => rfl
 | _, _, .ref _, _, _ => rfl
 | _, _, .cls _, _, _ => rfl
 | _, _, .ty _, _, _ => rfl
 | _, _, .sl _, _, _ => rfl
theorem Y8 (I : Inv X pins σ H s) (sub : ∀ a o, w.F a = some o → H a = some o) : ∀ {vs : List V} {ds : List D}, aO X.K T w vs ds → ∀ {es : List D}, aO X.K T w vs es → D.sims ds es = true
 | _, _, .nil, _, r2 => by cases r2; rfl
 | _, _, .cons h t, _, r2 => by
   cases r2 with
   | cons h2 t2 =>
     show (_ && _) = true
     rw [afb I sub h h2, Y8 I sub t t2]
     rfl
end
noncomputable def pPair (mt : Nat → Option Fn) (nf : Nat → Nat) (h : Hh) : D → D → Option Bool
 | .obj c l, .obj c' m => if c = c' ∧ l.length = nf c ∧ m.length = nf c then match mt c with
  | some F => match F [.obj c l, .obj c m] h with
    | .ok (.bl b) _ h' => open Classical in if h' = h ∧ (b = true ∨ D.sims l m = false) then some b else none
    | _ => none
  | none => none
  else none
 | _, _ => none
noncomputable def adq (mt : Nat → Option Fn) (nf : Nat → Nat) (h : Hh) : List D → List D → Option Bool
 | d :: ds, e :: es => (pPair mt nf h d e).bind fun b => if b then adq mt nf h ds es else some false
 | [], [] => some true
 | _, _ => some false
noncomputable def abC (mt : Nat → Option Fn) (nf : Nat → Nat) (h : Hh) : D → D → Option Bool
 | .tup l, .tup m => adq mt nf h l m
 | _, _ => none
noncomputable def adt (mt : Nat → Option Fn) (nf : Nat → Nat) (x y : D) : M Bool := fun fr h => M.opt (abC mt nf h x y) fr h
structure NfF (T : Tb) (mt : Nat → Option Fn) (nf : Nat → Nat) : Prop where
 ex : ∀ c F, mt c = some F → (T.fld c).length = nf c
end
end Pk
namespace L2
open PySem PySem.Spec PyProof.Rows
def endsAt (oi : Option Nat) (D : Ends) : Ends := match oi with
 | none => D
 | some i => { nx := fun σ' H' => D.nx (σ'.set i none) H', rt := D.rt, bk := fun σ' H' => D.bk (σ'.set i none) H', ct := fun σ' H' => D.ct (σ'.set i none) H' }
def aaK (oi : Option Nat) (σ : St) (a : Addr) : St := match oi with
 | none => σ
 | some i => σ.set i (some (.ref a))
abbrev Vc := Value × Option Nat × (Addr → Value → Option Addr → TS)
def ahM (K : PySem.W.Frag) (Wout : WX) (D : Ends) : List Vc → WX
 | [] => Wout
 | (c, oi, ts) :: r => fun cls d σ H => ∃ b, PySem.W.exmOne K cls c = some b ∧ (b = true → ∀ a, H a = none → ts a cls d (endsAt oi D) (aaK oi σ a) H) ∧ (b = false → ahM K Wout D r cls d σ H)
inductive Vd (X : Cx) : Option Str → Option Nat → Prop
 | no : Vd X none none
 | at_ {n : Str} {i : Nat} (hi : X.N[i]? = some n) (hln : X.env.kindOf n = some .local) : Vd X (some n) (some i)
inductive QF (X : Cx) : List ExceptHandler → List Vc → Prop
 | nil : QF X [] []
 | cons {x : Str} {c : Value} {ts : Addr → Value → Option Addr → TS} {b₀ : Stmt} {suite : List Stmt} {np pos' : Pos} {nm : Option Str} {oi : Option Nat} {hds : List ExceptHandler} {l : List Vc} (hc : Names X x c) (hn : Vd X nm oi)
  (hsu : ∀ (a : Addr) (oe : Obj) (cls : Value) (d : Option Addr) (pn : List (Addr × Obj)), Zc cls d oe → (∃ vs, oe.data = .fields vs) → PSs (X.suite a ((a, oe) :: pn)) (b₀ :: suite) (ts a cls d)) (r : QF X hds l) :
  QF X (.ExceptHandler (some (.Name x np)) nm (b₀ :: suite) pos' :: hds) ((c, oi, ts) :: l)
section
variable {X : Cx} {body : List Stmt} {h₀ : ExceptHandler} {hds : List ExceptHandler} {l : List Vc} {pos : Pos} {tb : WX → TS} {Wout : WX}
end
end L2
namespace Pk
open PySem PySem.Spec L2
abbrev Hd := Option Nat × (Nat → Option Bool) × (bh → M Fl)
def zX : List Hd → bh → M Fl
 | [], x => fun fr h => .exc x fr h
 | (oi, cond, ms) :: r, x => fun fr h => match cond x.c with
   | some true => match oi with
     | some i => if i < fr.length then adl i (ms x (fr.set i none) h) else .err
     | none => ms x fr h
   | some false => zX r x fr h
   | none => .err
def abD (cs : List Hd) (mb : M Fl) : M Fl := fun fr h => match mb fr h with
 | .exc x fr1 h1 => zX cs x fr1 h1
 | r => r
section
variable {X : Cx} {T : Tb} {W : WX} {k : Nat} {body : List Stmt} {h₀ : ExceptHandler} {hds : List ExceptHandler} {pos : Pos} {mb : M Fl} {cs : List Hd}
inductive QG (X : Cx) (T : Tb) (W : WX) : List ExceptHandler → List Hd → Prop
 | nil : QG X T W [] []
 | named {x n : Str} {c : Value} {cond : Nat → Option Bool} {b₀ : Stmt} {suite : List Stmt} {np pos' : Pos} {i : Nat} {ms : bh → M Fl} {hds : List ExceptHandler} {l : List Hd} (hi : X.N[i]? = some n) (hln : X.env.kindOf n = some .local) (hc : Names X x c)
  (hcond : ∀ cc b, cond cc = some b → PySem.W.exmOne X.K (.ref (T.cad cc)) c = some b)
  (hsu : ∀ (a : Addr) (oe : Obj) (cls : Value) (d : Option Addr) (pn : List (Addr × Obj)) (y : bh), Su X T i a oe cls d pn y → abr (PX X.K T i a y cls d) (X.suite a ((a, oe) :: pn)) T W (b₀ :: suite) (ms y))
  (r : QG X T W hds l) : QG X T W (.ExceptHandler (some (.Name x np)) (some n) (b₀ :: suite) pos' :: hds) ((some i, cond, ms) :: l)
 | only {x : Str} {c : Value} {cond : Nat → Option Bool} {b₀ : Stmt} {suite : List Stmt} {np pos' : Pos} {ms : bh → M Fl} {hds : List ExceptHandler} {l : List Hd} (hc : Names X x c)
  (hcond : ∀ cc b, cond cc = some b → PySem.W.exmOne X.K (.ref (T.cad cc)) c = some b)
  (hsu : ∀ (a : Addr) (oe : Obj) (pn : List (Addr × Obj)) (y : bh), abr (fun _ _ => True) (X.suite a ((a, oe) :: pn)) T W (b₀ :: suite) (ms y))
  (r : QG X T W hds l) : QG X T W (.ExceptHandler (some (.Name x np)) none (b₀ :: suite) pos' :: hds) ((none, cond, ms) :: l)
end
end Pk
namespace Pk
open PySem PySem.Spec L2
section
variable {P : Wd → L2.St → Prop} {X : Cx} {T : Tb} {W : WX} {a b : Expr} {ma mb : M D} {pos pf : Pos} {x : Str} {tab : Tg → Tg → Option Bool}
end
end Pk
namespace Pk
open PySem PySem.Spec L2
def ahi (_ : Hh) : D → Option D
 | .bl b => some (.str (if b then "True" else "False"))
 | _ => none
def acE (_ : Hh) : D → Option D
 | .bl b => some (.bl b)
 | .int i => some (.bl (i != 0))
 | _ => none
section
variable {X : Cx} {T : Tb} {W : WX} {a : Expr} {ma : M D} {pos pf : Pos}
end
end Pk
namespace Pk
open PySem PySem.Spec PyProof.Rows L2
def ah8 : List Stmt → Expr
 | .Expr (.Call _ [e] _ _) _ :: _ => e
 | _ => .Name "" ⟨0, 0, 0, 0⟩
def aeH : List D → Option (List Str)
 | [] => some []
 | .str s :: r => (aeH r).map (s :: ·)
 | _ => none
def ahT (K : PySem.W.Frag) (H : Hp) (vs : List V) : Prop := ∃ (a : Addr) (ss : List Str), vs = [.ref a] ∧ SqT K H a (ss.map V.str) ∧ (ss.map (·.length)).sum + ss.length ≤ 1000
def ahN (ds : List D) : Bool := match ds with
 | [.tup l] => match aeH l with
   | some ss => decide ((ss.map (·.length)).sum + ss.length ≤ 1000)
   | none => false
 | _ => false
inductive JP (scope : Scope) (m : Str → Option Value) : List Expr → List Str → Prop
 | nil : JP scope m [] []
 | con {z : Str} {j : Nat} {pos : Pos} {es : List Expr} {ys : List Str} (hz : z.length ≤ 2000) (r : JP scope m es ys) : JP scope m (.Constant (.str z) j pos :: es) (z :: ys)
 | int {f : Str} {i : Int} {t : Tok} {pos pos2 : Pos} {es : List Expr} {ys : List Str} (hl : scope.names.lookup f = some .local) (hd : (f == ("__debug__" : Str)) = false) (hm : m f = some (.int i t)) (hi : i.natAbs.log2 < 1920) (r : JP scope m es ys) : JP scope m (.FormattedValue (.Name f pos) (-1) none pos2 :: es) (toString i :: ys)
 | str {f y : Str} {t : Tok} {pos pos2 : Pos} {es : List Expr} {ys : List Str} (hl : scope.names.lookup f = some .local) (hd : (f == ("__debug__" : Str)) = false) (hm : m f = some (.str y t)) (hy : y.length ≤ 2000) (r : JP scope m es ys) : JP scope m (.FormattedValue (.Name f pos) (-1) none pos2 :: es) (y :: ys)
section
variable {scope : Scope} {qual : Str} {m : Str → Option Value} {L fI cda cc : Addr} {prog : Program} {w : World} {A' : Around} {h : Heap} {g : Array GenState} {d : Drawn} {os : OsState} {E' : Value → Shared → Prop}
end
end Pk
namespace L2
open PySem PySem.Spec PyProof.Rows
def Y9 (X : Cx) (te : Expr) (tst : Value → Option Bool) : Prop :=
 ∀ (a : Addr) (oe : Obj) (pn pins : List (Addr × Obj)) (σ : St) (H : Hp) (s : Shared) (cls : Value) (b : Bool) (Q : Bool → Shared → Prop) (E : Value → Shared → Prop), Inv (X.suite a ((a, oe) :: pn)) pins σ H s → PySem.W.Looks (model X.prog X.w) s.heap (typeOf (.ref a)) cls → tst cls = some b →
   (∀ h', (∀ q o, s.heap.get? q = some o → h'.get? q = some o) → Q b { s with heap := h' }) →
   wpAny (model X.prog X.w) (X.A.mark (some (.ref a))) (eval te X.env) (fun c s1 => wpAny (model X.prog X.w) (X.A.mark (some (.ref a))) (excMatches (.ref a) c) Q E s1) E s
abbrev RW := (Value → Option Bool) × Option Nat × (Addr → Value → Option Addr → TS)
def ahj (Wout : WX) (D : Ends) : List RW → WX
 | [] => Wout
 | (c, oi, ts) :: r => fun cls d σ H => ∃ b, c cls = some b ∧ (b = true → ∀ a, H a = none → ts a cls d (endsAt oi D) (aaK oi σ a) H) ∧ (b = false → ahj Wout D r cls d σ H)
inductive Uk (X : Cx) : List ExceptHandler → List RW → Prop
 | nil : Uk X [] []
 | cons {te : Expr} {c : Value → Option Bool} {ts : Addr → Value → Option Addr → TS} {b₀ : Stmt} {suite : List Stmt} {pos' : Pos} {nm : Option Str} {oi : Option Nat} {hds : List ExceptHandler} {l : List RW} (hc : Y9 X te c) (hn : Vd X nm oi)
  (hsu : ∀ (a : Addr) (oe : Obj) (cls : Value) (d : Option Addr) (pn : List (Addr × Obj)), Zc cls d oe → (∃ vs, oe.data = .fields vs) → PSs (X.suite a ((a, oe) :: pn)) (b₀ :: suite) (ts a cls d)) (r : Uk X hds l) :
  Uk X (.ExceptHandler (some te) nm (b₀ :: suite) pos' :: hds) ((c, oi, ts) :: l)
section
variable {X : Cx} {body : List Stmt} {h₀ : ExceptHandler} {hds : List ExceptHandler} {l : List RW} {pos : Pos} {tb : WX → TS} {Wout : WX}
end
end L2
namespace Pk
open PySem PySem.Spec L2
section
variable {X : Cx} {T : Tb} {W : WX} {k : Nat} {body : List Stmt} {h₀ : ExceptHandler} {hds : List ExceptHandler} {pos : Pos} {mb : M Fl} {cs : List Hd}
inductive QH (X : Cx) (T : Tb) (W : WX) : List ExceptHandler → List Hd → Prop
 | nil : QH X T W [] []
 | named {te : Expr} {n : Str} {tst : Value → Option Bool} {cond : Nat → Option Bool} {b₀ : Stmt} {suite : List Stmt} {pos' : Pos} {i : Nat} {ms : bh → M Fl} {hds : List ExceptHandler} {l : List Hd} (hi : X.N[i]? = some n) (hln : X.env.kindOf n = some .local) (hc : Y9 X te tst)
  (hcond : ∀ cc b, cond cc = some b → tst (.ref (T.cad cc)) = some b)
  (hsu : ∀ (a : Addr) (oe : Obj) (cls : Value) (d : Option Addr) (pn : List (Addr × Obj)) (y : bh), Su X T i a oe cls d pn y → abr (PX X.K T i a y cls d) (X.suite a ((a, oe) :: pn)) T W (b₀ :: suite) (ms y))
  (r : QH X T W hds l) : QH X T W (.ExceptHandler (some te) (some n) (b₀ :: suite) pos' :: hds) ((some i, cond, ms) :: l)
 | only {te : Expr} {tst : Value → Option Bool} {cond : Nat → Option Bool} {b₀ : Stmt} {suite : List Stmt} {pos' : Pos} {ms : bh → M Fl} {hds : List ExceptHandler} {l : List Hd} (hc : Y9 X te tst)
  (hcond : ∀ cc b, cond cc = some b → tst (.ref (T.cad cc)) = some b)
  (hsu : ∀ (a : Addr) (oe : Obj) (pn : List (Addr × Obj)) (y : bh), abr (fun _ _ => True) (X.suite a ((a, oe) :: pn)) T W (b₀ :: suite) (ms y))
  (r : QH X T W hds l) : QH X T W (.ExceptHandler (some te) none (b₀ :: suite) pos' :: hds) ((none, cond, ms) :: l)
def aiq (K : PySem.W.Frag) (C : Addr) : Bool := PySem.W.excIn K C [.type "ValueError", .type "Exception", .type "BaseException", .type "object"] "ValueError.__new__" && (PySem.W.keepIn K (.ref C) && (decide (PySem.W.subIn K (.ref C) (.type "BaseException") = some true) && decide (PySem.W.typeIn K (.ref C) = some (.type "type"))))
structure ExB (K : PySem.W.Frag) (C : Addr) : Prop where
 q : PySem.W.excIn K C [.type "ValueError", .type "Exception", .type "BaseException", .type "object"] "ValueError.__new__" = true
 kC : PySem.W.keepIn K (.ref C) = true
 exC : PySem.W.subIn K (.ref C) (.type "BaseException") = some true
 tyC : PySem.W.typeIn K (.ref C) = some (.type "type")
def Wl (c : Nat) (ma : M D) : M Fl := ma.bind fun _ fr h => .exc ⟨c, []⟩ fr h
end
section
variable {P : Wd → L2.St → Prop} {X : Cx} {T : Tb} {W : WX} {a b e : Expr} {m ma mb : M D} {pos : Pos}
end
end Pk
namespace Pk
open PySem PySem.Spec L2
def Ox : List D → List D → List D
 | a :: as, b :: bs => .tup [a, b] :: Ox as bs
 | _, _ => []
def Za : D → D → Option (List D)
 | .tup l, .tup m => some (Ox l m)
 | .fl l, .fl m => some (Ox l m)
 | .fl l, .kl m => some (Ox l m)
 | .kl l, .fl m => some (Ox l m)
 | .kl l, .kl m => some (Ox l m)
 | _, _ => none
def adu (ma mb : M D) : M (List D) := ma.bind fun x => mb.bind fun y => M.opt (Za x y)
section
variable {X : Cx} {T : Tb} {W : WX} {k kk : Nat} {pos p tpos : Pos} {elts : List Expr} {a b : Expr} {ma mb : M D}
end
section
variable {P : Wd → L2.St → Prop} {X : Cx} {T : Tb} {W : WX} {k : Nat} {a b e : Expr} {m ma mb : M D} {pos : Pos}
end
def Wm (n : Nat) (gs : List D → M Unit) (d : D) : M Unit := match d with
 | .tup l => if l.length = n then gs l else M.opt none
 | .fl l => if l.length = n then gs l else M.opt none
 | _ => M.opt none
def ais (_ : Hh) : D → D → Option D
 | .fl l, .int k => if 0 ≤ k ∧ k < 1000 ∧ l.length ≤ 100 then some (.nl (List.replicate k.toNat l).flatten) else none
 | _, _ => none
section
variable {X : Cx} {T : Tb} {W : WX} {k kk n : Nat} {is : List Nat} {tgs : List Expr} {gs : List D → M Unit} {pos : Pos} {a b : Expr} {ma mb : M D}
end
def putS : List Nat → List V → L2.St → L2.St
 | i :: is, v :: vs, σ => putS is vs (σ.set i (some v))
 | _, _, σ => σ
section
variable {X : Cx} {T : Tb} {W : WX} {k : Nat} {a b c : Expr} {pos : Pos}
end
end Pk
namespace Pk
open PySem PySem.Spec PyProof.Rows L2
section
variable {prog : Program} {w : World} {A : Around} {E : Value → Shared → Prop} {s : Shared} {l : Addr} {its : List Value} {ns : List Int} {Q : Value → Shared → Prop}
end
def ah9 (K : PySem.W.Frag) : List V → Hp → VK → Prop := fun vs H Q => ∃ (a : Addr) (ns : List Int), vs = [V.ref a] ∧ SqT K H a (ns.map V.int) ∧ 0 < ns.length ∧ ∀ m, m ∈ ns → (∀ y, y ∈ ns → y ≤ m) → Q (.int m) H
section
variable {X : Cx} {T : Tb} {W : WX} {k : Nat} {e a b c : Expr} {es : List Expr} {m ma mb mc : M D} {pos pf : Pos}
def aia (h : Hh) (d : D) : Option D := match d with
 | .tup l => match D.ints l with
   | some (a :: r) => some (.int (aba a r))
   | _ => none
 | _ => ag7 h d
end
end Pk
namespace Pk
open PySem PySem.Spec PyProof.Rows L2
section
variable {P : Program} {w : World} {A : Around} {E : Value → Shared → Prop} {s : Shared} {env : Env} {x : Str} {pe pt px p0 pc pos : Pos} {iter : Expr} {scope : Scope} {cl : List (Str × Addr)} {c : Int} {k0 : Nat} {Q : Value → Shared → Prop}
def ahO (ns : List Int) (c : Int) (i : Nat) (k : Int) : Bool := decide (k ∈ (ns.take i).filter fun k => decide (k > c))
end
def agt (a : Int) : List Int → List Int
 | [] => [a]
 | b :: l => if a < b then a :: b :: l else if a = b then b :: l else b :: agt a l
def aeI : List Int → List Int
 | [] => []
 | a :: l => agt a (aeI l)
section
variable {X : L2.Cx} {T : Tb} {W : WX} {k : Nat} {a iter : Expr} {ma : M D} {pf pos pe pt px p0 pc pos2 : Pos} {x : Str} {scope : Scope} {cl : List (Str × Addr)} {c : Int} {k0 : Nat}
def vSt (w0 : World) (c : Int) : wJ V D := fun _ _ _ _ _ H _ v d => ∃ p is n, v = .ref p ∧ d = .fl (is.map .int) ∧ H p = some (SetO w0 p (ahO is c is.length) n) ∧ n ≤ is.length ∧ is.length ≤ 50
def bTI : D → Option D
 | .tup l => match D.ints l with
   | some is => if is.length ≤ 50 then some (.fl (is.map .int)) else none
   | none => none
 | _ => none
def ahZ (c : Int) (_ : Hh) (d : D) : Option D := match d with
 | .fl l => match D.ints l with
   | some is => some (.nl ((aeI (is.filter fun k => decide (k > c))).map .int))
   | none => none
 | _ => none
def agu (a : Int) : List Int → List Int
 | [] => [a]
 | b :: l => if a ≤ b then a :: b :: l else b :: agu a l
def aeJ : List Int → List Int
 | [] => []
 | a :: l => agu a (aeJ l)
def ahU (h : Hh) (d : D) : Option D := match d.lints h with
 | some is => if is.length < 64 then some (.nl ((aeJ is).map .int)) else none
 | none => none
end
end Pk
namespace Pk
open PySem PySem.Spec L2
def vJC : wJ It (Nat × List D × List D) := fun K T B _ w _ _ J x => ∀ i w1 σ1 H1 fr1 h1, w.le w1 → Rel K T B w1 σ1 H1 fr1 h1 → h1[x.1]? = some (.nl x.2.1) →
 (x.2.2.length ≤ i → J.stop i H1) ∧ ∀ d, x.2.2[i]? = some d → J.go i H1 ∧ ∀ y H2, J.yld i H1 y H2 → ∃ w2, w1.le w2 ∧ Rel K T B w2 σ1 H2 fr1 h1 ∧ rC K T w2 y d
open Classical in
noncomputable def Ve (n : Nat) (l : List D) (g : D → M Unit) (b : M Fl) : List D → M Fl
 | [] => fun fr h => if h[n]? = some (.nl l) then .ok .nx fr h else .err
 | d :: ds => fun fr h => if h[n]? = some (.nl l) then (match g d fr h with
   | .ok _ fr h => match b fr h with
     | .ok .nx fr h => Ve n l g b ds fr h
     | .ok .ct fr h => Ve n l g b ds fr h
     | .ok .brk fr h => .ok .nx fr h
     | .ok (.rt d) fr h => .ok (.rt d) fr h
     | .exc x fr h => .exc x fr h
     | .err => .err
   | _ => .err) else .err
noncomputable def Zb (li : M (Nat × List D × List D)) (g : D → M Unit) (b : M Fl) : M Fl := li.bind fun x => Ve x.1 x.2.1 g b x.2.2
def FT (h : Hh) (d : D) : Option (Nat × List D) := match d with
 | .ref n => match h[n]? with
   | some (.nl l) => some (n, l)
   | _ => none
 | _ => none
theorem abE {h : Hh} {d : D} {n : Nat} {l : List D} (e : FT h d = some (n, l)) : d = .ref n ∧ h[n]? = some (.nl l) := by
 unfold FT at e
 split at e
 · split at e
   · rename_i q; cases e; exact ⟨rfl, q⟩
   · cases e
 · cases e
def M9 (m : M D) : M (Nat × List D × List D) := m.bind fun d fr h => M.opt ((FT h d).map fun x => (x.1, x.2, x.2)) fr h
def adw (h : Hh) (d e : D) : Option (Nat × List D × List D) := match FT h d, e with
 | some (n, l), .fl m => some (n, l, Ox l m)
 | _, _ => none
def abF (ma mb : M D) : M (Nat × List D × List D) := ma.bind fun d => mb.bind fun e fr h => M.opt (adw h d e) fr h
section
variable {X : Cx} {T : Tb} {W : WX} {k kk : Nat} {pos p tpos : Pos} {tg iter a c : Expr} {elts : List Expr} {body : List Stmt} {g : D → M Unit} {b : M Fl} {is : List Nat} {li : M (Nat × List D × List D)} {ma mb : M D}
theorem Zd {K : PySem.W.Frag} {B : Bs} {w : Wd} {σ : L2.St} {H : Hp} {fr : Fr} {h : Hh} {q : Addr} {n : Nat} {l : List D} (R : Rel K T B w σ H fr h) (hq : w.I[n]? = some q) (hc : h[n]? = some (.nl l)) : ∃ vs, SqL K H q vs ∧ aO K T w vs l := by
 obtain ⟨o, eH, ro⟩ := R.cel n q _ hq hc
 cases ro with
 | lst r => exact ⟨_, SqL.of eH, r⟩
theorem aeK {w w' : Wd} {n : Nat} {q : Addr} (l : w.le w') (h : w.I[n]? = some q) : w'.I[n]? = some q := by
 obtain ⟨r, e⟩ := l.2
 rw [e, List.getElem?_append_left (List.getElem?_eq_some_iff.mp h).1]
 exact h
end
end Pk
namespace PySem
namespace SlK
open Sem (wp)
open PySem.W PySem.Calls PyProof.Rows
section
variable {prog : Program} {w : World} {A : Around} {E : Value → Shared → Prop} {h : Heap} {g : Array GenState} {d : Drawn} {t : Nat} {os : OsState} {a : Addr} {o : Obj}
end
section
variable {prog : Program} {w : World} {A : Around} {E : Value → Shared → Prop} {s : Shared} {K : Frag} {x C L f : Addr} {h₀ : Heap} {m : Str → Option Value} {ox : Obj} {od : Option Obj}
end
end SlK
end PySem
namespace Pk
open PySem PySem.Spec L2
def ait (K : PySem.W.Frag) (C : Addr) : Bool := PySem.W.noSeq K C
structure aiu (K : PySem.W.Frag) (T : Tb) (mt : Nat → Option Fn) : Prop where
 ex : ∀ c F, mt c = some F → PySem.W.noSeq K (T.cad c) = true
section
variable {X : Cx} {T : Tb} {W : WX} {k kk j n c : Nat} {pos pf px p2 : Pos} {a b e : Expr} {es : List Expr} {lo hi : Option Expr} {ma mb m : M D} {ml mh : M (Option Int)} {x : Str}
def Ze (mt : Nat → Option Fn) (ma : M D) (ml mh : M (Option Int)) : M D := ma.bind fun o => ml.bind fun l => mh.bind fun u => Ow mt o [.sl l u]
def ahP (t : String) : Bool := ["int", "bool", "str", "tuple", "list"].contains t
def X6 (tab : Tg → Tg → Option Bool) (h : Hh) (d c : D) : Option D := match d with
 | .sl _ _ => match c with
   | .ty t => if ahP t then some (.bl false) else none
   | _ => none
 | d => KD tab h d c
theorem Zf {tab : Tg → Tg → Option Bool} (F : Wf X.K T tab) {B : Bs} {w : Wd} {σ : L2.St} {H : Hp} {fr : Fr} {h : Hh} {x y : V} {d e z : D} {Q : VK} (R : Rel X.K T B w σ H fr h) (rx : rC X.K T w x d) (ry : rC X.K T w y e) (q : KD tab h d e = some z)
 (kk : ∀ w' H' v, w.le w' → Rel X.K T B w' σ H' fr h → vV X.K T B σ w' H' fr v z → Q v H') : cM X (.builtin "isinstance") [x, y] H Q := by
 unfold KD at q
 cases et : d.tag h with
 | none => rw [et] at q; cases q
 | some t =>
   rw [et] at q
   have one : ∀ u, e.ctag = some u → (tab t u).map D.bl = some z → cM X (.builtin "isinstance") [x, y] H Q := fun u ec eq => by
    obtain ⟨bb, eb, rfl⟩ := Option.map_eq_some_iff.mp eq
    exact yD call_isi ⟨x, y, t.v T, u.v T, bb, rfl, Ud ry ec, Nt F R (.inl rx) et eb, F.kit t u bb eb, kk w H _ (Wd.le_refl _) R (.bl bb)⟩
   cases e with
   | tup l =>
     dsimp only at q
     cases ec : Ma l with
     | none => rw [ec] at q; cases q
     | some us =>
       rw [ec] at q
       cases us with
       | nil => cases q
       | cons u us =>
         obtain ⟨bb, eb, rfl⟩ := Option.map_eq_some_iff.mp q
         obtain ⟨p, vs, rfl, sq, rs⟩ := Kc ry
         have ty : TyX X.K H x (t.v T) := by
          rcases Tw eb with z | ⟨u', b', z⟩
          · cases z
          · exact Nt F R (.inl rx) et z
         exact yD Xg ⟨x, p, vs, t.v T, (u :: us).map (Tg.v T), bb, rfl, wN R.sub sq, Qu rs ec, ty, Om F eb, kk w H _ (Wd.le_refl _) R (.bl bb)⟩
   | cls c => exact one _ rfl q
   | ty t => exact one _ rfl q
   | _ => cases q
def RX (h : Hh) (d i : D) : Option D := match i with
 | .sl lo hi => match d.der h with
   | .fl l => some (.nl (cutD l lo hi))
   | .nl l => some (.nl (cutD l lo hi))
   | .kl l => some (.nl (cutD l lo hi))
   | _ => none
 | i => gJ h d i
end
end Pk
namespace Pk
open PySem PySem.Spec L2
section
variable {X : Cx} {T : Tb} {W : WX} {k kk j n c : Nat} {pos pf px p2 p pr : Pos} {a b e : Expr} {es : List Expr} {ma mb m : M D} {ms : List (M D)} {x : Str}
def ahQ (a b : Int) : Bool := decide (-(2 ^ 62) ≤ a) && decide (a < 2 ^ 62) && decide (-(2 ^ 62) ≤ b) && decide (b < 2 ^ 62) && decide ((b - a).toNat ≤ 2 ^ 24)
def rgD (a b : Int) : List D := (List.range (b - a).toNat).map fun i => D.int (a + (i : Nat))
def bRg (x y : D) : Option D := match x, y with
 | .int a, .int b => if ahQ a b then some (.nl (rgD a b)) else none
 | _, _ => none
def Zg (ma : M D) : M D := ma.bind fun n => M.opt (bRg (.int 0) n)
def Zh (ma mb : M D) : M D := ma.bind fun a => mb.bind fun b => M.opt (bRg a b)
def Oz (i : Nat) (f : Int → Int → Int) (m : M D) : M Fl := fun fr h => match fr[i]? with
 | some (some (.int a)) => (m.bind fun d fr h => match d with
   | .int b => .ok .nx (fr.set i (some (.int (f a b)))) h
   | _ => .err) fr h
 | _ => .err
theorem s_aug {op : Operator} {f : Int → Int → Int} (C : Cq X T W k) (i : Nat) (ho : PIp X op (ipI f)) (s : cO X T W e m) (hN : X.N[i]? = some x := by rfl) (hx : Loc X.env.scope x := by first | exact Or.inl rfl | exact Or.inr rfl) (hf : X.fn x = true ∨ X.env.scope.names.lookup x = some .local := by first | exact .inl rfl | exact .inr rfl) :
 Bc X T W (.AugAssign (.Name x px) op e pos) (Oz i f m) := fun B w σ H fr h D R p => by
 unfold Oz at p
 split at p
 · rename_i a e1
   obtain ⟨v, e2, z⟩ := vm R e1
   have ev : v = .int a := by
    cases z with
    | val r => exact vp r
    | own O eH r => cases r
   subst ev
   refine Ak (ps_aug C.nd hN hx mZ ho hf) ⟨.int a, e2, s B w σ H fr h _ R (tW.bind (VR := vV X.K T B σ) p fun d fr1 h1 w1 H1 v e3 l1 r1 rd p1 => ?_)⟩
   cases d with
   | int b => exact ⟨a, b, rfl, vp rd, p1 w1 _ H1 (Wd.le_refl _) (r1.putV i (.int _))⟩
   | _ => exact (show False from p1).elim
 · exact p.elim
def Zi (d : D) : Option D := match d with
 | .str y => if y.length ≤ big then some (.str y) else none
 | .int i => if i.natAbs.log2 < 1920 then some (.str (toString i)) else none
 | _ => none
def yX (m : M D) : M D := m.bind fun d => M.opt (Zi d)
theorem wR (s : cO X T W e m) : cO X T W (.FormattedValue e (-1) none pos) (yX m) := fun B w σ H fr h Q R p =>
 uP (pe_fmt mZ) (s B w σ H fr h _ R (bu.bind (VR := vV X.K T B σ) p fun d fr1 h1 w1 H1 v e1 l1 r1 rd p1 => by
  have p1 : bu X.K T B W (vV X.K T B σ) w1 σ (M.opt (Zi d) fr1 h1) Q := p1
  unfold Zi at p1
  split at p1
  · split at p1
    · rename_i hl
      exact .inl ⟨_, zV rd, xO hl, p1 w1 H1 _ (Wd.le_refl _) r1 (.str _)⟩
    · exact p1.elim
  · split at p1
    · rename_i hl
      exact .inr ⟨_, vp rd, hl, p1 w1 H1 _ (Wd.le_refl _) r1 (.str _)⟩
    · exact p1.elim
  · exact p1.elim))
def vS : wJ Str Str := fun _ _ _ _ _ _ _ b c => b = c
def Pb : List (M D) → Str → M Str
 | [], acc => M.ret acc
 | m :: ms, acc => m.bind fun d => match d with
   | .str y => if (acc ++ y).length ≤ big then Pb ms (acc ++ y) else M.opt none
   | _ => M.opt none
def abG (X : Cx) (T : Tb) (W : WX) (es : List Expr) (ms : List (M D)) : Prop := ∀ acc, wF (fun σ H Q => tJs (es.map fun e => (WE X e : TE)) acc σ H Q) X.K T W vS (Pb ms acc)
theorem acF : ∀ es : List Expr, PJ X es (es.map fun e => (WE X e : TE))
 | [] => .nil
 | _ :: es => .cons mZ (acF es)
theorem Fe : abG X T W [] [] := fun acc B w σ H fr h Q R p => p w H acc (Wd.le_refl _) R rfl
theorem rJ (s : cO X T W e m) (t : abG X T W es ms) : abG X T W (e :: es) (m :: ms) := fun acc B w σ H fr h Q R p =>
 s B w σ H fr h (fun x H1 => ∃ y : Str, x = .str y ∧ (acc ++ y).length ≤ sizeLine ∧ tJs (es.map fun e => (WE X e : TE)) (acc ++ y) σ H1 Q) R (bu.bind (VR := vV X.K T B σ) p fun d fr1 h1 w1 H1 v e1 l1 r1 rd p1 => by
   cases d with
   | str y =>
     have p2 : bu X.K T B W (vS X.K T B σ) w1 σ ((if (acc ++ y).length ≤ big then Pb ms (acc ++ y) else M.opt none) fr1 h1) Q := p1
     by_cases hl : (acc ++ y).length ≤ big
     · rw [if_pos hl] at p2
       exact ⟨y, zV rd, xO hl, t (acc ++ y) B w1 σ H1 fr1 h1 Q r1 p2⟩
     · rw [if_neg hl] at p2
       exact p2.elim
   | _ => exact (show False from p1).elim)
def BJ (ms : List (M D)) : M D := (Pb ms Str.empty).bind fun s => M.ret (.str s)
theorem zb {v1 v2 : Expr} {rest : List Expr} (s : abG X T W (v1 :: v2 :: rest) ms) : cO X T W (.JoinedStr (v1 :: v2 :: rest) pos) (BJ ms) := fun B w σ H fr h Q R p =>
 uP (pe_joined (acF _)) (s Str.empty B w σ H fr h _ R (bu.bind (VR := vS X.K T B σ) p fun d fr1 h1 w1 H1 v e1 l1 r1 rd p1 => by
  have rd' : v = d := rd
  subst rd'
  exact p1 w1 H1 _ (Wd.le_refl _) r1 (.str _)))
end
structure WM (X : Cx) (cs : List MatchCase) (z : Str) (D : Ends) (σ : L2.St) (H : Hp) : Prop where
 go : ∀ pins s t first, Inv X pins σ H s → wpAny (model X.prog X.w) X.A (matchCases cs X.env (.str z t) first) (SP X pins D) X.xe s
structure abH (X : Cx) (p : Pattern) (ss : List Str) : Prop where
 go : ∀ (z : Str) pins (σ : L2.St) (H : Hp) s t (R : Option (List (Str × Value)) → Shared → Prop), Inv X pins σ H s → (∀ s', Inv X pins σ H s' → R (if ss.contains z then some [] else none) s') → wpAny (model X.prog X.w) X.A (matchPattern p X.env (.str z t)) R X.xe s
structure X7 (X : Cx) (ps : List Pattern) (ss : List Str) : Prop where
 go : ∀ (z : Str) pins (σ : L2.St) (H : Hp) s t (R : Option (List (Str × Value)) → Shared → Prop), Inv X pins σ H s → (∀ s', Inv X pins σ H s' → R (if ss.contains z then some [] else none) s') → wpAny (model X.prog X.w) X.A (matchFirst ps X.env (.str z t)) R X.xe s
section
variable {X : Cx} {T : Tb} {W : WX} {pos p2 : Pos} {e : Expr} {m : M D} {cs : List MatchCase} {ms : List (List Str × M Fl)} {body : List Stmt} {mb : M Fl} {pt : Pattern} {pts : List Pattern} {ss ts : List Str} {y : Str} {jj : Nat}
theorem Kh : abH X (.MatchValue (.Constant (.str y) jj p2) pos) [y] := ⟨fun z pins σ H s t R I q => by
 refine wpAny_matchPattern_Value ?_
 refine thn ((uP (X := X) (e := .Constant (.str y) jj p2) pe_str (σ := σ) (H := H) (Q := fun v H1 => v = .str y ∧ H1 = H) (And.intro rfl rfl)).go pins s I) fun v s1 ⟨x, H1, I1, r1, ex, eH⟩ => ?_
 subst ex eH
 have o := op_eq (X := X) pins s1 σ H1 (.str z) (.str y) (.str z t) v (fun w H2 => w = .bl (decide (V.str z = V.str y)) ∧ H2 = H1) I1 ⟨_, rfl⟩ r1 ⟨rfl, rfl, rfl⟩
 refine thn o fun c s2 ⟨cv, H2, I2, rc, ec, eH⟩ => ?_
 subst ec eH
 obtain rfl : c = Value.bool _ := rc
 refine wpAny_truthy_bool ?_
 have key := q s2 I2
 have e1 : ([y] : List Str).contains z = decide (V.str z = V.str y) := by
  rw [List.contains_cons]
  by_cases h : z = y
  · subst h
    simp
  · have h2 : ¬ (V.str z = V.str y) := fun w => h (V.str.inj w)
    simp [h, h2]
 rw [e1] at key
 cases hb : decide (V.str z = V.str y) with
 | true => rw [hb] at key; exact key
 | false => rw [hb] at key; exact key⟩
theorem Zj : X7 X [] [] := ⟨fun z pins σ H s t R I q => wpAny_matchFirst_nil (q s I)⟩
theorem Mj (h : abH X pt ss) (t : X7 X pts ts) : X7 X (pt :: pts) (ss ++ ts) := ⟨fun z pins σ H s tk R I q => by
 refine wpAny_matchFirst_cons (h.go z pins σ H s tk _ I fun s1 I1 => ?_)
 have ec : (ss ++ ts).contains z = (ss.contains z || ts.contains z) := by
  rw [Bool.eq_iff_iff]
  simp
 cases hz : ss.contains z with
 | true =>
   have := q s1 I1
   rw [ec, hz] at this
   exact this
 | false =>
   refine t.go z pins σ H s1 tk _ I1 fun s2 I2 => ?_
   have := q s2 I2
   rw [ec, hz] at this
   exact this⟩
theorem acG (h : X7 X pts ss) (hn : namesOfAll (pts.take 1) = [] := by rfl) : abH X (.MatchOr pts pos) ss := ⟨fun z pins σ H s t R I q => by
 refine wpAny_matchPattern_Or (h.go z pins σ H s t _ I fun s1 I1 => ?_)
 have := q s1 I1
 cases hz : ss.contains z with
 | true =>
   rw [hz] at this
   show R (some ((namesOfAll (pts.take 1)).filterMap _)) s1
   rw [hn]
   exact this
 | false =>
   rw [hz] at this
   exact this⟩
def abI (X : Cx) (T : Tb) (W : WX) (cs : List MatchCase) (m : Str → M Fl) : Prop := ∀ z, ∀ (B : Bs) (w : Wd) (σ : L2.St) (H : Hp) (fr : Fr) (h : Hh) (D : Ends), Rel X.K T B w σ H fr h → tW X.K T B W w (m z fr h) D → WM X cs z D σ H
def Dc : List (List Str × M Fl) → Str → M Fl
 | [], _ => M.ret .nx
 | (ss, b) :: r, z => if ss.contains z then b else Dc r z
theorem agv : abI X T W [] (Dc []) := fun z B w σ H fr h D R p => ⟨fun pins s t first I => wpAny_matchCases_nil ⟨σ, H, I, p w σ H (Wd.le_refl _) R⟩⟩
theorem R4 (hp : abH X pt ss) (hb : G5 X T W body mb) (t : abI X T W cs (Dc ms)) : abI X T W (⟨pt, none, body⟩ :: cs) (Dc ((ss, mb) :: ms)) := fun z B w σ H fr h D R p => ⟨fun pins s tk first I => by
 refine wpAny_matchCases_cons (hp.go z pins σ H s tk _ I fun s1 I1 => ?_)
 have p' : tW X.K T B W w ((if ss.contains z then mb else Dc ms z) fr h) D := p
 cases hz : ss.contains z with
 | true =>
   rw [hz] at p'
   exact wpAny_assignInOrder_none ((hb B w σ H fr h D R p').go pins s1 I1)
 | false =>
   rw [hz] at p'
   exact (t z B w σ H fr h D R p').go pins s1 tk false I1⟩
def QJ (m : M D) (f : Str → M Fl) : M Fl := m.bind fun d => match d with
 | .str z => f z
 | _ => fun _ _ => .err
theorem afc {f : Str → M Fl} (s : cO X T W e m) (t : abI X T W cs f) : Bc X T W (.Match e cs pos) (QJ m f) := fun B w σ H fr h D R p => ⟨fun pins s1 I => by
 refine wpAny_Match (thn ((s B w σ H fr h (fun x H1 => ∃ z, x = .str z ∧ WM X cs z D σ H1) R (tW.bind (VR := vV X.K T B σ) p fun d fr1 h1 w1 H1 v e1 l1 r1 rd p1 => ?_)).go pins s1 I) fun v s2 ⟨x, H1, I1, rx, z, ex, q⟩ => ?_)
 · cases d with
   | str z => exact ⟨z, zV rd, t z B w1 σ H1 fr1 h1 D r1 p1⟩
   | _ => exact (show False from p1).elim
 · subst ex
   obtain ⟨tk, rfl⟩ := rx
   exact q.go pins s2 tk true I1⟩
end
end Pk
namespace Pk
open PySem PySem.Spec L2
section
variable {X : Cx} {T : Tb} {W : WX} {k : Nat} {pos pf : Pos} {a : Expr} {ma : M D}
def R5 (_ : Hh) (d : D) : Option D := match d with
 | .int i => if i.natAbs.log2 < 1920 then some (.str (toString i)) else none
 | .str z => some (.str z)
 | _ => none
theorem aaM (sa : cO X T W a ma) (hm : X.mg "str" = none) (hg : Gl X "str" := by rfl) (he : starEach (a :: []) X.env = (false, eval a X.env) :: starEach [] X.env := by exact uG rfl) : cO X T W (.Call (.Name "str" pf) [a] [] pos) (mQ R5 ma) :=
 af2 (id := "str") sa (fun B w σ H fr h x d z Q R rx q k => by
  unfold R5 at q
  split at q
  · split at q
    · rename_i hl
      cases q
      rw [vp rx]
      exact yD call_str_int ⟨_, rfl, hl, k w H _ (Wd.le_refl _) R (.str _)⟩
    · cases q
  · cases q
    rw [zV rx]
    exact yD SkE.call_str_str ⟨_, rfl, k w H _ (Wd.le_refl _) R (.str _)⟩
  · cases q) hm hg (by decide +kernel) (by decide) (by decide) he
end
end Pk
namespace Pk
open PySem PySem.Spec L2
section
variable {X : Cx} {T : Tb} {W : WX} {k j : Nat} {pos : Pos} {a b : Expr} {ma mb : M D}
end
end Pk
namespace Pk
open PySem PySem.Spec PyProof.Rows L2
section
variable {prog : Program} {w : World} {A : Around} {E : Value → Shared → Prop} {s : Shared} {l : Addr} {its : List Value} {ns : List Int} {Q : Value → Shared → Prop}
end
def aib (K : PySem.W.Frag) : List V → Hp → VK → Prop := fun vs H Q => ∃ (a : Addr) (ns : List Int), vs = [V.ref a] ∧ SqT K H a (ns.map V.int) ∧ Q (.int ns.sum) H
section
variable {X : Cx} {T : Tb} {W : WX} {k : Nat} {e a b c : Expr} {es : List Expr} {m ma mb mc : M D} {pos pf : Pos}
def X8 (h : Hh) (d : D) : Option D := match d with
 | .tup l => (D.ints l).map fun l => .int l.sum
 | _ => Yu h d
end
end Pk
namespace PySem
namespace OwA
open PySem.W PySem.Calls PyProof.Rows
section
variable {prog : Program} {w : World} {A : Around} {E : Value → Shared → Prop} {s : Shared} {K : Frag} {x C L f : Addr} {h₀ : Heap} {m : Str → Option Value} {ox : Obj} {od : Option Obj}
end
end OwA
end PySem
namespace Pk
open PySem PySem.Spec L2
section
variable {X : Cx} {T : Tb} {W : WX} {k j : Nat} {pos pf : Pos} {a b : Expr} {ma mb : M D}
def adx (mt : Nat → Option Fn) (ma : M D) : M D := ma.bind fun o => Gr mt o []
def aic (K : PySem.W.Frag) (C : Addr) (f : Str) (i : Int) : Bool := Vb K C && (match PySem.W.findCls K (.ref C) (.type "type") f with
 | some (.val (.int j _)) => decide (j = i)
 | _ => false)
end
end Pk
namespace PySem
namespace OwO
open PySem.W PySem.Calls PyProof.Rows
section
variable {prog : Program} {w : World} {A : Around} {E : Value → Shared → Prop} {s : Shared} {x C dx : Addr}
end
structure NmOk (nm : String) : Prop where
 n0 : fillsNumberSlot (.type "NoneType") nm = pure false
 n1 : fillsNumberSlot (.type "str") nm = pure false
 n2 : fillsNumberSlot (.type "list") nm = pure false
 n3 : fillsNumberSlot (.type "tuple") nm = pure false
 i0 : fillsNumberSlot (.type "int") nm = pure true
 b0 : fillsNumberSlot (.type "bool") nm = pure true
 i1 : numberSlotInPython (.type "int") nm = pure false
 b1 : numberSlotInPython (.type "bool") nm = pure false
 i2 : ∃ tk, typeLookup (.type "int") (dunderR nm) = pure tk
 b2 : ∃ tk, typeLookup (.type "bool") (dunderR nm) = pure tk
 ti : ∀ (prog : Program) (w : World) (A : Around) (E : Value → Shared → Prop) (s : Shared) (x C dx : Addr) (a : Int) (t : Tok), s.heap.get? x = some (instObj C dx) → ∀ P' : Option Value → Shared → Prop, P' none s → wpAny (model prog w) A (tryMethod (.int a t) (PySem.dunder nm) (.ref x)) P' E s
 tb : ∀ (prog : Program) (w : World) (A : Around) (E : Value → Shared → Prop) (s : Shared) (x C dx : Addr) (a : Bool), s.heap.get? x = some (instObj C dx) → ∀ P' : Option Value → Shared → Prop, P' none s → wpAny (model prog w) A (tryMethod (.bool a) (PySem.dunder nm) (.ref x)) P' E s
end OwO
end PySem
namespace Pk
open PySem PySem.Spec L2
structure OpF (X : Cx) (T : Tb) (k : Nat) (nm : String) (mt : Nat → Option Fn) : Prop where
 ok : PySem.OwO.NmOk nm
 ex : ∀ c F, mt c = some F → ∃ (kk : Nat) (f : Addr) (fd : FuncData) (ps : List Str), Cls X.K (T.cad c) ∧ Meth X.K (T.cad c) (PySem.dunder nm) f ∧ PySem.W.selfFirst X.K (T.cad c) = true ∧ v9 X.prog X.w X.K X.mg X.base T kk f fd ps F ∧ Bn X.K T fd ps 2 [] (aK []) ∧ kk ≤ k ∧
  ∃ g, PySem.W.findIn X.K (.ref (T.cad c)) (PySem.dunderR nm) = some (some (.ref g))
structure aiv (X : Cx) (T : Tb) (k : Nat) (nm : String) (mt : Nat → Option Fn) : Prop where
 ex : ∀ c F, mt c = some F → ∃ (kk : Nat) (f : Addr) (fd : FuncData) (ps : List Str), Cls X.K (T.cad c) ∧ Meth X.K (T.cad c) (PySem.dunderR nm) f ∧ PySem.W.selfFirst X.K (T.cad c) = true ∧ v9 X.prog X.w X.K X.mg X.base T kk f fd ps F ∧ Bn X.K T fd ps 2 [] (aK []) ∧ kk ≤ k ∧
  (∃ g, PySem.W.findIn X.K (.ref (T.cad c)) (PySem.dunder nm) = some (some (.ref g))) ∧ PySem.W.subIn X.K (.ref (T.cad c)) (.type "int") = some false ∧ PySem.W.subIn X.K (.ref (T.cad c)) (.type "bool") = some false
def Yb (mtl mtr : Nat → Option Fn) (h : Hh) (x y : D) : Option (Fn × Bool) := match CG h x y with
 | some c => (mtl c).map fun F => (F, false)
 | none => match fnOf mtl h x, y.bty h with
   | some F, some _ => some (F, false)
   | _, _ => match fnOf mtr h y, x.smp with
     | some F, true => some (F, true)
     | _, _ => none
def ady (mtl mtr : Nat → Option Fn) (ma mb : M D) : M D := ma.bind fun x => mb.bind fun y fr h => match Yb mtl mtr h x y with
 | some (F, false) => vD fr (F [x, y] h)
 | some (F, true) => vD fr (F [y, x] h)
 | none => .err
section
variable {X : Cx} {T : Tb} {W : WX} {k : Nat} {a b : Expr} {ma mb : M D} {pos : Pos} {op : Operator}
theorem OJ {e : Expr} : cO X T W e (fun _ _ => .err) := fun B w σ H fr h Q R p => p.elim
def Zk (X : Cx) (T : Tb) (W : WX) (k : Nat) (σ : L2.St) (f : Addr) (x y : V) (H2 : Hp) (Q : VK) : Prop :=
 ∃ (kk : Nat) (fd : FuncData) (ps : List Str) (G : Fn), v9 X.prog X.w X.K X.mg X.base T kk f fd ps G ∧ Bn X.K T fd ps 2 [] (aK []) ∧ kk ≤ k ∧
   ∀ g gV, KBn X.K fd ps 2 [] g gV → (∀ (w : Wd) (vs zs : List V) (ds es : List D), aO X.K T w vs ds → aO X.K T w zs es → ds.length = 2 → es.length = ([] : List Str).length → aO X.K T w (gV vs zs) (aK [] ds es) ∧ (aK [] ds es).length = ps.length) →
     spF X.K T ps.length G (gV [x, y] []) H2 Q (fun c d H' => W c d σ H')
def ah1 (X : Cx) (T : Tb) (W : WX) (k : Nat) (op : Operator) (σ : L2.St) (x y : V) (H2 : Hp) (Q : VK) : Prop :=
 (∃ (p1 p2 C dx dy f : Addr) (fs gs : List (Str × V)), x = .ref p1 ∧ y = .ref p2 ∧ H2 p1 = some (.ins C dx fs) ∧ H2 p2 = some (.ins C dy gs) ∧ Meth X.K C (PySem.dunder op.info.2) f ∧ PySem.W.selfFirst X.K C = true ∧ Zk X T W k σ f x y H2 Q) ∨
 (∃ (p1 C dx f g : Addr) (fs : List (Str × V)) (t : String), x = .ref p1 ∧ H2 p1 = some (.ins C dx fs) ∧ TyX X.K H2 y (.type t) ∧ t ∈ JN ∧ Meth X.K C (PySem.dunder op.info.2) f ∧ PySem.W.selfFirst X.K C = true ∧ PySem.W.findIn X.K (.ref C) (PySem.dunderR op.info.2) = some (some (.ref g)) ∧ Zk X T W k σ f x y H2 Q) ∨
 (∃ (p1 C dx f g : Addr) (fs : List (Str × V)), y = .ref p1 ∧ H2 p1 = some (.ins C dx fs) ∧ (x = .non ∨ (∃ bb, x = .bl bb) ∨ ∃ i, x = .int i) ∧ Meth X.K C (PySem.dunderR op.info.2) f ∧ PySem.W.selfFirst X.K C = true ∧ PySem.W.findIn X.K (.ref C) (PySem.dunder op.info.2) = some (some (.ref g)) ∧ PySem.W.subIn X.K (.ref C) (.type "int") = some false ∧ PySem.W.subIn X.K (.ref C) (.type "bool") = some false ∧ Zk X T W k σ f y x H2 Q)
end
end Pk
namespace Pk
open PySem PySem.Spec L2
def D.lstP (h : Hh) (d : D) : Option (List PyData) := match d.der h with
 | .fl l => D.toPs l
 | .nl l => D.toPs l
 | .kl l => D.toPs l
 | _ => none
section
variable {K : PySem.W.Frag} {T : Tb} {B : Bs} {w : Wd} {σ : L2.St} {H : Hp} {fr : Fr} {h : Hh} {v : V} {d : D} {ps : List PyData}
end
section
variable {X : Cx} {T : Tb} {W : WX} {k : Nat}
def ahR (h : Hh) (x y : D) : Option Bool := match x.toP, y.lstP h with
 | some p, some ps => if SeqAt.shaped p && SeqAt.shaped (.list ps) then some (ps.any fun z => PyData.eqv z p) else none
 | _, _ => none
def aid (h : Hh) (x y : D) : Option Bool := (ahR h x y).map (!·)
def Wn (h : Hh) (o x : D) : Option D := match x.toP, o.lstP h with
 | some p, some ps => if SeqAt.shaped p && SeqAt.shaped (.list ps) then (ps.findIdx? fun z => PyData.eqv z p).map (fun j => .int (j : Nat)) else none
 | _, _ => none
def Zm (mo m : M D) : M D := mo.bind fun o fr h => if (o.lstP h).isSome then m.bind (fun x fr h => M.opt (Wn h o x) fr h) fr h else .err
variable {e o : Expr} {m mo : M D} {cpos apos : Pos}
end
end Pk
namespace Pk
open PySem PySem.Spec L2
def aiw (ix : Nat → Option Nat) (x : D) : M D := fun fr h => M.opt (ug ix h x) fr h
section
variable {X : Cx} {T : Tb} {W : WX} {k j : Nat} {apos pos : Pos} {o b : Expr} {mo mb : M D} {f : Str} {ix : Nat → Option Nat}
end
end Pk
namespace Pk
open PySem PySem.Spec L2
def vJD : wJ It (Nat × List D × List D) := fun K T _ _ w _ _ J x => ∀ i w1 B1 σ1 H1 fr1 h1, w.le w1 → Rel K T B1 w1 σ1 H1 fr1 h1 → h1[x.1]? = some (.nl x.2.1) →
 (x.2.2.length ≤ i → J.stop i H1) ∧ ∀ d, x.2.2[i]? = some d → J.go i H1 ∧ ∀ y H2, J.yld i H1 y H2 → ∃ w2, w1.le w2 ∧ Rel K T B1 w2 σ1 H2 fr1 h1 ∧ rC K T w2 y d
open Classical in
noncomputable def vW (n : Nat) (l : List D) (vs : List Nat) (g : D → M Unit) (t : M Bool) (e : M D) : List D → M (List D)
 | [] => fun fr h => if h[n]? = some (.nl l) then .ok [] fr h else .err
 | d :: ds => fun fr h => if h[n]? = some (.nl l) then ((xm vs g t e d).bind fun o => (vW n l vs g t e ds).bind fun r => M.ret (Ag o r)) fr h else .err
noncomputable def La (vs : List Nat) (l : M (Nat × List D × List D)) (g : D → M Unit) (t : M Bool) (e : M D) : M D := l.bind fun x => (X5 vs).bind fun _ => if x.2.2.length ≤ big then (vW x.1 x.2.1 vs g t e x.2.2).bind fun r => M.ret (.nl r) else M.opt none
section
variable {X : Cx} {T : Tb} {W : WX} {k : Nat} {pos pos' : Pos} {tg iter elt c e : Expr} {ifs : List Expr} {li : M (Nat × List D × List D)} {g : D → M Unit} {b : M Fl} {is : List Nat} {t : M Bool} {m me : M D} {scope : Scope} {own : List (Str × Nat)} {body : List Stmt}
theorem Zo (s : cO X T W e m) : wF (WI X tg e) X.K T W vJD (M9 m) := fun B w σ H fr h Q r p => abb (acq mZ) (s B w σ H fr h _ r (bu.bind (VR := vV X.K T B σ) p fun d fr1 h1 w1 H1 x e1 l1 r1 rx p1 => by
 cases q : FT h1 d with
 | none => rw [q] at p1; exact p1.elim
 | some z =>
   obtain ⟨n, l⟩ := z
   rw [q] at p1
   obtain ⟨rfl, hc⟩ := abE q
   cases rx with
   | @ref a n1 s1 =>
     obtain ⟨vs, sq, rv⟩ := Zd r1 s1 hc
     refine ⟨a, rfl, .inr ⟨⟨vs, sq⟩, p1 w1 H1 (Itl X.K a) (Wd.le_refl _) r1 fun i w3 B3 σ3 H3 fr3 h3 l3 r3 hc3 => ?_⟩⟩
     obtain ⟨vs3, sq3, rv3⟩ := Zd r3 (aeK l3 s1) hc3
     refine ⟨fun hi => ⟨vs3, sq3, by rw [rv3.length]; exact hi⟩, fun d' hd => ?_⟩
     obtain ⟨v, hv, rv⟩ := rv3.get hd
     refine ⟨⟨vs3, v, sq3, hv⟩, fun y H4 hy => ?_⟩
     obtain ⟨rfl, hy⟩ := hy
     have z := hy vs3 sq3
     rw [hv] at z
     cases z
     exact ⟨w3, Wd.le_refl _, r3, rv⟩))
theorem afd {B : Bs} {w : Wd} {σ : L2.St} {H : Hp} {fr : Fr} {h : Hh} {Q : VK} (si : wF (WI X tg iter) X.K T W vJD li) (hi : ∀ i ∈ is, i ∈ own.map (·.2))
 (sg : ∀ (s : Shared) (H0 : Hp) (C : Addr) (cl : List (Str × Addr)) (fp : List Addr), Mx (X.blk s H0 scope (compEnvC scope cl C X.env) fp) T is tg g)
 (st : ∀ (s : Shared) (H0 : Hp) (C : Addr) (cl : List (Str × Addr)) (fp : List Addr), wF (UL (X.blk s H0 scope (compEnvC scope cl C X.env) fp) ifs) X.K T WF vB t)
 (se : ∀ (s : Shared) (H0 : Hp) (C : Addr) (cl : List (Str × Addr)) (fp : List Addr), cO (X.blk s H0 scope (compEnvC scope cl C X.env) fp) T WF elt me)
 (R : Rel X.K T B w σ H fr h) (p : bu X.K T B W (vE X.K T B σ) w σ (La (own.map (·.2)) li g t me fr h) Q) : tLc (WI X tg iter) (GB X scope tg) (TB X scope ifs) (EB X scope elt) (own.map (·.2)) σ H Q := by
 refine si B w σ H fr h _ R (bu.bind (VR := vJD X.K T B σ) p fun xx fr0 h0 w1 H1 J e1 l1 r0 vj p0 => ?_)
 obtain ⟨n, l, ds⟩ := xx
 generalize hvs : own.map (·.2) = vs at hi p0 ⊢
 intro A0 nD
 have p1 : bu X.K T B W (vE X.K T B σ) w1 σ ((if ds.length ≤ big then (vW n l vs g t me ds).bind fun r => M.ret (.nl r) else M.opt none) (vU fr0 vs) h0) Q := p0
 by_cases hb : ds.length ≤ big
 · rw [if_pos hb] at p1
   have rD := r0.temp (o := .lst []) nD
   have OD : Own B w1 A0 := r0.own_new nD
   refine ⟨fun i m H => m = ds.length - i ∧ i ≤ ds.length ∧ ∃ w' fr' h' acc vs', w1.le w' ∧ aO X.K T w' vs' acc ∧ acc.length ≤ i ∧ Rel X.K T (B.pr A0 (.lst vs')) w' (wipe σ vs) H fr' h' ∧ (∀ j ∈ vs, ∀ d, fr'[j]? ≠ some (some d)) ∧
    bu X.K T B W (vE X.K T B σ) w' σ (((vW n l vs g t me (ds.drop i)).bind fun r => M.ret (D.nl (acc ++ r))) fr' h') Q, ⟨ds.length, by simp, Nat.zero_le _, w1, vU fr0 vs, h0, [], [], Wd.le_refl _, .nil, Nat.zero_le _,
     (rD.wipe vs).protect OD (fun i ⟨z1, dd, z2, z3⟩ => r0.loose_new nD i (by
      by_cases hj : i ∈ vs
      · exact absurd z2 (Af hj)
      · rw [LK hj] at z2
        rw [wipe_out hj] at z1
        exact ⟨z1, dd, z2, z3⟩)) upd_same, fun j hj d => Af hj, p1⟩, ?_⟩
   rintro i m H2 ⟨rfl, hil, w2, fr2, h2, acc, us, l2, ra, la, r2, hw2, p2⟩
   have hP := OD.p
   by_cases hc : h2[n]? = some (.nl l)
   case neg =>
    exfalso
    have q : vW n l vs g t me (ds.drop i) fr2 h2 = .err := by cases ds.drop i <;> (unfold vW; rw [if_neg hc])
    rw [M.bind_err q] at p2
    exact p2.elim
   obtain ⟨js, jg⟩ := vj i w2 (B.pr A0 (.lst us)) (wipe σ vs) H2 fr2 h2 l2 r2 hc
   by_cases hlt : i < ds.length
   · obtain ⟨go, y⟩ := jg ds[i] (ai9 hlt)
     have ed : ds.drop i = ds[i] :: ds.drop (i + 1) := List.drop_eq_getElem_cons hlt
     rw [ed] at p2
     refine .inr ⟨go, fun H' => ∃ w' fr' h' acc vs', w1.le w' ∧ aO X.K T w' vs' acc ∧ acc.length ≤ i + 1 ∧ Rel X.K T (B.pr A0 (.lst vs')) w' (wipe σ vs) H' fr' h' ∧ (∀ j ∈ vs, ∀ d, fr'[j]? ≠ some (some d)) ∧
      bu X.K T B W (vE X.K T B σ) w' σ (((vW n l vs g t me (ds.drop (i + 1))).bind fun r => M.ret (D.nl (acc ++ r))) fr' h') Q, fun H' q => ⟨ds.length - (i + 1), by omega, rfl, hlt, q⟩, fun x H3 yx => ?_⟩
     obtain ⟨w3, l3, r3, rx⟩ := y x H3 yx
     have turn : ∃ o fr' h', xm vs g t me ds[i] fr2 h2 = .ok o fr' h' ∧ bu X.K T B W (vE X.K T B σ) w2 σ (((vW n l vs g t me (ds.drop (i + 1))).bind fun r => M.ret (D.nl (acc ++ Ag o r))) fr' h') Q := by
      have p2' : bu X.K T B W (vE X.K T B σ) w2 σ (((xm vs g t me ds[i]).bind fun o => (vW n l vs g t me (ds.drop (i + 1))).bind fun r => M.ret (D.nl (acc ++ Ag o r))) fr2 h2) Q := by
       have ee : ((vW n l vs g t me (ds[i] :: ds.drop (i + 1))).bind fun r => M.ret (D.nl (acc ++ r))) fr2 h2 = ((xm vs g t me ds[i]).bind fun o => (vW n l vs g t me (ds.drop (i + 1))).bind fun r => M.ret (D.nl (acc ++ Ag o r))) fr2 h2 := by
        have q9 : vW n l vs g t me (ds[i] :: ds.drop (i + 1)) fr2 h2 = ((xm vs g t me ds[i]).bind fun o => (vW n l vs g t me (ds.drop (i + 1))).bind fun r => M.ret (Ag o r)) fr2 h2 := by rw [vW]; dsimp only; rw [if_pos hc]
        unfold M.bind at q9 ⊢
        rw [q9]
        cases xm vs g t me ds[i] fr2 h2 with
        | ok o fr' h' => dsimp only; cases vW n l vs g t me (ds.drop (i + 1)) fr' h' <;> rfl
        | exc _ _ _ => rfl
        | err => rfl
       rw [← ee]
       exact p2
      cases q : xm vs g t me ds[i] fr2 h2 with
      | ok o fr' h' =>
        rw [M.bind_ok q] at p2'
        exact ⟨o, fr', h', rfl, p2'⟩
      | exc y fr' h' =>
        exfalso
        unfold xm at q
        split at q
        · split at q
          · split at q <;> cases q
          · cases q
          · cases q
        · cases q
      | err =>
        rw [M.bind_err q] at p2'
        exact p2'.elim
     obtain ⟨o, fro, ho, qt, p3⟩ := turn
     have upw : ∀ {u2 : L2.St} {w' : Wd} {H' : Hp} {fr' : Fr} {h' : Hh} {B' : Bs}, wipe u2 vs = wipe σ vs → Rel X.K T B' w' u2 H' fr' h' → Rel X.K T B' w' (wipe σ vs) H' (vU fr' vs) h' := fun {u2 w' H' fr' h' B'} e R' => by
      rw [← e]
      exact R'.wipe vs
     intro s0 H0 C cl fp
     refine sg s0 H0 C cl fp (B.pr A0 (.lst us)) w3 (wipe σ vs) H3 fr2 h2 x ds[i] _ r3 rx ?_
     unfold xm at qt
     cases q1 : g ds[i] fr2 h2 with
     | exc _ _ _ => rw [q1] at qt; cases qt
     | err => rw [q1] at qt; cases qt
     | ok _ fr3 h3 =>
       rw [q1] at qt
       dsimp only at qt
       intro w4 σ4 H4 l4 r4 k4
       have ew : wipe σ4 vs = wipe σ vs := Yx (k4.1.trans (wipe_length σ vs)) hi k4.2
       refine ⟨ew, fun s0 H0 C cl fp => st s0 H0 C cl fp (B.pr A0 (.lst us)) w4 σ4 H4 fr3 h3 _ r4 ?_⟩
       cases q2 : t fr3 h3 with
       | exc _ _ _ => rw [q2] at qt; cases qt
       | err => rw [q2] at qt; cases qt
       | ok b fr4 h4 =>
         rw [q2] at qt
         intro w5 H5 v l5 r5 rv
         have rv' : v = b := rv
         subst rv'
         cases v with
         | false =>
           dsimp only at qt
           cases qt
           simp only [Bool.false_eq_true, if_false]
           exact ⟨w5, _, _, acc, us, Wd.le_trans l2 (Wd.le_trans l3 (Wd.le_trans l4 l5)), ra.mono (Wd.le_trans l3 (Wd.le_trans l4 l5)), Nat.le_succ_of_le la, upw ew r5, fun j hj d => Af hj, p3.le (Wd.le_trans l3 (Wd.le_trans l4 l5))⟩
         | true =>
           dsimp only at qt
           simp only [if_true]
           intro s0 H0 C cl fp
           refine se s0 H0 C cl fp (B.pr A0 (.lst us)) w5 σ4 H5 fr4 h4 _ r5 ?_
           cases q3 : me fr4 h4 with
           | exc _ _ _ => rw [q3] at qt; cases qt
           | err => rw [q3] at qt; cases qt
           | ok yd fr5 h5 =>
             rw [q3] at qt
             cases qt
             intro w6 H6 yv l6 r6 ry
             have hD6 : H6 A0 = some (.lst us) := (r6.prot (A0, .lst us) (ai8)).1
             have lall : w2.le w6 := Wd.le_trans l3 (Wd.le_trans l4 (Wd.le_trans l5 l6))
             refine ⟨us, hD6, ?_, w6, _, _, acc ++ [yd], us ++ [yv], Wd.le_trans l2 lall, (ra.mono lall).append (.cons ry .nil), ?_, (upw ew r6).repr OD.e OD.p, fun j hj d => Af hj, ?_⟩
             · rw [ra.length]
               have : big < sizeLine := by decide
               omega
             · rw [ajh]
               show acc.length + 1 ≤ i + 1
               omega
             · have e9 : ∀ r : List _, acc ++ Ag (some yd) r = acc ++ [yd] ++ r := fun r => by
                show acc ++ yd :: r = _
                rw [List.append_assoc]
                rfl
               simp only [e9] at p3
               exact p3.le lall
   · have e : i = ds.length := by omega
     subst e
     rw [List.drop_length] at p2
     obtain ⟨r3, O3, lo3, eD⟩ := r2.unprotect OD.e OD.p
     refine .inl ⟨js (Nat.le_refl _), ?_⟩
     have p3 : bu X.K T B W (vE X.K T B σ) w2 σ (.ok (D.nl (acc ++ [])) fr2 h2) Q := by
      have q : vW n l vs g t me [] fr2 h2 = .ok [] fr2 h2 := by unfold vW; rw [if_pos hc]
      rw [M.bind_ok q] at p2
      exact p2
     rw [aiS] at p3
     have r4 : Rel X.K T B w2 σ H2 fr2 h2 := r3.refr (by rw [← wipe_length σ vs]; exact r3.fl) fun j d ej => ⟨ej, by
      by_cases hj : j ∈ vs
      · exact absurd ej (hw2 j hj d)
      · exact (wipe_out hj).symm⟩
     refine p3 w2 H2 (.ref A0) (Wd.le_refl _) r4 (.inr ⟨A0, _, rfl, O3, fun j ⟨z1, dd, z2, z3⟩ => lo3 j ⟨?_, dd, z2, z3⟩, eD, .lst ra⟩)
     by_cases hj : j ∈ vs
     · exact absurd z2 (hw2 j hj dd)
     · rw [wipe_out hj]
       exact z1
 · rw [if_neg hb] at p1
   exact p1.elim
theorem Zq (C : Cq X T W k) (own : List (Str × Nat)) (si : wF (WI X tg iter) X.K T W vJD li) (hi : ∀ i ∈ is, i ∈ own.map (·.2))
 (sg : ∀ (s : Shared) (H0 : Hp) (C : Addr) (cl : List (Str × Addr)) (fp : List Addr), Mx (X.blk s H0 scope (compEnvC scope cl C X.env) fp) T is tg g)
 (st : ∀ (s : Shared) (H0 : Hp) (C : Addr) (cl : List (Str × Addr)) (fp : List Addr), wF (UL (X.blk s H0 scope (compEnvC scope cl C X.env) fp) ifs) X.K T WF vB t)
 (se : ∀ (s : Shared) (H0 : Hp) (C : Addr) (cl : List (Str × Addr)) (fp : List Addr), cO (X.blk s H0 scope (compEnvC scope cl C X.env) fp) T WF elt me)
 (ok : BlkOk X.N X.env.scope scope own) (hs : ∀ x, foldedSetIterable iter X.env x = pure x := by intro _; rfl) : zQ X T W (.ListComp elt [⟨tg, iter, ifs, 0⟩] scope pos) (La (own.map (·.2)) li g t me) := fun B w σ H fr h Q R p =>
 uP (pe_lc C.calm C.nd UT ok (fun s H C cl fp => ⟨fun pins s' σ H v u Q I r hh => hh s _ C cl fp pins s' u I r⟩) (fun s H C cl fp => ⟨fun pins s' σ H Q I hh => hh s _ C cl fp pins s' I⟩) (fun s H C cl fp => ⟨fun pins s' σ H Q I hh => (hh s _ C cl fp).go pins s' I⟩) hs) (afd si hi sg st se R p)
end
section
variable {X : Cx} {T : Tb} {W : WX} {k : Nat} {pos : Pos} {tg iter elt : Expr} {ifs : List Expr} {lj : M (List D)} {g : D → M Unit} {is : List Nat} {t : M Bool} {me : M D} {scope : Scope} {own : List (Str × Nat)}
end
end Pk
namespace Pk
open PySem PySem.Spec L2
def keyD : D → Option Key
 | .int i => some (.inl i)
 | .str s => some (.inr s)
 | _ => none
def aeM : List D → Option (List Key)
 | [] => some []
 | d :: ds => (keyD d).bind fun k => (aeM ds).map fun ks => k :: ks
def valD : List (List Key) → List D → List Key → Option D
 | k' :: ks, d :: ds, k => if k' = k then some d else valD ks ds k
 | _, _, _ => none
def agw (ks : List (List Key)) (k : List Key) : Bool := ks.any fun k' => decide (k' = k)
def ahk (ks : List (List Key)) (k : List Key) : List (List Key) := if agw ks k = true then ks else ks ++ [k]
def ahl {α : Type} (ks : List (List Key)) (ds : List α) (k : List Key) (v : α) : List α := if agw ks k = true then List.zipWith (fun k' d => if k' = k then v else d) ks ds else ds ++ [v]
def aeN (ds : List D) : Option (List Key) := if ds.length ≤ big then aeM ds else none
def acH (h : Hh) (d : D) : Option (Nat × List (List Key) × List D) := match d with
 | .ref n => match h[n]? with
   | some (.dc ks ds) => some (n, ks, ds)
   | _ => none
 | _ => none
def abJ (h : Hh) (o : D) (ks : List D) : Option D := (acH h o).bind fun x => (aeN ks).bind fun k => valD x.2.1 x.2.2 k
def Yc (h : Hh) (o : D) (ks : List D) (d : D) : Option Hh := (acH h o).bind fun x => (aeN ks).bind fun k => if x.2.1.length ≤ big then some (h.set x.1 (.dc (ahk x.2.1 k) (ahl x.2.1 x.2.2 k d))) else none
def aeO : M D := fun fr h => .ok (.ref h.length) fr (h ++ [.dc [] []])
def abK (mo : M D) (ms : List (M D)) : M D := mo.bind fun o => (aj ms).bind fun ks fr h => M.opt (abJ h o ks) fr h
def abL (mo : M D) (ms : List (M D)) (mv : M D) : M Fl := mv.bind fun d => mo.bind fun o => (aj ms).bind fun ks fr h => match Yc h o ks d with
 | some h' => .ok .nx fr h'
 | none => .err
section
variable {X : Cx} {T : Tb} {W : WX} {k x1 : Nat} {pos tpos pos' : Pos} {o e : Expr} {es : List Expr} {mo m : M D} {ms : List (M D)}
end
end Pk
namespace Pk
open PySem PySem.Spec L2
def aix (K : PySem.W.Frag) (ta : TE) (f : Str) : TG := fun v σ H Q => ta σ H fun x H1 => ∃ a C dx fs, x = .ref a ∧ H1 a = some (.ins C dx fs) ∧ Cls K C ∧ NoAttr K C f ∧ fs.length < 1000 ∧ Q σ (upd H1 a (.ins C dx (putF f v fs)))
section
variable {X : Cx} {o : Expr} {f : Str} {pos : Pos} {ta : TE}
end
def abM (j : Nat) (ix : Nat → Option Nat) (d : D) : M Unit := fun fr h => match fr[j]? with
 | some (some (.ref n)) => match h[n]? with
   | some (.no c fs) => match ix c with
     | some i => match xj i d fs with
       | some fs' => .ok () fr (h.set n (.no c fs'))
       | none => .err
     | none => .err
   | _ => .err
 | _ => .err
section
variable {X : Cx} {T : Tb} {W : WX} {k kk n c : Nat} {px tpos p pos : Pos} {f : Addr} {fd : FuncData} {ps : List Str} {F : Fn} {x : Str} {e : Expr} {es : List Expr} {ma mk : M (List D)} {gD : List D → List D → List D}
structure FnC (P : Program) (w : World) (K : PySem.W.Frag) (mg : Str → Option Value) (base : Heap) (T : Tb) (k c : Nat) (f : Addr) (fd : FuncData) (ps : List Str) (F : Fn) : Prop where
 ok : FnOk P w K mg base (L2.CX P w) k f fd ps (spF K T ps.length F)
 made : Mk K (T.cad c) f
def abN (fr : Fr) (n : Nat) : R D → R D
 | .ok .non _ h => .ok (.ref n) fr h
 | .ok _ _ _ => .err
 | .exc x _ h => .exc x fr h
 | .err => .err
def NP (c n m : Nat) (F : Fn) (gD : List D → List D → List D) (ma mk : M (List D)) : M D := ma.bind fun ds => mk.bind fun es fr h => if ds.length = n ∧ es.length = m then abN fr h.length (F (.ref h.length :: gD ds es) (h ++ [.no c []])) else .err
theorem acI {B : Bs} {w : Wd} {σ : L2.St} {H : Hp} {fr : Fr} {h : Hh} {m : Nat} {vs zs : List V} {ds es : List D} {Q : VK} {gV gW : List V → List V → List V} (hv : ∀ x vs zs, vs.length = n → zs.length = m → gV (x :: vs) zs = x :: gW vs zs)
 (hg : ∀ (w : Wd) (vs zs : List V) (ds es : List D), aO X.K T w vs ds → aO X.K T w zs es → ds.length = n → es.length = m → aO X.K T w (gW vs zs) (gD ds es) ∧ (gD ds es).length + 1 = ps.length)
 (R : Rel X.K T B w σ H fr h) (rs : aO X.K T w vs ds) (rz : aO X.K T w zs es) (p : bu X.K T B W (vV X.K T B σ) w σ (if ds.length = n ∧ es.length = m then abN fr h.length (F (.ref h.length :: gD ds es) (h ++ [.no c []])) else .err) Q) :
 vs.length = n ∧ zs.length = m ∧ ∀ x dx, H x = none → H dx = none → dx ≠ x → spF X.K T ps.length F (gV (.ref x :: vs) zs) (upd (upd H dx (.own x)) x (.ins (T.cad c) dx [])) (fun v H2 => v = .non ∧ Q (.ref x) H2) (fun c d H' => W c d σ H') := by
 by_cases hl : ds.length = n ∧ es.length = m
 · rw [if_pos hl] at p
   obtain ⟨r2, l2⟩ := hg w vs zs ds es rs rz hl.1 hl.2
   refine ⟨rs.length.trans hl.1, rz.length.trans hl.2, fun x dx nx nd ne => ?_⟩
   rw [hv _ _ _ (rs.length.trans hl.1) (rz.length.trans hl.2)]
   have R1 : Rel X.K T B w σ (upd H dx (.own x)) fr h := R.temp nd
   have nx1 : (upd H dx (.own x)) x = none := by rw [upd_ne (Ne.symm ne)]; exact nx
   have co : JM X.K T w (.ins (T.cad c) dx []) (.no c []) := by
    have z : JM X.K T w (.ins (T.cad c) dx ((T.fld c).zip [])) (.no c []) := .obj .nil
    rw [List.zip_nil_right] at z
    exact z
   have R2 := (R1.temp (o := .ins (T.cad c) dx []) nx1).to_cellO (R1.own_new nx1) (R1.loose_new nx1) upd_same co
   have le : w.le ⟨w.F, w.I ++ [x]⟩ := ⟨fun _ _ z => z, [x], rfl⟩
   have rx : rC X.K T ⟨w.F, w.I ++ [x]⟩ (.ref x) (.ref h.length) := .ref (by
    rw [← R.len]
    show (w.I ++ [x])[w.I.length]? = some x
    rw [aji (Nat.le_refl _), Nat.sub_self]
    rfl)
   refine RK (B := B) (σ := σ) (fr := fr) (W := W) R2 (.cons rx (r2.mono le)) (by rw [aiU]; exact l2) ?_
   revert p
   cases F (.ref h.length :: gD ds es) (h ++ [.no c []]) with
   | ok d fr' h' =>
     cases d with
     | non =>
       intro p w' H' v l R' rv
       have ev : v = .non := by
        rcases rv with rv | ⟨q, o, _, _, _, _, rd⟩
        · cases rv; rfl
        · cases rd
       exact ⟨ev, p w' H' (.ref x) (Wd.le_trans le l) R' (rx.mono l)⟩
     | _ => exact fun p => p.elim
   | exc y fr' h' => exact fun p w' H' c dd l R' z => p w' H' c dd (Wd.le_trans le l) R' z
   | err => exact fun p => p.elim
 · rw [if_neg hl] at p
   exact p.elim
theorem adz (C : Cq X T W k) (F0 : FnC X.prog X.w X.K X.mg X.base T kk c f fd ps F) (hk : kk + 1 ≤ k) (bn : BnI X.K T fd ps n [] gD) (hm : X.mg x = some (.ref (T.cad c))) (sa : CP X T W (e :: es) ma) (hg : Gl X x := by rfl) (hdb : (x == ("__debug__" : Str)) = false := by decide)
 (he : starEach (e :: es) X.env = (false, eval e X.env) :: starEach es X.env := by exact uG rfl) (hpl : (backTo pos (starEach es X.env)).any (·.1) = false := by rfl) : cO X T W (.Call (.Name x p) (e :: es) [] pos) (NP c n 0 F gD ma (aj [])) := fun B w σ H fr h Q R pp => WE.mk <| fun pins s I => by
 obtain ⟨g, gV, gW, hb, hv, hgD⟩ := bn.ex
 refine wpAny_Call_Name_kw (ld_glob I hg hm ?_ hdb)
 refine PySem.W.callWith_K (h₀ := X.base) I.ok.mod.kin F0.made.kp (thn ((sa B w σ H fr h _ R (bu.bind (VR := vA X.K T B σ) pp fun ds fr1 h1 w1 H1 vs e1 l1 r1 rs p1 => acI (c := c) hv hgD r1 rs .nil p1)).go pos pins s I) fun us s1 ⟨vs, H1, I1, r, q⟩ => ⟨I1.kIn, ?_⟩) he hpl
 exact run_mk (ws := []) F0.made F0.ok (C.room.mono hk) hb C.takes I1 r .nil q.1 rfl q.2.2
end
def aie (h : Hh) (d e : D) : Option D := match d, e with
 | .fl a, .ref n => match h[n]? with
   | some (.nl b) => if a.length + b.length ≤ big then some (.nl (a ++ b)) else none
   | _ => none
 | _, _ => none
section
variable {X : Cx} {T : Tb} {W : WX} {pos : Pos} {a b : Expr} {ma mb : M D}
end
end Pk
namespace Pk
open PySem PySem.Spec L2
def Zr (m : M D) : M (Nat × List D × List D) := m.bind fun d fr h => M.opt ((FT h d).map fun x => (x.1, x.2, FP 0 x.2)) fr h
section
variable {X : Cx} {T : Tb} {W : WX} {p pos tpos : Pos} {kk : Nat} {elts : List Expr} {a : Expr} {ma : M D}
end
end Pk
namespace Pk
open PySem PySem.Spec L2
def Bp (j : Nat) (ix : Nat → Option Nat) (f : Int → Int → Int) (m : M D) : M Fl := fun fr h => match fr[j]? with
 | some (some (.ref n)) => match h[n]? with
   | some (.no c fs) => match ix c with
     | some i => match fs[i]? with
       | some (.int a) => (m.bind fun d fr h => match d with
         | .int b => match h[n]? with
           | some (.no c' fs') => if c' = c then match xj i (.int (f a b)) fs' with
            | some fs'' => .ok .nx fr (h.set n (.no c fs''))
            | none => .err
            else .err
           | _ => .err
         | _ => .err) fr h
       | _ => .err
     | none => .err
   | _ => .err
 | _ => .err
section
variable {X : Cx} {T : Tb} {W : WX} {k : Nat} {px pos tpos apos cpos : Pos} {e o : Expr} {m mo : M D}
theorem aaN {K : PySem.W.Frag} {B : Bs} {w : Wd} {σ : L2.St} {H : Hp} {fr : Fr} {h : Hh} {n c : Nat} {a : Addr} {fs : List D} (R : Rel K T B w σ H fr h) (ha : w.I[n]? = some a) (hc : h[n]? = some (.no c fs)) :
 ∃ dx vs, H a = some (.ins (T.cad c) dx ((T.fld c).zip vs)) ∧ aO K T w vs fs := by
 obtain ⟨o, eH, ro⟩ := R.cel n a _ ha hc
 cases ro with
 | obj r => exact ⟨_, _, eH, r⟩
theorem Ul {op : Operator} {f : Int → Int → Int} (j : Nat) {x fn : Str} {ix : Nat → Option Nat} (F : Qq X T fn ix) (ho : InOp X op (fun x y H Q => ∃ i j, x = V.int i ∧ y = V.int j ∧ Q (V.int (f i j)) H)) (s : cO X T W e m)
 (hN : X.N[j]? = some x := by rfl) (hv : Vis X.env.scope x := by first | exact Or.inl rfl | exact Or.inr (Or.inl rfl) | exact Or.inr (Or.inr rfl)) (hd : (x == ("__debug__" : Str)) = false := by decide)
 (hcd : (x == ("__classdict__" : Str)) = false := by decide) : Bc X T W (.AugAssign (.Attribute (.Name x px) fn tpos) op e pos) (Bp j ix f m) := fun B w σ H fr h D R p => by
 unfold Bp at p
 split at p
 · rename_i n e1
   split at p
   · rename_i c fs ec
     split at p
     · rename_i i ei
       split at p
       · rename_i a ea
         obtain ⟨v, e2, z⟩ := vm R e1
         cases z with
         | own O eH r => cases r
         | val r =>
           cases r with
           | @ref q _ s1 =>
             obtain ⟨dx, vs, eH, rs⟩ := aaN R s1 ec
             obtain ⟨v0, ev0, rv0⟩ := rs.get ea
             rw [vp rv0] at ev0
             refine Ak (ps_fldaug (pe_var hN hv hd hcd) mZ ho) ⟨_, e2, q, T.cad c, dx, (T.fld c).zip vs, .int a, rfl, eH, F.cls c i ei, F.na c i ei, (Ol (F.nd c i ei).1 (F.at_ c i ei)).trans ev0, ?_⟩
             refine s B w σ H fr h _ R (tW.bind (VR := vV X.K T B σ) p fun d fr1 h1 w1 H1 y e3 l1 r1 ry p1 => ?_)
             cases d with
             | int b =>
               dsimp only at p1
               split at p1
               · rename_i c' fs' ec'
                 by_cases hc : c' = c
                 · subst hc
                   rw [if_pos rfl] at p1
                   split at p1
                   · rename_i fs'' ep
                     have s1' : w1.I[n]? = some q := aeK l1 s1
                     obtain ⟨dx', vs', eH', rs'⟩ := aaN r1 s1' ec'
                     obtain ⟨vs'', ez, rs''⟩ := Xe (F.nd c' i ei).1 (F.at_ c' i ei) rs' (.int (f a b)) ep
                     refine ⟨a, b, rfl, vp ry, dx', (T.fld c').zip vs', eH', ?_, ?_⟩
                     · rw [List.length_zip]
                       have := (F.nd c' i ei).2
                       omega
                     · rw [ez]
                       exact p1 w1 σ _ (Wd.le_refl _) (r1.change_cell s1' ec' (.obj rs''))
                   · exact (show False from p1).elim
                 · rw [if_neg hc] at p1
                   exact (show False from p1).elim
               · exact (show False from p1).elim
             | _ => exact (show False from p1).elim
       · exact p.elim
     · exact p.elim
   · exact p.elim
 · exact p.elim
theorem Um {X : Cx} : InOp X .Add (fun x y H Q => ∃ i j, x = V.int i ∧ y = V.int j ∧ Q (V.int (i + j)) H) := in_add
def Zt (d : D) (l : List D) : Option (List D) := match d with
 | .fl r => if l.length + r.length ≤ big then some (l ++ r) else none
 | _ => none
def Vf (i : Nat) (m : M D) : M D := (mO i wj).bind fun _ => m.bind fun d => (mO i (Zt d)).bind fun _ => M.ret .non
theorem afe {K : PySem.W.Frag} {B : Bs} {w : Wd} {σ : L2.St} {H : Hp} {v y : V} {d : D} {fr fr' : Fr} {h h' : Hh} {Q : VK} (R : Rel K T B w σ H fr h) (z : JW K T B w σ H v (Zt d) fr' h') (ry : rC K T w y d) (q : ∀ H', Rel K T B w σ H' fr' h' → Q .non H') : rExtend v [y] H Q := by
 obtain ⟨p, vs, l, l', rfl, e, r, ef, k⟩ := z
 unfold Zt at ef
 split at ef
 · rename_i rr
   split at ef
   · rename_i hl
     cases ef
     obtain ⟨b, zs, rfl, eF, rz⟩ := T9 ry
     exact ⟨p, b, vs, zs, rfl, rfl, e, R.sub _ _ eF, by rw [r.length, rz.length]; exact Nat.le_trans hl (by decide), q _ (k _ (r.append rz))⟩
   · cases ef
 · cases ef
theorem afg (i : Nat) {x : Str} (s : cO X T W e m) (hN : X.N[i]? = some x := by rfl) (hv : Vis X.env.scope x := by first | exact Or.inl rfl | exact Or.inr (Or.inl rfl) | exact Or.inr (Or.inr rfl)) (hd : (x == ("__debug__" : Str)) = false := by decide)
 (hcd : (x == ("__classdict__" : Str)) = false := by decide)
 (hbase : attributeBase (.Name x px) "extend" X.env (eval (.Name x px) X.env) = eval (.Name x px) X.env := by rfl)
 (hfew : ((backTo cpos (starEach (e :: []) X.env)).all (fun x => !x.1) && (backToKw cpos (keywordEach [] X.env)).all (fun x => x.1.isSome)
  && decide ((e :: []).length + ([] : List Keyword).length + (if ([] : List Keyword).isEmpty then 0 else 1) < 30)) = true := by rfl)
 (hline : (apos.endLine == cpos.line) = true := by rfl) (hs : starEach (e :: []) X.env = (false, eval e X.env) :: starEach [] X.env := by exact uG rfl) (hplain : (backTo cpos (starEach [] X.env)).any (·.1) = false := by rfl) :
 cO X T W (.Call (.Attribute (.Name x px) "extend" apos) [e] [] cpos) (Vf i m) := fun B w σ H fr h Q R p => by
 have hh : ∃ v, σ[i]? = some (some v) := by
  cases e1 : fr[i]? with
  | none =>
    have q : mO i wj fr h = .err := by unfold mO; rw [e1]
    have p' : bu X.K T B W (vV X.K T B σ) w σ ((mO i wj).bind _ fr h) Q := p
    rw [M.bind_err q] at p'
    exact p'.elim
  | some o =>
    cases o with
    | none =>
      have q : mO i wj fr h = .err := by unfold mO; rw [e1]
      have p' : bu X.K T B W (vV X.K T B σ) w σ ((mO i wj).bind _ fr h) Q := p
      rw [M.bind_err q] at p'
      exact p'.elim
    | some d =>
      obtain ⟨v, e2, _⟩ := vm R e1
      exact ⟨v, e2⟩
 obtain ⟨v, ev⟩ := hh
 obtain ⟨fr1, h1, z1, p1⟩ := Oi (VR := vV X.K T B σ) R ev p
 have R1 := Uc z1
 refine uP (pe_bm PySem.F.plainAttrs_list PySem.F.slot_list_extend PySem.F.type_list_extend mt_extend (pe_var hN hv hd hcd) (pa_cons mZ pa_nil hs) hbase hfew hline hs hplain) ⟨v, ev, Yy z1, s B w σ H fr1 h1 _ R1 (bu.bind (VR := vV X.K T B σ) p1 fun d fr2 h2 w2 H2 y e2 l2 r2 ry p2 => ?_)⟩
 obtain ⟨fr3, h3, z3, p3⟩ := Oi (VR := vV X.K T B σ) r2 ev p2
 exact afe r2 z3 ry fun H' R' => p3 w2 H' .non (Wd.le_refl _) R' .non
end
def zB (i : Nat) (f : Hh → D → D → Option Bool) (m mt : M D) (b : M Fl) : Nat → M Fl
 | 0 => fun _ _ => .err
 | n + 1 => m.bind fun d fr h => (mt.bind fun t fr h => match f h d t with
   | some true => (match b fr h with
     | .ok .nx fr h => zB i f m mt b n fr h
     | .ok .ct fr h => zB i f m mt b n fr h
     | .ok .brk fr h => .ok .nx fr h
     | .ok (.rt d) fr h => .ok (.rt d) fr h
     | .exc x fr h => .exc x fr h
     | .err => .err)
   | some false => .ok .nx fr h
   | none => .err) (fr.set i (some d)) h
section
variable {X : Cx} {T : Tb} {W : WX} {k : Nat} {pos px npos cpos : Pos} {e t : Expr} {m mt : M D} {body : List Stmt} {b : M Fl} {x : Str}
theorem adA {op : CmpOp} {f : Hh → D → D → Option Bool} (C : Cq X T W k) (n i : Nat) (ho : Cz X T vO op f) (s : cO X T W e m) (st : cO X T W t mt) (sb : G5 X T W body b) (hN : X.N[i]? = some x := by rfl) (hx : Loc X.env.scope x := by first | exact Or.inl rfl | exact Or.inr rfl)
 (hf : X.fn x = true ∨ X.env.scope.names.lookup x = some .local := by first | exact .inl rfl | exact .inr rfl) (hm : behindInMarks op t = false := by first | exact nobehind _ (by decide) (by decide) | rfl) :
 Bc X T W (.While (.Compare (.NamedExpr (.Name x px) e npos) [op] [t] cpos) body [] pos) (zB i f m mt b n) := fun B w σ H fr h D R p =>
 Ak (ps_whileW C.po (ptw_cmp Jq (pew_named C.nd hN hx (pew_of mZ) hf) mZ hm) Dk pss_nil)
  ⟨fun q σ H => ∃ w' fr' h', w.le w' ∧ Rel X.K T B w' σ H fr' h' ∧ tW X.K T B W w' (zB i f m mt b q fr' h') D, ⟨n, w, fr, h, Wd.le_refl _, R, p⟩, fun q σ2 H2 ⟨w2, fr2, h2, l2, r2, p2⟩ => by
  cases q with
  | zero => exact (show False from p2).elim
  | succ q =>
    unfold zB at p2
    refine s B w2 σ2 H2 fr2 h2 _ r2 (tW.bind (VR := vV X.K T B σ2) p2 fun d fr3 h3 w3 H3 v e3 l3 r3 rd p3 => ?_)
    have r4 := r3.putV i rd
    refine st B w3 (σ2.set i (some v)) H3 (fr3.set i (some d)) h3 _ r4 (tW.bind (VR := vV X.K T B (σ2.set i (some v))) p3 fun d' fr5 h5 w5 H5 v' e5 l5 r5 rd' p5 => ?_)
    cases ef : f h5 d d' with
    | none => rw [ef] at p5; exact (show False from p5).elim
    | some c =>
      rw [ef] at p5
      refine ho B w5 _ H5 fr5 h5 v v' d d' c _ r5 (rd.mono l5) (.inl rd') ef ⟨c, rfl, ?_⟩
      cases c with
      | false => exact p5 w5 _ H5 (Wd.le_refl _) r5
      | true =>
        rw [if_pos rfl]
        refine ⟨fun σ' H' => ∃ w' fr' h', w.le w' ∧ Rel X.K T B w' σ' H' fr' h' ∧ tW X.K T B W w' (zB i f m mt b q fr' h') D, fun σ' H' z => ⟨q, Nat.lt_succ_self q, z⟩, ?_⟩
        refine sb B w5 _ H5 fr5 h5 _ r5 ?_
        dsimp only at p5
        have l25 : w2.le w5 := Wd.le_trans l3 l5
        cases e6 : b fr5 h5 with
        | ok fl fr6 h6 =>
          rw [e6] at p5
          cases fl with
          | nx => exact fun w7 σ7 H7 l7 r7 => ⟨w7, fr6, h6, Wd.le_trans l2 (Wd.le_trans l25 l7), r7, tW.le l7 p5⟩
          | ct => exact fun w7 σ7 H7 l7 r7 => ⟨w7, fr6, h6, Wd.le_trans l2 (Wd.le_trans l25 l7), r7, tW.le l7 p5⟩
          | brk => exact fun w7 σ7 H7 l7 r7 => p5 w7 σ7 H7 l7 r7
          | rt d => exact fun w7 σ7 H7 v l7 r7 rv => p5 w7 σ7 H7 v l7 r7 rv
        | exc y fr6 h6 =>
          rw [e6] at p5
          exact fun w7 σ7 H7 cc dd l7 r7 z => p5 w7 σ7 H7 cc dd l7 r7 z
        | err => rw [e6] at p5; exact p5⟩
end
end Pk
namespace Pk
open PySem PySem.Spec L2
section
variable {P : Program} {w : World} {K : PySem.W.Frag} {mg : Str → Option Value} {base : Heap} {T : Tb} {k : Nat} {x qual : Str} {params : Arguments} {body : List Stmt} {scope : Scope} {dvs : List V} {kws : List (Str × V)} {f : Addr} {fd : FuncData} {N ps : List Str} {p0 pv : Str}
theorem adB (S : FnScope N ps scope) {m : M Fl} (dm : Does P w K mg base T k N qual scope body m) (cdv : Value) (A : Around) (outer : List Env) (s : Shared) (H : Hp) (vs : List V) (Q : VK) (E : XK)
 (hr : Room k (A.deeper (PyProof.Rows.envOfC qual scope s.heap.objs.size f cdv))) (sp : spF K T ps.length (tR N.length m) vs H Q E) :
 ∃ t, PSs (Cxd P w K mg base N qual scope f cdv A outer s H E) body t ∧ t { nx := fun _ H' => Q .non H', rt := Q } (L2.start N vs) H := by
 obtain ⟨w, h, ds, R, rs, hl, post⟩ := sp
 refine ⟨Yg _ body, Dk, ?_⟩
 have hpl : ps.length ≤ N.length := by
  have := congrArg List.length S.pre
  rw [List.length_take] at this
  omega
 refine dm f cdv A outer s H E (abj S hr) (Bs.of w H) w _ H (startF N.length ds) h _ (R.start rs (by rw [hl]; exact hpl)) ?_
 unfold tR at post
 cases e : m (startF N.length ds) h with
 | ok fl fr h' =>
   rw [e] at post
   cases fl with
   | nx => exact fun w' σ' H' l R' => post w' H' .non l R'.unframe (.inl .non)
   | rt d => exact fun w' σ' H' v l R' rv => post w' H' v l R'.unframe (by
    rcases rv with rv | ⟨p, o, rfl, O, lo, eH, rd⟩
    · exact .inl rv
    · exact .inr ⟨p, o, rfl, O, fun i => Qe, eH, rd⟩)
   | brk => exact post.elim
   | ct => exact post.elim
 | exc y fr h' =>
   rw [e] at post
   exact fun w' σ' H' c dd l R' z => post w' H' c dd l R'.unframe z
 | err => rw [e] at post; exact post
end
def spM (K : PySem.W.Frag) (T : Tb) (F : Fn) : Sp := fun vs H Q E => ∃ ws rest, vs = ws ++ rest ∧ ws.length = 1 ∧ rest.length ≤ sizeLine ∧ ∀ p, H p = Option.none → spF K T 2 F (ws ++ [V.ref p]) (upd H p (.tup rest)) Q E
structure Zu (P : Program) (w : World) (K : PySem.W.Frag) (mg : Str → Option Value) (base : Heap) (T : Tb) (k : Nat) (f : Addr) (F : Fn) : Prop where
 run : FnR P w K mg base (L2.CX P w) k f (spM K T F)
section
variable {P : Program} {w : World} {K : PySem.W.Frag} {mg : Str → Option Value} {base : Heap} {T : Tb} {k : Nat} {x qual : Str} {params : Arguments} {body : List Stmt} {scope : Scope} {f : Addr} {fd : FuncData} {N : List Str} {p0 pv : Str}
theorem afh (F : FunD K x qual params body scope [] [] f fd) (S : FnScope N ([p0] ++ [pv]) scope) {m : M Fl} (dm : Does P w K mg base T k N qual scope body m)
 (h0 : ∀ (kV doc pm : Value) (an : Option Addr) (cdv ct a : Value), bindArgs (PySem.W.fnOf x qual params body scope .none kV doc pm an cdv ct) ⟨[a], []⟩ = (newTuple [] >>= fun t => pure [(p0, a), (pv, t)]))
 (h1 : ∀ (kV doc pm : Value) (an : Option Addr) (cdv ct a r : Value) (rs : List Value), bindArgs (PySem.W.fnOf x qual params body scope .none kV doc pm an cdv ct) ⟨a :: r :: rs, []⟩ = (newTuple (r :: rs) >>= fun t => pure [(p0, a), (pv, t)])) :
 Zu P w K mg base T (k + 1) f (tR N.length m) := by
 obtain ⟨oc, od, dV, kV, doc, pm, an, cdv, ct, osl, rfl, lk, hcd, hD, hK⟩ := F.ex
 have edV : dV = .none := by
  rcases hD with ⟨_, e⟩ | ⟨e, _⟩
  · exact e
  · exact absurd rfl e
 subst edV
 exact ⟨U0.fn_star (ps := [p0]) (pv := pv) lk hcd S U0.cxUp (U0.bind_star1 (B := fun us => bindArgs _ ⟨us, []⟩) (h0 kV doc pm an cdv ct) (h1 kV doc pm an cdv ct))
  fun A outer s H vs Q E hr sp => adB S dm cdv A outer s H vs Q E hr sp⟩
end
def rO (mt : Nat → Option Fn) (mo : M D) (ma : M (List D)) : M D := mo.bind fun o fr h => match fnOf mt h o with
 | some F => (ma.bind fun ds fr h => if ds.length ≤ big then vD fr (F [o, .tup ds] h) else .err) fr h
 | none => .err
def Ah (m : M D) (ma : M (List D)) : M (List D) := m.bind fun d fr h => match d.its h with
 | some l => (ma.bind fun r => M.ret (l ++ r)) fr h
 | none => .err
def Ml (m : M D) (ma : M (List D)) : M (List D) := m.bind fun d => ma.bind fun r => M.ret (d :: r)
structure QK (X : Cx) (T : Tb) (k : Nat) (m : Str) (mt : Nat → Option Fn) : Prop where
 ex : ∀ c F, mt c = some F → ∃ (kk : Nat) (f : Addr), Cls X.K (T.cad c) ∧ BMeth X.K (T.cad c) m f ∧ Zu X.prog X.w X.K X.mg X.base T kk f F ∧ m ∉ T.fld c ∧ kk ≤ k
section
variable {X : Cx} {T : Tb} {W : WX} {k kk : Nat} {f : Addr} {F : Fn} {m : Str} {p sp_ pos apos : Pos} {e o : Expr} {es : List Expr} {mo me : M D} {ma : M (List D)} {mt : Nat → Option Fn}
theorem Wo {sp : Sp} {pins : List (Addr × Obj)} {σ : L2.St} {H : Hp} {s : Shared} {Q : VK} {us : List Value} {vs : List V} (F0 : FnR X.prog X.w X.K X.mg X.base (L2.CX X.prog X.w) kk f sp) (hr : Room kk X.A) (tk : Takes X W)
 (I : Inv X pins σ H s) (r : Vals vs us) (h : sp vs H Q (fun c d H' => W c d σ H')) :
 codeAny (model X.prog X.w) X.A (.call (.ref f) ⟨us, []⟩) (fun r s' => match r with | .ok (.ret v) => EP X pins σ Q v s' | .ok _ => False | .error e => X.xe e s') s := by
 refine codeAny_mono (F0 X.A X.stack s H us vs Q _ hr I.env0 r h) fun r s' hq => ?_
 cases r with
 | error e => exact passAt tk σ pins _ _ e s' I hq
 | ok fl =>
   cases fl with
   | ret u => exact I.after hq
   | next => exact False.elim hq
   | brk => exact False.elim hq
   | cont => exact False.elim hq
theorem QL {B : Bs} {w : Wd} {σ : L2.St} {H : Hp} {fr : Fr} {h : Hh} {v : V} {d : D} {vs : List V} {ds : List D} {Q : VK} (R : Rel X.K T B w σ H fr h) (rv : rC X.K T w v d) (rs : aO X.K T w vs ds) (hb : ds.length ≤ big)
 (pp : bu X.K T B W (vE X.K T B σ) w σ (vD fr (F [d, .tup ds] h)) Q) : spM X.K T F (v :: vs) H Q (fun c d H' => W c d σ H') := by
 refine ⟨[v], vs, rfl, rfl, by rw [rs.length]; exact xO hb, fun p np => ?_⟩
 have R1 := R.laid (o := .tup vs) np
 have le := Wd.le_add (p := p) (o := .tup vs) (R.nP np).1
 exact RK R1 (ds := [d, .tup ds]) (.cons (rv.mono le) (.cons (.tup (.inl (.inl (by show upd w.F p _ p = _; rw [upd_same]))) (rs.mono le)) .nil)) rfl (pp.le le)
theorem O2 {B : Bs} {w : Wd} {σ : L2.St} {H : Hp} {fr : Fr} {h : Hh} {v : V} {d : D} {G : Fn} (M : QK X T k m mt) (R : Rel X.K T B w σ H fr h) (rv : rC X.K T w v d) (e : fnOf mt h d = some G) :
 ∃ (kk : Nat) (f : Addr) (a C dx : Addr) (fs : List (Str × V)), v = .ref a ∧ H a = some (.ins C dx fs) ∧ fs.lookup m = none ∧ Cls X.K C ∧ BMeth X.K C m f ∧ Zu X.prog X.w X.K X.mg X.base T kk f G ∧ kk ≤ k := by
 unfold fnOf at e
 split at e
 · rename_i c fs ei
   obtain ⟨kk, f, c1, c2, c3, c4, c5⟩ := M.ex c G e
   obtain ⟨a, dx, vs, rfl, eH, rs⟩ := HW R (.inl rv) ei
   exact ⟨kk, f, a, T.cad c, dx, _, rfl, eH, G6 c4, c1, c2, c3, c5⟩
 · cases e
theorem v5 {pl : Sem Bool} (C : Cq X T W k) (Mf : QK X T k m mt) (so : cO X T W o mo) (sa : CP X T W (e :: es) ma)
 (hst : starEach (e :: es) X.env = (false, eval e X.env) :: starEach es X.env := by exact uG rfl) (hpl : (backTo pos (starEach es X.env)).any (·.1) = false := by rfl)
 (ht : eval (.Call (.Attribute o m apos) (e :: es) [] pos) X.env = (do
  let ov ← eval o X.env
  standAt apos.atName
  let (f, first) ← holding [ov] (getMethod ov m pl)
  callWith pos f first (backTo pos (starEach (e :: es) X.env)) (backToKw pos (keywordEach [] X.env))) := by rfl) :
 zQ X T W (.Call (.Attribute o m apos) (e :: es) [] pos) (rO mt mo ma) := fun B w σ H fr h Q R pp => WE.mk <| fun pins s I => by
 refine PySem.W.methodCall_KW (pl := pl) (thn ((so B w σ H fr h (fun v H1 => ∃ (kk : Nat) (f : Addr) (a C dx : Addr) (fs : List (Str × V)) (G : Fn), v = .ref a ∧ H1 a = some (.ins C dx fs) ∧ fs.lookup m = none ∧ Cls X.K C ∧ BMeth X.K C m f ∧ Zu X.prog X.w X.K X.mg X.base T kk f G ∧ kk ≤ k ∧
  WA X (e :: es) σ H1 fun vs H2 => spM X.K T G (.ref a :: vs) H2 Q (fun c d H' => W c d σ H')) R (bu.bind (VR := vV X.K T B σ) pp fun d fr1 h1 w1 H1 v e1 l1 r1 rv p1 => ?_)).go pins s I) fun u s1 ⟨x, H1, I1, rx, kk, f, a, Cl, dx, fs, G, ex, ea, l, c1, c2, c3, c5, q⟩ => ?_) ht
 · have p1' : bu X.K T B W (vE X.K T B σ) w1 σ (match fnOf mt h1 d with | some F => (ma.bind fun ds fr h => if ds.length ≤ big then vD fr (F [d, .tup ds] h) else .err) fr1 h1 | none => .err) Q := p1
   cases ef : fnOf mt h1 d with
   | none => rw [ef] at p1'; exact p1'.elim
   | some G =>
     rw [ef] at p1'
     obtain ⟨kk, f, a, Cl, dx, fs, rfl, eH, l, c1, c2, c3, c5⟩ := O2 Mf r1 rv ef
     refine ⟨kk, f, a, Cl, dx, fs, G, rfl, eH, l, c1, c2, c3, c5, sa B w1 σ H1 fr1 h1 _ r1 (bu.bind (VR := vA X.K T B σ) p1' fun ds fr2 h2 w2 H2 vs e2 l2 r2 rs p3 => ?_)⟩
     by_cases hb : ds.length ≤ big
     · rw [if_pos hb] at p3
       exact QL r2 (rv.mono l2) rs hb p3
     · rw [if_neg hb] at p3
       exact p3.elim
 · subst ex
   obtain rfl : u = Value.ref a := rx
   refine getmeth_ok I1 ea c1 c2.mt l ?_
   exact PySem.W.callWith_K (first := [.ref a]) (h₀ := X.base) I.ok.mod.kin c2.mt.kp (thn (q.go pos pins s1 I1) fun us s2 ⟨vs, H2, I2, r, q2⟩ => ⟨I2.kIn, wpAny_call (Wo (us := .ref a :: us) (vs := .ref a :: vs) c3.run (C.room.mono c5) C.takes I2 (.cons rfl r) q2)⟩) hst hpl
theorem afi (s : cO X T W e me) (t : CP X T W es ma) (hs : starEach (.Starred e p :: es) X.env = (true, eval e X.env) :: starEach es X.env := by rfl) : CP X T W (.Starred e p :: es) (Ah me ma) := fun B w σ H fr h Q R pp =>
 Rv (U0.pa_star mZ Ks hs) (s B w σ H fr h _ R (bu.bind (VR := vV X.K T B σ) pp fun d fr1 h1 w1 H1 v e1 l1 r1 rv p1 => by
  cases q : d.its h1 with
  | none => rw [q] at p1; exact p1.elim
  | some l =>
    rw [q] at p1
    obtain ⟨a, vs, rfl, rs, sq⟩ := HF r1 (.inl rv) q
    exact ⟨a, vs, rfl, sq.symm, t B w1 σ H1 fr1 h1 _ r1 (bu.bind (VR := vA X.K T B σ) p1 fun ds fr2 h2 w2 H2 us e2 l2 r2 ru p2 => p2 w2 H2 _ (Wd.le_refl _) r2 ((rs.mono l2).append ru))⟩))
theorem Zv (s : cO X T W e me) (t : CP X T W es ma) (hs : starEach (e :: es) X.env = (false, eval e X.env) :: starEach es X.env := by exact uG rfl) : CP X T W (e :: es) (Ml me ma) := fun B w σ H fr h Q R pp =>
 Rv (pa_cons mZ Ks hs) (s B w σ H fr h _ R (bu.bind (VR := vV X.K T B σ) pp fun d fr1 h1 w1 H1 v e1 l1 r1 rv p1 =>
  t B w1 σ H1 fr1 h1 _ r1 (bu.bind (VR := vA X.K T B σ) p1 fun ds fr2 h2 w2 H2 us e2 l2 r2 ru p2 => p2 w2 H2 _ (Wd.le_refl _) r2 (.cons (rv.mono l2) ru))))
theorem adC {B : Bs} {w1 : Wd} {σ : L2.St} {H1 : Hp} {fr1 : Fr} {h1 : Hh} {a g q : Addr} {d : D} {G : Fn} {Q : VK} (r1 : Rel X.K T B w1 σ H1 fr1 h1) (rv : rC X.K T w1 (.ref a) d) (nq : H1 q = none) (sa : CP X T W es ma)
 (p1 : bu X.K T B W (vE X.K T B σ) w1 σ ((ma.bind fun ds fr h => if ds.length ≤ big then vD fr (G [d, .tup ds] h) else .err) fr1 h1) Q) :
 WA X es σ (upd H1 q (.met g a)) fun vs H2 => H2 q = some (.met g a) ∧ spM X.K T G (.ref a :: vs) H2 Q (fun c d H' => W c d σ H') := by
 have O : Own B w1 q := r1.own_new nq
 have r2 : Rel X.K T (B.pr q (.met g a)) w1 σ (upd H1 q (.met g a)) fr1 h1 := (r1.temp (o := .met g a) nq).protect O (r1.loose_new nq) upd_same
 refine sa (B.pr q (.met g a)) w1 σ _ fr1 h1 _ r2 ?_
 cases e : ma fr1 h1 with
 | ok ds fr2 h2 =>
   rw [M.bind_ok e] at p1
   intro w2 H2 vs l2 r3 rs
   obtain ⟨r4, O4, lo4, eq⟩ := r3.unprotect O.e O.p
   by_cases hb : ds.length ≤ big
   · rw [if_pos hb] at p1
     exact ⟨eq, QL r4 (rv.mono l2) rs hb (p1.le l2)⟩
   · rw [if_neg hb] at p1
     exact p1.elim
 | exc y fr2 h2 =>
   rw [M.bind_exc e] at p1
   exact fun w' H' c dd l R' z => p1 w' H' c dd l (R'.unprotect O.e O.p).1 z
 | err =>
   rw [M.bind_err e] at p1
   exact p1.elim
theorem Zw {M : Model} {A : Around} {E : Value → Shared → Prop} {s : Shared} {env : Env} {Q : Value → Shared → Prop} (hbase : attributeBase o m env (eval o env) = eval o env)
 (hform : methodCallForm (es.length + ([] : List Keyword).length) (backTo pos (starEach es env)) [] = false) (hpos : methodCallPos false o env apos pos = pure pos)
 (h : wpAny M A (eval o env) (fun ov s₁ => wpAny M A (getAttr ov m true) (fun f s₂ => wpAny M A (callWith pos f [] (backTo pos (starEach es env)) []) Q E s₂) E s₁) E s) :
 wpAny M A (eval (.Call (.Attribute o m apos) es [] pos) env) Q E s := by
 have hke : backToKw pos (keywordEach [] env) = [] := rfl
 have hcal : ∀ ov, calleeOf false o env ov m = (getAttr ov m true >>= fun v => pure (v, [])) := fun _ => rfl
 rw [arm_eval_Call, hbase, hke]
 refine wpAny_bind (wpAny_mono h (fun ov s₁ h₁ => ?_) fun _ _ x => x)
 refine wpAny_bind (wpAny_standAt ?_)
 unfold methodCall
 rw [hform, hpos, hcal]
 refine wpAny_bind (wpAny_holding (wpAny_bind (wpAny_mono h₁ (fun f s₂ h₂ => wpAny_pure ?_) fun _ _ x => x)))
 exact wpAny_bind (wpAny_pure h₂)
theorem adD (C : Cq X T W k) (Mf : QK X T k m mt) (so : cO X T W o mo) (sa : CP X T W (e :: es) ma) (hbase : attributeBase o m X.env (eval o X.env) = eval o X.env := by rfl)
 (hst : starEach (e :: es) X.env = (false, eval e X.env) :: starEach es X.env := by exact uG rfl) (hany : (backTo pos (starEach (e :: es) X.env)).any (·.1) = true := by rfl)
 (hform : methodCallForm ((e :: es).length + ([] : List Keyword).length) (backTo pos (starEach (e :: es) X.env)) [] = false := by rfl) (hpos : methodCallPos false o X.env apos pos = pure pos := by rfl) :
 zQ X T W (.Call (.Attribute o m apos) (e :: es) [] pos) (rO mt mo ma) := fun B w σ H fr h Q R pp => WE.mk <| fun pins s I => by
 refine Zw hbase hform hpos (thn ((so B w σ H fr h (fun v H1 => ∃ (kk : Nat) (f : Addr) (a C dx : Addr) (fs : List (Str × V)) (G : Fn), v = .ref a ∧ H1 a = some (.ins C dx fs) ∧ fs.lookup m = none ∧ Cls X.K C ∧ BMeth X.K C m f ∧ Zu X.prog X.w X.K X.mg X.base T kk f G ∧ kk ≤ k ∧
  ∀ q, H1 q = none → WA X (e :: es) σ (upd H1 q (.met f a)) fun vs H2 => H2 q = some (.met f a) ∧ spM X.K T G (.ref a :: vs) H2 Q (fun c d H' => W c d σ H')) R (bu.bind (VR := vV X.K T B σ) pp fun d fr1 h1 w1 H1 v e1 l1 r1 rv p1 => ?_)).go pins s I) fun u s1 ⟨x, H1, I1, rx, kk, f, a, Cl, dx, fs, G, ex, ea, l, c1, c2, c3, c5, q⟩ => ?_)
 · have p1' : bu X.K T B W (vE X.K T B σ) w1 σ (match fnOf mt h1 d with | some F => (ma.bind fun ds fr h => if ds.length ≤ big then vD fr (F [d, .tup ds] h) else .err) fr1 h1 | none => .err) Q := p1
   cases ef : fnOf mt h1 d with
   | none => rw [ef] at p1'; exact p1'.elim
   | some G =>
     rw [ef] at p1'
     obtain ⟨kk, f, a, Cl, dx, fs, rfl, eH, l, c1, c2, c3, c5⟩ := O2 Mf r1 rv ef
     exact ⟨kk, f, a, Cl, dx, fs, G, rfl, eH, l, c1, c2, c3, c5, fun q nq => adC r1 rv nq sa p1'⟩
 · subst ex
   obtain rfl : u = Value.ref a := rx
   refine getbound_ok I1 ea c1 c2 l fun q1 s2 hq1 I2 => ?_
   rw [hst]
   refine PySem.W.ks_call (P := PySem.W.MethP X.K q1 f (.ref a)) (by rw [← hst]; exact hany) (PySem.W.keeps_M c2.fi) (Calls.evalArgs_plain ?_)
   have z := (q q1 hq1).go pos pins s2 I2
   rw [hst] at z
   refine thn z fun us s3 ⟨vs, H2, I3, rv, hm, hsp⟩ => ⟨met_P I3 hm, ?_⟩
   exact wpAny_call (PySem.W.method_call (met_P I3 hm).1 (Wo (us := Value.ref a :: us) (vs := V.ref a :: vs) c3.run (C.room.mono c5) C.takes I3 (.cons rfl rv) hsp))
theorem Zx (C : Cq X T W k) (Mf : QK X T k m mt) (so : cO X T W o mo) (s1 : cO X T W e me) (hbase : attributeBase o m X.env (eval o X.env) = eval o X.env := by rfl) :
 zQ X T W (.Call (.Attribute o m apos) [.Starred e p] [] pos) (rO mt mo (Ah me (aj []))) := fun B w σ H fr h Q R pp => WE.mk <| fun pins s I => by
 refine starcall_of hbase (thn ((so B w σ H fr h (fun v H1 => ∃ (kk : Nat) (f : Addr) (a C dx : Addr) (fs : List (Str × V)) (G : Fn), v = .ref a ∧ H1 a = some (.ins C dx fs) ∧ fs.lookup m = none ∧ Cls X.K C ∧ BMeth X.K C m f ∧ Zu X.prog X.w X.K X.mg X.base T kk f G ∧ kk ≤ k ∧
  ∀ q, H1 q = none → WE X e σ (upd H1 q (.met f a)) fun y H2 => ∃ b vs, y = .ref b ∧ (SqT X.K H2 b vs ∨ SqL X.K H2 b vs) ∧ H2 q = some (.met f a) ∧ spM X.K T G (.ref a :: vs) H2 Q (fun c d H' => W c d σ H')) R (bu.bind (VR := vV X.K T B σ) pp fun d fr1 h1 w1 H1 v e1 l1 r1 rv p1 => ?_)).go pins s I) fun u s1 ⟨x, H1, I1, rx, kk, f, a, Cl, dx, fs, G, ex, ea, l, c1, c2, c3, c5, q⟩ => ?_)
 · have p1' : bu X.K T B W (vE X.K T B σ) w1 σ (match fnOf mt h1 d with | some F => ((Ah me (aj [])).bind fun ds fr h => if ds.length ≤ big then vD fr (F [d, .tup ds] h) else .err) fr1 h1 | none => .err) Q := p1
   cases ef : fnOf mt h1 d with
   | none => rw [ef] at p1'; exact p1'.elim
   | some G =>
     rw [ef] at p1'
     replace p1' : bu X.K T B W (vE X.K T B σ) w1 σ ((Ah me (aj [])).bind (fun ds fr h => if ds.length ≤ big then vD fr (G [d, .tup ds] h) else .err) fr1 h1) Q := p1'
     obtain ⟨kk, f, a, Cl, dx, fs, rfl, eH, l, c1, c2, c3, c5⟩ := O2 Mf r1 rv ef
     refine ⟨kk, f, a, Cl, dx, fs, G, rfl, eH, l, c1, c2, c3, c5, fun q nq => ?_⟩
     have O : Own B w1 q := r1.own_new nq
     have r2 : Rel X.K T (B.pr q (.met f a)) w1 σ (upd H1 q (.met f a)) fr1 h1 := (r1.temp (o := .met f a) nq).protect O (r1.loose_new nq) upd_same
     refine s1 (B.pr q (.met f a)) w1 σ _ fr1 h1 _ r2 ?_
     cases e2 : me fr1 h1 with
     | ok d2 fr2 h2 =>
       intro w2 H2 y l2 r3 ry
       obtain ⟨r4, O4, lo4, eq⟩ := r3.unprotect O.e O.p
       cases e3 : d2.its h2 with
       | none =>
         exfalso
         have e4 : Ah me (aj []) fr1 h1 = .err := by
          unfold Ah
          rw [M.bind_ok e2, e3]
         rw [M.bind_err e4] at p1'
         exact p1'
       | some ds =>
         have e4 : Ah me (aj []) fr1 h1 = .ok ds fr2 h2 := by
          unfold Ah
          rw [M.bind_ok e2, e3]
          show Pk.R.ok (ds ++ []) fr2 h2 = _
          rw [aiS]
         rw [M.bind_ok e4] at p1'
         obtain ⟨b, vs, rfl, rs, sq⟩ := HF r3 (.inl ry) e3
         by_cases hb : ds.length ≤ big
         · rw [if_pos hb] at p1'
           exact ⟨b, vs, rfl, sq.symm, eq, QL r4 (rv.mono l2) rs hb (p1'.le l2)⟩
         · rw [if_neg hb] at p1'
           exact p1'.elim
     | exc y fr2 h2 =>
       have e4 : Ah me (aj []) fr1 h1 = .exc y fr2 h2 := by
        unfold Ah
        rw [M.bind_exc e2]
       rw [M.bind_exc e4] at p1'
       exact fun w' H' c dd l R' z => p1' w' H' c dd l (R'.unprotect O.e O.p).1 z
     | err =>
       have e4 : Ah me (aj []) fr1 h1 = .err := by
        unfold Ah
        rw [M.bind_err e2]
       rw [M.bind_err e4] at p1'
       exact p1'.elim
 · subst ex
   obtain rfl : u = Value.ref a := rx
   refine getbound_ok I1 ea c1 c2 l fun q1 s2 hq1 I2 => ?_
   refine PySem.W.ks_call (P := PySem.W.MethP X.K q1 f (.ref a)) rfl (PySem.W.keeps_M c2.fi) (PySem.W.ks_lone ?_)
   refine thn ((q q1 hq1).go pins s2 I2) fun v s3 ⟨y, H2, I3, ry, t, vs, ey, ht, hm, hsp⟩ => ?_
   subst ey
   obtain rfl : v = Value.ref t := ry
   refine U0.star_any I3 ht fun us s4 I4 rv => ⟨met_P I4 hm, ?_⟩
   exact wpAny_call (PySem.W.method_call (met_P I4 hm).1 (Wo (us := Value.ref a :: us) (vs := V.ref a :: vs) c3.run (C.room.mono c5) C.takes I4 (.cons rfl rv) hsp))
end
def bmX (K : PySem.W.Frag) (C : Addr) (m : Str) : Bool := He.eqO (PySem.W.specialIn K (.ref (He.ma K C m)) "__get__") (some (some (.builtin "function.__get__"))) && (decide (PySem.W.takesIn K (.ref (He.ma K C m)) = some false) && (decide (PySem.W.copiedNames.contains m = false) && PySem.W.fnIn K (He.ma K C m)))
theorem agy {K : PySem.W.Frag} {C : Addr} {m : Str} (h : bmX K C m = true) (hm : L2.Meth K C m (He.ma K C m)) : BMeth K C m (He.ma K C m) := by
 obtain ⟨c1, h⟩ := He.ba h
 obtain ⟨c2, h⟩ := He.ba h
 obtain ⟨c3, c4⟩ := He.ba h
 exact ⟨hm, He.eqO_ok c1, of_decide_eq_true c2, of_decide_eq_true c3, c4⟩
end Pk
namespace Pk
open PySem PySem.Spec L2
def Wq {α : Type} (r : R α) (Q : α → Fr → Hh → Prop) (E : bh → Fr → Hh → Prop) : Prop := match r with
 | .ok a fr h => Q a fr h
 | .exc x fr h => E x fr h
 | .err => False
def uR (d : D) : Option (List D) := match d with
 | .int j => if Tv j then some (Ky 0 j.toNat) else none
 | _ => none
def u6 (x y : D) : Option (List D) := match x, y with
 | .int i, .int j => if Tv i && Tv j then some (Ky i (j - i).toNat) else none
 | _, _ => none
def wU (_ : bh) (_ : Fr) (_ : Hh) : Prop := False
def Oq {α : Type} (o : Option α) (K : α → Prop) : Prop := match o with
 | some a => K a
 | none => False
def Sq (s : Option (Option D)) (K : D → Prop) : Prop := match s with
 | some (some d) => K d
 | _ => False
def Hk (b : Bool) (A B : Prop) : Prop := if b then A else B
def Bq (fr : Fr) (K : Fr → Prop) : Prop := K fr
def Fq (f : Fl) (A B : Prop) : Prop := match f with
 | .nx => A
 | _ => B
def Rq (f : Fl) (K : D → Prop) : Prop := match f with
 | .rt d => K d
 | .nx => K .non
 | _ => False
section
variable {α β : Type} {Q : α → Fr → Hh → Prop} {E : bh → Fr → Hh → Prop} {fr : Fr} {h : Hh}
theorem wG {a : α} : Wq (.ok a fr h) Q E = Q a fr h := by unfold Wq; rfl
theorem Io {x : bh} : Wq (.exc x fr h : R α) Q E = E x fr h := by unfold Wq; rfl
theorem bj : Wq (.err : R α) Q E = False := by unfold Wq; rfl
theorem rH {a : α} {K : α → Prop} : Oq (some a) K = K a := by unfold Oq; rfl
theorem rK {K : α → Prop} : Oq none K = False := by unfold Oq; rfl
theorem R6 {o : Option α} {f : α → β} {K : β → Prop} : Oq (o.map f) K = Oq o fun a => K (f a) := by cases o <;> (unfold Oq; rfl)
theorem R7 {c : Prop} [Decidable c] {a : α} {K : α → Prop} : Oq (if c then some a else none) K = (c ∧ K a) := by
 by_cases hc : c
 · rw [if_pos hc, rH]; simp [hc]
 · rw [if_neg hc, rK]; simp [hc]
theorem afj {c : Bool} {a : α} {K : α → Prop} : Oq (if c then some a else none) K = (c = true ∧ K a) := R7
theorem BK {d : D} {K : D → Prop} : Sq (some (some d)) K = K d := by unfold Sq; rfl
theorem Ld {K : D → Prop} : Sq (some none) K = False := by unfold Sq; rfl
theorem JX {A B : Prop} : Hk true A B = A := by unfold Hk; exact if_pos rfl
theorem JZ {A B : Prop} : Hk false A B = B := by unfold Hk; exact if_neg (fun z => by cases z)
theorem adE {a : Option D} {l : Fr} {K : Fr → Prop} : Bq (a :: l) K = K (a :: l) := by unfold Bq; rfl
theorem afk {K : Fr → Prop} : Bq [] K = K [] := by unfold Bq; rfl
theorem Wr {A B : Prop} : Fq .nx A B = A := by unfold Fq; rfl
theorem aaP {A B : Prop} {d : D} : Fq (.rt d) A B = B := by unfold Fq; rfl
theorem Zy {A B : Prop} : Fq .brk A B = B := by unfold Fq; rfl
theorem aaQ {A B : Prop} : Fq .ct A B = B := by unfold Fq; rfl
theorem afl {K : D → Prop} : Rq .nx K = K .non := by unfold Rq; rfl
theorem afm {K : D → Prop} {d : D} : Rq (.rt d) K = K d := by unfold Rq; rfl
theorem Wq.mono {r : R α} {Q Q' : α → Fr → Hh → Prop} {E : bh → Fr → Hh → Prop} (w : Wq r Q E) (hq : ∀ a fr h, Q a fr h → Q' a fr h) : Wq r Q' E := by
 cases r with
 | ok a fr h => exact hq _ _ _ w
 | exc x fr h => exact w
 | err => exact w
theorem Wq.ex {r : R α} {Q : α → Fr → Hh → Prop} (w : Wq r Q wU) : ∃ a fr h, r = .ok a fr h ∧ Q a fr h := by
 cases r with
 | ok a fr h => exact ⟨a, fr, h, rfl, w⟩
 | exc x fr h => exact w.elim
 | err => exact w.elim
theorem Wq.eq {a : α} {r : R α} {fr : Fr} {h : Hh} (w : Wq r (fun b fr1 h1 => b = a ∧ fr1 = fr ∧ h1 = h) wU) : r = .ok a fr h := by
 obtain ⟨b, fr1, h1, e, e1, e2, e3⟩ := w.ex
 rw [e, e1, e2, e3]
theorem Wq.of_eq {r : R α} {a : α} {fr : Fr} {h : Hh} (e : r = .ok a fr h) (q : Q a fr h) : Wq r Q E := by
 rw [e]; exact q
theorem tY {a : α} : Wq (M.ret a fr h) Q E = Q a fr h := by unfold M.ret; exact wG
theorem aA {m : M β} {f : β → M α} : Wq (M.bind m f fr h) Q E = Wq (m fr h) (fun a fr h => Wq (f a fr h) Q E) E := by
 unfold M.bind
 cases m fr h <;> (unfold Wq; rfl)
theorem sr {o : Option α} : Wq (M.opt o fr h) Q E = Oq o fun a => Q a fr h := by
 cases o <;> (unfold Wq Oq M.opt; rfl)
end
section
variable {α : Type} {Q : D → Fr → Hh → Prop} {P : Bool → Fr → Hh → Prop} {S : α → Fr → Hh → Prop} {U : Unit → Fr → Hh → Prop} {G : List D → Fr → Hh → Prop} {L : Fl → Fr → Hh → Prop} {I : Option Int → Fr → Hh → Prop} {E : bh → Fr → Hh → Prop} {fr : Fr} {h : Hh} {m ma mb mc : M D} {i : Nat}
theorem ahm {d : D} : Wq (mC d fr h) Q E = Q d fr h := tY
theorem agz : Wq (mJ m fr h) Q E = Wq (m fr h) (fun d fr h => Q d.fz fr h) E := by
 unfold mJ; rw [aA]; simp only [tY]
theorem afn : Wq (ak i fr h) Q E = Sq fr[i]? fun d => Hk d.own (Bq (fr.set i (some d.fz)) fun fr => Q d.fz fr h) (Q d fr h) := by
 unfold ak
 cases fr[i]? with
 | none => rfl
 | some o => cases o with
   | none => rfl
   | some d =>
     rw [BK]
     dsimp only
     cases d.own <;> rfl
theorem adF : Wq (za i fr h) Q E = Sq fr[i]? fun d => Bq (fr.set i none) fun fr => Q d fr h := by
 unfold za
 cases fr[i]? with
 | none => rfl
 | some o => cases o <;> rfl
theorem aaR : Wq (iz i fr h) Q E = Sq fr[i]? fun d => Q d fr h := by
 unfold iz
 cases fr[i]? with
 | none => rfl
 | some o => cases o <;> rfl
theorem Ws : Wq (yu i fr h) U E = Sq fr[i]? fun _ => U () fr h := by
 unfold yu
 cases fr[i]? with
 | none => rfl
 | some o => cases o <;> rfl
theorem agA {f : Hh → D → D → Option α} : Wq (bf f ma mb fr h) S E = Wq (ma fr h) (fun x fr h => Wq (mb fr h) (fun y fr h => Oq (f h x y) fun z => S z fr h) E) E := by
 unfold bf; simp only [aA, sr]
theorem agB {f : Hh → D → Option α} : Wq (mQ f ma fr h) S E = Wq (ma fr h) (fun x fr h => Oq (f h x) fun z => S z fr h) E := by
 unfold mQ; simp only [aA, sr]
theorem agC {t : M Bool} : Wq (mBl t fr h) Q E = Wq (t fr h) (fun b fr h => Q (.bl b) fr h) E := by
 unfold mBl; simp only [aA, tY]
theorem afo {t : M Bool} : Wq (Kw t fr h) P E = Wq (t fr h) (fun b fr h => P (!b) fr h) E := by
 unfold Kw; simp only [aA, tY]
theorem Ip {β : Type} {b : Bool} {m n : M β} {Q : β → Fr → Hh → Prop} : Wq ((if b then m else n) fr h) Q E = Hk b (Wq (m fr h) Q E) (Wq (n fr h) Q E) := by
 cases b
 · rw [JZ]; rfl
 · rw [JX]; rfl
theorem afp {t u : M Bool} : Wq (Mw t u fr h) P E = Wq (t fr h) (fun b fr h => Hk b (Wq (u fr h) P E) (P false fr h)) E := by
 unfold Mw; simp only [aA, Ip, tY]
theorem agD {t u : M Bool} : Wq (O8 t u fr h) P E = Wq (t fr h) (fun b fr h => Hk b (P true fr h) (Wq (u fr h) P E)) E := by
 unfold O8; simp only [aA, Ip, tY]
theorem adG : Wq (aa9 m fr h) Q E = Wq (m fr h) (fun d fr h => Oq d.tb fun b => Q (.bl (!b)) fr h) E := by
 unfold aa9; simp only [aA, sr, R6]
theorem adH {n : M D} : Wq (Oc m n fr h) Q E = Wq (m fr h) (fun d fr h => Oq d.tb fun b => Hk b (Wq (n fr h) Q E) (Q (.bl false) fr h)) E := by
 unfold Oc; rw [aA]
 congr 1
 funext d fr h
 cases d.tb with
 | none => dsimp only; rw [sr, rK, rK]
 | some b =>
   rw [rH]
   cases b
   · rw [JZ]; exact tY
   · rw [JX]
theorem afq {n : M D} : Wq (ac5 m n fr h) Q E = Wq (m fr h) (fun d fr h => Oq d.tb fun b => Hk b (Q (.bl true) fr h) (Wq (n fr h) Q E)) E := by
 unfold ac5; rw [aA]
 congr 1
 funext d fr h
 cases d.tb with
 | none => dsimp only; rw [sr, rK, rK]
 | some b =>
   rw [rH]
   cases b
   · rw [JZ]
   · rw [JX]; exact tY
theorem acJ {f g : Hh → D → D → Option Bool} : Wq (Np f g ma mb mc fr h) P E = Wq (ma fr h) (fun x fr h => Wq (mb fr h) (fun y fr h => Oq (f h x y) fun b => Hk b (Wq (mc fr h) (fun z fr h => Oq (g h y z) fun c => P c fr h) E) (P false fr h)) E) E := by
 unfold Np; simp only [aA]
 congr 1
 funext x fr h
 congr 1
 funext y fr h
 cases f h x y with
 | none => rw [rK]; exact bj
 | some b =>
   rw [rH]
   cases b
   · rw [JZ]; exact wG
   · rw [JX]; dsimp only; simp only [aA, sr]
theorem agE {t : M Bool} {m n : M α} : Wq (BW t m n fr h) S E = Wq (t fr h) (fun b fr h => Hk b (Wq (m fr h) S E) (Wq (n fr h) S E)) E := by
 unfold BW; simp only [aA, Ip]
theorem acK : Wq (aj [] fr h) G E = G [] fr h := tY
theorem acL {ms : List (M D)} : Wq (aj (m :: ms) fr h) G E = Wq (m fr h) (fun d fr h => Wq (aj ms fr h) (fun ds fr h => G (d :: ds) fr h) E) E := by
 rw [aj]; simp only [aA, tY]
theorem afr {ms : List (M D)} : Wq (oh ms fr h) Q E = Wq (aj ms fr h) (fun ds fr h => ds.length ≤ big ∧ Q (.tup ds) fr h) E := by
 unfold oh; simp only [aA, sr, R7]
theorem afs {ms : List (M D)} : Wq (vq ms fr h) Q E = Wq (aj ms fr h) (fun ds fr h => ds.length ≤ big ∧ Q (.nl ds) fr h) E := by
 unfold vq; simp only [aA, sr, R7]
theorem adI {β : Type} {m : M β} {f : Hh → D → β → Option D} : Wq (gH i m f fr h) Q E = Sq fr[i]? fun _ => Wq (m fr h) (fun y fr h => Sq fr[i]? fun d => Oq (f h d y) fun z => Q z fr h) E := by
 unfold gH; simp only [aA, Ws, aaR, sr]
theorem agF : Wq (mPn fr h) I E = I none fr h := tY
theorem agG : Wq (UJ m fr h) I E = Wq (m fr h) (fun d fr h => Oq (match d with | .int i => some i | _ => none) fun i => I (some i) fr h) E := by
 unfold UJ; rw [aA]
 congr 1
 funext d fr h
 cases d <;> (rw [sr]; first | rw [rK, rK] | rw [rH, rH])
theorem adJ {ml mh : M (Option Int)} {J : Option Int × Option Int → Fr → Hh → Prop} : Wq (Lz ml mh fr h) J E = Wq (ml fr h) (fun l fr h => Wq (mh fr h) (fun u fr h => J (l, u) fr h) E) E := by
 unfold Lz; simp only [aA, tY]
theorem aft {ml mh : M (Option Int)} : Wq (ac7 m ml mh fr h) Q E = Wq (m fr h) (fun d fr h => Wq (ml fr h) (fun l fr h => Wq (mh fr h) (fun u fr h => Oq (zR h d (l, u)) fun z => Q z fr h) E) E) E := by
 unfold ac7; simp only [aA, sr]
theorem agH : Wq (Jr m fr h) G E = Wq (m fr h) (fun d fr h => Oq (d.its []) fun l => G l fr h) E := by
 unfold Jr; simp only [aA, sr]
theorem adK : Wq (Jf m fr h) G E = Wq (m fr h) (fun d fr h => Oq (uR d) fun l => G l fr h) E := by
 unfold Jf; simp only [aA, sr]; rfl
theorem adL : Wq (abd ma mb fr h) G E = Wq (ma fr h) (fun x fr h => Wq (mb fr h) (fun y fr h => Oq (u6 x y) fun l => G l fr h) E) E := by
 unfold abd; simp only [aA, sr]; rfl
theorem adM : Wq (abm m fr h) G E = Wq (m fr h) (fun d fr h => Oq d.lst fun l => G (FP 0 l) fr h) E := by
 unfold abm; simp only [aA, sr, R6]
theorem afu {s n : M Fl} : Wq (aC s n fr h) L E = Wq (s fr h) (fun f fr h => Fq f (Wq (n fr h) L E) (L f fr h)) E := by
 unfold aC; rw [aA]
 congr 1
 funext f fr h
 cases f with
 | nx => rw [Wr]
 | brk => rw [Zy]; exact tY
 | ct => rw [aaQ]; exact tY
 | rt d => rw [aaP]; exact tY
theorem afv {t : M Bool} {s n : M Fl} : Wq (tO t s n fr h) L E = Wq (t fr h) (fun b fr h => Hk b (Wq (s fr h) L E) (Wq (n fr h) L E)) E := by
 unfold tO; simp only [aA, Ip]
theorem adN {m : M α} : Wq (su m fr h) L E = Wq (m fr h) (fun _ fr h => L .nx fr h) E := by
 unfold su; simp only [aA, tY]
theorem afw : Wq (gK m fr h) L E = Wq (m fr h) (fun d fr h => L (.rt d) fr h) E := by
 unfold gK; simp only [aA, tY]
theorem afx : Wq (cP i m fr h) L E = Wq (m fr h) (fun d fr h => Bq (fr.set i (some d)) fun fr => L .nx fr h) E := by
 unfold cP Bq; rw [aA]
 congr 1
theorem afy {g : D → M Unit} : Wq (Qn m g fr h) L E = Wq (m fr h) (fun d fr h => Wq (g d fr h) (fun _ fr h => L .nx fr h) wU) E := by
 unfold Qn; rw [aA]
 congr 1
 funext d fr h
 cases g d fr h <;> (unfold Wq; rfl)
theorem adP {is : List Nat} {ms : M (List D)} : Wq (Oh is ms fr h) L E = Wq (ms fr h) (fun ds fr h => Oq (Dm is ds fr) fun fr' => ds.length ≤ big ∧ Bq fr' fun fr' => L .nx fr' h) E := by
 unfold Oh Bq; rw [aA]
 congr 1
 funext ds fr h
 cases Dm is ds fr with
 | none => exact bj.trans rK.symm
 | some f =>
   rw [rH]
   dsimp only
   split
   · rename_i hb; rw [wG]; simp only [hb, true_and]
   · rename_i hb; rw [bj]; simp only [hb, false_and]
theorem adQ {l : M (List D)} {g : D → M Unit} {b : M Fl} : Wq (Fy l g b fr h) L E = Wq (l fr h) (fun ds fr h => Wq (Et g b ds fr h) L E) E := by
 unfold Fy; rw [aA]
theorem agI {vs : List Nat} {l : M (List D)} {g : D → M Unit} {t : M Bool} {e : M D} : Wq (Jt vs l g t e fr h) Q E = Wq (l fr h) (fun ds fr h => ds.length ≤ big ∧ Bq (vU fr vs) fun fr => Wq (Be vs g t e ds fr h) (fun r fr h => Q (.nl r) fr h) E) E := by
 unfold Jt X5 Bq; rw [aA]
 congr 1
 funext ds fr h
 rw [aA, wG]
 split
 · rename_i hb; rw [aA]; simp only [tY, hb, true_and]
 · rename_i hb; rw [sr, rK]; simp only [hb, false_and]
theorem adR {d : D} : Wq (wg i d fr h) U E = Bq (fr.set i (some d)) fun fr => U () fr h := by
 unfold wg Bq; exact wG
theorem acM : Wq (Oe [] fr h) U E = U () fr h := tY
theorem abO {g : D → M Unit} {gs : List D → M Unit} {d : D} {ds : List D} : Wq (BX g gs (d :: ds) fr h) U E = Wq (g d fr h) (fun _ fr h => Wq (gs ds fr h) U E) E := by
 unfold BX; exact aA
theorem acN {n : Nat} {gs : List D → M Unit} {l : List D} : Wq (LC n gs (.tup l) fr h) U E = (l.length = n ∧ Wq (gs l fr h) U E) := by
 unfold LC
 dsimp only
 split
 · rename_i hb; simp only [hb, true_and]
 · rename_i hb; rw [sr, rK]; simp only [hb, false_and]
theorem afz {f : List D → Option (List D)} : Wq (mO i f fr h) U E = Sq fr[i]? fun d => match d with
 | .nl l => Oq (f l) fun l' => Bq (fr.set i (some (.nl l'))) fun fr => U () fr h
 | .ref n => Oq h[n]? fun c => match c with
   | .nl l => Oq (f l) fun l' => U () fr (h.set n (.nl l'))
   | _ => False
 | _ => False := by
 unfold mO Bq
 cases e : fr[i]? with
 | none => unfold Wq Sq; rfl
 | some o =>
   cases o with
   | none => unfold Wq Sq; rfl
   | some d =>
     rw [BK]
     cases d with
     | nl l => dsimp only; cases f l <;> (unfold Wq Oq; rfl)
     | ref n =>
       dsimp only
       cases h[n]? with
       | none => unfold Wq Oq; rfl
       | some c =>
         rw [rH]
         cases c with
         | nl l => dsimp only; cases f l <;> (unfold Wq Oq; rfl)
         | _ => unfold Wq; rfl
     | _ => unfold Wq; rfl
theorem adS {n : Nat} {f : List D → Option (List D)} : Wq (xq (.ref n) f fr h) U E = Oq h[n]? fun c => match c with
 | .nl l => Oq (f l) fun l' => U () fr (h.set n (.nl l'))
 | _ => False := by
 unfold xq
 dsimp only
 cases h[n]? with
 | none => unfold Wq Oq; rfl
 | some c =>
   rw [rH]
   cases c with
   | nl l => dsimp only; cases f l <;> (unfold Wq Oq; rfl)
   | _ => unfold Wq; rfl
theorem adT : Wq (Oj i m fr h) Q E = Wq (mO i wj fr h) (fun _ fr h => Wq (m fr h) (fun d fr h => Wq (mO i (Eu d) fr h) (fun _ fr h => Q .non fr h) E) E) E := by
 unfold Oj; simp only [aA, tY]
theorem adU : Wq (abg i fr h) Q E = Wq (mO i Qp fr h) (fun _ fr h => Q .non fr h) E := by
 unfold abg; simp only [aA, tY]
theorem adV {mo : M D} : Wq (Jg mo m fr h) Q E = Wq (mo fr h) (fun o fr h => Wq (xq o wj fr h) (fun _ fr h => Wq (m fr h) (fun d fr h => Wq (xq o (Eu d) fr h) (fun _ fr h => Q .non fr h) E) E) E) E := by
 unfold Jg; simp only [aA, tY]
theorem adW {mo : M D} : Wq (abh mo fr h) Q E = Wq (mo fr h) (fun o fr h => Wq (xq o Qp fr h) (fun _ fr h => Q .non fr h) E) E := by
 unfold abh; simp only [aA, tY]
theorem adX {mi : M D} : Wq (LQ i m mi fr h) L E = Wq (m fr h) (fun d fr h => Sq fr[i]? fun _ => Wq (mi fr h) (fun j fr h => Wq (mO i (HS j d) fr h) (fun _ fr h => L .nx fr h) E) E) E := by
 unfold LQ; simp only [aA, tY, Ws]
theorem adY {mo mi : M D} : Wq (abi mo m mi fr h) L E = Wq (m fr h) (fun d fr h => Wq (mo fr h) (fun o fr h => Wq (mi fr h) (fun j fr h => Wq (xq o (HS j d) fr h) (fun _ fr h => L .nx fr h) E) E) E) E := by
 unfold abi; simp only [aA, tY]
theorem adZ : Wq (FJ m fr h) Q E = Wq (m fr h) (fun d fr h => d.own = true ∧ Q (.ref h.length) fr (h ++ [d])) E := by
 unfold FJ; rw [aA]
 congr 1
 funext d fr h
 split
 · rename_i hb; rw [wG]; simp only [hb, true_and]
 · rename_i hb; rw [bj, eq_iff_iff]
   exact ⟨False.elim, fun z => hb z.1⟩
theorem abP {ix : Nat → Option Nat} : Wq (xG i ix m fr h) L E = Wq (m fr h) (fun d fr h => Wq (Fd i ix d fr h) (fun _ fr h => L .nx fr h) E) E := by
 unfold xG; simp only [aA, tY]
theorem ad0 {ix : Nat → Option Nat} {x : D} : Wq (Fd i ix x fr h) U E = Sq fr[i]? fun d => match d with
 | .no c fs => Oq (ix c) fun k => Oq (xj k x fs) fun fs' => Bq (fr.set i (some (.no c fs'))) fun fr => U () fr h
 | .ref n => Oq h[n]? fun c => match c with
   | .no c fs => Oq (ix c) fun k => Oq (xj k x fs) fun fs' => U () fr (h.set n (.no c fs'))
   | _ => False
 | _ => False := by
 unfold Fd Bq
 cases e : fr[i]? with
 | none => unfold Wq Sq; rfl
 | some o =>
   cases o with
   | none => unfold Wq Sq; rfl
   | some d =>
     rw [BK]
     cases d with
     | no c fs =>
       dsimp only
       cases ix c with
       | none => unfold Wq Oq; rfl
       | some k => rw [rH]; dsimp only; cases xj k x fs <;> (unfold Wq Oq; rfl)
     | ref n =>
       dsimp only
       cases h[n]? with
       | none => unfold Wq Oq; rfl
       | some c =>
         rw [rH]
         cases c with
         | no c fs =>
           dsimp only
           cases ix c with
           | none => unfold Wq Oq; rfl
           | some k => rw [rH]; dsimp only; cases xj k x fs <;> (unfold Wq Oq; rfl)
         | _ => unfold Wq; rfl
     | _ => unfold Wq; rfl
theorem BL {r : R D} {fr0 : Fr} : Wq (vD fr0 r) Q E = Wq r (fun d _ h => Q d fr0 h) (fun x _ h => E x fr0 h) := by
 cases r <;> (unfold Wq vD; rfl)
theorem Zz {n k : Nat} {F : Fn} {gD : List D → List D → List D} {ma mk : M (List D)} : Wq (cJ n k F gD ma mk fr h) Q E = Wq (ma fr h) (fun ds fr h => Wq (mk fr h) (fun es fr h => ds.length = n ∧ es.length = k ∧ Wq (F (gD ds es) h) (fun d _ h => Q d fr h) (fun x _ h => E x fr h)) E) E := by
 unfold cJ; rw [aA]
 congr 1
 funext ds fr h
 rw [aA]
 congr 1
 funext es fr h
 split
 · rename_i hb; rw [BL]; simp only [hb.1, hb.2, true_and]
 · rename_i hb
   rw [bj, eq_iff_iff]
   exact ⟨False.elim, fun z => hb ⟨z.1, z.2.1⟩⟩
theorem ad1 {n k : Nat} {mt : Nat → Option Fn} {gD : List D → List D → List D} {mo : M D} {ma mk : M (List D)} : Wq (tX n k mt gD mo ma mk fr h) Q E = Wq (mo fr h) (fun o fr h => Oq (fnOf mt h o) fun F => Wq (ma fr h) (fun ds fr h => Wq (mk fr h) (fun es fr h => ds.length = n ∧ es.length = k ∧ Wq (F (gD (o :: ds) es) h) (fun d _ h => Q d fr h) (fun x _ h => E x fr h)) E) E) E := by
 unfold tX; rw [aA]
 congr 1
 funext o fr h
 cases fnOf mt h o with
 | none => exact bj.trans rK.symm
 | some F =>
   rw [rH]
   dsimp only
   rw [Zz]
   simp only [aA, tY, aiU, Nat.add_right_cancel_iff]
theorem ad2 {mt : Nat → Option Fn} {mo : M D} : Wq (LR mt mo fr h) Q E = Wq (mo fr h) (fun o fr h => Oq (fnOf mt h o) fun F => Wq (F [o] h) (fun d _ h => Q d fr h) wU) E := by
 unfold LR; rw [aA]
 congr 1
 funext o fr h
 cases fnOf mt h o with
 | none => exact bj.trans rK.symm
 | some F =>
   rw [rH]
   dsimp only
   cases F [o] h <;> (unfold Wq; rfl)
theorem ad3 {n : Nat} {m : M Fl} {ds : List D} : Wq (tR n m ds h) Q E = Bq (startF n ds) fun fr => Wq (m fr h) (fun f _ h => Rq f fun d => Q d [] h) (fun x _ h => E x [] h) := by
 unfold tR Bq
 show _ = Wq (m (startF n ds) h) _ _
 generalize m (startF n ds) h = r
 cases r with
 | ok f fr h => cases f <;> rfl
 | exc x fr h => rfl
 | err => rfl
def Nq (c : Nat) (s : Option (Option D)) (K : D → Prop) : Prop := match s with
 | some (some (.no c' fs)) => c' = c ∧ K (.no c fs)
 | _ => False
theorem Xi {c c' : Nat} {fs : List D} {K : D → Prop} : Nq c (some (some (.no c' fs))) K = (c' = c ∧ K (.no c fs)) := by unfold Nq; rfl
theorem ad4 {c n : Nat} {m : M Fl} {ds : List D} : Wq (runI c n m ds h) Q E = Bq (startF n (.no c [] :: ds)) fun fr => Wq (m fr h) (fun f fr h => Fq f (Nq c fr[0]? fun d => Q d [] h) False) (fun x _ h => E x [] h) := by
 unfold runI Bq
 show _ = Wq (m (startF n (.no c [] :: ds)) h) _ _
 generalize m (startF n (.no c [] :: ds)) h = r
 cases r with
 | ok f fr h =>
   cases f with
   | nx =>
     rw [wG, Wr]
     dsimp only
     cases e : (fr : List (Option D))[0]? with
     | none => rfl
     | some o =>
       cases o with
       | none => rfl
       | some d =>
         cases d with
         | no c' fs =>
           rw [Xi]
           dsimp only
           split
           · rename_i hb; subst hb; rw [wG]; simp
           · rename_i hb; rw [bj]; simp only [hb, false_and]
         | _ => rfl
   | _ => rfl
 | exc x fr h => rfl
 | err => rfl
end
structure T6 {β γ : Type} (_ : β) (_ : γ) : Type where
def Wp {α : Type} (r : R α) (Q : α → Fr → Hh → Prop) (E : bh → Fr → Hh → Prop) (_ : T6 Q E := ⟨⟩) : Prop := Wq r Q E
def Op {α : Type} (o : Option α) (K : α → Prop) (_ : T6 K K := ⟨⟩) : Prop := Oq o K
def Sl (s : Option (Option D)) (K : D → Prop) (_ : T6 K K := ⟨⟩) : Prop := Sq s K
def Cd (b : Bool) (A B : Prop) (_ : T6 A B := ⟨⟩) : Prop := Hk b A B
def Bx (fr : Fr) (K : Fr → Prop) (_ : T6 K K := ⟨⟩) : Prop := Bq fr K
def FlK (f : Fl) (A B : Prop) (_ : T6 A B := ⟨⟩) : Prop := Fq f A B
def RtK (f : Fl) (K : D → Prop) (_ : T6 K K := ⟨⟩) : Prop := Rq f K
def NoK (c : Nat) (s : Option (Option D)) (K : D → Prop) (_ : T6 K K := ⟨⟩) : Prop := Nq c s K
section
variable {α β : Type} {Q : α → Fr → Hh → Prop} {E : bh → Fr → Hh → Prop} {fr : Fr} {h : Hh}
theorem ou {a : α} : Wp (.ok a fr h) Q E = Q a fr h := wG
theorem oA {x : bh} : Wp (.exc x fr h : R α) Q E = E x fr h := Io
theorem gM {a : α} {K : α → Prop} : Op (some a) K = K a := rH
theorem R8 {K : α → Prop} : Op none K = False := rK
theorem oE {o : Option α} {f : α → β} {K : β → Prop} : Op (o.map f) K = Op o fun a => K (f a) := R6
theorem oF {c : Prop} [Decidable c] {a : α} {K : α → Prop} : Op (if c then some a else none) K = (c ∧ K a) := R7
theorem agK {c : Bool} {a : α} {K : α → Prop} : Op (if c then some a else none) K = (c = true ∧ K a) := afj
theorem ie {d : D} {K : D → Prop} : Sl (some (some d)) K = K d := BK
theorem ue {A B : Prop} : Cd true A B = A := JX
theorem uf {A B : Prop} : Cd false A B = B := JZ
theorem gR {a : Option D} {l : Fr} {K : Fr → Prop} : Bx (a :: l) K = K (a :: l) := adE
theorem oG {K : Fr → Prop} : Bx [] K = K [] := afk
theorem nH {A B : Prop} : FlK .nx A B = A := Wr
theorem oH {A B : Prop} {d : D} : FlK (.rt d) A B = B := aaP
theorem iG {A B : Prop} : FlK .brk A B = B := Zy
theorem oJ {A B : Prop} : FlK .ct A B = B := aaQ
theorem oK {K : D → Prop} : RtK .nx K = K .non := afl
theorem nJ {K : D → Prop} {d : D} : RtK (.rt d) K = K d := afm
theorem Wp.mono {r : R α} {Q Q' : α → Fr → Hh → Prop} {E : bh → Fr → Hh → Prop} (w : Wp r Q E) (hq : ∀ a fr h, Q a fr h → Q' a fr h) : Wp r Q' E := Wq.mono w hq
theorem Wp.ex {r : R α} {Q : α → Fr → Hh → Prop} (w : Wp r Q wU) : ∃ a fr h, r = .ok a fr h ∧ Q a fr h := Wq.ex w
theorem Wp.eq {a : α} {r : R α} {fr : Fr} {h : Hh} (w : Wp r (fun b fr1 h1 => b = a ∧ fr1 = fr ∧ h1 = h) wU) : r = .ok a fr h := Wq.eq w
theorem Wp.of_eq {r : R α} {a : α} {fr : Fr} {h : Hh} (e : r = .ok a fr h) (q : Q a fr h) : Wp r Q E := Wq.of_eq e q
theorem mU {a : α} : Wp (M.ret a fr h) Q E = Q a fr h := tY
theorem wp_bind {m : M β} {f : β → M α} : Wp (M.bind m f fr h) Q E = Wp (m fr h) (fun a fr h => Wp (f a fr h) Q E) E := aA
theorem oM {o : Option α} : Wp (M.opt o fr h) Q E = Op o fun a => Q a fr h := sr
end
section
variable {α : Type} {Q : D → Fr → Hh → Prop} {P : Bool → Fr → Hh → Prop} {S : α → Fr → Hh → Prop} {U : Unit → Fr → Hh → Prop} {G : List D → Fr → Hh → Prop} {L : Fl → Fr → Hh → Prop} {I : Option Int → Fr → Hh → Prop} {E : bh → Fr → Hh → Prop} {fr : Fr} {h : Hh} {m ma mb mc : M D} {i : Nat}
theorem tZ {d : D} : Wp (mC d fr h) Q E = Q d fr h := ahm
theorem sE : Wp (mJ m fr h) Q E = Wp (m fr h) (fun d fr h => Q d.fz fr h) E := agz
theorem oN : Wp (ak i fr h) Q E = Sl fr[i]? fun d => Cd d.own (Bx (fr.set i (some d.fz)) fun fr => Q d.fz fr h) (Q d fr h) := afn
theorem iH : Wp (za i fr h) Q E = Sl fr[i]? fun d => Bx (fr.set i none) fun fr => Q d fr h := adF
theorem nM : Wp (iz i fr h) Q E = Sl fr[i]? fun d => Q d fr h := aaR
theorem oO : Wp (yu i fr h) U E = Sl fr[i]? fun _ => U () fr h := Ws
theorem rQ {f : Hh → D → D → Option α} : Wp (bf f ma mb fr h) S E = Wp (ma fr h) (fun x fr h => Wp (mb fr h) (fun y fr h => Op (f h x y) fun z => S z fr h) E) E := agA
theorem rR {f : Hh → D → Option α} : Wp (mQ f ma fr h) S E = Wp (ma fr h) (fun x fr h => Op (f h x) fun z => S z fr h) E := agB
theorem sG {t : M Bool} : Wp (mBl t fr h) Q E = Wp (t fr h) (fun b fr h => Q (.bl b) fr h) E := agC
theorem oR {t : M Bool} : Wp (Kw t fr h) P E = Wp (t fr h) (fun b fr h => P (!b) fr h) E := afo
theorem iI {β : Type} {b : Bool} {m n : M β} {Q : β → Fr → Hh → Prop} : Wp ((if b then m else n) fr h) Q E = Cd b (Wp (m fr h) Q E) (Wp (n fr h) Q E) := Ip
theorem oU {t u : M Bool} : Wp (Mw t u fr h) P E = Wp (t fr h) (fun b fr h => Cd b (Wp (u fr h) P E) (P false fr h)) E := afp
theorem sH {t u : M Bool} : Wp (O8 t u fr h) P E = Wp (t fr h) (fun b fr h => Cd b (P true fr h) (Wp (u fr h) P E)) E := agD
theorem iJ : Wp (aa9 m fr h) Q E = Wp (m fr h) (fun d fr h => Op d.tb fun b => Q (.bl (!b)) fr h) E := adG
theorem iK {n : M D} : Wp (Oc m n fr h) Q E = Wp (m fr h) (fun d fr h => Op d.tb fun b => Cd b (Wp (n fr h) Q E) (Q (.bl false) fr h)) E := adH
theorem oV {n : M D} : Wp (ac5 m n fr h) Q E = Wp (m fr h) (fun d fr h => Op d.tb fun b => Cd b (Q (.bl true) fr h) (Wp (n fr h) Q E)) E := afq
theorem cU {f g : Hh → D → D → Option Bool} : Wp (Np f g ma mb mc fr h) P E = Wp (ma fr h) (fun x fr h => Wp (mb fr h) (fun y fr h => Op (f h x y) fun b => Cd b (Wp (mc fr h) (fun z fr h => Op (g h y z) fun c => P c fr h) E) (P false fr h)) E) E := acJ
theorem sJ {t : M Bool} {m n : M α} : Wp (BW t m n fr h) S E = Wp (t fr h) (fun b fr h => Cd b (Wp (m fr h) S E) (Wp (n fr h) S E)) E := agE
theorem cV : Wp (aj [] fr h) G E = G [] fr h := acK
theorem cW {ms : List (M D)} : Wp (aj (m :: ms) fr h) G E = Wp (m fr h) (fun d fr h => Wp (aj ms fr h) (fun ds fr h => G (d :: ds) fr h) E) E := acL
theorem oW {ms : List (M D)} : Wp (oh ms fr h) Q E = Wp (aj ms fr h) (fun ds fr h => ds.length ≤ big ∧ Q (.tup ds) fr h) E := afr
theorem oX {ms : List (M D)} : Wp (vq ms fr h) Q E = Wp (aj ms fr h) (fun ds fr h => ds.length ≤ big ∧ Q (.nl ds) fr h) E := afs
theorem iQ {β : Type} {m : M β} {f : Hh → D → β → Option D} : Wp (gH i m f fr h) Q E = Sl fr[i]? fun _ => Wp (m fr h) (fun y fr h => Sl fr[i]? fun d => Op (f h d y) fun z => Q z fr h) E := adI
theorem sO : Wp (mPn fr h) I E = I none fr h := agF
theorem ahn : Wp (UJ m fr h) I E = Wp (m fr h) (fun d fr h => Op (match d with | .int i => some i | _ => none) fun i => I (some i) fr h) E := agG
theorem iT {ml mh : M (Option Int)} {J : Option Int × Option Int → Fr → Hh → Prop} : Wp (Lz ml mh fr h) J E = Wp (ml fr h) (fun l fr h => Wp (mh fr h) (fun u fr h => J (l, u) fr h) E) E := adJ
theorem oY {ml mh : M (Option Int)} : Wp (ac7 m ml mh fr h) Q E = Wp (m fr h) (fun d fr h => Wp (ml fr h) (fun l fr h => Wp (mh fr h) (fun u fr h => Op (zR h d (l, u)) fun z => Q z fr h) E) E) E := aft
theorem sS : Wp (Jr m fr h) G E = Wp (m fr h) (fun d fr h => Op (d.its []) fun l => G l fr h) E := agH
theorem ig : Wp (Jf m fr h) G E = Wp (m fr h) (fun d fr h => Op (uR d) fun l => G l fr h) E := adK
theorem iU : Wp (abd ma mb fr h) G E = Wp (ma fr h) (fun x fr h => Wp (mb fr h) (fun y fr h => Op (u6 x y) fun l => G l fr h) E) E := adL
theorem iV : Wp (abm m fr h) G E = Wp (m fr h) (fun d fr h => Op d.lst fun l => G (FP 0 l) fr h) E := adM
theorem m7 {s n : M Fl} : Wp (aC s n fr h) L E = Wp (s fr h) (fun f fr h => FlK f (Wp (n fr h) L E) (L f fr h)) E := afu
theorem oZ {t : M Bool} {s n : M Fl} : Wp (tO t s n fr h) L E = Wp (t fr h) (fun b fr h => Cd b (Wp (s fr h) L E) (Wp (n fr h) L E)) E := afv
theorem iW {m : M α} : Wp (su m fr h) L E = Wp (m fr h) (fun _ fr h => L .nx fr h) E := adN
theorem nO : Wp (gK m fr h) L E = Wp (m fr h) (fun d fr h => L (.rt d) fr h) E := afw
theorem o5 : Wp (cP i m fr h) L E = Wp (m fr h) (fun d fr h => Bx (fr.set i (some d)) fun fr => L .nx fr h) E := afx
theorem o7 {g : D → M Unit} : Wp (Qn m g fr h) L E = Wp (m fr h) (fun d fr h => Wp (g d fr h) (fun _ fr h => L .nx fr h) wU) E := afy
theorem iY {is : List Nat} {ms : M (List D)} : Wp (Oh is ms fr h) L E = Wp (ms fr h) (fun ds fr h => Op (Dm is ds fr) fun fr' => ds.length ≤ big ∧ Bx fr' fun fr' => L .nx fr' h) E := adP
theorem gU {l : M (List D)} {g : D → M Unit} {b : M Fl} : Wp (Fy l g b fr h) L E = Wp (l fr h) (fun ds fr h => Wp (Et g b ds fr h) L E) E := adQ
theorem sU {vs : List Nat} {l : M (List D)} {g : D → M Unit} {t : M Bool} {e : M D} : Wp (Jt vs l g t e fr h) Q E = Wp (l fr h) (fun ds fr h => ds.length ≤ big ∧ Bx (vU fr vs) fun fr => Wp (Be vs g t e ds fr h) (fun r fr h => Q (.nl r) fr h) E) E := agI
theorem il {d : D} : Wp (wg i d fr h) U E = Bx (fr.set i (some d)) fun fr => U () fr h := adR
theorem cX : Wp (Oe [] fr h) U E = U () fr h := acM
theorem bA {g : D → M Unit} {gs : List D → M Unit} {d : D} {ds : List D} : Wp (BX g gs (d :: ds) fr h) U E = Wp (g d fr h) (fun _ fr h => Wp (gs ds fr h) U E) E := abO
theorem cY {n : Nat} {gs : List D → M Unit} {l : List D} : Wp (LC n gs (.tup l) fr h) U E = (l.length = n ∧ Wp (gs l fr h) U E) := acN
theorem o8 {f : List D → Option (List D)} : Wp (mO i f fr h) U E = Sl fr[i]? fun d => match d with
 | .nl l => Op (f l) fun l' => Bx (fr.set i (some (.nl l'))) fun fr => U () fr h
 | .ref n => Op h[n]? fun c => match c with
   | .nl l => Op (f l) fun l' => U () fr (h.set n (.nl l'))
   | _ => False
 | _ => False := afz
theorem iZ {n : Nat} {f : List D → Option (List D)} : Wp (xq (.ref n) f fr h) U E = Op h[n]? fun c => match c with
 | .nl l => Op (f l) fun l' => U () fr (h.set n (.nl l'))
 | _ => False := adS
theorem jc : Wp (Oj i m fr h) Q E = Wp (mO i wj fr h) (fun _ fr h => Wp (m fr h) (fun d fr h => Wp (mO i (Eu d) fr h) (fun _ fr h => Q .non fr h) E) E) E := adT
theorem je : Wp (abg i fr h) Q E = Wp (mO i Qp fr h) (fun _ fr h => Q .non fr h) E := adU
theorem jf {mo : M D} : Wp (Jg mo m fr h) Q E = Wp (mo fr h) (fun o fr h => Wp (xq o wj fr h) (fun _ fr h => Wp (m fr h) (fun d fr h => Wp (xq o (Eu d) fr h) (fun _ fr h => Q .non fr h) E) E) E) E := adV
theorem jh {mo : M D} : Wp (abh mo fr h) Q E = Wp (mo fr h) (fun o fr h => Wp (xq o Qp fr h) (fun _ fr h => Q .non fr h) E) E := adW
theorem ji {mi : M D} : Wp (LQ i m mi fr h) L E = Wp (m fr h) (fun d fr h => Sl fr[i]? fun _ => Wp (mi fr h) (fun j fr h => Wp (mO i (HS j d) fr h) (fun _ fr h => L .nx fr h) E) E) E := adX
theorem jk {mo mi : M D} : Wp (abi mo m mi fr h) L E = Wp (m fr h) (fun d fr h => Wp (mo fr h) (fun o fr h => Wp (mi fr h) (fun j fr h => Wp (xq o (HS j d) fr h) (fun _ fr h => L .nx fr h) E) E) E) E := adY
theorem jm : Wp (FJ m fr h) Q E = Wp (m fr h) (fun d fr h => d.own = true ∧ Q (.ref h.length) fr (h ++ [d])) E := adZ
theorem bB {ix : Nat → Option Nat} : Wp (xG i ix m fr h) L E = Wp (m fr h) (fun d fr h => Wp (Fd i ix d fr h) (fun _ fr h => L .nx fr h) E) E := abP
theorem jn {ix : Nat → Option Nat} {x : D} : Wp (Fd i ix x fr h) U E = Sl fr[i]? fun d => match d with
 | .no c fs => Op (ix c) fun k => Op (xj k x fs) fun fs' => Bx (fr.set i (some (.no c fs'))) fun fr => U () fr h
 | .ref n => Op h[n]? fun c => match c with
   | .no c fs => Op (ix c) fun k => Op (xj k x fs) fun fs' => U () fr (h.set n (.no c fs'))
   | _ => False
 | _ => False := ad0
theorem jo {n k : Nat} {F : Fn} {gD : List D → List D → List D} {ma mk : M (List D)} : Wp (cJ n k F gD ma mk fr h) Q E = Wp (ma fr h) (fun ds fr h => Wp (mk fr h) (fun es fr h => ds.length = n ∧ es.length = k ∧ Wp (F (gD ds es) h) (fun d _ h => Q d fr h) (fun x _ h => E x fr h)) E) E := Zz
theorem jr {n k : Nat} {mt : Nat → Option Fn} {gD : List D → List D → List D} {mo : M D} {ma mk : M (List D)} : Wp (tX n k mt gD mo ma mk fr h) Q E = Wp (mo fr h) (fun o fr h => Op (fnOf mt h o) fun F => Wp (ma fr h) (fun ds fr h => Wp (mk fr h) (fun es fr h => ds.length = n ∧ es.length = k ∧ Wp (F (gD (o :: ds) es) h) (fun d _ h => Q d fr h) (fun x _ h => E x fr h)) E) E) E := ad1
theorem jt {mt : Nat → Option Fn} {mo : M D} : Wp (LR mt mo fr h) Q E = Wp (mo fr h) (fun o fr h => Op (fnOf mt h o) fun F => Wp (F [o] h) (fun d _ h => Q d fr h) wU) E := ad2
theorem ir {n : Nat} {m : M Fl} {ds : List D} : Wp (tR n m ds h) Q E = Bx (startF n ds) fun fr => Wp (m fr h) (fun f _ h => RtK f fun d => Q d [] h) (fun x _ h => E x [] h) := ad3
theorem cZ {c c' : Nat} {fs : List D} {K : D → Prop} : NoK c (some (some (.no c' fs))) K = (c' = c ∧ K (.no c fs)) := Xi
theorem ju {c n : Nat} {m : M Fl} {ds : List D} : Wp (runI c n m ds h) Q E = Bx (startF n (.no c [] :: ds)) fun fr => Wp (m fr h) (fun f fr h => FlK f (NoK c fr[0]? fun d => Q d [] h) False) (fun x _ h => E x [] h) := ad4
end
end Pk
namespace Pk
open PySem PySem.Spec L2
section
variable {h : Hh} {l l' ds fs : List D} {i j : Int} {a b : Bool} {s z : Str} {n c : Nat} {t : String}
theorem jw : (D.int i).own = false := by unfold D.own; rfl
theorem o9 : (D.bl a).own = false := by unfold D.own; rfl
theorem jx : (D.str s).own = false := by unfold D.own; rfl
theorem jy : D.non.own = false := by unfold D.own; rfl
theorem jA : (D.tup l).own = false := by unfold D.own; rfl
theorem ph : (D.fl l).own = false := by unfold D.own; rfl
theorem pq : (D.kl l).own = false := by unfold D.own; rfl
theorem jB : (D.obj c l).own = false := by unfold D.own; rfl
theorem jC : (D.ref n).own = false := by unfold D.own; rfl
theorem jD : (D.cls n).own = false := by unfold D.own; rfl
theorem pA : (D.ty t).own = false := by unfold D.own; rfl
theorem pB : (D.nl l).own = true := by unfold D.own; rfl
theorem pC : (D.no c l).own = true := by unfold D.own; rfl
theorem pD : (D.int i).fz = .int i := by unfold D.fz; rfl
theorem sV : (D.bl a).fz = .bl a := by unfold D.fz; rfl
theorem pF : (D.str s).fz = .str s := by unfold D.fz; rfl
theorem fz_non : D.non.fz = .non := by unfold D.fz; rfl
theorem pG : (D.tup l).fz = .tup l := by unfold D.fz; rfl
theorem sW : (D.fl l).fz = .fl l := by unfold D.fz; rfl
theorem sX : (D.kl l).fz = .kl l := by unfold D.fz; rfl
theorem pH : (D.obj c l).fz = .obj c l := by unfold D.fz; rfl
theorem pJ : (D.ref n).fz = .ref n := by unfold D.fz; rfl
theorem pK : (D.cls n).fz = .cls n := by unfold D.fz; rfl
theorem sY : (D.ty t).fz = .ty t := by unfold D.fz; rfl
theorem tD : (D.nl l).fz = .fl l := by unfold D.fz; rfl
theorem tE : (D.no c l).fz = .obj c l := by unfold D.fz; rfl
theorem gQ : (D.tup l).its h = some l := by unfold D.its D.der; rfl
theorem mV : (D.fl l).its h = some l := by unfold D.its D.der; rfl
theorem m9 : (D.kl l).its h = some l := by unfold D.its D.der; rfl
theorem mW : (D.nl l).its h = some l := by unfold D.its D.der; rfl
theorem di : vh h (.tup l) = some (.int l.length) := by unfold vh; dsimp only; rw [gQ]; rfl
theorem jE : vh h (.fl l) = some (.int l.length) := by unfold vh; dsimp only; rw [mV]; rfl
theorem iw : vh h (.kl l) = some (.int l.length) := by unfold vh; dsimp only; rw [m9]; rfl
theorem jF : vh h (.nl l) = some (.int l.length) := by unfold vh; dsimp only; rw [mW]; rfl
theorem dw : gJ h (.tup l) (.int i) = atI l i := by unfold gJ; dsimp only; rw [gQ]
theorem pM : gJ h (.fl l) (.int i) = atI l i := by unfold gJ; dsimp only; rw [mV]
theorem jG : gJ h (.kl l) (.int i) = atI l i := by unfold gJ; dsimp only; rw [m9]
theorem jH : gJ h (.nl l) (.int i) = atI l i := by unfold gJ; dsimp only; rw [mW]
section
variable {α : Type} {xs : List α}
theorem mK {k : Nat} : atI xs (k : Int) = xs[k]? := by
 unfold atI ixN
 rw [if_pos (by omega)]
 by_cases hk : k < xs.length
 · rw [if_pos (by omega)]; simp
 · rw [if_neg (by omega)]; simp; omega
theorem ul : atI xs 0 = xs[0]? := mK (k := 0)
theorem uo : atI xs 1 = xs[1]? := mK (k := 1)
theorem uv : atI xs 2 = xs[2]? := mK (k := 2)
theorem uw : atI xs 3 = xs[3]? := mK (k := 3)
theorem ux : atI xs 4 = xs[4]? := mK (k := 4)
theorem uz : atI xs 5 = xs[5]? := mK (k := 5)
theorem uA : atI xs 6 = xs[6]? := mK (k := 6)
theorem tG : atI xs (-1) = xs.getLast? := by
 unfold atI ixN
 rw [if_neg (by decide), List.getLast?_eq_getElem?]
 by_cases hk : 1 ≤ xs.length
 · rw [if_pos (by omega)]
   show xs[((-1 : Int) + (xs.length : Int)).toNat]? = _
   congr 1; omega
 · rw [if_neg (by omega)]
   have : xs = [] := List.length_eq_zero_iff.mp (by omega)
   subst this; rfl
end
section
variable {C : Int → Int → Bool} {g : Int → Int → Int} {K : D → Prop}
theorem nQ : Op (Cv C g h (.int i) (.int j)) K = (C i j = true ∧ K (.int (g i j))) := by unfold Cv; exact agK
theorem rW : Yi i j = true := by unfold Yi; rfl
theorem dB : tV h (.int i) (.int j) = some (.int (i + j)) := by unfold tV; rfl
theorem dC : tV h (.tup l) (.tup l') = if l.length + l'.length ≤ big then some (.tup (l ++ l')) else none := by unfold tV; rfl
theorem jJ : tV h (.fl l) (.fl l') = if l.length + l'.length ≤ big then some (.nl (l ++ l')) else none := by unfold tV; rfl
theorem dD : HH (.int i) = some (.int (-i)) := by unfold HH; rfl
theorem dF : Od h (.int i) = some (.int (if i < 0 then -i else i)) := by unfold Od; rfl
theorem bD : yq h (.int i) = some (.int i) := by unfold yq; rfl
theorem dG : yq h (.bl a) = some (.int (if a then 1 else 0)) := by unfold yq; rfl
theorem dH {d : D} : aex h d = (d.its h).map .nl := by unfold aex; rfl
theorem bF {d : D} : acn h d = (d.its h).map .tup := by unfold acn; rfl
theorem dI {p : Int → Int → Bool} : cInt p h (.int i) (.int j) = some (p i j) := by unfold cInt; rfl
theorem nR : uE h (.int i) (.int j) = some (decide (i = j)) := by
 have : uE h (.int i) (.int j) = some (i == j) := by unfold uE; rfl
 rw [this]
 by_cases e : i = j
 · subst e; simp
 · simp [e]
theorem pN : uE h (.bl a) (.bl b) = some (a == b) := by unfold uE; rfl
theorem pO : uE h .non .non = some true := by unfold uE; rfl
theorem pP {d e : D} : Ey h d e = (uE h d e).map (!·) := by unfold Ey; rfl
theorem jK {d e : D} : Qm h d e = (Aj h d e).map (!·) := by unfold Qm; rfl
theorem jL {d : D} : cIs h d .non = some d.isNon := by unfold cIs; rfl
theorem dJ {d : D} : afV h d .non = some (!d.isNon) := by unfold afV; rfl
theorem bG : D.non.isNon = true := by unfold D.isNon; rfl
theorem bH : (D.int i).isNon = false := by unfold D.isNon; rfl
theorem dM : (D.bl a).isNon = false := by unfold D.isNon; rfl
theorem bJ : (D.str s).isNon = false := by unfold D.isNon; rfl
theorem bK : (D.tup l).isNon = false := by unfold D.isNon; rfl
theorem dN : (D.fl l).isNon = false := by unfold D.isNon; rfl
theorem dO : (D.nl l).isNon = false := by unfold D.isNon; rfl
theorem bL : (D.obj c l).isNon = false := by unfold D.isNon; rfl
theorem bM : (D.ref n).isNon = false := by unfold D.isNon; rfl
theorem tH : (D.bl a).tb = some a := by unfold D.tb; rfl
theorem jM : D.non.tru h = some false := by unfold D.tru; rfl
theorem pQ : (D.bl a).tru h = some a := by unfold D.tru; rfl
theorem jN : (D.int i).tru h = some (i != 0) := by unfold D.tru; rfl
theorem jO : (D.tup l).tru h = some (!l.isEmpty) := by unfold D.tru; dsimp only; rw [gQ]; rfl
theorem pU : (D.fl l).tru h = some (!l.isEmpty) := by unfold D.tru; dsimp only; rw [mV]; rfl
theorem pW : (D.nl l).tru h = some (!l.isEmpty) := by unfold D.tru; dsimp only; rw [mW]; rfl
end
theorem Vg : ∀ xs : List Int, D.ints (xs.map .int) = some xs
 | [] => by unfold D.ints; rfl
 | i :: xs => by rw [aiR]; unfold D.ints; rw [Vg xs]; rfl
theorem rY {xs : List Int} : Yu h (.nl (xs.map .int)) = some (.int xs.sum) := by
 unfold Yu D.lints D.der; dsimp only; rw [Vg]; rfl
theorem rZ {xs : List Int} : Yu h (.fl (xs.map .int)) = some (.int xs.sum) := by
 unfold Yu D.lints D.der; dsimp only; rw [Vg]; rfl
theorem jP {ix : Nat → Option Nat} {K : D → Prop} : Op (ug ix h (.obj c fs)) K = Op (ix c) fun k => Op fs[k]? K := by
 unfold ug D.ins D.der; dsimp only
 cases ix c with
 | none => exact (R8 (K := K)).trans (R8 (α := Nat)).symm
 | some k => rw [gM]
theorem pX {ix : Nat → Option Nat} {K : D → Prop} : Op (ug ix h (.no c fs)) K = Op (ix c) fun k => Op fs[k]? K := by
 unfold ug D.ins D.der; dsimp only
 cases ix c with
 | none => exact (R8 (K := K)).trans (R8 (α := Nat)).symm
 | some k => rw [gM]
theorem dR {mt : Nat → Option Fn} : fnOf mt h (.obj c fs) = mt c := by unfold fnOf D.ins D.der; rfl
theorem jQ {mt : Nat → Option Fn} : fnOf mt h (.no c fs) = mt c := by unfold fnOf D.ins D.der; rfl
theorem dU {fr : Fr} : Dm [] [] fr = some fr := by unfold Dm; rfl
theorem bO {fr : Fr} {k : Nat} {ks : List Nat} {d : D} : Dm (k :: ks) (d :: ds) fr = Dm ks ds (fr.set k (some d)) := by rw [Dm]
theorem dW {fr : Fr} : vU fr [] = fr := by unfold vU; rfl
theorem bQ {fr : Fr} {k : Nat} {ks : List Nat} : vU fr (k :: ks) = (vU fr ks).set k none := by rw [vU]
theorem jR {dfl es : List D} : aK dfl ds es = ds ++ dfl := by unfold aK; rfl
theorem dX {α : Type} {xs : List α} : pick [] xs = [] := by unfold pick; rfl
theorem bR {α : Type} {xs : List α} {k : Nat} {ks : List Nat} : pick (k :: ks) xs = xs[k]?.toList ++ pick ks xs := by
 unfold pick
 rw [List.filterMap_cons]
 cases xs[k]? <;> rfl
theorem dY {α : Type} {x : α} : (some x).toList = [x] := by unfold Option.toList; rfl
theorem dZ : wj l = some l := by unfold wj; rfl
theorem jT : Qp l = some [] := by unfold Qp; rfl
theorem jU {d : D} : Eu d l = if l.length < big then some (l ++ [d]) else none := by unfold Eu; rfl
end
theorem pY : big = 100000 := by unfold big; rfl
def QM (f : Fl) (A : Prop) (B : Fl → Prop) (_ : T6 A B := ⟨⟩) : Prop := match f with
 | .nx => A
 | .ct => A
 | .brk => B .nx
 | .rt d => B (.rt d)
theorem mX {A : Prop} {B : Fl → Prop} : QM .nx A B = A := by unfold QM; rfl
theorem mY {A : Prop} {B : Fl → Prop} : QM .ct A B = A := by unfold QM; rfl
theorem gY {A : Prop} {B : Fl → Prop} : QM .brk A B = B .nx := by unfold QM; rfl
theorem ni {d : D} {A : Prop} {B : Fl → Prop} : QM (.rt d) A B = B (.rt d) := by unfold QM; rfl
section
variable {L : Fl → Fr → Hh → Prop} {E : bh → Fr → Hh → Prop} {g : D → M Unit} {b : M Fl}
theorem nu {fr : Fr} {h : Hh} : Wp (Et g b [] fr h) L E = L .nx fr h := by unfold Et; exact mU
theorem nA {d : D} {ds : List D} {fr : Fr} {h : Hh} : Wp (Et g b (d :: ds) fr h) L E = Wp (g d fr h) (fun _ fr h => Wp (b fr h) (fun f fr h => QM f (Wp (Et g b ds fr h) L E) fun f => L f fr h) E) wU := by
 rw [Et]
 dsimp only
 cases g d fr h with
 | ok u fr h =>
   rw [ou]
   dsimp only
   cases b fr h with
   | ok f fr h =>
     rw [ou]
     cases f with
     | nx => rw [mX]
     | ct => rw [mY]
     | brk => rw [gY]; exact ou
     | rt d => rw [ni]; exact ou
   | exc x fr h => unfold Wp; rfl
   | err => unfold Wp; rfl
 | exc x fr h => unfold Wp wU; rfl
 | err => unfold Wp; rfl
theorem agL {α : Type} {F : α → D} {xs : List α} (I : List α → Fr → Hh → Prop) {fr : Fr} {h : Hh} (i0 : I [] fr h)
 (st : ∀ pre a suf fr h, xs = pre ++ a :: suf → I pre fr h → Wp (g (F a) fr h) (fun _ fr h => Wp (b fr h) (fun f fr h => QM f (I (pre ++ [a]) fr h) fun f => L f fr h) E) wU)
 (en : ∀ fr h, I xs fr h → L .nx fr h) : Wp (Et g b (xs.map F) fr h) L E := by
 have main : ∀ (suf pre : List α) (fr : Fr) (h : Hh), xs = pre ++ suf → I pre fr h → Wp (Et g b (suf.map F) fr h) L E := by
  intro suf
  induction suf with
  | nil =>
    intro pre fr h e i
    rw [aiT, nu]
    rw [aiS] at e
    subst e
    exact en fr h i
  | cons a suf ih =>
    intro pre fr h e i
    rw [aiR, nA]
    refine (st pre a suf fr h e i).mono fun _ fr1 h1 w => w.mono fun f fr2 h2 z => ?_
    have e' : xs = (pre ++ [a]) ++ suf := by rw [e, List.append_assoc]; rfl
    cases f with
    | nx => rw [mX] at z ⊢; exact ih _ _ _ e' z
    | ct => rw [mY] at z ⊢; exact ih _ _ _ e' z
    | brk => rw [gY] at z ⊢; exact z
    | rt d => rw [ni] at z ⊢; exact z
 exact main xs [] fr h rfl i0
theorem aaT {lo : Int} {n : Nat} (I : Int → Fr → Hh → Prop) {fr : Fr} {h : Hh} (i0 : I lo fr h)
 (st : ∀ j fr h, lo ≤ j → j < lo + n → I j fr h → Wp (g (.int j) fr h) (fun _ fr h => Wp (b fr h) (fun f fr h => QM f (I (j + 1) fr h) fun f => L f fr h) E) wU)
 (en : ∀ fr h, I (lo + n) fr h → L .nx fr h) : Wp (Et g b (Ky lo n) fr h) L E := by
 have e : Ky lo n = ((List.range n).map fun (k : Nat) => lo + (k : Int)).map D.int := by unfold Ky; rw [List.map_map]; rfl
 rw [e]
 refine agL (fun pre fr h => I (lo + pre.length) fr h) (by simpa using i0) (fun pre a suf fr h ex i => ?_) (fun fr h i => en fr h ?_)
 · have hl : pre.length < n := by
    have := congrArg List.length ex
    simp only [ajb, List.length_range, ajh, aiU] at this
    omega
   have ha : a = lo + pre.length := by
    have := congrArg (fun l => l[pre.length]?) ex
    simp only [ajj, List.getElem?_range hl, Option.map_some, aji (Nat.le_refl _), Nat.sub_self, aiZ, Option.some.injEq] at this
    exact this.symm
   subst ha
   have z := st (lo + pre.length) fr h (by omega) (by omega) i
   rw [ajh, List.length_singleton, Int.natCast_add, ← Int.add_assoc]
   exact z
 · simpa using i
end
section
variable {vs : List Nat} {g : D → M Unit} {t : M Bool} {e : M D}
theorem jV {d : D} {Q : Option D → Fr → Hh → Prop} {E : bh → Fr → Hh → Prop} {fr : Fr} {h : Hh} : Wp (xm vs g t e d fr h) Q E = Wp (g d fr h) (fun _ fr h => Wp (t fr h) (fun b fr h => Cd b (Wp (e fr h) (fun y fr h => Bx (vU fr vs) fun fr => Q (some y) fr h) wU) (Bx (vU fr vs) fun fr => Q none fr h)) wU) wU := by
 unfold xm Bx
 cases g d fr h with
 | ok u fr h =>
   rw [ou]
   dsimp only
   cases t fr h with
   | ok b fr h =>
     rw [ou]
     cases b with
     | true =>
       rw [ue]
       dsimp only
       cases e fr h with
       | ok y fr h => rw [ou]; exact ou (E := wU)
       | exc x fr h => unfold Wp wU; rfl
       | err => unfold Wp; rfl
     | false => rw [uf]; exact ou
   | exc x fr h => unfold Wp wU; rfl
   | err => unfold Wp; rfl
 | exc x fr h => unfold Wp wU; rfl
 | err => unfold Wp; rfl
theorem afA {fr : Fr} {h : Hh} : Be vs g t e [] fr h = .ok [] fr h := by unfold Be; rfl
end
end Pk
namespace Pk
open PySem PySem.Spec L2
structure Em (α : Type) [DecidableEq α] where
 f : α → PyData
 n : Nat
 ok : α → Prop
 lay : ∀ a, ok a → (f a).canLay0 = true
 dep : ∀ a, (f a).depth ≤ n
 eq : ∀ a b, PyData.eqv (f a) (f b) = decide (a = b)
theorem afB (a b : Int) : (a == b) = decide (a = b) := by
 by_cases e : a = b
 · subst e; simp
 · simp [e]
def Em.int : Em Int where
 f := .int
 n := 0
 ok := fun _ => True
 lay := fun _ _ => rfl
 dep := fun _ => Nat.le_refl 0
 eq := fun a b => by
  show (a == b) = _
  exact afB a b
def zU (s : Str) : Bool := (PyData.str s).canLay0
def Em.str : Em Str where
 f := .str
 n := 0
 ok := fun s => zU s = true
 lay := fun _ h => h
 dep := fun _ => Nat.le_refl 0
 eq := fun a b => by
  show (a == b) = _
  by_cases e : a = b
  · subst e; simp
  · simp [e]
section
variable {α β : Type} [DecidableEq α] [DecidableEq β]
theorem Em.all_lay (A : Em α) : ∀ {l : List α}, (∀ a ∈ l, A.ok a) → PyData.canLayAll0 (l.map A.f) = true
 | [], _ => rfl
 | a :: l, h => by
   rw [aiR, PyData.canLayAll0, A.lay a (h a ai8), A.all_lay fun x hx => h x (ajc _ hx)]
   rfl
theorem Em.all_dep (A : Em α) : ∀ l : List α, PyData.depthAll (l.map A.f) ≤ A.n
 | [] => Nat.zero_le _
 | a :: l => by
   rw [aiR, PyData.depthAll]
   exact Nat.max_le.mpr ⟨A.dep a, A.all_dep l⟩
theorem Em.all_eq (A : Em α) : ∀ l m : List α, PyData.eqvAll (l.map A.f) (m.map A.f) = decide (l = m)
 | [], [] => rfl
 | [], b :: m => by simp [PyData.eqvAll]
 | a :: l, [] => by simp [PyData.eqvAll]
 | a :: l, b :: m => by
   rw [aiR, aiR, PyData.eqvAll, A.eq, A.all_eq l m]
   by_cases e : a = b <;> by_cases e2 : l = m <;> simp [e, e2]
def Em.list (A : Em α) : Em (List α) where
 f := fun l => .list (l.map A.f)
 n := A.n + 1
 ok := fun l => ∀ a ∈ l, A.ok a
 lay := fun l h => by rw [PyData.canLay0]; exact A.all_lay h
 dep := fun l => by rw [PyData.depth]; exact Nat.succ_le_succ (A.all_dep l)
 eq := fun l m => by rw [PyData.eqv]; exact A.all_eq l m
def Em.tup (A : Em α) : Em (List α) where
 f := fun l => .tuple (l.map A.f)
 n := A.n + 1
 ok := fun l => ∀ a ∈ l, A.ok a
 lay := fun l h => by rw [PyData.canLay0]; exact A.all_lay h
 dep := fun l => by rw [PyData.depth]; exact Nat.succ_le_succ (A.all_dep l)
 eq := fun l m => by rw [PyData.eqv]; exact A.all_eq l m
def Em.pair (A : Em α) (B : Em β) : Em (α × β) where
 f := fun p => .tuple [A.f p.1, B.f p.2]
 n := max A.n B.n + 1
 ok := fun p => A.ok p.1 ∧ B.ok p.2
 lay := fun p h => by
  rw [PyData.canLay0, PyData.canLayAll0, PyData.canLayAll0, PyData.canLayAll0, A.lay _ h.1, B.lay _ h.2]; rfl
 dep := fun p => by
  rw [PyData.depth, PyData.depthAll, PyData.depthAll, PyData.depthAll]
  have := A.dep p.1
  have := B.dep p.2
  omega
 eq := fun p q => by
  rw [PyData.eqv, PyData.eqvAll, PyData.eqvAll, PyData.eqvAll, A.eq, B.eq]
  obtain ⟨a, b⟩ := p
  obtain ⟨c, d⟩ := q
  by_cases e : a = c <;> by_cases e2 : b = d <;> simp [e, e2]
def Em.opt (A : Em α) (hn : ∀ a, PyData.eqv .none (A.f a) = false ∧ PyData.eqv (A.f a) .none = false) : Em (Option α) where
 f := fun o => match o with
   | some a => A.f a
   | none => .none
 n := A.n
 ok := fun o => ∀ a, o = some a → A.ok a
 lay := fun o h => by
  cases o with
  | none => rfl
  | some a => exact A.lay a (h a rfl)
 dep := fun o => by
  cases o with
  | none => exact Nat.zero_le _
  | some a => exact A.dep a
 eq := fun o p => by
  cases o with
  | none => cases p with
    | none => rfl
    | some b => simp only [(hn b).1]; simp
  | some a => cases p with
    | none => simp only [(hn a).2]; simp
    | some b => simp only [A.eq]; simp
theorem Em.shaped (A : Em α) {a : α} (h : A.ok a) (hn : A.n ≤ 64) : SeqAt.shaped (A.f a) = true := by
 unfold SeqAt.shaped
 rw [A.lay a h, decide_eq_true (Nat.le_trans (A.dep a) hn)]
 rfl
theorem Vh (A : Em α) {h : Hh} {d e : D} {a b : α} (hd : d.toP = some (A.f a)) (he : e.toP = some (A.f b)) (oa : A.ok a) (ob : A.ok b) (hn : A.n ≤ 64) : uE h d e = some (decide (a = b)) := by
 unfold uE
 rw [hd, he]
 dsimp only
 rw [A.shaped oa hn, A.shaped ob hn, ← A.eq]
 rfl
theorem Wt (A : Em α) {g : α → D} (hg : ∀ a, (g a).toP = some (A.f a)) : ∀ l : List α, D.toPs (l.map g) = some (l.map A.f)
 | [] => by rw [aiT, D.toPs]; rfl
 | a :: l => by
   rw [aiR, D.toPs, hg a, Wt A hg l]
   rfl
theorem agM (A : Em α) {g : α → D} (hg : ∀ a, (g a).toP = some (A.f a)) (l : List α) : (D.fl (l.map g)).toP = some (A.list.f l) := by
 rw [D.toP, Wt A hg]; rfl
theorem agN (A : Em α) {g : α → D} (hg : ∀ a, (g a).toP = some (A.f a)) (l : List α) : (D.nl (l.map g)).toP = some (A.list.f l) := by
 rw [D.toP, Wt A hg]; rfl
theorem aaU (i : Int) : (D.int i).toP = some (Em.int.f i) := by unfold D.toP; rfl
theorem Kl (s : Str) : (D.str s).toP = some (Em.str.f s) := by unfold D.toP; rfl
end
section
variable {h : Hh} {l m : List Int} {v : Int}
end
theorem d8 {i : Nat} : FP i [] = [] := by unfold FP; rfl
theorem bT {i : Nat} {d : D} {l : List D} : FP i (d :: l) = .tup [.int (i : Int), d] :: FP (i + 1) l := by rw [FP]
theorem pZ {l : List D} : (D.fl l).lst = some l := by unfold D.lst; rfl
theorem qb {l : List D} : (D.kl l).lst = some l := by unfold D.lst; rfl
theorem jW {l : List D} : (D.tup l).lst = some l := by unfold D.lst; rfl
def psI (d : D) : Option Int := match d with
 | .int i => some i
 | _ => none
theorem jX {i : Int} : psI (.int i) = some i := by unfold psI; rfl
theorem qd {m : M D} {I : Option Int → Fr → Hh → Prop} {E : bh → Fr → Hh → Prop} {fr : Fr} {h : Hh} : Wp (UJ m fr h) I E = Wp (m fr h) (fun d fr h => Op (psI d) fun i => I (some i) fr h) E := by
 rw [ahn]
 congr 1
theorem ad5 {α : Type} {l : List α} {k : Nat} : l.take (min k l.length) = l.take k := by
 by_cases hk : k ≤ l.length
 · rw [Nat.min_eq_left hk]
 · rw [Nat.min_eq_right (by omega), List.take_length, List.take_of_length_le (by omega)]
theorem qj {α : Type} {l : List α} {k : Int} (h0 : 0 ≤ k) : cutD l none (some k) = l.take k.toNat := by
 unfold cutD HT.sIx
 dsimp only
 rw [if_neg (by omega), aiV, Nat.sub_zero, ad5]
theorem ql {α : Type} {l : List α} {k : Int} (h0 : 0 ≤ k) : cutD l (some k) none = l.drop k.toNat := by
 unfold cutD HT.sIx
 dsimp only
 rw [if_neg (by omega)]
 by_cases hk : k.toNat ≤ l.length
 · rw [Nat.min_eq_left hk, List.take_of_length_le (by rw [List.length_drop]; omega)]
 · rw [Nat.min_eq_right (by omega), List.drop_of_length_le (Nat.le_refl _), List.drop_of_length_le (by omega), List.take_nil]
theorem qm {α : Type} {l : List α} : cutD l none (some (-1)) = l.dropLast := by
 unfold cutD HT.sIx
 dsimp only
 rw [if_pos (by decide), aiV, Nat.sub_zero, List.dropLast_eq_take]
 congr 1
 omega
theorem d9 {h : Hh} {l : List D} {p : Option Int × Option Int} : zR h (.tup l) p = some (.tup (cutD l p.1 p.2)) := by unfold zR; rfl
theorem jY {h : Hh} {l : List D} {p : Option Int × Option Int} : zR h (.fl l) p = some (.nl (cutD l p.1 p.2)) := by unfold zR; rfl
theorem jZ {h : Hh} {l : List D} {p : Option Int × Option Int} : zR h (.nl l) p = some (.nl (cutD l p.1 p.2)) := by unfold zR; rfl
theorem j5 {h : Hh} {l : List D} {p : Option Int × Option Int} : zR h (.kl l) p = some (.nl (cutD l p.1 p.2)) := by unfold zR; rfl
theorem nY {vs : List Nat} {g : D → M Unit} {t : M Bool} {e : M D} {Q : List D → Fr → Hh → Prop} {E : bh → Fr → Hh → Prop} {fr : Fr} {h : Hh} : Wp (Be vs g t e [] fr h) Q E = Q [] fr h := by rw [afA, ou]
theorem nZ {vs : List Nat} {g : D → M Unit} {t : M Bool} {e : M D} {Q : List D → Fr → Hh → Prop} {E : bh → Fr → Hh → Prop} {fr : Fr} {h : Hh} {d : D} {ds : List D} : Wp (Be vs g t e (d :: ds) fr h) Q E = Wp (xm vs g t e d fr h) (fun o fr h => Wp (Be vs g t e ds fr h) (fun r fr h => Q (Ag o r) fr h) E) E := by
 rw [Be, wp_bind]
 have : (fun (a : Option D) (fr : Fr) (h : Hh) => Wp ((Be vs g t e ds).bind (fun r => M.ret (Ag a r)) fr h) Q E) = fun o fr h => Wp (Be vs g t e ds fr h) (fun r fr h => Q (Ag o r) fr h) E := by
  funext a fr h
  rw [wp_bind]
  have : (fun (r : List D) (fr : Fr) (h : Hh) => Wp (M.ret (Ag a r) fr h) Q E) = fun r fr h => Q (Ag a r) fr h := by
   funext r fr h
   exact mU
  rw [this]
 rw [this]
theorem bU {α : Type} {y : α} {r : List α} : Ag (some y) r = y :: r := by unfold Ag; rfl
theorem bV {α : Type} {r : List α} : Ag none r = r := by unfold Ag; rfl
theorem agP {i : Int} (h1 : -100000 ≤ i) (h2 : i ≤ 100000) : Tv i = true := by
 unfold Tv
 rw [decide_eq_true (show -(2 ^ 62) ≤ i by omega), decide_eq_true (show i < 2 ^ 62 by omega)]
 rfl
theorem afC {n : Nat} {N : Int} {b : M Fl} {ns : List Int} (hn : 2 ≤ n) (h1 : 1 ≤ N) (hN : N ≤ 63)
 (hb : ∀ (k : Nat) (xs : Fr) (h : Hh), (k : Int) < N → xs.length = n - 2 → Wp (b (some (.kl (ns.map .int)) :: some (.int k) :: xs) h) (fun f fr _ => (f = .nx ∨ f = .ct) ∧ ∃ x1 ys, fr = some (.kl (ns.map .int)) :: x1 :: ys ∧ ys.length = n - 2) wU) :
 ∃ fr h, tR n (aC (Fy (Jf (bf RB (mC (.int 1)) (bf RD (mC (.int N)) (mQ vh (iz 0))))) (wg 1) b) (gK (mC (.bl true)))) [.kl (ns.map .int)] [] = .ok (.bl true) fr h := by
 have w : Wp (tR n (aC (Fy (Jf (bf RB (mC (.int 1)) (bf RD (mC (.int N)) (mQ vh (iz 0))))) (wg 1) b) (gK (mC (.bl true)))) [.kl (ns.map .int)] []) (fun d _ _ => d = .bl true) wU := by
  have es : startF n [.kl (ns.map .int)] = some (.kl (ns.map .int)) :: none :: List.replicate (n - 2) none := by
   unfold startF
   obtain ⟨m, rfl⟩ : ∃ m, n = m + 2 := ⟨n - 2, by omega⟩
   simp [ai1]
  simp only [ir, es, gR, ↓m7, ↓gU, ↓ig, ↓rQ, ↓tZ, ↓rR, ↓nM, aiZ, ie, iw, gM, nQ, rW, true_and, uR, ajb]
  generalize hz : (if (if (ns.length : Int) < N then (ns.length : Int) else N) > 1 then (if (ns.length : Int) < N then (ns.length : Int) else N) else 1) = z
  have z1 : 1 ≤ z := by rw [← hz]; split <;> omega
  have z2 : z ≤ N := by rw [← hz]; split <;> split at * <;> omega
  rw [agP (by omega) (by omega)]
  simp only [↓reduceIte, gM]
  refine aaT (fun _ fr _ => ∃ x1 ys, fr = some (.kl (ns.map .int)) :: x1 :: ys ∧ ys.length = n - 2) ⟨none, _, rfl, by simp⟩ ?_ ?_
  · rintro j fr h j0 j1 ⟨x1, ys, rfl, hy⟩
    simp only [↓il, aiW, aiX, gR]
    have ej : ((j.toNat : Nat) : Int) = j := by omega
    have := hb j.toNat ys h (by omega) hy
    rw [ej] at this
    refine this.mono ?_
    rintro f fr h ⟨rfl | rfl, q⟩
    · rw [mX]; exact q
    · rw [mY]; exact q
  · rintro fr h ⟨x1, ys, rfl, hy⟩
    simp only [nH, ↓nO, ↓tZ, nJ]
 obtain ⟨d, fr, h, e, rfl⟩ := w.ex
 exact ⟨fr, h, e⟩
end Pk
namespace Pk
open PySem PySem.Spec L2
section
variable {Q : D → Fr → Hh → Prop} {E : bh → Fr → Hh → Prop} {fr : Fr} {h : Hh} {ma mb : M D} {mk : M (List D)} {F : Fn} {m : Nat} {mt : Nat → Option Fn}
theorem ad6 : Wq (abo m F ma mk fr h) Q E = Wq (ma fr h) (fun d fr h => Wq (mk fr h) (fun es fr h => Oq (d.its []) fun ds => ds.length ≤ big ∧ es.length = m ∧ Wq (F (UW ds es) h) (fun d _ h => Q d fr h) (fun x _ h => E x fr h)) E) E := by
 unfold abo
 rw [aA]
 congr 1
 funext d fr h
 rw [aA]
 congr 1
 funext es fr h
 cases d.its [] with
 | none => exact (bj (Q := Q) (E := E)).trans (rK (α := List D)).symm
 | some ds =>
   rw [rH]
   dsimp only
   split
   · rename_i hb; rw [BL]; simp only [hb.1, hb.2, true_and]
   · rename_i hb
     rw [bj, eq_iff_iff]
     exact ⟨False.elim, fun z => hb ⟨z.1, z.2.1⟩⟩
theorem j6 : Wp (abo m F ma mk fr h) Q E = Wp (ma fr h) (fun d fr h => Wp (mk fr h) (fun es fr h => Op (d.its []) fun ds => ds.length ≤ big ∧ es.length = m ∧ Wp (F (UW ds es) h) (fun d _ h => Q d fr h) (fun x _ h => E x fr h)) E) E := ad6
theorem eE {ds es : List D} : UW ds es = es ++ [.tup ds] := by unfold UW; rfl
theorem afD : Wq (adb mt ma mb fr h) Q E = Wq (ma fr h) (fun x fr h => Wq (mb fr h) (fun y fr h => Oq (RN mt h x y) fun F => Wq (F [x, y] h) (fun d _ h => Q d fr h) (fun x _ h => E x fr h)) E) E := by
 unfold adb
 rw [aA]
 congr 1
 funext x fr h
 rw [aA]
 congr 1
 funext y fr h
 cases RN mt h x y with
 | none => exact (bj (Q := Q) (E := E)).trans (rK (α := Fn)).symm
 | some F => rw [rH]; exact BL
theorem qp : Wp (adb mt ma mb fr h) Q E = Wp (ma fr h) (fun x fr h => Wp (mb fr h) (fun y fr h => Op (RN mt h x y) fun F => Wp (F [x, y] h) (fun d _ h => Q d fr h) (fun x _ h => E x fr h)) E) E := afD
theorem j7 {c : Nat} {fs gs : List D} : RN mt h (.obj c fs) (.obj c gs) = mt c := by
 unfold RN CG D.ins D.der
 dsimp only
 rw [if_pos rfl]
end
section
variable {h : Hh} {l m : List Str} {w : Str}
end
section
variable {vs : List Nat} {g : D → M Unit} {t : M Bool} {e : M D}
end
end Pk
namespace Pk
open PySem PySem.Spec L2
def endF (i : Nat) (f : Fl) (fr : Fr) : Fr := match f with
 | .rt _ => fr
 | _ => fr.set i none
section
variable {Q : Fl → Fr → Hh → Prop} {S : D → Fr → Hh → Prop} {E : bh → Fr → Hh → Prop} {fr : Fr} {h : Hh} {i : Nat} {cond : Nat → Option Bool} {mb : M Fl} {ms : bh → M Fl} {ma mc : M D} {mt : Nat → Option Fn}
theorem j8 : endF i .nx fr = fr.set i none := rfl
theorem eG : endF i .brk fr = fr.set i none := rfl
theorem j9 : endF i .ct fr = fr.set i none := rfl
theorem kh {d : D} : endF i (.rt d) fr = fr := rfl
theorem aaV {r : R Fl} : Wq (adl i r) Q E = Wq r (fun f fr h => Q f (endF i f fr) h) E := by
 cases r with
 | ok f fr h => cases f <;> rfl
 | exc x fr h => rfl
 | err => rfl
theorem km : Wp (abt i cond mb ms fr h) Q E = Wp (mb fr h) Q (fun x fr1 h1 => Op (cond x.c) fun b => Cd b (i < fr1.length ∧ Bx (fr1.set i none) fun fr2 => Wp (ms x fr2 h1) (fun f fr3 h3 => Q f (endF i f fr3) h3) E) (E x fr1 h1)) := by
 show Wq (abt i cond mb ms fr h) Q E = Wq (mb fr h) Q (fun x fr1 h1 => Oq (cond x.c) fun b => Hk b (i < fr1.length ∧ Bq (fr1.set i none) fun fr2 => Wq (ms x fr2 h1) (fun f fr3 h3 => Q f (endF i f fr3) h3) E) (E x fr1 h1))
 unfold abt
 cases e : mb fr h with
 | err => rfl
 | ok f fr1 h1 => cases f <;> rfl
 | exc x fr1 h1 =>
   rw [Io]
   dsimp only
   cases cond x.c with
   | none => rw [rK]; exact bj
   | some b =>
     rw [rH]
     cases b with
     | false => rw [JZ]; exact Io
     | true =>
       rw [JX]
       dsimp only
       by_cases hl : i < fr1.length
       · rw [if_pos hl, aaV]
         unfold Bq
         simp only [hl, true_and]
       · rw [if_neg hl, bj]
         simp only [hl, false_and]
theorem kE : Wp (abu cond mb ms fr h) Q E = Wp (mb fr h) Q (fun x fr1 h1 => Op (cond x.c) fun b => Cd b (Wp (ms x fr1 h1) Q E) (E x fr1 h1)) := by
 show Wq (abu cond mb ms fr h) Q E = Wq (mb fr h) Q (fun x fr1 h1 => Oq (cond x.c) fun b => Hk b (Wq (ms x fr1 h1) Q E) (E x fr1 h1))
 unfold abu
 cases e : mb fr h with
 | err => rfl
 | ok f fr1 h1 => cases f <;> rfl
 | exc x fr1 h1 =>
   rw [Io]
   dsimp only
   cases cond x.c with
   | none => rw [rK]; exact bj
   | some b =>
     rw [rH]
     cases b with
     | false => rw [JZ]; exact Io
     | true => rw [JX]
theorem eO {c n : Nat} {chk : List D → Bool} {mas : M (List D)} : Wp (YL c n chk mas fr h) Q E = Wp (mas fr h) (fun ds fr h => ds.length = n ∧ chk ds = true ∧ E ⟨c, ds⟩ fr h) E := by
 show Wq (YL c n chk mas fr h) Q E = Wq (mas fr h) (fun ds fr h => ds.length = n ∧ chk ds = true ∧ E ⟨c, ds⟩ fr h) E
 unfold YL
 rw [aA]
 congr 1
 funext ds fr h
 by_cases hl : ds.length = n ∧ chk ds = true
 · rw [if_pos hl, Io]
   simp only [hl.1, hl.2, true_and]
 · rw [if_neg hl, bj]
   refine propext ⟨False.elim, fun z => hl ⟨z.1, z.2.1⟩⟩
theorem qu {tab : Tg → Tg → Option Bool} {c : Nat} : Wp (adk tab c mc fr h) S E = Wp (mc fr h) (fun d fr h => Op (adi tab c d) fun b => S (.bl b) fr h) E := by
 show Wq (adk tab c mc fr h) S E = Wq (mc fr h) (fun d fr h => Oq (adi tab c d) fun b => S (.bl b) fr h) E
 unfold adk
 rw [aA]
 congr 1
 funext d fr h
 rw [sr, R6]
theorem tK {ix : Nat → Option Nat} {x : bh} : Wp (mXF ix x fr h) S E = Op (ix x.c) fun j => Op (x.fs[j]?) fun d => S d fr h := by
 show Wq (mXF ix x fr h) S E = Oq (ix x.c) fun j => Oq (x.fs[j]?) fun d => S d fr h
 unfold mXF
 cases ix x.c with
 | none => exact bj.trans rK.symm
 | some j =>
   rw [rH]
   show Wq (mXf j x fr h) S E = _
   unfold mXf
   cases x.fs[j]? with
   | none => exact bj.trans rK.symm
   | some d => rw [rH]; exact wG
theorem kJ : Wp (abv mt ma mc fr h) S E = Wp (ma fr h) (fun x fr h => Wp (mc fr h) (fun y fr h => Op (fnOf mt h x) fun F => Op (y.bty h) fun _ => Wp (F [x, y] h) (fun d _ h => S d fr h) (fun x _ h => E x fr h)) E) E := by
 show Wq (abv mt ma mc fr h) S E = Wq (ma fr h) (fun x fr h => Wq (mc fr h) (fun y fr h => Oq (fnOf mt h x) fun F => Oq (y.bty h) fun _ => Wq (F [x, y] h) (fun d _ h => S d fr h) (fun x _ h => E x fr h)) E) E
 unfold abv
 simp only [aA]
 congr 1
 funext x fr h
 congr 1
 funext y fr h
 cases fnOf mt h x with
 | none => exact bj.trans rK.symm
 | some F =>
   rw [rH]
   cases y.bty h with
   | none => exact bj.trans rK.symm
   | some t => rw [rH]; exact BL
theorem kW : Wp (abw mt ma mc fr h) S E = Wp (ma fr h) (fun x fr h => Wp (mc fr h) (fun y fr h => Op (fnOf mt h y) fun F => x.smp = true ∧ Wp (F [y, x] h) (fun d _ h => S d fr h) (fun x _ h => E x fr h)) E) E := by
 show Wq (abw mt ma mc fr h) S E = Wq (ma fr h) (fun x fr h => Wq (mc fr h) (fun y fr h => Oq (fnOf mt h y) fun F => x.smp = true ∧ Wq (F [y, x] h) (fun d _ h => S d fr h) (fun x _ h => E x fr h)) E) E
 unfold abw
 simp only [aA]
 congr 1
 funext x fr h
 congr 1
 funext y fr h
 cases fnOf mt h y with
 | none => exact bj.trans rK.symm
 | some F =>
   rw [rH]
   cases x.smp with
   | false =>
     refine bj.trans ?_
     simp
   | true =>
     simp only [true_and]
     exact BL
end
section
variable {h : Hh} {i : Int} {b : Bool} {z : Str} {l : List D}
theorem kY : D.smp .non = true := rfl
theorem qw : D.smp (.bl b) = true := rfl
theorem kZ : D.smp (.int i) = true := rfl
theorem lg : D.bty h .non = some "NoneType" := rfl
theorem qC : D.bty h (.bl b) = some "bool" := rfl
theorem lu : D.bty h (.int i) = some "int" := rfl
theorem lw : D.bty h (.str z) = some "str" := rfl
theorem lA : D.bty h (.tup l) = some "tuple" := rfl
theorem qD : D.bty h (.fl l) = some "list" := rfl
theorem qF : D.bty h (.kl l) = some "list" := rfl
end
end Pk
namespace Pk
open PySem PySem.Spec L2
def QQ (d : D) (K : Int → Prop) : Prop := match d with
 | .int i => 0 ≤ i ∧ i < 2 ^ 60 ∧ K i
 | _ => False
section
variable {Q : Bool → Fr → Hh → Prop} {S : D → Fr → Hh → Prop} {E : bh → Fr → Hh → Prop} {fr : Fr} {h : Hh} {ma mb : M D} {mt : Nat → Option Fn}
theorem eQ {i : Int} {K : Int → Prop} : QQ (.int i) K = (0 ≤ i ∧ i < 2 ^ 60 ∧ K i) := by unfold QQ; rfl
theorem Km {o : D} {as : List D} : Wq (Gr mt o as fr h) S E = Oq (fnOf mt h o) fun F => Wq (F (o :: as) h) (fun d _ h => S d fr h) wU := by
 unfold Gr
 cases fnOf mt h o with
 | none => exact bj.trans rK.symm
 | some F =>
   rw [rH]
   dsimp only
   cases F (o :: as) h <;> (unfold Wq; rfl)
theorem ZC {o : D} {as : List D} : Wq (Ow mt o as fr h) S E = Oq (fnOf mt h o) fun F => Wq (F (o :: as) h) (fun d _ h => S d fr h) (fun x _ h => E x fr h) := by
 unfold Ow
 cases fnOf mt h o with
 | none => exact bj.trans rK.symm
 | some F =>
   rw [rH]
   dsimp only
   exact BL
theorem lB : Wp (abz mt ma fr h) S E = Wp (ma fr h) (fun o fr h => Op (fnOf mt h o) fun F => Wp (F [o] h) (fun d _ h => QQ d fun i => S (.int i) fr h) wU) E := by
 show Wq (abz mt ma fr h) S E = Wq (ma fr h) (fun o fr h => Oq (fnOf mt h o) fun F => Wq (F [o] h) (fun d _ h => QQ d fun i => S (.int i) fr h) wU) E
 unfold abz
 rw [aA]
 congr 1
 funext o fr h
 rw [aA, Km]
 congr 1
 funext F
 congr 1
 funext d fr1 h1
 unfold aby QQ
 cases d with
 | int i =>
   dsimp only
   by_cases hi : 0 ≤ i ∧ i < 2 ^ 60
   · rw [if_pos hi, wG]
     exact propext ⟨fun z => ⟨hi.1, hi.2, z⟩, fun z => z.2.2⟩
   · rw [if_neg hi, bj]
     exact propext ⟨False.elim, fun z => hi ⟨z.1, z.2.1⟩⟩
 | _ => exact bj
theorem lC : Wp (abA mt ma mb fr h) S E = Wp (ma fr h) (fun o fr h => Wp (mb fr h) (fun i fr h => Op (fnOf mt h o) fun F => Wp (F [o, i] h) (fun d _ h => S d fr h) (fun x _ h => E x fr h)) E) E := by
 show Wq (abA mt ma mb fr h) S E = Wq (ma fr h) (fun o fr h => Wq (mb fr h) (fun i fr h => Oq (fnOf mt h o) fun F => Wq (F [o, i] h) (fun d _ h => S d fr h) (fun x _ h => E x fr h)) E) E
 unfold abA
 rw [aA]
 congr 1
 funext o fr h
 rw [aA]
 congr 1
 funext i fr h
 exact ZC
theorem qG {α : Type} {P : α → Fr → Hh → Prop} {g : D → D → M α} : Wp (Wk g ma mb fr h) P E = Wp (ma fr h) (fun x fr h => Wp (mb fr h) (fun y fr h => Wp (g x y fr h) P E) E) E := by
 show Wq (Wk g ma mb fr h) P E = Wq (ma fr h) (fun x fr h => Wq (mb fr h) (fun y fr h => Wq (g x y fr h) P E) E) E
 unfold Wk
 simp only [aA]
theorem ZD {d : D} {c : Bool → Bool} : Wq (((Y4 d).bind fun b => M.ret (c b)) fr h) Q E = Oq d.tb fun b => Q (c b) fr h := by
 unfold Y4
 rw [aA, sr]
 rfl
theorem qH {c : Bool → Bool} {x o : D} : Wp (gIn mt c x o fr h) Q E = Op (fnOf mt h o) fun F => Wp (F [o, x] h) (fun d _ h => Op d.tb fun b => Q (c b) fr h) wU := by
 show Wq (gIn mt c x o fr h) Q E = Oq (fnOf mt h o) fun F => Wq (F [o, x] h) (fun d _ h => Oq d.tb fun b => Q (c b) fr h) wU
 unfold gIn
 rw [aA, Km]
 congr 1
 funext F
 congr 1
 funext d fr1 h1
 exact ZD
end
end Pk
namespace Pk
open PySem PySem.Spec L2
section
variable {Q : Bool → Fr → Hh → Prop} {E : bh → Fr → Hh → Prop} {fr : Fr} {h : Hh} {mt : Nat → Option Fn} {n m : Nat} {fs gs : List D}
theorem qI {c : Bool → Bool} {x y : D} : Wp (Va mt c x y fr h) Q E = (((y.bty h).isSome || (CG h x y).isSome) = true ∧ Op (fnOf mt h x) fun F => Wp (F [x, y] h) (fun d _ h => Op d.tb fun b => Q (c b) fr h) wU) := by
 show Wq (Va mt c x y fr h) Q E = (((y.bty h).isSome || (CG h x y).isSome) = true ∧ Oq (fnOf mt h x) fun F => Wq (F [x, y] h) (fun d _ h => Oq d.tb fun b => Q (c b) fr h) wU)
 unfold Va
 cases hc : ((y.bty h).isSome || (CG h x y).isSome) with
 | false =>
   rw [if_neg (by simp), bj]
   simp
 | true =>
   rw [if_pos rfl, aA, Km]
   simp only [true_and]
   congr 1
   funext F
   congr 1
   funext d fr1 h1
   exact ZD
theorem eU : CG h (.obj n fs) (.obj n gs) = some n := by
 unfold CG D.ins D.der
 dsimp only
 rw [if_pos rfl]
theorem lD : D.bty h (.obj n fs) = none := rfl
theorem qJ : D.bty h (.no n fs) = none := rfl
theorem qK : D.bty h (.nl fs) = some "list" := rfl
end
end Pk
namespace Pk
open PySem PySem.Spec L2
def ad7 (l : List D) (d : D) : Option (D × List D) := match d with
 | .int j => if -(2 ^ 63) ≤ j ∧ j < 2 ^ 63 then (match seqIndex? j l.length with
   | some q => (match l[q]? with
     | some y => some (y, l.eraseIdx q)
     | none => none)
   | none => none) else none
 | _ => none
def ZF (x d : D) (K : D → List D → Prop) : Prop := match x with
 | .nl l => Oq (ad7 l d) fun p => K p.1 p.2
 | _ => False
section
variable {S : D → Fr → Hh → Prop} {E : bh → Fr → Hh → Prop} {fr : Fr} {h : Hh} {ma : M D} {mas : M (List D)} {mt : Nat → Option Fn} {i n c : Nat} {d : D} {l : List D}
theorem lE {K : D → List D → Prop} : ZF (.nl l) d K = Op (ad7 l d) fun p => K p.1 p.2 := by unfold ZF; rfl
theorem qL : Wp (Kg i d fr h) S E = Sl fr[i]? fun x => ZF x d fun y l' => Bx (fr.set i (some (.nl l'))) fun fr => S y fr h := by
 show Wq (Kg i d fr h) S E = Sq fr[i]? fun x => ZF x d fun y l' => Bq (fr.set i (some (.nl l'))) fun fr => S y fr h
 unfold Kg
 cases fr[i]? with
 | none => exact bj
 | some o =>
   cases o with
   | none => exact bj.trans Ld.symm
   | some x =>
     rw [BK]
     unfold ZF
     cases x with
     | nl l =>
       dsimp only
       unfold ad7
       cases d with
       | int j =>
         dsimp only
         by_cases hj : -(2 ^ 63) ≤ j ∧ j < 2 ^ 63
         · rw [if_pos hj, if_pos hj]
           cases seqIndex? j l.length with
           | none => exact bj.trans rK.symm
           | some q =>
             dsimp only
             cases l[q]? with
             | none => exact bj.trans rK.symm
             | some y => exact wG.trans rH.symm
         · rw [if_neg hj, if_neg hj]
           exact bj.trans rK.symm
       | _ => exact bj.trans rK.symm
     | _ => exact bj
theorem lF : Wp (abB i ma fr h) S E = Wp (mO i wj fr h) (fun _ fr h => Wp (ma fr h) (fun d fr h => Wp (Kg i d fr h) S E) E) E := by
 show Wq (abB i ma fr h) S E = Wq (mO i wj fr h) (fun _ fr h => Wq (ma fr h) (fun d fr h => Wq (Kg i d fr h) S E) E) E
 unfold abB
 simp only [aA]
theorem eV : Wp (Y6 mt ma fr h) S E = Wp (ma fr h) (fun o fr h => Op (fnOf mt h o) fun F => Wp (F [o] h) (fun d _ h => QQ d fun i => S (.bl (i != 0)) fr h) wU) E := by
 show Wq (Y6 mt ma fr h) S E = Wq (ma fr h) (fun o fr h => Oq (fnOf mt h o) fun F => Wq (F [o] h) (fun d _ h => QQ d fun i => S (.bl (i != 0)) fr h) wU) E
 unfold Y6
 rw [aA]
 congr 1
 funext o fr h
 rw [aA, Km]
 congr 1
 funext F
 congr 1
 funext d fr1 h1
 rw [aA]
 unfold aby QQ
 cases d with
 | int i =>
   dsimp only
   by_cases hi : 0 ≤ i ∧ i < 2 ^ 60
   · rw [if_pos hi, wG, sr, rH]
     exact propext ⟨fun z => ⟨hi.1, hi.2, z⟩, fun z => z.2.2⟩
   · rw [if_neg hi, bj]
     exact propext ⟨False.elim, fun z => hi ⟨z.1, z.2.1⟩⟩
 | _ => exact bj
theorem tL {F : Fn} : Wp (mCm n c F mas fr h) S E = Wp (mas fr h) (fun ds fr h => ds.length = n ∧ Wp (F (.cls c :: ds) h) (fun d _ h => S d fr h) (fun x _ h => E x fr h)) E := by
 show Wq (mCm n c F mas fr h) S E = Wq (mas fr h) (fun ds fr h => ds.length = n ∧ Wq (F (.cls c :: ds) h) (fun d _ h => S d fr h) (fun x _ h => E x fr h)) E
 unfold mCm
 rw [aA]
 congr 1
 funext ds fr h
 by_cases hl : ds.length = n
 · rw [if_pos hl, BL]
   simp only [hl, true_and]
 · rw [if_neg hl, bj]
   exact propext ⟨False.elim, fun z => hl z.1⟩
end
end Pk
namespace Pk
open PySem PySem.Spec L2
section
variable {Q : Bool → Fr → Hh → Prop} {E : bh → Fr → Hh → Prop} {fr : Fr} {h : Hh} {mb : M D} {i : Nat}
theorem eX {f : Hh → D → D → Option Bool} : Wp (Y7 i f mb fr h) Q E = Sl fr[i]? fun _ => Wp (mb fr h) (fun y fr h => Sl fr[i]? fun d => Op (f h d y) fun z => Q z fr h) E := by
 show Wq (Y7 i f mb fr h) Q E = Sq fr[i]? fun _ => Wq (mb fr h) (fun y fr h => Sq fr[i]? fun d => Oq (f h d y) fun z => Q z fr h) E
 unfold Y7
 rw [aA]
 unfold yu
 cases e : fr[i]? with
 | none => exact bj
 | some o =>
   cases o with
   | none => exact bj.trans Ld.symm
   | some x =>
     dsimp only
     rw [wG, BK, aA]
     congr 1
     funext y fr1 h1
     rw [aA]
     unfold iz
     cases fr1[i]? with
     | none => exact bj
     | some o1 =>
       cases o1 with
       | none => exact bj.trans Ld.symm
       | some d => dsimp only; rw [wG, BK, sr]
end
end Pk
namespace Pk
open PySem PySem.Spec L2
def EqK {α : Type} (o : Option α) (A B : Prop) : Prop := match o with
 | some _ => A
 | none => B
section
variable {Q : Bool → Fr → Hh → Prop} {E : bh → Fr → Hh → Prop} {fr : Fr} {h : Hh} {mt : Nat → Option Fn} {i : Int} {b c : Bool} {z : Str} {l : List D}
theorem cQ {α : Type} {a : α} {A B : Prop} : EqK (some a) A B = A := by unfold EqK; rfl
theorem cR {α : Type} {A B : Prop} : EqK (none : Option α) A B = B := by unfold EqK; rfl
theorem lG {c : Bool → Bool} {x y : D} : Wp (Uj mt c x y fr h) Q E = EqK (fnOf mt h x) (Wp (Va mt c x y fr h) Q E) ((x.bty h).isSome = true ∧ Op (fnOf mt h y) fun F => Wp (F [y, x] h) (fun d _ h => Op d.tb fun b => Q (c b) fr h) wU) := by
 show Wq (Uj mt c x y fr h) Q E = EqK (fnOf mt h x) (Wq (Va mt c x y fr h) Q E) ((x.bty h).isSome = true ∧ Oq (fnOf mt h y) fun F => Wq (F [y, x] h) (fun d _ h => Oq d.tb fun b => Q (c b) fr h) wU)
 unfold Uj
 cases fnOf mt h x with
 | some G => rw [cQ]
 | none =>
   rw [cR]
   dsimp only
   cases hc : (x.bty h).isSome with
   | false =>
     rw [if_neg (by simp), bj]
     simp
   | true =>
     rw [if_pos rfl, aA, Km]
     simp only [true_and]
     congr 1
     funext F
     congr 1
     funext d fr1 h1
     exact ZD
theorem eY : fnOf mt h .non = none := rfl
theorem lH : fnOf mt h (.bl b) = none := rfl
theorem eZ : fnOf mt h (.int i) = none := rfl
theorem fj : fnOf mt h (.str z) = none := rfl
theorem fu : fnOf mt h (.tup l) = none := rfl
theorem lJ : fnOf mt h (.fl l) = none := rfl
theorem lK : ahL h (.bl b) (.bl c) = some (decide (b = c)) := rfl
theorem fB : ahh h (.bl b) (.bl c) = some (!decide (b = c)) := rfl
end
end Pk
namespace Pk
open PySem PySem.Spec L2
section
variable {Q : Bool → Fr → Hh → Prop} {E : bh → Fr → Hh → Prop} {fr : Fr} {h : Hh} {mt : Nat → Option Fn} {nf : Nat → Nat}
theorem lL {x y : D} : Wp (adt mt nf x y fr h) Q E = Op (abC mt nf h x y) fun b => Q b fr h := by
 show Wq (adt mt nf x y fr h) Q E = Oq (abC mt nf h x y) fun b => Q b fr h
 unfold adt
 exact sr
theorem fD {l m : List D} : abC mt nf h (.tup l) (.tup m) = adq mt nf h l m := rfl
end
end Pk
namespace Pk
open PySem PySem.Spec L2
section
variable {Q : Fl → Fr → Hh → Prop} {E : bh → Fr → Hh → Prop} {fr : Fr} {h : Hh} {i : Nat} {cond : Nat → Option Bool} {mb : M Fl} {ms : bh → M Fl} {x : bh} {cs : List Hd}
theorem fG : Wp (zX [] x fr h) Q E = E x fr h := by
 show Wq (zX [] x fr h) Q E = _
 unfold zX
 exact Io
theorem fH : Wp (zX ((some i, cond, ms) :: cs) x fr h) Q E = Op (cond x.c) fun b => Cd b (i < fr.length ∧ Bx (fr.set i none) fun fr2 => Wp (ms x fr2 h) (fun f fr3 h3 => Q f (endF i f fr3) h3) E) (Wp (zX cs x fr h) Q E) := by
 show Wq (zX ((some i, cond, ms) :: cs) x fr h) Q E = Oq (cond x.c) fun b => Hk b (i < fr.length ∧ Bq (fr.set i none) fun fr2 => Wq (ms x fr2 h) (fun f fr3 h3 => Q f (endF i f fr3) h3) E) (Wq (zX cs x fr h) Q E)
 rw [zX]
 dsimp only
 cases cond x.c with
 | none => rw [rK]; exact bj
 | some b =>
   rw [rH]
   cases b with
   | false => rw [JZ]
   | true =>
     rw [JX]
     dsimp only
     by_cases hl : i < fr.length
     · rw [if_pos hl, aaV]
       unfold Bq
       simp only [hl, true_and]
     · rw [if_neg hl, bj]
       simp only [hl, false_and]
theorem fJ : Wp (zX ((none, cond, ms) :: cs) x fr h) Q E = Op (cond x.c) fun b => Cd b (Wp (ms x fr h) Q E) (Wp (zX cs x fr h) Q E) := by
 show Wq (zX ((none, cond, ms) :: cs) x fr h) Q E = Oq (cond x.c) fun b => Hk b (Wq (ms x fr h) Q E) (Wq (zX cs x fr h) Q E)
 rw [zX]
 dsimp only
 cases cond x.c with
 | none => rw [rK]; exact bj
 | some b =>
   rw [rH]
   cases b with
   | false => rw [JZ]
   | true => rw [JX]
theorem lM : Wp (abD cs mb fr h) Q E = Wp (mb fr h) Q (fun x fr1 h1 => Wp (zX cs x fr1 h1) Q E) := by
 show Wq (abD cs mb fr h) Q E = Wq (mb fr h) Q (fun x fr1 h1 => Wq (zX cs x fr1 h1) Q E)
 unfold abD
 cases e : mb fr h with
 | err => rfl
 | ok f fr1 h1 => cases f <;> rfl
 | exc x fr1 h1 => rfl
end
end Pk
namespace Pk
open PySem PySem.Spec L2
theorem fK {h : Hh} {b : Bool} : ahi h (.bl b) = some (.str (if b then "True" else "False")) := rfl
theorem bW {h : Hh} {b : Bool} : acE h (.bl b) = some (.bl b) := rfl
theorem bz {h : Hh} {i : Int} : acE h (.int i) = some (.bl (i != 0)) := rfl
end Pk
namespace Pk
open PySem PySem.Spec L2
section
variable {Q : Fl → Fr → Hh → Prop} {E : bh → Fr → Hh → Prop} {fr : Fr} {h : Hh} {c : Nat} {ma : M D}
theorem bY : Wp (Wl c ma fr h) Q E = Wp (ma fr h) (fun _ fr h => E ⟨c, []⟩ fr h) E := by
 show Wq (Wl c ma fr h) Q E = Wq (ma fr h) (fun _ fr h => E ⟨c, []⟩ fr h) E
 unfold Wl
 rw [aA]
 rfl
end
end Pk
namespace Pk
open PySem PySem.Spec L2
section
variable {G : List D → Fr → Hh → Prop} {E : bh → Fr → Hh → Prop} {fr : Fr} {h : Hh} {ma mb : M D} {a b : D} {l m : List D}
theorem qM : Wp (adu ma mb fr h) G E = Wp (ma fr h) (fun x fr h => Wp (mb fr h) (fun y fr h => Op (Za x y) fun l => G l fr h) E) E := by
 show Wq (adu ma mb fr h) G E = Wq (ma fr h) (fun x fr h => Wq (mb fr h) (fun y fr h => Oq (Za x y) fun l => G l fr h) E) E
 unfold adu
 simp only [aA, sr]
theorem lN {n : Nat} {gs : List D → M Unit} {U : Unit → Fr → Hh → Prop} : Wp (Wm n gs (.tup l) fr h) U E = (l.length = n ∧ Wp (gs l fr h) U E) := by
 show Wq (Wm n gs (.tup l) fr h) U E = (l.length = n ∧ Wq (gs l fr h) U E)
 unfold Wm
 dsimp only
 split
 · rename_i hb; simp only [hb, true_and]
 · rename_i hb; rw [sr, rK]; simp only [hb, false_and]
theorem fL {n : Nat} {gs : List D → M Unit} {U : Unit → Fr → Hh → Prop} : Wp (Wm n gs (.fl l) fr h) U E = (l.length = n ∧ Wp (gs l fr h) U E) := by
 show Wq (Wm n gs (.fl l) fr h) U E = (l.length = n ∧ Wq (gs l fr h) U E)
 unfold Wm
 dsimp only
 split
 · rename_i hb; simp only [hb, true_and]
 · rename_i hb; rw [sr, rK]; simp only [hb, false_and]
theorem lO : Za (.fl l) (.fl m) = some (Ox l m) := rfl
theorem lQ : Za (.tup l) (.tup m) = some (Ox l m) := rfl
end
end Pk
namespace Pk
open PySem PySem.Spec L2
def aiy : List Int → Int
 | a :: r => aba a r
 | [] => 0
end Pk
namespace Pk
open PySem PySem.Spec L2
section
variable {L : Fl → Fr → Hh → Prop} {E : bh → Fr → Hh → Prop} {g : D → M Unit} {b : M Fl} {n : Nat} {l : List D} {fr : Fr} {h : Hh} {G : Nat × List D × List D → Fr → Hh → Prop} {li : M (Nat × List D × List D)} {ma mb : M D}
theorem fM : Wp (Zb li g b fr h) L E = Wp (li fr h) (fun x fr h => Wp (Ve x.1 x.2.1 g b x.2.2 fr h) L E) E := by
 show Wq (Zb li g b fr h) L E = Wq (li fr h) (fun x fr h => Wq (Ve x.1 x.2.1 g b x.2.2 fr h) L E) E
 unfold Zb
 simp only [aA]
theorem qN : Wp (M9 ma fr h) G E = Wp (ma fr h) (fun d fr h => Op ((FT h d).map fun x => (x.1, x.2, x.2)) fun x => G x fr h) E := by
 show Wq (M9 ma fr h) G E = Wq (ma fr h) (fun d fr h => Oq ((FT h d).map fun x => (x.1, x.2, x.2)) fun x => G x fr h) E
 unfold M9
 simp only [aA, sr]
theorem lU : Wp (abF ma mb fr h) G E = Wp (ma fr h) (fun d fr h => Wp (mb fr h) (fun e fr h => Op (adw h d e) fun x => G x fr h) E) E := by
 show Wq (abF ma mb fr h) G E = Wq (ma fr h) (fun d fr h => Wq (mb fr h) (fun e fr h => Oq (adw h d e) fun x => G x fr h) E) E
 unfold abF
 simp only [aA, sr]
end
end Pk
namespace Pk
open PySem PySem.Spec L2
def Xj (d : D) (K : Str → Prop) : Prop := match d with
 | .str y => K y
 | _ => False
def Pg (d : D) (K : Int → Prop) : Prop := match d with
 | .int y => K y
 | _ => False
section
variable {α : Type} {Q : α → Fr → Hh → Prop} {S : D → Fr → Hh → Prop} {L : Fl → Fr → Hh → Prop} {G : Str → Fr → Hh → Prop} {E : bh → Fr → Hh → Prop} {fr : Fr} {h : Hh} {m ma mb : M D} {ml mh : M (Option Int)} {mt : Nat → Option Fn} {i : Nat} {ms : List (M D)} {acc : Str}
theorem lV {y : Str} {K : Str → Prop} : Xj (.str y) K = K y := by unfold Xj; rfl
theorem lW {y : Int} {K : Int → Prop} : Pg (.int y) K = K y := by unfold Pg; rfl
theorem fO : Wp (Ze mt ma ml mh fr h) S E = Wp (ma fr h) (fun o fr h => Wp (ml fr h) (fun l fr h => Wp (mh fr h) (fun u fr h => Op (fnOf mt h o) fun F => Wp (F [o, .sl l u] h) (fun d _ h => S d fr h) (fun x _ h => E x fr h)) E) E) E := by
 show Wq (Ze mt ma ml mh fr h) S E = Wq (ma fr h) (fun o fr h => Wq (ml fr h) (fun l fr h => Wq (mh fr h) (fun u fr h => Oq (fnOf mt h o) fun F => Wq (F [o, .sl l u] h) (fun d _ h => S d fr h) (fun x _ h => E x fr h)) E) E) E
 unfold Ze
 simp only [aA, ZC]
theorem fP : Wp (Zg ma fr h) S E = Wp (ma fr h) (fun d fr h => Op (bRg (.int 0) d) fun z => S z fr h) E := by
 show Wq (Zg ma fr h) S E = Wq (ma fr h) (fun d fr h => Oq (bRg (.int 0) d) fun z => S z fr h) E
 unfold Zg
 simp only [aA, sr]
theorem fQ : Wp (Zh ma mb fr h) S E = Wp (ma fr h) (fun d fr h => Wp (mb fr h) (fun e fr h => Op (bRg d e) fun z => S z fr h) E) E := by
 show Wq (Zh ma mb fr h) S E = Wq (ma fr h) (fun d fr h => Wq (mb fr h) (fun e fr h => Oq (bRg d e) fun z => S z fr h) E) E
 unfold Zh
 simp only [aA, sr]
theorem qO {f : Int → Int → Int} : Wp (Oz i f m fr h) L E = Sl fr[i]? fun x => Pg x fun a => Wp (m fr h) (fun d fr h => Pg d fun b => Bx (fr.set i (some (.int (f a b)))) fun fr => L .nx fr h) E := by
 show Wq (Oz i f m fr h) L E = Sq fr[i]? fun x => Pg x fun a => Wq (m fr h) (fun d fr h => Pg d fun b => Bq (fr.set i (some (.int (f a b)))) fun fr => L .nx fr h) E
 unfold Oz
 cases fr[i]? with
 | none => exact bj
 | some o =>
   cases o with
   | none => exact bj.trans Ld.symm
   | some x =>
     rw [BK]
     unfold Pg
     cases x with
     | int a =>
       dsimp only
       rw [aA]
       congr 1
       funext d fr h
       cases d <;> first | exact wG | exact bj
     | _ => exact bj
theorem qP : Wp (yX m fr h) S E = Wp (m fr h) (fun d fr h => Op (Zi d) fun z => S z fr h) E := by
 show Wq (yX m fr h) S E = Wq (m fr h) (fun d fr h => Oq (Zi d) fun z => S z fr h) E
 unfold yX
 simp only [aA, sr]
theorem qQ : Wp (Pb [] acc fr h) G E = G acc fr h := mU
theorem qR : Wp (Pb (m :: ms) acc fr h) G E = Wp (m fr h) (fun d fr h => Xj d fun y => (acc ++ y).length ≤ big ∧ Wp (Pb ms (acc ++ y) fr h) G E) E := by
 show Wq (Pb (m :: ms) acc fr h) G E = Wq (m fr h) (fun d fr h => Xj d fun y => (acc ++ y).length ≤ big ∧ Wq (Pb ms (acc ++ y) fr h) G E) E
 rw [Pb, aA]
 congr 1
 funext d fr h
 unfold Xj
 cases d with
 | str y =>
   dsimp only
   split
   · rename_i hl
     simp only [hl, true_and]
   · rename_i hl
     rw [sr, rK]
     simp only [hl, false_and]
 | _ => exact sr.trans rK
theorem lX : Wp (BJ ms fr h) S E = Wp (Pb ms Str.empty fr h) (fun z fr h => S (.str z) fr h) E := by
 show Wq (BJ ms fr h) S E = Wq (Pb ms Str.empty fr h) (fun z fr h => S (.str z) fr h) E
 unfold BJ
 simp only [aA, tY]
theorem fU {f : Str → M Fl} : Wp (QJ m f fr h) L E = Wp (m fr h) (fun d fr h => Xj d fun z => Wp (f z fr h) L E) E := by
 show Wq (QJ m f fr h) L E = Wq (m fr h) (fun d fr h => Xj d fun z => Wq (f z fr h) L E) E
 unfold QJ
 rw [aA]
 congr 1
 funext d fr h
 unfold Xj
 cases d <;> first | rfl | exact bj
theorem bZ {z : Str} : Wp (Dc [] z fr h) L E = L .nx fr h := mU
theorem cA {z : Str} {ss : List Str} {b : M Fl} {r : List (List Str × M Fl)} : Wp (Dc ((ss, b) :: r) z fr h) L E = Cd (ss.contains z) (Wp (b fr h) L E) (Wp (Dc r z fr h) L E) := by
 show Wq ((if ss.contains z then b else Dc r z) fr h) L E = Hk (ss.contains z) (Wq (b fr h) L E) (Wq (Dc r z fr h) L E)
 exact Ip
theorem fV {l : List D} {lo hi : Option Int} : RX h (.nl l) (.sl lo hi) = some (.nl (cutD l lo hi)) := by
 unfold RX
 rfl
theorem cC {l : List D} {lo hi : Option Int} : RX h (.fl l) (.sl lo hi) = some (.nl (cutD l lo hi)) := by
 unfold RX
 rfl
theorem cD {d : D} {k : Int} : RX h d (.int k) = gJ h d (.int k) := by
 unfold RX
 rfl
theorem lY {tab : Tg → Tg → Option Bool} {lo hi : Option Int} : X6 tab h (.sl lo hi) (.ty "int") = some (.bl false) := by
 unfold X6
 dsimp only
 rw [if_pos (by decide)]
theorem fX {tab : Tg → Tg → Option Bool} {k : Int} {c : D} : X6 tab h (.int k) c = KD tab h (.int k) c := by
 unfold X6
 rfl
theorem qT {lo hi : Option Int} : (D.sl lo hi).own = false := rfl
theorem tM {lo hi : Option Int} : (D.sl lo hi).fz = .sl lo hi := rfl
end
end Pk
namespace Pk
open PySem PySem.Spec L2
end Pk
namespace Pk
open PySem PySem.Spec L2
section
variable {h : Hh}
theorem qU {xs : List Int} : X8 h (.nl (xs.map .int)) = some (.int xs.sum) := rY
theorem qW {xs : List Int} : X8 h (.fl (xs.map .int)) = some (.int xs.sum) := rZ
theorem qX {xs : List Int} : X8 h (.tup (xs.map .int)) = some (.int xs.sum) := by
 unfold X8
 dsimp only
 rw [Vg]
 rfl
theorem Wp.out {α : Type} {r : R α} {Q : α → Fr → Hh → Prop} (w : Wp r Q wU) : ∃ a fr h, r = .ok a fr h ∧ Q a fr h := by
 cases r with
 | ok a fr h => exact ⟨a, fr, h, rfl, w⟩
 | exc y fr1 h1 => exact (show False from w).elim
 | err => exact (show False from w).elim
end
end Pk
namespace Pk
open PySem PySem.Spec L2
section
variable {S : D → Fr → Hh → Prop} {E : bh → Fr → Hh → Prop} {fr : Fr} {h : Hh} {ma : M D} {mt : Nat → Option Fn}
theorem qY : Wp (adx mt ma fr h) S E = Wp (ma fr h) (fun o fr h => Op (fnOf mt h o) fun F => Wp (F [o] h) (fun d _ h => S d fr h) wU) E := by
 show Wq (adx mt ma fr h) S E = Wq (ma fr h) (fun o fr h => Oq (fnOf mt h o) fun F => Wq (F [o] h) (fun d _ h => S d fr h) wU) E
 unfold adx
 rw [aA]
 congr 1
 funext o fr h
 rw [Km]
end
end Pk
namespace Pk
open PySem PySem.Spec L2
def Oxq (o : Option (Fn × Bool)) (A B : Fn → Prop) : Prop := match o with
 | some (F, false) => A F
 | some (F, true) => B F
 | none => False
def OxK (o : Option (Fn × Bool)) (A B : Fn → Prop) (_ : T6 A B := ⟨⟩) : Prop := Oxq o A B
theorem uB {F : Fn} {A B : Fn → Prop} : OxK (some (F, false)) A B = A F := rfl
theorem uC {F : Fn} {A B : Fn → Prop} : OxK (some (F, true)) A B = B F := rfl
section
variable {S : D → Fr → Hh → Prop} {E : bh → Fr → Hh → Prop} {fr : Fr} {h : Hh} {ma mb : M D} {mtl mtr : Nat → Option Fn}
theorem qZ : Wp (ady mtl mtr ma mb fr h) S E = Wp (ma fr h) (fun x fr h => Wp (mb fr h) (fun y fr h => OxK (Yb mtl mtr h x y) (fun F => Wp (F [x, y] h) (fun d _ h => S d fr h) (fun x _ h => E x fr h)) (fun F => Wp (F [y, x] h) (fun d _ h => S d fr h) (fun x _ h => E x fr h))) E) E := by
 show Wq (ady mtl mtr ma mb fr h) S E = Wq (ma fr h) (fun x fr h => Wq (mb fr h) (fun y fr h => Oxq (Yb mtl mtr h x y) (fun F => Wq (F [x, y] h) (fun d _ h => S d fr h) (fun x _ h => E x fr h)) (fun F => Wq (F [y, x] h) (fun d _ h => S d fr h) (fun x _ h => E x fr h))) E) E
 unfold ady
 rw [aA]
 congr 1
 funext x fr h
 rw [aA]
 congr 1
 funext y fr h
 cases Yb mtl mtr h x y with
 | none => exact bj
 | some Fb =>
   obtain ⟨F, b⟩ := Fb
   cases b
   · exact BL
   · exact BL
end
end Pk
namespace Pk
open PySem PySem.Spec L2
section
variable {S : D → Fr → Hh → Prop} {E : bh → Fr → Hh → Prop} {fr : Fr} {h : Hh} {mo ma : M D}
theorem fY : Wp (Zm mo ma fr h) S E = Wp (mo fr h) (fun o fr h => (o.lstP h).isSome = true ∧ Wp (ma fr h) (fun x fr h => Op (Wn h o x) fun z => S z fr h) E) E := by
 show Wq (Zm mo ma fr h) S E = Wq (mo fr h) (fun o fr h => (o.lstP h).isSome = true ∧ Wq (ma fr h) (fun x fr h => Oq (Wn h o x) fun z => S z fr h) E) E
 unfold Zm
 rw [aA]
 congr 1
 funext o fr h
 cases e : (o.lstP h).isSome with
 | true =>
   rw [if_pos rfl, aA]
   simp only [true_and]
   congr 1
   funext x fr h
   exact sr
 | false =>
   rw [if_neg Bool.false_ne_true]
   simp only [Bool.false_eq_true, false_and]
   exact bj
end
section
variable {α : Type} [DecidableEq α] {h : Hh} {x y : D} {a : α} {l : List α}
end
end Pk
namespace Pk
open PySem PySem.Spec L2
section
variable {Q : D → Fr → Hh → Prop} {S : List D → Fr → Hh → Prop} {E : bh → Fr → Hh → Prop} {fr : Fr} {h : Hh} {n : Nat} {l : List D} {vs : List Nat} {g : D → M Unit} {t : M Bool} {e : M D}
theorem rA {li : M (Nat × List D × List D)} : Wp (La vs li g t e fr h) Q E = Wp (li fr h) (fun x fr h => x.2.2.length ≤ big ∧ Bx (vU fr vs) fun fr => Wp (vW x.1 x.2.1 vs g t e x.2.2 fr h) (fun r fr h => Q (.nl r) fr h) E) E := by
 show Wq (La vs li g t e fr h) Q E = Wq (li fr h) (fun x fr h => x.2.2.length ≤ big ∧ Bq (vU fr vs) fun fr => Wq (vW x.1 x.2.1 vs g t e x.2.2 fr h) (fun r fr h => Q (.nl r) fr h) E) E
 unfold La X5 Bq; rw [aA]
 congr 1
 funext ds fr h
 rw [aA, wG]
 split
 · rename_i hb; rw [aA]; simp only [tY, hb, true_and]
 · rename_i hb; rw [sr, rK]; simp only [hb, false_and]
theorem ZG (hc : h[n]? = some (.nl l)) : vW n l vs g t e [] fr h = .ok [] fr h := by unfold vW; rw [if_pos hc]
theorem Xk {d : D} {ds : List D} {o : Option D} {r : List D} {fr1 fr2 : Fr} {h1 h2 : Hh} (hc : h[n]? = some (.nl l)) (e1 : xm vs g t e d fr h = .ok o fr1 h1) (e2 : vW n l vs g t e ds fr1 h1 = .ok r fr2 h2) : vW n l vs g t e (d :: ds) fr h = .ok (Ag o r) fr2 h2 := by
 rw [vW]
 dsimp only
 rw [if_pos hc, M.bind_ok e1, M.bind_ok e2]
 rfl
theorem ZJ {α : Type} {F G : α → D} (hc : h[n]? = some (.nl l)) : ∀ {xs : List α}, (∀ a ∈ xs, xm vs g t e (F a) fr h = .ok (some (G a)) fr h) → vW n l vs g t e (xs.map F) fr h = .ok (xs.map G) fr h
 | [], _ => ZG hc
 | a :: xs, hh => by
   rw [aiR, aiR]
   exact Xk hc (hh a ai8) (ZJ hc fun b hb => hh b (ajc _ hb))
end
end Pk
namespace Pk
open PySem PySem.Spec L2
def ad8 (h : Hh) (ix : Nat → Option Nat) (o d : D) : Option Hh := match o with
 | .ref n => match h[n]? with
   | some (.no c fs) => match ix c with
     | some i => match xj i d fs with
       | some fs' => some (h.set n (.no c fs'))
       | none => none
     | none => none
   | _ => none
 | _ => none
section
variable {Q : D → Fr → Hh → Prop} {L : Fl → Fr → Hh → Prop} {U : Unit → Fr → Hh → Prop} {E : bh → Fr → Hh → Prop} {fr : Fr} {h : Hh} {mo mv : M D} {ms : List (M D)}
theorem lZ : Wp (aeO fr h) Q E = Q (.ref h.length) fr (h ++ [.dc [] []]) := by
 unfold aeO
 exact ou
theorem mD : Wp (abK mo ms fr h) Q E = Wp (mo fr h) (fun o fr h => Wp (aj ms fr h) (fun ks fr h => Op (abJ h o ks) fun z => Q z fr h) E) E := by
 show Wq (abK mo ms fr h) Q E = Wq (mo fr h) (fun o fr h => Wq (aj ms fr h) (fun ks fr h => Oq (abJ h o ks) fun z => Q z fr h) E) E
 unfold abK
 simp only [aA, sr]
theorem mF : Wp (abL mo ms mv fr h) L E = Wp (mv fr h) (fun d fr h => Wp (mo fr h) (fun o fr h => Wp (aj ms fr h) (fun ks fr h => Op (Yc h o ks d) fun h' => L .nx fr h') E) E) E := by
 show Wq (abL mo ms mv fr h) L E = Wq (mv fr h) (fun d fr h => Wq (mo fr h) (fun o fr h => Wq (aj ms fr h) (fun ks fr h => Oq (Yc h o ks d) fun h' => L .nx fr h') E) E) E
 unfold abL
 rw [aA]
 congr 1
 funext d fr h
 rw [aA]
 congr 1
 funext o fr h
 rw [aA]
 congr 1
 funext ks fr h
 cases Yc h o ks d with
 | some h' => dsimp only; rw [wG]; rfl
 | none => dsimp only; rw [bj]; rfl
theorem fZ {j : Nat} {ix : Nat → Option Nat} {d : D} : Wp (abM j ix d fr h) U E = Sl fr[j]? fun o => Op (ad8 h ix o d) fun h' => U () fr h' := by
 show Wq (abM j ix d fr h) U E = Sq fr[j]? fun o => Oq (ad8 h ix o d) fun h' => U () fr h'
 unfold abM ad8
 cases fr[j]? with
 | none => exact bj
 | some s =>
   cases s with
   | none => exact bj
   | some o =>
     cases o with
     | ref n =>
       dsimp only [Sq]
       cases h[n]? with
       | none => exact bj
       | some c =>
         cases c with
         | no c fs =>
           dsimp only
           cases ix c with
           | none => exact bj
           | some i =>
             dsimp only
             cases xj i d fs with
             | none => exact bj
             | some fs' => exact wG
         | _ => exact bj
     | _ => exact bj
theorem gh {c n m : Nat} {F : Fn} {gD : List D → List D → List D} {ma mk : M (List D)} : Wp (NP c n m F gD ma mk fr h) Q E = Wp (ma fr h) (fun ds fr h => Wp (mk fr h) (fun es fr h => ds.length = n ∧ es.length = m ∧ Wp (F (.ref h.length :: gD ds es) (h ++ [.no c []])) (fun d _ h' => d = .non ∧ Q (.ref h.length) fr h') (fun x _ h' => E x fr h')) E) E := by
 show Wq (NP c n m F gD ma mk fr h) Q E = Wq (ma fr h) (fun ds fr h => Wq (mk fr h) (fun es fr h => ds.length = n ∧ es.length = m ∧ Wq (F (.ref h.length :: gD ds es) (h ++ [.no c []])) (fun d _ h' => d = .non ∧ Q (.ref h.length) fr h') (fun x _ h' => E x fr h')) E) E
 unfold NP
 rw [aA]
 congr 1
 funext ds fr h
 rw [aA]
 congr 1
 funext es fr h
 split
 · rename_i hb
   simp only [hb.1, hb.2, true_and]
   cases F (.ref h.length :: gD ds es) (h ++ [.no c []]) with
   | ok d fr' h' => cases d <;> simp [abN, Wq]
   | exc x fr' h' => rfl
   | err => rfl
 · rename_i hb
   rw [bj, eq_iff_iff]
   exact ⟨False.elim, fun z => hb ⟨z.1, z.2.1⟩⟩
end
end Pk
namespace Pk
open PySem PySem.Spec L2
section
variable {E : bh → Fr → Hh → Prop} {fr : Fr} {h : Hh} {G : Nat × List D × List D → Fr → Hh → Prop} {ma : M D}
theorem gj : Wp (Zr ma fr h) G E = Wp (ma fr h) (fun d fr h => Op ((FT h d).map fun x => (x.1, x.2, FP 0 x.2)) fun x => G x fr h) E := by
 show Wq (Zr ma fr h) G E = Wq (ma fr h) (fun d fr h => Oq ((FT h d).map fun x => (x.1, x.2, FP 0 x.2)) fun x => G x fr h) E
 unfold Zr
 simp only [aA, sr]
end
end Pk
namespace Pk
open PySem PySem.Spec L2
def ZK (d : D) (K : Nat → Prop) : Prop := match d with
 | .ref n => K n
 | _ => False
def Uo (d : D) (K : Nat → List D → Prop) : Prop := match d with
 | .no c fs => K c fs
 | _ => False
section
variable {S : D → Fr → Hh → Prop} {L : Fl → Fr → Hh → Prop} {A : List D → Fr → Hh → Prop} {E : bh → Fr → Hh → Prop} {fr : Fr} {h : Hh} {m mo mt : M D} {ma : M (List D)} {t : M Bool} {b : M Fl} {i j n : Nat}
theorem gq {K : Nat → Prop} : ZK (.ref n) K = K n := by unfold ZK; rfl
theorem mG {c : Nat} {fs : List D} {K : Nat → List D → Prop} : Uo (.no c fs) K = K c fs := by unfold Uo; rfl
theorem cG {ix : Nat → Option Nat} {f : Int → Int → Int} : Wp (Bp j ix f m fr h) L E = Sl fr[j]? fun x => ZK x fun n => Op h[n]? fun o => Uo o fun c fs => Op (ix c) fun i => Op fs[i]? fun y => Pg y fun a => Wp (m fr h) (fun d fr h => Pg d fun b => Op h[n]? fun o => Uo o fun c' fs' => c' = c ∧ Op (xj i (.int (f a b)) fs') fun fs'' => L .nx fr (h.set n (.no c fs''))) E := by
 show Wq (Bp j ix f m fr h) L E = Sq fr[j]? fun x => ZK x fun n => Oq h[n]? fun o => Uo o fun c fs => Oq (ix c) fun i => Oq fs[i]? fun y => Pg y fun a => Wq (m fr h) (fun d fr h => Pg d fun b => Oq h[n]? fun o => Uo o fun c' fs' => c' = c ∧ Oq (xj i (.int (f a b)) fs') fun fs'' => L .nx fr (h.set n (.no c fs''))) E
 unfold Bp
 cases fr[j]? with
 | none => exact bj
 | some o =>
   cases o with
   | none => exact bj.trans Ld.symm
   | some x =>
     rw [BK]
     unfold ZK
     cases x with
     | ref n =>
       dsimp only
       cases h[n]? with
       | none => exact bj
       | some o =>
         rw [rH]
         unfold Uo
         cases o with
         | no c fs =>
           dsimp only
           cases ix c with
           | none => exact bj
           | some i =>
             rw [rH]
             dsimp only
             cases fs[i]? with
             | none => exact bj
             | some y =>
               rw [rH]
               unfold Pg
               cases y with
               | int a =>
                 dsimp only
                 rw [aA]
                 congr 1
                 funext d fr h
                 cases d with
                 | int b =>
                   dsimp only
                   cases h[n]? with
                   | none => exact bj
                   | some o =>
                     rw [rH]
                     cases o with
                     | no c' fs' =>
                       dsimp only
                       by_cases hc : c' = c
                       · rw [if_pos hc]
                         cases xj i (.int (f a b)) fs' with
                         | none => exact bj.trans (eq_iff_iff.mpr ⟨False.elim, fun z => z.2⟩)
                         | some fs'' => exact wG.trans (eq_iff_iff.mpr ⟨fun z => ⟨hc, z⟩, fun z => z.2⟩)
                       · rw [if_neg hc]
                         exact bj.trans (eq_iff_iff.mpr ⟨False.elim, fun z => hc z.1⟩)
                     | _ => exact bj
                 | _ => exact bj
               | _ => exact bj
         | _ => exact bj
     | _ => exact bj
theorem mH : Wp (Vf i m fr h) S E = Wp (mO i wj fr h) (fun _ fr h => Wp (m fr h) (fun d fr h => Wp (mO i (Zt d) fr h) (fun _ fr h => S .non fr h) E) E) E := by
 show Wq (Vf i m fr h) S E = Wq (mO i wj fr h) (fun _ fr h => Wq (m fr h) (fun d fr h => Wq (mO i (Zt d) fr h) (fun _ fr h => S .non fr h) E) E) E
 unfold Vf
 simp only [aA, tY]
theorem gA {mtb : Nat → Option Fn} : Wp (rO mtb mo ma fr h) S E = Wp (mo fr h) (fun o fr h => Op (fnOf mtb h o) fun F => Wp (ma fr h) (fun ds fr h => ds.length ≤ big ∧ Wp (F [o, .tup ds] h) (fun d _ h => S d fr h) (fun x _ h => E x fr h)) E) E := by
 show Wq (rO mtb mo ma fr h) S E = Wq (mo fr h) (fun o fr h => Oq (fnOf mtb h o) fun F => Wq (ma fr h) (fun ds fr h => ds.length ≤ big ∧ Wq (F [o, .tup ds] h) (fun d _ h => S d fr h) (fun x _ h => E x fr h)) E) E
 unfold rO
 rw [aA]
 congr 1
 funext o fr h
 cases fnOf mtb h o with
 | none => exact bj
 | some F =>
   rw [rH]
   dsimp only
   rw [aA]
   congr 1
   funext ds fr h
   by_cases hb : ds.length ≤ big
   · rw [if_pos hb]
     cases F [o, .tup ds] h with
     | ok d fr' h' => exact eq_iff_iff.mpr ⟨fun z => ⟨hb, z⟩, fun z => z.2⟩
     | exc x fr' h' => exact eq_iff_iff.mpr ⟨fun z => ⟨hb, z⟩, fun z => z.2⟩
     | err => exact eq_iff_iff.mpr ⟨fun z => z.elim, fun z => z.2⟩
   · rw [if_neg hb]
     exact bj.trans (eq_iff_iff.mpr ⟨False.elim, fun z => hb z.1⟩)
theorem rB : Wp (Ah m ma fr h) A E = Wp (m fr h) (fun d fr h => Op (d.its h) fun l => Wp (ma fr h) (fun r fr h => A (l ++ r) fr h) E) E := by
 show Wq (Ah m ma fr h) A E = Wq (m fr h) (fun d fr h => Oq (d.its h) fun l => Wq (ma fr h) (fun r fr h => A (l ++ r) fr h) E) E
 unfold Ah
 rw [aA]
 congr 1
 funext d fr h
 cases d.its h with
 | none => exact bj
 | some l =>
   rw [rH]
   dsimp only
   simp only [aA, tY]
theorem gG : Wp (Ml m ma fr h) A E = Wp (m fr h) (fun d fr h => Wp (ma fr h) (fun r fr h => A (d :: r) fr h) E) E := by
 show Wq (Ml m ma fr h) A E = Wq (m fr h) (fun d fr h => Wq (ma fr h) (fun r fr h => A (d :: r) fr h) E) E
 unfold Ml
 simp only [aA, tY]
def Vi (f : Fl) (again : Prop) (out : Fl → Prop) : Prop := match f with
 | .nx => again
 | .ct => again
 | .brk => out .nx
 | .rt d => out (.rt d)
theorem nj {p : Prop} {o : Fl → Prop} : Vi .nx p o = p := rfl
theorem nU {p : Prop} {o : Fl → Prop} : Vi .ct p o = p := rfl
theorem iy {p : Prop} {o : Fl → Prop} : Vi .brk p o = o .nx := rfl
theorem nW {p : Prop} {o : Fl → Prop} {d : D} : Vi (.rt d) p o = o (.rt d) := rfl
theorem acO : Wp (yw t b (n + 1) fr h) L E = Wp (t fr h) (fun c fr h => if c then Wp (b fr h) (fun f fr h => Vi f (Wp (yw t b n fr h) L E) fun f => L f fr h) E else L .nx fr h) E := by
 show Wq (yw t b (n + 1) fr h) L E = Wq (t fr h) (fun c fr h => if c then Wq (b fr h) (fun f fr h => Vi f (Wq (yw t b n fr h) L E) fun f => L f fr h) E else L .nx fr h) E
 rw [yw]
 dsimp only
 cases t fr h with
 | ok c fr h =>
   cases c with
   | true =>
     rw [wG]
     dsimp only
     rw [if_pos rfl]
     cases b fr h with
     | ok f fr h => cases f <;> rfl
     | exc x fr h => rfl
     | err => rfl
   | false => rfl
 | exc x fr h => rfl
 | err => rfl
theorem abQ {f : Hh → D → D → Option Bool} : Wp (zB i f m mt b (n + 1) fr h) L E = Wp (m fr h) (fun d fr h => Bx (fr.set i (some d)) fun fr => Wp (mt fr h) (fun y fr h => Op (f h d y) fun c => if c then Wp (b fr h) (fun g fr h => Vi g (Wp (zB i f m mt b n fr h) L E) fun g => L g fr h) E else L .nx fr h) E) E := by
 show Wq (zB i f m mt b (n + 1) fr h) L E = Wq (m fr h) (fun d fr h => Bq (fr.set i (some d)) fun fr => Wq (mt fr h) (fun y fr h => Oq (f h d y) fun c => if c then Wq (b fr h) (fun g fr h => Vi g (Wq (zB i f m mt b n fr h) L E) fun g => L g fr h) E else L .nx fr h) E) E
 rw [zB, aA]
 congr 1
 funext d fr h
 show Wq ((mt.bind _) (fr.set i (some d)) h) L E = Wq (mt (fr.set i (some d)) h) _ E
 rw [aA]
 congr 1
 funext y fr h
 cases f h d y with
 | none => exact bj
 | some c =>
   rw [rH]
   cases c with
   | true =>
     dsimp only
     rw [if_pos rfl]
     cases b fr h with
     | ok g fr h => cases g <;> rfl
     | exc x fr h => rfl
     | err => rfl
   | false => rfl
end
end Pk
namespace L
open PySem PySem.Spec L2 Pk
noncomputable section
def fld : Nat → List Str
 | 0 => ["readings", "words", "places", "spot"]
 | 1 => ["readings", "node"]
 | _ => []
abbrev T (K : PySem.W.Frag) : Tb := Tbo cn fld K
def tQ : Nat → Option Nat := fun c => aja c [(0, 0), (1, 0)]
def Br : Nat → Option Nat := fun c => aja c [(1, 1)]
def xU : Nat → Option Nat := fun c => aja c [(0, 1)]
def zf : Nat → Option Nat := fun c => aja c [(0, 2)]
def wV : Nat → Option Nat := fun c => aja c [(0, 3)]
def QR : Tg → Tg → Option Bool := abn [((.b "NoneType", .o 1), false), ((.b "bool", .o 1), false), ((.b "int", .o 1), false), ((.b "str", .o 1), false), ((.b "tuple", .o 1), false), ((.b "list", .o 1), false), ((.o 0, .b "bool"), false), ((.o 0, .b "int"), false), ((.o 0, .b "str"), false), ((.o 0, .b "tuple"), false), ((.o 0, .b "list"), false), ((.o 0, .o 1), false), ((.o 1, .b "bool"), false), ((.o 1, .b "int"), false), ((.o 1, .b "str"), false), ((.o 1, .b "tuple"), false), ((.o 1, .b "list"), false), ((.o 1, .o 1), true)]
def ah2 : Tg → Tg → Option Bool := ahK []
def yZ : List D := [.str "first", .str "last", .str "change", .str "rises"]
def Dd : List D := [.str "first", .str "last", .str "top", .str "low", .str "change", .str "rises", .str "told"]
def QS : List D := [.str "raw", .str "zero", .str "held"]
def Vj : List D := [.str "zero", .str "held"]
def BP : M Fl :=
    (aC (cP 3 (BW (bf cGe (mQ Od (ak 2)) (bf aa7 (mC (.int 10)) (mC (.int 18)))) (mQ Od (ak 2)) (mC (.int 0))))
    (gK (vq [(ak 3), (mJ (bf tV (mJ (bf tV (bf V6 (mQ yq (ak 2)) (mC (.int 2147483629))) (bf aa6 (mC (.int 15485863)) (ak 1)))) (mC (.int 7919)))), (mC (.int 0))])))
def Ca : M Fl :=
    (aC (cP 2 (BW (bf O7 (ak 1) (mQ vh (iz 0))) (gH 0 (ak 1) gJ) (mC (.int 0))))
    BP)
def xH : Fn := tR 4 Ca
def Ir : M Fl :=
    (aC (cP 3 (bf V6 (mQ yq (bf aa7 (mJ (bf tV (ak 3) (bf aa6 (mC (.int 49979687)) (gH 0 (mC (.int 2)) gJ)))) (mC (.int 2)))) (mC (.int 2305843009213693951))))
    (gK (bf V6 (mQ yq (bf ac3 (ak 3) (mC (.int 4096)))) (ak 1))))
def Iu : M Fl :=
    (aC (cP 3 (bf V6 (mQ yq (bf aa7 (mJ (bf tV (gH 0 (mC (.int 1)) gJ) (bf aa6 (mC (.int 32452843)) (gH 0 (mC (.int 2)) gJ)))) (mC (.int 3)))) (mC (.int 2305843009213693921))))
    Ir)
def Iv : M Fl :=
    (aC (LQ 0 (mJ (bf tV (gH 0 (mC (.int 2)) gJ) (mC (.int 1)))) (mC (.int 2)))
    Iu)
def Ji : M Fl :=
    (aC (tO (bf cGt (gH 0 (mC (.int 0)) gJ) (mC (.int 0)))
    (aC (cP 2 (bf V6 (mQ yq (gH 0 (mC (.int 0)) gJ)) (ak 1)))
    (aC (LQ 0 (bf ac3 (gH 0 (mC (.int 0)) gJ) (ak 1)) (mC (.int 0)))
    (gK (za 2))))
    (M.ret .nx))
    Iv)
def vG : Fn := tR 4 Ji
def QT : M Fl :=
    (gK (gH 1 (mJ (cJ 2 0 vG (aK []) (aj [(ak 0), (mQ vh (iz 1))]) (aj []))) gJ))
def v7 : Fn := tR 2 QT
def Ds : M Fl :=
    (aC (cP 5 (cJ 2 0 v7 (aK []) (aj [(ak 0), (mJ (vq [(mC (.str "first")), (mC (.str "last")), (mC (.str "top")), (mC (.str "low")), (mC (.str "change")), (mC (.str "rises")), (mC (.str "rises")), (mC (.str "told"))]))]) (aj [])))
    (gK (oh [(mC (.str "each")), (ak 5), (mJ (BW (bf uE (ak 5) (mC (.str "told"))) (mC (.str "raw")) (cJ 2 0 v7 (aK []) (aj [(ak 0), (mJ (vq [(mC (.str "raw")), (mC (.str "zero")), (mC (.str "held"))]))]) (aj [])))), (ak 2), (ak 3)])))
def Dt : M Fl :=
    (aC (tO (bf O7 (ak 4) (mC (.int 3)))
    (aC (cP 5 (cJ 2 0 v7 (aK []) (aj [(ak 0), (mJ (vq [(mC (.str "first")), (mC (.str "last")), (mC (.str "change")), (mC (.str "rises")), (mC (.str "rises"))]))]) (aj [])))
    (gK (oh [(mC (.str "all")), (ak 5), (mJ (cJ 2 0 v7 (aK []) (aj [(ak 0), (mJ (vq [(mC (.str "zero")), (mC (.str "held"))]))]) (aj []))), (ak 2), (ak 3)])))
    (M.ret .nx))
    Ds)
def Du : M Fl :=
    (aC (tO (bf uE (ak 4) (mC (.int 0)))
    (gK (oh [(mC (.str "events")), (ak 2), (ak 3)]))
    (M.ret .nx))
    Dt)
def Dy : M Fl :=
    (aC (cP 4 (cJ 2 0 vG (aK []) (aj [(ak 0), (mC (.int 5))]) (aj [])))
    Du)
def Dz : M Fl :=
    (aC (cP 3 (cJ 2 0 v7 (aK []) (aj [(ak 0), (mJ (vq [(ak 1), (mJ (bf tV (mJ (bf tV (ak 2) (mC (.int 1)))) (mJ (cJ 2 0 vG (aK []) (aj [(ak 0), (bf Yj (ak 1) (ak 2))]) (aj [])))))]))]) (aj [])))
    Dy)
def Ff : M Fl :=
    (aC (cP 2 (cJ 2 0 v7 (aK []) (aj [(ak 0), (mJ (vq [(mC (.int 0)), (mC (.int 0)), (mJ (cJ 2 0 vG (aK []) (aj [(ak 0), (ak 1)]) (aj [])))]))]) (aj [])))
    Dz)
def Cr : Fn := tR 6 Ff
def zF : M Fl :=
    (aC (xG 0 tQ (ak 1))
    (xG 0 Br (ak 2)))
def wL : Fn := runI 1 3 zF
def Ce : M Fl :=
    (Oz 2 (fun i j => i + j) (mC (.int 1)))
def FW : M Fl :=
    (tO (bf Aj (gH 0 (ak 1) gJ) (iz 3))
    (yw (Mw (bf O7 (ak 2) (mQ vh (iz 0))) (bf Aj (gH 0 (ak 2) gJ) (iz 3))) Ce 60)
    (M.ret .nx))
def FZ : M Fl :=
    (aC (Fy (Jr (oh [(mC (.str "abcdefghijklmnopqrstuvwxyz")), (mC (.str "0123456789"))])) (wg 3) FW)
    (gK (za 2)))
def Hl : M Fl :=
    (aC (cP 2 (bf tV (ak 1) (mC (.int 1))))
    FZ)
def BR : Fn := tR 4 Hl
def yH : M Fl :=
    (aC (tO (bf uE (gH 1 (ak 3) gJ) (mC (.str " ")))
    (aC (Oz 3 (fun i j => i + j) (mC (.int 1)))
    (M.ret .ct))
    (M.ret .nx))
    (aC (cP 4 (cJ 2 0 BR (aK []) (aj [(ak 1), (ak 3)]) (aj [])))
    (aC (su (Jg (mQ (ug xU) (iz 0)) (mJ (gH 1 (Lz (UJ (ak 3)) (UJ (ak 4))) zR))))
    (aC (su (Jg (mQ (ug zf) (iz 0)) (ak 3)))
    (cP 3 (ak 4))))))
def yI : M Fl :=
    (aC (yw (bf O7 (ak 3) (mQ vh (iz 1))) yH 60)
    (su (Jg (mQ (ug zf) (iz 0)) (mQ vh (iz 1)))))
def yJ : M Fl :=
    (aC (cP 3 (mC (.int 0)))
    yI)
def yK : M Fl :=
    (aC (xG 0 wV (mC (.int 0)))
    yJ)
def yL : M Fl :=
    (aC (xG 0 zf (FJ (vq [])))
    yK)
def yM : M Fl :=
    (aC (xG 0 xU (FJ (vq [])))
    yL)
def yz : M Fl :=
    (aC (xG 0 tQ (ak 2))
    yM)
def wW : Fn := tR 5 yz
def yC : M Fl :=
    (gK (BW (bf O7 (mQ (ug wV) (iz 0)) (mQ vh (mQ (ug xU) (iz 0)))) (bf gJ (mQ (ug xU) (iz 0)) (mQ (ug wV) (iz 0))) (mC (.str ""))))
def wX : Fn := tR 1 yC
def t7 : Nat → Option Fn := fun c => aja c [(0, wX)]
def zY : M Fl :=
    (aC (Bp 0 wV (fun i j => i + j) (mC (.int 1)))
    (gK (mC (.bl true))))
def z7 : M Fl :=
    (aC (tO (bf Ey (mJ (tX 0 0 t7 (aK []) (ak 0) (aj []) (aj []))) (iz 1))
    (gK (mC (.bl false)))
    (M.ret .nx))
    zY)
def yN : Fn := tR 2 z7
def wY : M Fl :=
    (gK (Oc (bf (fun h x y => (Ey h x y).map .bl) (mJ (tX 0 0 t7 (aK []) (ak 0) (aj []) (aj []))) (mC (.str ""))) (bf (fun h x y => (Aj h x y).map .bl) (bf gJ (mJ (tX 0 0 t7 (aK []) (ak 0) (aj []) (aj []))) (mC (.int 0))) (mC (.str "0123456789")))))
def vZ : Fn := tR 1 wY
def NQ : M Fl :=
    (fun _ _ => .err)
def Iw : Fn := tR 1 NQ
def DG : Nat → Option Fn := fun c => aja c [(0, Iw)]
def Am : M Fl :=
    (aC (Bp 0 wV (fun i j => i + j) (mC (.int 1)))
    (gK (za 2)))
def Ao : M Fl :=
    (aC (tO (bf Qm (ak 2) (iz 1))
    (su (tX 0 0 DG (aK []) (ak 0) (aj []) (aj [])))
    (M.ret .nx))
    Am)
def Bt : M Fl :=
    (aC (cP 2 (tX 0 0 t7 (aK []) (ak 0) (aj []) (aj [])))
    Ao)
def zE : Fn := tR 3 Bt
def zK : M Fl :=
    (aC (Bp 0 wV (fun i j => i + j) (mC (.int 1)))
    (gK (mQ yq (ak 3))))
def zL : M Fl :=
    (aC (tO (O8 (bf cGt (mQ vh (iz 3)) (mC (.int 7))) (O8 (Mw (bf uE (gH 3 (mC (.int 0)) gJ) (mC (.str "0"))) (bf cGt (mQ vh (iz 3)) (mC (.int 1)))) (Kw (Np cLe cLe (ak 1) (mQ yq (ak 3)) (ak 2)))))
    (su (tX 0 0 DG (aK []) (ak 0) (aj []) (aj [])))
    (M.ret .nx))
    zK)
def zG : M Fl :=
    (aC (cP 3 (tX 0 0 t7 (aK []) (ak 0) (aj []) (aj [])))
    zL)
def xV : Fn := tR 4 zG
def zH : Nat → Option Fn := fun c => aja c [(0, yN)]
def wk : Nat → Option Fn := fun c => aja c [(0, vZ)]
def z8 : Nat → Option Fn := fun c => aja c [(0, xV)]
def rF : Nat → Option Fn := fun c => aja c [(0, zE)]
def CJ : M Fl :=
    (aC (tO (mQ D.tru (tX 1 0 zH (aK []) (ak 0) (aj [(mC (.str "["))]) (aj [])))
    (aC (tO (mQ D.tru (tX 0 0 wk (aK []) (ak 0) (aj []) (aj [])))
    (cP 1 (tX 2 0 z8 (aK []) (ak 0) (aj [(mC (.int 0)), (bf Yj (mQ (ug tQ) (iz 0)) (mC (.int 1)))]) (aj [])))
    (M.ret .nx))
    (aC (su (rO rF (ak 0) (aj [(mC (.str ":"))])))
    (aC (tO (mQ D.tru (tX 0 0 wk (aK []) (ak 0) (aj []) (aj [])))
    (cP 2 (tX 2 0 z8 (aK []) (ak 0) (aj [(mJ (bf tV (ak 1) (mC (.int 1)))), (mQ (ug tQ) (iz 0))]) (aj [])))
    (M.ret .nx))
    (su (rO rF (ak 0) (aj [(mC (.str "]"))]))))))
    (M.ret .nx))
    (gK (oh [(ak 1), (ak 2)])))
def CK : M Fl :=
    (aC (cP 2 (mQ (ug tQ) (iz 0)))
    CJ)
def De : M Fl :=
    (aC (cP 1 (mC (.int 0)))
    CK)
def xF : Fn := tR 3 De
def Aq : M Fl :=
    (aC (su (rO rF (ak 0) (aj [(mC (.str ")"))])))
    (gK (oh [(mC (.str "leaf")), (ak 1), (ak 2), (ak 4), (ak 5), (ak 6)])))
def Ar : M Fl :=
    (aC (su (rO rF (ak 0) (aj [(mC (.str ")"))])))
    Aq)
def Av : M Fl :=
    (aC (Qn (mJ (cJ 1 0 xF (aK []) (aj [(ak 0)]) (aj []))) (LC 2 (BX (wg 5) (BX (wg 6) Oe))))
    Ar)
def Bu : M Fl :=
    (aC (cP 4 (rO rF (ak 0) (Ah (ak 3) (aj []))))
    Av)
def wZ : Fn := tR 7 Bu
def DK : M Fl :=
    (aC (cP 5 (BW (bf uE (ak 4) (mC (.str "told"))) (oh [(mC (.str "raw"))]) (oh [(mC (.str "raw")), (mC (.str "zero")), (mC (.str "held"))])))
    (gK (cJ 4 0 wZ (aK []) (aj [(ak 0), (mC (.str "each")), (ak 4), (ak 5)]) (aj []))))
def DN : M Fl :=
    (aC (su (rO rF (ak 0) (aj [(mC (.str "("))])))
    DK)
def DP : M Fl :=
    (aC (cP 4 (rO rF (ak 0) (Ah (mC (.tup Dd)) (aj []))))
    DN)
def DQ : M Fl :=
    (aC (tO (bf Ey (ak 1) (mC (.str "sum")))
    (aC (su (rO rF (ak 0) (aj [(mC (.str "sum"))])))
    (aC (su (rO rF (ak 0) (aj [(mC (.str "("))])))
    (gK (cJ 4 0 wZ (aK []) (aj [(ak 0), (mC (.str "all")), (ak 1), (oh [(mC (.str "zero")), (mC (.str "held"))])]) (aj [])))))
    (M.ret .nx))
    DP)
def DR : M Fl :=
    (aC (su (rO rF (ak 0) (aj [(mC (.str "("))])))
    DQ)
def DW : M Fl :=
    (aC (tO (bf uE (ak 1) (mC (.str "events")))
    (aC (Qn (mJ (cJ 1 0 xF (aK []) (aj [(ak 0)]) (aj []))) (LC 2 (BX (wg 2) (BX (wg 3) Oe))))
    (gK (oh [(mC (.str "events")), (ak 2), (ak 3)])))
    (M.ret .nx))
    DR)
def Fg : M Fl :=
    (aC (cP 1 (rO rF (ak 0) (Ml (mC (.str "events")) (Ml (mC (.str "sum")) (Ah (mC (.tup yZ)) (aj []))))))
    DW)
def vH : Fn := tR 6 Fg
def DY : M Fl :=
    (aC (su (rO rF (ak 0) (aj [(mC (.str ")"))])))
    (gK (oh [(ak 2), (ak 3), (ak 4)])))
def Ea : M Fl :=
    (aC (cP 4 (fun _ _ => .err))
    DY)
def Eb : M Fl :=
    (aC (su (rO rF (ak 0) (aj [(mC (.str ","))])))
    Ea)
def Ec : M Fl :=
    (aC (cP 3 (fun _ _ => .err))
    Eb)
def Ed : M Fl :=
    (aC (su (rO rF (ak 0) (aj [(mC (.str "("))])))
    Ec)
def Eh : M Fl :=
    (aC (cP 2 (rO rF (ak 0) (aj [(mC (.str "max")), (mC (.str "min"))])))
    Ed)
def Ei : M Fl :=
    (aC (tO (bf Qm (mJ (tX 0 0 t7 (aK []) (ak 0) (aj []) (aj []))) (oh [(mC (.str "max")), (mC (.str "min"))]))
    (gK (cJ 1 0 vH (aK []) (aj [(ak 0)]) (aj [])))
    (M.ret .nx))
    Eh)
def Ek : M Fl :=
    (aC (tO (mQ D.tru (tX 1 0 zH (aK []) (ak 0) (aj [(mC (.str "abs"))]) (aj [])))
    (aC (su (rO rF (ak 0) (aj [(mC (.str "("))])))
    (aC (cP 1 (fun _ _ => .err))
    (aC (su (rO rF (ak 0) (aj [(mC (.str ")"))])))
    (gK (oh [(mC (.str "abs")), (ak 1)])))))
    (M.ret .nx))
    Ei)
def Fj : M Fl :=
    (aC (tO (mQ D.tru (tX 1 0 zH (aK []) (ak 0) (aj [(mC (.str "("))]) (aj [])))
    (aC (cP 1 (fun _ _ => .err))
    (aC (su (rO rF (ak 0) (aj [(mC (.str ")"))])))
    (gK (za 1))))
    (M.ret .nx))
    Ek)
def zg : Fn := tR 5 Fj
def Ax : M Fl :=
    (aC (cP 2 (cJ 1 0 zg (aK []) (aj [(ak 0)]) (aj [])))
    (gK (oh [(mC (.str "times")), (BW (mQ D.tru (iz 1)) (mQ (fun _ => HH) (ak 3)) (ak 3)), (ak 2)])))
def Ay : M Fl :=
    (aC (su (rO rF (ak 0) (aj [(mC (.str "*"))])))
    Ax)
def Az : M Fl :=
    (aC (cP 3 (tX 2 0 z8 (aK []) (ak 0) (aj [(mC (.int 0)), (mC (.int 1000000))]) (aj [])))
    Ay)
def Bv : M Fl :=
    (aC (tO (Kw (mQ D.tru (tX 0 0 wk (aK []) (ak 0) (aj []) (aj []))))
    (aC (cP 2 (cJ 1 0 zg (aK []) (aj [(ak 0)]) (aj [])))
    (gK (BW (mQ D.tru (iz 1)) (oh [(mC (.str "times")), (mQ (fun _ => HH) (mC (.int 1))), (ak 2)]) (ak 2))))
    (M.ret .nx))
    Az)
def xf : Fn := tR 4 Bv
def El : M Fl :=
    (aC (su (rO rF (ak 0) (aj [(ak 2)])))
    (cP 1 (oh [(BW (bf uE (ak 2) (mC (.str "+"))) (mC (.str "plus")) (mC (.str "minus"))), (ak 1), (mJ (cJ 2 0 xf (aK []) (aj [(ak 0), (mC (.bl false))]) (aj [])))])))
def En : M Fl :=
    (aC (zB 2 Aj (mJ (tX 0 0 t7 (aK []) (ak 0) (aj []) (aj []))) (oh [(mC (.str "+")), (mC (.str "-"))]) El 60)
    (gK (za 1)))
def Fo : M Fl :=
    (aC (cP 1 (cJ 2 0 xf (aK []) (aj [(ak 0), (mJ (tX 1 0 zH (aK []) (ak 0) (aj [(mC (.str "-"))]) (aj [])))]) (aj [])))
    En)
def Ai : Fn := tR 3 Fo
def J5 : M Fl :=
    (aC (tO (bf Ey (mJ (tX 0 0 t7 (aK []) (ak 2) (aj []) (aj []))) (mC (.str "")))
    (su (tX 0 0 DG (aK []) (ak 2) (aj []) (aj [])))
    (M.ret .nx))
    (gK (za 3)))
def J8 : M Fl :=
    (aC (cP 3 (cJ 1 0 Ai (aK []) (aj [(ak 2)]) (aj [])))
    J5)
def NT : M Fl :=
    (aC (cP 2 (NP 0 2 0 wW (aK []) (aj [(ak 0), (ak 1)]) (aj [])))
    J8)
def Ko : Fn := tR 4 NT
def Df : M Fl :=
    (gK (cJ 2 0 wL (aK []) (aj [(ak 2), (mJ (cJ 2 0 Ko (aK []) (aj [(ak 1), (ak 2)]) (aj [])))]) (aj [])))
def zJ : Fn := tR 3 Df
def zM : M Fl :=
    (aC (tO (bf uE (gH 0 (mC (.int 0)) gJ) (mC (.str "each")))
    (gK (bf tV (mJ (bf tV (mJ (bf tV (mJ (bf tV (mJ (bf tV (mC (.str "sum(")) (gH 0 (mC (.int 1)) gJ))) (mC (.str "(")))) (gH 0 (mC (.int 2)) gJ))) (ak 1))) (mC (.str "))"))))
    (M.ret .nx))
    (gK (bf tV (mJ (bf tV (mJ (bf tV (mJ (bf tV (gH 0 (mC (.int 1)) gJ) (mC (.str "(sum(")))) (gH 0 (mC (.int 2)) gJ))) (ak 1))) (mC (.str "))")))))
def zN : M Fl :=
    (aC (tO (bf uE (gH 0 (mC (.int 0)) gJ) (mC (.str "events")))
    (gK (bf tV (mC (.str "events")) (ak 1)))
    (M.ret .nx))
    zM)
def BV : M Fl :=
    (aC (cP 1 (bf tV (mJ (bf tV (mJ (bf tV (mJ (bf tV (mC (.str "[")) (mQ R5 (gH 0 (mQ (fun _ => HH) (mC (.int 2))) gJ)))) (mC (.str ":")))) (mQ R5 (gH 0 (mQ (fun _ => HH) (mC (.int 1))) gJ)))) (mC (.str "]"))))
    zN)
def uL : Fn := tR 2 BV
def QV : D → M Unit :=
    (wg 5)
def QW : M Bool :=
    (M.ret true)
def QX : M D :=
    (oh [(mC (.str "leaf")), (mC (.str "each")), (ak 1), (ak 5), (ak 2), (ak 3)])
def QZ : D → M Unit :=
    (wg 5)
def Q3 : M Bool :=
    (M.ret true)
def Q4 : M D :=
    (oh [(mC (.str "leaf")), (mC (.str "all")), (ak 1), (ak 5), (ak 2), (ak 3)])
def Q5 : M Fl :=
    (aC (tO (bf Qm (ak 1) (oh [(mC (.str "top")), (mC (.str "low"))]))
    (su (Vf 4 (mJ (Jt [5] (Jr (mC (.tup Vj))) QZ Q3 Q4))))
    (M.ret .nx))
    (gK (za 4)))
def Q6 : M Fl :=
    (aC (tO (bf uE (ak 1) (mC (.str "rises")))
    (su (Oj 4 (oh [(mC (.str "leaf")), (mC (.str "each")), (mC (.str "told")), (mC (.str "raw")), (ak 2), (ak 3)])))
    (M.ret .nx))
    Q5)
def Q7 : M Fl :=
    (aC (cP 4 (Jt [5] (Jr (mC (.tup QS))) QV QW QX))
    Q6)
def Q8 : M Fl :=
    (aC (tO (bf uE (ak 1) (mC (.str "told")))
    (cP 1 (mC (.str "rises")))
    (M.ret .nx))
    Q7)
def Q9 : M Fl :=
    (aC (Oh [1, 2, 3] (aj [(gH 0 (mC (.int 2)) gJ), (gH 0 (mC (.int 4)) gJ), (gH 0 (mC (.int 5)) gJ)]))
    Q8)
def Mp : M Fl :=
    (aC (tO (bf uE (gH 0 (mC (.int 0)) gJ) (mC (.str "events")))
    (gK (vq [(ak 0)]))
    (M.ret .nx))
    Q9)
def Hm : Fn := tR 6 Mp
def Ge : D → M Unit :=
    (wg 1)
def Gf : M Bool :=
    (M.ret true)
def Gg : M D :=
    (mJ (cJ 2 0 wL (aK []) (aj [(mQ (ug tQ) (iz 0)), (ak 1)]) (aj [])))
def J9 : M Fl :=
    (gK (Jt [1] (Jr (mJ (cJ 1 0 Hm (aK []) (aj [(mQ (ug Br) (iz 0))]) (aj [])))) Ge Gf Gg))
def Eo : Fn := tR 2 J9
def Vk : M Fl :=
    (aC (tO (bf uE (gH 0 (mC (.int 1)) gJ) (mC (.str "each")))
    (gK (BJ [(mC (.str "sum(")), (yX (gH 0 (mC (.int 2)) gJ)), (mC (.str "(")), (yX (ak 1)), (mC (.str "))"))]))
    (M.ret .nx))
    (gK (BJ [(yX (gH 0 (mC (.int 2)) gJ)), (mC (.str "(sum(")), (yX (ak 1)), (mC (.str "))"))])))
def Vl : M Fl :=
    (aC (cP 1 (BJ [(yX (gH 0 (mC (.int 3)) gJ)), (mC (.str "[")), (yX (gH 0 (mC (.int 4)) gJ)), (mC (.str ":")), (yX (gH 0 (mC (.int 5)) gJ)), (mC (.str "]"))]))
    Vk)
def Ra : M Fl :=
    (aC (tO (bf uE (gH 0 (mC (.int 0)) gJ) (mC (.str "events")))
    (gK (BJ [(mC (.str "events[")), (yX (gH 0 (mC (.int 1)) gJ)), (mC (.str ":")), (yX (gH 0 (mC (.int 2)) gJ)), (mC (.str "]"))]))
    (M.ret .nx))
    Vl)
def Rb : Fn := tR 2 Ra
def Jj (R : Fn) : M Fl :=
    (aC (cP 2 (cJ 1 0 R (aK []) (aj [(ak 0)]) (aj [])))
    (gK (BW (bf Aj (gH 0 (mC (.int 0)) gJ) (iz 1)) (BJ [(mC (.str "(")), (yX (ak 2)), (mC (.str ")"))]) (ak 2))))
def Nb (R : Fn) : Fn := tR 3 (Jj R)
def abR (R : Fn) : M Fl :=
    (aC (tO (Mw (bf uE (bf gJ (gH 0 (mC (.int 2)) gJ) (mC (.int 0))) (mC (.str "times"))) (bf O7 (bf gJ (gH 0 (mC (.int 2)) gJ) (mC (.int 1))) (mC (.int 0))))
    (cP 3 (oh [(mC (.str "times"))]))
    (M.ret .nx))
    (gK (BJ [(yX (mJ (cJ 1 0 R (aK []) (aj [(gH 0 (mC (.int 1)) gJ)]) (aj [])))), (mC (.str " ")), (yX (ak 2)), (mC (.str " ")), (yX (mJ (cJ 2 0 (Nb R) (aK []) (aj [(gH 0 (mC (.int 2)) gJ), (ak 3)]) (aj []))))])))
def abS (R : Fn) : M Fl :=
    (aC (cP 3 (oh [(mC (.str "plus")), (mC (.str "minus"))]))
    (abR R))
def abT (R : Fn) : M Fl :=
    (aC (cP 2 (BW (bf uE (gH 0 (mC (.int 0)) gJ) (mC (.str "plus"))) (mC (.str "+")) (mC (.str "-"))))
    (abS R))
def aaX (R : Fn) : M Fl :=
    (aC (QJ (gH 0 (mC (.int 0)) gJ) (Dc [(["events", "leaf"], (gK (cJ 1 0 Rb (aK []) (aj [(ak 0)]) (aj [])))), (["abs"], (gK (BJ [(mC (.str "abs(")), (yX (mJ (cJ 1 0 R (aK []) (aj [(gH 0 (mC (.int 1)) gJ)]) (aj [])))), (mC (.str ")"))]))), (["max", "min"], (gK (BJ [(yX (gH 0 (mC (.int 0)) gJ)), (mC (.str "(")), (yX (mJ (cJ 1 0 R (aK []) (aj [(gH 0 (mC (.int 1)) gJ)]) (aj [])))), (mC (.str ", ")), (yX (mJ (cJ 1 0 R (aK []) (aj [(gH 0 (mC (.int 2)) gJ)]) (aj [])))), (mC (.str ")"))]))), (["times"], (aC (cP 1 (cJ 2 0 (Nb R) (aK []) (aj [(gH 0 (mC (.int 2)) gJ), (oh [(mC (.str "plus")), (mC (.str "minus")), (mC (.str "times"))])]) (aj [])))
    (gK (BW (bf uE (gH 0 (mC (.int 1)) gJ) (mQ (fun _ => HH) (mC (.int 1)))) (BJ [(mC (.str "-")), (yX (ak 1))]) (BJ [(yX (gH 0 (mC (.int 1)) gJ)), (mC (.str " * ")), (yX (ak 1))])))))]))
    (abT R))
def Uq : Nat → Fn
 | 0 => tR 4 (fun _ _ => .err)
 | j + 1 => tR 4 (aaX (Uq j))
def Wu : Fn := Uq 1
def Hn : M Fl :=
    (gK (cJ 1 0 Wu (aK []) (aj [(mQ (ug Br) (iz 0))]) (aj [])))
def Bw : Fn := tR 1 Hn
def z9 : D → M Unit :=
    (wg 5)
def Aa : M Bool :=
    (M.ret true)
def Ab : M D :=
    (mJ (bf tV (ak 5) (oh [(ak 2), (ak 3)])))
def Ac : M Fl :=
    (aC (tO (bf Aj (ak 1) (oh [(mC (.str "rises")), (mC (.str "told"))]))
    (aC (cP 4 (vq [(oh [(mC (.str "each")), (mC (.str "rises")), (mC (.str "raw"))]), (oh [(mC (.str "each")), (mC (.str "rises")), (mC (.str "zero"))]), (oh [(mC (.str "each")), (mC (.str "rises")), (mC (.str "held"))]), (oh [(mC (.str "each")), (mC (.str "told")), (mC (.str "raw"))])]))
    (cP 4 (bf tV (ak 4) (mJ (vq [(oh [(mC (.str "all")), (mC (.str "rises")), (mC (.str "zero"))]), (oh [(mC (.str "all")), (mC (.str "rises")), (mC (.str "held"))])])))))
    (tO (bf Aj (ak 1) (oh [(mC (.str "top")), (mC (.str "low"))]))
    (cP 4 (vq [(oh [(mC (.str "each")), (ak 1), (mC (.str "raw"))]), (oh [(mC (.str "each")), (ak 1), (mC (.str "zero"))]), (oh [(mC (.str "each")), (ak 1), (mC (.str "held"))])]))
    (aC (cP 4 (vq [(oh [(mC (.str "each")), (ak 1), (mC (.str "raw"))]), (oh [(mC (.str "each")), (ak 1), (mC (.str "zero"))]), (oh [(mC (.str "each")), (ak 1), (mC (.str "held"))])]))
    (cP 4 (bf tV (ak 4) (mJ (vq [(oh [(mC (.str "all")), (ak 1), (mC (.str "zero"))]), (oh [(mC (.str "all")), (ak 1), (mC (.str "held"))])])))))))
    (gK (Jt [5] (Jr (ak 4)) z9 Aa Ab)))
def Ad : M Fl :=
    (aC (Oh [1, 2, 3] (aj [(gH 0 (mC (.int 1)) gJ), (gH 0 (mC (.int 3)) gJ), (gH 0 (mC (.int 4)) gJ)]))
    Ac)
def CN : M Fl :=
    (aC (tO (bf uE (gH 0 (mC (.int 0)) gJ) (mC (.str "events")))
    (gK (vq [(ak 0)]))
    (M.ret .nx))
    Ad)
def yO : Fn := tR 6 CN
def NZ : M Fl :=
    (aC (tO (Kw (mQ D.tru (bf (KD QR) (ak 1) (mC (.cls 1)))))
    (gK (mC (.bl false)))
    (M.ret .nx))
    (gK (Oc (bf (fun h x y => (uE h x y).map .bl) (mQ (ug tQ) (iz 0)) (mQ (ug tQ) (iz 1))) (bf (fun h x y => (uE h x y).map .bl) (mQ (ug Br) (iz 0)) (mQ (ug Br) (iz 1))))))
def vK : Fn := tR 2 NZ
def Iz : Nat → Option Fn := fun c => aja c [(1, Bw)]
def yP : Nat → Option Fn := fun c => aja c [(1, vK)]
def Gu : D → M Unit :=
    (wg 9)
def Gv : M Bool :=
    (M.ret true)
def Gx : M D :=
    (mJ (cJ 1 0 uL (aK []) (aj [(ak 9)]) (aj [])))
def Le : D → M Unit :=
    (wg 9)
def Lf : M Bool :=
    (M.ret true)
def Lg : M D :=
    (mJ (LR Iz (ak 9)))
def IK : D → M Unit :=
    (wg 9)
def IV : M Bool :=
    (bf Ey (mQ (ug tQ) (iz 9)) (iz 3))
def IW : M D :=
    (ak 9)
def Lh : D → M Unit :=
    (wg 9)
def Lj : M Bool :=
    (Wk (Uj yP (fun b => b)) (ak 9) (ak 5))
def Ln : M D :=
    (ak 9)
def Jk : M Fl :=
    (aC (tO (O8 (bf Ey (mJ (La [9] (M9 (ak 8)) IK IV IW)) (vq [])) (bf Ey (mQ vh (La [9] (M9 (ak 8)) Lh Lj Ln)) (mC (.int 1))))
    (gK (mC (.bl false)))
    (M.ret .nx))
    (su (Oj 8 (ak 5))))
def Jl : M Fl :=
    (aC (tO (O8 (Kw (mQ D.tru (bf (KD QR) (ak 8) (mC (.ty "list"))))) (bf Ey (mJ (La [9] (M9 (ak 8)) Le Lf Lg)) (iz 6)))
    (gK (mC (.bl false)))
    (M.ret .nx))
    Jk)
def GF : M Fl :=
    (aC (cP 8 (FJ (cJ 1 0 Eo (aK []) (aj [(ak 5)]) (aj []))))
    Jl)
def zj : M Fl :=
    (aC (Fy (Jf (mC (.int 2))) (wg 7) GF)
    (tO (bf Ey (mJ (LR Iz (ak 5))) (cJ 1 0 uL (aK []) (aj [(ak 4)]) (aj [])))
    (gK (mC (.bl false)))
    (M.ret .nx)))
def Cu : M Fl :=
    (aC (cP 6 (Jt [9] (Jr (mJ (cJ 1 0 yO (aK []) (aj [(ak 4)]) (aj [])))) Gu Gv Gx))
    zj)
def Jm : M Fl :=
    (aC (cP 5 (mCm 2 1 zJ (aj [(mJ (cJ 1 0 uL (aK []) (aj [(ak 4)]) (aj []))), (ak 3)])))
    Cu)
def Jo : M Fl :=
    (aC (cP 4 (cJ 2 0 Cr (aK []) (aj [(ak 2), (ak 3)]) (aj [])))
    Jm)
def Jp : M Fl :=
    (aC (cP 3 (bf tV (mC (.int 2)) (mJ (cJ 2 0 vG (aK []) (aj [(ak 2), (mC (.int 3))]) (aj [])))))
    Jo)
def Jy : M Fl :=
    (aC (cP 2 (FJ (cJ 2 0 xH (aK []) (aj [(ak 0), (ak 1)]) (aj []))))
    Jp)
def Vm : M Fl :=
    (aC (Fy (Jf (bf RB (mC (.int 1)) (bf RD (mC (.int 30)) (mQ vh (iz 0))))) (wg 1) Jy)
    (gK (mC (.bl true))))
def abU : Fn := tR 10 Vm
end
end L
namespace L
open PySem PySem.Spec L2 Pk
section
variable {P : Program} {w : World} {K : PySem.W.Frag} {mg : Str → Option Value} {base : Heap}
theorem Dg (c : cI K) (Y : K.In base) (G : base.Ns mainGlobals mg) : mg "_law_draw" = some (.ref (He.ga K "_law_draw")) := He.glo_ok Y G (c.fact 3 (f := .he (.glo "_law_draw")) rfl)
theorem Ep (c : cI K) (Y : K.In base) (G : base.Ns mainGlobals mg) : mg "_law_of" = some (.ref (He.ga K "_law_of")) := He.glo_ok Y G (c.fact 4 (f := .he (.glo "_law_of")) rfl)
theorem aag (c : cI K) (Y : K.In base) (G : base.Ns mainGlobals mg) : mg "word_end" = some (.ref (He.ga K "word_end")) := He.glo_ok Y G (c.fact 5 (f := .he (.glo "word_end")) rfl)
theorem Ph (c : cI K) (Y : K.In base) (G : base.Ns mainGlobals mg) : mg "read_slice" = some (.ref (He.ga K "read_slice")) := He.glo_ok Y G (c.fact 6 (f := .he (.glo "read_slice")) rfl)
theorem Mq (c : cI K) (Y : K.In base) (G : base.Ns mainGlobals mg) : mg "read_filling" = some (.ref (He.ga K "read_filling")) := He.glo_ok Y G (c.fact 7 (f := .he (.glo "read_filling")) rfl)
theorem ZL (c : cI K) (Y : K.In base) (G : base.Ns mainGlobals mg) : mg "read_leaf" = some (.ref (He.ga K "read_leaf")) := He.glo_ok Y G (c.fact 8 (f := .he (.glo "read_leaf")) rfl)
theorem Rc (c : cI K) (Y : K.In base) (G : base.Ns mainGlobals mg) : mg "read_atom" = some (.ref (He.ga K "read_atom")) := He.glo_ok Y G (c.fact 9 (f := .he (.glo "read_atom")) rfl)
theorem Mr (c : cI K) (Y : K.In base) (G : base.Ns mainGlobals mg) : mg "read_product" = some (.ref (He.ga K "read_product")) := He.glo_ok Y G (c.fact 10 (f := .he (.glo "read_product")) rfl)
theorem acP (c : cI K) (Y : K.In base) (G : base.Ns mainGlobals mg) : mg "Tokens" = some (.ref (He.ga K "Tokens")) := He.glo_ok Y G (c.fact 11 (f := .he (.glo "Tokens")) rfl)
theorem ZM (c : cI K) (Y : K.In base) (G : base.Ns mainGlobals mg) : mg "read_term" = some (.ref (He.ga K "read_term")) := He.glo_ok Y G (c.fact 12 (f := .he (.glo "read_term")) rfl)
theorem ad9 (c : cI K) (Y : K.In base) (G : base.Ns mainGlobals mg) : mg "parse" = some (.ref (He.ga K "parse")) := He.glo_ok Y G (c.fact 13 (f := .he (.glo "parse")) rfl)
theorem R9 (c : cI K) (Y : K.In base) (G : base.Ns mainGlobals mg) : mg "Term" = some (.ref (He.ga K "Term")) := He.glo_ok Y G (c.fact 14 (f := .he (.glo "Term")) rfl)
theorem Ur (c : cI K) (Y : K.In base) (G : base.Ns mainGlobals mg) : mg "variant_nodes" = some (.ref (He.ga K "variant_nodes")) := He.glo_ok Y G (c.fact 16 (f := .he (.glo "variant_nodes")) rfl)
theorem Ja (c : cI K) (Y : K.In base) (G : base.Ns mainGlobals mg) : mg "write" = some (.ref (He.ga K "write")) := He.glo_ok Y G (c.fact 17 (f := .he (.glo "write")) rfl)
theorem Xw (c : cI K) (Y : K.In base) (G : base.Ns mainGlobals mg) : mg "write_leaf" = some (.ref (He.ga K "write_leaf")) := He.glo_ok Y G (c.fact 18 (f := .he (.glo "write_leaf")) rfl)
theorem Rf (c : cI K) (Y : K.In base) (G : base.Ns mainGlobals mg) : mg "bracketed" = some (.ref (He.ga K "bracketed")) := He.glo_ok Y G (c.fact 19 (f := .he (.glo "bracketed")) rfl)
theorem Wv (c : cI K) (Y : K.In base) (G : base.Ns mainGlobals mg) : mg "_law_source" = some (.ref (He.ga K "_law_source")) := He.glo_ok Y G (c.fact 24 (f := .he (.glo "_law_source")) rfl)
theorem ZP (c : cI K) (Y : K.In base) (G : base.Ns mainGlobals mg) : mg "_law_leaf" = some (.ref (He.ga K "_law_leaf")) := He.glo_ok Y G (c.fact 25 (f := .he (.glo "_law_leaf")) rfl)
theorem Ew (c : cI K) (Y : K.In base) (G : base.Ns mainGlobals mg) : mg "_law_leaf_text" = some (.ref (He.ga K "_law_leaf_text")) := He.glo_ok Y G (c.fact 26 (f := .he (.glo "_law_leaf_text")) rfl)
theorem Us (c : cI K) (Y : K.In base) (G : base.Ns mainGlobals mg) : mg "_law_variants" = some (.ref (He.ga K "_law_variants")) := He.glo_ok Y G (c.fact 27 (f := .he (.glo "_law_variants")) rfl)
theorem aah (c : cI K) (Y : K.In base) (G : base.Ns mainGlobals mg) : mg "variants" = some (.ref (He.ga K "variants")) := He.glo_ok Y G (c.fact 28 (f := .he (.glo "variants")) rfl)
theorem Fp (c : cI K) (Y : K.In base) (G : base.Ns mainGlobals mg) : mg "len" = none := He.free_ok Y G (c.fact 0 (f := .he (.free "len")) rfl)
theorem acQ (c : cI K) (Y : K.In base) (G : base.Ns mainGlobals mg) : mg "abs" = none := He.free_ok Y G (c.fact 1 (f := .he (.free "abs")) rfl)
theorem Lp (c : cI K) (Y : K.In base) (G : base.Ns mainGlobals mg) : mg "int" = none := He.free_ok Y G (c.fact 2 (f := .he (.free "int")) rfl)
theorem acR (c : cI K) (Y : K.In base) (G : base.Ns mainGlobals mg) : mg "str" = none := He.free_ok Y G (c.fact 15 (f := .he (.free "str")) rfl)
theorem Pj (c : cI K) (Y : K.In base) (G : base.Ns mainGlobals mg) : mg "isinstance" = none := He.free_ok Y G (c.fact 20 (f := .he (.free "isinstance")) rfl)
theorem agR (c : cI K) (Y : K.In base) (G : base.Ns mainGlobals mg) : mg "min" = none := He.free_ok Y G (c.fact 21 (f := .he (.free "min")) rfl)
theorem agS (c : cI K) (Y : K.In base) (G : base.Ns mainGlobals mg) : mg "max" = none := He.free_ok Y G (c.fact 22 (f := .he (.free "max")) rfl)
theorem ZQ (c : cI K) (Y : K.In base) (G : base.Ns mainGlobals mg) : mg "range" = none := He.free_ok Y G (c.fact 23 (f := .he (.free "range")) rfl)
theorem afE (c : cI K) (Y : K.In base) (G : base.Ns mainGlobals mg) : mg "list" = none := He.free_ok Y G (c.fact 29 (f := .he (.free "list")) rfl)
theorem wH (c : cI K) {X : Cx} (hK : X.K = K) : Qq X (T K) "readings" tQ := by
 subst hK
 exact ⟨uN (Q := fun c _ => Cls X.K ((T X.K).cad c)) (.cons (He.cls_ok (c.fact 30 (f := .he (.cls "Tokens")) rfl)) (.cons (He.cls_ok (c.fact 32 (f := .he (.cls "Term")) rfl)) .nil)),
  uN (Q := fun c _ => NoAttr X.K ((T X.K).cad c) "readings") (.cons (He.noat_ok (c.fact 31 (f := .he (.noat "Tokens" "readings")) rfl)) (.cons (He.noat_ok (c.fact 33 (f := .he (.noat "Term" "readings")) rfl)) .nil)),
  uN (Q := fun c _ => ((T X.K).fld c).Nodup ∧ ((T X.K).fld c).length < 1000) (.cons ⟨(by show (fld 0).Nodup; decide +kernel), (by show (fld 0).length < 1000; decide)⟩ (.cons ⟨(by show (fld 1).Nodup; decide +kernel), (by show (fld 1).length < 1000; decide)⟩ .nil)),
  uN (Q := fun (c i : Nat) => ((T X.K).fld c)[i]? = some (("readings" : Str))) (.cons rfl (.cons rfl .nil))⟩
theorem N5 (c : cI K) {X : Cx} (hK : X.K = K) : Qq X (T K) "node" Br := by
 subst hK
 exact ⟨uN (Q := fun c _ => Cls X.K ((T X.K).cad c)) (.cons (He.cls_ok (c.fact 32 (f := .he (.cls "Term")) rfl)) .nil),
  uN (Q := fun c _ => NoAttr X.K ((T X.K).cad c) "node") (.cons (He.noat_ok (c.fact 34 (f := .he (.noat "Term" "node")) rfl)) .nil),
  uN (Q := fun c _ => ((T X.K).fld c).Nodup ∧ ((T X.K).fld c).length < 1000) (.cons ⟨(by show (fld 1).Nodup; decide +kernel), (by show (fld 1).length < 1000; decide)⟩ .nil),
  uN (Q := fun (c i : Nat) => ((T X.K).fld c)[i]? = some (("node" : Str))) (.cons rfl .nil)⟩
theorem Dh (c : cI K) {X : Cx} (hK : X.K = K) : Qq X (T K) "words" xU := by
 subst hK
 exact ⟨uN (Q := fun c _ => Cls X.K ((T X.K).cad c)) (.cons (He.cls_ok (c.fact 30 (f := .he (.cls "Tokens")) rfl)) .nil),
  uN (Q := fun c _ => NoAttr X.K ((T X.K).cad c) "words") (.cons (He.noat_ok (c.fact 35 (f := .he (.noat "Tokens" "words")) rfl)) .nil),
  uN (Q := fun c _ => ((T X.K).fld c).Nodup ∧ ((T X.K).fld c).length < 1000) (.cons ⟨(by show (fld 0).Nodup; decide +kernel), (by show (fld 0).length < 1000; decide)⟩ .nil),
  uN (Q := fun (c i : Nat) => ((T X.K).fld c)[i]? = some (("words" : Str))) (.cons rfl .nil)⟩
theorem GJ (c : cI K) {X : Cx} (hK : X.K = K) : Qq X (T K) "places" zf := by
 subst hK
 exact ⟨uN (Q := fun c _ => Cls X.K ((T X.K).cad c)) (.cons (He.cls_ok (c.fact 30 (f := .he (.cls "Tokens")) rfl)) .nil),
  uN (Q := fun c _ => NoAttr X.K ((T X.K).cad c) "places") (.cons (He.noat_ok (c.fact 36 (f := .he (.noat "Tokens" "places")) rfl)) .nil),
  uN (Q := fun c _ => ((T X.K).fld c).Nodup ∧ ((T X.K).fld c).length < 1000) (.cons ⟨(by show (fld 0).Nodup; decide +kernel), (by show (fld 0).length < 1000; decide)⟩ .nil),
  uN (Q := fun (c i : Nat) => ((T X.K).fld c)[i]? = some (("places" : Str))) (.cons rfl .nil)⟩
theorem GP (c : cI K) {X : Cx} (hK : X.K = K) : Qq X (T K) "spot" wV := by
 subst hK
 exact ⟨uN (Q := fun c _ => Cls X.K ((T X.K).cad c)) (.cons (He.cls_ok (c.fact 30 (f := .he (.cls "Tokens")) rfl)) .nil),
  uN (Q := fun c _ => NoAttr X.K ((T X.K).cad c) "spot") (.cons (He.noat_ok (c.fact 37 (f := .he (.noat "Tokens" "spot")) rfl)) .nil),
  uN (Q := fun c _ => ((T X.K).fld c).Nodup ∧ ((T X.K).fld c).length < 1000) (.cons ⟨(by show (fld 0).Nodup; decide +kernel), (by show (fld 0).length < 1000; decide)⟩ .nil),
  uN (Q := fun (c i : Nat) => ((T X.K).fld c)[i]? = some (("spot" : Str))) (.cons rfl .nil)⟩
theorem Zf (c : cI K) : Wf K (T K) QR := acA (.b (xN (c.fact 64 (f := .kit (.b "NoneType") (.o 1) false) rfl)) (.b (xN (c.fact 65 (f := .kit (.b "bool") (.o 1) false) rfl)) (.b (xN (c.fact 66 (f := .kit (.b "int") (.o 1) false) rfl)) (.b (xN (c.fact 67 (f := .kit (.b "str") (.o 1) false) rfl)) (.b (xN (c.fact 68 (f := .kit (.b "tuple") (.o 1) false) rfl)) (.b (xN (c.fact 69 (f := .kit (.b "list") (.o 1) false) rfl)) (.o (xN (c.fact 70 (f := .kit (.o 0) (.b "bool") false) rfl)) (BZ (c.fact 62 (f := .ins "Tokens") rfl)) (.o (xN (c.fact 71 (f := .kit (.o 0) (.b "int") false) rfl)) (BZ (c.fact 62 (f := .ins "Tokens") rfl)) (.o (xN (c.fact 72 (f := .kit (.o 0) (.b "str") false) rfl)) (BZ (c.fact 62 (f := .ins "Tokens") rfl)) (.o (xN (c.fact 73 (f := .kit (.o 0) (.b "tuple") false) rfl)) (BZ (c.fact 62 (f := .ins "Tokens") rfl)) (.o (xN (c.fact 74 (f := .kit (.o 0) (.b "list") false) rfl)) (BZ (c.fact 62 (f := .ins "Tokens") rfl)) (.o (xN (c.fact 75 (f := .kit (.o 0) (.o 1) false) rfl)) (BZ (c.fact 62 (f := .ins "Tokens") rfl)) (.o (xN (c.fact 76 (f := .kit (.o 1) (.b "bool") false) rfl)) (BZ (c.fact 63 (f := .ins "Term") rfl)) (.o (xN (c.fact 77 (f := .kit (.o 1) (.b "int") false) rfl)) (BZ (c.fact 63 (f := .ins "Term") rfl)) (.o (xN (c.fact 78 (f := .kit (.o 1) (.b "str") false) rfl)) (BZ (c.fact 63 (f := .ins "Term") rfl)) (.o (xN (c.fact 79 (f := .kit (.o 1) (.b "tuple") false) rfl)) (BZ (c.fact 63 (f := .ins "Term") rfl)) (.o (xN (c.fact 80 (f := .kit (.o 1) (.b "list") false) rfl)) (BZ (c.fact 63 (f := .ins "Term") rfl)) (.o (xN (c.fact 81 (f := .kit (.o 1) (.o 1) true) rfl)) (BZ (c.fact 63 (f := .ins "Term") rfl)) .nil))))))))))))))))))
theorem abV (c : cI K) (Y : K.In base) (G : base.Ns mainGlobals mg) {X : Cx} (hK : X.K = K) (hm : X.mg = mg) : Qt X (T K) "LETTERS" (.str "abcdefghijklmnopqrstuvwxyz") := by
 subst hK hm
 obtain ⟨t, e⟩ := He.str_ok Y G (c.fact 47 (f := .he (.str "LETTERS" "abcdefghijklmnopqrstuvwxyz")) rfl)
 exact ⟨_, .str "abcdefghijklmnopqrstuvwxyz", e, ⟨_, rfl⟩, .str _⟩
theorem Xl (c : cI K) (Y : K.In base) (G : base.Ns mainGlobals mg) {X : Cx} (hK : X.K = K) (hm : X.mg = mg) : Qt X (T K) "DIGITS" (.str "0123456789") := by
 subst hK hm
 obtain ⟨t, e⟩ := He.str_ok Y G (c.fact 48 (f := .he (.str "DIGITS" "0123456789")) rfl)
 exact ⟨_, .str "0123456789", e, ⟨_, rfl⟩, .str _⟩
theorem ZR (c : cI K) (Y : K.In base) (G : base.Ns mainGlobals mg) {X : Cx} (hK : X.K = K) (hm : X.mg = mg) : Qt X (T K) "OF_TOTALS" (.tup yZ) := by
 subst hK hm
 exact ⟨_, .ref (He.ga X.K "OF_TOTALS"), He.glo_ok Y G (c.fact 49 (f := .he (.glo "OF_TOTALS")) rfl), rfl, .tup (RL (c.fact 50 (f := .tup (fun K => He.ga K "OF_TOTALS") [.str "first", .str "last", .str "change", .str "rises"]) rfl) _) (.cons (.str _) (.cons (.str _) (.cons (.str _) (.cons (.str _) .nil))))⟩
theorem aai (c : cI K) (Y : K.In base) (G : base.Ns mainGlobals mg) {X : Cx} (hK : X.K = K) (hm : X.mg = mg) : Qt X (T K) "MEASURES" (.tup Dd) := by
 subst hK hm
 exact ⟨_, .ref (He.ga X.K "MEASURES"), He.glo_ok Y G (c.fact 51 (f := .he (.glo "MEASURES")) rfl), rfl, .tup (RL (c.fact 52 (f := .tup (fun K => He.ga K "MEASURES") [.str "first", .str "last", .str "top", .str "low", .str "change", .str "rises", .str "told"]) rfl) _) (.cons (.str _) (.cons (.str _) (.cons (.str _) (.cons (.str _) (.cons (.str _) (.cons (.str _) (.cons (.str _) .nil)))))))⟩
theorem afF (c : cI K) (Y : K.In base) (G : base.Ns mainGlobals mg) {X : Cx} (hK : X.K = K) (hm : X.mg = mg) : Qt X (T K) "MOST" (.int 1000000) := by
 subst hK hm
 obtain ⟨t, e⟩ := He.int_ok Y G (c.fact 53 (f := .he (.int "MOST" 1000000)) rfl)
 exact ⟨_, .int 1000000, e, ⟨_, rfl⟩, .int _⟩
theorem aaj (c : cI K) (Y : K.In base) (G : base.Ns mainGlobals mg) {X : Cx} (hK : X.K = K) (hm : X.mg = mg) : Qt X (T K) "FILLINGS" (.tup QS) := by
 subst hK hm
 exact ⟨_, .ref (He.ga X.K "FILLINGS"), He.glo_ok Y G (c.fact 54 (f := .he (.glo "FILLINGS")) rfl), rfl, .tup (RL (c.fact 55 (f := .tup (fun K => He.ga K "FILLINGS") [.str "raw", .str "zero", .str "held"]) rfl) _) (.cons (.str _) (.cons (.str _) (.cons (.str _) .nil)))⟩
theorem acS (c : cI K) (Y : K.In base) (G : base.Ns mainGlobals mg) {X : Cx} (hK : X.K = K) (hm : X.mg = mg) : Qt X (T K) "TOTALS" (.tup Vj) := by
 subst hK hm
 exact ⟨_, .ref (He.ga X.K "TOTALS"), He.glo_ok Y G (c.fact 56 (f := .he (.glo "TOTALS")) rfl), rfl, .tup (RL (c.fact 57 (f := .tup (fun K => He.ga K "TOTALS") [.str "zero", .str "held"]) rfl) _) (.cons (.str _) (.cons (.str _) .nil))⟩
theorem Vn (c : cI K) {X : Cx} (hK : X.K = K) : EqF X.K (T K) yP := by
 subst hK
 exact ⟨uN (.cons (agq (YF (c.fact 59 (f := .raw (fun K => eqX K (He.ga K "Term"))) rfl))) .nil)⟩
theorem Ut (c : cI K) (Y : K.In base) (G : base.Ns mainGlobals mg) : Does P w K mg base (T K) 0 Pa "_law_source" (defScope zW) (defBody zW) Ca := by
 intro f cdv A outer s H E C
 exact (aD (v4 C 2 (s_if (rP cmp_lt (ao 1) (EY (t8 0) (Fp c Y G))) (iD 0 (ao 1)) aR))
  (aD (v4 C 3 (s_if (rP cmp_ge (acl (ao 2) (acQ c Y G)) (Yl aR aR)) (acl (ao 2) (acQ c Y G)) aR))
  (cH (s_ret (yt (aa (ao 3) (aa (rG (uQ (rG (uQ (Qh (HJ (ao 2) (Lp c Y G)) aR) (Yk aR (ao 1)))) aR)) (aa aR aJ))))))))
theorem Ww (c : cI K) (Y : K.In base) (G : base.Ns mainGlobals mg) : ∃ fd : FuncData, v9 P w K mg base (T K) 1 (JR.adr K) fd JQ xH ∧ Bn K (T K) fd JQ 2 [] (aK []) := by
 obtain ⟨fd, F⟩ := c.def_ 0 (d := JR) rfl
 exact ⟨fd, ⟨fn_sim F Wg (Ut c Y G), F.kp⟩, (vo (FunD.bindsN F fun _ _ _ _ _ _ us hl => match us, hl with | [_, _], _ => (by kernel_rfl)))⟩
theorem Wx (c : cI K) (Y : K.In base) (G : base.Ns mainGlobals mg) : Does P w K mg base (T K) 0 TF "_law_draw" (defScope Cg) (defBody Cg) Ji := by
 intro f cdv A outer s H E C
 exact (aD (uO (rP cmp_gt (iD 0 aR) aR)
  (aD (v4 C 2 (Qh (HJ (iD 0 aR) (Lp c Y G)) (ao 1)))
  (aD (acv 0 (acd (iD 0 aR) (ao 1)) aR)
  (cH (s_ret (HD 2)))))
  uF)
  (aD (acv 0 (rG (uQ (iD 0 aR) aR)) aR)
  (aD (v4 C 3 (Qh (HJ (Yl (rG (uQ (iD 0 aR) (Yk aR (iD 0 aR)))) aR) (Lp c Y G)) aR))
  (aD (v4 C 3 (Qh (HJ (Yl (rG (uQ (ao 3) (Yk aR (iD 0 aR)))) aR) (Lp c Y G)) aR))
  (cH (s_ret (uH (Qh (HJ (acd (ao 3) aR) (Lp c Y G)) (ao 1)))))))))
theorem Lq (c : cI K) (Y : K.In base) (G : base.Ns mainGlobals mg) : ∃ fd : FuncData, v9 P w K mg base (T K) 1 (MF.adr K) fd Mz vG ∧ Bn K (T K) fd Mz 2 [] (aK []) := by
 obtain ⟨fd, F⟩ := c.def_ 1 (d := MF) rfl
 exact ⟨fd, ⟨fn_sim F YM (Wx c Y G), F.kp⟩, (vo (FunD.bindsN F fun _ _ _ _ _ _ us hl => match us, hl with | [_, _], _ => (by kernel_rfl)))⟩
theorem ZS (c : cI K) (Y : K.In base) (G : base.Ns mainGlobals mg) : Does P w K mg base (T K) 1 Xh "_law_of" (defScope Gy) (defBody Gy) QT := by
 obtain ⟨fd__law_draw, F__law_draw, B__law_draw_0⟩ := Lq (P := P) (w := w) c Y G
 intro f cdv A outer s H E C
 exact (cH (s_ret (uH (iD 1 (rG (rN C F__law_draw (by decide) B__law_draw_0 (Dg c Y G) (aa (ao 0) (aa (EY (t8 1) (Fp c Y G)) aJ))))))))
theorem abW (c : cI K) (Y : K.In base) (G : base.Ns mainGlobals mg) : ∃ fd : FuncData, v9 P w K mg base (T K) 2 (Qx.adr K) fd Qw v7 ∧ Bn K (T K) fd Qw 2 [] (aK []) := by
 obtain ⟨fd, F⟩ := c.def_ 2 (d := Qx) rfl
 exact ⟨fd, ⟨fn_sim F abq (ZS c Y G), F.kp⟩, (vo (FunD.bindsN F fun _ _ _ _ _ _ us hl => match us, hl with | [_, _], _ => (by kernel_rfl)))⟩
theorem Wy (c : cI K) (Y : K.In base) (G : base.Ns mainGlobals mg) : Does P w K mg base (T K) 2 TJ "_law_leaf" (defScope Ci) (defBody Ci) Ff := by
 obtain ⟨fd__law_draw, F__law_draw, B__law_draw_0⟩ := Lq (P := P) (w := w) c Y G
 obtain ⟨fd__law_of, F__law_of, B__law_of_0⟩ := abW (P := P) (w := w) c Y G
 intro f cdv A outer s H E C
 exact (aD (vz C 2 (rN C F__law_of (by decide) B__law_of_0 (Ep c Y G) (aa (ao 0) (aa (rG (yt (aa aR (aa aR (aa (rG (rN C F__law_draw (by decide) B__law_draw_0 (Dg c Y G) (aa (ao 0) (aa (ao 1) aJ)))) aJ))))) aJ))))
  (aD (vz C 3 (rN C F__law_of (by decide) B__law_of_0 (Ep c Y G) (aa (ao 0) (aa (rG (yt (aa (ao 1) (aa (rG (uQ (rG (uQ (ao 2) aR)) (rG (rN C F__law_draw (by decide) B__law_draw_0 (Dg c Y G) (aa (ao 0) (aa (acb (ao 1) (ao 2)) aJ)))))) aJ)))) aJ))))
  (aD (vz C 4 (rN C F__law_draw (by decide) B__law_draw_0 (Dg c Y G) (aa (ao 0) (aa aR aJ))))
  (aD (uO (rP (cmp_eq C) (ao 4) (u5 aR))
  (cH (s_ret (uH (tU (aa aq (aa (ao 2) (aa (ao 3) aJ)))))))
  uF)
  (aD (uO (rP cmp_lt (ao 4) aR)
  (aD (vz C 5 (rN C F__law_of (by decide) B__law_of_0 (Ep c Y G) (aa (ao 0) (aa (rG (yt (aa aq (aa aq (aa aq (aa aq (aa aq aJ))))))) aJ))))
  (cH (s_ret (uH (tU (aa aq (aa (ao 5) (aa (rG (rN C F__law_of (by decide) B__law_of_0 (Ep c Y G) (aa (ao 0) (aa (rG (yt (aa aq (aa aq aJ)))) aJ)))) (aa (ao 2) (aa (ao 3) aJ))))))))))
  uF)
  (aD (vz C 5 (rN C F__law_of (by decide) B__law_of_0 (Ep c Y G) (aa (ao 0) (aa (rG (yt (aa aq (aa aq (aa aq (aa aq (aa aq (aa aq (aa aq (aa aq aJ)))))))))) aJ))))
  (cH (s_ret (uH (tU (aa aq (aa (ao 5) (aa (rG (s_if (rP (cmp_eq C) (ao 5) (u5 aq)) (uH aq) (rN C F__law_of (by decide) B__law_of_0 (Ep c Y G) (aa (ao 0) (aa (rG (yt (aa aq (aa aq (aa aq aJ))))) aJ))))) (aa (ao 2) (aa (ao 3) aJ)))))))))))))))
theorem ZV (c : cI K) (Y : K.In base) (G : base.Ns mainGlobals mg) : ∃ fd : FuncData, v9 P w K mg base (T K) 3 (MK.adr K) fd MJ Cr ∧ Bn K (T K) fd MJ 2 [] (aK []) := by
 obtain ⟨fd, F⟩ := c.def_ 3 (d := MK) rfl
 exact ⟨fd, ⟨fn_sim F YQ (Wy c Y G), F.kp⟩, (vo (FunD.bindsN F fun _ _ _ _ _ _ us hl => match us, hl with | [_, _], _ => (by kernel_rfl)))⟩
theorem PL (c : cI K) (Y : K.In base) (G : base.Ns mainGlobals mg) : Does P w K mg base (T K) 0 KH "Term.__init__" (defScope xQ) (defBody xQ) zF := by
 intro f cdv A outer s H E C
 exact (aD (HX 0 (wH c rfl) (ao 1))
  (cH (HX 0 (N5 c rfl) (ao 2))))
theorem JS (c : cI K) (Y : K.In base) (G : base.Ns mainGlobals mg) : ∃ fd : FuncData, FnI P w K mg base (T K) 1 1 (Gk.adr K) fd Gj wL ∧ BnI K (T K) fd Gj 2 [] (aK []) := by
 obtain ⟨fd, F⟩ := c.def_ 4 (d := Gk) rfl
 exact ⟨fd, ⟨ae2 1 F Sw (PL c Y G), He.mkr_ok (c.fact 60 (f := .he (.mkr "Term")) rfl)⟩, (aaB 2 (FunD.bindsN F fun _ _ _ _ _ _ us hl => match us, hl with | [_, _, _], _ => (by kernel_rfl)) rfl)⟩
theorem Xx (c : cI K) (Y : K.In base) (G : base.Ns mainGlobals mg) : Does P w K mg base (T K) 0 U3 "word_end" (defScope Dq) (defBody Dq) Hl := by
 intro f cdv A outer s H E C
 exact (aD (vz C 2 (uQ (ao 1) aR))
  (aD (abe C (Nr (tU (aa (Jv (abV c Y G rfl rfl)) (aa (Jv (Xl c Y G rfl rfl)) aJ)))) (xP C 3)
  (cH (uO (rP (Kv) (iD 0 (ao 1)) (t8 3))
  (cH (s_while C 60 (Rz (Yo (rP cmp_lt (ao 2) (EY (t8 0) (Fp c Y G))) (V9 (rP (Kv) (iD 0 (ao 2)) (t8 3)))))
  (cH (s_aug C 2 ip_add aR))))
  uF)))
  (cH (s_ret (HD 2)))))
theorem aak (c : cI K) (Y : K.In base) (G : base.Ns mainGlobals mg) : ∃ fd : FuncData, v9 P w K mg base (T K) 1 (Ot.adr K) fd Oo BR ∧ Bn K (T K) fd Oo 2 [] (aK []) := by
 obtain ⟨fd, F⟩ := c.def_ 5 (d := Ot) rfl
 exact ⟨fd, ⟨fn_sim F aae (Xx c Y G), F.kp⟩, (vo (FunD.bindsN F fun _ _ _ _ _ _ us hl => match us, hl with | [_, _], _ => (by kernel_rfl)))⟩
theorem N6 (c : cI K) (Y : K.In base) (G : base.Ns mainGlobals mg) : Does P w K mg base (T K) 1 Jw "Tokens.__init__" (defScope wO) (defBody wO) yz := by
 obtain ⟨fd_word_end, F_word_end, B_word_end_0⟩ := aak (P := P) (w := w) c Y G
 intro f cdv A outer s H E C
 exact (aD (HX 0 (wH c rfl) (ao 2))
  (aD (HX 0 (Dh c rfl) (RJ (yt aJ)))
  (aD (HX 0 (GJ c rfl) (RJ (yt aJ)))
  (aD (HX 0 (GP c rfl) aR)
  (aD (v4 C 3 aR)
  (aD (s_while C 60 (rP cmp_lt (ao 3) (EY (t8 1) (Fp c Y G)))
  (aD (uO (rP (cmp_eq C) (iD 1 (ao 3)) (u5 aq))
  (aD (s_aug C 3 ip_add aR)
  (cH af8))
  uF)
  (aD (vz C 4 (rN C F_word_end (by decide) B_word_end_0 (aag c Y G) (aa (ao 1) (aa (ao 3) aJ))))
  (aD (vC (Wc (xM (Dh c rfl) (t8 0)) (rG (aeW 1 (aap (ao 3)) (aap (ao 4))))))
  (aD (vC (Wc (xM (GJ c rfl) (t8 0)) (ao 3)))
  (cH (v4 C 3 (ao 4))))))))
  (cH (vC (Wc (xM (GJ c rfl) (t8 0)) (EY (t8 1) (Fp c Y G)))))))))))
theorem PN (c : cI K) (Y : K.In base) (G : base.Ns mainGlobals mg) : ∃ fd : FuncData, FnC P w K mg base (T K) 2 0 (CV.adr K) fd CT wW ∧ BnI K (T K) fd CT 2 [] (aK []) := by
 obtain ⟨fd, F⟩ := c.def_ 6 (d := CV) rfl
 exact ⟨fd, ⟨fn_sim F Py (N6 c Y G), He.mkr_ok (c.fact 61 (f := .he (.mkr "Tokens")) rfl)⟩, (aaB 2 (FunD.bindsN F fun _ _ _ _ _ _ us hl => match us, hl with | [_, _, _], _ => (by kernel_rfl)) rfl)⟩
theorem N7 (c : cI K) (Y : K.In base) (G : base.Ns mainGlobals mg) : Does P w K mg base (T K) 0 Jx "Tokens.upcoming" (defScope wQ) (defBody wQ) yC := by
 intro f cdv A outer s H E C
 exact (cH (s_ret (uH (s_if (rP cmp_lt (xM (GP c rfl) (t8 0)) (EY (u5 (xM (Dh c rfl) (t8 0))) (Fp c Y G))) (UG (xM (Dh c rfl) (t8 0)) (xM (GP c rfl) (t8 0))) aq))))
theorem PP (c : cI K) (Y : K.In base) (G : base.Ns mainGlobals mg) : ∃ fd : FuncData, v9 P w K mg base (T K) 1 (CZ.adr K) fd CW wX ∧ Bn K (T K) fd CW 1 [] (aK []) := by
 obtain ⟨fd, F⟩ := c.def_ 7 (d := CZ) rfl
 exact ⟨fd, ⟨fn_sim F PB (N7 c Y G), F.kp⟩, (vo (FunD.bindsN F fun _ _ _ _ _ _ us hl => match us, hl with | [_], _ => (by kernel_rfl)))⟩
theorem zm (c : cI K) (Y : K.In base) (G : base.Ns mainGlobals mg) {X : Cx} {k : Nat} (hk : 1 ≤ k) (hP : X.prog = P) (hw : X.w = w) (hK : X.K = K) (hm : X.mg = mg) (hb : X.base = base) : Do X (T K) k "upcoming" t7 0 [] (aK []) := by
 subst hP hw hK hm hb
 exact ⟨uN (.cons (by
  obtain ⟨fd, F, B⟩ := PP (P := X.prog) (w := X.w) c Y G
  exact ⟨_, _, fd, _, He.cls_ok (c.fact 30 (f := .he (.cls "Tokens")) rfl), He.meth_ok (c.fact 39 (f := .he (.meth "Tokens" "upcoming")) rfl), F, B, (by show _ ∉ fld 0; decide +kernel), Nat.le_trans (by decide) hk⟩) .nil)⟩
theorem Rg (c : cI K) (Y : K.In base) (G : base.Ns mainGlobals mg) : Does P w K mg base (T K) 1 Mg "Tokens.skips" (defScope yE) (defBody yE) z7 := by
 intro f cdv A outer s H E C
 exact (aD (uO (rP (G4 C) (rG (xr C (zm (P := P) c Y G (by decide) rfl rfl rfl rfl rfl) (ao 0))) (t8 1))
  (cH (s_ret (uH Ly)))
  uF)
  (aD (Ul 0 (GP c rfl) Um aR)
  (cH (s_ret (uH Ly)))))
theorem Uu (c : cI K) (Y : K.In base) (G : base.Ns mainGlobals mg) : ∃ fd : FuncData, v9 P w K mg base (T K) 2 (G9.adr K) fd G8 yN ∧ Bn K (T K) fd G8 2 [] (aK []) := by
 obtain ⟨fd, F⟩ := c.def_ 8 (d := G9) rfl
 exact ⟨fd, ⟨fn_sim F Ug (Rg c Y G), F.kp⟩, (vo (FunD.bindsN F fun _ _ _ _ _ _ us hl => match us, hl with | [_, _], _ => (by kernel_rfl)))⟩
theorem Lr (c : cI K) (Y : K.In base) (G : base.Ns mainGlobals mg) : Does P w K mg base (T K) 1 Gz "Tokens.sees_number" (defScope vY) (defBody vY) wY := by
 intro f cdv A outer s H E C
 exact (cH (s_ret (uH (acg (Uy (G4 C) (rG (xr C (zm (P := P) c Y G (by decide) rfl rfl rfl rfl rfl) (ao 0))) (u5 aq)) (acf (Uy (Kv) (UG (rG (xr C (zm (P := P) c Y G (by decide) rfl rfl rfl rfl rfl) (ao 0))) aR) (u5 (Jv (Xl c Y G rfl rfl)))))))))
theorem Nf (c : cI K) (Y : K.In base) (G : base.Ns mainGlobals mg) : ∃ fd : FuncData, v9 P w K mg base (T K) 2 (Bg.adr K) fd Bf vZ ∧ Bn K (T K) fd Bf 1 [] (aK []) := by
 obtain ⟨fd, F⟩ := c.def_ 9 (d := Bg) rfl
 exact ⟨fd, ⟨fn_sim F MN (Lr c Y G), F.kp⟩, (vo (FunD.bindsN F fun _ _ _ _ _ _ us hl => match us, hl with | [_], _ => (by kernel_rfl)))⟩
theorem SM (c : cI K) (Y : K.In base) (G : base.Ns mainGlobals mg) : Does P w K mg base (T K) 0 Nv "Tokens.fail" (defScope zp) (defBody zp) NQ := by
 intro f cdv A outer s H E C
 exact (cH ae0)
theorem Vo (c : cI K) (Y : K.In base) (G : base.Ns mainGlobals mg) : ∃ fd : FuncData, v9 P w K mg base (T K) 1 (Ie.adr K) fd Ib Iw ∧ Bn K (T K) fd Ib 1 [] (aK []) := by
 obtain ⟨fd, F⟩ := c.def_ 10 (d := Ie) rfl
 exact ⟨fd, ⟨fn_sim F U4 (SM c Y G), F.kp⟩, (vo (FunD.bindsN F fun _ _ _ _ _ _ us hl => match us, hl with | [_], _ => (by kernel_rfl)))⟩
theorem Wz (c : cI K) (Y : K.In base) (G : base.Ns mainGlobals mg) {X : Cx} {k : Nat} (hk : 1 ≤ k) (hP : X.prog = P) (hw : X.w = w) (hK : X.K = K) (hm : X.mg = mg) (hb : X.base = base) : Do X (T K) k "fail" DG 0 [] (aK []) := by
 subst hP hw hK hm hb
 exact ⟨uN (.cons (by
  obtain ⟨fd, F, B⟩ := Vo (P := X.prog) (w := X.w) c Y G
  exact ⟨_, _, fd, _, He.cls_ok (c.fact 30 (f := .he (.cls "Tokens")) rfl), He.meth_ok (c.fact 40 (f := .he (.meth "Tokens" "fail")) rfl), F, B, (by show _ ∉ fld 0; decide +kernel), Nat.le_trans (by decide) hk⟩) .nil)⟩
theorem SN (c : cI K) (Y : K.In base) (G : base.Ns mainGlobals mg) : Does P w K mg base (T K) 1 Ny "Tokens.take" (defScope zq) (defBody zq) Bt := by
 intro f cdv A outer s H E C
 exact (aD (vz C 2 (xr C (zm (P := P) c Y G (by decide) rfl rfl rfl rfl rfl) (ao 0)))
  (aD (uO (rP (V8) (ao 2) (t8 1))
  (cH (vC (xr C (Wz (P := P) c Y G (by decide) rfl rfl rfl rfl rfl) (ao 0))))
  uF)
  (aD (Ul 0 (GP c rfl) Um aR)
  (cH (s_ret (HD 2))))))
theorem Vp (c : cI K) (Y : K.In base) (G : base.Ns mainGlobals mg) : Zu P w K mg base (T K) 2 (Ig.adr K) zE := by
 obtain ⟨fd, F⟩ := c.def_ 11 (d := Ig) rfl
 exact afh (p0 := "self") (pv := "allowed") F U5 (SN c Y G) (fun _ _ _ _ _ _ _ => (by kernel_rfl)) (fun _ _ _ _ _ _ _ _ _ => (by kernel_rfl))
theorem PQ (c : cI K) (Y : K.In base) (G : base.Ns mainGlobals mg) : Does P w K mg base (T K) 1 KJ "Tokens.number" (defScope xR) (defBody xR) zG := by
 intro f cdv A outer s H E C
 exact (aD (vz C 3 (xr C (zm (P := P) c Y G (by decide) rfl rfl rfl rfl rfl) (ao 0)))
  (aD (uO (Rz (XS (rP cmp_gt (EY (t8 3) (Fp c Y G)) aR) (XS (Rz (Yo (rP (cmp_eq C) (iD 3 aR) (u5 aq)) (V9 (rP cmp_gt (EY (t8 3) (Fp c Y G)) aR)))) (Yn (Uz (ac4 cmp_le cmp_le (ao 1) (HJ (ao 3) (Lp c Y G)) (ao 2)))))))
  (cH (vC (xr C (Wz (P := P) c Y G (by decide) rfl rfl rfl rfl rfl) (ao 0))))
  uF)
  (aD (Ul 0 (GP c rfl) Um aR)
  (cH (s_ret (uH (HJ (ao 3) (Lp c Y G))))))))
theorem SQ (c : cI K) (Y : K.In base) (G : base.Ns mainGlobals mg) : ∃ fd : FuncData, v9 P w K mg base (T K) 2 (Gn.adr K) fd Gm xV ∧ Bn K (T K) fd Gm 3 [] (aK []) := by
 obtain ⟨fd, F⟩ := c.def_ 12 (d := Gn) rfl
 exact ⟨fd, ⟨fn_sim F Sy (PQ c Y G), F.kp⟩, (vo (FunD.bindsN F fun _ _ _ _ _ _ us hl => match us, hl with | [_, _, _], _ => (by kernel_rfl)))⟩
theorem O5 (c : cI K) (Y : K.In base) (G : base.Ns mainGlobals mg) {X : Cx} {k : Nat} (hk : 2 ≤ k) (hP : X.prog = P) (hw : X.w = w) (hK : X.K = K) (hm : X.mg = mg) (hb : X.base = base) : Do X (T K) k "skips" zH 1 [] (aK []) := by
 subst hP hw hK hm hb
 exact ⟨uN (.cons (by
  obtain ⟨fd, F, B⟩ := Uu (P := X.prog) (w := X.w) c Y G
  exact ⟨_, _, fd, _, He.cls_ok (c.fact 30 (f := .he (.cls "Tokens")) rfl), He.meth_ok (c.fact 41 (f := .he (.meth "Tokens" "skips")) rfl), F, B, (by show _ ∉ fld 0; decide +kernel), Nat.le_trans (by decide) hk⟩) .nil)⟩
theorem Jb (c : cI K) (Y : K.In base) (G : base.Ns mainGlobals mg) {X : Cx} {k : Nat} (hk : 2 ≤ k) (hP : X.prog = P) (hw : X.w = w) (hK : X.K = K) (hm : X.mg = mg) (hb : X.base = base) : Do X (T K) k "sees_number" wk 0 [] (aK []) := by
 subst hP hw hK hm hb
 exact ⟨uN (.cons (by
  obtain ⟨fd, F, B⟩ := Nf (P := X.prog) (w := X.w) c Y G
  exact ⟨_, _, fd, _, He.cls_ok (c.fact 30 (f := .he (.cls "Tokens")) rfl), He.meth_ok (c.fact 42 (f := .he (.meth "Tokens" "sees_number")) rfl), F, B, (by show _ ∉ fld 0; decide +kernel), Nat.le_trans (by decide) hk⟩) .nil)⟩
theorem Rh (c : cI K) (Y : K.In base) (G : base.Ns mainGlobals mg) {X : Cx} {k : Nat} (hk : 2 ≤ k) (hP : X.prog = P) (hw : X.w = w) (hK : X.K = K) (hm : X.mg = mg) (hb : X.base = base) : Do X (T K) k "number" z8 2 [] (aK []) := by
 subst hP hw hK hm hb
 exact ⟨uN (.cons (by
  obtain ⟨fd, F, B⟩ := SQ (P := X.prog) (w := X.w) c Y G
  exact ⟨_, _, fd, _, He.cls_ok (c.fact 30 (f := .he (.cls "Tokens")) rfl), He.meth_ok (c.fact 43 (f := .he (.meth "Tokens" "number")) rfl), F, B, (by show _ ∉ fld 0; decide +kernel), Nat.le_trans (by decide) hk⟩) .nil)⟩
theorem uU (c : cI K) (Y : K.In base) (G : base.Ns mainGlobals mg) {X : Cx} {k : Nat} (hk : 2 ≤ k) (hP : X.prog = P) (hw : X.w = w) (hK : X.K = K) (hm : X.mg = mg) (hb : X.base = base) : QK X (T K) k "take" rF := by
 subst hP hw hK hm hb
 exact ⟨uN (.cons ⟨_, _, He.cls_ok (c.fact 30 (f := .he (.cls "Tokens")) rfl), agy (YF (c.fact 46 (f := .raw (fun K => bmX K (He.ga K "Tokens") "take")) rfl)) (He.meth_ok (c.fact 45 (f := .he (.meth "Tokens" "take")) rfl)), Vp (P := X.prog) (w := X.w) c Y G, (by show _ ∉ fld 0; decide +kernel), Nat.le_trans (by decide) hk⟩ .nil)⟩
theorem Vq (c : cI K) (Y : K.In base) (G : base.Ns mainGlobals mg) : Does P w K mg base (T K) 2 Qy "read_slice" (defScope Bh) (defBody Bh) De := by
 intro f cdv A outer s H E C
 exact (aD (v4 C 1 aR)
  (aD (v4 C 2 (xM (wH c rfl) (t8 0)))
  (aD (uO (Ez (G3 (HY C (O5 (P := P) c Y G (by decide) rfl rfl rfl rfl rfl) (ao 0) (aa aq aJ))))
  (aD (uO (Ez (G3 (xr C (Jb (P := P) c Y G (by decide) rfl rfl rfl rfl rfl) (ao 0))))
  (cH (vz C 1 (HY C (Rh (P := P) c Y G (by decide) rfl rfl rfl rfl rfl) (ao 0) (aa aR (aa (acb (xM (wH c rfl) (t8 0)) aR) aJ)))))
  uF)
  (aD (vC (v5 C (uU (P := P) c Y G (by decide) rfl rfl rfl rfl rfl) (ao 0) (aa aq aJ)))
  (aD (uO (Ez (G3 (xr C (Jb (P := P) c Y G (by decide) rfl rfl rfl rfl rfl) (ao 0))))
  (cH (vz C 2 (HY C (Rh (P := P) c Y G (by decide) rfl rfl rfl rfl rfl) (ao 0) (aa (rG (uQ (ao 1) aR)) (aa (xM (wH c rfl) (t8 0)) aJ)))))
  uF)
  (cH (vC (v5 C (uU (P := P) c Y G (by decide) rfl rfl rfl rfl rfl) (ao 0) (aa aq aJ)))))))
  uF)
  (cH (s_ret (uH (tU (aa (ao 1) (aa (ao 2) aJ)))))))))
theorem Pn (c : cI K) (Y : K.In base) (G : base.Ns mainGlobals mg) : ∃ fd : FuncData, v9 P w K mg base (T K) 3 (KQ.adr K) fd KN xF ∧ Bn K (T K) fd KN 1 [] (aK []) := by
 obtain ⟨fd, F⟩ := c.def_ 13 (d := KQ) rfl
 exact ⟨fd, ⟨fn_sim F Xq (Vq c Y G), F.kp⟩, (vo (FunD.bindsN F fun _ _ _ _ _ _ us hl => match us, hl with | [_], _ => (by kernel_rfl)))⟩
theorem S8 (c : cI K) (Y : K.In base) (G : base.Ns mainGlobals mg) : Does P w K mg base (T K) 3 Nz "read_filling" (defScope zr) (defBody zr) Bu := by
 obtain ⟨fd_read_slice, F_read_slice, B_read_slice_0⟩ := Pn (P := P) (w := w) c Y G
 intro f cdv A outer s H E C
 exact (aD (vz C 4 (Zx C (uU (P := P) c Y G (by decide) rfl rfl rfl rfl rfl) (ao 0) (ao 3)))
  (aD (s_asg (rG (rN C F_read_slice (by decide) B_read_slice_0 (Ph c Y G) (aa (ao 0) aJ))) (aco C (Og (xP C 5) (Og (xP C 6) aat))))
  (aD (vC (v5 C (uU (P := P) c Y G (by decide) rfl rfl rfl rfl rfl) (ao 0) (aa aq aJ)))
  (aD (vC (v5 C (uU (P := P) c Y G (by decide) rfl rfl rfl rfl rfl) (ao 0) (aa aq aJ)))
  (cH (s_ret (uH (tU (aa aq (aa (ao 1) (aa (ao 2) (aa (ao 4) (aa (ao 5) (aa (ao 6) aJ))))))))))))))
theorem Vr (c : cI K) (Y : K.In base) (G : base.Ns mainGlobals mg) : ∃ fd : FuncData, v9 P w K mg base (T K) 4 (Ii.adr K) fd Ih wZ ∧ Bn K (T K) fd Ih 4 [] (aK []) := by
 obtain ⟨fd, F⟩ := c.def_ 14 (d := Ii) rfl
 exact ⟨fd, ⟨fn_sim F U6 (S8 c Y G), F.kp⟩, (vo (FunD.bindsN F fun _ _ _ _ _ _ us hl => match us, hl with | [_, _, _, _], _ => (by kernel_rfl)))⟩
theorem WD (c : cI K) (Y : K.In base) (G : base.Ns mainGlobals mg) : Does P w K mg base (T K) 4 TQ "read_leaf" (defScope Cj) (defBody Cj) Fg := by
 obtain ⟨fd_read_filling, F_read_filling, B_read_filling_0⟩ := Vr (P := P) (w := w) c Y G
 obtain ⟨fd_read_slice, F_read_slice, B_read_slice_0⟩ := Pn (P := P) (w := w) c Y G
 intro f cdv A outer s H E C
 exact (aD (vz C 1 (adD C (uU (P := P) c Y G (by decide) rfl rfl rfl rfl rfl) (ao 0) (Zv aq (Zv aq (afi (Jv (ZR c Y G rfl rfl)) aJ)))))
  (aD (uO (rP (cmp_eq C) (ao 1) (u5 aq))
  (aD (s_asg (rG (rN C F_read_slice (by decide) B_read_slice_0 (Ph c Y G) (aa (ao 0) aJ))) (aco C (Og (xP C 2) (Og (xP C 3) aat))))
  (cH (s_ret (uH (tU (aa aq (aa (ao 2) (aa (ao 3) aJ))))))))
  uF)
  (aD (vC (v5 C (uU (P := P) c Y G (by decide) rfl rfl rfl rfl rfl) (ao 0) (aa aq aJ)))
  (aD (uO (rP (G4 C) (ao 1) (u5 aq))
  (aD (vC (v5 C (uU (P := P) c Y G (by decide) rfl rfl rfl rfl rfl) (ao 0) (aa aq aJ)))
  (aD (vC (v5 C (uU (P := P) c Y G (by decide) rfl rfl rfl rfl rfl) (ao 0) (aa aq aJ)))
  (cH (s_ret (rN C F_read_filling (by decide) B_read_filling_0 (Mq c Y G) (aa (ao 0) (aa aq (aa (ao 1) (aa (tU (aa aq (aa aq aJ))) aJ)))))))))
  uF)
  (aD (vz C 4 (Zx C (uU (P := P) c Y G (by decide) rfl rfl rfl rfl rfl) (ao 0) (Jv (aai c Y G rfl rfl))))
  (aD (vC (v5 C (uU (P := P) c Y G (by decide) rfl rfl rfl rfl rfl) (ao 0) (aa aq aJ)))
  (aD (v4 C 5 (s_if (rP (cmp_eq C) (ao 4) (u5 aq)) (tU (aa aq aJ)) (tU (aa aq (aa aq (aa aq aJ))))))
  (cH (s_ret (rN C F_read_filling (by decide) B_read_filling_0 (Mq c Y G) (aa (ao 0) (aa aq (aa (ao 4) (aa (ao 5) aJ))))))))))))))
theorem ZW (c : cI K) (Y : K.In base) (G : base.Ns mainGlobals mg) : ∃ fd : FuncData, v9 P w K mg base (T K) 5 (MT.adr K) fd MP vH ∧ Bn K (T K) fd MP 1 [] (aK []) := by
 obtain ⟨fd, F⟩ := c.def_ 15 (d := MT) rfl
 exact ⟨fd, ⟨fn_sim F YS (WD c Y G), F.kp⟩, (vo (FunD.bindsN F fun _ _ _ _ _ _ us hl => match us, hl with | [_], _ => (by kernel_rfl)))⟩
theorem WK (c : cI K) (Y : K.In base) (G : base.Ns mainGlobals mg) : Does P w K mg base (T K) 5 TV "read_atom" (defScope Ck) (defBody Ck) Fj := by
 obtain ⟨fd_read_leaf, F_read_leaf, B_read_leaf_0⟩ := ZW (P := P) (w := w) c Y G
 intro f cdv A outer s H E C
 exact (aD (uO (Ez (G3 (HY C (O5 (P := P) c Y G (by decide) rfl rfl rfl rfl rfl) (ao 0) (aa aq aJ))))
  (aD (v4 C 1 OJ)
  (aD (vC (v5 C (uU (P := P) c Y G (by decide) rfl rfl rfl rfl rfl) (ao 0) (aa aq aJ)))
  (cH (s_ret (HD 1)))))
  uF)
  (aD (uO (Ez (G3 (HY C (O5 (P := P) c Y G (by decide) rfl rfl rfl rfl rfl) (ao 0) (aa aq aJ))))
  (aD (vC (v5 C (uU (P := P) c Y G (by decide) rfl rfl rfl rfl rfl) (ao 0) (aa aq aJ)))
  (aD (v4 C 1 OJ)
  (aD (vC (v5 C (uU (P := P) c Y G (by decide) rfl rfl rfl rfl rfl) (ao 0) (aa aq aJ)))
  (cH (s_ret (uH (tU (aa aq (aa (ao 1) aJ)))))))))
  uF)
  (aD (uO (rP (V8) (rG (xr C (zm (P := P) c Y G (by decide) rfl rfl rfl rfl rfl) (ao 0))) (u5 (tU (aa aq (aa aq aJ)))))
  (cH (s_ret (rN C F_read_leaf (by decide) B_read_leaf_0 (ZL c Y G) (aa (ao 0) aJ))))
  uF)
  (aD (vz C 2 (v5 C (uU (P := P) c Y G (by decide) rfl rfl rfl rfl rfl) (ao 0) (aa aq (aa aq aJ))))
  (aD (vC (v5 C (uU (P := P) c Y G (by decide) rfl rfl rfl rfl rfl) (ao 0) (aa aq aJ)))
  (aD (v4 C 3 OJ)
  (aD (vC (v5 C (uU (P := P) c Y G (by decide) rfl rfl rfl rfl rfl) (ao 0) (aa aq aJ)))
  (aD (v4 C 4 OJ)
  (aD (vC (v5 C (uU (P := P) c Y G (by decide) rfl rfl rfl rfl rfl) (ao 0) (aa aq aJ)))
  (cH (s_ret (uH (tU (aa (ao 2) (aa (ao 3) (aa (ao 4) aJ))))))))))))))))
theorem ZX (c : cI K) (Y : K.In base) (G : base.Ns mainGlobals mg) : ∃ fd : FuncData, v9 P w K mg base (T K) 6 (M4.adr K) fd M3 zg ∧ Bn K (T K) fd M3 1 [] (aK []) := by
 obtain ⟨fd, F⟩ := c.def_ 16 (d := M4) rfl
 exact ⟨fd, ⟨fn_sim F YT (WK c Y G), F.kp⟩, (vo (FunD.bindsN F fun _ _ _ _ _ _ us hl => match us, hl with | [_], _ => (by kernel_rfl)))⟩
theorem S9 (c : cI K) (Y : K.In base) (G : base.Ns mainGlobals mg) : Does P w K mg base (T K) 6 NB "read_product" (defScope zu) (defBody zu) Bv := by
 obtain ⟨fd_read_atom, F_read_atom, B_read_atom_0⟩ := ZX (P := P) (w := w) c Y G
 intro f cdv A outer s H E C
 exact (aD (uO (Uz (Ez (G3 (xr C (Jb (P := P) c Y G (by decide) rfl rfl rfl rfl rfl) (ao 0)))))
  (aD (vz C 2 (rN C F_read_atom (by decide) B_read_atom_0 (Rc c Y G) (aa (ao 0) aJ)))
  (cH (s_ret (uH (s_if (Ez (t8 1)) (tU (aa aq (aa (Qi aR) (aa (ao 2) aJ)))) (ao 2))))))
  uF)
  (aD (vz C 3 (HY C (Rh (P := P) c Y G (by decide) rfl rfl rfl rfl rfl) (ao 0) (aa aR (aa (Jv (afF c Y G rfl rfl)) aJ))))
  (aD (vC (v5 C (uU (P := P) c Y G (by decide) rfl rfl rfl rfl rfl) (ao 0) (aa aq aJ)))
  (aD (vz C 2 (rN C F_read_atom (by decide) B_read_atom_0 (Rc c Y G) (aa (ao 0) aJ)))
  (cH (s_ret (uH (tU (aa aq (aa (s_if (Ez (t8 1)) (Qi (ao 3)) (ao 3)) (aa (ao 2) aJ)))))))))))
theorem Vs (c : cI K) (Y : K.In base) (G : base.Ns mainGlobals mg) : ∃ fd : FuncData, v9 P w K mg base (T K) 7 (Ik.adr K) fd Ij xf ∧ Bn K (T K) fd Ij 2 [] (aK []) := by
 obtain ⟨fd, F⟩ := c.def_ 17 (d := Ik) rfl
 exact ⟨fd, ⟨fn_sim F U7 (S9 c Y G), F.kp⟩, (vo (FunD.bindsN F fun _ _ _ _ _ _ us hl => match us, hl with | [_, _], _ => (by kernel_rfl)))⟩
theorem WL (c : cI K) (Y : K.In base) (G : base.Ns mainGlobals mg) : Does P w K mg base (T K) 7 TX "read_term" (defScope Cm) (defBody Cm) Fo := by
 obtain ⟨fd_read_product, F_read_product, B_read_product_0⟩ := Vs (P := P) (w := w) c Y G
 intro f cdv A outer s H E C
 exact (aD (vz C 1 (rN C F_read_product (by decide) B_read_product_0 (Mr c Y G) (aa (ao 0) (aa (rG (HY C (O5 (P := P) c Y G (by decide) rfl rfl rfl rfl rfl) (ao 0) (aa aq aJ))) aJ))))
  (aD (adA C 60 2 Kv (rG (xr C (zm (P := P) c Y G (by decide) rfl rfl rfl rfl rfl) (ao 0))) (tU (aa aq (aa aq aJ)))
  (aD (vC (v5 C (uU (P := P) c Y G (by decide) rfl rfl rfl rfl rfl) (ao 0) (aa (ao 2) aJ)))
  (cH (v4 C 1 (tU (aa (s_if (rP (cmp_eq C) (ao 2) (u5 aq)) aq aq) (aa (ao 1) (aa (rG (rN C F_read_product (by decide) B_read_product_0 (Mr c Y G) (aa (ao 0) (aa Ly aJ)))) aJ))))))))
  (cH (s_ret (HD 1)))))
theorem ZZ (c : cI K) (Y : K.In base) (G : base.Ns mainGlobals mg) : ∃ fd : FuncData, v9 P w K mg base (T K) 8 (M6.adr K) fd M5 Ai ∧ Bn K (T K) fd M5 1 [] (aK []) := by
 obtain ⟨fd, F⟩ := c.def_ 18 (d := M6) rfl
 exact ⟨fd, ⟨fn_sim F YW (WL c Y G), F.kp⟩, (vo (FunD.bindsN F fun _ _ _ _ _ _ us hl => match us, hl with | [_], _ => (by kernel_rfl)))⟩
theorem abX (c : cI K) (Y : K.In base) (G : base.Ns mainGlobals mg) : Does P w K mg base (T K) 8 aaE "parse" (defScope Ke) (defBody Ke) NT := by
 obtain ⟨fd_Tokens____init__, F_Tokens____init__, B_Tokens____init___0⟩ := PN (P := P) (w := w) c Y G
 obtain ⟨fd_read_term, F_read_term, B_read_term_0⟩ := ZZ (P := P) (w := w) c Y G
 intro f cdv A outer s H E C
 exact (aD (v4 C 2 (adz C F_Tokens____init__ (by decide) B_Tokens____init___0 (acP c Y G) (aa (ao 0) (aa (ao 1) aJ))))
  (aD (vz C 3 (rN C F_read_term (by decide) B_read_term_0 (ZM c Y G) (aa (ao 2) aJ)))
  (aD (uO (rP (G4 C) (rG (xr C (zm (P := P) c Y G (by decide) rfl rfl rfl rfl rfl) (ao 2))) (u5 aq))
  (cH (vC (xr C (Wz (P := P) c Y G (by decide) rfl rfl rfl rfl rfl) (ao 2))))
  uF)
  (cH (s_ret (HD 3))))))
theorem aea (c : cI K) (Y : K.In base) (G : base.Ns mainGlobals mg) : ∃ fd : FuncData, v9 P w K mg base (T K) 9 (Wj.adr K) fd Wi Ko ∧ Bn K (T K) fd Wi 2 [] (aK []) := by
 obtain ⟨fd, F⟩ := c.def_ 19 (d := Wj) rfl
 exact ⟨fd, ⟨fn_sim F adh (abX c Y G), F.kp⟩, (vo (FunD.bindsN F fun _ _ _ _ _ _ us hl => match us, hl with | [_, _], _ => (by kernel_rfl)))⟩
theorem Vt (c : cI K) (Y : K.In base) (G : base.Ns mainGlobals mg) : Does P w K mg base (T K) 9 Qz "Term.read" (defScope Bj) (defBody Bj) Df := by
 obtain ⟨fd_Term____init__, F_Term____init__, B_Term____init___0⟩ := JS (P := P) (w := w) c Y G
 obtain ⟨fd_parse, F_parse, B_parse_0⟩ := aea (P := P) (w := w) c Y G
 intro f cdv A outer s H E C
 exact (cH (s_ret (aaC C F_Term____init__ (by decide) B_Term____init___0 (R9 c Y G) (aa (ao 2) (aa (rG (rN C F_parse (by decide) B_parse_0 (ad9 c Y G) (aa (ao 1) (aa (ao 2) aJ)))) aJ)))))
theorem Xy (c : cI K) (Y : K.In base) (G : base.Ns mainGlobals mg) : ∃ fd : FuncData, v9 P w K mg base (T K) 10 (KY.adr K) fd KR zJ ∧ Bn K (T K) fd KR 3 [] (aK []) := by
 obtain ⟨fd, F⟩ := c.def_ 20 (d := KY) rfl
 exact ⟨fd, ⟨fn_sim F Xr (Vt c Y G), F.kp⟩, (vo (FunD.bindsN F fun _ _ _ _ _ _ us hl => match us, hl with | [_, _, _], _ => (by kernel_rfl)))⟩
theorem P0 (c : cI K) (Y : K.In base) (G : base.Ns mainGlobals mg) : Does P w K mg base (T K) 0 KZ "_law_leaf_text" (defScope xT) (defBody xT) BV := by
 intro f cdv A outer s H E C
 exact (aD (vz C 1 (uQ (rG (uQ (rG (uQ (rG (uQ aq (aaM (iD 0 (Qi aR)) (acR c Y G)))) aq)) (aaM (iD 0 (Qi aR)) (acR c Y G)))) aq))
  (aD (uO (rP (cmp_eq C) (iD 0 aR) (u5 aq))
  (cH (s_ret (uQ aq (ao 1))))
  uF)
  (aD (uO (rP (cmp_eq C) (iD 0 aR) (u5 aq))
  (cH (s_ret (uQ (rG (uQ (rG (uQ (rG (uQ (rG (uQ aq (iD 0 aR))) aq)) (iD 0 aR))) (ao 1))) aq)))
  uF)
  (cH (s_ret (uQ (rG (uQ (rG (uQ (rG (uQ (iD 0 aR) aq)) (iD 0 aR))) (ao 1))) aq))))))
theorem Tc (c : cI K) (Y : K.In base) (G : base.Ns mainGlobals mg) : ∃ fd : FuncData, v9 P w K mg base (T K) 1 (Gq.adr K) fd Gp uL ∧ Bn K (T K) fd Gp 1 [] (aK []) := by
 obtain ⟨fd, F⟩ := c.def_ 21 (d := Gq) rfl
 exact ⟨fd, ⟨fn_sim F SJ (P0 c Y G), F.kp⟩, (vo (FunD.bindsN F fun _ _ _ _ _ _ us hl => match us, hl with | [_], _ => (by kernel_rfl)))⟩
theorem Ri (c : cI K) (Y : K.In base) (G : base.Ns mainGlobals mg) : Does P w K mg base (T K) 0 Mh "variant_nodes" (defScope yF) (defBody yF) Mp := by
 intro f cdv A outer s H E C
 exact (aD (uO (rP (cmp_eq C) (iD 0 aR) (u5 aq))
  (cH (s_ret (yt (aa (ao 0) aJ))))
  uF)
  (aD (acr C (HQ (uH (iD 0 aR)) (HQ (uH (iD 0 aR)) (HQ (uH (iD 0 aR)) aas))) (HR C 1 (HR C 2 (HR C 3 aau))))
  (aD (uO (rP (cmp_eq C) (ao 1) (u5 aq))
  (cH (v4 C 1 aq))
  uF)
  (aD (aaw C 4 [("filling", 5)] (Nr (Jv (aaj c Y G rfl rfl))) (by decide) (fun _ _ _ _ _ => (xP (Cq.blk C) 5)) (fun _ _ _ _ _ => Kd) (fun _ _ _ _ _ => (tU (aa aq (aa aq (aa (ao 1) (aa (ao 5) (aa (ao 2) (aa (ao 3) aJ)))))))) (blkOk_by rfl) (sw_true rfl rfl rfl rfl))
  (aD (uO (rP (cmp_eq C) (ao 1) (u5 aq))
  (cH (vC (aaA 4 (tU (aa aq (aa aq (aa aq (aa aq (aa (ao 2) (aa (ao 3) aJ))))))))))
  uF)
  (aD (uO (rP (V8) (ao 1) (u5 (tU (aa aq (aa aq aJ)))))
  (cH (vC (afg 4 (rG (abf C [("filling", 5)] (Nr (Jv (acS c Y G rfl rfl))) (by decide) (fun _ _ _ _ _ => (xP (Cq.blk C) 5)) (fun _ _ _ _ _ => Kd) (fun _ _ _ _ _ => (tU (aa aq (aa aq (aa (ao 1) (aa (ao 5) (aa (ao 2) (aa (ao 3) aJ)))))))) (blkOk_by rfl))))))
  uF)
  (cH (s_ret (HD 4)))))))))
theorem Uv (c : cI K) (Y : K.In base) (G : base.Ns mainGlobals mg) : ∃ fd : FuncData, v9 P w K mg base (T K) 1 (Hg.adr K) fd Hf Hm ∧ Bn K (T K) fd Hf 1 [] (aK []) := by
 obtain ⟨fd, F⟩ := c.def_ 22 (d := Hg) rfl
 exact ⟨fd, ⟨fn_sim F Uh (Ri c Y G), F.kp⟩, (vo (FunD.bindsN F fun _ _ _ _ _ _ us hl => match us, hl with | [_], _ => (by kernel_rfl)))⟩
theorem Xz (c : cI K) (Y : K.In base) (G : base.Ns mainGlobals mg) : Does P w K mg base (T K) 2 U8 "variants" (defScope Dr) (defBody Dr) J9 := by
 obtain ⟨fd_Term____init__, F_Term____init__, B_Term____init___0⟩ := JS (P := P) (w := w) c Y G
 obtain ⟨fd_variant_nodes, F_variant_nodes, B_variant_nodes_0⟩ := Uv (P := P) (w := w) c Y G
 intro f cdv A outer s H E C
 exact (cH (s_ret (abf C [("node", 1)] (Nr (rG (rN C F_variant_nodes (by decide) B_variant_nodes_0 (Ur c Y G) (aa (xM (N5 c rfl) (t8 0)) aJ)))) (by decide) (fun _ _ _ _ _ => (xP (Cq.blk C) 1)) (fun _ _ _ _ _ => Kd) (fun _ _ _ _ _ => (rG (aaC (Cq.blk C) F_Term____init__ (by decide) B_Term____init___0 (R9 c Y G) (aa (xM (wH c rfl) (t8 0)) (aa (ao 1) aJ))))) (blkOk_by rfl))))
theorem aal (c : cI K) (Y : K.In base) (G : base.Ns mainGlobals mg) : ∃ fd : FuncData, v9 P w K mg base (T K) 3 (Ov.adr K) fd Ou Eo ∧ Bn K (T K) fd Ou 1 [] (aK []) := by
 obtain ⟨fd, F⟩ := c.def_ 23 (d := Ov) rfl
 exact ⟨fd, ⟨fn_sim F aaf (Xz c Y G), F.kp⟩, (vo (FunD.bindsN F fun _ _ _ _ _ _ us hl => match us, hl with | [_], _ => (by kernel_rfl)))⟩
theorem Vu (c : cI K) (Y : K.In base) (G : base.Ns mainGlobals mg) : Does P w K mg base (T K) 0 QC "write_leaf" (defScope Bl) (defBody Bl) Ra := by
 intro f cdv A outer s H E C
 exact (aD (uO (rP (cmp_eq C) (iD 0 aR) (u5 aq))
  (cH (s_ret (uH (zb (rJ aq (rJ (wR (iD 0 aR)) (rJ aq (rJ (wR (iD 0 aR)) (rJ aq Fe)))))))))
  uF)
  (aD (v4 C 1 (zb (rJ (wR (iD 0 aR)) (rJ aq (rJ (wR (iD 0 aR)) (rJ aq (rJ (wR (iD 0 aR)) (rJ aq Fe))))))))
  (aD (uO (rP (cmp_eq C) (iD 0 aR) (u5 aq))
  (cH (s_ret (uH (zb (rJ aq (rJ (wR (iD 0 aR)) (rJ aq (rJ (wR (ao 1)) (rJ aq Fe)))))))))
  uF)
  (cH (s_ret (uH (zb (rJ (wR (iD 0 aR)) (rJ aq (rJ (wR (ao 1)) (rJ aq Fe)))))))))))
theorem XC (c : cI K) (Y : K.In base) (G : base.Ns mainGlobals mg) : ∃ fd : FuncData, v9 P w K mg base (T K) 1 (K7.adr K) fd K6 Rb ∧ Bn K (T K) fd K6 1 [] (aK []) := by
 obtain ⟨fd, F⟩ := c.def_ 24 (d := K7) rfl
 exact ⟨fd, ⟨fn_sim F Xu (Vu c Y G), F.kp⟩, (vo (FunD.bindsN F fun _ _ _ _ _ _ us hl => match us, hl with | [_], _ => (by kernel_rfl)))⟩
theorem WN (c : cI K) (Y : K.In base) (G : base.Ns mainGlobals mg) {j : Nat} {R : Fn} {fdR : FuncData} (F_write : v9 P w K mg base (T K) (2 + 2 * j) (d_write.adr K) fdR Bm R) (B_write_0 : Bn K (T K) fdR Bm 1 [] (aK [])) : Does P w K mg base (T K) (2 + 2 * j) TY "bracketed" (defScope Cp) (defBody Cp) (Jj R) := by
 intro f cdv A outer s H E C
 exact (aD (vz C 2 (rN C F_write (by omega) B_write_0 (Ja c Y G) (aa (ao 0) aJ)))
  (cH (s_ret (uH (s_if (rP (Kv) (iD 0 aR) (t8 1)) (zb (rJ aq (rJ (wR (ao 2)) (rJ aq Fe)))) (ao 2))))))
theorem Z0 (c : cI K) (Y : K.In base) (G : base.Ns mainGlobals mg) {j : Nat} {R : Fn} {fdR : FuncData} (F_write : v9 P w K mg base (T K) (2 + 2 * j) (d_write.adr K) fdR Bm R) (B_write_0 : Bn K (T K) fdR Bm 1 [] (aK [])) : ∃ fd : FuncData, v9 P w K mg base (T K) (2 + 2 * j + 1) (M8.adr K) fd M7 (Nb R) ∧ Bn K (T K) fd M7 2 [] (aK []) := by
 obtain ⟨fd, F⟩ := c.def_ 25 (d := M8) rfl
 exact ⟨fd, ⟨fn_sim F YX (WN c Y G F_write B_write_0), F.kp⟩, (vo (FunD.bindsN F fun _ _ _ _ _ _ us hl => match us, hl with | [_, _], _ => (by kernel_rfl)))⟩
theorem abY (c : cI K) (Y : K.In base) (G : base.Ns mainGlobals mg) {j : Nat} {R : Fn} {fdR : FuncData} (F_write : v9 P w K mg base (T K) (2 + 2 * j) (d_write.adr K) fdR Bm R) (B_write_0 : Bn K (T K) fdR Bm 1 [] (aK [])) : Does P w K mg base (T K) (2 + 2 * j + 1) aaF "write" (defScope Kf) (defBody Kf) (aaX R) := by
 obtain ⟨fd_bracketed, F_bracketed, B_bracketed_0⟩ := Z0 (P := P) (w := w) c Y G F_write B_write_0
 obtain ⟨fd_write_leaf, F_write_leaf, B_write_leaf_0⟩ := XC (P := P) (w := w) c Y G
 intro f cdv A outer s H E C
 exact (aD (afc (iD 0 aR) (R4 (acG (Mj Kh (Mj Kh Zj))) (cH (s_ret (rN C F_write_leaf (by omega) B_write_leaf_0 (Xw c Y G) (aa (ao 0) aJ))))
  (R4 Kh (cH (s_ret (uH (zb (rJ aq (rJ (wR (rG (rN C F_write (by omega) B_write_0 (Ja c Y G) (aa (iD 0 aR) aJ)))) (rJ aq Fe)))))))
  (R4 (acG (Mj Kh (Mj Kh Zj))) (cH (s_ret (uH (zb (rJ (wR (iD 0 aR)) (rJ aq (rJ (wR (rG (rN C F_write (by omega) B_write_0 (Ja c Y G) (aa (iD 0 aR) aJ)))) (rJ aq (rJ (wR (rG (rN C F_write (by omega) B_write_0 (Ja c Y G) (aa (iD 0 aR) aJ)))) (rJ aq Fe))))))))))
  (R4 Kh (aD (vz C 1 (rN C F_bracketed (by omega) B_bracketed_0 (Rf c Y G) (aa (iD 0 aR) (aa (tU (aa aq (aa aq (aa aq aJ)))) aJ))))
  (cH (s_ret (uH (s_if (rP (cmp_eq C) (iD 0 aR) (u5 (Qi aR))) (zb (rJ aq (rJ (wR (ao 1)) Fe))) (zb (rJ (wR (iD 0 aR)) (rJ aq (rJ (wR (ao 1)) Fe)))))))))
  agv)))))
  (aD (v4 C 2 (s_if (rP (cmp_eq C) (iD 0 aR) (u5 aq)) aq aq))
  (aD (v4 C 3 (tU (aa aq (aa aq aJ))))
  (aD (uO (Rz (Yo (rP (cmp_eq C) (UG (iD 0 aR) aR) (u5 aq)) (V9 (rP cmp_lt (UG (iD 0 aR) aR) aR))))
  (cH (v4 C 3 (tU (aa aq aJ))))
  uF)
  (cH (s_ret (uH (zb (rJ (wR (rG (rN C F_write (by omega) B_write_0 (Ja c Y G) (aa (iD 0 aR) aJ)))) (rJ aq (rJ (wR (ao 2)) (rJ aq (rJ (wR (rG (rN C F_bracketed (by omega) B_bracketed_0 (Rf c Y G) (aa (iD 0 aR) (aa (ao 3) aJ))))) Fe)))))))))))))
theorem aeb (c : cI K) (Y : K.In base) (G : base.Ns mainGlobals mg) : ∃ fd : FuncData, v9 P w K mg base (T K) 4 (d_write.adr K) fd Bm Wu ∧ Bn K (T K) fd Bm 1 [] (aK []) := by
 obtain ⟨fd, F⟩ := c.def_ 26 (d := d_write) rfl
 have B : Bn K (T K) fd Bm 1 [] (aK []) := (vo (FunD.bindsN F fun _ _ _ _ _ _ us hl => match us, hl with | [_], _ => (by kernel_rfl)))
 have key : ∀ j, v9 P w K mg base (T K) (2 + 2 * j) (d_write.adr K) fd Bm (Uq j) := by
  intro j
  induction j with
  | zero => exact ⟨fn_sim (k := 1) F YZ (m := fun _ _ => .err) (fun f cdv A outer s H E C B w σ H2 fr h D R p => p.elim), F.kp⟩
  | succ j ih => exact ⟨fn_sim F YZ (abY c Y G ih B), F.kp⟩
 exact ⟨fd, key 1, B⟩
theorem Vv (c : cI K) (Y : K.In base) (G : base.Ns mainGlobals mg) : Does P w K mg base (T K) 4 QD "Term.text" (defScope Bo) (defBody Bo) Hn := by
 obtain ⟨fd_write, F_write, B_write_0⟩ := aeb (P := P) (w := w) c Y G
 intro f cdv A outer s H E C
 exact (cH (s_ret (rN C F_write (by decide) B_write_0 (Ja c Y G) (aa (xM (N5 c rfl) (t8 0)) aJ))))
theorem XD (c : cI K) (Y : K.In base) (G : base.Ns mainGlobals mg) : ∃ fd : FuncData, v9 P w K mg base (T K) 5 (K9.adr K) fd K8 Bw ∧ Binds K fd K8 [] := by
 obtain ⟨fd, F⟩ := c.def_ 27 (d := K9) rfl
 exact ⟨fd, ⟨fn_sim F Xv (Vv c Y G), F.kp⟩, (FunD.bindsN F fun _ _ _ _ _ _ us hl => match us, hl with | [_], _ => (by kernel_rfl))⟩
theorem Rj (c : cI K) (Y : K.In base) (G : base.Ns mainGlobals mg) : Does P w K mg base (T K) 0 Mi "_law_variants" (defScope yG) (defBody yG) CN := by
 intro f cdv A outer s H E C
 exact (aD (uO (rP (cmp_eq C) (iD 0 aR) (u5 aq))
  (cH (s_ret (yt (aa (ao 0) aJ))))
  uF)
  (aD (acr C (HQ (uH (iD 0 aR)) (HQ (uH (iD 0 aR)) (HQ (uH (iD 0 aR)) aas))) (HR C 1 (HR C 2 (HR C 3 aau))))
  (aD (uO (rP (Kv) (ao 1) (u5 (tU (aa aq (aa aq aJ)))))
  (aD (vz C 4 (yt (aa (tU (aa aq (aa aq (aa aq aJ)))) (aa (tU (aa aq (aa aq (aa aq aJ)))) (aa (tU (aa aq (aa aq (aa aq aJ)))) (aa (tU (aa aq (aa aq (aa aq aJ)))) aJ))))))
  (cH (vz C 4 (uQ (ao 4) (rG (yt (aa (tU (aa aq (aa aq (aa aq aJ)))) (aa (tU (aa aq (aa aq (aa aq aJ)))) aJ))))))))
  (cH (uO (rP (Kv) (ao 1) (u5 (tU (aa aq (aa aq aJ)))))
  (cH (vz C 4 (yt (aa (tU (aa aq (aa (ao 1) (aa aq aJ)))) (aa (tU (aa aq (aa (ao 1) (aa aq aJ)))) (aa (tU (aa aq (aa (ao 1) (aa aq aJ)))) aJ))))))
  (aD (vz C 4 (yt (aa (tU (aa aq (aa (ao 1) (aa aq aJ)))) (aa (tU (aa aq (aa (ao 1) (aa aq aJ)))) (aa (tU (aa aq (aa (ao 1) (aa aq aJ)))) aJ)))))
  (cH (vz C 4 (uQ (ao 4) (rG (yt (aa (tU (aa aq (aa (ao 1) (aa aq aJ)))) (aa (tU (aa aq (aa (ao 1) (aa aq aJ)))) aJ)))))))))))
  (cH (s_ret (abf C [("_law_row", 5)] (Nr (ao 4)) (by decide) (fun _ _ _ _ _ => (xP (Cq.blk C) 5)) (fun _ _ _ _ _ => Kd) (fun _ _ _ _ _ => (rG (uQ (ao 5) (tU (aa (ao 2) (aa (ao 3) aJ)))))) (blkOk_by rfl)))))))
theorem Uw (c : cI K) (Y : K.In base) (G : base.Ns mainGlobals mg) : ∃ fd : FuncData, v9 P w K mg base (T K) 1 (Hj.adr K) fd Hi yO ∧ Bn K (T K) fd Hi 1 [] (aK []) := by
 obtain ⟨fd, F⟩ := c.def_ 28 (d := Hj) rfl
 exact ⟨fd, ⟨fn_sim F Ui (Rj c Y G), F.kp⟩, (vo (FunD.bindsN F fun _ _ _ _ _ _ us hl => match us, hl with | [_], _ => (by kernel_rfl)))⟩
theorem Td (c : cI K) (Y : K.In base) (G : base.Ns mainGlobals mg) : Does P w K mg base (T K) 0 NK "Term.__eq__" (defScope zA) (defBody zA) NZ := by
 intro f cdv A outer s H E C
 exact (aD (uO (Uz (Ez (u5 (acy (Zf c) (ao 1) (acx (c := 1) (R9 c Y G)) (Pj c Y G)))))
  (cH (s_ret (uH Ly)))
  uF)
  (cH (s_ret (uH (acg (Uy (cmp_eq C) (xM (wH c rfl) (t8 0)) (u5 (xM (wH c rfl) (t8 1)))) (acf (Uy (cmp_eq C) (xM (N5 c rfl) (t8 0)) (u5 (xM (N5 c rfl) (t8 1))))))))))
theorem Vw (c : cI K) (Y : K.In base) (G : base.Ns mainGlobals mg) : ∃ fd : FuncData, v9 P w K mg base (T K) 1 (Im.adr K) fd Il vK ∧ Bn K (T K) fd Il 2 [] (aK []) := by
 obtain ⟨fd, F⟩ := c.def_ 29 (d := Im) rfl
 exact ⟨fd, ⟨fn_sim F U9 (Td c Y G), F.kp⟩, (vo (FunD.bindsN F fun _ _ _ _ _ _ us hl => match us, hl with | [_, _], _ => (by kernel_rfl)))⟩
theorem aaY (c : cI K) (Y : K.In base) (G : base.Ns mainGlobals mg) {X : Cx} {k : Nat} (hk : 6 ≤ k) (hP : X.prog = P) (hw : X.w = w) (hK : X.K = K) (hm : X.mg = mg) (hb : X.base = base) : aeB X (T K) k "text" Iz := by
 subst hP hw hK hm hb
 exact ⟨uN (.cons (by
  obtain ⟨fd, F, B⟩ := XD (P := X.prog) (w := X.w) c Y G
  exact ⟨_, _, _, fd, _, He.cls_ok (c.fact 32 (f := .he (.cls "Term")) rfl), ae4 (c.fact 38 (f := .prop "Term" "text") rfl), F, B, rfl, Nat.le_trans (by decide) hk⟩) .nil)⟩
theorem Vx (c : cI K) (Y : K.In base) (G : base.Ns mainGlobals mg) {X : Cx} {k : Nat} (hk : 1 ≤ k) (hP : X.prog = P) (hw : X.w = w) (hK : X.K = K) (hm : X.mg = mg) (hb : X.base = base) : Do X (T K) k "__eq__" yP 1 [] (aK []) := by
 subst hP hw hK hm hb
 exact ⟨uN (.cons (by
  obtain ⟨fd, F, B⟩ := Vw (P := X.prog) (w := X.w) c Y G
  exact ⟨_, _, fd, _, He.cls_ok (c.fact 32 (f := .he (.cls "Term")) rfl), He.meth_ok (c.fact 44 (f := .he (.meth "Term" "__eq__")) rfl), F, B, (by show _ ∉ fld 1; decide +kernel), Nat.le_trans (by decide) hk⟩) .nil)⟩
theorem XF (c : cI K) (Y : K.In base) (G : base.Ns mainGlobals mg) {X : Cx} {k : Nat} (hk : 10 ≤ k) (hP : X.prog = P) (hw : X.w = w) (hK : X.K = K) (hm : X.mg = mg) (hb : X.base = base) : CmF X (T K) k 1 "read" 2 zJ := by
 subst hP hw hK hm hb
 obtain ⟨fd, F, B⟩ := Xy (P := X.prog) (w := X.w) c Y G
 obtain ⟨cr, p, cm⟩ := ags (YF (c.fact 58 (f := .raw (fun K => cmX K (He.ga K "Term") "read")) rfl))
 exact ⟨_, p, _, fd, _, cr, cm, F, B, Nat.le_trans (by decide) hk⟩
theorem aec (c : cI K) (Y : K.In base) (G : base.Ns mainGlobals mg) : Does P w K mg base (T K) 10 aeC "law" (defScope RQ) (defBody RQ) Vm := by
 obtain ⟨fd__law_draw, F__law_draw, B__law_draw_0⟩ := Lq (P := P) (w := w) c Y G
 obtain ⟨fd__law_leaf, F__law_leaf, B__law_leaf_0⟩ := ZV (P := P) (w := w) c Y G
 obtain ⟨fd__law_leaf_text, F__law_leaf_text, B__law_leaf_text_0⟩ := Tc (P := P) (w := w) c Y G
 obtain ⟨fd__law_source, F__law_source, B__law_source_0⟩ := Ww (P := P) (w := w) c Y G
 obtain ⟨fd__law_variants, F__law_variants, B__law_variants_0⟩ := Uw (P := P) (w := w) c Y G
 obtain ⟨fd_variants, F_variants, B_variants_0⟩ := aal (P := P) (w := w) c Y G
 intro f cdv A outer s H E C
 exact (aD (abe C (aav (aeX C aR (aeY C aR (EY (t8 0) (Fp c Y G)) (agR c Y G)) (agS c Y G)) (ZQ c Y G)) (xP C 1)
  (aD (v4 C 2 (RJ (rN C F__law_source (by decide) B__law_source_0 (Wv c Y G) (aa (ao 0) (aa (ao 1) aJ)))))
  (aD (vz C 3 (uQ aR (rG (rN C F__law_draw (by decide) B__law_draw_0 (Dg c Y G) (aa (ao 2) (aa aR aJ))))))
  (aD (vz C 4 (rN C F__law_leaf (by decide) B__law_leaf_0 (ZP c Y G) (aa (ao 2) (aa (ao 3) aJ))))
  (aD (vz C 5 (ahg (c := 1) C (XF (P := P) c Y G (by decide) rfl rfl rfl rfl rfl) (R9 c Y G) (aa (rG (rN C F__law_leaf_text (by decide) B__law_leaf_text_0 (Ew c Y G) (aa (ao 4) aJ))) (aa (ao 3) aJ))))
  (aD (aaw C 6 [("_law_one", 9)] (Nr (rG (rN C F__law_variants (by decide) B__law_variants_0 (Us c Y G) (aa (ao 4) aJ)))) (by decide) (fun _ _ _ _ _ => (xP (Cq.blk C) 9)) (fun _ _ _ _ _ => Kd) (fun _ _ _ _ _ => (rG (rN (Cq.blk C) F__law_leaf_text (by decide) B__law_leaf_text_0 (Ew c Y G) (aa (ao 9) aJ)))) (blkOk_by rfl) (sw_true rfl rfl rfl rfl))
  (aD (abe C (aav aR (ZQ c Y G)) (xP C 7)
  (aD (v4 C 8 (RJ (rN C F_variants (by decide) B_variants_0 (aah c Y G) (aa (ao 5) aJ))))
  (aD (uO (Rz (XS (Uz (Ez (u5 (acy (Zf c) (ao 8) (ag8 (t := "list") (afE c Y G)) (Pj c Y G))))) (Yn (rP (G4 C) (rG (Zq C [("_law_one", 9)] (Zo (ao 8)) (by decide) (fun _ _ _ _ _ => (xP (Cq.blk C) 9)) (fun _ _ _ _ _ => Kd) (fun _ _ _ _ _ => (rG (aaD (Cq.blk C) (aaY (P := P) c Y G (by decide) rfl rfl rfl rfl rfl) (ao 9)))) (blkOk_by rfl))) (t8 6)))))
  (cH (s_ret (uH Ly)))
  uF)
  (aD (uO (Rz (XS (rP (G4 C) (rG (Zq C [("_law_one", 9)] (Zo (ao 8)) (by decide) (fun _ _ _ _ _ => (xP (Cq.blk C) 9)) (fun _ _ _ _ _ => (aax (rP (G4 (Cq.blk C)) (xM (wH c rfl) (t8 9)) (t8 3)))) (fun _ _ _ _ _ => (ao 9)) (blkOk_by rfl))) (G3 (yt aJ))) (Yn (rP (G4 C) (EY (G3 (Zq C [("_law_one", 9)] (Zo (ao 8)) (by decide) (fun _ _ _ _ _ => (xP (Cq.blk C) 9)) (fun _ _ _ _ _ => (aax (ae8 (afa (j := 1) (Cq.blk C) (by decide) (Vx (P := P) c Y G (by decide) rfl rfl rfl rfl rfl) (Vn c rfl)) (ao 9) (ao 5)))) (fun _ _ _ _ _ => (ao 9)) (blkOk_by rfl))) (Fp c Y G)) (u5 aR)))))
  (cH (s_ret (uH Ly)))
  uF)
  (cH (vC (aaA 8 (ao 5))))))))
  (cH (uO (rP (G4 C) (rG (aaD C (aaY (P := P) c Y G (by decide) rfl rfl rfl rfl rfl) (ao 5))) (G3 (rN C F__law_leaf_text (by decide) B__law_leaf_text_0 (Ew c Y G) (aa (ao 4) aJ))))
  (cH (s_ret (uH Ly)))
  uF)))))))))
  (cH (s_ret (uH Ly))))
end
end L
namespace L
open PySem PySem.Spec L2 Pk
theorem uV {fr : Fr} {h : Hh} {Q : Fl → Fr → Hh → Prop} {E : bh → Fr → Hh → Prop} : Wp (Ds fr h) Q E = Wp ((
 (aC (cP 5 (cJ 2 0 v7 (aK []) (aj [(ak 0), (mJ (vq [(mC (.str "first")), (mC (.str "last")), (mC (.str "top")), (mC (.str "low")), (mC (.str "change")), (mC (.str "rises")), (mC (.str "rises")), (mC (.str "told"))]))]) (aj [])))
 (gK (oh [(mC (.str "each")), (ak 5), (mJ (BW (bf uE (ak 5) (mC (.str "told"))) (mC (.str "raw")) (cJ 2 0 v7 (aK []) (aj [(ak 0), (mJ (vq [(mC (.str "raw")), (mC (.str "zero")), (mC (.str "held"))]))]) (aj [])))), (ak 2), (ak 3)])))) fr h) Q E := congrArg (fun m => Wp (m fr h) Q E) Ds.eq_1
theorem uW {fr : Fr} {h : Hh} {Q : Fl → Fr → Hh → Prop} {E : bh → Fr → Hh → Prop} : Wp (Dt fr h) Q E = Wp ((
 (aC (tO (bf O7 (ak 4) (mC (.int 3)))
 (aC (cP 5 (cJ 2 0 v7 (aK []) (aj [(ak 0), (mJ (vq [(mC (.str "first")), (mC (.str "last")), (mC (.str "change")), (mC (.str "rises")), (mC (.str "rises"))]))]) (aj [])))
 (gK (oh [(mC (.str "all")), (ak 5), (mJ (cJ 2 0 v7 (aK []) (aj [(ak 0), (mJ (vq [(mC (.str "zero")), (mC (.str "held"))]))]) (aj []))), (ak 2), (ak 3)])))
 (M.ret .nx))
 Ds)) fr h) Q E := congrArg (fun m => Wp (m fr h) Q E) Dt.eq_1
theorem uX {fr : Fr} {h : Hh} {Q : Fl → Fr → Hh → Prop} {E : bh → Fr → Hh → Prop} : Wp (Du fr h) Q E = Wp ((
 (aC (tO (bf uE (ak 4) (mC (.int 0)))
 (gK (oh [(mC (.str "events")), (ak 2), (ak 3)]))
 (M.ret .nx))
 Dt)) fr h) Q E := congrArg (fun m => Wp (m fr h) Q E) Du.eq_1
theorem uY {fr : Fr} {h : Hh} {Q : Fl → Fr → Hh → Prop} {E : bh → Fr → Hh → Prop} : Wp (Dy fr h) Q E = Wp ((
 (aC (cP 4 (cJ 2 0 vG (aK []) (aj [(ak 0), (mC (.int 5))]) (aj [])))
 Du)) fr h) Q E := congrArg (fun m => Wp (m fr h) Q E) Dy.eq_1
theorem uZ {fr : Fr} {h : Hh} {Q : Fl → Fr → Hh → Prop} {E : bh → Fr → Hh → Prop} : Wp (Dz fr h) Q E = Wp ((
 (aC (cP 3 (cJ 2 0 v7 (aK []) (aj [(ak 0), (mJ (vq [(ak 1), (mJ (bf tV (mJ (bf tV (ak 2) (mC (.int 1)))) (mJ (cJ 2 0 vG (aK []) (aj [(ak 0), (bf Yj (ak 1) (ak 2))]) (aj [])))))]))]) (aj [])))
 Dy)) fr h) Q E := congrArg (fun m => Wp (m fr h) Q E) Dz.eq_1
theorem wI {fr : Fr} {h : Hh} {Q : Fl → Fr → Hh → Prop} {E : bh → Fr → Hh → Prop} : Wp (Ff fr h) Q E = Wp ((
 (aC (cP 2 (cJ 2 0 v7 (aK []) (aj [(ak 0), (mJ (vq [(mC (.int 0)), (mC (.int 0)), (mJ (cJ 2 0 vG (aK []) (aj [(ak 0), (ak 1)]) (aj [])))]))]) (aj [])))
 Dz)) fr h) Q E := congrArg (fun m => Wp (m fr h) Q E) Ff.eq_1
theorem Ux {fr : Fr} {h : Hh} {Q : Fl → Fr → Hh → Prop} {E : bh → Fr → Hh → Prop} : Wp (zF fr h) Q E = Wp ((
 (aC (xG 0 tQ (ak 1))
 (xG 0 Br (ak 2)))) fr h) Q E := congrArg (fun m => Wp (m fr h) Q E) zF.eq_1
theorem uI {fr : Fr} {h : Hh} {Q : Fl → Fr → Hh → Prop} {E : bh → Fr → Hh → Prop} : Wp (Ce fr h) Q E = Wp ((
 (Oz 2 (fun i j => i + j) (mC (.int 1)))) fr h) Q E := congrArg (fun m => Wp (m fr h) Q E) Ce.eq_1
theorem uJ {fr : Fr} {h : Hh} {Q : Fl → Fr → Hh → Prop} {E : bh → Fr → Hh → Prop} : Wp (FW fr h) Q E = Wp ((
 (tO (bf Aj (gH 0 (ak 1) gJ) (iz 3))
 (yw (Mw (bf O7 (ak 2) (mQ vh (iz 0))) (bf Aj (gH 0 (ak 2) gJ) (iz 3))) Ce 60)
 (M.ret .nx))) fr h) Q E := congrArg (fun m => Wp (m fr h) Q E) FW.eq_1
theorem uK {fr : Fr} {h : Hh} {Q : Fl → Fr → Hh → Prop} {E : bh → Fr → Hh → Prop} : Wp (FZ fr h) Q E = Wp ((
 (aC (Fy (Jr (oh [(mC (.str "abcdefghijklmnopqrstuvwxyz")), (mC (.str "0123456789"))])) (wg 3) FW)
 (gK (za 2)))) fr h) Q E := congrArg (fun m => Wp (m fr h) Q E) FZ.eq_1
theorem vX {fr : Fr} {h : Hh} {Q : Fl → Fr → Hh → Prop} {E : bh → Fr → Hh → Prop} : Wp (Hl fr h) Q E = Wp ((
 (aC (cP 2 (bf tV (ak 1) (mC (.int 1))))
 FZ)) fr h) Q E := congrArg (fun m => Wp (m fr h) Q E) Hl.eq_1
theorem yQ {fr : Fr} {h : Hh} {Q : Fl → Fr → Hh → Prop} {E : bh → Fr → Hh → Prop} : Wp (yH fr h) Q E = Wp ((
 (aC (tO (bf uE (gH 1 (ak 3) gJ) (mC (.str " ")))
 (aC (Oz 3 (fun i j => i + j) (mC (.int 1)))
 (M.ret .ct))
 (M.ret .nx))
 (aC (cP 4 (cJ 2 0 BR (aK []) (aj [(ak 1), (ak 3)]) (aj [])))
 (aC (su (Jg (mQ (ug xU) (iz 0)) (mJ (gH 1 (Lz (UJ (ak 3)) (UJ (ak 4))) zR))))
 (aC (su (Jg (mQ (ug zf) (iz 0)) (ak 3)))
 (cP 3 (ak 4))))))) fr h) Q E := congrArg (fun m => Wp (m fr h) Q E) yH.eq_1
theorem yR {fr : Fr} {h : Hh} {Q : Fl → Fr → Hh → Prop} {E : bh → Fr → Hh → Prop} : Wp (yI fr h) Q E = Wp ((
 (aC (yw (bf O7 (ak 3) (mQ vh (iz 1))) yH 60)
 (su (Jg (mQ (ug zf) (iz 0)) (mQ vh (iz 1)))))) fr h) Q E := congrArg (fun m => Wp (m fr h) Q E) yI.eq_1
theorem yS {fr : Fr} {h : Hh} {Q : Fl → Fr → Hh → Prop} {E : bh → Fr → Hh → Prop} : Wp (yJ fr h) Q E = Wp ((
 (aC (cP 3 (mC (.int 0)))
 yI)) fr h) Q E := congrArg (fun m => Wp (m fr h) Q E) yJ.eq_1
theorem yU {fr : Fr} {h : Hh} {Q : Fl → Fr → Hh → Prop} {E : bh → Fr → Hh → Prop} : Wp (yK fr h) Q E = Wp ((
 (aC (xG 0 wV (mC (.int 0)))
 yJ)) fr h) Q E := congrArg (fun m => Wp (m fr h) Q E) yK.eq_1
theorem yV {fr : Fr} {h : Hh} {Q : Fl → Fr → Hh → Prop} {E : bh → Fr → Hh → Prop} : Wp (yL fr h) Q E = Wp ((
 (aC (xG 0 zf (FJ (vq [])))
 yK)) fr h) Q E := congrArg (fun m => Wp (m fr h) Q E) yL.eq_1
theorem yW {fr : Fr} {h : Hh} {Q : Fl → Fr → Hh → Prop} {E : bh → Fr → Hh → Prop} : Wp (yM fr h) Q E = Wp ((
 (aC (xG 0 xU (FJ (vq [])))
 yL)) fr h) Q E := congrArg (fun m => Wp (m fr h) Q E) yM.eq_1
theorem Ae {fr : Fr} {h : Hh} {Q : Fl → Fr → Hh → Prop} {E : bh → Fr → Hh → Prop} : Wp (yz fr h) Q E = Wp ((
 (aC (xG 0 tQ (ak 2))
 yM)) fr h) Q E := congrArg (fun m => Wp (m fr h) Q E) yz.eq_1
theorem Jz {fr : Fr} {h : Hh} {Q : Fl → Fr → Hh → Prop} {E : bh → Fr → Hh → Prop} : Wp (yC fr h) Q E = Wp ((
 (gK (BW (bf O7 (mQ (ug wV) (iz 0)) (mQ vh (mQ (ug xU) (iz 0)))) (bf gJ (mQ (ug xU) (iz 0)) (mQ (ug wV) (iz 0))) (mC (.str ""))))) fr h) Q E := congrArg (fun m => Wp (m fr h) Q E) yC.eq_1
theorem JB {fr : Fr} {h : Hh} {Q : Fl → Fr → Hh → Prop} {E : bh → Fr → Hh → Prop} : Wp (zY fr h) Q E = Wp ((
 (aC (Bp 0 wV (fun i j => i + j) (mC (.int 1)))
 (gK (mC (.bl true))))) fr h) Q E := congrArg (fun m => Wp (m fr h) Q E) zY.eq_1
theorem Ms {fr : Fr} {h : Hh} {Q : Fl → Fr → Hh → Prop} {E : bh → Fr → Hh → Prop} : Wp (z7 fr h) Q E = Wp ((
 (aC (tO (bf Ey (mJ (tX 0 0 t7 (aK []) (ak 0) (aj []) (aj []))) (iz 1))
 (gK (mC (.bl false)))
 (M.ret .nx))
 zY)) fr h) Q E := congrArg (fun m => Wp (m fr h) Q E) z7.eq_1
theorem GX {fr : Fr} {h : Hh} {Q : Fl → Fr → Hh → Prop} {E : bh → Fr → Hh → Prop} : Wp (wY fr h) Q E = Wp ((
 (gK (Oc (bf (fun h x y => (Ey h x y).map .bl) (mJ (tX 0 0 t7 (aK []) (ak 0) (aj []) (aj []))) (mC (.str ""))) (bf (fun h x y => (Aj h x y).map .bl) (bf gJ (mJ (tX 0 0 t7 (aK []) (ak 0) (aj []) (aj []))) (mC (.int 0))) (mC (.str "0123456789")))))) fr h) Q E := congrArg (fun m => Wp (m fr h) Q E) wY.eq_1
theorem Tf {fr : Fr} {h : Hh} {Q : Fl → Fr → Hh → Prop} {E : bh → Fr → Hh → Prop} : Wp (Am fr h) Q E = Wp ((
 (aC (Bp 0 wV (fun i j => i + j) (mC (.int 1)))
 (gK (za 2)))) fr h) Q E := congrArg (fun m => Wp (m fr h) Q E) Am.eq_1
theorem Th {fr : Fr} {h : Hh} {Q : Fl → Fr → Hh → Prop} {E : bh → Fr → Hh → Prop} : Wp (Ao fr h) Q E = Wp ((
 (aC (tO (bf Qm (ak 2) (iz 1))
 (su (tX 0 0 DG (aK []) (ak 0) (aj []) (aj [])))
 (M.ret .nx))
 Am)) fr h) Q E := congrArg (fun m => Wp (m fr h) Q E) Ao.eq_1
theorem WP {fr : Fr} {h : Hh} {Q : Fl → Fr → Hh → Prop} {E : bh → Fr → Hh → Prop} : Wp (Bt fr h) Q E = Wp ((
 (aC (cP 2 (tX 0 0 t7 (aK []) (ak 0) (aj []) (aj [])))
 Ao)) fr h) Q E := congrArg (fun m => Wp (m fr h) Q E) Bt.eq_1
theorem Hv {fr : Fr} {h : Hh} {Q : Fl → Fr → Hh → Prop} {E : bh → Fr → Hh → Prop} : Wp (zK fr h) Q E = Wp ((
 (aC (Bp 0 wV (fun i j => i + j) (mC (.int 1)))
 (gK (mQ yq (ak 3))))) fr h) Q E := congrArg (fun m => Wp (m fr h) Q E) zK.eq_1
theorem Hw {fr : Fr} {h : Hh} {Q : Fl → Fr → Hh → Prop} {E : bh → Fr → Hh → Prop} : Wp (zL fr h) Q E = Wp ((
 (aC (tO (O8 (bf cGt (mQ vh (iz 3)) (mC (.int 7))) (O8 (Mw (bf uE (gH 3 (mC (.int 0)) gJ) (mC (.str "0"))) (bf cGt (mQ vh (iz 3)) (mC (.int 1)))) (Kw (Np cLe cLe (ak 1) (mQ yq (ak 3)) (ak 2)))))
 (su (tX 0 0 DG (aK []) (ak 0) (aj []) (aj [])))
 (M.ret .nx))
 zK)) fr h) Q E := congrArg (fun m => Wp (m fr h) Q E) zL.eq_1
theorem Ls {fr : Fr} {h : Hh} {Q : Fl → Fr → Hh → Prop} {E : bh → Fr → Hh → Prop} : Wp (zG fr h) Q E = Wp ((
 (aC (cP 3 (tX 0 0 t7 (aK []) (ak 0) (aj []) (aj [])))
 zL)) fr h) Q E := congrArg (fun m => Wp (m fr h) Q E) zG.eq_1
theorem Vy {fr : Fr} {h : Hh} {Q : Fl → Fr → Hh → Prop} {E : bh → Fr → Hh → Prop} : Wp (CJ fr h) Q E = Wp ((
 (aC (tO (mQ D.tru (tX 1 0 zH (aK []) (ak 0) (aj [(mC (.str "["))]) (aj [])))
 (aC (tO (mQ D.tru (tX 0 0 wk (aK []) (ak 0) (aj []) (aj [])))
 (cP 1 (tX 2 0 z8 (aK []) (ak 0) (aj [(mC (.int 0)), (bf Yj (mQ (ug tQ) (iz 0)) (mC (.int 1)))]) (aj [])))
 (M.ret .nx))
 (aC (su (rO rF (ak 0) (aj [(mC (.str ":"))])))
 (aC (tO (mQ D.tru (tX 0 0 wk (aK []) (ak 0) (aj []) (aj [])))
 (cP 2 (tX 2 0 z8 (aK []) (ak 0) (aj [(mJ (bf tV (ak 1) (mC (.int 1)))), (mQ (ug tQ) (iz 0))]) (aj [])))
 (M.ret .nx))
 (su (rO rF (ak 0) (aj [(mC (.str "]"))]))))))
 (M.ret .nx))
 (gK (oh [(ak 1), (ak 2)])))) fr h) Q E := congrArg (fun m => Wp (m fr h) Q E) CJ.eq_1
theorem Vz {fr : Fr} {h : Hh} {Q : Fl → Fr → Hh → Prop} {E : bh → Fr → Hh → Prop} : Wp (CK fr h) Q E = Wp ((
 (aC (cP 2 (mQ (ug tQ) (iz 0)))
 CJ)) fr h) Q E := congrArg (fun m => Wp (m fr h) Q E) CK.eq_1
theorem Z3 {fr : Fr} {h : Hh} {Q : Fl → Fr → Hh → Prop} {E : bh → Fr → Hh → Prop} : Wp (De fr h) Q E = Wp ((
 (aC (cP 1 (mC (.int 0)))
 CK)) fr h) Q E := congrArg (fun m => Wp (m fr h) Q E) De.eq_1
theorem Tj {fr : Fr} {h : Hh} {Q : Fl → Fr → Hh → Prop} {E : bh → Fr → Hh → Prop} : Wp (Aq fr h) Q E = Wp ((
 (aC (su (rO rF (ak 0) (aj [(mC (.str ")"))])))
 (gK (oh [(mC (.str "leaf")), (ak 1), (ak 2), (ak 4), (ak 5), (ak 6)])))) fr h) Q E := congrArg (fun m => Wp (m fr h) Q E) Aq.eq_1
theorem Tn {fr : Fr} {h : Hh} {Q : Fl → Fr → Hh → Prop} {E : bh → Fr → Hh → Prop} : Wp (Ar fr h) Q E = Wp ((
 (aC (su (rO rF (ak 0) (aj [(mC (.str ")"))])))
 Aq)) fr h) Q E := congrArg (fun m => Wp (m fr h) Q E) Ar.eq_1
theorem Tp {fr : Fr} {h : Hh} {Q : Fl → Fr → Hh → Prop} {E : bh → Fr → Hh → Prop} : Wp (Av fr h) Q E = Wp ((
 (aC (Qn (mJ (cJ 1 0 xF (aK []) (aj [(ak 0)]) (aj []))) (LC 2 (BX (wg 5) (BX (wg 6) Oe))))
 Ar)) fr h) Q E := congrArg (fun m => Wp (m fr h) Q E) Av.eq_1
theorem WQ {fr : Fr} {h : Hh} {Q : Fl → Fr → Hh → Prop} {E : bh → Fr → Hh → Prop} : Wp (Bu fr h) Q E = Wp ((
 (aC (cP 4 (rO rF (ak 0) (Ah (ak 3) (aj []))))
 Av)) fr h) Q E := congrArg (fun m => Wp (m fr h) Q E) Bu.eq_1
theorem wu {fr : Fr} {h : Hh} {Q : Fl → Fr → Hh → Prop} {E : bh → Fr → Hh → Prop} : Wp (DK fr h) Q E = Wp ((
 (aC (cP 5 (BW (bf uE (ak 4) (mC (.str "told"))) (oh [(mC (.str "raw"))]) (oh [(mC (.str "raw")), (mC (.str "zero")), (mC (.str "held"))])))
 (gK (cJ 4 0 wZ (aK []) (aj [(ak 0), (mC (.str "each")), (ak 4), (ak 5)]) (aj []))))) fr h) Q E := congrArg (fun m => Wp (m fr h) Q E) DK.eq_1
theorem ww {fr : Fr} {h : Hh} {Q : Fl → Fr → Hh → Prop} {E : bh → Fr → Hh → Prop} : Wp (DN fr h) Q E = Wp ((
 (aC (su (rO rF (ak 0) (aj [(mC (.str "("))])))
 DK)) fr h) Q E := congrArg (fun m => Wp (m fr h) Q E) DN.eq_1
theorem wy {fr : Fr} {h : Hh} {Q : Fl → Fr → Hh → Prop} {E : bh → Fr → Hh → Prop} : Wp (DP fr h) Q E = Wp ((
 (aC (cP 4 (rO rF (ak 0) (Ah (mC (.tup Dd)) (aj []))))
 DN)) fr h) Q E := congrArg (fun m => Wp (m fr h) Q E) DP.eq_1
theorem wz {fr : Fr} {h : Hh} {Q : Fl → Fr → Hh → Prop} {E : bh → Fr → Hh → Prop} : Wp (DQ fr h) Q E = Wp ((
 (aC (tO (bf Ey (ak 1) (mC (.str "sum")))
 (aC (su (rO rF (ak 0) (aj [(mC (.str "sum"))])))
 (aC (su (rO rF (ak 0) (aj [(mC (.str "("))])))
 (gK (cJ 4 0 wZ (aK []) (aj [(ak 0), (mC (.str "all")), (ak 1), (oh [(mC (.str "zero")), (mC (.str "held"))])]) (aj [])))))
 (M.ret .nx))
 DP)) fr h) Q E := congrArg (fun m => Wp (m fr h) Q E) DQ.eq_1
theorem wA {fr : Fr} {h : Hh} {Q : Fl → Fr → Hh → Prop} {E : bh → Fr → Hh → Prop} : Wp (DR fr h) Q E = Wp ((
 (aC (su (rO rF (ak 0) (aj [(mC (.str "("))])))
 DQ)) fr h) Q E := congrArg (fun m => Wp (m fr h) Q E) DR.eq_1
theorem wB {fr : Fr} {h : Hh} {Q : Fl → Fr → Hh → Prop} {E : bh → Fr → Hh → Prop} : Wp (DW fr h) Q E = Wp ((
 (aC (tO (bf uE (ak 1) (mC (.str "events")))
 (aC (Qn (mJ (cJ 1 0 xF (aK []) (aj [(ak 0)]) (aj []))) (LC 2 (BX (wg 2) (BX (wg 3) Oe))))
 (gK (oh [(mC (.str "events")), (ak 2), (ak 3)])))
 (M.ret .nx))
 DR)) fr h) Q E := congrArg (fun m => Wp (m fr h) Q E) DW.eq_1
theorem yr {fr : Fr} {h : Hh} {Q : Fl → Fr → Hh → Prop} {E : bh → Fr → Hh → Prop} : Wp (Fg fr h) Q E = Wp ((
 (aC (cP 1 (rO rF (ak 0) (Ml (mC (.str "events")) (Ml (mC (.str "sum")) (Ah (mC (.tup yZ)) (aj []))))))
 DW)) fr h) Q E := congrArg (fun m => Wp (m fr h) Q E) Fg.eq_1
theorem WR {fr : Fr} {h : Hh} {Q : Fl → Fr → Hh → Prop} {E : bh → Fr → Hh → Prop} : Wp (DY fr h) Q E = Wp ((
 (aC (su (rO rF (ak 0) (aj [(mC (.str ")"))])))
 (gK (oh [(ak 2), (ak 3), (ak 4)])))) fr h) Q E := congrArg (fun m => Wp (m fr h) Q E) DY.eq_1
theorem WY {fr : Fr} {h : Hh} {Q : Fl → Fr → Hh → Prop} {E : bh → Fr → Hh → Prop} : Wp (Ea fr h) Q E = Wp ((
 (aC (cP 4 (fun _ _ => .err))
 DY)) fr h) Q E := congrArg (fun m => Wp (m fr h) Q E) Ea.eq_1
theorem W0 {fr : Fr} {h : Hh} {Q : Fl → Fr → Hh → Prop} {E : bh → Fr → Hh → Prop} : Wp (Eb fr h) Q E = Wp ((
 (aC (su (rO rF (ak 0) (aj [(mC (.str ","))])))
 Ea)) fr h) Q E := congrArg (fun m => Wp (m fr h) Q E) Eb.eq_1
theorem W3 {fr : Fr} {h : Hh} {Q : Fl → Fr → Hh → Prop} {E : bh → Fr → Hh → Prop} : Wp (Ec fr h) Q E = Wp ((
 (aC (cP 3 (fun _ _ => .err))
 Eb)) fr h) Q E := congrArg (fun m => Wp (m fr h) Q E) Ec.eq_1
theorem W4 {fr : Fr} {h : Hh} {Q : Fl → Fr → Hh → Prop} {E : bh → Fr → Hh → Prop} : Wp (Ed fr h) Q E = Wp ((
 (aC (su (rO rF (ak 0) (aj [(mC (.str "("))])))
 Ec)) fr h) Q E := congrArg (fun m => Wp (m fr h) Q E) Ed.eq_1
theorem W6 {fr : Fr} {h : Hh} {Q : Fl → Fr → Hh → Prop} {E : bh → Fr → Hh → Prop} : Wp (Eh fr h) Q E = Wp ((
 (aC (cP 2 (rO rF (ak 0) (aj [(mC (.str "max")), (mC (.str "min"))])))
 Ed)) fr h) Q E := congrArg (fun m => Wp (m fr h) Q E) Eh.eq_1
theorem W7 {fr : Fr} {h : Hh} {Q : Fl → Fr → Hh → Prop} {E : bh → Fr → Hh → Prop} : Wp (Ei fr h) Q E = Wp ((
 (aC (tO (bf Qm (mJ (tX 0 0 t7 (aK []) (ak 0) (aj []) (aj []))) (oh [(mC (.str "max")), (mC (.str "min"))]))
 (gK (cJ 1 0 vH (aK []) (aj [(ak 0)]) (aj [])))
 (M.ret .nx))
 Eh)) fr h) Q E := congrArg (fun m => Wp (m fr h) Q E) Ei.eq_1
theorem W8 {fr : Fr} {h : Hh} {Q : Fl → Fr → Hh → Prop} {E : bh → Fr → Hh → Prop} : Wp (Ek fr h) Q E = Wp ((
 (aC (tO (mQ D.tru (tX 1 0 zH (aK []) (ak 0) (aj [(mC (.str "abs"))]) (aj [])))
 (aC (su (rO rF (ak 0) (aj [(mC (.str "("))])))
 (aC (cP 1 (fun _ _ => .err))
 (aC (su (rO rF (ak 0) (aj [(mC (.str ")"))])))
 (gK (oh [(mC (.str "abs")), (ak 1)])))))
 (M.ret .nx))
 Ei)) fr h) Q E := congrArg (fun m => Wp (m fr h) Q E) Ek.eq_1
theorem aam {fr : Fr} {h : Hh} {Q : Fl → Fr → Hh → Prop} {E : bh → Fr → Hh → Prop} : Wp (Fj fr h) Q E = Wp ((
 (aC (tO (mQ D.tru (tX 1 0 zH (aK []) (ak 0) (aj [(mC (.str "("))]) (aj [])))
 (aC (cP 1 (fun _ _ => .err))
 (aC (su (rO rF (ak 0) (aj [(mC (.str ")"))])))
 (gK (za 1))))
 (M.ret .nx))
 Ek)) fr h) Q E := congrArg (fun m => Wp (m fr h) Q E) Fj.eq_1
theorem Tq {fr : Fr} {h : Hh} {Q : Fl → Fr → Hh → Prop} {E : bh → Fr → Hh → Prop} : Wp (Ax fr h) Q E = Wp ((
 (aC (cP 2 (cJ 1 0 zg (aK []) (aj [(ak 0)]) (aj [])))
 (gK (oh [(mC (.str "times")), (BW (mQ D.tru (iz 1)) (mQ (fun _ => HH) (ak 3)) (ak 3)), (ak 2)])))) fr h) Q E := congrArg (fun m => Wp (m fr h) Q E) Ax.eq_1
theorem Tr {fr : Fr} {h : Hh} {Q : Fl → Fr → Hh → Prop} {E : bh → Fr → Hh → Prop} : Wp (Ay fr h) Q E = Wp ((
 (aC (su (rO rF (ak 0) (aj [(mC (.str "*"))])))
 Ax)) fr h) Q E := congrArg (fun m => Wp (m fr h) Q E) Ay.eq_1
theorem Tt {fr : Fr} {h : Hh} {Q : Fl → Fr → Hh → Prop} {E : bh → Fr → Hh → Prop} : Wp (Az fr h) Q E = Wp ((
 (aC (cP 3 (tX 2 0 z8 (aK []) (ak 0) (aj [(mC (.int 0)), (mC (.int 1000000))]) (aj [])))
 Ay)) fr h) Q E := congrArg (fun m => Wp (m fr h) Q E) Az.eq_1
theorem W9 {fr : Fr} {h : Hh} {Q : Fl → Fr → Hh → Prop} {E : bh → Fr → Hh → Prop} : Wp (Bv fr h) Q E = Wp ((
 (aC (tO (Kw (mQ D.tru (tX 0 0 wk (aK []) (ak 0) (aj []) (aj []))))
 (aC (cP 2 (cJ 1 0 zg (aK []) (aj [(ak 0)]) (aj [])))
 (gK (BW (mQ D.tru (iz 1)) (oh [(mC (.str "times")), (mQ (fun _ => HH) (mC (.int 1))), (ak 2)]) (ak 2))))
 (M.ret .nx))
 Az)) fr h) Q E := congrArg (fun m => Wp (m fr h) Q E) Bv.eq_1
theorem Jc {fr : Fr} {h : Hh} {Q : Fl → Fr → Hh → Prop} {E : bh → Fr → Hh → Prop} : Wp (El fr h) Q E = Wp ((
 (aC (su (rO rF (ak 0) (aj [(ak 2)])))
 (cP 1 (oh [(BW (bf uE (ak 2) (mC (.str "+"))) (mC (.str "plus")) (mC (.str "minus"))), (ak 1), (mJ (cJ 2 0 xf (aK []) (aj [(ak 0), (mC (.bl false))]) (aj [])))])))) fr h) Q E := congrArg (fun m => Wp (m fr h) Q E) El.eq_1
theorem Jd {fr : Fr} {h : Hh} {Q : Fl → Fr → Hh → Prop} {E : bh → Fr → Hh → Prop} : Wp (En fr h) Q E = Wp ((
 (aC (zB 2 Aj (mJ (tX 0 0 t7 (aK []) (ak 0) (aj []) (aj []))) (oh [(mC (.str "+")), (mC (.str "-"))]) El 60)
 (gK (za 1)))) fr h) Q E := congrArg (fun m => Wp (m fr h) Q E) En.eq_1
theorem Nh {fr : Fr} {h : Hh} {Q : Fl → Fr → Hh → Prop} {E : bh → Fr → Hh → Prop} : Wp (Fo fr h) Q E = Wp ((
 (aC (cP 1 (cJ 2 0 xf (aK []) (aj [(ak 0), (mJ (tX 1 0 zH (aK []) (ak 0) (aj [(mC (.str "-"))]) (aj [])))]) (aj [])))
 En)) fr h) Q E := congrArg (fun m => Wp (m fr h) Q E) Fo.eq_1
theorem abZ {fr : Fr} {h : Hh} {Q : Fl → Fr → Hh → Prop} {E : bh → Fr → Hh → Prop} : Wp (J5 fr h) Q E = Wp ((
 (aC (tO (bf Ey (mJ (tX 0 0 t7 (aK []) (ak 2) (aj []) (aj []))) (mC (.str "")))
 (su (tX 0 0 DG (aK []) (ak 2) (aj []) (aj [])))
 (M.ret .nx))
 (gK (za 3)))) fr h) Q E := congrArg (fun m => Wp (m fr h) Q E) J5.eq_1
theorem ab0 {fr : Fr} {h : Hh} {Q : Fl → Fr → Hh → Prop} {E : bh → Fr → Hh → Prop} : Wp (J8 fr h) Q E = Wp ((
 (aC (cP 3 (cJ 1 0 Ai (aK []) (aj [(ak 2)]) (aj [])))
 J5)) fr h) Q E := congrArg (fun m => Wp (m fr h) Q E) J8.eq_1
theorem afG {fr : Fr} {h : Hh} {Q : Fl → Fr → Hh → Prop} {E : bh → Fr → Hh → Prop} : Wp (NT fr h) Q E = Wp ((
 (aC (cP 2 (NP 0 2 0 wW (aK []) (aj [(ak 0), (ak 1)]) (aj [])))
 J8)) fr h) Q E := congrArg (fun m => Wp (m fr h) Q E) NT.eq_1
theorem Z4 {fr : Fr} {h : Hh} {Q : Fl → Fr → Hh → Prop} {E : bh → Fr → Hh → Prop} : Wp (Df fr h) Q E = Wp ((
 (gK (cJ 2 0 wL (aK []) (aj [(ak 2), (mJ (cJ 2 0 Ko (aK []) (aj [(ak 1), (ak 2)]) (aj [])))]) (aj [])))) fr h) Q E := congrArg (fun m => Wp (m fr h) Q E) Df.eq_1
theorem vQ {fr : Fr} {h : Hh} {Q : Fl → Fr → Hh → Prop} {E : bh → Fr → Hh → Prop} : Wp (zM fr h) Q E = Wp ((
 (aC (tO (bf uE (gH 0 (mC (.int 0)) gJ) (mC (.str "each")))
 (gK (bf tV (mJ (bf tV (mJ (bf tV (mJ (bf tV (mJ (bf tV (mC (.str "sum(")) (gH 0 (mC (.int 1)) gJ))) (mC (.str "(")))) (gH 0 (mC (.int 2)) gJ))) (ak 1))) (mC (.str "))"))))
 (M.ret .nx))
 (gK (bf tV (mJ (bf tV (mJ (bf tV (mJ (bf tV (gH 0 (mC (.int 1)) gJ) (mC (.str "(sum(")))) (gH 0 (mC (.int 2)) gJ))) (ak 1))) (mC (.str "))")))))) fr h) Q E := congrArg (fun m => Wp (m fr h) Q E) zM.eq_1
theorem vR {fr : Fr} {h : Hh} {Q : Fl → Fr → Hh → Prop} {E : bh → Fr → Hh → Prop} : Wp (zN fr h) Q E = Wp ((
 (aC (tO (bf uE (gH 0 (mC (.int 0)) gJ) (mC (.str "events")))
 (gK (bf tV (mC (.str "events")) (ak 1)))
 (M.ret .nx))
 zM)) fr h) Q E := congrArg (fun m => Wp (m fr h) Q E) zN.eq_1
theorem wM {fr : Fr} {h : Hh} {Q : Fl → Fr → Hh → Prop} {E : bh → Fr → Hh → Prop} : Wp (BV fr h) Q E = Wp ((
 (aC (cP 1 (bf tV (mJ (bf tV (mJ (bf tV (mJ (bf tV (mC (.str "[")) (mQ R5 (gH 0 (mQ (fun _ => HH) (mC (.int 2))) gJ)))) (mC (.str ":")))) (mQ R5 (gH 0 (mQ (fun _ => HH) (mC (.int 1))) gJ)))) (mC (.str "]"))))
 zN)) fr h) Q E := congrArg (fun m => Wp (m fr h) Q E) BV.eq_1
theorem Pq {d : D} {fr : Fr} {h : Hh} {Q : Unit → Fr → Hh → Prop} {E : bh → Fr → Hh → Prop} : Wp (Ge d fr h) Q E = Wp ((
 (wg 1)) d fr h) Q E := congrArg (fun m => Wp (m d fr h) Q E) Ge.eq_1
theorem Pr {fr : Fr} {h : Hh} {Q : Bool → Fr → Hh → Prop} {E : bh → Fr → Hh → Prop} : Wp (Gf fr h) Q E = Wp ((
 (M.ret true)) fr h) Q E := congrArg (fun m => Wp (m fr h) Q E) Gf.eq_1
theorem Pu {fr : Fr} {h : Hh} {Q : D → Fr → Hh → Prop} {E : bh → Fr → Hh → Prop} : Wp (Gg fr h) Q E = Wp ((
 (mJ (cJ 2 0 wL (aK []) (aj [(mQ (ug tQ) (iz 0)), (ak 1)]) (aj [])))) fr h) Q E := congrArg (fun m => Wp (m fr h) Q E) Gg.eq_1
theorem VB {fr : Fr} {h : Hh} {Q : Fl → Fr → Hh → Prop} {E : bh → Fr → Hh → Prop} : Wp (J9 fr h) Q E = Wp ((
 (gK (Jt [1] (Jr (mJ (cJ 1 0 Hm (aK []) (aj [(mQ (ug Br) (iz 0))]) (aj [])))) Ge Gf Gg))) fr h) Q E := congrArg (fun m => Wp (m fr h) Q E) J9.eq_1
theorem aU {R : Fn} {fr : Fr} {h : Hh} {Q : Fl → Fr → Hh → Prop} {E : bh → Fr → Hh → Prop} : Wp (Jj R fr h) Q E = Wp ((
 (aC (cP 2 (cJ 1 0 R (aK []) (aj [(ak 0)]) (aj [])))
 (gK (BW (bf Aj (gH 0 (mC (.int 0)) gJ) (iz 1)) (BJ [(mC (.str "(")), (yX (ak 2)), (mC (.str ")"))]) (ak 2))))) fr h) Q E := congrArg (fun m => Wp (m fr h) Q E) (Jj.eq_1 R)
theorem Di {fr : Fr} {h : Hh} {Q : Fl → Fr → Hh → Prop} {E : bh → Fr → Hh → Prop} : Wp (Hn fr h) Q E = Wp ((
 (gK (cJ 1 0 Wu (aK []) (aj [(mQ (ug Br) (iz 0))]) (aj [])))) fr h) Q E := congrArg (fun m => Wp (m fr h) Q E) Hn.eq_1
theorem JC {d : D} {fr : Fr} {h : Hh} {Q : Unit → Fr → Hh → Prop} {E : bh → Fr → Hh → Prop} : Wp (z9 d fr h) Q E = Wp ((
 (wg 5)) d fr h) Q E := congrArg (fun m => Wp (m d fr h) Q E) z9.eq_1
theorem JD {fr : Fr} {h : Hh} {Q : Bool → Fr → Hh → Prop} {E : bh → Fr → Hh → Prop} : Wp (Aa fr h) Q E = Wp ((
 (M.ret true)) fr h) Q E := congrArg (fun m => Wp (m fr h) Q E) Aa.eq_1
theorem JF {fr : Fr} {h : Hh} {Q : D → Fr → Hh → Prop} {E : bh → Fr → Hh → Prop} : Wp (Ab fr h) Q E = Wp ((
 (mJ (bf tV (ak 5) (oh [(ak 2), (ak 3)])))) fr h) Q E := congrArg (fun m => Wp (m fr h) Q E) Ab.eq_1
theorem JG {fr : Fr} {h : Hh} {Q : Fl → Fr → Hh → Prop} {E : bh → Fr → Hh → Prop} : Wp (Ac fr h) Q E = Wp ((
 (aC (tO (bf Aj (ak 1) (oh [(mC (.str "rises")), (mC (.str "told"))]))
 (aC (cP 4 (vq [(oh [(mC (.str "each")), (mC (.str "rises")), (mC (.str "raw"))]), (oh [(mC (.str "each")), (mC (.str "rises")), (mC (.str "zero"))]), (oh [(mC (.str "each")), (mC (.str "rises")), (mC (.str "held"))]), (oh [(mC (.str "each")), (mC (.str "told")), (mC (.str "raw"))])]))
 (cP 4 (bf tV (ak 4) (mJ (vq [(oh [(mC (.str "all")), (mC (.str "rises")), (mC (.str "zero"))]), (oh [(mC (.str "all")), (mC (.str "rises")), (mC (.str "held"))])])))))
 (tO (bf Aj (ak 1) (oh [(mC (.str "top")), (mC (.str "low"))]))
 (cP 4 (vq [(oh [(mC (.str "each")), (ak 1), (mC (.str "raw"))]), (oh [(mC (.str "each")), (ak 1), (mC (.str "zero"))]), (oh [(mC (.str "each")), (ak 1), (mC (.str "held"))])]))
 (aC (cP 4 (vq [(oh [(mC (.str "each")), (ak 1), (mC (.str "raw"))]), (oh [(mC (.str "each")), (ak 1), (mC (.str "zero"))]), (oh [(mC (.str "each")), (ak 1), (mC (.str "held"))])]))
 (cP 4 (bf tV (ak 4) (mJ (vq [(oh [(mC (.str "all")), (ak 1), (mC (.str "zero"))]), (oh [(mC (.str "all")), (ak 1), (mC (.str "held"))])])))))))
 (gK (Jt [5] (Jr (ak 4)) z9 Aa Ab)))) fr h) Q E := congrArg (fun m => Wp (m fr h) Q E) Ac.eq_1
theorem JH {fr : Fr} {h : Hh} {Q : Fl → Fr → Hh → Prop} {E : bh → Fr → Hh → Prop} : Wp (Ad fr h) Q E = Wp ((
 (aC (Oh [1, 2, 3] (aj [(gH 0 (mC (.int 1)) gJ), (gH 0 (mC (.int 3)) gJ), (gH 0 (mC (.int 4)) gJ)]))
 Ac)) fr h) Q E := congrArg (fun m => Wp (m fr h) Q E) Ad.eq_1
theorem Mu {fr : Fr} {h : Hh} {Q : Fl → Fr → Hh → Prop} {E : bh → Fr → Hh → Prop} : Wp (CN fr h) Q E = Wp ((
 (aC (tO (bf uE (gH 0 (mC (.int 0)) gJ) (mC (.str "events")))
 (gK (vq [(ak 0)]))
 (M.ret .nx))
 Ad)) fr h) Q E := congrArg (fun m => Wp (m fr h) Q E) CN.eq_1
theorem xW {d : D} {fr : Fr} {h : Hh} {Q : Unit → Fr → Hh → Prop} {E : bh → Fr → Hh → Prop} : Wp (Gu d fr h) Q E = Wp ((
 (wg 9)) d fr h) Q E := congrArg (fun m => Wp (m d fr h) Q E) Gu.eq_1
theorem xX {fr : Fr} {h : Hh} {Q : Bool → Fr → Hh → Prop} {E : bh → Fr → Hh → Prop} : Wp (Gv fr h) Q E = Wp ((
 (M.ret true)) fr h) Q E := congrArg (fun m => Wp (m fr h) Q E) Gv.eq_1
theorem xY {fr : Fr} {h : Hh} {Q : D → Fr → Hh → Prop} {E : bh → Fr → Hh → Prop} : Wp (Gx fr h) Q E = Wp ((
 (mJ (cJ 1 0 uL (aK []) (aj [(ak 9)]) (aj [])))) fr h) Q E := congrArg (fun m => Wp (m fr h) Q E) Gx.eq_1
theorem xZ {d : D} {fr : Fr} {h : Hh} {Q : Unit → Fr → Hh → Prop} {E : bh → Fr → Hh → Prop} : Wp (Le d fr h) Q E = Wp ((
 (wg 9)) d fr h) Q E := congrArg (fun m => Wp (m d fr h) Q E) Le.eq_1
theorem yc {fr : Fr} {h : Hh} {Q : Bool → Fr → Hh → Prop} {E : bh → Fr → Hh → Prop} : Wp (Lf fr h) Q E = Wp ((
 (M.ret true)) fr h) Q E := congrArg (fun m => Wp (m fr h) Q E) Lf.eq_1
theorem ye {fr : Fr} {h : Hh} {Q : D → Fr → Hh → Prop} {E : bh → Fr → Hh → Prop} : Wp (Lg fr h) Q E = Wp ((
 (mJ (LR Iz (ak 9)))) fr h) Q E := congrArg (fun m => Wp (m fr h) Q E) Lg.eq_1
theorem yf {d : D} {fr : Fr} {h : Hh} {Q : Unit → Fr → Hh → Prop} {E : bh → Fr → Hh → Prop} : Wp (IK d fr h) Q E = Wp ((
 (wg 9)) d fr h) Q E := congrArg (fun m => Wp (m d fr h) Q E) IK.eq_1
theorem yg {fr : Fr} {h : Hh} {Q : Bool → Fr → Hh → Prop} {E : bh → Fr → Hh → Prop} : Wp (IV fr h) Q E = Wp ((
 (bf Ey (mQ (ug tQ) (iz 9)) (iz 3))) fr h) Q E := congrArg (fun m => Wp (m fr h) Q E) IV.eq_1
theorem yh {fr : Fr} {h : Hh} {Q : D → Fr → Hh → Prop} {E : bh → Fr → Hh → Prop} : Wp (IW fr h) Q E = Wp ((
 (ak 9)) fr h) Q E := congrArg (fun m => Wp (m fr h) Q E) IW.eq_1
theorem yj {d : D} {fr : Fr} {h : Hh} {Q : Unit → Fr → Hh → Prop} {E : bh → Fr → Hh → Prop} : Wp (Lh d fr h) Q E = Wp ((
 (wg 9)) d fr h) Q E := congrArg (fun m => Wp (m d fr h) Q E) Lh.eq_1
theorem ym {fr : Fr} {h : Hh} {Q : Bool → Fr → Hh → Prop} {E : bh → Fr → Hh → Prop} : Wp (Lj fr h) Q E = Wp ((
 (Wk (Uj yP (fun b => b)) (ak 9) (ak 5))) fr h) Q E := congrArg (fun m => Wp (m fr h) Q E) Lj.eq_1
theorem yo {fr : Fr} {h : Hh} {Q : D → Fr → Hh → Prop} {E : bh → Fr → Hh → Prop} : Wp (Ln fr h) Q E = Wp ((
 (ak 9)) fr h) Q E := congrArg (fun m => Wp (m fr h) Q E) Ln.eq_1
theorem vL {fr : Fr} {h : Hh} {Q : Fl → Fr → Hh → Prop} {E : bh → Fr → Hh → Prop} : Wp (Jk fr h) Q E = Wp ((
 (aC (tO (O8 (bf Ey (mJ (La [9] (M9 (ak 8)) IK IV IW)) (vq [])) (bf Ey (mQ vh (La [9] (M9 (ak 8)) Lh Lj Ln)) (mC (.int 1))))
 (gK (mC (.bl false)))
 (M.ret .nx))
 (su (Oj 8 (ak 5))))) fr h) Q E := congrArg (fun m => Wp (m fr h) Q E) Jk.eq_1
theorem vM {fr : Fr} {h : Hh} {Q : Fl → Fr → Hh → Prop} {E : bh → Fr → Hh → Prop} : Wp (Jl fr h) Q E = Wp ((
 (aC (tO (O8 (Kw (mQ D.tru (bf (KD QR) (ak 8) (mC (.ty "list"))))) (bf Ey (mJ (La [9] (M9 (ak 8)) Le Lf Lg)) (iz 6)))
 (gK (mC (.bl false)))
 (M.ret .nx))
 Jk)) fr h) Q E := congrArg (fun m => Wp (m fr h) Q E) Jl.eq_1
theorem xg {fr : Fr} {h : Hh} {Q : Fl → Fr → Hh → Prop} {E : bh → Fr → Hh → Prop} : Wp (GF fr h) Q E = Wp ((
 (aC (cP 8 (FJ (cJ 1 0 Eo (aK []) (aj [(ak 5)]) (aj []))))
 Jl)) fr h) Q E := congrArg (fun m => Wp (m fr h) Q E) GF.eq_1
theorem vP {fr : Fr} {h : Hh} {Q : Fl → Fr → Hh → Prop} {E : bh → Fr → Hh → Prop} : Wp (zj fr h) Q E = Wp ((
 (aC (Fy (Jf (mC (.int 2))) (wg 7) GF)
 (tO (bf Ey (mJ (LR Iz (ak 5))) (cJ 1 0 uL (aK []) (aj [(ak 4)]) (aj [])))
 (gK (mC (.bl false)))
 (M.ret .nx)))) fr h) Q E := congrArg (fun m => Wp (m fr h) Q E) zj.eq_1
theorem v8 {fr : Fr} {h : Hh} {Q : Fl → Fr → Hh → Prop} {E : bh → Fr → Hh → Prop} : Wp (Cu fr h) Q E = Wp ((
 (aC (cP 6 (Jt [9] (Jr (mJ (cJ 1 0 yO (aK []) (aj [(ak 4)]) (aj [])))) Gu Gv Gx))
 zj)) fr h) Q E := congrArg (fun m => Wp (m fr h) Q E) Cu.eq_1
theorem u9 {fr : Fr} {h : Hh} {Q : Fl → Fr → Hh → Prop} {E : bh → Fr → Hh → Prop} : Wp (Jm fr h) Q E = Wp ((
 (aC (cP 5 (mCm 2 1 zJ (aj [(mJ (cJ 1 0 uL (aK []) (aj [(ak 4)]) (aj []))), (ak 3)])))
 Cu)) fr h) Q E := congrArg (fun m => Wp (m fr h) Q E) Jm.eq_1
theorem vf {fr : Fr} {h : Hh} {Q : Fl → Fr → Hh → Prop} {E : bh → Fr → Hh → Prop} : Wp (Jo fr h) Q E = Wp ((
 (aC (cP 4 (cJ 2 0 Cr (aK []) (aj [(ak 2), (ak 3)]) (aj [])))
 Jm)) fr h) Q E := congrArg (fun m => Wp (m fr h) Q E) Jo.eq_1
theorem vg {fr : Fr} {h : Hh} {Q : Fl → Fr → Hh → Prop} {E : bh → Fr → Hh → Prop} : Wp (Jp fr h) Q E = Wp ((
 (aC (cP 3 (bf tV (mC (.int 2)) (mJ (cJ 2 0 vG (aK []) (aj [(ak 2), (mC (.int 3))]) (aj [])))))
 Jo)) fr h) Q E := congrArg (fun m => Wp (m fr h) Q E) Jp.eq_1
theorem wC {fr : Fr} {h : Hh} {Q : Fl → Fr → Hh → Prop} {E : bh → Fr → Hh → Prop} : Wp (Jy fr h) Q E = Wp ((
 (aC (cP 2 (FJ (cJ 2 0 xH (aK []) (aj [(ak 0), (ak 1)]) (aj []))))
 Jp)) fr h) Q E := congrArg (fun m => Wp (m fr h) Q E) Jy.eq_1
theorem Es {fr : Fr} {h : Hh} {Q : Fl → Fr → Hh → Prop} {E : bh → Fr → Hh → Prop} : Wp (Vm fr h) Q E = Wp ((
 (aC (Fy (Jf (bf RB (mC (.int 1)) (bf RD (mC (.int 30)) (mQ vh (iz 0))))) (wg 1) Jy)
 (gK (mC (.bl true))))) fr h) Q E := congrArg (fun m => Wp (m fr h) Q E) Vm.eq_1
theorem Ho {ds : List D} {h : Hh} {Q : D → Fr → Hh → Prop} {E : bh → Fr → Hh → Prop} : Wp (Cr ds h) Q E = Wp (tR 6 Ff ds h) Q E := congrArg (fun m => Wp (m ds h) Q E) Cr.eq_1
theorem Tu {ds : List D} {h : Hh} {Q : D → Fr → Hh → Prop} {E : bh → Fr → Hh → Prop} : Wp (wL ds h) Q E = Wp (runI 1 3 zF ds h) Q E := congrArg (fun m => Wp (m ds h) Q E) wL.eq_1
theorem Nk {ds : List D} {h : Hh} {Q : D → Fr → Hh → Prop} {E : bh → Fr → Hh → Prop} : Wp (BR ds h) Q E = Wp (tR 4 Hl ds h) Q E := congrArg (fun m => Wp (m ds h) Q E) BR.eq_1
theorem Qa {ds : List D} {h : Hh} {Q : D → Fr → Hh → Prop} {E : bh → Fr → Hh → Prop} : Wp (wW ds h) Q E = Wp (tR 5 yz ds h) Q E := congrArg (fun m => Wp (m ds h) Q E) wW.eq_1
theorem Hz {ds : List D} {h : Hh} {Q : D → Fr → Hh → Prop} {E : bh → Fr → Hh → Prop} : Wp (wX ds h) Q E = Wp (tR 1 yC ds h) Q E := congrArg (fun m => Wp (m ds h) Q E) wX.eq_1
theorem Lw {ds : List D} {h : Hh} {Q : D → Fr → Hh → Prop} {E : bh → Fr → Hh → Prop} : Wp (yN ds h) Q E = Wp (tR 2 z7 ds h) Q E := congrArg (fun m => Wp (m ds h) Q E) yN.eq_1
theorem Ft {ds : List D} {h : Hh} {Q : D → Fr → Hh → Prop} {E : bh → Fr → Hh → Prop} : Wp (vZ ds h) Q E = Wp (tR 1 wY ds h) Q E := congrArg (fun m => Wp (m ds h) Q E) vZ.eq_1
theorem VD {ds : List D} {h : Hh} {Q : D → Fr → Hh → Prop} {E : bh → Fr → Hh → Prop} : Wp (zE ds h) Q E = Wp (tR 3 Bt ds h) Q E := congrArg (fun m => Wp (m ds h) Q E) zE.eq_1
theorem JT {ds : List D} {h : Hh} {Q : D → Fr → Hh → Prop} {E : bh → Fr → Hh → Prop} : Wp (xV ds h) Q E = Wp (tR 4 zG ds h) Q E := congrArg (fun m => Wp (m ds h) Q E) xV.eq_1
theorem XH {ds : List D} {h : Hh} {Q : D → Fr → Hh → Prop} {E : bh → Fr → Hh → Prop} : Wp (xF ds h) Q E = Wp (tR 3 De ds h) Q E := congrArg (fun m => Wp (m ds h) Q E) xF.eq_1
theorem VF {ds : List D} {h : Hh} {Q : D → Fr → Hh → Prop} {E : bh → Fr → Hh → Prop} : Wp (wZ ds h) Q E = Wp (tR 7 Bu ds h) Q E := congrArg (fun m => Wp (m ds h) Q E) wZ.eq_1
theorem Hq {ds : List D} {h : Hh} {Q : D → Fr → Hh → Prop} {E : bh → Fr → Hh → Prop} : Wp (vH ds h) Q E = Wp (tR 6 Fg ds h) Q E := congrArg (fun m => Wp (m ds h) Q E) vH.eq_1
theorem Z5 {ds : List D} {h : Hh} {Q : D → Fr → Hh → Prop} {E : bh → Fr → Hh → Prop} : Wp (zg ds h) Q E = Wp (tR 5 Fj ds h) Q E := congrArg (fun m => Wp (m ds h) Q E) zg.eq_1
theorem VG {ds : List D} {h : Hh} {Q : D → Fr → Hh → Prop} {E : bh → Fr → Hh → Prop} : Wp (xf ds h) Q E = Wp (tR 4 Bv ds h) Q E := congrArg (fun m => Wp (m ds h) Q E) xf.eq_1
theorem Z6 {ds : List D} {h : Hh} {Q : D → Fr → Hh → Prop} {E : bh → Fr → Hh → Prop} : Wp (Ai ds h) Q E = Wp (tR 3 Fo ds h) Q E := congrArg (fun m => Wp (m ds h) Q E) Ai.eq_1
theorem aed {ds : List D} {h : Hh} {Q : D → Fr → Hh → Prop} {E : bh → Fr → Hh → Prop} : Wp (Ko ds h) Q E = Wp (tR 4 NT ds h) Q E := congrArg (fun m => Wp (m ds h) Q E) Ko.eq_1
theorem XJ {ds : List D} {h : Hh} {Q : D → Fr → Hh → Prop} {E : bh → Fr → Hh → Prop} : Wp (zJ ds h) Q E = Wp (tR 3 Df ds h) Q E := congrArg (fun m => Wp (m ds h) Q E) zJ.eq_1
theorem aF : tQ 0 = some 0 := by unfold tQ; rfl
theorem aG : tQ 1 = some 0 := by unfold tQ; rfl
theorem aV : Br 1 = some 1 := by unfold Br; rfl
theorem aP : xU 0 = some 1 := by unfold xU; rfl
theorem aM : zf 0 = some 2 := by unfold zf; rfl
theorem aW : wV 0 = some 3 := by unfold wV; rfl
theorem aH : t7 0 = some wX := by unfold t7; rfl
theorem aX : DG 0 = some Iw := by unfold DG; rfl
theorem aQ : zH 0 = some yN := by unfold zH; rfl
theorem az : wk 0 = some vZ := by unfold wk; rfl
theorem aN : z8 0 = some xV := by unfold z8; rfl
theorem aY : rF 0 = some zE := by unfold rF; rfl
theorem aZ : Iz 1 = some Bw := by unfold Iz; rfl
theorem au : yP 1 = some vK := by unfold yP; rfl
end L
namespace L
open PySem PySem.Spec L2 Pk
def Src (h : Hh) (n : Nat) (C : Int) : Prop := ∃ a b c : Int, h[n]? = some (.nl [.int a, .int b, .int c]) ∧ 0 ≤ b ∧ b < 2 ^ 33 ∧ 0 ≤ c ∧ c ≤ C
theorem log2_lt {i : Int} {k : Nat} (h : i.natAbs < 2 ^ k) (hk : 0 < k) : i.natAbs.log2 < k := by
 by_cases h0 : i.natAbs = 0
 · rw [h0]; simpa using hk
 · exact (Nat.log2_lt h0).mpr h
theorem O6 {i j : Int} (h : 0 < j) : ac2 i j = true := decide_eq_true h
theorem JK {h : Hh} {n : Nat} {C m : Int} (S : Src h n C) (hC : C ≤ 100000) (hm : 0 < m) (hl : m < 2 ^ 200) :
 ∃ r h', vG [.ref n, .int m] h = .ok (.int r) [] h' ∧ Src h' n (C + 1) ∧ 0 ≤ r ∧ r < m := by
 obtain ⟨a, b, c, e, b0, b1, c0, c1⟩ := S
 have hn : n < h.length := (List.getElem?_eq_some_iff.mp e).1
 have hml : m.natAbs.log2 < 9000 := by
  refine Nat.lt_of_lt_of_le (log2_lt (k := 200) ?_ (by decide)) (by decide)
  omega
 by_cases ha : 0 < a
 · refine ⟨a % m, h.set n (.nl [.int (a / m), .int b, .int c]), ?_, ⟨a / m, b, c, by rw [aje hn], b0, b1, c0, by omega⟩, Int.emod_nonneg _ (by omega), Int.emod_lt_of_pos _ hm⟩
   simp [vG, tR, Ji, Iv, Iu, Ir, startF, aC, tO, M.bind, M.ret, M.opt, bf, gH, yu, iz, mC, gJ, D.its, D.der, e, atI, ixN, cInt, ha, cP, mQ, yq, ak, D.own, Cv, ac2, hm, LQ, mO, HS, aa5, hml, gK, za]
 · have z1 : (b + 32452843 * (c + 1)).natAbs < 2 ^ 64 := by omega
   generalize hx : (b + 32452843 * (c + 1)) ^ 3 % 2305843009213693921 = x
   have hx0 : 0 ≤ x := by rw [← hx]; exact Int.emod_nonneg _ (by decide)
   have hx1 : x < 2305843009213693921 := by rw [← hx]; exact Int.emod_lt_of_pos _ (by decide)
   have z2 : (x + 49979687 * (c + 1)).natAbs < 2 ^ 64 := by omega
   have l1 : (c + 1).natAbs.log2 < 64 := log2_lt (by omega) (by decide)
   have l2 : ((32452843 : Int)).natAbs.log2 < 64 := log2_lt (by decide) (by decide)
   have l3 : ((49979687 : Int)).natAbs.log2 < 64 := log2_lt (by decide) (by decide)
   have l4 : ((4096 : Int)).natAbs.log2 < 9000 := Nat.lt_trans (log2_lt (k := 64) (by decide) (by decide)) (by decide)
   have c1' : aa4 32452843 (c + 1) = true := decide_eq_true (by omega)
   have c2' : aa4 49979687 (c + 1) = true := decide_eq_true (by omega)
   have c3' : V5 (b + 32452843 * (c + 1)) 3 = true := by
    unfold V5
    rw [decide_eq_true z1]
    rfl
   have c4' : V5 (x + 49979687 * (c + 1)) 2 = true := by
    unfold V5
    rw [decide_eq_true z2]
    rfl
   have c5' : aa5 ((x + 49979687 * (c + 1)) ^ 2 % 2305843009213693951) 4096 = true := by
    unfold aa5
    rw [decide_eq_true l4]
    rfl
   refine ⟨((x + 49979687 * (c + 1)) ^ 2 % 2305843009213693951) / 4096 % m, h.set n (.nl [.int a, .int b, .int (c + 1)]), ?_, ⟨a, b, c + 1, by rw [aje hn], b0, b1, by omega, by omega⟩, Int.emod_nonneg _ (by omega), Int.emod_lt_of_pos _ hm⟩
   have ha' : decide (0 < a) = false := decide_eq_false ha
   have e2 : ∀ v : D, (h.set n v)[n]? = some v := fun v => aje hn
   simp [vG, tR, Ji, Iv, Iu, Ir, startF, aC, tO, M.bind, M.ret, M.opt, bf, gH, yu, iz, mC, gJ, D.its, D.der, e, atI, ixN, cInt, ha', cP, mQ, yq, ak, D.own, Cv, LQ, mO, HS, gK, za, mJ, D.fz, tV, e2, c1', c2', c3', c4', c5', O6, hm, hx]
end L
namespace L
open PySem PySem.Spec L2 Pk
theorem Kr {h : Hh} {n : Nat} {C : Int} {l : List D} (S : Src h n C) (hC : C ≤ 100000) (h0 : 0 < l.length) (hl : l.length ≤ 1000) :
 ∃ i d h', i < l.length ∧ l[i]? = some d ∧ v7 [.ref n, .fl l] h = .ok d [] h' ∧ Src h' n (C + 1) := by
 obtain ⟨r, h', e, S', r0, r1⟩ := JK (m := (l.length : Int)) S hC (by omega) (by omega)
 have hi : r.toNat < l.length := by omega
 refine ⟨r.toNat, l[r.toNat], h', hi, ai9 hi, ?_, S'⟩
 have er : ((r.toNat : Nat) : Int) = r := Int.toNat_of_nonneg r0
 simp [v7, tR, QT, startF, gK, gH, yu, iz, mJ, cJ, aj, M.bind, M.ret, M.opt, ak, D.own, D.fz, mQ, vh, D.its, D.der, aK, e, vD, gJ, atI, ixN, r0, r1, hi]
theorem Src.up {h : Hh} {n : Nat} {C C' : Int} (S : Src h n C) (hC : C ≤ C') : Src h n C' := by
 obtain ⟨a, b, c, q1, q2, q3, q4, q5⟩ := S
 exact ⟨a, b, c, q1, q2, q3, q4, by omega⟩
theorem afH {h : Hh} {l : List Int} {i : Nat} {t : Int} {j : Int} (hj : j = (i : Int)) (e : l[i]? = some t) : gJ h (.fl (l.map .int)) (.int j) = some (.int t) := by
 subst hj
 have hl := (List.getElem?_eq_some_iff.mp e).1
 show atI (l.map D.int) i = _
 unfold atI
 have : ixN (l.map D.int).length (i : Int) = some i := by
  unfold ixN
  rw [ajb, if_pos (by omega), if_pos (by omega)]
  congr 1
 rw [this]
 simp [e]
theorem aan {h : Hh} {ns : List Int} {k : Nat} (hk : k ≤ 62) : ∃ a b, xH [.kl (ns.map .int), .int k] h = .ok (.nl [.int a, .int b, .int 0]) [] h ∧ 0 ≤ b ∧ b < 2 ^ 33 := by
 have p18 : V5 10 18 = true := by decide
 have b3 : 3 ≤ big := by decide
 have c1 : aa4 15485863 (k : Int) = true := by
  have l2 : ((15485863 : Int)).natAbs.log2 < 64 := log2_lt (by decide) (by decide)
  have l1 : ((k : Int)).natAbs.log2 < 64 := log2_lt (by omega) (by decide)
  exact decide_eq_true (by omega)
 have main : ∀ v : Int, (if (k : Int) < ns.length then gJ h (.kl (ns.map .int)) (.int k) = some (.int v) else v = 0) → ∃ a b, xH [.kl (ns.map .int), .int k] h = .ok (.nl [.int a, .int b, .int 0]) [] h ∧ 0 ≤ b ∧ b < 2 ^ 33 := fun v hv => by
  have hb0 : 0 ≤ v % 2147483629 := Int.emod_nonneg _ (by decide)
  have hb1 : v % 2147483629 < 2147483629 := Int.emod_lt_of_pos _ (by decide)
  refine ⟨if (1000000000000000000 : Int) ≤ (if v < 0 then -v else v) then (if v < 0 then -v else v) else 0, v % 2147483629 + 15485863 * (k : Int) + 7919, ?_, by omega, by omega⟩
  by_cases hl : (k : Int) < ns.length
  · rw [if_pos hl] at hv
    have hl' : k < ns.length := by omega
    by_cases hbig : (1000000000000000000 : Int) ≤ (if v < 0 then -v else v)
    · simp [xH, tR, Ca, BP, startF, aC, cP, BW, bf, ak, D.own, M.bind, M.ret, M.opt, mQ, vh, iz, D.its, D.der, cInt, hl, hl', gH, yu, hv, mC, Od, Cv, p18, hbig, gK, vq, aj, mJ, tV, D.fz, yq, O6, c1, b3]
    · simp [xH, tR, Ca, BP, startF, aC, cP, BW, bf, ak, D.own, M.bind, M.ret, M.opt, mQ, vh, iz, D.its, D.der, cInt, hl, hl', gH, yu, hv, mC, Od, Cv, p18, hbig, gK, vq, aj, mJ, tV, D.fz, yq, O6, c1, b3]
  · rw [if_neg hl] at hv
    subst hv
    have hl' : ¬ k < ns.length := by omega
    simp [xH, tR, Ca, BP, startF, aC, cP, BW, bf, ak, D.own, M.bind, M.ret, M.opt, mQ, vh, iz, D.its, D.der, cInt, hl, hl', mC, Od, Cv, p18, gK, vq, aj, mJ, tV, D.fz, yq, O6, c1, b3]
 by_cases hl : (k : Int) < ns.length
 · have e : ns[k]? = some (ns[k]'(by omega)) := ai9 _
   exact main _ (by rw [if_pos hl]; exact afH (h := h) rfl e)
 · exact main 0 (by rw [if_neg hl])
end L
namespace L
open PySem PySem.Spec L2 Pk
theorem Xm {t : M Bool} {b : M Fl} {Q : Fl → Fr → Hh → Prop} {E : bh → Fr → Hh → Prop} (I : Nat → Fr → Hh → Prop)
 (st : ∀ k fr h, I k fr h → Wp (t fr h) (fun c fr h => if c then Wp (b fr h) (fun f fr h => Vi f (∃ j, j < k ∧ I j fr h) fun f => Q f fr h) E else Q .nx fr h) E) :
 ∀ (n k : Nat) (fr : Fr) (h : Hh), k < n → I k fr h → Wp (yw t b n fr h) Q E := by
 intro n
 induction n with
 | zero => intro k fr h hk; exact absurd hk (Nat.not_lt_zero _)
 | succ n ih =>
   intro k fr h hk i
   rw [acO]
   refine (st k fr h i).mono fun c fr h z => ?_
   cases c with
   | false => exact z
   | true =>
     rw [if_pos rfl] at z ⊢
     refine z.mono fun f fr h y => ?_
     cases f with
     | nx => rw [nj] at y ⊢; obtain ⟨j, hj, i⟩ := y; exact ih j fr h (by omega) i
     | ct => rw [nU] at y ⊢; obtain ⟨j, hj, i⟩ := y; exact ih j fr h (by omega) i
     | brk => rw [iy] at y ⊢; exact y
     | rt d => rw [nW] at y ⊢; exact y
def Xn : Str := "abcdefghijklmnopqrstuvwxyz"
def Px : Str := "0123456789"
def isIn (S : Str) (c : Nat) : Bool := decide (c ∈ S.cps.toList)
def rE (S : Str) (cs : List Nat) (e : Nat) : Nat := e + ((cs.drop e).takeWhile (isIn S)).length
theorem agT {S : Str} {cs : List Nat} {e c : Nat} (hc : cs[e]? = some c) (h : isIn S c = true) : rE S cs e = rE S cs (e + 1) := by
 unfold rE
 obtain ⟨hl, ec⟩ := List.getElem?_eq_some_iff.mp hc
 rw [List.drop_eq_getElem_cons hl, ec, List.takeWhile_cons, if_pos h, aiU]
 omega
theorem afI {S : Str} {cs : List Nat} {e c : Nat} (hc : cs[e]? = some c) (h : isIn S c = false) : rE S cs e = e := by
 unfold rE
 obtain ⟨hl, ec⟩ := List.getElem?_eq_some_iff.mp hc
 rw [List.drop_eq_getElem_cons hl, ec, List.takeWhile_cons, h]
 rfl
theorem agU {S : Str} {cs : List Nat} {e : Nat} (hl : cs.length ≤ e) : rE S cs e = e := by
 unfold rE
 rw [List.drop_of_length_le hl]
 rfl
theorem Yd {S : Str} {cs : List Nat} {e : Nat} (hl : e ≤ cs.length) : e ≤ rE S cs e ∧ rE S cs e ≤ cs.length := by
 unfold rE
 have h1 : ((cs.drop e).takeWhile (isIn S)).length ≤ (cs.drop e).length := (List.takeWhile_sublist _).length_le
 rw [List.length_drop] at h1
 omega
def wE (cs : List Nat) (a c : Nat) : Nat := if isIn Xn c then (if isIn Px c then rE Px cs (rE Xn cs (a + 1)) else rE Xn cs (a + 1)) else if isIn Px c then rE Px cs (a + 1) else a + 1
def cs (z : Str) : List Nat := z.cps.toList
theorem Hr {z : Str} : z.length = (cs z).length := by simp [cs, Str.length]
theorem Sd {h : Hh} {z : Str} {a c : Nat} (hz : z.length ≤ 1000) (hc : (cs z)[a]? = some c) : gJ h (.str z) (.int (a : Int)) = some (.str ⟨#[c]⟩) := by
 have hl : a < (cs z).length := (List.getElem?_eq_some_iff.mp hc).1
 show (if z.length ≤ big then (atI z.cps.toList (a : Int)).map fun c => D.str ⟨#[c]⟩ else none) = _
 rw [if_pos (Nat.le_trans hz (by decide))]
 have e : atI z.cps.toList (a : Int) = some c := by
  unfold atI ixN
  have hl' : a < z.cps.toList.length := hl
  have h1 : (0 : Int) ≤ (a : Int) ∧ (a : Int) < (z.cps.toList.length : Int) := ⟨by omega, by omega⟩
  simp only [h1, and_self, if_true, Int.toNat_natCast]
  exact hc
 rw [e]
 rfl
theorem agV {h : Hh} {c : Nat} {S : Str} : Aj h (.str ⟨#[c]⟩) (.str S) = some (isIn S c) := rfl
theorem Xa {h : Hh} {z : Str} (hz : z.length ≤ 1000) : vh h (.str z) = some (.int ((cs z).length : Nat)) := by
 show (if z.length ≤ big then some (D.int z.length) else none) = _
 rw [if_pos (Nat.le_trans hz (by decide)), Hr]
theorem Rk {h : Hh} {z S : Str} {x : Option D} {e : Nat} {Q : Fl → Fr → Hh → Prop} (hz : z.length ≤ 59) (he : e ≤ (cs z).length)
 (q : Q .nx [some (.str z), x, some (.int (rE S (cs z) e : Nat)), some (.str S)] h) :
 Wp (yw (Mw (bf O7 (ak 2) (mQ vh (iz 0))) (bf Aj (gH 0 (ak 2) gJ) (iz 3))) Ce 60 [some (.str z), x, some (.int (e : Nat)), some (.str S)] h) Q wU := by
 have hz' : z.length ≤ 1000 := by omega
 refine Xm (fun k fr h' => h' = h ∧ ∃ e' : Nat, fr = [some (.str z), x, some (.int (e' : Nat)), some (.str S)] ∧ k = (cs z).length - e' ∧ e' ≤ (cs z).length ∧ rE S (cs z) e' = rE S (cs z) e) ?_ 60 ((cs z).length - e) _ _ (by rw [Hr] at hz; omega) ⟨rfl, e, rfl, rfl, he, rfl⟩
 rintro k fr h' ⟨rfl, e', rfl, rfl, he', hr⟩
 have l1 := Xa (h := h') hz'
 by_cases hl : e' < (cs z).length
 · have hc : (cs z)[e']? = some (cs z)[e'] := ai9 hl
   generalize (cs z)[e'] = c at hc
   have i1 := Sd (h := h') hz' hc
   have i2 := agV (h := h') (c := c) (S := S)
   have d1 : decide ((e' : Int) < ((cs z).length : Nat)) = true := decide_eq_true (by omega)
   cases hi : isIn S c with
   | true =>
     simp only [↓ou, ↓mU, ↓wp_bind, ↓oM, ↓tZ, ↓sE, ↓oN, ↓iH, ↓nM, ↓oO, ↓rQ, ↓rR, ↓sG, ↓oR, ↓iI, ↓oU, ↓sH, ↓iJ, ↓iK, ↓oV, ↓cU, ↓sJ, ↓cV, ↓cW, ↓oW, ↓oX, ↓iQ, ↓sO, ↓qd, ↓iT, ↓oY, ↓sS, ↓ig, ↓iU, ↓iV, ↓m7, ↓oZ, ↓iW, ↓nO, ↓o5, ↓o7, ↓iY, ↓gU, ↓sU, ↓il, ↓cX, ↓bA, ↓cY, ↓o8, ↓jc, ↓je, ↓jf, ↓jh, ↓ji, ↓jk, ↓jm, ↓bB, ↓jn, ↓jo, ↓jr, ↓j6, ↓qp, ↓jt, ↓ir, ↓ju, ↓jV, ↓nY, ↓nZ, ↓nu, ↓nA, gM, oE, oF, nQ, ie, ue, uf, gR, oG, nH, oH, iG, oJ, oK, nJ, mX, mY, gY, ni, cZ, jP, pX, iZ, ↓km, ↓kE, ↓eO, ↓qu, ↓tK, ↓kJ, ↓kW, ↓oA, ↓lB, ↓lC, ↓qG, ↓qH, ↓qI, ↓qL, ↓lF, ↓eV, ↓tL, ↓eX, ↓lG, ↓lL, ↓lM, ↓fG, ↓fH, ↓fJ, ↓bY, ↓qM, ↓lN, ↓fL, ↓fM, ↓qN, ↓lU, ↓fO, ↓fP, ↓fQ, ↓qO, ↓qP, ↓qQ, ↓qR, ↓lX, ↓fU, ↓bZ, ↓cA, ↓qY, ↓qZ, ↓fY, ↓rA, ↓lZ, ↓mD, ↓mF, ↓fZ, ↓gh, ↓gj, ↓cG, ↓mH, ↓gA, ↓rB, ↓gG, jw, pD, o9, sV, jx, pF, jy, fz_non, jA, pG, ph, sW, pq, sX, jB, pH, jC, pJ, jD, pK, pA, sY, pB, tD, pC, tE, gQ, mV, m9, mW, di, jE, iw, jF, dw, pM, jG, jH, ul, uo, uv, uw, ux, uz, uA, tG, mK, rW, dB, dC, jJ, dD, dF, bD, dG, dH, bF, dI, nR, pN, pO, pP, jK, jL, dJ, tH, jM, pQ, jN, jO, pU, pW, rY, rZ, dR, jQ, dU, bO, dW, bQ, jR, dX, bR, dY, dZ, jT, jU, uh, uR, u6, bU, bV, eE, j7, d8, bT, pZ, qb, jW, d9, jY, jZ, j5, qm, jX, qj, ql, ai3, ai4, ai5, aiV, Int.reduceToNat, bG, bH, dM, bJ, bK, dN, dO, bL, bM, eQ, eU, lD, qJ, qK, Option.isSome_some, Option.isSome_none, lE, Int.reduceEq, beq_self_eq_true, cQ, cR, eY, lH, eZ, fj, fu, lJ, lK, fB, fD, fK, bW, bz, lO, lQ, lV, lW, fV, cC, cD, lY, fX, qT, tM, qU, qW, qX, uB, uC, gq, mG, nj, nU, iy, nW, j8, kh, eG, j9, kY, qw, kZ, lg, qC, lu, lw, lA, qD, qF, startF, aiR, aiT, aiY, ai2, aiS, aiU, ai0, ai1, ai6, ai7, aiZ, aiW, aiX, Nat.reduceAdd, Nat.reduceSub, Nat.reduceLeDiff, Nat.reduceLT, Nat.zero_add, and_true, true_and, and_self, false_and, and_false, not_true_eq_false, not_false_eq_true, eq_self, decide_true, decide_false, Bool.not_true, Bool.not_false, Bool.true_and, Bool.false_and, Bool.and_true, Bool.and_false, Bool.or_true, Bool.or_false, Bool.true_or, Bool.false_or, Option.map_some, Option.map_none, Int.toNat_natCast, ↓reduceIte, Bool.false_eq_true, reduceCtorEq, Int.cast_ofNat_Int, Int.reduceLT, Int.reduceLE, Int.reduceAdd, Int.reduceSub, Int.reduceNeg, Int.natCast_zero, pY, and_assoc, ↓uI, ↓uJ, ↓uK, ↓vX, ↓aU, aF, aG, aV, aP, aM, aW, aH, aX, aQ, az, aN, aY, aZ, au, l1, i1, i2, d1, hi, nj]
     refine ⟨(cs z).length - (e' + 1), by omega, e' + 1, by simp only [Int.natCast_add, Int.natCast_one, aiW, aiX], rfl, by omega, ?_⟩
     rw [← hr, agT hc hi]
   | false =>
     simp only [↓ou, ↓mU, ↓wp_bind, ↓oM, ↓tZ, ↓sE, ↓oN, ↓iH, ↓nM, ↓oO, ↓rQ, ↓rR, ↓sG, ↓oR, ↓iI, ↓oU, ↓sH, ↓iJ, ↓iK, ↓oV, ↓cU, ↓sJ, ↓cV, ↓cW, ↓oW, ↓oX, ↓iQ, ↓sO, ↓qd, ↓iT, ↓oY, ↓sS, ↓ig, ↓iU, ↓iV, ↓m7, ↓oZ, ↓iW, ↓nO, ↓o5, ↓o7, ↓iY, ↓gU, ↓sU, ↓il, ↓cX, ↓bA, ↓cY, ↓o8, ↓jc, ↓je, ↓jf, ↓jh, ↓ji, ↓jk, ↓jm, ↓bB, ↓jn, ↓jo, ↓jr, ↓j6, ↓qp, ↓jt, ↓ir, ↓ju, ↓jV, ↓nY, ↓nZ, ↓nu, ↓nA, gM, oE, oF, nQ, ie, ue, uf, gR, oG, nH, oH, iG, oJ, oK, nJ, mX, mY, gY, ni, cZ, jP, pX, iZ, ↓km, ↓kE, ↓eO, ↓qu, ↓tK, ↓kJ, ↓kW, ↓oA, ↓lB, ↓lC, ↓qG, ↓qH, ↓qI, ↓qL, ↓lF, ↓eV, ↓tL, ↓eX, ↓lG, ↓lL, ↓lM, ↓fG, ↓fH, ↓fJ, ↓bY, ↓qM, ↓lN, ↓fL, ↓fM, ↓qN, ↓lU, ↓fO, ↓fP, ↓fQ, ↓qO, ↓qP, ↓qQ, ↓qR, ↓lX, ↓fU, ↓bZ, ↓cA, ↓qY, ↓qZ, ↓fY, ↓rA, ↓lZ, ↓mD, ↓mF, ↓fZ, ↓gh, ↓gj, ↓cG, ↓mH, ↓gA, ↓rB, ↓gG, jw, pD, o9, sV, jx, pF, jy, fz_non, jA, pG, ph, sW, pq, sX, jB, pH, jC, pJ, jD, pK, pA, sY, pB, tD, pC, tE, gQ, mV, m9, mW, di, jE, iw, jF, dw, pM, jG, jH, ul, uo, uv, uw, ux, uz, uA, tG, mK, rW, dB, dC, jJ, dD, dF, bD, dG, dH, bF, dI, nR, pN, pO, pP, jK, jL, dJ, tH, jM, pQ, jN, jO, pU, pW, rY, rZ, dR, jQ, dU, bO, dW, bQ, jR, dX, bR, dY, dZ, jT, jU, uh, uR, u6, bU, bV, eE, j7, d8, bT, pZ, qb, jW, d9, jY, jZ, j5, qm, jX, qj, ql, ai3, ai4, ai5, aiV, Int.reduceToNat, bG, bH, dM, bJ, bK, dN, dO, bL, bM, eQ, eU, lD, qJ, qK, Option.isSome_some, Option.isSome_none, lE, Int.reduceEq, beq_self_eq_true, cQ, cR, eY, lH, eZ, fj, fu, lJ, lK, fB, fD, fK, bW, bz, lO, lQ, lV, lW, fV, cC, cD, lY, fX, qT, tM, qU, qW, qX, uB, uC, gq, mG, nj, nU, iy, nW, j8, kh, eG, j9, kY, qw, kZ, lg, qC, lu, lw, lA, qD, qF, startF, aiR, aiT, aiY, ai2, aiS, aiU, ai0, ai1, ai6, ai7, aiZ, aiW, aiX, Nat.reduceAdd, Nat.reduceSub, Nat.reduceLeDiff, Nat.reduceLT, Nat.zero_add, and_true, true_and, and_self, false_and, and_false, not_true_eq_false, not_false_eq_true, eq_self, decide_true, decide_false, Bool.not_true, Bool.not_false, Bool.true_and, Bool.false_and, Bool.and_true, Bool.and_false, Bool.or_true, Bool.or_false, Bool.true_or, Bool.false_or, Option.map_some, Option.map_none, Int.toNat_natCast, ↓reduceIte, Bool.false_eq_true, reduceCtorEq, Int.cast_ofNat_Int, Int.reduceLT, Int.reduceLE, Int.reduceAdd, Int.reduceSub, Int.reduceNeg, Int.natCast_zero, pY, and_assoc, ↓uI, ↓uJ, ↓uK, ↓vX, ↓aU, aF, aG, aV, aP, aM, aW, aH, aX, aQ, az, aN, aY, aZ, au, l1, i1, i2, d1, hi]
     rw [← hr, afI hc hi] at q
     exact q
 · have d1 : decide ((e' : Int) < ((cs z).length : Nat)) = false := decide_eq_false (by omega)
   simp only [↓ou, ↓mU, ↓wp_bind, ↓oM, ↓tZ, ↓sE, ↓oN, ↓iH, ↓nM, ↓oO, ↓rQ, ↓rR, ↓sG, ↓oR, ↓iI, ↓oU, ↓sH, ↓iJ, ↓iK, ↓oV, ↓cU, ↓sJ, ↓cV, ↓cW, ↓oW, ↓oX, ↓iQ, ↓sO, ↓qd, ↓iT, ↓oY, ↓sS, ↓ig, ↓iU, ↓iV, ↓m7, ↓oZ, ↓iW, ↓nO, ↓o5, ↓o7, ↓iY, ↓gU, ↓sU, ↓il, ↓cX, ↓bA, ↓cY, ↓o8, ↓jc, ↓je, ↓jf, ↓jh, ↓ji, ↓jk, ↓jm, ↓bB, ↓jn, ↓jo, ↓jr, ↓j6, ↓qp, ↓jt, ↓ir, ↓ju, ↓jV, ↓nY, ↓nZ, ↓nu, ↓nA, gM, oE, oF, nQ, ie, ue, uf, gR, oG, nH, oH, iG, oJ, oK, nJ, mX, mY, gY, ni, cZ, jP, pX, iZ, ↓km, ↓kE, ↓eO, ↓qu, ↓tK, ↓kJ, ↓kW, ↓oA, ↓lB, ↓lC, ↓qG, ↓qH, ↓qI, ↓qL, ↓lF, ↓eV, ↓tL, ↓eX, ↓lG, ↓lL, ↓lM, ↓fG, ↓fH, ↓fJ, ↓bY, ↓qM, ↓lN, ↓fL, ↓fM, ↓qN, ↓lU, ↓fO, ↓fP, ↓fQ, ↓qO, ↓qP, ↓qQ, ↓qR, ↓lX, ↓fU, ↓bZ, ↓cA, ↓qY, ↓qZ, ↓fY, ↓rA, ↓lZ, ↓mD, ↓mF, ↓fZ, ↓gh, ↓gj, ↓cG, ↓mH, ↓gA, ↓rB, ↓gG, jw, pD, o9, sV, jx, pF, jy, fz_non, jA, pG, ph, sW, pq, sX, jB, pH, jC, pJ, jD, pK, pA, sY, pB, tD, pC, tE, gQ, mV, m9, mW, di, jE, iw, jF, dw, pM, jG, jH, ul, uo, uv, uw, ux, uz, uA, tG, mK, rW, dB, dC, jJ, dD, dF, bD, dG, dH, bF, dI, nR, pN, pO, pP, jK, jL, dJ, tH, jM, pQ, jN, jO, pU, pW, rY, rZ, dR, jQ, dU, bO, dW, bQ, jR, dX, bR, dY, dZ, jT, jU, uh, uR, u6, bU, bV, eE, j7, d8, bT, pZ, qb, jW, d9, jY, jZ, j5, qm, jX, qj, ql, ai3, ai4, ai5, aiV, Int.reduceToNat, bG, bH, dM, bJ, bK, dN, dO, bL, bM, eQ, eU, lD, qJ, qK, Option.isSome_some, Option.isSome_none, lE, Int.reduceEq, beq_self_eq_true, cQ, cR, eY, lH, eZ, fj, fu, lJ, lK, fB, fD, fK, bW, bz, lO, lQ, lV, lW, fV, cC, cD, lY, fX, qT, tM, qU, qW, qX, uB, uC, gq, mG, nj, nU, iy, nW, j8, kh, eG, j9, kY, qw, kZ, lg, qC, lu, lw, lA, qD, qF, startF, aiR, aiT, aiY, ai2, aiS, aiU, ai0, ai1, ai6, ai7, aiZ, aiW, aiX, Nat.reduceAdd, Nat.reduceSub, Nat.reduceLeDiff, Nat.reduceLT, Nat.zero_add, and_true, true_and, and_self, false_and, and_false, not_true_eq_false, not_false_eq_true, eq_self, decide_true, decide_false, Bool.not_true, Bool.not_false, Bool.true_and, Bool.false_and, Bool.and_true, Bool.and_false, Bool.or_true, Bool.or_false, Bool.true_or, Bool.false_or, Option.map_some, Option.map_none, Int.toNat_natCast, ↓reduceIte, Bool.false_eq_true, reduceCtorEq, Int.cast_ofNat_Int, Int.reduceLT, Int.reduceLE, Int.reduceAdd, Int.reduceSub, Int.reduceNeg, Int.natCast_zero, pY, and_assoc, ↓uI, ↓uJ, ↓uK, ↓vX, ↓aU, aF, aG, aV, aP, aM, aW, aH, aX, aQ, az, aN, aY, aZ, au, l1, d1]
   rw [← hr, agU (by omega)] at q
   exact q
end L
namespace L
open PySem PySem.Spec L2 Pk
theorem XM {h : Hh} {z : Str} {a c : Nat} (hz : z.length ≤ 59) (hc : (cs z)[a]? = some c) : BR [.str z, .int (a : Nat)] h = .ok (.int (wE (cs z) a c : Nat)) [] h := by
 have hl : a < (cs z).length := (List.getElem?_eq_some_iff.mp hc).1
 have i1 := Sd (h := h) (by omega) hc
 have i2 : Aj h (.str ⟨#[c]⟩) (.str "abcdefghijklmnopqrstuvwxyz") = some (isIn Xn c) := rfl
 have i3 : Aj h (.str ⟨#[c]⟩) (.str "0123456789") = some (isIn Px c) := rfl
 have ea : (a : Int) + 1 = ((a + 1 : Nat) : Int) := by simp
 have r1 := Yd (S := Xn) (cs := cs z) (e := a + 1) hl
 apply Wp.eq
 unfold wE
 cases h1 : isIn Xn c with
 | true =>
   simp only [↓ou, ↓mU, ↓wp_bind, ↓oM, ↓tZ, ↓sE, ↓oN, ↓iH, ↓nM, ↓oO, ↓rQ, ↓rR, ↓sG, ↓oR, ↓iI, ↓oU, ↓sH, ↓iJ, ↓iK, ↓oV, ↓cU, ↓sJ, ↓cV, ↓cW, ↓oW, ↓oX, ↓iQ, ↓sO, ↓qd, ↓iT, ↓oY, ↓sS, ↓ig, ↓iU, ↓iV, ↓m7, ↓oZ, ↓iW, ↓nO, ↓o5, ↓o7, ↓iY, ↓gU, ↓sU, ↓il, ↓cX, ↓bA, ↓cY, ↓o8, ↓jc, ↓je, ↓jf, ↓jh, ↓ji, ↓jk, ↓jm, ↓bB, ↓jn, ↓jo, ↓jr, ↓j6, ↓qp, ↓jt, ↓ir, ↓ju, ↓jV, ↓nY, ↓nZ, ↓nu, ↓nA, gM, oE, oF, nQ, ie, ue, uf, gR, oG, nH, oH, iG, oJ, oK, nJ, mX, mY, gY, ni, cZ, jP, pX, iZ, ↓km, ↓kE, ↓eO, ↓qu, ↓tK, ↓kJ, ↓kW, ↓oA, ↓lB, ↓lC, ↓qG, ↓qH, ↓qI, ↓qL, ↓lF, ↓eV, ↓tL, ↓eX, ↓lG, ↓lL, ↓lM, ↓fG, ↓fH, ↓fJ, ↓bY, ↓qM, ↓lN, ↓fL, ↓fM, ↓qN, ↓lU, ↓fO, ↓fP, ↓fQ, ↓qO, ↓qP, ↓qQ, ↓qR, ↓lX, ↓fU, ↓bZ, ↓cA, ↓qY, ↓qZ, ↓fY, ↓rA, ↓lZ, ↓mD, ↓mF, ↓fZ, ↓gh, ↓gj, ↓cG, ↓mH, ↓gA, ↓rB, ↓gG, jw, pD, o9, sV, jx, pF, jy, fz_non, jA, pG, ph, sW, pq, sX, jB, pH, jC, pJ, jD, pK, pA, sY, pB, tD, pC, tE, gQ, mV, m9, mW, di, jE, iw, jF, dw, pM, jG, jH, ul, uo, uv, uw, ux, uz, uA, tG, mK, rW, dB, dC, jJ, dD, dF, bD, dG, dH, bF, dI, nR, pN, pO, pP, jK, jL, dJ, tH, jM, pQ, jN, jO, pU, pW, rY, rZ, dR, jQ, dU, bO, dW, bQ, jR, dX, bR, dY, dZ, jT, jU, uh, uR, u6, bU, bV, eE, j7, d8, bT, pZ, qb, jW, d9, jY, jZ, j5, qm, jX, qj, ql, ai3, ai4, ai5, aiV, Int.reduceToNat, bG, bH, dM, bJ, bK, dN, dO, bL, bM, eQ, eU, lD, qJ, qK, Option.isSome_some, Option.isSome_none, lE, Int.reduceEq, beq_self_eq_true, cQ, cR, eY, lH, eZ, fj, fu, lJ, lK, fB, fD, fK, bW, bz, lO, lQ, lV, lW, fV, cC, cD, lY, fX, qT, tM, qU, qW, qX, uB, uC, gq, mG, nj, nU, iy, nW, j8, kh, eG, j9, kY, qw, kZ, lg, qC, lu, lw, lA, qD, qF, startF, aiR, aiT, aiY, ai2, aiS, aiU, ai0, ai1, ai6, ai7, aiZ, aiW, aiX, Nat.reduceAdd, Nat.reduceSub, Nat.reduceLeDiff, Nat.reduceLT, Nat.zero_add, and_true, true_and, and_self, false_and, and_false, not_true_eq_false, not_false_eq_true, eq_self, decide_true, decide_false, Bool.not_true, Bool.not_false, Bool.true_and, Bool.false_and, Bool.and_true, Bool.and_false, Bool.or_true, Bool.or_false, Bool.true_or, Bool.false_or, Option.map_some, Option.map_none, Int.toNat_natCast, ↓reduceIte, Bool.false_eq_true, reduceCtorEq, Int.cast_ofNat_Int, Int.reduceLT, Int.reduceLE, Int.reduceAdd, Int.reduceSub, Int.reduceNeg, Int.natCast_zero, pY, and_assoc, ↓uI, ↓uJ, ↓uK, ↓vX, ↓aU, aF, aG, aV, aP, aM, aW, aH, aX, aQ, az, aN, aY, aZ, au, ↓Nk, i1, i2, i3, h1, ea]
   refine Rk hz hl ?_
   cases h2 : isIn Px c with
   | true =>
     simp only [↓ou, ↓mU, ↓wp_bind, ↓oM, ↓tZ, ↓sE, ↓oN, ↓iH, ↓nM, ↓oO, ↓rQ, ↓rR, ↓sG, ↓oR, ↓iI, ↓oU, ↓sH, ↓iJ, ↓iK, ↓oV, ↓cU, ↓sJ, ↓cV, ↓cW, ↓oW, ↓oX, ↓iQ, ↓sO, ↓qd, ↓iT, ↓oY, ↓sS, ↓ig, ↓iU, ↓iV, ↓m7, ↓oZ, ↓iW, ↓nO, ↓o5, ↓o7, ↓iY, ↓gU, ↓sU, ↓il, ↓cX, ↓bA, ↓cY, ↓o8, ↓jc, ↓je, ↓jf, ↓jh, ↓ji, ↓jk, ↓jm, ↓bB, ↓jn, ↓jo, ↓jr, ↓j6, ↓qp, ↓jt, ↓ir, ↓ju, ↓jV, ↓nY, ↓nZ, ↓nu, ↓nA, gM, oE, oF, nQ, ie, ue, uf, gR, oG, nH, oH, iG, oJ, oK, nJ, mX, mY, gY, ni, cZ, jP, pX, iZ, ↓km, ↓kE, ↓eO, ↓qu, ↓tK, ↓kJ, ↓kW, ↓oA, ↓lB, ↓lC, ↓qG, ↓qH, ↓qI, ↓qL, ↓lF, ↓eV, ↓tL, ↓eX, ↓lG, ↓lL, ↓lM, ↓fG, ↓fH, ↓fJ, ↓bY, ↓qM, ↓lN, ↓fL, ↓fM, ↓qN, ↓lU, ↓fO, ↓fP, ↓fQ, ↓qO, ↓qP, ↓qQ, ↓qR, ↓lX, ↓fU, ↓bZ, ↓cA, ↓qY, ↓qZ, ↓fY, ↓rA, ↓lZ, ↓mD, ↓mF, ↓fZ, ↓gh, ↓gj, ↓cG, ↓mH, ↓gA, ↓rB, ↓gG, jw, pD, o9, sV, jx, pF, jy, fz_non, jA, pG, ph, sW, pq, sX, jB, pH, jC, pJ, jD, pK, pA, sY, pB, tD, pC, tE, gQ, mV, m9, mW, di, jE, iw, jF, dw, pM, jG, jH, ul, uo, uv, uw, ux, uz, uA, tG, mK, rW, dB, dC, jJ, dD, dF, bD, dG, dH, bF, dI, nR, pN, pO, pP, jK, jL, dJ, tH, jM, pQ, jN, jO, pU, pW, rY, rZ, dR, jQ, dU, bO, dW, bQ, jR, dX, bR, dY, dZ, jT, jU, uh, uR, u6, bU, bV, eE, j7, d8, bT, pZ, qb, jW, d9, jY, jZ, j5, qm, jX, qj, ql, ai3, ai4, ai5, aiV, Int.reduceToNat, bG, bH, dM, bJ, bK, dN, dO, bL, bM, eQ, eU, lD, qJ, qK, Option.isSome_some, Option.isSome_none, lE, Int.reduceEq, beq_self_eq_true, cQ, cR, eY, lH, eZ, fj, fu, lJ, lK, fB, fD, fK, bW, bz, lO, lQ, lV, lW, fV, cC, cD, lY, fX, qT, tM, qU, qW, qX, uB, uC, gq, mG, nj, nU, iy, nW, j8, kh, eG, j9, kY, qw, kZ, lg, qC, lu, lw, lA, qD, qF, startF, aiR, aiT, aiY, ai2, aiS, aiU, ai0, ai1, ai6, ai7, aiZ, aiW, aiX, Nat.reduceAdd, Nat.reduceSub, Nat.reduceLeDiff, Nat.reduceLT, Nat.zero_add, and_true, true_and, and_self, false_and, and_false, not_true_eq_false, not_false_eq_true, eq_self, decide_true, decide_false, Bool.not_true, Bool.not_false, Bool.true_and, Bool.false_and, Bool.and_true, Bool.and_false, Bool.or_true, Bool.or_false, Bool.true_or, Bool.false_or, Option.map_some, Option.map_none, Int.toNat_natCast, ↓reduceIte, Bool.false_eq_true, reduceCtorEq, Int.cast_ofNat_Int, Int.reduceLT, Int.reduceLE, Int.reduceAdd, Int.reduceSub, Int.reduceNeg, Int.natCast_zero, pY, and_assoc, ↓uI, ↓uJ, ↓uK, ↓vX, ↓aU, aF, aG, aV, aP, aM, aW, aH, aX, aQ, az, aN, aY, aZ, au, i1, i2, i3, h2]
     refine Rk hz r1.2 ?_
     simp only [↓ou, ↓mU, ↓wp_bind, ↓oM, ↓tZ, ↓sE, ↓oN, ↓iH, ↓nM, ↓oO, ↓rQ, ↓rR, ↓sG, ↓oR, ↓iI, ↓oU, ↓sH, ↓iJ, ↓iK, ↓oV, ↓cU, ↓sJ, ↓cV, ↓cW, ↓oW, ↓oX, ↓iQ, ↓sO, ↓qd, ↓iT, ↓oY, ↓sS, ↓ig, ↓iU, ↓iV, ↓m7, ↓oZ, ↓iW, ↓nO, ↓o5, ↓o7, ↓iY, ↓gU, ↓sU, ↓il, ↓cX, ↓bA, ↓cY, ↓o8, ↓jc, ↓je, ↓jf, ↓jh, ↓ji, ↓jk, ↓jm, ↓bB, ↓jn, ↓jo, ↓jr, ↓j6, ↓qp, ↓jt, ↓ir, ↓ju, ↓jV, ↓nY, ↓nZ, ↓nu, ↓nA, gM, oE, oF, nQ, ie, ue, uf, gR, oG, nH, oH, iG, oJ, oK, nJ, mX, mY, gY, ni, cZ, jP, pX, iZ, ↓km, ↓kE, ↓eO, ↓qu, ↓tK, ↓kJ, ↓kW, ↓oA, ↓lB, ↓lC, ↓qG, ↓qH, ↓qI, ↓qL, ↓lF, ↓eV, ↓tL, ↓eX, ↓lG, ↓lL, ↓lM, ↓fG, ↓fH, ↓fJ, ↓bY, ↓qM, ↓lN, ↓fL, ↓fM, ↓qN, ↓lU, ↓fO, ↓fP, ↓fQ, ↓qO, ↓qP, ↓qQ, ↓qR, ↓lX, ↓fU, ↓bZ, ↓cA, ↓qY, ↓qZ, ↓fY, ↓rA, ↓lZ, ↓mD, ↓mF, ↓fZ, ↓gh, ↓gj, ↓cG, ↓mH, ↓gA, ↓rB, ↓gG, jw, pD, o9, sV, jx, pF, jy, fz_non, jA, pG, ph, sW, pq, sX, jB, pH, jC, pJ, jD, pK, pA, sY, pB, tD, pC, tE, gQ, mV, m9, mW, di, jE, iw, jF, dw, pM, jG, jH, ul, uo, uv, uw, ux, uz, uA, tG, mK, rW, dB, dC, jJ, dD, dF, bD, dG, dH, bF, dI, nR, pN, pO, pP, jK, jL, dJ, tH, jM, pQ, jN, jO, pU, pW, rY, rZ, dR, jQ, dU, bO, dW, bQ, jR, dX, bR, dY, dZ, jT, jU, uh, uR, u6, bU, bV, eE, j7, d8, bT, pZ, qb, jW, d9, jY, jZ, j5, qm, jX, qj, ql, ai3, ai4, ai5, aiV, Int.reduceToNat, bG, bH, dM, bJ, bK, dN, dO, bL, bM, eQ, eU, lD, qJ, qK, Option.isSome_some, Option.isSome_none, lE, Int.reduceEq, beq_self_eq_true, cQ, cR, eY, lH, eZ, fj, fu, lJ, lK, fB, fD, fK, bW, bz, lO, lQ, lV, lW, fV, cC, cD, lY, fX, qT, tM, qU, qW, qX, uB, uC, gq, mG, nj, nU, iy, nW, j8, kh, eG, j9, kY, qw, kZ, lg, qC, lu, lw, lA, qD, qF, startF, aiR, aiT, aiY, ai2, aiS, aiU, ai0, ai1, ai6, ai7, aiZ, aiW, aiX, Nat.reduceAdd, Nat.reduceSub, Nat.reduceLeDiff, Nat.reduceLT, Nat.zero_add, and_true, true_and, and_self, false_and, and_false, not_true_eq_false, not_false_eq_true, eq_self, decide_true, decide_false, Bool.not_true, Bool.not_false, Bool.true_and, Bool.false_and, Bool.and_true, Bool.and_false, Bool.or_true, Bool.or_false, Bool.true_or, Bool.false_or, Option.map_some, Option.map_none, Int.toNat_natCast, ↓reduceIte, Bool.false_eq_true, reduceCtorEq, Int.cast_ofNat_Int, Int.reduceLT, Int.reduceLE, Int.reduceAdd, Int.reduceSub, Int.reduceNeg, Int.natCast_zero, pY, and_assoc, ↓uI, ↓uJ, ↓uK, ↓vX, ↓aU, aF, aG, aV, aP, aM, aW, aH, aX, aQ, az, aN, aY, aZ, au]
     all_goals first | rfl | exact ⟨rfl, rfl, rfl⟩ | simp
   | false =>
     simp only [↓ou, ↓mU, ↓wp_bind, ↓oM, ↓tZ, ↓sE, ↓oN, ↓iH, ↓nM, ↓oO, ↓rQ, ↓rR, ↓sG, ↓oR, ↓iI, ↓oU, ↓sH, ↓iJ, ↓iK, ↓oV, ↓cU, ↓sJ, ↓cV, ↓cW, ↓oW, ↓oX, ↓iQ, ↓sO, ↓qd, ↓iT, ↓oY, ↓sS, ↓ig, ↓iU, ↓iV, ↓m7, ↓oZ, ↓iW, ↓nO, ↓o5, ↓o7, ↓iY, ↓gU, ↓sU, ↓il, ↓cX, ↓bA, ↓cY, ↓o8, ↓jc, ↓je, ↓jf, ↓jh, ↓ji, ↓jk, ↓jm, ↓bB, ↓jn, ↓jo, ↓jr, ↓j6, ↓qp, ↓jt, ↓ir, ↓ju, ↓jV, ↓nY, ↓nZ, ↓nu, ↓nA, gM, oE, oF, nQ, ie, ue, uf, gR, oG, nH, oH, iG, oJ, oK, nJ, mX, mY, gY, ni, cZ, jP, pX, iZ, ↓km, ↓kE, ↓eO, ↓qu, ↓tK, ↓kJ, ↓kW, ↓oA, ↓lB, ↓lC, ↓qG, ↓qH, ↓qI, ↓qL, ↓lF, ↓eV, ↓tL, ↓eX, ↓lG, ↓lL, ↓lM, ↓fG, ↓fH, ↓fJ, ↓bY, ↓qM, ↓lN, ↓fL, ↓fM, ↓qN, ↓lU, ↓fO, ↓fP, ↓fQ, ↓qO, ↓qP, ↓qQ, ↓qR, ↓lX, ↓fU, ↓bZ, ↓cA, ↓qY, ↓qZ, ↓fY, ↓rA, ↓lZ, ↓mD, ↓mF, ↓fZ, ↓gh, ↓gj, ↓cG, ↓mH, ↓gA, ↓rB, ↓gG, jw, pD, o9, sV, jx, pF, jy, fz_non, jA, pG, ph, sW, pq, sX, jB, pH, jC, pJ, jD, pK, pA, sY, pB, tD, pC, tE, gQ, mV, m9, mW, di, jE, iw, jF, dw, pM, jG, jH, ul, uo, uv, uw, ux, uz, uA, tG, mK, rW, dB, dC, jJ, dD, dF, bD, dG, dH, bF, dI, nR, pN, pO, pP, jK, jL, dJ, tH, jM, pQ, jN, jO, pU, pW, rY, rZ, dR, jQ, dU, bO, dW, bQ, jR, dX, bR, dY, dZ, jT, jU, uh, uR, u6, bU, bV, eE, j7, d8, bT, pZ, qb, jW, d9, jY, jZ, j5, qm, jX, qj, ql, ai3, ai4, ai5, aiV, Int.reduceToNat, bG, bH, dM, bJ, bK, dN, dO, bL, bM, eQ, eU, lD, qJ, qK, Option.isSome_some, Option.isSome_none, lE, Int.reduceEq, beq_self_eq_true, cQ, cR, eY, lH, eZ, fj, fu, lJ, lK, fB, fD, fK, bW, bz, lO, lQ, lV, lW, fV, cC, cD, lY, fX, qT, tM, qU, qW, qX, uB, uC, gq, mG, nj, nU, iy, nW, j8, kh, eG, j9, kY, qw, kZ, lg, qC, lu, lw, lA, qD, qF, startF, aiR, aiT, aiY, ai2, aiS, aiU, ai0, ai1, ai6, ai7, aiZ, aiW, aiX, Nat.reduceAdd, Nat.reduceSub, Nat.reduceLeDiff, Nat.reduceLT, Nat.zero_add, and_true, true_and, and_self, false_and, and_false, not_true_eq_false, not_false_eq_true, eq_self, decide_true, decide_false, Bool.not_true, Bool.not_false, Bool.true_and, Bool.false_and, Bool.and_true, Bool.and_false, Bool.or_true, Bool.or_false, Bool.true_or, Bool.false_or, Option.map_some, Option.map_none, Int.toNat_natCast, ↓reduceIte, Bool.false_eq_true, reduceCtorEq, Int.cast_ofNat_Int, Int.reduceLT, Int.reduceLE, Int.reduceAdd, Int.reduceSub, Int.reduceNeg, Int.natCast_zero, pY, and_assoc, ↓uI, ↓uJ, ↓uK, ↓vX, ↓aU, aF, aG, aV, aP, aM, aW, aH, aX, aQ, az, aN, aY, aZ, au, i1, i2, i3, h2]
     all_goals first | rfl | exact ⟨rfl, rfl, rfl⟩ | simp
 | false =>
   cases h2 : isIn Px c with
   | true =>
     simp only [↓ou, ↓mU, ↓wp_bind, ↓oM, ↓tZ, ↓sE, ↓oN, ↓iH, ↓nM, ↓oO, ↓rQ, ↓rR, ↓sG, ↓oR, ↓iI, ↓oU, ↓sH, ↓iJ, ↓iK, ↓oV, ↓cU, ↓sJ, ↓cV, ↓cW, ↓oW, ↓oX, ↓iQ, ↓sO, ↓qd, ↓iT, ↓oY, ↓sS, ↓ig, ↓iU, ↓iV, ↓m7, ↓oZ, ↓iW, ↓nO, ↓o5, ↓o7, ↓iY, ↓gU, ↓sU, ↓il, ↓cX, ↓bA, ↓cY, ↓o8, ↓jc, ↓je, ↓jf, ↓jh, ↓ji, ↓jk, ↓jm, ↓bB, ↓jn, ↓jo, ↓jr, ↓j6, ↓qp, ↓jt, ↓ir, ↓ju, ↓jV, ↓nY, ↓nZ, ↓nu, ↓nA, gM, oE, oF, nQ, ie, ue, uf, gR, oG, nH, oH, iG, oJ, oK, nJ, mX, mY, gY, ni, cZ, jP, pX, iZ, ↓km, ↓kE, ↓eO, ↓qu, ↓tK, ↓kJ, ↓kW, ↓oA, ↓lB, ↓lC, ↓qG, ↓qH, ↓qI, ↓qL, ↓lF, ↓eV, ↓tL, ↓eX, ↓lG, ↓lL, ↓lM, ↓fG, ↓fH, ↓fJ, ↓bY, ↓qM, ↓lN, ↓fL, ↓fM, ↓qN, ↓lU, ↓fO, ↓fP, ↓fQ, ↓qO, ↓qP, ↓qQ, ↓qR, ↓lX, ↓fU, ↓bZ, ↓cA, ↓qY, ↓qZ, ↓fY, ↓rA, ↓lZ, ↓mD, ↓mF, ↓fZ, ↓gh, ↓gj, ↓cG, ↓mH, ↓gA, ↓rB, ↓gG, jw, pD, o9, sV, jx, pF, jy, fz_non, jA, pG, ph, sW, pq, sX, jB, pH, jC, pJ, jD, pK, pA, sY, pB, tD, pC, tE, gQ, mV, m9, mW, di, jE, iw, jF, dw, pM, jG, jH, ul, uo, uv, uw, ux, uz, uA, tG, mK, rW, dB, dC, jJ, dD, dF, bD, dG, dH, bF, dI, nR, pN, pO, pP, jK, jL, dJ, tH, jM, pQ, jN, jO, pU, pW, rY, rZ, dR, jQ, dU, bO, dW, bQ, jR, dX, bR, dY, dZ, jT, jU, uh, uR, u6, bU, bV, eE, j7, d8, bT, pZ, qb, jW, d9, jY, jZ, j5, qm, jX, qj, ql, ai3, ai4, ai5, aiV, Int.reduceToNat, bG, bH, dM, bJ, bK, dN, dO, bL, bM, eQ, eU, lD, qJ, qK, Option.isSome_some, Option.isSome_none, lE, Int.reduceEq, beq_self_eq_true, cQ, cR, eY, lH, eZ, fj, fu, lJ, lK, fB, fD, fK, bW, bz, lO, lQ, lV, lW, fV, cC, cD, lY, fX, qT, tM, qU, qW, qX, uB, uC, gq, mG, nj, nU, iy, nW, j8, kh, eG, j9, kY, qw, kZ, lg, qC, lu, lw, lA, qD, qF, startF, aiR, aiT, aiY, ai2, aiS, aiU, ai0, ai1, ai6, ai7, aiZ, aiW, aiX, Nat.reduceAdd, Nat.reduceSub, Nat.reduceLeDiff, Nat.reduceLT, Nat.zero_add, and_true, true_and, and_self, false_and, and_false, not_true_eq_false, not_false_eq_true, eq_self, decide_true, decide_false, Bool.not_true, Bool.not_false, Bool.true_and, Bool.false_and, Bool.and_true, Bool.and_false, Bool.or_true, Bool.or_false, Bool.true_or, Bool.false_or, Option.map_some, Option.map_none, Int.toNat_natCast, ↓reduceIte, Bool.false_eq_true, reduceCtorEq, Int.cast_ofNat_Int, Int.reduceLT, Int.reduceLE, Int.reduceAdd, Int.reduceSub, Int.reduceNeg, Int.natCast_zero, pY, and_assoc, ↓uI, ↓uJ, ↓uK, ↓vX, ↓aU, aF, aG, aV, aP, aM, aW, aH, aX, aQ, az, aN, aY, aZ, au, ↓Nk, i1, i2, i3, h1, h2, ea]
     refine Rk hz hl ?_
     simp only [↓ou, ↓mU, ↓wp_bind, ↓oM, ↓tZ, ↓sE, ↓oN, ↓iH, ↓nM, ↓oO, ↓rQ, ↓rR, ↓sG, ↓oR, ↓iI, ↓oU, ↓sH, ↓iJ, ↓iK, ↓oV, ↓cU, ↓sJ, ↓cV, ↓cW, ↓oW, ↓oX, ↓iQ, ↓sO, ↓qd, ↓iT, ↓oY, ↓sS, ↓ig, ↓iU, ↓iV, ↓m7, ↓oZ, ↓iW, ↓nO, ↓o5, ↓o7, ↓iY, ↓gU, ↓sU, ↓il, ↓cX, ↓bA, ↓cY, ↓o8, ↓jc, ↓je, ↓jf, ↓jh, ↓ji, ↓jk, ↓jm, ↓bB, ↓jn, ↓jo, ↓jr, ↓j6, ↓qp, ↓jt, ↓ir, ↓ju, ↓jV, ↓nY, ↓nZ, ↓nu, ↓nA, gM, oE, oF, nQ, ie, ue, uf, gR, oG, nH, oH, iG, oJ, oK, nJ, mX, mY, gY, ni, cZ, jP, pX, iZ, ↓km, ↓kE, ↓eO, ↓qu, ↓tK, ↓kJ, ↓kW, ↓oA, ↓lB, ↓lC, ↓qG, ↓qH, ↓qI, ↓qL, ↓lF, ↓eV, ↓tL, ↓eX, ↓lG, ↓lL, ↓lM, ↓fG, ↓fH, ↓fJ, ↓bY, ↓qM, ↓lN, ↓fL, ↓fM, ↓qN, ↓lU, ↓fO, ↓fP, ↓fQ, ↓qO, ↓qP, ↓qQ, ↓qR, ↓lX, ↓fU, ↓bZ, ↓cA, ↓qY, ↓qZ, ↓fY, ↓rA, ↓lZ, ↓mD, ↓mF, ↓fZ, ↓gh, ↓gj, ↓cG, ↓mH, ↓gA, ↓rB, ↓gG, jw, pD, o9, sV, jx, pF, jy, fz_non, jA, pG, ph, sW, pq, sX, jB, pH, jC, pJ, jD, pK, pA, sY, pB, tD, pC, tE, gQ, mV, m9, mW, di, jE, iw, jF, dw, pM, jG, jH, ul, uo, uv, uw, ux, uz, uA, tG, mK, rW, dB, dC, jJ, dD, dF, bD, dG, dH, bF, dI, nR, pN, pO, pP, jK, jL, dJ, tH, jM, pQ, jN, jO, pU, pW, rY, rZ, dR, jQ, dU, bO, dW, bQ, jR, dX, bR, dY, dZ, jT, jU, uh, uR, u6, bU, bV, eE, j7, d8, bT, pZ, qb, jW, d9, jY, jZ, j5, qm, jX, qj, ql, ai3, ai4, ai5, aiV, Int.reduceToNat, bG, bH, dM, bJ, bK, dN, dO, bL, bM, eQ, eU, lD, qJ, qK, Option.isSome_some, Option.isSome_none, lE, Int.reduceEq, beq_self_eq_true, cQ, cR, eY, lH, eZ, fj, fu, lJ, lK, fB, fD, fK, bW, bz, lO, lQ, lV, lW, fV, cC, cD, lY, fX, qT, tM, qU, qW, qX, uB, uC, gq, mG, nj, nU, iy, nW, j8, kh, eG, j9, kY, qw, kZ, lg, qC, lu, lw, lA, qD, qF, startF, aiR, aiT, aiY, ai2, aiS, aiU, ai0, ai1, ai6, ai7, aiZ, aiW, aiX, Nat.reduceAdd, Nat.reduceSub, Nat.reduceLeDiff, Nat.reduceLT, Nat.zero_add, and_true, true_and, and_self, false_and, and_false, not_true_eq_false, not_false_eq_true, eq_self, decide_true, decide_false, Bool.not_true, Bool.not_false, Bool.true_and, Bool.false_and, Bool.and_true, Bool.and_false, Bool.or_true, Bool.or_false, Bool.true_or, Bool.false_or, Option.map_some, Option.map_none, Int.toNat_natCast, ↓reduceIte, Bool.false_eq_true, reduceCtorEq, Int.cast_ofNat_Int, Int.reduceLT, Int.reduceLE, Int.reduceAdd, Int.reduceSub, Int.reduceNeg, Int.natCast_zero, pY, and_assoc, ↓uI, ↓uJ, ↓uK, ↓vX, ↓aU, aF, aG, aV, aP, aM, aW, aH, aX, aQ, az, aN, aY, aZ, au]
     all_goals first | rfl | exact ⟨rfl, rfl, rfl⟩ | simp
   | false =>
     simp only [↓ou, ↓mU, ↓wp_bind, ↓oM, ↓tZ, ↓sE, ↓oN, ↓iH, ↓nM, ↓oO, ↓rQ, ↓rR, ↓sG, ↓oR, ↓iI, ↓oU, ↓sH, ↓iJ, ↓iK, ↓oV, ↓cU, ↓sJ, ↓cV, ↓cW, ↓oW, ↓oX, ↓iQ, ↓sO, ↓qd, ↓iT, ↓oY, ↓sS, ↓ig, ↓iU, ↓iV, ↓m7, ↓oZ, ↓iW, ↓nO, ↓o5, ↓o7, ↓iY, ↓gU, ↓sU, ↓il, ↓cX, ↓bA, ↓cY, ↓o8, ↓jc, ↓je, ↓jf, ↓jh, ↓ji, ↓jk, ↓jm, ↓bB, ↓jn, ↓jo, ↓jr, ↓j6, ↓qp, ↓jt, ↓ir, ↓ju, ↓jV, ↓nY, ↓nZ, ↓nu, ↓nA, gM, oE, oF, nQ, ie, ue, uf, gR, oG, nH, oH, iG, oJ, oK, nJ, mX, mY, gY, ni, cZ, jP, pX, iZ, ↓km, ↓kE, ↓eO, ↓qu, ↓tK, ↓kJ, ↓kW, ↓oA, ↓lB, ↓lC, ↓qG, ↓qH, ↓qI, ↓qL, ↓lF, ↓eV, ↓tL, ↓eX, ↓lG, ↓lL, ↓lM, ↓fG, ↓fH, ↓fJ, ↓bY, ↓qM, ↓lN, ↓fL, ↓fM, ↓qN, ↓lU, ↓fO, ↓fP, ↓fQ, ↓qO, ↓qP, ↓qQ, ↓qR, ↓lX, ↓fU, ↓bZ, ↓cA, ↓qY, ↓qZ, ↓fY, ↓rA, ↓lZ, ↓mD, ↓mF, ↓fZ, ↓gh, ↓gj, ↓cG, ↓mH, ↓gA, ↓rB, ↓gG, jw, pD, o9, sV, jx, pF, jy, fz_non, jA, pG, ph, sW, pq, sX, jB, pH, jC, pJ, jD, pK, pA, sY, pB, tD, pC, tE, gQ, mV, m9, mW, di, jE, iw, jF, dw, pM, jG, jH, ul, uo, uv, uw, ux, uz, uA, tG, mK, rW, dB, dC, jJ, dD, dF, bD, dG, dH, bF, dI, nR, pN, pO, pP, jK, jL, dJ, tH, jM, pQ, jN, jO, pU, pW, rY, rZ, dR, jQ, dU, bO, dW, bQ, jR, dX, bR, dY, dZ, jT, jU, uh, uR, u6, bU, bV, eE, j7, d8, bT, pZ, qb, jW, d9, jY, jZ, j5, qm, jX, qj, ql, ai3, ai4, ai5, aiV, Int.reduceToNat, bG, bH, dM, bJ, bK, dN, dO, bL, bM, eQ, eU, lD, qJ, qK, Option.isSome_some, Option.isSome_none, lE, Int.reduceEq, beq_self_eq_true, cQ, cR, eY, lH, eZ, fj, fu, lJ, lK, fB, fD, fK, bW, bz, lO, lQ, lV, lW, fV, cC, cD, lY, fX, qT, tM, qU, qW, qX, uB, uC, gq, mG, nj, nU, iy, nW, j8, kh, eG, j9, kY, qw, kZ, lg, qC, lu, lw, lA, qD, qF, startF, aiR, aiT, aiY, ai2, aiS, aiU, ai0, ai1, ai6, ai7, aiZ, aiW, aiX, Nat.reduceAdd, Nat.reduceSub, Nat.reduceLeDiff, Nat.reduceLT, Nat.zero_add, and_true, true_and, and_self, false_and, and_false, not_true_eq_false, not_false_eq_true, eq_self, decide_true, decide_false, Bool.not_true, Bool.not_false, Bool.true_and, Bool.false_and, Bool.and_true, Bool.and_false, Bool.or_true, Bool.or_false, Bool.true_or, Bool.false_or, Option.map_some, Option.map_none, Int.toNat_natCast, ↓reduceIte, Bool.false_eq_true, reduceCtorEq, Int.cast_ofNat_Int, Int.reduceLT, Int.reduceLE, Int.reduceAdd, Int.reduceSub, Int.reduceNeg, Int.natCast_zero, pY, and_assoc, ↓uI, ↓uJ, ↓uK, ↓vX, ↓aU, aF, aG, aV, aP, aM, aW, aH, aX, aQ, az, aN, aY, aZ, au, ↓Nk, i1, i2, i3, h1, h2, ea]
     all_goals first | rfl | exact ⟨rfl, rfl, rfl⟩ | simp
end L
namespace L
open PySem PySem.Spec L2 Pk
theorem aho {h : Hh} {c : Nat} (hc : c < 0x110000) : uE h (.str ⟨#[c]⟩) (.str " ") = some (decide (c = 32)) := by
 have e := Vh (h := h) Em.str (Kl ⟨#[c]⟩) (Kl " ") (show zU ⟨#[c]⟩ = true by show (#[c] : Array Nat).all _ = true; simp [hc]) (show zU " " = true by decide +kernel) (by decide)
 rw [e]
 congr 1
 by_cases h1 : c = 32
 · subst h1
   rw [decide_eq_true (rfl : (32 : Nat) = 32)]
   exact decide_eq_true (by decide +kernel)
 · rw [decide_eq_false h1]
   refine decide_eq_false fun z => h1 ?_
   have z' : (⟨#[c]⟩ : Str).cps.toList = (" " : Str).cps.toList := by rw [z]
   have e2 : (" " : Str).cps.toList = [32] := by decide +kernel
   rw [e2] at z'
   simpa using z'
section
variable {α : Type} {l : List α} {x y z v : α} {r : List α}
theorem JV : (l ++ x :: r)[l.length]? = some x := by rw [aji (Nat.le_refl _), Nat.sub_self]; rfl
theorem ap1 : (l ++ x :: y :: r)[l.length + 1]? = some y := by rw [aji (Nat.le_add_right _ _), Nat.add_sub_cancel_left]; rfl
theorem ap2 : (l ++ x :: y :: z :: r)[l.length + 2]? = some z := by rw [aji (Nat.le_add_right _ _), Nat.add_sub_cancel_left]; rfl
theorem st0 : (l ++ x :: r).set l.length v = l ++ v :: r := by rw [List.set_append_right _ _ (Nat.le_refl _), Nat.sub_self]; rfl
theorem st1 : (l ++ x :: y :: r).set (l.length + 1) v = l ++ x :: v :: r := by rw [List.set_append_right _ _ (Nat.le_add_right _ _), Nat.add_sub_cancel_left]; rfl
theorem st2 : (l ++ x :: y :: z :: r).set (l.length + 2) v = l ++ x :: y :: v :: r := by rw [List.set_append_right _ _ (Nat.le_add_right _ _), Nat.add_sub_cancel_left]; rfl
end
theorem Dh {h0 r : Hh} {a b : D} {s : List D} : ug xU (h0 ++ .no 0 (a :: b :: s) :: r) (.ref h0.length) = some b := by
 unfold ug D.ins D.der
 simp only [JV, Option.getD_some]
 rfl
theorem GJ {h0 r : Hh} {a b c : D} {s : List D} : ug zf (h0 ++ .no 0 (a :: b :: c :: s) :: r) (.ref h0.length) = some c := by
 unfold ug D.ins D.der
 simp only [JV, Option.getD_some]
 rfl
theorem GP {h0 r : Hh} {a b c e : D} {s : List D} : ug wV (h0 ++ .no 0 (a :: b :: c :: e :: s) :: r) (.ref h0.length) = some e := by
 unfold ug D.ins D.der
 simp only [JV, Option.getD_some]
 rfl
theorem wH {h0 r : Hh} {a : D} {s : List D} : ug tQ (h0 ++ .no 0 (a :: s) :: r) (.ref h0.length) = some a := by
 unfold ug D.ins D.der
 simp only [JV, Option.getD_some]
 rfl
def TH (h0 : Hh) (sz : Int) (ws : List Str) (ps : List Int) (sp : Int) : Hh := h0 ++ [.no 0 [.int sz, .ref (h0.length + 1), .ref (h0.length + 2), .int sp], .nl (ws.map .str), .nl (ps.map .int)]
theorem aeQ {l : List Nat} {a c : Nat} (ha : a < l.length) : a < wE l a c ∧ wE l a c ≤ l.length := by
 have r1 := Yd (S := Xn) (cs := l) (e := a + 1) ha
 have r2 := Yd (S := Px) (cs := l) (e := a + 1) ha
 have r3 := Yd (S := Px) (cs := l) (e := rE Xn l (a + 1)) r1.2
 unfold wE
 split
 · split <;> omega
 · split <;> omega
def tk (z : Str) : Nat → Nat → List (Str × Nat)
 | 0, _ => []
 | n + 1, a => match (cs z)[a]? with
   | none => []
   | some c => if c = 32 then tk z n (a + 1) else (cutS z (some (a : Int)) (some (wE (cs z) a c : Nat)), a) :: tk z n (wE (cs z) a c)
theorem Sh {z : Str} : ∀ (n m a : Nat), (cs z).length - a < n → (cs z).length - a < m → tk z n a = tk z m a := by
 intro n
 induction n with
 | zero => intro m a h; exact absurd h (Nat.not_lt_zero _)
 | succ n ih =>
   intro m a h1 h2
   cases m with
   | zero => exact absurd h2 (Nat.not_lt_zero _)
   | succ m =>
     unfold tk
     cases e : (cs z)[a]? with
     | none => rfl
     | some c =>
       have hl : a < (cs z).length := (List.getElem?_eq_some_iff.mp e).1
       have g := aeQ (c := c) hl
       dsimp only
       rw [ih m (a + 1) (by omega) (by omega), ih m (wE (cs z) a c) (by omega) (by omega)]
def TK (z : Str) : List (Str × Nat) := tk z (z.length + 1) 0
theorem afJ {h : Hh} {z : Str} {a b : Int} (hz : z.length ≤ 1000) : zR h (.str z) (some a, some b) = some (.str (cutS z (some a) (some b))) := by
 show (if z.length ≤ big then some (D.str (cutS z (some a) (some b))) else none) = _
 rw [if_pos (Nat.le_trans hz (by decide))]
theorem VH {d : D} {l : List D} (hl : l.length ≤ 1000) : Eu d l = some (l ++ [d]) := by
 unfold Eu
 rw [if_pos (Nat.lt_of_le_of_lt hl (by decide))]
theorem acT {h0 : Hh} {z : Str} {sz : Int} (hz : z.length ≤ 59) (hg : zU z = true) :
 wW [.ref h0.length, .str z, .int sz] (h0 ++ [.no 0 []]) = .ok .non [] (TH h0 sz ((TK z).map (·.1)) ((TK z).map (fun p => (p.2 : Int)) ++ [((cs z).length : Int)]) 0) := by
 have hz' : z.length ≤ 1000 := by omega
 have hl : ∀ h : Hh, vh h (.str z) = some (.int ((cs z).length : Nat)) := fun h => Xa hz'
 have hg' : ∀ c ∈ cs z, c < 0x110000 := fun c hc => by
  have : z.cps.all (· < 0x110000) = true := hg
  rw [Array.all_eq_true'] at this
  exact of_decide_eq_true (this c (Array.mem_toList_iff.mp hc))
 apply Wp.eq
 simp only [↓ou, ↓mU, ↓wp_bind, ↓oM, ↓tZ, ↓sE, ↓oN, ↓iH, ↓nM, ↓oO, ↓rQ, ↓rR, ↓sG, ↓oR, ↓iI, ↓oU, ↓sH, ↓iJ, ↓iK, ↓oV, ↓cU, ↓sJ, ↓cV, ↓cW, ↓oW, ↓oX, ↓iQ, ↓sO, ↓qd, ↓iT, ↓oY, ↓sS, ↓ig, ↓iU, ↓iV, ↓m7, ↓oZ, ↓iW, ↓nO, ↓o5, ↓o7, ↓iY, ↓gU, ↓sU, ↓il, ↓cX, ↓bA, ↓cY, ↓o8, ↓jc, ↓je, ↓jf, ↓jh, ↓ji, ↓jk, ↓jm, ↓bB, ↓jn, ↓jo, ↓jr, ↓j6, ↓qp, ↓jt, ↓ir, ↓ju, ↓jV, ↓nY, ↓nZ, ↓nu, ↓nA, gM, oE, oF, nQ, ie, ue, uf, gR, oG, nH, oH, iG, oJ, oK, nJ, mX, mY, gY, ni, cZ, jP, pX, iZ, ↓km, ↓kE, ↓eO, ↓qu, ↓tK, ↓kJ, ↓kW, ↓oA, ↓lB, ↓lC, ↓qG, ↓qH, ↓qI, ↓qL, ↓lF, ↓eV, ↓tL, ↓eX, ↓lG, ↓lL, ↓lM, ↓fG, ↓fH, ↓fJ, ↓bY, ↓qM, ↓lN, ↓fL, ↓fM, ↓qN, ↓lU, ↓fO, ↓fP, ↓fQ, ↓qO, ↓qP, ↓qQ, ↓qR, ↓lX, ↓fU, ↓bZ, ↓cA, ↓qY, ↓qZ, ↓fY, ↓rA, ↓lZ, ↓mD, ↓mF, ↓fZ, ↓gh, ↓gj, ↓cG, ↓mH, ↓gA, ↓rB, ↓gG, jw, pD, o9, sV, jx, pF, jy, fz_non, jA, pG, ph, sW, pq, sX, jB, pH, jC, pJ, jD, pK, pA, sY, pB, tD, pC, tE, gQ, mV, m9, mW, di, jE, iw, jF, dw, pM, jG, jH, ul, uo, uv, uw, ux, uz, uA, tG, mK, rW, dB, dC, jJ, dD, dF, bD, dG, dH, bF, dI, nR, pN, pO, pP, jK, jL, dJ, tH, jM, pQ, jN, jO, pU, pW, rY, rZ, dR, jQ, dU, bO, dW, bQ, jR, dX, bR, dY, dZ, jT, jU, uh, uR, u6, bU, bV, eE, j7, d8, bT, pZ, qb, jW, d9, jY, jZ, j5, qm, jX, qj, ql, ai3, ai4, ai5, aiV, Int.reduceToNat, bG, bH, dM, bJ, bK, dN, dO, bL, bM, eQ, eU, lD, qJ, qK, Option.isSome_some, Option.isSome_none, lE, Int.reduceEq, beq_self_eq_true, cQ, cR, eY, lH, eZ, fj, fu, lJ, lK, fB, fD, fK, bW, bz, lO, lQ, lV, lW, fV, cC, cD, lY, fX, qT, tM, qU, qW, qX, uB, uC, gq, mG, nj, nU, iy, nW, j8, kh, eG, j9, kY, qw, kZ, lg, qC, lu, lw, lA, qD, qF, startF, aiR, aiT, aiY, ai2, aiS, aiU, ai0, ai1, ai6, ai7, aiZ, aiW, aiX, Nat.reduceAdd, Nat.reduceSub, Nat.reduceLeDiff, Nat.reduceLT, Nat.zero_add, and_true, true_and, and_self, false_and, and_false, not_true_eq_false, not_false_eq_true, eq_self, decide_true, decide_false, Bool.not_true, Bool.not_false, Bool.true_and, Bool.false_and, Bool.and_true, Bool.and_false, Bool.or_true, Bool.or_false, Bool.true_or, Bool.false_or, Option.map_some, Option.map_none, Int.toNat_natCast, ↓reduceIte, Bool.false_eq_true, reduceCtorEq, Int.cast_ofNat_Int, Int.reduceLT, Int.reduceLE, Int.reduceAdd, Int.reduceSub, Int.reduceNeg, Int.natCast_zero, pY, and_assoc, ↓uI, ↓uJ, ↓uK, ↓vX, ↓yQ, ↓yR, ↓yS, ↓yU, ↓yV, ↓yW, ↓Ae, ↓aU, aF, aG, aV, aP, aM, aW, aH, aX, aQ, az, aN, aY, aZ, au, ↓Qa, JV, ap1, ap2, st0, st1, st2, List.append_assoc, aiY, ai2, ajh, xj]
 refine Xm (fun k fr h => ∃ (a : Nat) (x : Option D) (ws : List Str) (ps : List Int), fr = [some (.ref h0.length), some (.str z), some (.int sz), some (.int (a : Nat)), x] ∧ h = TH h0 sz ws ps 0 ∧ k = (cs z).length - a ∧ a ≤ (cs z).length ∧ ws.length ≤ a ∧ ps.length ≤ a ∧
  ws ++ (tk z (k + 1) a).map (·.1) = (TK z).map (·.1) ∧ ps ++ (tk z (k + 1) a).map (fun p => (p.2 : Int)) = (TK z).map (fun p => (p.2 : Int))) ?_ 60 (cs z).length _ _ (by rw [Hr] at hz; omega)
  ⟨0, none, [], [], rfl, rfl, rfl, Nat.zero_le _, Nat.le_refl _, Nat.le_refl _, by rw [TK, Hr]; rfl, by rw [TK, Hr]; rfl⟩
 rintro k fr h ⟨a, x, ws, ps, rfl, rfl, rfl, ha, hw, hp, e1, e2⟩
 by_cases hlt : a < (cs z).length
 · have hc : (cs z)[a]? = some (cs z)[a] := ai9 hlt
   have hcg := hg' _ (List.getElem_mem hlt)
   generalize (cs z)[a] = c at hc hcg
   have g := aeQ (c := c) hlt
   have d1 : decide ((a : Int) < ((cs z).length : Nat)) = true := decide_eq_true (by omega)
   have i1 : ∀ h : Hh, gJ h (.str z) (.int (a : Int)) = some (.str ⟨#[c]⟩) := fun h => Sd hz' hc
   have i2 : ∀ h : Hh, uE h (.str ⟨#[c]⟩) (.str " ") = some (decide (c = 32)) := fun h => aho hcg
   have hws : ws.length ≤ 1000 := by rw [Hr] at hz; omega
   have hps : ps.length ≤ 1000 := by rw [Hr] at hz; omega
   have ek : (cs z).length - a + 1 = ((cs z).length - a) + 1 := rfl
   rw [tk, hc] at e1 e2
   dsimp only at e1 e2
   by_cases h32 : c = 32
   · rw [if_pos h32] at e1 e2
     have d2 : decide (c = 32) = true := decide_eq_true h32
     simp only [↓ou, ↓mU, ↓wp_bind, ↓oM, ↓tZ, ↓sE, ↓oN, ↓iH, ↓nM, ↓oO, ↓rQ, ↓rR, ↓sG, ↓oR, ↓iI, ↓oU, ↓sH, ↓iJ, ↓iK, ↓oV, ↓cU, ↓sJ, ↓cV, ↓cW, ↓oW, ↓oX, ↓iQ, ↓sO, ↓qd, ↓iT, ↓oY, ↓sS, ↓ig, ↓iU, ↓iV, ↓m7, ↓oZ, ↓iW, ↓nO, ↓o5, ↓o7, ↓iY, ↓gU, ↓sU, ↓il, ↓cX, ↓bA, ↓cY, ↓o8, ↓jc, ↓je, ↓jf, ↓jh, ↓ji, ↓jk, ↓jm, ↓bB, ↓jn, ↓jo, ↓jr, ↓j6, ↓qp, ↓jt, ↓ir, ↓ju, ↓jV, ↓nY, ↓nZ, ↓nu, ↓nA, gM, oE, oF, nQ, ie, ue, uf, gR, oG, nH, oH, iG, oJ, oK, nJ, mX, mY, gY, ni, cZ, jP, pX, iZ, ↓km, ↓kE, ↓eO, ↓qu, ↓tK, ↓kJ, ↓kW, ↓oA, ↓lB, ↓lC, ↓qG, ↓qH, ↓qI, ↓qL, ↓lF, ↓eV, ↓tL, ↓eX, ↓lG, ↓lL, ↓lM, ↓fG, ↓fH, ↓fJ, ↓bY, ↓qM, ↓lN, ↓fL, ↓fM, ↓qN, ↓lU, ↓fO, ↓fP, ↓fQ, ↓qO, ↓qP, ↓qQ, ↓qR, ↓lX, ↓fU, ↓bZ, ↓cA, ↓qY, ↓qZ, ↓fY, ↓rA, ↓lZ, ↓mD, ↓mF, ↓fZ, ↓gh, ↓gj, ↓cG, ↓mH, ↓gA, ↓rB, ↓gG, jw, pD, o9, sV, jx, pF, jy, fz_non, jA, pG, ph, sW, pq, sX, jB, pH, jC, pJ, jD, pK, pA, sY, pB, tD, pC, tE, gQ, mV, m9, mW, di, jE, iw, jF, dw, pM, jG, jH, ul, uo, uv, uw, ux, uz, uA, tG, mK, rW, dB, dC, jJ, dD, dF, bD, dG, dH, bF, dI, nR, pN, pO, pP, jK, jL, dJ, tH, jM, pQ, jN, jO, pU, pW, rY, rZ, dR, jQ, dU, bO, dW, bQ, jR, dX, bR, dY, dZ, jT, jU, uh, uR, u6, bU, bV, eE, j7, d8, bT, pZ, qb, jW, d9, jY, jZ, j5, qm, jX, qj, ql, ai3, ai4, ai5, aiV, Int.reduceToNat, bG, bH, dM, bJ, bK, dN, dO, bL, bM, eQ, eU, lD, qJ, qK, Option.isSome_some, Option.isSome_none, lE, Int.reduceEq, beq_self_eq_true, cQ, cR, eY, lH, eZ, fj, fu, lJ, lK, fB, fD, fK, bW, bz, lO, lQ, lV, lW, fV, cC, cD, lY, fX, qT, tM, qU, qW, qX, uB, uC, gq, mG, nj, nU, iy, nW, j8, kh, eG, j9, kY, qw, kZ, lg, qC, lu, lw, lA, qD, qF, startF, aiR, aiT, aiY, ai2, aiS, aiU, ai0, ai1, ai6, ai7, aiZ, aiW, aiX, Nat.reduceAdd, Nat.reduceSub, Nat.reduceLeDiff, Nat.reduceLT, Nat.zero_add, and_true, true_and, and_self, false_and, and_false, not_true_eq_false, not_false_eq_true, eq_self, decide_true, decide_false, Bool.not_true, Bool.not_false, Bool.true_and, Bool.false_and, Bool.and_true, Bool.and_false, Bool.or_true, Bool.or_false, Bool.true_or, Bool.false_or, Option.map_some, Option.map_none, Int.toNat_natCast, ↓reduceIte, Bool.false_eq_true, reduceCtorEq, Int.cast_ofNat_Int, Int.reduceLT, Int.reduceLE, Int.reduceAdd, Int.reduceSub, Int.reduceNeg, Int.natCast_zero, pY, and_assoc, ↓uI, ↓uJ, ↓uK, ↓vX, ↓yQ, ↓yR, ↓yS, ↓yU, ↓yV, ↓yW, ↓Ae, ↓aU, aF, aG, aV, aP, aM, aW, aH, aX, aQ, az, aN, aY, aZ, au, TH, hl, d1, i1, i2, d2]
     refine ⟨(cs z).length - (a + 1), by omega, a + 1, x, ws, ps, by simp only [Int.natCast_add, Int.natCast_one, aiW, aiX], rfl, rfl, by omega, by omega, by omega, ?_, ?_⟩
     · rw [← e1, Sh ((cs z).length - (a + 1) + 1) ((cs z).length - a) (a + 1) (by omega) (by omega)]
     · rw [← e2, Sh ((cs z).length - (a + 1) + 1) ((cs z).length - a) (a + 1) (by omega) (by omega)]
   · rw [if_neg h32] at e1 e2
     have d2 : decide (c = 32) = false := decide_eq_false h32
     have we : ∀ h : Hh, BR [.str z, .int (a : Nat)] h = .ok (.int (wE (cs z) a c : Nat)) [] h := fun h => XM hz hc
     have ct : ∀ h : Hh, zR h (.str z) (some (a : Int), some ((wE (cs z) a c : Nat) : Int)) = some (.str (cutS z (some (a : Int)) (some ((wE (cs z) a c : Nat) : Int)))) := fun h => afJ hz'
     have aw : ∀ d : D, Eu d (ws.map .str) = some (ws.map .str ++ [d]) := fun d => VH (by rw [ajb]; exact hws)
     have ap : ∀ d : D, Eu d (ps.map .int) = some (ps.map .int ++ [d]) := fun d => VH (by rw [ajb]; exact hps)
     simp only [↓ou, ↓mU, ↓wp_bind, ↓oM, ↓tZ, ↓sE, ↓oN, ↓iH, ↓nM, ↓oO, ↓rQ, ↓rR, ↓sG, ↓oR, ↓iI, ↓oU, ↓sH, ↓iJ, ↓iK, ↓oV, ↓cU, ↓sJ, ↓cV, ↓cW, ↓oW, ↓oX, ↓iQ, ↓sO, ↓qd, ↓iT, ↓oY, ↓sS, ↓ig, ↓iU, ↓iV, ↓m7, ↓oZ, ↓iW, ↓nO, ↓o5, ↓o7, ↓iY, ↓gU, ↓sU, ↓il, ↓cX, ↓bA, ↓cY, ↓o8, ↓jc, ↓je, ↓jf, ↓jh, ↓ji, ↓jk, ↓jm, ↓bB, ↓jn, ↓jo, ↓jr, ↓j6, ↓qp, ↓jt, ↓ir, ↓ju, ↓jV, ↓nY, ↓nZ, ↓nu, ↓nA, gM, oE, oF, nQ, ie, ue, uf, gR, oG, nH, oH, iG, oJ, oK, nJ, mX, mY, gY, ni, cZ, jP, pX, iZ, ↓km, ↓kE, ↓eO, ↓qu, ↓tK, ↓kJ, ↓kW, ↓oA, ↓lB, ↓lC, ↓qG, ↓qH, ↓qI, ↓qL, ↓lF, ↓eV, ↓tL, ↓eX, ↓lG, ↓lL, ↓lM, ↓fG, ↓fH, ↓fJ, ↓bY, ↓qM, ↓lN, ↓fL, ↓fM, ↓qN, ↓lU, ↓fO, ↓fP, ↓fQ, ↓qO, ↓qP, ↓qQ, ↓qR, ↓lX, ↓fU, ↓bZ, ↓cA, ↓qY, ↓qZ, ↓fY, ↓rA, ↓lZ, ↓mD, ↓mF, ↓fZ, ↓gh, ↓gj, ↓cG, ↓mH, ↓gA, ↓rB, ↓gG, jw, pD, o9, sV, jx, pF, jy, fz_non, jA, pG, ph, sW, pq, sX, jB, pH, jC, pJ, jD, pK, pA, sY, pB, tD, pC, tE, gQ, mV, m9, mW, di, jE, iw, jF, dw, pM, jG, jH, ul, uo, uv, uw, ux, uz, uA, tG, mK, rW, dB, dC, jJ, dD, dF, bD, dG, dH, bF, dI, nR, pN, pO, pP, jK, jL, dJ, tH, jM, pQ, jN, jO, pU, pW, rY, rZ, dR, jQ, dU, bO, dW, bQ, jR, dX, bR, dY, dZ, jT, jU, uh, uR, u6, bU, bV, eE, j7, d8, bT, pZ, qb, jW, d9, jY, jZ, j5, qm, jX, qj, ql, ai3, ai4, ai5, aiV, Int.reduceToNat, bG, bH, dM, bJ, bK, dN, dO, bL, bM, eQ, eU, lD, qJ, qK, Option.isSome_some, Option.isSome_none, lE, Int.reduceEq, beq_self_eq_true, cQ, cR, eY, lH, eZ, fj, fu, lJ, lK, fB, fD, fK, bW, bz, lO, lQ, lV, lW, fV, cC, cD, lY, fX, qT, tM, qU, qW, qX, uB, uC, gq, mG, nj, nU, iy, nW, j8, kh, eG, j9, kY, qw, kZ, lg, qC, lu, lw, lA, qD, qF, startF, aiR, aiT, aiY, ai2, aiS, aiU, ai0, ai1, ai6, ai7, aiZ, aiW, aiX, Nat.reduceAdd, Nat.reduceSub, Nat.reduceLeDiff, Nat.reduceLT, Nat.zero_add, and_true, true_and, and_self, false_and, and_false, not_true_eq_false, not_false_eq_true, eq_self, decide_true, decide_false, Bool.not_true, Bool.not_false, Bool.true_and, Bool.false_and, Bool.and_true, Bool.and_false, Bool.or_true, Bool.or_false, Bool.true_or, Bool.false_or, Option.map_some, Option.map_none, Int.toNat_natCast, ↓reduceIte, Bool.false_eq_true, reduceCtorEq, Int.cast_ofNat_Int, Int.reduceLT, Int.reduceLE, Int.reduceAdd, Int.reduceSub, Int.reduceNeg, Int.natCast_zero, pY, and_assoc, ↓uI, ↓uJ, ↓uK, ↓vX, ↓yQ, ↓yR, ↓yS, ↓yU, ↓yV, ↓yW, ↓Ae, ↓aU, aF, aG, aV, aP, aM, aW, aH, aX, aQ, az, aN, aY, aZ, au, TH, Dh, GJ, hl, d1, i1, i2, d2, we, ct, JV, ap1, ap2, st0, st1, st2, wj, aw, ap]
     refine ⟨by rw [ajb]; omega, by rw [ajb]; omega, (cs z).length - wE (cs z) a c, by omega, wE (cs z) a c, _, ws ++ [cutS z (some (a : Int)) (some ((wE (cs z) a c : Nat) : Int))], ps ++ [(a : Int)], rfl, (by first | rfl | (simp only [List.map_append, aiR, aiT])), rfl, by omega, by rw [ajh, List.length_singleton]; omega, by rw [ajh, List.length_singleton]; omega, ?_, ?_⟩
     · rw [← e1, Sh ((cs z).length - wE (cs z) a c + 1) ((cs z).length - a) (wE (cs z) a c) (by omega) (by omega), List.append_assoc]
       rfl
     · rw [← e2, Sh ((cs z).length - wE (cs z) a c + 1) ((cs z).length - a) (wE (cs z) a c) (by omega) (by omega), List.append_assoc]
       rfl
 · have d1 : decide ((a : Int) < ((cs z).length : Nat)) = false := decide_eq_false (by omega)
   have hc : (cs z)[a]? = none := List.getElem?_eq_none (by omega)
   have hps : ps.length ≤ 1000 := by rw [Hr] at hz; omega
   have ap : ∀ d : D, Eu d (ps.map .int) = some (ps.map .int ++ [d]) := fun d => VH (by rw [ajb]; exact hps)
   rw [tk, hc] at e1 e2
   simp only [aiT, aiS] at e1 e2
   simp only [↓ou, ↓mU, ↓wp_bind, ↓oM, ↓tZ, ↓sE, ↓oN, ↓iH, ↓nM, ↓oO, ↓rQ, ↓rR, ↓sG, ↓oR, ↓iI, ↓oU, ↓sH, ↓iJ, ↓iK, ↓oV, ↓cU, ↓sJ, ↓cV, ↓cW, ↓oW, ↓oX, ↓iQ, ↓sO, ↓qd, ↓iT, ↓oY, ↓sS, ↓ig, ↓iU, ↓iV, ↓m7, ↓oZ, ↓iW, ↓nO, ↓o5, ↓o7, ↓iY, ↓gU, ↓sU, ↓il, ↓cX, ↓bA, ↓cY, ↓o8, ↓jc, ↓je, ↓jf, ↓jh, ↓ji, ↓jk, ↓jm, ↓bB, ↓jn, ↓jo, ↓jr, ↓j6, ↓qp, ↓jt, ↓ir, ↓ju, ↓jV, ↓nY, ↓nZ, ↓nu, ↓nA, gM, oE, oF, nQ, ie, ue, uf, gR, oG, nH, oH, iG, oJ, oK, nJ, mX, mY, gY, ni, cZ, jP, pX, iZ, ↓km, ↓kE, ↓eO, ↓qu, ↓tK, ↓kJ, ↓kW, ↓oA, ↓lB, ↓lC, ↓qG, ↓qH, ↓qI, ↓qL, ↓lF, ↓eV, ↓tL, ↓eX, ↓lG, ↓lL, ↓lM, ↓fG, ↓fH, ↓fJ, ↓bY, ↓qM, ↓lN, ↓fL, ↓fM, ↓qN, ↓lU, ↓fO, ↓fP, ↓fQ, ↓qO, ↓qP, ↓qQ, ↓qR, ↓lX, ↓fU, ↓bZ, ↓cA, ↓qY, ↓qZ, ↓fY, ↓rA, ↓lZ, ↓mD, ↓mF, ↓fZ, ↓gh, ↓gj, ↓cG, ↓mH, ↓gA, ↓rB, ↓gG, jw, pD, o9, sV, jx, pF, jy, fz_non, jA, pG, ph, sW, pq, sX, jB, pH, jC, pJ, jD, pK, pA, sY, pB, tD, pC, tE, gQ, mV, m9, mW, di, jE, iw, jF, dw, pM, jG, jH, ul, uo, uv, uw, ux, uz, uA, tG, mK, rW, dB, dC, jJ, dD, dF, bD, dG, dH, bF, dI, nR, pN, pO, pP, jK, jL, dJ, tH, jM, pQ, jN, jO, pU, pW, rY, rZ, dR, jQ, dU, bO, dW, bQ, jR, dX, bR, dY, dZ, jT, jU, uh, uR, u6, bU, bV, eE, j7, d8, bT, pZ, qb, jW, d9, jY, jZ, j5, qm, jX, qj, ql, ai3, ai4, ai5, aiV, Int.reduceToNat, bG, bH, dM, bJ, bK, dN, dO, bL, bM, eQ, eU, lD, qJ, qK, Option.isSome_some, Option.isSome_none, lE, Int.reduceEq, beq_self_eq_true, cQ, cR, eY, lH, eZ, fj, fu, lJ, lK, fB, fD, fK, bW, bz, lO, lQ, lV, lW, fV, cC, cD, lY, fX, qT, tM, qU, qW, qX, uB, uC, gq, mG, nj, nU, iy, nW, j8, kh, eG, j9, kY, qw, kZ, lg, qC, lu, lw, lA, qD, qF, startF, aiR, aiT, aiY, ai2, aiS, aiU, ai0, ai1, ai6, ai7, aiZ, aiW, aiX, Nat.reduceAdd, Nat.reduceSub, Nat.reduceLeDiff, Nat.reduceLT, Nat.zero_add, and_true, true_and, and_self, false_and, and_false, not_true_eq_false, not_false_eq_true, eq_self, decide_true, decide_false, Bool.not_true, Bool.not_false, Bool.true_and, Bool.false_and, Bool.and_true, Bool.and_false, Bool.or_true, Bool.or_false, Bool.true_or, Bool.false_or, Option.map_some, Option.map_none, Int.toNat_natCast, ↓reduceIte, Bool.false_eq_true, reduceCtorEq, Int.cast_ofNat_Int, Int.reduceLT, Int.reduceLE, Int.reduceAdd, Int.reduceSub, Int.reduceNeg, Int.natCast_zero, pY, and_assoc, ↓uI, ↓uJ, ↓uK, ↓vX, ↓yQ, ↓yR, ↓yS, ↓yU, ↓yV, ↓yW, ↓Ae, ↓aU, aF, aG, aV, aP, aM, aW, aH, aX, aQ, az, aN, aY, aZ, au, TH, Dh, GJ, hl, d1, JV, ap1, ap2, st0, st1, st2, wj, ap]
   rw [e1, e2]
   simp only [List.map_append, aiR, aiT]
   have : (TK z).length ≤ 1000 := by have := congrArg List.length e2; rw [ajb] at this; omega
   exact ⟨by rw [ajb, ajb]; omega, trivial⟩
end L
namespace L
open PySem PySem.Spec L2 Pk
theorem Gh {h : Hh} {a b : Str} (ha : zU a = true) (hb : zU b = true) : uE h (.str a) (.str b) = some (decide (a = b)) := Vh Em.str (Kl a) (Kl b) ha hb (by decide)
theorem aa0 {w : Str} : ∀ al : List Str, ((al.map D.str).any fun z => D.eqf z (.str w)) = decide (w ∈ al)
 | [] => rfl
 | a :: al => by
   have e : D.eqf (.str a) (.str w) = decide (a = w) := rfl
   rw [aiR, List.any_cons, aa0 al, e]
   by_cases h : a = w
   · subst h; simp
   · have h' : ¬ w = a := fun z => h z.symm
     simp [h, h']
theorem Z7 : ∀ al : List Str, (al.map D.str).all D.flat = true
 | [] => rfl
 | a :: al => by rw [aiR, List.all_cons, Z7 al]; rfl
theorem ab1 {h : Hh} {w : Str} {al : List Str} : Aj h (.str w) (.tup (al.map .str)) = some (decide (w ∈ al)) := by
 show (if (D.str w).flat && (al.map D.str).all D.flat then some ((al.map D.str).any fun z => D.eqf z (.str w)) else none) = _
 rw [Z7, aa0]
 rfl
section
variable {h0 : Hh} {sz : Int} {ws : List Str} {ps : List Int} {sp : Int} {s : Nat} {w : Str}
theorem Rm : (TH h0 sz ws ps sp)[h0.length]? = some (.no 0 [.int sz, .ref (h0.length + 1), .ref (h0.length + 2), .int sp]) := JV
theorem JL {v : Int} : (TH h0 sz ws ps sp).set h0.length (.no 0 [.int sz, .ref (h0.length + 1), .ref (h0.length + 2), .int v]) = TH h0 sz ws ps v := st0
theorem aa1 : ug wV (TH h0 sz ws ps sp) (.ref h0.length) = some (.int sp) := GP
theorem Z8 : ug xU (TH h0 sz ws ps sp) (.ref h0.length) = some (.ref (h0.length + 1)) := Dh
theorem afK : ug tQ (TH h0 sz ws ps sp) (.ref h0.length) = some (.int sz) := wH
theorem zP {mt : Nat → Option Fn} : fnOf mt (TH h0 sz ws ps sp) (.ref h0.length) = mt 0 := by
 unfold fnOf D.ins D.der
 simp only [Rm, Option.getD_some]
theorem acU : D.its (TH h0 sz ws ps sp) (.ref (h0.length + 1)) = some (ws.map .str) := by
 unfold D.its D.der
 have e : (TH h0 sz ws ps sp)[h0.length + 1]? = some (.nl (ws.map .str)) := ap1
 simp only [e, Option.getD_some]
theorem acV : vh (TH h0 sz ws ps sp) (.ref (h0.length + 1)) = some (.int (ws.length : Nat)) := by
 show (D.its _ _).map _ = _
 rw [acU, Option.map_some, ajb]
theorem agZ (e : ws[s]? = some w) : gJ (TH h0 sz ws ps sp) (.ref (h0.length + 1)) (.int (s : Nat)) = some (.str w) := by
 show (match D.its (TH h0 sz ws ps sp) (.ref (h0.length + 1)) with | some l => atI l (s : Int) | none => none) = _
 rw [acU]
 dsimp only
 unfold atI ixN
 have hl : s < ws.length := (List.getElem?_eq_some_iff.mp e).1
 have h1 : (0 : Int) ≤ (s : Int) ∧ (s : Int) < ((ws.map D.str).length : Int) := ⟨by omega, by rw [ajb]; omega⟩
 simp only [h1, and_self, if_true, Int.toNat_natCast, Option.bind_some, ajj, e, Option.map_some]
def uD (ws : List Str) (s : Nat) : Str := ws.getD s ""
theorem Je : wX [.ref h0.length] (TH h0 sz ws ps (s : Nat)) = .ok (.str (uD ws s)) [] (TH h0 sz ws ps (s : Nat)) := by
 apply Wp.eq
 unfold uD
 by_cases hl : s < ws.length
 · have e : ws[s]? = some ws[s] := ai9 hl
   have d1 : decide ((s : Int) < (ws.length : Nat)) = true := decide_eq_true (by omega)
   have i1 := agZ (h0 := h0) (sz := sz) (ps := ps) (sp := (s : Int)) e
   simp only [↓ou, ↓mU, ↓wp_bind, ↓oM, ↓tZ, ↓sE, ↓oN, ↓iH, ↓nM, ↓oO, ↓rQ, ↓rR, ↓sG, ↓oR, ↓iI, ↓oU, ↓sH, ↓iJ, ↓iK, ↓oV, ↓cU, ↓sJ, ↓cV, ↓cW, ↓oW, ↓oX, ↓iQ, ↓sO, ↓qd, ↓iT, ↓oY, ↓sS, ↓ig, ↓iU, ↓iV, ↓m7, ↓oZ, ↓iW, ↓nO, ↓o5, ↓o7, ↓iY, ↓gU, ↓sU, ↓il, ↓cX, ↓bA, ↓cY, ↓o8, ↓jc, ↓je, ↓jf, ↓jh, ↓ji, ↓jk, ↓jm, ↓bB, ↓jn, ↓jo, ↓jr, ↓j6, ↓qp, ↓jt, ↓ir, ↓ju, ↓jV, ↓nY, ↓nZ, ↓nu, ↓nA, gM, oE, oF, nQ, ie, ue, uf, gR, oG, nH, oH, iG, oJ, oK, nJ, mX, mY, gY, ni, cZ, jP, pX, iZ, ↓km, ↓kE, ↓eO, ↓qu, ↓tK, ↓kJ, ↓kW, ↓oA, ↓lB, ↓lC, ↓qG, ↓qH, ↓qI, ↓qL, ↓lF, ↓eV, ↓tL, ↓eX, ↓lG, ↓lL, ↓lM, ↓fG, ↓fH, ↓fJ, ↓bY, ↓qM, ↓lN, ↓fL, ↓fM, ↓qN, ↓lU, ↓fO, ↓fP, ↓fQ, ↓qO, ↓qP, ↓qQ, ↓qR, ↓lX, ↓fU, ↓bZ, ↓cA, ↓qY, ↓qZ, ↓fY, ↓rA, ↓lZ, ↓mD, ↓mF, ↓fZ, ↓gh, ↓gj, ↓cG, ↓mH, ↓gA, ↓rB, ↓gG, jw, pD, o9, sV, jx, pF, jy, fz_non, jA, pG, ph, sW, pq, sX, jB, pH, jC, pJ, jD, pK, pA, sY, pB, tD, pC, tE, gQ, mV, m9, mW, di, jE, iw, jF, dw, pM, jG, jH, ul, uo, uv, uw, ux, uz, uA, tG, mK, rW, dB, dC, jJ, dD, dF, bD, dG, dH, bF, dI, nR, pN, pO, pP, jK, jL, dJ, tH, jM, pQ, jN, jO, pU, pW, rY, rZ, dR, jQ, dU, bO, dW, bQ, jR, dX, bR, dY, dZ, jT, jU, uh, uR, u6, bU, bV, eE, j7, d8, bT, pZ, qb, jW, d9, jY, jZ, j5, qm, jX, qj, ql, ai3, ai4, ai5, aiV, Int.reduceToNat, bG, bH, dM, bJ, bK, dN, dO, bL, bM, eQ, eU, lD, qJ, qK, Option.isSome_some, Option.isSome_none, lE, Int.reduceEq, beq_self_eq_true, cQ, cR, eY, lH, eZ, fj, fu, lJ, lK, fB, fD, fK, bW, bz, lO, lQ, lV, lW, fV, cC, cD, lY, fX, qT, tM, qU, qW, qX, uB, uC, gq, mG, nj, nU, iy, nW, j8, kh, eG, j9, kY, qw, kZ, lg, qC, lu, lw, lA, qD, qF, startF, aiR, aiT, aiY, ai2, aiS, aiU, ai0, ai1, ai6, ai7, aiZ, aiW, aiX, Nat.reduceAdd, Nat.reduceSub, Nat.reduceLeDiff, Nat.reduceLT, Nat.zero_add, and_true, true_and, and_self, false_and, and_false, not_true_eq_false, not_false_eq_true, eq_self, decide_true, decide_false, Bool.not_true, Bool.not_false, Bool.true_and, Bool.false_and, Bool.and_true, Bool.and_false, Bool.or_true, Bool.or_false, Bool.true_or, Bool.false_or, Option.map_some, Option.map_none, Int.toNat_natCast, ↓reduceIte, Bool.false_eq_true, reduceCtorEq, Int.cast_ofNat_Int, Int.reduceLT, Int.reduceLE, Int.reduceAdd, Int.reduceSub, Int.reduceNeg, Int.natCast_zero, pY, and_assoc, ↓Jz, ↓aU, aF, aG, aV, aP, aM, aW, aH, aX, aQ, az, aN, aY, aZ, au, ↓Hz, aa1, Z8, acV, d1, i1, List.getD_eq_getElem?_getD, e, Option.getD_some]
 · have e : ws[s]? = none := List.getElem?_eq_none (by omega)
   have d1 : decide ((s : Int) < (ws.length : Nat)) = false := decide_eq_false (by omega)
   simp only [↓ou, ↓mU, ↓wp_bind, ↓oM, ↓tZ, ↓sE, ↓oN, ↓iH, ↓nM, ↓oO, ↓rQ, ↓rR, ↓sG, ↓oR, ↓iI, ↓oU, ↓sH, ↓iJ, ↓iK, ↓oV, ↓cU, ↓sJ, ↓cV, ↓cW, ↓oW, ↓oX, ↓iQ, ↓sO, ↓qd, ↓iT, ↓oY, ↓sS, ↓ig, ↓iU, ↓iV, ↓m7, ↓oZ, ↓iW, ↓nO, ↓o5, ↓o7, ↓iY, ↓gU, ↓sU, ↓il, ↓cX, ↓bA, ↓cY, ↓o8, ↓jc, ↓je, ↓jf, ↓jh, ↓ji, ↓jk, ↓jm, ↓bB, ↓jn, ↓jo, ↓jr, ↓j6, ↓qp, ↓jt, ↓ir, ↓ju, ↓jV, ↓nY, ↓nZ, ↓nu, ↓nA, gM, oE, oF, nQ, ie, ue, uf, gR, oG, nH, oH, iG, oJ, oK, nJ, mX, mY, gY, ni, cZ, jP, pX, iZ, ↓km, ↓kE, ↓eO, ↓qu, ↓tK, ↓kJ, ↓kW, ↓oA, ↓lB, ↓lC, ↓qG, ↓qH, ↓qI, ↓qL, ↓lF, ↓eV, ↓tL, ↓eX, ↓lG, ↓lL, ↓lM, ↓fG, ↓fH, ↓fJ, ↓bY, ↓qM, ↓lN, ↓fL, ↓fM, ↓qN, ↓lU, ↓fO, ↓fP, ↓fQ, ↓qO, ↓qP, ↓qQ, ↓qR, ↓lX, ↓fU, ↓bZ, ↓cA, ↓qY, ↓qZ, ↓fY, ↓rA, ↓lZ, ↓mD, ↓mF, ↓fZ, ↓gh, ↓gj, ↓cG, ↓mH, ↓gA, ↓rB, ↓gG, jw, pD, o9, sV, jx, pF, jy, fz_non, jA, pG, ph, sW, pq, sX, jB, pH, jC, pJ, jD, pK, pA, sY, pB, tD, pC, tE, gQ, mV, m9, mW, di, jE, iw, jF, dw, pM, jG, jH, ul, uo, uv, uw, ux, uz, uA, tG, mK, rW, dB, dC, jJ, dD, dF, bD, dG, dH, bF, dI, nR, pN, pO, pP, jK, jL, dJ, tH, jM, pQ, jN, jO, pU, pW, rY, rZ, dR, jQ, dU, bO, dW, bQ, jR, dX, bR, dY, dZ, jT, jU, uh, uR, u6, bU, bV, eE, j7, d8, bT, pZ, qb, jW, d9, jY, jZ, j5, qm, jX, qj, ql, ai3, ai4, ai5, aiV, Int.reduceToNat, bG, bH, dM, bJ, bK, dN, dO, bL, bM, eQ, eU, lD, qJ, qK, Option.isSome_some, Option.isSome_none, lE, Int.reduceEq, beq_self_eq_true, cQ, cR, eY, lH, eZ, fj, fu, lJ, lK, fB, fD, fK, bW, bz, lO, lQ, lV, lW, fV, cC, cD, lY, fX, qT, tM, qU, qW, qX, uB, uC, gq, mG, nj, nU, iy, nW, j8, kh, eG, j9, kY, qw, kZ, lg, qC, lu, lw, lA, qD, qF, startF, aiR, aiT, aiY, ai2, aiS, aiU, ai0, ai1, ai6, ai7, aiZ, aiW, aiX, Nat.reduceAdd, Nat.reduceSub, Nat.reduceLeDiff, Nat.reduceLT, Nat.zero_add, and_true, true_and, and_self, false_and, and_false, not_true_eq_false, not_false_eq_true, eq_self, decide_true, decide_false, Bool.not_true, Bool.not_false, Bool.true_and, Bool.false_and, Bool.and_true, Bool.and_false, Bool.or_true, Bool.or_false, Bool.true_or, Bool.false_or, Option.map_some, Option.map_none, Int.toNat_natCast, ↓reduceIte, Bool.false_eq_true, reduceCtorEq, Int.cast_ofNat_Int, Int.reduceLT, Int.reduceLE, Int.reduceAdd, Int.reduceSub, Int.reduceNeg, Int.natCast_zero, pY, and_assoc, ↓Jz, ↓aU, aF, aG, aV, aP, aM, aW, aH, aX, aQ, az, aN, aY, aZ, au, ↓Hz, aa1, Z8, acV, d1, List.getD_eq_getElem?_getD, e, Option.getD_none]
theorem Ka (hg : zU (uD ws s) = true) (hw : zU w = true) :
 yN [.ref h0.length, .str w] (TH h0 sz ws ps (s : Nat)) = .ok (.bl (decide (uD ws s = w))) [] (TH h0 sz ws ps ((if uD ws s = w then s + 1 else s : Nat) : Int)) := by
 apply Wp.eq
 have u := Je (h0 := h0) (sz := sz) (ws := ws) (ps := ps) (s := s)
 have c : ∀ h : Hh, uE h (.str (uD ws s)) (.str w) = some (decide (uD ws s = w)) := fun h => Gh hg hw
 by_cases he : uD ws s = w
 · have d1 : decide (uD ws s = w) = true := decide_eq_true he
   simp only [↓ou, ↓mU, ↓wp_bind, ↓oM, ↓tZ, ↓sE, ↓oN, ↓iH, ↓nM, ↓oO, ↓rQ, ↓rR, ↓sG, ↓oR, ↓iI, ↓oU, ↓sH, ↓iJ, ↓iK, ↓oV, ↓cU, ↓sJ, ↓cV, ↓cW, ↓oW, ↓oX, ↓iQ, ↓sO, ↓qd, ↓iT, ↓oY, ↓sS, ↓ig, ↓iU, ↓iV, ↓m7, ↓oZ, ↓iW, ↓nO, ↓o5, ↓o7, ↓iY, ↓gU, ↓sU, ↓il, ↓cX, ↓bA, ↓cY, ↓o8, ↓jc, ↓je, ↓jf, ↓jh, ↓ji, ↓jk, ↓jm, ↓bB, ↓jn, ↓jo, ↓jr, ↓j6, ↓qp, ↓jt, ↓ir, ↓ju, ↓jV, ↓nY, ↓nZ, ↓nu, ↓nA, gM, oE, oF, nQ, ie, ue, uf, gR, oG, nH, oH, iG, oJ, oK, nJ, mX, mY, gY, ni, cZ, jP, pX, iZ, ↓km, ↓kE, ↓eO, ↓qu, ↓tK, ↓kJ, ↓kW, ↓oA, ↓lB, ↓lC, ↓qG, ↓qH, ↓qI, ↓qL, ↓lF, ↓eV, ↓tL, ↓eX, ↓lG, ↓lL, ↓lM, ↓fG, ↓fH, ↓fJ, ↓bY, ↓qM, ↓lN, ↓fL, ↓fM, ↓qN, ↓lU, ↓fO, ↓fP, ↓fQ, ↓qO, ↓qP, ↓qQ, ↓qR, ↓lX, ↓fU, ↓bZ, ↓cA, ↓qY, ↓qZ, ↓fY, ↓rA, ↓lZ, ↓mD, ↓mF, ↓fZ, ↓gh, ↓gj, ↓cG, ↓mH, ↓gA, ↓rB, ↓gG, jw, pD, o9, sV, jx, pF, jy, fz_non, jA, pG, ph, sW, pq, sX, jB, pH, jC, pJ, jD, pK, pA, sY, pB, tD, pC, tE, gQ, mV, m9, mW, di, jE, iw, jF, dw, pM, jG, jH, ul, uo, uv, uw, ux, uz, uA, tG, mK, rW, dB, dC, jJ, dD, dF, bD, dG, dH, bF, dI, nR, pN, pO, pP, jK, jL, dJ, tH, jM, pQ, jN, jO, pU, pW, rY, rZ, dR, jQ, dU, bO, dW, bQ, jR, dX, bR, dY, dZ, jT, jU, uh, uR, u6, bU, bV, eE, j7, d8, bT, pZ, qb, jW, d9, jY, jZ, j5, qm, jX, qj, ql, ai3, ai4, ai5, aiV, Int.reduceToNat, bG, bH, dM, bJ, bK, dN, dO, bL, bM, eQ, eU, lD, qJ, qK, Option.isSome_some, Option.isSome_none, lE, Int.reduceEq, beq_self_eq_true, cQ, cR, eY, lH, eZ, fj, fu, lJ, lK, fB, fD, fK, bW, bz, lO, lQ, lV, lW, fV, cC, cD, lY, fX, qT, tM, qU, qW, qX, uB, uC, gq, mG, nj, nU, iy, nW, j8, kh, eG, j9, kY, qw, kZ, lg, qC, lu, lw, lA, qD, qF, startF, aiR, aiT, aiY, ai2, aiS, aiU, ai0, ai1, ai6, ai7, aiZ, aiW, aiX, Nat.reduceAdd, Nat.reduceSub, Nat.reduceLeDiff, Nat.reduceLT, Nat.zero_add, and_true, true_and, and_self, false_and, and_false, not_true_eq_false, not_false_eq_true, eq_self, decide_true, decide_false, Bool.not_true, Bool.not_false, Bool.true_and, Bool.false_and, Bool.and_true, Bool.and_false, Bool.or_true, Bool.or_false, Bool.true_or, Bool.false_or, Option.map_some, Option.map_none, Int.toNat_natCast, ↓reduceIte, Bool.false_eq_true, reduceCtorEq, Int.cast_ofNat_Int, Int.reduceLT, Int.reduceLE, Int.reduceAdd, Int.reduceSub, Int.reduceNeg, Int.natCast_zero, pY, and_assoc, ↓JB, ↓Ms, ↓aU, aF, aG, aV, aP, aM, aW, aH, aX, aQ, az, aN, aY, aZ, au, ↓Lw, zP, u, c, d1, Rm, JL, xj]
   rw [if_pos he]
   simp only [JL, Int.natCast_add, Int.natCast_one]
   first | exact ⟨rfl, rfl, rfl⟩ | trivial | skip
 · have d1 : decide (uD ws s = w) = false := decide_eq_false he
   simp only [↓ou, ↓mU, ↓wp_bind, ↓oM, ↓tZ, ↓sE, ↓oN, ↓iH, ↓nM, ↓oO, ↓rQ, ↓rR, ↓sG, ↓oR, ↓iI, ↓oU, ↓sH, ↓iJ, ↓iK, ↓oV, ↓cU, ↓sJ, ↓cV, ↓cW, ↓oW, ↓oX, ↓iQ, ↓sO, ↓qd, ↓iT, ↓oY, ↓sS, ↓ig, ↓iU, ↓iV, ↓m7, ↓oZ, ↓iW, ↓nO, ↓o5, ↓o7, ↓iY, ↓gU, ↓sU, ↓il, ↓cX, ↓bA, ↓cY, ↓o8, ↓jc, ↓je, ↓jf, ↓jh, ↓ji, ↓jk, ↓jm, ↓bB, ↓jn, ↓jo, ↓jr, ↓j6, ↓qp, ↓jt, ↓ir, ↓ju, ↓jV, ↓nY, ↓nZ, ↓nu, ↓nA, gM, oE, oF, nQ, ie, ue, uf, gR, oG, nH, oH, iG, oJ, oK, nJ, mX, mY, gY, ni, cZ, jP, pX, iZ, ↓km, ↓kE, ↓eO, ↓qu, ↓tK, ↓kJ, ↓kW, ↓oA, ↓lB, ↓lC, ↓qG, ↓qH, ↓qI, ↓qL, ↓lF, ↓eV, ↓tL, ↓eX, ↓lG, ↓lL, ↓lM, ↓fG, ↓fH, ↓fJ, ↓bY, ↓qM, ↓lN, ↓fL, ↓fM, ↓qN, ↓lU, ↓fO, ↓fP, ↓fQ, ↓qO, ↓qP, ↓qQ, ↓qR, ↓lX, ↓fU, ↓bZ, ↓cA, ↓qY, ↓qZ, ↓fY, ↓rA, ↓lZ, ↓mD, ↓mF, ↓fZ, ↓gh, ↓gj, ↓cG, ↓mH, ↓gA, ↓rB, ↓gG, jw, pD, o9, sV, jx, pF, jy, fz_non, jA, pG, ph, sW, pq, sX, jB, pH, jC, pJ, jD, pK, pA, sY, pB, tD, pC, tE, gQ, mV, m9, mW, di, jE, iw, jF, dw, pM, jG, jH, ul, uo, uv, uw, ux, uz, uA, tG, mK, rW, dB, dC, jJ, dD, dF, bD, dG, dH, bF, dI, nR, pN, pO, pP, jK, jL, dJ, tH, jM, pQ, jN, jO, pU, pW, rY, rZ, dR, jQ, dU, bO, dW, bQ, jR, dX, bR, dY, dZ, jT, jU, uh, uR, u6, bU, bV, eE, j7, d8, bT, pZ, qb, jW, d9, jY, jZ, j5, qm, jX, qj, ql, ai3, ai4, ai5, aiV, Int.reduceToNat, bG, bH, dM, bJ, bK, dN, dO, bL, bM, eQ, eU, lD, qJ, qK, Option.isSome_some, Option.isSome_none, lE, Int.reduceEq, beq_self_eq_true, cQ, cR, eY, lH, eZ, fj, fu, lJ, lK, fB, fD, fK, bW, bz, lO, lQ, lV, lW, fV, cC, cD, lY, fX, qT, tM, qU, qW, qX, uB, uC, gq, mG, nj, nU, iy, nW, j8, kh, eG, j9, kY, qw, kZ, lg, qC, lu, lw, lA, qD, qF, startF, aiR, aiT, aiY, ai2, aiS, aiU, ai0, ai1, ai6, ai7, aiZ, aiW, aiX, Nat.reduceAdd, Nat.reduceSub, Nat.reduceLeDiff, Nat.reduceLT, Nat.zero_add, and_true, true_and, and_self, false_and, and_false, not_true_eq_false, not_false_eq_true, eq_self, decide_true, decide_false, Bool.not_true, Bool.not_false, Bool.true_and, Bool.false_and, Bool.and_true, Bool.and_false, Bool.or_true, Bool.or_false, Bool.true_or, Bool.false_or, Option.map_some, Option.map_none, Int.toNat_natCast, ↓reduceIte, Bool.false_eq_true, reduceCtorEq, Int.cast_ofNat_Int, Int.reduceLT, Int.reduceLE, Int.reduceAdd, Int.reduceSub, Int.reduceNeg, Int.natCast_zero, pY, and_assoc, ↓JB, ↓Ms, ↓aU, aF, aG, aV, aP, aM, aW, aH, aX, aQ, az, aN, aY, aZ, au, ↓Lw, zP, u, c, d1]
   rw [if_neg he]
   first | exact ⟨rfl, rfl, rfl⟩ | trivial | skip
theorem wD {al : List Str} (hm : uD ws s ∈ al) :
 zE [.ref h0.length, .tup (al.map .str)] (TH h0 sz ws ps (s : Nat)) = .ok (.str (uD ws s)) [] (TH h0 sz ws ps ((s + 1 : Nat) : Int)) := by
 apply Wp.eq
 have u := Je (h0 := h0) (sz := sz) (ws := ws) (ps := ps) (s := s)
 have c : ∀ h : Hh, Aj h (.str (uD ws s)) (.tup (al.map .str)) = some (decide (uD ws s ∈ al)) := fun h => ab1
 have d1 : decide (uD ws s ∈ al) = true := decide_eq_true hm
 simp only [↓ou, ↓mU, ↓wp_bind, ↓oM, ↓tZ, ↓sE, ↓oN, ↓iH, ↓nM, ↓oO, ↓rQ, ↓rR, ↓sG, ↓oR, ↓iI, ↓oU, ↓sH, ↓iJ, ↓iK, ↓oV, ↓cU, ↓sJ, ↓cV, ↓cW, ↓oW, ↓oX, ↓iQ, ↓sO, ↓qd, ↓iT, ↓oY, ↓sS, ↓ig, ↓iU, ↓iV, ↓m7, ↓oZ, ↓iW, ↓nO, ↓o5, ↓o7, ↓iY, ↓gU, ↓sU, ↓il, ↓cX, ↓bA, ↓cY, ↓o8, ↓jc, ↓je, ↓jf, ↓jh, ↓ji, ↓jk, ↓jm, ↓bB, ↓jn, ↓jo, ↓jr, ↓j6, ↓qp, ↓jt, ↓ir, ↓ju, ↓jV, ↓nY, ↓nZ, ↓nu, ↓nA, gM, oE, oF, nQ, ie, ue, uf, gR, oG, nH, oH, iG, oJ, oK, nJ, mX, mY, gY, ni, cZ, jP, pX, iZ, ↓km, ↓kE, ↓eO, ↓qu, ↓tK, ↓kJ, ↓kW, ↓oA, ↓lB, ↓lC, ↓qG, ↓qH, ↓qI, ↓qL, ↓lF, ↓eV, ↓tL, ↓eX, ↓lG, ↓lL, ↓lM, ↓fG, ↓fH, ↓fJ, ↓bY, ↓qM, ↓lN, ↓fL, ↓fM, ↓qN, ↓lU, ↓fO, ↓fP, ↓fQ, ↓qO, ↓qP, ↓qQ, ↓qR, ↓lX, ↓fU, ↓bZ, ↓cA, ↓qY, ↓qZ, ↓fY, ↓rA, ↓lZ, ↓mD, ↓mF, ↓fZ, ↓gh, ↓gj, ↓cG, ↓mH, ↓gA, ↓rB, ↓gG, jw, pD, o9, sV, jx, pF, jy, fz_non, jA, pG, ph, sW, pq, sX, jB, pH, jC, pJ, jD, pK, pA, sY, pB, tD, pC, tE, gQ, mV, m9, mW, di, jE, iw, jF, dw, pM, jG, jH, ul, uo, uv, uw, ux, uz, uA, tG, mK, rW, dB, dC, jJ, dD, dF, bD, dG, dH, bF, dI, nR, pN, pO, pP, jK, jL, dJ, tH, jM, pQ, jN, jO, pU, pW, rY, rZ, dR, jQ, dU, bO, dW, bQ, jR, dX, bR, dY, dZ, jT, jU, uh, uR, u6, bU, bV, eE, j7, d8, bT, pZ, qb, jW, d9, jY, jZ, j5, qm, jX, qj, ql, ai3, ai4, ai5, aiV, Int.reduceToNat, bG, bH, dM, bJ, bK, dN, dO, bL, bM, eQ, eU, lD, qJ, qK, Option.isSome_some, Option.isSome_none, lE, Int.reduceEq, beq_self_eq_true, cQ, cR, eY, lH, eZ, fj, fu, lJ, lK, fB, fD, fK, bW, bz, lO, lQ, lV, lW, fV, cC, cD, lY, fX, qT, tM, qU, qW, qX, uB, uC, gq, mG, nj, nU, iy, nW, j8, kh, eG, j9, kY, qw, kZ, lg, qC, lu, lw, lA, qD, qF, startF, aiR, aiT, aiY, ai2, aiS, aiU, ai0, ai1, ai6, ai7, aiZ, aiW, aiX, Nat.reduceAdd, Nat.reduceSub, Nat.reduceLeDiff, Nat.reduceLT, Nat.zero_add, and_true, true_and, and_self, false_and, and_false, not_true_eq_false, not_false_eq_true, eq_self, decide_true, decide_false, Bool.not_true, Bool.not_false, Bool.true_and, Bool.false_and, Bool.and_true, Bool.and_false, Bool.or_true, Bool.or_false, Bool.true_or, Bool.false_or, Option.map_some, Option.map_none, Int.toNat_natCast, ↓reduceIte, Bool.false_eq_true, reduceCtorEq, Int.cast_ofNat_Int, Int.reduceLT, Int.reduceLE, Int.reduceAdd, Int.reduceSub, Int.reduceNeg, Int.natCast_zero, pY, and_assoc, ↓Tf, ↓Th, ↓WP, ↓aU, aF, aG, aV, aP, aM, aW, aH, aX, aQ, az, aN, aY, aZ, au, ↓VD, zP, u, c, d1, Rm, JL, xj]
 simp only [JL, Int.natCast_add, Int.natCast_one]
 first | exact ⟨rfl, rfl, rfl⟩ | trivial | skip
end
end L
namespace L
open PySem PySem.Spec L2 Pk
def Ss (w : Str) : Bool := match cs w with
 | [] => false
 | c :: _ => isIn Px c
theorem Xo {w : Str} : w = "" ↔ cs w = [] := by
 constructor
 · intro e; subst e; decide +kernel
 · intro e
   have e2 : cs ("" : Str) = [] := by decide +kernel
   exact Str.ext' (Array.toList_inj.mp (e.trans e2.symm))
theorem ag0 {h : Hh} {w : Str} {c : Nat} {r : List Nat} (hl : w.length ≤ 1000) (e : cs w = c :: r) : gJ h (.str w) (.int 0) = some (.str ⟨#[c]⟩) :=
 Sd (a := 0) hl (by rw [e]; rfl)
section
variable {h0 : Hh} {sz : Int} {ws : List Str} {ps : List Int} {sp : Int} {s : Nat} {w : Str}
theorem Ro (hg : zU (uD ws s) = true) (hl : (uD ws s).length ≤ 1000) :
 vZ [.ref h0.length] (TH h0 sz ws ps (s : Nat)) = .ok (.bl (Ss (uD ws s))) [] (TH h0 sz ws ps (s : Nat)) := by
 apply Wp.eq
 have u := Je (h0 := h0) (sz := sz) (ws := ws) (ps := ps) (s := s)
 generalize uD ws s = w at *
 have c : ∀ h : Hh, uE h (.str w) (.str "") = some (decide (w = "")) := fun h => Gh hg (by decide +kernel)
 unfold Ss
 cases e : cs w with
 | nil =>
   have d1 : decide (w = "") = true := decide_eq_true (Xo.mpr e)
   simp only [↓ou, ↓mU, ↓wp_bind, ↓oM, ↓tZ, ↓sE, ↓oN, ↓iH, ↓nM, ↓oO, ↓rQ, ↓rR, ↓sG, ↓oR, ↓iI, ↓oU, ↓sH, ↓iJ, ↓iK, ↓oV, ↓cU, ↓sJ, ↓cV, ↓cW, ↓oW, ↓oX, ↓iQ, ↓sO, ↓qd, ↓iT, ↓oY, ↓sS, ↓ig, ↓iU, ↓iV, ↓m7, ↓oZ, ↓iW, ↓nO, ↓o5, ↓o7, ↓iY, ↓gU, ↓sU, ↓il, ↓cX, ↓bA, ↓cY, ↓o8, ↓jc, ↓je, ↓jf, ↓jh, ↓ji, ↓jk, ↓jm, ↓bB, ↓jn, ↓jo, ↓jr, ↓j6, ↓qp, ↓jt, ↓ir, ↓ju, ↓jV, ↓nY, ↓nZ, ↓nu, ↓nA, gM, oE, oF, nQ, ie, ue, uf, gR, oG, nH, oH, iG, oJ, oK, nJ, mX, mY, gY, ni, cZ, jP, pX, iZ, ↓km, ↓kE, ↓eO, ↓qu, ↓tK, ↓kJ, ↓kW, ↓oA, ↓lB, ↓lC, ↓qG, ↓qH, ↓qI, ↓qL, ↓lF, ↓eV, ↓tL, ↓eX, ↓lG, ↓lL, ↓lM, ↓fG, ↓fH, ↓fJ, ↓bY, ↓qM, ↓lN, ↓fL, ↓fM, ↓qN, ↓lU, ↓fO, ↓fP, ↓fQ, ↓qO, ↓qP, ↓qQ, ↓qR, ↓lX, ↓fU, ↓bZ, ↓cA, ↓qY, ↓qZ, ↓fY, ↓rA, ↓lZ, ↓mD, ↓mF, ↓fZ, ↓gh, ↓gj, ↓cG, ↓mH, ↓gA, ↓rB, ↓gG, jw, pD, o9, sV, jx, pF, jy, fz_non, jA, pG, ph, sW, pq, sX, jB, pH, jC, pJ, jD, pK, pA, sY, pB, tD, pC, tE, gQ, mV, m9, mW, di, jE, iw, jF, dw, pM, jG, jH, ul, uo, uv, uw, ux, uz, uA, tG, mK, rW, dB, dC, jJ, dD, dF, bD, dG, dH, bF, dI, nR, pN, pO, pP, jK, jL, dJ, tH, jM, pQ, jN, jO, pU, pW, rY, rZ, dR, jQ, dU, bO, dW, bQ, jR, dX, bR, dY, dZ, jT, jU, uh, uR, u6, bU, bV, eE, j7, d8, bT, pZ, qb, jW, d9, jY, jZ, j5, qm, jX, qj, ql, ai3, ai4, ai5, aiV, Int.reduceToNat, bG, bH, dM, bJ, bK, dN, dO, bL, bM, eQ, eU, lD, qJ, qK, Option.isSome_some, Option.isSome_none, lE, Int.reduceEq, beq_self_eq_true, cQ, cR, eY, lH, eZ, fj, fu, lJ, lK, fB, fD, fK, bW, bz, lO, lQ, lV, lW, fV, cC, cD, lY, fX, qT, tM, qU, qW, qX, uB, uC, gq, mG, nj, nU, iy, nW, j8, kh, eG, j9, kY, qw, kZ, lg, qC, lu, lw, lA, qD, qF, startF, aiR, aiT, aiY, ai2, aiS, aiU, ai0, ai1, ai6, ai7, aiZ, aiW, aiX, Nat.reduceAdd, Nat.reduceSub, Nat.reduceLeDiff, Nat.reduceLT, Nat.zero_add, and_true, true_and, and_self, false_and, and_false, not_true_eq_false, not_false_eq_true, eq_self, decide_true, decide_false, Bool.not_true, Bool.not_false, Bool.true_and, Bool.false_and, Bool.and_true, Bool.and_false, Bool.or_true, Bool.or_false, Bool.true_or, Bool.false_or, Option.map_some, Option.map_none, Int.toNat_natCast, ↓reduceIte, Bool.false_eq_true, reduceCtorEq, Int.cast_ofNat_Int, Int.reduceLT, Int.reduceLE, Int.reduceAdd, Int.reduceSub, Int.reduceNeg, Int.natCast_zero, pY, and_assoc, ↓GX, ↓aU, aF, aG, aV, aP, aM, aW, aH, aX, aQ, az, aN, aY, aZ, au, ↓Ft, zP, u, c, d1]
 | cons a r =>
   have d1 : decide (w = "") = false := decide_eq_false fun z => by rw [Xo.mp z] at e; cases e
   have i1 : ∀ h : Hh, gJ h (.str w) (.int 0) = some (.str ⟨#[a]⟩) := fun h => ag0 hl e
   have i2 : ∀ h : Hh, Aj h (.str ⟨#[a]⟩) (.str "0123456789") = some (isIn Px a) := fun h => rfl
   simp only [↓ou, ↓mU, ↓wp_bind, ↓oM, ↓tZ, ↓sE, ↓oN, ↓iH, ↓nM, ↓oO, ↓rQ, ↓rR, ↓sG, ↓oR, ↓iI, ↓oU, ↓sH, ↓iJ, ↓iK, ↓oV, ↓cU, ↓sJ, ↓cV, ↓cW, ↓oW, ↓oX, ↓iQ, ↓sO, ↓qd, ↓iT, ↓oY, ↓sS, ↓ig, ↓iU, ↓iV, ↓m7, ↓oZ, ↓iW, ↓nO, ↓o5, ↓o7, ↓iY, ↓gU, ↓sU, ↓il, ↓cX, ↓bA, ↓cY, ↓o8, ↓jc, ↓je, ↓jf, ↓jh, ↓ji, ↓jk, ↓jm, ↓bB, ↓jn, ↓jo, ↓jr, ↓j6, ↓qp, ↓jt, ↓ir, ↓ju, ↓jV, ↓nY, ↓nZ, ↓nu, ↓nA, gM, oE, oF, nQ, ie, ue, uf, gR, oG, nH, oH, iG, oJ, oK, nJ, mX, mY, gY, ni, cZ, jP, pX, iZ, ↓km, ↓kE, ↓eO, ↓qu, ↓tK, ↓kJ, ↓kW, ↓oA, ↓lB, ↓lC, ↓qG, ↓qH, ↓qI, ↓qL, ↓lF, ↓eV, ↓tL, ↓eX, ↓lG, ↓lL, ↓lM, ↓fG, ↓fH, ↓fJ, ↓bY, ↓qM, ↓lN, ↓fL, ↓fM, ↓qN, ↓lU, ↓fO, ↓fP, ↓fQ, ↓qO, ↓qP, ↓qQ, ↓qR, ↓lX, ↓fU, ↓bZ, ↓cA, ↓qY, ↓qZ, ↓fY, ↓rA, ↓lZ, ↓mD, ↓mF, ↓fZ, ↓gh, ↓gj, ↓cG, ↓mH, ↓gA, ↓rB, ↓gG, jw, pD, o9, sV, jx, pF, jy, fz_non, jA, pG, ph, sW, pq, sX, jB, pH, jC, pJ, jD, pK, pA, sY, pB, tD, pC, tE, gQ, mV, m9, mW, di, jE, iw, jF, dw, pM, jG, jH, ul, uo, uv, uw, ux, uz, uA, tG, mK, rW, dB, dC, jJ, dD, dF, bD, dG, dH, bF, dI, nR, pN, pO, pP, jK, jL, dJ, tH, jM, pQ, jN, jO, pU, pW, rY, rZ, dR, jQ, dU, bO, dW, bQ, jR, dX, bR, dY, dZ, jT, jU, uh, uR, u6, bU, bV, eE, j7, d8, bT, pZ, qb, jW, d9, jY, jZ, j5, qm, jX, qj, ql, ai3, ai4, ai5, aiV, Int.reduceToNat, bG, bH, dM, bJ, bK, dN, dO, bL, bM, eQ, eU, lD, qJ, qK, Option.isSome_some, Option.isSome_none, lE, Int.reduceEq, beq_self_eq_true, cQ, cR, eY, lH, eZ, fj, fu, lJ, lK, fB, fD, fK, bW, bz, lO, lQ, lV, lW, fV, cC, cD, lY, fX, qT, tM, qU, qW, qX, uB, uC, gq, mG, nj, nU, iy, nW, j8, kh, eG, j9, kY, qw, kZ, lg, qC, lu, lw, lA, qD, qF, startF, aiR, aiT, aiY, ai2, aiS, aiU, ai0, ai1, ai6, ai7, aiZ, aiW, aiX, Nat.reduceAdd, Nat.reduceSub, Nat.reduceLeDiff, Nat.reduceLT, Nat.zero_add, and_true, true_and, and_self, false_and, and_false, not_true_eq_false, not_false_eq_true, eq_self, decide_true, decide_false, Bool.not_true, Bool.not_false, Bool.true_and, Bool.false_and, Bool.and_true, Bool.and_false, Bool.or_true, Bool.or_false, Bool.true_or, Bool.false_or, Option.map_some, Option.map_none, Int.toNat_natCast, ↓reduceIte, Bool.false_eq_true, reduceCtorEq, Int.cast_ofNat_Int, Int.reduceLT, Int.reduceLE, Int.reduceAdd, Int.reduceSub, Int.reduceNeg, Int.natCast_zero, pY, and_assoc, ↓GX, ↓aU, aF, aG, aV, aP, aM, aW, aH, aX, aQ, az, aN, aY, aZ, au, ↓Ft, zP, u, c, d1, i1, i2]
theorem Rp {low high v : Int} {c : Nat} {r : List Nat} (hg : zU (uD ws s) = true) (h7 : (uD ws s).length ≤ 7) (hc : cs (uD ws s) = c :: r) (hz : c ≠ 48 ∨ (uD ws s).length ≤ 1) (hv : PySem.intText? (uD ws s) = some v) (h1 : low ≤ v) (h2 : v ≤ high) :
 xV [.ref h0.length, .int low, .int high] (TH h0 sz ws ps (s : Nat)) = .ok (.int v) [] (TH h0 sz ws ps ((s + 1 : Nat) : Int)) := by
 apply Wp.eq
 have u := Je (h0 := h0) (sz := sz) (ws := ws) (ps := ps) (s := s)
 generalize uD ws s = w at *
 have hl : ∀ h : Hh, vh h (.str w) = some (.int (w.length : Nat)) := fun h => by rw [Xa (by omega), Hr]
 have hi : ∀ h : Hh, yq h (.str w) = some (.int v) := fun h => by
  show (if w.length ≤ 640 then (PySem.intText? w).map D.int else none) = _
  rw [if_pos (by omega), hv]
  rfl
 have i1 : ∀ h : Hh, gJ h (.str w) (.int 0) = some (.str ⟨#[c]⟩) := fun h => ag0 (by omega) hc
 have hcg : zU ⟨#[c]⟩ = true := by
  have e : w.cps.all (· < 0x110000) = true := hg
  rw [Array.all_eq_true'] at e
  have : c ∈ w.cps := Array.mem_toList_iff.mp (by show c ∈ cs w; rw [hc]; exact ai8)
  show (#[c] : Array Nat).all _ = true
  simp [of_decide_eq_true (e c this)]
 have i2 : ∀ h : Hh, uE h (.str ⟨#[c]⟩) (.str "0") = some (decide ((⟨#[c]⟩ : Str) = "0")) := fun h => Gh hcg (by decide +kernel)
 have d7 : decide ((7 : Int) < (w.length : Nat)) = false := decide_eq_false (by omega)
 have dl : decide (low ≤ v) = true := decide_eq_true h1
 have dh : decide (v ≤ high) = true := decide_eq_true h2
 by_cases c48 : c = 48
 · have d2 : decide ((⟨#[c]⟩ : Str) = "0") = true := by subst c48; exact decide_eq_true (by decide +kernel)
   have d3 : decide ((1 : Int) < (w.length : Nat)) = false := decide_eq_false (by rcases hz with z | z; exact absurd c48 z; omega)
   simp only [↓ou, ↓mU, ↓wp_bind, ↓oM, ↓tZ, ↓sE, ↓oN, ↓iH, ↓nM, ↓oO, ↓rQ, ↓rR, ↓sG, ↓oR, ↓iI, ↓oU, ↓sH, ↓iJ, ↓iK, ↓oV, ↓cU, ↓sJ, ↓cV, ↓cW, ↓oW, ↓oX, ↓iQ, ↓sO, ↓qd, ↓iT, ↓oY, ↓sS, ↓ig, ↓iU, ↓iV, ↓m7, ↓oZ, ↓iW, ↓nO, ↓o5, ↓o7, ↓iY, ↓gU, ↓sU, ↓il, ↓cX, ↓bA, ↓cY, ↓o8, ↓jc, ↓je, ↓jf, ↓jh, ↓ji, ↓jk, ↓jm, ↓bB, ↓jn, ↓jo, ↓jr, ↓j6, ↓qp, ↓jt, ↓ir, ↓ju, ↓jV, ↓nY, ↓nZ, ↓nu, ↓nA, gM, oE, oF, nQ, ie, ue, uf, gR, oG, nH, oH, iG, oJ, oK, nJ, mX, mY, gY, ni, cZ, jP, pX, iZ, ↓km, ↓kE, ↓eO, ↓qu, ↓tK, ↓kJ, ↓kW, ↓oA, ↓lB, ↓lC, ↓qG, ↓qH, ↓qI, ↓qL, ↓lF, ↓eV, ↓tL, ↓eX, ↓lG, ↓lL, ↓lM, ↓fG, ↓fH, ↓fJ, ↓bY, ↓qM, ↓lN, ↓fL, ↓fM, ↓qN, ↓lU, ↓fO, ↓fP, ↓fQ, ↓qO, ↓qP, ↓qQ, ↓qR, ↓lX, ↓fU, ↓bZ, ↓cA, ↓qY, ↓qZ, ↓fY, ↓rA, ↓lZ, ↓mD, ↓mF, ↓fZ, ↓gh, ↓gj, ↓cG, ↓mH, ↓gA, ↓rB, ↓gG, jw, pD, o9, sV, jx, pF, jy, fz_non, jA, pG, ph, sW, pq, sX, jB, pH, jC, pJ, jD, pK, pA, sY, pB, tD, pC, tE, gQ, mV, m9, mW, di, jE, iw, jF, dw, pM, jG, jH, ul, uo, uv, uw, ux, uz, uA, tG, mK, rW, dB, dC, jJ, dD, dF, bD, dG, dH, bF, dI, nR, pN, pO, pP, jK, jL, dJ, tH, jM, pQ, jN, jO, pU, pW, rY, rZ, dR, jQ, dU, bO, dW, bQ, jR, dX, bR, dY, dZ, jT, jU, uh, uR, u6, bU, bV, eE, j7, d8, bT, pZ, qb, jW, d9, jY, jZ, j5, qm, jX, qj, ql, ai3, ai4, ai5, aiV, Int.reduceToNat, bG, bH, dM, bJ, bK, dN, dO, bL, bM, eQ, eU, lD, qJ, qK, Option.isSome_some, Option.isSome_none, lE, Int.reduceEq, beq_self_eq_true, cQ, cR, eY, lH, eZ, fj, fu, lJ, lK, fB, fD, fK, bW, bz, lO, lQ, lV, lW, fV, cC, cD, lY, fX, qT, tM, qU, qW, qX, uB, uC, gq, mG, nj, nU, iy, nW, j8, kh, eG, j9, kY, qw, kZ, lg, qC, lu, lw, lA, qD, qF, startF, aiR, aiT, aiY, ai2, aiS, aiU, ai0, ai1, ai6, ai7, aiZ, aiW, aiX, Nat.reduceAdd, Nat.reduceSub, Nat.reduceLeDiff, Nat.reduceLT, Nat.zero_add, and_true, true_and, and_self, false_and, and_false, not_true_eq_false, not_false_eq_true, eq_self, decide_true, decide_false, Bool.not_true, Bool.not_false, Bool.true_and, Bool.false_and, Bool.and_true, Bool.and_false, Bool.or_true, Bool.or_false, Bool.true_or, Bool.false_or, Option.map_some, Option.map_none, Int.toNat_natCast, ↓reduceIte, Bool.false_eq_true, reduceCtorEq, Int.cast_ofNat_Int, Int.reduceLT, Int.reduceLE, Int.reduceAdd, Int.reduceSub, Int.reduceNeg, Int.natCast_zero, pY, and_assoc, ↓Hv, ↓Hw, ↓Ls, ↓aU, aF, aG, aV, aP, aM, aW, aH, aX, aQ, az, aN, aY, aZ, au, ↓JT, zP, u, hl, hi, i1, i2, d7, dl, dh, d2, d3, Rm, JL, xj]
   simp only [JL, Int.natCast_add, Int.natCast_one]
   first | exact ⟨rfl, rfl, rfl⟩ | trivial | skip
 · have d2 : decide ((⟨#[c]⟩ : Str) = "0") = false := decide_eq_false fun z => c48 (by
    have z' : (⟨#[c]⟩ : Str).cps.toList = ("0" : Str).cps.toList := by rw [z]
    have e2 : ("0" : Str).cps.toList = [48] := by decide +kernel
    rw [e2] at z'
    simpa using z')
   simp only [↓ou, ↓mU, ↓wp_bind, ↓oM, ↓tZ, ↓sE, ↓oN, ↓iH, ↓nM, ↓oO, ↓rQ, ↓rR, ↓sG, ↓oR, ↓iI, ↓oU, ↓sH, ↓iJ, ↓iK, ↓oV, ↓cU, ↓sJ, ↓cV, ↓cW, ↓oW, ↓oX, ↓iQ, ↓sO, ↓qd, ↓iT, ↓oY, ↓sS, ↓ig, ↓iU, ↓iV, ↓m7, ↓oZ, ↓iW, ↓nO, ↓o5, ↓o7, ↓iY, ↓gU, ↓sU, ↓il, ↓cX, ↓bA, ↓cY, ↓o8, ↓jc, ↓je, ↓jf, ↓jh, ↓ji, ↓jk, ↓jm, ↓bB, ↓jn, ↓jo, ↓jr, ↓j6, ↓qp, ↓jt, ↓ir, ↓ju, ↓jV, ↓nY, ↓nZ, ↓nu, ↓nA, gM, oE, oF, nQ, ie, ue, uf, gR, oG, nH, oH, iG, oJ, oK, nJ, mX, mY, gY, ni, cZ, jP, pX, iZ, ↓km, ↓kE, ↓eO, ↓qu, ↓tK, ↓kJ, ↓kW, ↓oA, ↓lB, ↓lC, ↓qG, ↓qH, ↓qI, ↓qL, ↓lF, ↓eV, ↓tL, ↓eX, ↓lG, ↓lL, ↓lM, ↓fG, ↓fH, ↓fJ, ↓bY, ↓qM, ↓lN, ↓fL, ↓fM, ↓qN, ↓lU, ↓fO, ↓fP, ↓fQ, ↓qO, ↓qP, ↓qQ, ↓qR, ↓lX, ↓fU, ↓bZ, ↓cA, ↓qY, ↓qZ, ↓fY, ↓rA, ↓lZ, ↓mD, ↓mF, ↓fZ, ↓gh, ↓gj, ↓cG, ↓mH, ↓gA, ↓rB, ↓gG, jw, pD, o9, sV, jx, pF, jy, fz_non, jA, pG, ph, sW, pq, sX, jB, pH, jC, pJ, jD, pK, pA, sY, pB, tD, pC, tE, gQ, mV, m9, mW, di, jE, iw, jF, dw, pM, jG, jH, ul, uo, uv, uw, ux, uz, uA, tG, mK, rW, dB, dC, jJ, dD, dF, bD, dG, dH, bF, dI, nR, pN, pO, pP, jK, jL, dJ, tH, jM, pQ, jN, jO, pU, pW, rY, rZ, dR, jQ, dU, bO, dW, bQ, jR, dX, bR, dY, dZ, jT, jU, uh, uR, u6, bU, bV, eE, j7, d8, bT, pZ, qb, jW, d9, jY, jZ, j5, qm, jX, qj, ql, ai3, ai4, ai5, aiV, Int.reduceToNat, bG, bH, dM, bJ, bK, dN, dO, bL, bM, eQ, eU, lD, qJ, qK, Option.isSome_some, Option.isSome_none, lE, Int.reduceEq, beq_self_eq_true, cQ, cR, eY, lH, eZ, fj, fu, lJ, lK, fB, fD, fK, bW, bz, lO, lQ, lV, lW, fV, cC, cD, lY, fX, qT, tM, qU, qW, qX, uB, uC, gq, mG, nj, nU, iy, nW, j8, kh, eG, j9, kY, qw, kZ, lg, qC, lu, lw, lA, qD, qF, startF, aiR, aiT, aiY, ai2, aiS, aiU, ai0, ai1, ai6, ai7, aiZ, aiW, aiX, Nat.reduceAdd, Nat.reduceSub, Nat.reduceLeDiff, Nat.reduceLT, Nat.zero_add, and_true, true_and, and_self, false_and, and_false, not_true_eq_false, not_false_eq_true, eq_self, decide_true, decide_false, Bool.not_true, Bool.not_false, Bool.true_and, Bool.false_and, Bool.and_true, Bool.and_false, Bool.or_true, Bool.or_false, Bool.true_or, Bool.false_or, Option.map_some, Option.map_none, Int.toNat_natCast, ↓reduceIte, Bool.false_eq_true, reduceCtorEq, Int.cast_ofNat_Int, Int.reduceLT, Int.reduceLE, Int.reduceAdd, Int.reduceSub, Int.reduceNeg, Int.natCast_zero, pY, and_assoc, ↓Hv, ↓Hw, ↓Ls, ↓aU, aF, aG, aV, aP, aM, aW, aH, aX, aQ, az, aN, aY, aZ, au, ↓JT, zP, u, hl, hi, i1, i2, d7, dl, dh, d2, Rm, JL, xj]
   simp only [JL, Int.natCast_add, Int.natCast_one]
   first | exact ⟨rfl, rfl, rfl⟩ | trivial | skip
structure Num (w : Str) (v : Int) : Prop where
 g : zU w = true
 l : w.length ≤ 7
 c : ∃ c r, cs w = c :: r ∧ (c ≠ 48 ∨ w.length ≤ 1) ∧ isIn Px c = true
 v : PySem.intText? w = some v
theorem Num.sees {v : Int} (n : Num w v) : Ss w = true := by
 obtain ⟨c, r, e, _, h⟩ := n.c
 unfold Ss
 rw [e]
 exact h
theorem ab2 {a b : Int} (hs : uD ws s = "[") (ha : Num (uD ws (s + 1)) a) (hc : uD ws (s + 2) = ":") (hb : Num (uD ws (s + 3)) b) (he : uD ws (s + 4) = "]") (h0a : 0 ≤ a) (hab : a < b) (hbs : b ≤ sz) :
 xF [.ref h0.length] (TH h0 sz ws ps (s : Nat)) = .ok (.tup [.int a, .int b]) [] (TH h0 sz ws ps ((s + 5 : Nat) : Int)) := by
 have k1 := Ka (h0 := h0) (sz := sz) (ws := ws) (ps := ps) (s := s) (w := "[") (by rw [hs]; decide +kernel) (by decide +kernel)
 rw [if_pos hs, decide_eq_true hs] at k1
 have k2 := Ro (h0 := h0) (sz := sz) (ws := ws) (ps := ps) (s := s + 1) ha.g (Nat.le_trans ha.l (by decide))
 rw [ha.sees] at k2
 obtain ⟨c, r, ec, hz, _⟩ := ha.c
 have k3 := Rp (h0 := h0) (sz := sz) (ws := ws) (ps := ps) (s := s + 1) (low := 0) (high := sz - 1) ha.g ha.l ec hz ha.v h0a (by omega)
 have k4 := wD (h0 := h0) (sz := sz) (ws := ws) (ps := ps) (s := s + 2) (al := [":"]) (by rw [hc]; exact ai8)
 have k5 := Ro (h0 := h0) (sz := sz) (ws := ws) (ps := ps) (s := s + 3) hb.g (Nat.le_trans hb.l (by decide))
 rw [hb.sees] at k5
 obtain ⟨c', r', ec', hz', _⟩ := hb.c
 have k6 := Rp (h0 := h0) (sz := sz) (ws := ws) (ps := ps) (s := s + 3) (low := a + 1) (high := sz) hb.g hb.l ec' hz' hb.v (by omega) hbs
 have k7 := wD (h0 := h0) (sz := sz) (ws := ws) (ps := ps) (s := s + 4) (al := ["]"]) (by rw [he]; exact ai8)
 simp only [aiR, aiT] at k4 k7
 apply Wp.eq
 simp only [↓ou, ↓mU, ↓wp_bind, ↓oM, ↓tZ, ↓sE, ↓oN, ↓iH, ↓nM, ↓oO, ↓rQ, ↓rR, ↓sG, ↓oR, ↓iI, ↓oU, ↓sH, ↓iJ, ↓iK, ↓oV, ↓cU, ↓sJ, ↓cV, ↓cW, ↓oW, ↓oX, ↓iQ, ↓sO, ↓qd, ↓iT, ↓oY, ↓sS, ↓ig, ↓iU, ↓iV, ↓m7, ↓oZ, ↓iW, ↓nO, ↓o5, ↓o7, ↓iY, ↓gU, ↓sU, ↓il, ↓cX, ↓bA, ↓cY, ↓o8, ↓jc, ↓je, ↓jf, ↓jh, ↓ji, ↓jk, ↓jm, ↓bB, ↓jn, ↓jo, ↓jr, ↓j6, ↓qp, ↓jt, ↓ir, ↓ju, ↓jV, ↓nY, ↓nZ, ↓nu, ↓nA, gM, oE, oF, nQ, ie, ue, uf, gR, oG, nH, oH, iG, oJ, oK, nJ, mX, mY, gY, ni, cZ, jP, pX, iZ, ↓km, ↓kE, ↓eO, ↓qu, ↓tK, ↓kJ, ↓kW, ↓oA, ↓lB, ↓lC, ↓qG, ↓qH, ↓qI, ↓qL, ↓lF, ↓eV, ↓tL, ↓eX, ↓lG, ↓lL, ↓lM, ↓fG, ↓fH, ↓fJ, ↓bY, ↓qM, ↓lN, ↓fL, ↓fM, ↓qN, ↓lU, ↓fO, ↓fP, ↓fQ, ↓qO, ↓qP, ↓qQ, ↓qR, ↓lX, ↓fU, ↓bZ, ↓cA, ↓qY, ↓qZ, ↓fY, ↓rA, ↓lZ, ↓mD, ↓mF, ↓fZ, ↓gh, ↓gj, ↓cG, ↓mH, ↓gA, ↓rB, ↓gG, jw, pD, o9, sV, jx, pF, jy, fz_non, jA, pG, ph, sW, pq, sX, jB, pH, jC, pJ, jD, pK, pA, sY, pB, tD, pC, tE, gQ, mV, m9, mW, di, jE, iw, jF, dw, pM, jG, jH, ul, uo, uv, uw, ux, uz, uA, tG, mK, rW, dB, dC, jJ, dD, dF, bD, dG, dH, bF, dI, nR, pN, pO, pP, jK, jL, dJ, tH, jM, pQ, jN, jO, pU, pW, rY, rZ, dR, jQ, dU, bO, dW, bQ, jR, dX, bR, dY, dZ, jT, jU, uh, uR, u6, bU, bV, eE, j7, d8, bT, pZ, qb, jW, d9, jY, jZ, j5, qm, jX, qj, ql, ai3, ai4, ai5, aiV, Int.reduceToNat, bG, bH, dM, bJ, bK, dN, dO, bL, bM, eQ, eU, lD, qJ, qK, Option.isSome_some, Option.isSome_none, lE, Int.reduceEq, beq_self_eq_true, cQ, cR, eY, lH, eZ, fj, fu, lJ, lK, fB, fD, fK, bW, bz, lO, lQ, lV, lW, fV, cC, cD, lY, fX, qT, tM, qU, qW, qX, uB, uC, gq, mG, nj, nU, iy, nW, j8, kh, eG, j9, kY, qw, kZ, lg, qC, lu, lw, lA, qD, qF, startF, aiR, aiT, aiY, ai2, aiS, aiU, ai0, ai1, ai6, ai7, aiZ, aiW, aiX, Nat.reduceAdd, Nat.reduceSub, Nat.reduceLeDiff, Nat.reduceLT, Nat.zero_add, and_true, true_and, and_self, false_and, and_false, not_true_eq_false, not_false_eq_true, eq_self, decide_true, decide_false, Bool.not_true, Bool.not_false, Bool.true_and, Bool.false_and, Bool.and_true, Bool.and_false, Bool.or_true, Bool.or_false, Bool.true_or, Bool.false_or, Option.map_some, Option.map_none, Int.toNat_natCast, ↓reduceIte, Bool.false_eq_true, reduceCtorEq, Int.cast_ofNat_Int, Int.reduceLT, Int.reduceLE, Int.reduceAdd, Int.reduceSub, Int.reduceNeg, Int.natCast_zero, pY, and_assoc, ↓Vy, ↓Vz, ↓Z3, ↓aU, aF, aG, aV, aP, aM, aW, aH, aX, aQ, az, aN, aY, aZ, au, ↓XH, zP, afK, k1, k2, k3, k4, k5, k6, k7]
end
end L
namespace L
open PySem PySem.Spec L2 Pk
def fW : List Str := ["raw", "zero", "held"]
def Xb : List Str := ["first", "last", "change", "rises"]
def Sv : List Str := ["first", "last", "top", "low", "change", "rises", "told"]
theorem afL : ∀ m ∈ Xb, zU m = true ∧ m ≠ "events" ∧ m ≠ "sum" := by decide +kernel
theorem aee : ∀ m ∈ Sv, zU m = true := by decide +kernel
section
variable {h0 : Hh} {sz : Int} {ws : List Str} {ps : List Int} {s : Nat} {a b : Int}
structure Z9 (ws : List Str) (s : Nat) (a b sz : Int) : Prop where
 o : uD ws s = "["
 na : Num (uD ws (s + 1)) a
 c : uD ws (s + 2) = ":"
 nb : Num (uD ws (s + 3)) b
 e : uD ws (s + 4) = "]"
 h0a : 0 ≤ a
 hab : a < b
 hbs : b ≤ sz
theorem Z9.spec (t : Z9 ws s a b sz) : xF [.ref h0.length] (TH h0 sz ws ps (s : Nat)) = .ok (.tup [.int a, .int b]) [] (TH h0 sz ws ps ((s + 5 : Nat) : Int)) := ab2 t.o t.na t.c t.nb t.e t.h0a t.hab t.hbs
theorem Rr {kind m f : Str} {al : List Str} (hf : uD ws s = f) (hm : f ∈ al) (hl : al.length ≤ 1000) (t : Z9 ws (s + 1) a b sz) (e1 : uD ws (s + 6) = ")") (e2 : uD ws (s + 7) = ")") :
 wZ [.ref h0.length, .str kind, .str m, .tup (al.map .str)] (TH h0 sz ws ps (s : Nat)) = .ok (.tup [.str "leaf", .str kind, .str m, .str f, .int a, .int b]) [] (TH h0 sz ws ps ((s + 8 : Nat) : Int)) := by
 have k1 := wD (h0 := h0) (sz := sz) (ws := ws) (ps := ps) (s := s) (al := al) (by rw [hf]; exact hm)
 have k2 := t.spec (h0 := h0) (ps := ps)
 have k3 := wD (h0 := h0) (sz := sz) (ws := ws) (ps := ps) (s := s + 6) (al := [")"]) (by rw [e1]; exact ai8)
 have k4 := wD (h0 := h0) (sz := sz) (ws := ws) (ps := ps) (s := s + 7) (al := [")"]) (by rw [e2]; exact ai8)
 rw [hf] at k1
 simp only [aiR, aiT] at k3 k4
 apply Wp.eq
 simp only [↓ou, ↓mU, ↓wp_bind, ↓oM, ↓tZ, ↓sE, ↓oN, ↓iH, ↓nM, ↓oO, ↓rQ, ↓rR, ↓sG, ↓oR, ↓iI, ↓oU, ↓sH, ↓iJ, ↓iK, ↓oV, ↓cU, ↓sJ, ↓cV, ↓cW, ↓oW, ↓oX, ↓iQ, ↓sO, ↓qd, ↓iT, ↓oY, ↓sS, ↓ig, ↓iU, ↓iV, ↓m7, ↓oZ, ↓iW, ↓nO, ↓o5, ↓o7, ↓iY, ↓gU, ↓sU, ↓il, ↓cX, ↓bA, ↓cY, ↓o8, ↓jc, ↓je, ↓jf, ↓jh, ↓ji, ↓jk, ↓jm, ↓bB, ↓jn, ↓jo, ↓jr, ↓j6, ↓qp, ↓jt, ↓ir, ↓ju, ↓jV, ↓nY, ↓nZ, ↓nu, ↓nA, gM, oE, oF, nQ, ie, ue, uf, gR, oG, nH, oH, iG, oJ, oK, nJ, mX, mY, gY, ni, cZ, jP, pX, iZ, ↓km, ↓kE, ↓eO, ↓qu, ↓tK, ↓kJ, ↓kW, ↓oA, ↓lB, ↓lC, ↓qG, ↓qH, ↓qI, ↓qL, ↓lF, ↓eV, ↓tL, ↓eX, ↓lG, ↓lL, ↓lM, ↓fG, ↓fH, ↓fJ, ↓bY, ↓qM, ↓lN, ↓fL, ↓fM, ↓qN, ↓lU, ↓fO, ↓fP, ↓fQ, ↓qO, ↓qP, ↓qQ, ↓qR, ↓lX, ↓fU, ↓bZ, ↓cA, ↓qY, ↓qZ, ↓fY, ↓rA, ↓lZ, ↓mD, ↓mF, ↓fZ, ↓gh, ↓gj, ↓cG, ↓mH, ↓gA, ↓rB, ↓gG, jw, pD, o9, sV, jx, pF, jy, fz_non, jA, pG, ph, sW, pq, sX, jB, pH, jC, pJ, jD, pK, pA, sY, pB, tD, pC, tE, gQ, mV, m9, mW, di, jE, iw, jF, dw, pM, jG, jH, ul, uo, uv, uw, ux, uz, uA, tG, mK, rW, dB, dC, jJ, dD, dF, bD, dG, dH, bF, dI, nR, pN, pO, pP, jK, jL, dJ, tH, jM, pQ, jN, jO, pU, pW, rY, rZ, dR, jQ, dU, bO, dW, bQ, jR, dX, bR, dY, dZ, jT, jU, uh, uR, u6, bU, bV, eE, j7, d8, bT, pZ, qb, jW, d9, jY, jZ, j5, qm, jX, qj, ql, ai3, ai4, ai5, aiV, Int.reduceToNat, bG, bH, dM, bJ, bK, dN, dO, bL, bM, eQ, eU, lD, qJ, qK, Option.isSome_some, Option.isSome_none, lE, Int.reduceEq, beq_self_eq_true, cQ, cR, eY, lH, eZ, fj, fu, lJ, lK, fB, fD, fK, bW, bz, lO, lQ, lV, lW, fV, cC, cD, lY, fX, qT, tM, qU, qW, qX, uB, uC, gq, mG, nj, nU, iy, nW, j8, kh, eG, j9, kY, qw, kZ, lg, qC, lu, lw, lA, qD, qF, startF, aiR, aiT, aiY, ai2, aiS, aiU, ai0, ai1, ai6, ai7, aiZ, aiW, aiX, Nat.reduceAdd, Nat.reduceSub, Nat.reduceLeDiff, Nat.reduceLT, Nat.zero_add, and_true, true_and, and_self, false_and, and_false, not_true_eq_false, not_false_eq_true, eq_self, decide_true, decide_false, Bool.not_true, Bool.not_false, Bool.true_and, Bool.false_and, Bool.and_true, Bool.and_false, Bool.or_true, Bool.or_false, Bool.true_or, Bool.false_or, Option.map_some, Option.map_none, Int.toNat_natCast, ↓reduceIte, Bool.false_eq_true, reduceCtorEq, Int.cast_ofNat_Int, Int.reduceLT, Int.reduceLE, Int.reduceAdd, Int.reduceSub, Int.reduceNeg, Int.natCast_zero, pY, and_assoc, ↓Tj, ↓Tn, ↓Tp, ↓WQ, ↓aU, aF, aG, aV, aP, aM, aW, aH, aX, aQ, az, aN, aY, aZ, au, ↓VF, zP, k1, k2, k3, k4]
 rw [ajb]; exact Nat.le_trans hl (by decide)
theorem afM (h : uD ws s = "events") (t : Z9 ws (s + 1) a b sz) : vH [.ref h0.length] (TH h0 sz ws ps (s : Nat)) = .ok (.tup [.str "events", .int a, .int b]) [] (TH h0 sz ws ps ((s + 6 : Nat) : Int)) := by
 have k1 := wD (h0 := h0) (sz := sz) (ws := ws) (ps := ps) (s := s) (al := ["events", "sum", "first", "last", "change", "rises"]) (by rw [h]; exact ai8)
 have k2 := t.spec (h0 := h0) (ps := ps)
 rw [h] at k1
 simp only [aiR, aiT] at k1
 have c1 : ∀ h : Hh, uE h (.str "events") (.str "events") = some true := fun h => (Gh (by decide +kernel) (by decide +kernel)).trans (congrArg some (decide_eq_true rfl))
 apply Wp.eq
 simp only [↓ou, ↓mU, ↓wp_bind, ↓oM, ↓tZ, ↓sE, ↓oN, ↓iH, ↓nM, ↓oO, ↓rQ, ↓rR, ↓sG, ↓oR, ↓iI, ↓oU, ↓sH, ↓iJ, ↓iK, ↓oV, ↓cU, ↓sJ, ↓cV, ↓cW, ↓oW, ↓oX, ↓iQ, ↓sO, ↓qd, ↓iT, ↓oY, ↓sS, ↓ig, ↓iU, ↓iV, ↓m7, ↓oZ, ↓iW, ↓nO, ↓o5, ↓o7, ↓iY, ↓gU, ↓sU, ↓il, ↓cX, ↓bA, ↓cY, ↓o8, ↓jc, ↓je, ↓jf, ↓jh, ↓ji, ↓jk, ↓jm, ↓bB, ↓jn, ↓jo, ↓jr, ↓j6, ↓qp, ↓jt, ↓ir, ↓ju, ↓jV, ↓nY, ↓nZ, ↓nu, ↓nA, gM, oE, oF, nQ, ie, ue, uf, gR, oG, nH, oH, iG, oJ, oK, nJ, mX, mY, gY, ni, cZ, jP, pX, iZ, ↓km, ↓kE, ↓eO, ↓qu, ↓tK, ↓kJ, ↓kW, ↓oA, ↓lB, ↓lC, ↓qG, ↓qH, ↓qI, ↓qL, ↓lF, ↓eV, ↓tL, ↓eX, ↓lG, ↓lL, ↓lM, ↓fG, ↓fH, ↓fJ, ↓bY, ↓qM, ↓lN, ↓fL, ↓fM, ↓qN, ↓lU, ↓fO, ↓fP, ↓fQ, ↓qO, ↓qP, ↓qQ, ↓qR, ↓lX, ↓fU, ↓bZ, ↓cA, ↓qY, ↓qZ, ↓fY, ↓rA, ↓lZ, ↓mD, ↓mF, ↓fZ, ↓gh, ↓gj, ↓cG, ↓mH, ↓gA, ↓rB, ↓gG, jw, pD, o9, sV, jx, pF, jy, fz_non, jA, pG, ph, sW, pq, sX, jB, pH, jC, pJ, jD, pK, pA, sY, pB, tD, pC, tE, gQ, mV, m9, mW, di, jE, iw, jF, dw, pM, jG, jH, ul, uo, uv, uw, ux, uz, uA, tG, mK, rW, dB, dC, jJ, dD, dF, bD, dG, dH, bF, dI, nR, pN, pO, pP, jK, jL, dJ, tH, jM, pQ, jN, jO, pU, pW, rY, rZ, dR, jQ, dU, bO, dW, bQ, jR, dX, bR, dY, dZ, jT, jU, uh, uR, u6, bU, bV, eE, j7, d8, bT, pZ, qb, jW, d9, jY, jZ, j5, qm, jX, qj, ql, ai3, ai4, ai5, aiV, Int.reduceToNat, bG, bH, dM, bJ, bK, dN, dO, bL, bM, eQ, eU, lD, qJ, qK, Option.isSome_some, Option.isSome_none, lE, Int.reduceEq, beq_self_eq_true, cQ, cR, eY, lH, eZ, fj, fu, lJ, lK, fB, fD, fK, bW, bz, lO, lQ, lV, lW, fV, cC, cD, lY, fX, qT, tM, qU, qW, qX, uB, uC, gq, mG, nj, nU, iy, nW, j8, kh, eG, j9, kY, qw, kZ, lg, qC, lu, lw, lA, qD, qF, startF, aiR, aiT, aiY, ai2, aiS, aiU, ai0, ai1, ai6, ai7, aiZ, aiW, aiX, Nat.reduceAdd, Nat.reduceSub, Nat.reduceLeDiff, Nat.reduceLT, Nat.zero_add, and_true, true_and, and_self, false_and, and_false, not_true_eq_false, not_false_eq_true, eq_self, decide_true, decide_false, Bool.not_true, Bool.not_false, Bool.true_and, Bool.false_and, Bool.and_true, Bool.and_false, Bool.or_true, Bool.or_false, Bool.true_or, Bool.false_or, Option.map_some, Option.map_none, Int.toNat_natCast, ↓reduceIte, Bool.false_eq_true, reduceCtorEq, Int.cast_ofNat_Int, Int.reduceLT, Int.reduceLE, Int.reduceAdd, Int.reduceSub, Int.reduceNeg, Int.natCast_zero, pY, and_assoc, ↓wu, ↓ww, ↓wy, ↓wz, ↓wA, ↓wB, ↓yr, ↓aU, aF, aG, aV, aP, aM, aW, aH, aX, aQ, az, aN, aY, aZ, au, ↓Hq, zP, yZ, k1, k2, c1]
theorem aef {m f : Str} (hm : m ∈ Xb) (h : uD ws s = m) (h1 : uD ws (s + 1) = "(") (h2 : uD ws (s + 2) = "sum") (h3 : uD ws (s + 3) = "(") (hf : uD ws (s + 4) = f) (hff : f ∈ (["zero", "held"] : List Str)) (t : Z9 ws (s + 5) a b sz) (e1 : uD ws (s + 10) = ")") (e2 : uD ws (s + 11) = ")") :
 vH [.ref h0.length] (TH h0 sz ws ps (s : Nat)) = .ok (.tup [.str "leaf", .str "all", .str m, .str f, .int a, .int b]) [] (TH h0 sz ws ps ((s + 12 : Nat) : Int)) := by
 obtain ⟨g, n1, n2⟩ := afL m hm
 have k1 := wD (h0 := h0) (sz := sz) (ws := ws) (ps := ps) (s := s) (al := ["events", "sum", "first", "last", "change", "rises"]) (by rw [h]; exact ajc _ (ajc _ hm))
 have k2 := wD (h0 := h0) (sz := sz) (ws := ws) (ps := ps) (s := s + 1) (al := ["("]) (by rw [h1]; exact ai8)
 have k3 := wD (h0 := h0) (sz := sz) (ws := ws) (ps := ps) (s := s + 2) (al := ["sum"]) (by rw [h2]; exact ai8)
 have k4 := wD (h0 := h0) (sz := sz) (ws := ws) (ps := ps) (s := s + 3) (al := ["("]) (by rw [h3]; exact ai8)
 have k5 := Rr (h0 := h0) (ps := ps) (kind := "all") (m := m) (al := ["zero", "held"]) hf hff (by decide) t e1 e2
 rw [h] at k1
 simp only [aiR, aiT] at k1 k2 k3 k4 k5
 have c1 : ∀ h : Hh, uE h (.str m) (.str "events") = some false := fun h => (Gh g (by decide +kernel)).trans (congrArg some (decide_eq_false n1))
 have c2 : ∀ h : Hh, uE h (.str m) (.str "sum") = some false := fun h => (Gh g (by decide +kernel)).trans (congrArg some (decide_eq_false n2))
 apply Wp.eq
 simp only [↓ou, ↓mU, ↓wp_bind, ↓oM, ↓tZ, ↓sE, ↓oN, ↓iH, ↓nM, ↓oO, ↓rQ, ↓rR, ↓sG, ↓oR, ↓iI, ↓oU, ↓sH, ↓iJ, ↓iK, ↓oV, ↓cU, ↓sJ, ↓cV, ↓cW, ↓oW, ↓oX, ↓iQ, ↓sO, ↓qd, ↓iT, ↓oY, ↓sS, ↓ig, ↓iU, ↓iV, ↓m7, ↓oZ, ↓iW, ↓nO, ↓o5, ↓o7, ↓iY, ↓gU, ↓sU, ↓il, ↓cX, ↓bA, ↓cY, ↓o8, ↓jc, ↓je, ↓jf, ↓jh, ↓ji, ↓jk, ↓jm, ↓bB, ↓jn, ↓jo, ↓jr, ↓j6, ↓qp, ↓jt, ↓ir, ↓ju, ↓jV, ↓nY, ↓nZ, ↓nu, ↓nA, gM, oE, oF, nQ, ie, ue, uf, gR, oG, nH, oH, iG, oJ, oK, nJ, mX, mY, gY, ni, cZ, jP, pX, iZ, ↓km, ↓kE, ↓eO, ↓qu, ↓tK, ↓kJ, ↓kW, ↓oA, ↓lB, ↓lC, ↓qG, ↓qH, ↓qI, ↓qL, ↓lF, ↓eV, ↓tL, ↓eX, ↓lG, ↓lL, ↓lM, ↓fG, ↓fH, ↓fJ, ↓bY, ↓qM, ↓lN, ↓fL, ↓fM, ↓qN, ↓lU, ↓fO, ↓fP, ↓fQ, ↓qO, ↓qP, ↓qQ, ↓qR, ↓lX, ↓fU, ↓bZ, ↓cA, ↓qY, ↓qZ, ↓fY, ↓rA, ↓lZ, ↓mD, ↓mF, ↓fZ, ↓gh, ↓gj, ↓cG, ↓mH, ↓gA, ↓rB, ↓gG, jw, pD, o9, sV, jx, pF, jy, fz_non, jA, pG, ph, sW, pq, sX, jB, pH, jC, pJ, jD, pK, pA, sY, pB, tD, pC, tE, gQ, mV, m9, mW, di, jE, iw, jF, dw, pM, jG, jH, ul, uo, uv, uw, ux, uz, uA, tG, mK, rW, dB, dC, jJ, dD, dF, bD, dG, dH, bF, dI, nR, pN, pO, pP, jK, jL, dJ, tH, jM, pQ, jN, jO, pU, pW, rY, rZ, dR, jQ, dU, bO, dW, bQ, jR, dX, bR, dY, dZ, jT, jU, uh, uR, u6, bU, bV, eE, j7, d8, bT, pZ, qb, jW, d9, jY, jZ, j5, qm, jX, qj, ql, ai3, ai4, ai5, aiV, Int.reduceToNat, bG, bH, dM, bJ, bK, dN, dO, bL, bM, eQ, eU, lD, qJ, qK, Option.isSome_some, Option.isSome_none, lE, Int.reduceEq, beq_self_eq_true, cQ, cR, eY, lH, eZ, fj, fu, lJ, lK, fB, fD, fK, bW, bz, lO, lQ, lV, lW, fV, cC, cD, lY, fX, qT, tM, qU, qW, qX, uB, uC, gq, mG, nj, nU, iy, nW, j8, kh, eG, j9, kY, qw, kZ, lg, qC, lu, lw, lA, qD, qF, startF, aiR, aiT, aiY, ai2, aiS, aiU, ai0, ai1, ai6, ai7, aiZ, aiW, aiX, Nat.reduceAdd, Nat.reduceSub, Nat.reduceLeDiff, Nat.reduceLT, Nat.zero_add, and_true, true_and, and_self, false_and, and_false, not_true_eq_false, not_false_eq_true, eq_self, decide_true, decide_false, Bool.not_true, Bool.not_false, Bool.true_and, Bool.false_and, Bool.and_true, Bool.and_false, Bool.or_true, Bool.or_false, Bool.true_or, Bool.false_or, Option.map_some, Option.map_none, Int.toNat_natCast, ↓reduceIte, Bool.false_eq_true, reduceCtorEq, Int.cast_ofNat_Int, Int.reduceLT, Int.reduceLE, Int.reduceAdd, Int.reduceSub, Int.reduceNeg, Int.natCast_zero, pY, and_assoc, ↓wu, ↓ww, ↓wy, ↓wz, ↓wA, ↓wB, ↓yr, ↓aU, aF, aG, aV, aP, aM, aW, aH, aX, aQ, az, aN, aY, aZ, au, ↓Hq, zP, yZ, k1, k2, k3, k4, k5, c1, c2]
theorem acW {m f : Str} (hm : m ∈ Sv) (h : uD ws s = "sum") (h1 : uD ws (s + 1) = "(") (h2 : uD ws (s + 2) = m) (h3 : uD ws (s + 3) = "(") (hf : uD ws (s + 4) = f) (hff : if m = "told" then f = "raw" else f ∈ fW) (t : Z9 ws (s + 5) a b sz) (e1 : uD ws (s + 10) = ")") (e2 : uD ws (s + 11) = ")") :
 vH [.ref h0.length] (TH h0 sz ws ps (s : Nat)) = .ok (.tup [.str "leaf", .str "each", .str m, .str f, .int a, .int b]) [] (TH h0 sz ws ps ((s + 12 : Nat) : Int)) := by
 have g := aee m hm
 have k1 := wD (h0 := h0) (sz := sz) (ws := ws) (ps := ps) (s := s) (al := ["events", "sum", "first", "last", "change", "rises"]) (by rw [h]; exact ajc _ ai8)
 have k2 := wD (h0 := h0) (sz := sz) (ws := ws) (ps := ps) (s := s + 1) (al := ["("]) (by rw [h1]; exact ai8)
 have k3 := wD (h0 := h0) (sz := sz) (ws := ws) (ps := ps) (s := s + 2) (al := Sv) (by rw [h2]; exact hm)
 have k4 := wD (h0 := h0) (sz := sz) (ws := ws) (ps := ps) (s := s + 3) (al := ["("]) (by rw [h3]; exact ai8)
 rw [h] at k1
 rw [h2] at k3
 have c1 : ∀ h : Hh, uE h (.str "sum") (.str "events") = some false := fun h => (Gh (by decide +kernel) (by decide +kernel)).trans (congrArg some (decide_eq_false (by decide +kernel)))
 have c2 : ∀ h : Hh, uE h (.str "sum") (.str "sum") = some true := fun h => (Gh (by decide +kernel) (by decide +kernel)).trans (congrArg some (decide_eq_true rfl))
 have c3 : ∀ h : Hh, uE h (.str m) (.str "told") = some (decide (m = "told")) := fun h => Gh g (by decide +kernel)
 by_cases ht : m = "told"
 · rw [if_pos ht] at hff
   have k5 := Rr (h0 := h0) (ps := ps) (kind := "each") (m := m) (al := ["raw"]) hf (by rw [hff]; exact ai8) (by decide) t e1 e2
   have d1 : decide (m = "told") = true := decide_eq_true ht
   simp only [Sv, aiR, aiT] at k1 k2 k3 k4 k5
   apply Wp.eq
   simp only [↓ou, ↓mU, ↓wp_bind, ↓oM, ↓tZ, ↓sE, ↓oN, ↓iH, ↓nM, ↓oO, ↓rQ, ↓rR, ↓sG, ↓oR, ↓iI, ↓oU, ↓sH, ↓iJ, ↓iK, ↓oV, ↓cU, ↓sJ, ↓cV, ↓cW, ↓oW, ↓oX, ↓iQ, ↓sO, ↓qd, ↓iT, ↓oY, ↓sS, ↓ig, ↓iU, ↓iV, ↓m7, ↓oZ, ↓iW, ↓nO, ↓o5, ↓o7, ↓iY, ↓gU, ↓sU, ↓il, ↓cX, ↓bA, ↓cY, ↓o8, ↓jc, ↓je, ↓jf, ↓jh, ↓ji, ↓jk, ↓jm, ↓bB, ↓jn, ↓jo, ↓jr, ↓j6, ↓qp, ↓jt, ↓ir, ↓ju, ↓jV, ↓nY, ↓nZ, ↓nu, ↓nA, gM, oE, oF, nQ, ie, ue, uf, gR, oG, nH, oH, iG, oJ, oK, nJ, mX, mY, gY, ni, cZ, jP, pX, iZ, ↓km, ↓kE, ↓eO, ↓qu, ↓tK, ↓kJ, ↓kW, ↓oA, ↓lB, ↓lC, ↓qG, ↓qH, ↓qI, ↓qL, ↓lF, ↓eV, ↓tL, ↓eX, ↓lG, ↓lL, ↓lM, ↓fG, ↓fH, ↓fJ, ↓bY, ↓qM, ↓lN, ↓fL, ↓fM, ↓qN, ↓lU, ↓fO, ↓fP, ↓fQ, ↓qO, ↓qP, ↓qQ, ↓qR, ↓lX, ↓fU, ↓bZ, ↓cA, ↓qY, ↓qZ, ↓fY, ↓rA, ↓lZ, ↓mD, ↓mF, ↓fZ, ↓gh, ↓gj, ↓cG, ↓mH, ↓gA, ↓rB, ↓gG, jw, pD, o9, sV, jx, pF, jy, fz_non, jA, pG, ph, sW, pq, sX, jB, pH, jC, pJ, jD, pK, pA, sY, pB, tD, pC, tE, gQ, mV, m9, mW, di, jE, iw, jF, dw, pM, jG, jH, ul, uo, uv, uw, ux, uz, uA, tG, mK, rW, dB, dC, jJ, dD, dF, bD, dG, dH, bF, dI, nR, pN, pO, pP, jK, jL, dJ, tH, jM, pQ, jN, jO, pU, pW, rY, rZ, dR, jQ, dU, bO, dW, bQ, jR, dX, bR, dY, dZ, jT, jU, uh, uR, u6, bU, bV, eE, j7, d8, bT, pZ, qb, jW, d9, jY, jZ, j5, qm, jX, qj, ql, ai3, ai4, ai5, aiV, Int.reduceToNat, bG, bH, dM, bJ, bK, dN, dO, bL, bM, eQ, eU, lD, qJ, qK, Option.isSome_some, Option.isSome_none, lE, Int.reduceEq, beq_self_eq_true, cQ, cR, eY, lH, eZ, fj, fu, lJ, lK, fB, fD, fK, bW, bz, lO, lQ, lV, lW, fV, cC, cD, lY, fX, qT, tM, qU, qW, qX, uB, uC, gq, mG, nj, nU, iy, nW, j8, kh, eG, j9, kY, qw, kZ, lg, qC, lu, lw, lA, qD, qF, startF, aiR, aiT, aiY, ai2, aiS, aiU, ai0, ai1, ai6, ai7, aiZ, aiW, aiX, Nat.reduceAdd, Nat.reduceSub, Nat.reduceLeDiff, Nat.reduceLT, Nat.zero_add, and_true, true_and, and_self, false_and, and_false, not_true_eq_false, not_false_eq_true, eq_self, decide_true, decide_false, Bool.not_true, Bool.not_false, Bool.true_and, Bool.false_and, Bool.and_true, Bool.and_false, Bool.or_true, Bool.or_false, Bool.true_or, Bool.false_or, Option.map_some, Option.map_none, Int.toNat_natCast, ↓reduceIte, Bool.false_eq_true, reduceCtorEq, Int.cast_ofNat_Int, Int.reduceLT, Int.reduceLE, Int.reduceAdd, Int.reduceSub, Int.reduceNeg, Int.natCast_zero, pY, and_assoc, ↓wu, ↓ww, ↓wy, ↓wz, ↓wA, ↓wB, ↓yr, ↓aU, aF, aG, aV, aP, aM, aW, aH, aX, aQ, az, aN, aY, aZ, au, ↓Hq, zP, yZ, Dd, k1, k2, k3, k4, k5, c1, c2, c3, d1]
 · rw [if_neg ht] at hff
   have k5 := Rr (h0 := h0) (ps := ps) (kind := "each") (m := m) (al := fW) hf hff (by decide) t e1 e2
   have d1 : decide (m = "told") = false := decide_eq_false ht
   simp only [Sv, fW, aiR, aiT] at k1 k2 k3 k4 k5
   apply Wp.eq
   simp only [↓ou, ↓mU, ↓wp_bind, ↓oM, ↓tZ, ↓sE, ↓oN, ↓iH, ↓nM, ↓oO, ↓rQ, ↓rR, ↓sG, ↓oR, ↓iI, ↓oU, ↓sH, ↓iJ, ↓iK, ↓oV, ↓cU, ↓sJ, ↓cV, ↓cW, ↓oW, ↓oX, ↓iQ, ↓sO, ↓qd, ↓iT, ↓oY, ↓sS, ↓ig, ↓iU, ↓iV, ↓m7, ↓oZ, ↓iW, ↓nO, ↓o5, ↓o7, ↓iY, ↓gU, ↓sU, ↓il, ↓cX, ↓bA, ↓cY, ↓o8, ↓jc, ↓je, ↓jf, ↓jh, ↓ji, ↓jk, ↓jm, ↓bB, ↓jn, ↓jo, ↓jr, ↓j6, ↓qp, ↓jt, ↓ir, ↓ju, ↓jV, ↓nY, ↓nZ, ↓nu, ↓nA, gM, oE, oF, nQ, ie, ue, uf, gR, oG, nH, oH, iG, oJ, oK, nJ, mX, mY, gY, ni, cZ, jP, pX, iZ, ↓km, ↓kE, ↓eO, ↓qu, ↓tK, ↓kJ, ↓kW, ↓oA, ↓lB, ↓lC, ↓qG, ↓qH, ↓qI, ↓qL, ↓lF, ↓eV, ↓tL, ↓eX, ↓lG, ↓lL, ↓lM, ↓fG, ↓fH, ↓fJ, ↓bY, ↓qM, ↓lN, ↓fL, ↓fM, ↓qN, ↓lU, ↓fO, ↓fP, ↓fQ, ↓qO, ↓qP, ↓qQ, ↓qR, ↓lX, ↓fU, ↓bZ, ↓cA, ↓qY, ↓qZ, ↓fY, ↓rA, ↓lZ, ↓mD, ↓mF, ↓fZ, ↓gh, ↓gj, ↓cG, ↓mH, ↓gA, ↓rB, ↓gG, jw, pD, o9, sV, jx, pF, jy, fz_non, jA, pG, ph, sW, pq, sX, jB, pH, jC, pJ, jD, pK, pA, sY, pB, tD, pC, tE, gQ, mV, m9, mW, di, jE, iw, jF, dw, pM, jG, jH, ul, uo, uv, uw, ux, uz, uA, tG, mK, rW, dB, dC, jJ, dD, dF, bD, dG, dH, bF, dI, nR, pN, pO, pP, jK, jL, dJ, tH, jM, pQ, jN, jO, pU, pW, rY, rZ, dR, jQ, dU, bO, dW, bQ, jR, dX, bR, dY, dZ, jT, jU, uh, uR, u6, bU, bV, eE, j7, d8, bT, pZ, qb, jW, d9, jY, jZ, j5, qm, jX, qj, ql, ai3, ai4, ai5, aiV, Int.reduceToNat, bG, bH, dM, bJ, bK, dN, dO, bL, bM, eQ, eU, lD, qJ, qK, Option.isSome_some, Option.isSome_none, lE, Int.reduceEq, beq_self_eq_true, cQ, cR, eY, lH, eZ, fj, fu, lJ, lK, fB, fD, fK, bW, bz, lO, lQ, lV, lW, fV, cC, cD, lY, fX, qT, tM, qU, qW, qX, uB, uC, gq, mG, nj, nU, iy, nW, j8, kh, eG, j9, kY, qw, kZ, lg, qC, lu, lw, lA, qD, qF, startF, aiR, aiT, aiY, ai2, aiS, aiU, ai0, ai1, ai6, ai7, aiZ, aiW, aiX, Nat.reduceAdd, Nat.reduceSub, Nat.reduceLeDiff, Nat.reduceLT, Nat.zero_add, and_true, true_and, and_self, false_and, and_false, not_true_eq_false, not_false_eq_true, eq_self, decide_true, decide_false, Bool.not_true, Bool.not_false, Bool.true_and, Bool.false_and, Bool.and_true, Bool.and_false, Bool.or_true, Bool.or_false, Bool.true_or, Bool.false_or, Option.map_some, Option.map_none, Int.toNat_natCast, ↓reduceIte, Bool.false_eq_true, reduceCtorEq, Int.cast_ofNat_Int, Int.reduceLT, Int.reduceLE, Int.reduceAdd, Int.reduceSub, Int.reduceNeg, Int.natCast_zero, pY, and_assoc, ↓wu, ↓ww, ↓wy, ↓wz, ↓wA, ↓wB, ↓yr, ↓aU, aF, aG, aV, aP, aM, aW, aH, aX, aQ, az, aN, aY, aZ, au, ↓Hq, zP, yZ, Dd, k1, k2, k3, k4, k5, c1, c2, c3, d1]
end
end L
namespace L
open PySem PySem.Spec L2 Pk
section
variable {h0 : Hh} {sz : Int} {ws : List Str} {ps : List Int} {s k : Nat} {l : List D}
structure Fst (w : Str) : Prop where
 g : zU w = true
 n : w.length ≤ 1000
 o : w ≠ "("
 a : w ≠ "abs"
 m : w ∉ (["max", "min"] : List Str)
 d : w ≠ "-"
 s : Ss w = false
theorem acX (hw : Fst (uD ws s)) (hl : vH [.ref h0.length] (TH h0 sz ws ps (s : Nat)) = .ok (.tup l) [] (TH h0 sz ws ps (k : Nat))) : zg [.ref h0.length] (TH h0 sz ws ps (s : Nat)) = .ok (.tup l) [] (TH h0 sz ws ps (k : Nat)) := by
 have k1 := Ka (h0 := h0) (sz := sz) (ws := ws) (ps := ps) (s := s) (w := "(") hw.g (by decide +kernel)
 have k2 := Ka (h0 := h0) (sz := sz) (ws := ws) (ps := ps) (s := s) (w := "abs") hw.g (by decide +kernel)
 rw [if_neg hw.o, decide_eq_false hw.o] at k1
 rw [if_neg hw.a, decide_eq_false hw.a] at k2
 have u := Je (h0 := h0) (sz := sz) (ws := ws) (ps := ps) (s := s)
 have c1 : ∀ h : Hh, Aj h (.str (uD ws s)) (.tup [.str "max", .str "min"]) = some false := fun h => (ab1 (al := ["max", "min"])).trans (congrArg some (decide_eq_false hw.m))
 apply Wp.eq
 simp only [↓ou, ↓mU, ↓wp_bind, ↓oM, ↓tZ, ↓sE, ↓oN, ↓iH, ↓nM, ↓oO, ↓rQ, ↓rR, ↓sG, ↓oR, ↓iI, ↓oU, ↓sH, ↓iJ, ↓iK, ↓oV, ↓cU, ↓sJ, ↓cV, ↓cW, ↓oW, ↓oX, ↓iQ, ↓sO, ↓qd, ↓iT, ↓oY, ↓sS, ↓ig, ↓iU, ↓iV, ↓m7, ↓oZ, ↓iW, ↓nO, ↓o5, ↓o7, ↓iY, ↓gU, ↓sU, ↓il, ↓cX, ↓bA, ↓cY, ↓o8, ↓jc, ↓je, ↓jf, ↓jh, ↓ji, ↓jk, ↓jm, ↓bB, ↓jn, ↓jo, ↓jr, ↓j6, ↓qp, ↓jt, ↓ir, ↓ju, ↓jV, ↓nY, ↓nZ, ↓nu, ↓nA, gM, oE, oF, nQ, ie, ue, uf, gR, oG, nH, oH, iG, oJ, oK, nJ, mX, mY, gY, ni, cZ, jP, pX, iZ, ↓km, ↓kE, ↓eO, ↓qu, ↓tK, ↓kJ, ↓kW, ↓oA, ↓lB, ↓lC, ↓qG, ↓qH, ↓qI, ↓qL, ↓lF, ↓eV, ↓tL, ↓eX, ↓lG, ↓lL, ↓lM, ↓fG, ↓fH, ↓fJ, ↓bY, ↓qM, ↓lN, ↓fL, ↓fM, ↓qN, ↓lU, ↓fO, ↓fP, ↓fQ, ↓qO, ↓qP, ↓qQ, ↓qR, ↓lX, ↓fU, ↓bZ, ↓cA, ↓qY, ↓qZ, ↓fY, ↓rA, ↓lZ, ↓mD, ↓mF, ↓fZ, ↓gh, ↓gj, ↓cG, ↓mH, ↓gA, ↓rB, ↓gG, jw, pD, o9, sV, jx, pF, jy, fz_non, jA, pG, ph, sW, pq, sX, jB, pH, jC, pJ, jD, pK, pA, sY, pB, tD, pC, tE, gQ, mV, m9, mW, di, jE, iw, jF, dw, pM, jG, jH, ul, uo, uv, uw, ux, uz, uA, tG, mK, rW, dB, dC, jJ, dD, dF, bD, dG, dH, bF, dI, nR, pN, pO, pP, jK, jL, dJ, tH, jM, pQ, jN, jO, pU, pW, rY, rZ, dR, jQ, dU, bO, dW, bQ, jR, dX, bR, dY, dZ, jT, jU, uh, uR, u6, bU, bV, eE, j7, d8, bT, pZ, qb, jW, d9, jY, jZ, j5, qm, jX, qj, ql, ai3, ai4, ai5, aiV, Int.reduceToNat, bG, bH, dM, bJ, bK, dN, dO, bL, bM, eQ, eU, lD, qJ, qK, Option.isSome_some, Option.isSome_none, lE, Int.reduceEq, beq_self_eq_true, cQ, cR, eY, lH, eZ, fj, fu, lJ, lK, fB, fD, fK, bW, bz, lO, lQ, lV, lW, fV, cC, cD, lY, fX, qT, tM, qU, qW, qX, uB, uC, gq, mG, nj, nU, iy, nW, j8, kh, eG, j9, kY, qw, kZ, lg, qC, lu, lw, lA, qD, qF, startF, aiR, aiT, aiY, ai2, aiS, aiU, ai0, ai1, ai6, ai7, aiZ, aiW, aiX, Nat.reduceAdd, Nat.reduceSub, Nat.reduceLeDiff, Nat.reduceLT, Nat.zero_add, and_true, true_and, and_self, false_and, and_false, not_true_eq_false, not_false_eq_true, eq_self, decide_true, decide_false, Bool.not_true, Bool.not_false, Bool.true_and, Bool.false_and, Bool.and_true, Bool.and_false, Bool.or_true, Bool.or_false, Bool.true_or, Bool.false_or, Option.map_some, Option.map_none, Int.toNat_natCast, ↓reduceIte, Bool.false_eq_true, reduceCtorEq, Int.cast_ofNat_Int, Int.reduceLT, Int.reduceLE, Int.reduceAdd, Int.reduceSub, Int.reduceNeg, Int.natCast_zero, pY, and_assoc, ↓wu, ↓ww, ↓wy, ↓wz, ↓wA, ↓wB, ↓yr, ↓WR, ↓WY, ↓W0, ↓W3, ↓W4, ↓W6, ↓W7, ↓W8, ↓aam, ↓aU, aF, aG, aV, aP, aM, aW, aH, aX, aQ, az, aN, aY, aZ, au, ↓Z5, zP, k1, k2, u, c1, hl]
theorem aaa (hw : Fst (uD ws s)) (hl : vH [.ref h0.length] (TH h0 sz ws ps (s : Nat)) = .ok (.tup l) [] (TH h0 sz ws ps (k : Nat))) : xf [.ref h0.length, .bl false] (TH h0 sz ws ps (s : Nat)) = .ok (.tup l) [] (TH h0 sz ws ps (k : Nat)) := by
 have k1 := Ro (h0 := h0) (sz := sz) (ws := ws) (ps := ps) (s := s) hw.g hw.n
 rw [hw.s] at k1
 have k2 := acX hw hl
 apply Wp.eq
 simp only [↓ou, ↓mU, ↓wp_bind, ↓oM, ↓tZ, ↓sE, ↓oN, ↓iH, ↓nM, ↓oO, ↓rQ, ↓rR, ↓sG, ↓oR, ↓iI, ↓oU, ↓sH, ↓iJ, ↓iK, ↓oV, ↓cU, ↓sJ, ↓cV, ↓cW, ↓oW, ↓oX, ↓iQ, ↓sO, ↓qd, ↓iT, ↓oY, ↓sS, ↓ig, ↓iU, ↓iV, ↓m7, ↓oZ, ↓iW, ↓nO, ↓o5, ↓o7, ↓iY, ↓gU, ↓sU, ↓il, ↓cX, ↓bA, ↓cY, ↓o8, ↓jc, ↓je, ↓jf, ↓jh, ↓ji, ↓jk, ↓jm, ↓bB, ↓jn, ↓jo, ↓jr, ↓j6, ↓qp, ↓jt, ↓ir, ↓ju, ↓jV, ↓nY, ↓nZ, ↓nu, ↓nA, gM, oE, oF, nQ, ie, ue, uf, gR, oG, nH, oH, iG, oJ, oK, nJ, mX, mY, gY, ni, cZ, jP, pX, iZ, ↓km, ↓kE, ↓eO, ↓qu, ↓tK, ↓kJ, ↓kW, ↓oA, ↓lB, ↓lC, ↓qG, ↓qH, ↓qI, ↓qL, ↓lF, ↓eV, ↓tL, ↓eX, ↓lG, ↓lL, ↓lM, ↓fG, ↓fH, ↓fJ, ↓bY, ↓qM, ↓lN, ↓fL, ↓fM, ↓qN, ↓lU, ↓fO, ↓fP, ↓fQ, ↓qO, ↓qP, ↓qQ, ↓qR, ↓lX, ↓fU, ↓bZ, ↓cA, ↓qY, ↓qZ, ↓fY, ↓rA, ↓lZ, ↓mD, ↓mF, ↓fZ, ↓gh, ↓gj, ↓cG, ↓mH, ↓gA, ↓rB, ↓gG, jw, pD, o9, sV, jx, pF, jy, fz_non, jA, pG, ph, sW, pq, sX, jB, pH, jC, pJ, jD, pK, pA, sY, pB, tD, pC, tE, gQ, mV, m9, mW, di, jE, iw, jF, dw, pM, jG, jH, ul, uo, uv, uw, ux, uz, uA, tG, mK, rW, dB, dC, jJ, dD, dF, bD, dG, dH, bF, dI, nR, pN, pO, pP, jK, jL, dJ, tH, jM, pQ, jN, jO, pU, pW, rY, rZ, dR, jQ, dU, bO, dW, bQ, jR, dX, bR, dY, dZ, jT, jU, uh, uR, u6, bU, bV, eE, j7, d8, bT, pZ, qb, jW, d9, jY, jZ, j5, qm, jX, qj, ql, ai3, ai4, ai5, aiV, Int.reduceToNat, bG, bH, dM, bJ, bK, dN, dO, bL, bM, eQ, eU, lD, qJ, qK, Option.isSome_some, Option.isSome_none, lE, Int.reduceEq, beq_self_eq_true, cQ, cR, eY, lH, eZ, fj, fu, lJ, lK, fB, fD, fK, bW, bz, lO, lQ, lV, lW, fV, cC, cD, lY, fX, qT, tM, qU, qW, qX, uB, uC, gq, mG, nj, nU, iy, nW, j8, kh, eG, j9, kY, qw, kZ, lg, qC, lu, lw, lA, qD, qF, startF, aiR, aiT, aiY, ai2, aiS, aiU, ai0, ai1, ai6, ai7, aiZ, aiW, aiX, Nat.reduceAdd, Nat.reduceSub, Nat.reduceLeDiff, Nat.reduceLT, Nat.zero_add, and_true, true_and, and_self, false_and, and_false, not_true_eq_false, not_false_eq_true, eq_self, decide_true, decide_false, Bool.not_true, Bool.not_false, Bool.true_and, Bool.false_and, Bool.and_true, Bool.and_false, Bool.or_true, Bool.or_false, Bool.true_or, Bool.false_or, Option.map_some, Option.map_none, Int.toNat_natCast, ↓reduceIte, Bool.false_eq_true, reduceCtorEq, Int.cast_ofNat_Int, Int.reduceLT, Int.reduceLE, Int.reduceAdd, Int.reduceSub, Int.reduceNeg, Int.natCast_zero, pY, and_assoc, ↓wu, ↓ww, ↓wy, ↓wz, ↓wA, ↓wB, ↓yr, ↓Tq, ↓Tr, ↓Tt, ↓W9, ↓aU, aF, aG, aV, aP, aM, aW, aH, aX, aQ, az, aN, aY, aZ, au, ↓VG, zP, k1, k2]
theorem ab3 (hw : Fst (uD ws s)) (hk : uD ws k ∉ (["+", "-"] : List Str)) (hl : vH [.ref h0.length] (TH h0 sz ws ps (s : Nat)) = .ok (.tup l) [] (TH h0 sz ws ps (k : Nat))) : Ai [.ref h0.length] (TH h0 sz ws ps (s : Nat)) = .ok (.tup l) [] (TH h0 sz ws ps (k : Nat)) := by
 have k1 := Ka (h0 := h0) (sz := sz) (ws := ws) (ps := ps) (s := s) (w := "-") hw.g (by decide +kernel)
 rw [if_neg hw.d, decide_eq_false hw.d] at k1
 have k2 := aaa hw hl
 have u := Je (h0 := h0) (sz := sz) (ws := ws) (ps := ps) (s := k)
 have c1 : ∀ h : Hh, Aj h (.str (uD ws k)) (.tup [.str "+", .str "-"]) = some false := fun h => (ab1 (al := ["+", "-"])).trans (congrArg some (decide_eq_false hk))
 apply Wp.eq
 simp only [↓ou, ↓mU, ↓wp_bind, ↓oM, ↓tZ, ↓sE, ↓oN, ↓iH, ↓nM, ↓oO, ↓rQ, ↓rR, ↓sG, ↓oR, ↓iI, ↓oU, ↓sH, ↓iJ, ↓iK, ↓oV, ↓cU, ↓sJ, ↓cV, ↓cW, ↓oW, ↓oX, ↓iQ, ↓sO, ↓qd, ↓iT, ↓oY, ↓sS, ↓ig, ↓iU, ↓iV, ↓m7, ↓oZ, ↓iW, ↓nO, ↓o5, ↓o7, ↓iY, ↓gU, ↓sU, ↓il, ↓cX, ↓bA, ↓cY, ↓o8, ↓jc, ↓je, ↓jf, ↓jh, ↓ji, ↓jk, ↓jm, ↓bB, ↓jn, ↓jo, ↓jr, ↓j6, ↓qp, ↓jt, ↓ir, ↓ju, ↓jV, ↓nY, ↓nZ, ↓nu, ↓nA, gM, oE, oF, nQ, ie, ue, uf, gR, oG, nH, oH, iG, oJ, oK, nJ, mX, mY, gY, ni, cZ, jP, pX, iZ, ↓km, ↓kE, ↓eO, ↓qu, ↓tK, ↓kJ, ↓kW, ↓oA, ↓lB, ↓lC, ↓qG, ↓qH, ↓qI, ↓qL, ↓lF, ↓eV, ↓tL, ↓eX, ↓lG, ↓lL, ↓lM, ↓fG, ↓fH, ↓fJ, ↓bY, ↓qM, ↓lN, ↓fL, ↓fM, ↓qN, ↓lU, ↓fO, ↓fP, ↓fQ, ↓qO, ↓qP, ↓qQ, ↓qR, ↓lX, ↓fU, ↓bZ, ↓cA, ↓qY, ↓qZ, ↓fY, ↓rA, ↓lZ, ↓mD, ↓mF, ↓fZ, ↓gh, ↓gj, ↓cG, ↓mH, ↓gA, ↓rB, ↓gG, jw, pD, o9, sV, jx, pF, jy, fz_non, jA, pG, ph, sW, pq, sX, jB, pH, jC, pJ, jD, pK, pA, sY, pB, tD, pC, tE, gQ, mV, m9, mW, di, jE, iw, jF, dw, pM, jG, jH, ul, uo, uv, uw, ux, uz, uA, tG, mK, rW, dB, dC, jJ, dD, dF, bD, dG, dH, bF, dI, nR, pN, pO, pP, jK, jL, dJ, tH, jM, pQ, jN, jO, pU, pW, rY, rZ, dR, jQ, dU, bO, dW, bQ, jR, dX, bR, dY, dZ, jT, jU, uh, uR, u6, bU, bV, eE, j7, d8, bT, pZ, qb, jW, d9, jY, jZ, j5, qm, jX, qj, ql, ai3, ai4, ai5, aiV, Int.reduceToNat, bG, bH, dM, bJ, bK, dN, dO, bL, bM, eQ, eU, lD, qJ, qK, Option.isSome_some, Option.isSome_none, lE, Int.reduceEq, beq_self_eq_true, cQ, cR, eY, lH, eZ, fj, fu, lJ, lK, fB, fD, fK, bW, bz, lO, lQ, lV, lW, fV, cC, cD, lY, fX, qT, tM, qU, qW, qX, uB, uC, gq, mG, nj, nU, iy, nW, j8, kh, eG, j9, kY, qw, kZ, lg, qC, lu, lw, lA, qD, qF, startF, aiR, aiT, aiY, ai2, aiS, aiU, ai0, ai1, ai6, ai7, aiZ, aiW, aiX, Nat.reduceAdd, Nat.reduceSub, Nat.reduceLeDiff, Nat.reduceLT, Nat.zero_add, and_true, true_and, and_self, false_and, and_false, not_true_eq_false, not_false_eq_true, eq_self, decide_true, decide_false, Bool.not_true, Bool.not_false, Bool.true_and, Bool.false_and, Bool.and_true, Bool.and_false, Bool.or_true, Bool.or_false, Bool.true_or, Bool.false_or, Option.map_some, Option.map_none, Int.toNat_natCast, ↓reduceIte, Bool.false_eq_true, reduceCtorEq, Int.cast_ofNat_Int, Int.reduceLT, Int.reduceLE, Int.reduceAdd, Int.reduceSub, Int.reduceNeg, Int.natCast_zero, pY, and_assoc, ↓wu, ↓ww, ↓wy, ↓wz, ↓wA, ↓wB, ↓yr, ↓Jc, ↓Jd, ↓Nh, ↓aU, aF, aG, aV, aP, aM, aW, aH, aX, aQ, az, aN, aY, aZ, au, ↓Z6, zP, k1, k2]
 rw [show (60 : Nat) = 59 + 1 from rfl, abQ]
 simp only [↓ou, ↓mU, ↓wp_bind, ↓oM, ↓tZ, ↓sE, ↓oN, ↓iH, ↓nM, ↓oO, ↓rQ, ↓rR, ↓sG, ↓oR, ↓iI, ↓oU, ↓sH, ↓iJ, ↓iK, ↓oV, ↓cU, ↓sJ, ↓cV, ↓cW, ↓oW, ↓oX, ↓iQ, ↓sO, ↓qd, ↓iT, ↓oY, ↓sS, ↓ig, ↓iU, ↓iV, ↓m7, ↓oZ, ↓iW, ↓nO, ↓o5, ↓o7, ↓iY, ↓gU, ↓sU, ↓il, ↓cX, ↓bA, ↓cY, ↓o8, ↓jc, ↓je, ↓jf, ↓jh, ↓ji, ↓jk, ↓jm, ↓bB, ↓jn, ↓jo, ↓jr, ↓j6, ↓qp, ↓jt, ↓ir, ↓ju, ↓jV, ↓nY, ↓nZ, ↓nu, ↓nA, gM, oE, oF, nQ, ie, ue, uf, gR, oG, nH, oH, iG, oJ, oK, nJ, mX, mY, gY, ni, cZ, jP, pX, iZ, ↓km, ↓kE, ↓eO, ↓qu, ↓tK, ↓kJ, ↓kW, ↓oA, ↓lB, ↓lC, ↓qG, ↓qH, ↓qI, ↓qL, ↓lF, ↓eV, ↓tL, ↓eX, ↓lG, ↓lL, ↓lM, ↓fG, ↓fH, ↓fJ, ↓bY, ↓qM, ↓lN, ↓fL, ↓fM, ↓qN, ↓lU, ↓fO, ↓fP, ↓fQ, ↓qO, ↓qP, ↓qQ, ↓qR, ↓lX, ↓fU, ↓bZ, ↓cA, ↓qY, ↓qZ, ↓fY, ↓rA, ↓lZ, ↓mD, ↓mF, ↓fZ, ↓gh, ↓gj, ↓cG, ↓mH, ↓gA, ↓rB, ↓gG, jw, pD, o9, sV, jx, pF, jy, fz_non, jA, pG, ph, sW, pq, sX, jB, pH, jC, pJ, jD, pK, pA, sY, pB, tD, pC, tE, gQ, mV, m9, mW, di, jE, iw, jF, dw, pM, jG, jH, ul, uo, uv, uw, ux, uz, uA, tG, mK, rW, dB, dC, jJ, dD, dF, bD, dG, dH, bF, dI, nR, pN, pO, pP, jK, jL, dJ, tH, jM, pQ, jN, jO, pU, pW, rY, rZ, dR, jQ, dU, bO, dW, bQ, jR, dX, bR, dY, dZ, jT, jU, uh, uR, u6, bU, bV, eE, j7, d8, bT, pZ, qb, jW, d9, jY, jZ, j5, qm, jX, qj, ql, ai3, ai4, ai5, aiV, Int.reduceToNat, bG, bH, dM, bJ, bK, dN, dO, bL, bM, eQ, eU, lD, qJ, qK, Option.isSome_some, Option.isSome_none, lE, Int.reduceEq, beq_self_eq_true, cQ, cR, eY, lH, eZ, fj, fu, lJ, lK, fB, fD, fK, bW, bz, lO, lQ, lV, lW, fV, cC, cD, lY, fX, qT, tM, qU, qW, qX, uB, uC, gq, mG, nj, nU, iy, nW, j8, kh, eG, j9, kY, qw, kZ, lg, qC, lu, lw, lA, qD, qF, startF, aiR, aiT, aiY, ai2, aiS, aiU, ai0, ai1, ai6, ai7, aiZ, aiW, aiX, Nat.reduceAdd, Nat.reduceSub, Nat.reduceLeDiff, Nat.reduceLT, Nat.zero_add, and_true, true_and, and_self, false_and, and_false, not_true_eq_false, not_false_eq_true, eq_self, decide_true, decide_false, Bool.not_true, Bool.not_false, Bool.true_and, Bool.false_and, Bool.and_true, Bool.and_false, Bool.or_true, Bool.or_false, Bool.true_or, Bool.false_or, Option.map_some, Option.map_none, Int.toNat_natCast, ↓reduceIte, Bool.false_eq_true, reduceCtorEq, Int.cast_ofNat_Int, Int.reduceLT, Int.reduceLE, Int.reduceAdd, Int.reduceSub, Int.reduceNeg, Int.natCast_zero, pY, and_assoc, ↓wu, ↓ww, ↓wy, ↓wz, ↓wA, ↓wB, ↓yr, ↓Jc, ↓Jd, ↓Nh, ↓aU, aF, aG, aV, aP, aM, aW, aH, aX, aQ, az, aN, aY, aZ, au, zP, u, c1]
theorem ab4 {z : Str} (hz : z.length ≤ 59) (hg : zU z = true) (hw : Fst (uD ((TK z).map (·.1)) 0)) (hk : uD ((TK z).map (·.1)) k = "")
 (hl : ∀ ps, vH [.ref h0.length] (TH h0 sz ((TK z).map (·.1)) ps (0 : Nat)) = .ok (.tup l) [] (TH h0 sz ((TK z).map (·.1)) ps (k : Nat))) :
 ∃ h', Ko [.str z, .int sz] h0 = .ok (.tup l) [] (h0 ++ h') := by
 have k1 := acT (h0 := h0) (sz := sz) hz hg
 generalize (TK z).map (·.1) = ws at *
 generalize (TK z).map (fun p => (p.2 : Int)) ++ [((cs z).length : Int)] = ps at k1
 have k2 := ab3 (s := 0) hw (by rw [hk]; decide +kernel) (hl ps)
 have u := Je (h0 := h0) (sz := sz) (ws := ws) (ps := ps) (s := k)
 rw [hk] at u
 have c1 : ∀ h : Hh, uE h (.str "") (.str "") = some true := fun h => (Gh (by decide +kernel) (by decide +kernel)).trans (congrArg some (decide_eq_true rfl))
 have k2' : Ai [.ref h0.length] (TH h0 sz ws ps 0) = .ok (.tup l) [] (TH h0 sz ws ps (k : Nat)) := k2
 refine ⟨_, Wp.eq (?_ : Wp _ (fun d fr h => d = _ ∧ fr = _ ∧ h = h0 ++ [.no 0 [.int sz, .ref (h0.length + 1), .ref (h0.length + 2), .int (k : Nat)], .nl (ws.map .str), .nl (ps.map .int)]) wU)⟩
 simp only [↓ou, ↓mU, ↓wp_bind, ↓oM, ↓tZ, ↓sE, ↓oN, ↓iH, ↓nM, ↓oO, ↓rQ, ↓rR, ↓sG, ↓oR, ↓iI, ↓oU, ↓sH, ↓iJ, ↓iK, ↓oV, ↓cU, ↓sJ, ↓cV, ↓cW, ↓oW, ↓oX, ↓iQ, ↓sO, ↓qd, ↓iT, ↓oY, ↓sS, ↓ig, ↓iU, ↓iV, ↓m7, ↓oZ, ↓iW, ↓nO, ↓o5, ↓o7, ↓iY, ↓gU, ↓sU, ↓il, ↓cX, ↓bA, ↓cY, ↓o8, ↓jc, ↓je, ↓jf, ↓jh, ↓ji, ↓jk, ↓jm, ↓bB, ↓jn, ↓jo, ↓jr, ↓j6, ↓qp, ↓jt, ↓ir, ↓ju, ↓jV, ↓nY, ↓nZ, ↓nu, ↓nA, gM, oE, oF, nQ, ie, ue, uf, gR, oG, nH, oH, iG, oJ, oK, nJ, mX, mY, gY, ni, cZ, jP, pX, iZ, ↓km, ↓kE, ↓eO, ↓qu, ↓tK, ↓kJ, ↓kW, ↓oA, ↓lB, ↓lC, ↓qG, ↓qH, ↓qI, ↓qL, ↓lF, ↓eV, ↓tL, ↓eX, ↓lG, ↓lL, ↓lM, ↓fG, ↓fH, ↓fJ, ↓bY, ↓qM, ↓lN, ↓fL, ↓fM, ↓qN, ↓lU, ↓fO, ↓fP, ↓fQ, ↓qO, ↓qP, ↓qQ, ↓qR, ↓lX, ↓fU, ↓bZ, ↓cA, ↓qY, ↓qZ, ↓fY, ↓rA, ↓lZ, ↓mD, ↓mF, ↓fZ, ↓gh, ↓gj, ↓cG, ↓mH, ↓gA, ↓rB, ↓gG, jw, pD, o9, sV, jx, pF, jy, fz_non, jA, pG, ph, sW, pq, sX, jB, pH, jC, pJ, jD, pK, pA, sY, pB, tD, pC, tE, gQ, mV, m9, mW, di, jE, iw, jF, dw, pM, jG, jH, ul, uo, uv, uw, ux, uz, uA, tG, mK, rW, dB, dC, jJ, dD, dF, bD, dG, dH, bF, dI, nR, pN, pO, pP, jK, jL, dJ, tH, jM, pQ, jN, jO, pU, pW, rY, rZ, dR, jQ, dU, bO, dW, bQ, jR, dX, bR, dY, dZ, jT, jU, uh, uR, u6, bU, bV, eE, j7, d8, bT, pZ, qb, jW, d9, jY, jZ, j5, qm, jX, qj, ql, ai3, ai4, ai5, aiV, Int.reduceToNat, bG, bH, dM, bJ, bK, dN, dO, bL, bM, eQ, eU, lD, qJ, qK, Option.isSome_some, Option.isSome_none, lE, Int.reduceEq, beq_self_eq_true, cQ, cR, eY, lH, eZ, fj, fu, lJ, lK, fB, fD, fK, bW, bz, lO, lQ, lV, lW, fV, cC, cD, lY, fX, qT, tM, qU, qW, qX, uB, uC, gq, mG, nj, nU, iy, nW, j8, kh, eG, j9, kY, qw, kZ, lg, qC, lu, lw, lA, qD, qF, startF, aiR, aiT, aiY, ai2, aiS, aiU, ai0, ai1, ai6, ai7, aiZ, aiW, aiX, Nat.reduceAdd, Nat.reduceSub, Nat.reduceLeDiff, Nat.reduceLT, Nat.zero_add, and_true, true_and, and_self, false_and, and_false, not_true_eq_false, not_false_eq_true, eq_self, decide_true, decide_false, Bool.not_true, Bool.not_false, Bool.true_and, Bool.false_and, Bool.and_true, Bool.and_false, Bool.or_true, Bool.or_false, Bool.true_or, Bool.false_or, Option.map_some, Option.map_none, Int.toNat_natCast, ↓reduceIte, Bool.false_eq_true, reduceCtorEq, Int.cast_ofNat_Int, Int.reduceLT, Int.reduceLE, Int.reduceAdd, Int.reduceSub, Int.reduceNeg, Int.natCast_zero, pY, and_assoc, ↓wu, ↓ww, ↓wy, ↓wz, ↓wA, ↓wB, ↓yr, ↓Jc, ↓Jd, ↓Nh, ↓abZ, ↓ab0, ↓afG, ↓aU, aF, aG, aV, aP, aM, aW, aH, aX, aQ, az, aN, aY, aZ, au, ↓aed, k1, k2', zP, u, c1]
 rfl
end
end L
namespace L
open PySem PySem.Spec L2 Pk
inductive Lk where
 | ev (a b : Nat)
 | all (m f : Str) (a b : Nat)
 | each (m f : Str) (a b : Nat)
 deriving DecidableEq
def dg (a : Nat) : Str := toString (a : Int)
def Lk.ldD : Lk → D
 | .ev a b => .tup [.str "events", .int (a : Int), .int (b : Int)]
 | .all m f a b => .tup [.str "all", .str m, .str f, .int (a : Int), .int (b : Int)]
 | .each m f a b => .tup [.str "each", .str m, .str f, .int (a : Int), .int (b : Int)]
def Lk.ndL : Lk → List D
 | .ev a b => [.str "events", .int (a : Int), .int (b : Int)]
 | .all m f a b => [.str "leaf", .str "all", .str m, .str f, .int (a : Int), .int (b : Int)]
 | .each m f a b => [.str "leaf", .str "each", .str m, .str f, .int (a : Int), .int (b : Int)]
def Lk.ndD (l : Lk) : D := .tup l.ndL
def sl (a b : Nat) : Str := "[" ++ dg a ++ ":" ++ dg b ++ "]"
def Lk.txt : Lk → Str
 | .ev a b => "events" ++ sl a b
 | .all m f a b => m ++ "(sum(" ++ f ++ sl a b ++ "))"
 | .each m f a b => "sum(" ++ m ++ "(" ++ f ++ sl a b ++ "))"
def Lk.wsL : Lk → List Str
 | .ev a b => ["events", "[", dg a, ":", dg b, "]"]
 | .all m f a b => [m, "(", "sum", "(", f, "[", dg a, ":", dg b, "]", ")", ")"]
 | .each m f a b => ["sum", "(", m, "(", f, "[", dg a, ":", dg b, "]", ")", ")"]
def Lk.lo : Lk → Nat
 | .ev a _ => a
 | .all _ _ a _ => a
 | .each _ _ a _ => a
def Lk.hi : Lk → Nat
 | .ev _ b => b
 | .all _ _ _ b => b
 | .each _ _ _ b => b
def prs : List (Nat × Nat) := [(0, 1), (0, 2), (0, 3), (0, 4), (1, 2), (1, 3), (1, 4), (2, 3), (2, 4), (3, 4)]
def m6 : List Str := ["first", "last", "top", "low", "change", "rises"]
def Xc (a b : Nat) : List Lk := .ev a b :: ((Xb.flatMap fun m => [.all m "zero" a b, .all m "held" a b]) ++ (m6.flatMap fun m => fW.map fun f => .each m f a b) ++ [.each "told" "raw" a b])
def xJ : List Lk := prs.flatMap fun p => Xc p.1 p.2
def Lk.vars : Lk → List Lk
 | .ev a b => [.ev a b]
 | .all m f a b => vr m a b
 | .each m f a b => vr m a b
where vr (m : Str) (a b : Nat) : List Lk := if m = "rises" ∨ m = "told" then [.each "rises" "raw" a b, .each "rises" "zero" a b, .each "rises" "held" a b, .each "told" "raw" a b, .all "rises" "zero" a b, .all "rises" "held" a b]
 else if m = "top" ∨ m = "low" then [.each m "raw" a b, .each m "zero" a b, .each m "held" a b]
 else [.each m "raw" a b, .each m "zero" a b, .each m "held" a b, .all m "zero" a b, .all m "held" a b]
def tm (n : Int) (d : D) : D := .obj 1 [.int n, d]
theorem of_map {α β : Type} {f g : α → β} : ∀ {l : List α}, l.map f = l.map g → ∀ a ∈ l, f a = g a
 | _ :: _, e, a, h => by
   simp only [aiR, List.cons.injEq] at e
   rcases List.mem_cons.mp h with h | h
   · subst h; exact e.1
   · exact of_map e.2 a h
theorem lks_ok : (xJ.all fun l => decide (l.txt.length ≤ 59) && zU l.txt && decide ((TK l.txt).map (·.1) = l.wsL)) = true := by decide +kernel
theorem acY {h : Hh} : xJ.map (fun l => uL [l.ldD] h) = xJ.map (fun l => R.ok (D.str l.txt) [] h) := by kernel_rfl
theorem aeg {h : Hh} {n : Int} : xJ.map (fun l => Bw [tm n l.ndD] h) = xJ.map (fun l => R.ok (D.str l.txt) [] h) := by kernel_rfl
theorem aeh : (xJ.all fun l => l.vars.all fun v => decide (v ∈ xJ) && decide (v.lo = l.lo) && decide (v.hi = l.hi)) = true := by decide +kernel
end L
namespace L
open PySem PySem.Spec L2 Pk
theorem acZ : ∀ a : Nat, a ≤ 4 → Num (dg a) a
 | 0, _ => ⟨by decide +kernel, by decide +kernel, ⟨48, [], by decide +kernel, by decide +kernel, by decide +kernel⟩, by decide +kernel⟩
 | 1, _ => ⟨by decide +kernel, by decide +kernel, ⟨49, [], by decide +kernel, by decide +kernel, by decide +kernel⟩, by decide +kernel⟩
 | 2, _ => ⟨by decide +kernel, by decide +kernel, ⟨50, [], by decide +kernel, by decide +kernel, by decide +kernel⟩, by decide +kernel⟩
 | 3, _ => ⟨by decide +kernel, by decide +kernel, ⟨51, [], by decide +kernel, by decide +kernel, by decide +kernel⟩, by decide +kernel⟩
 | 4, _ => ⟨by decide +kernel, by decide +kernel, ⟨52, [], by decide +kernel, by decide +kernel, by decide +kernel⟩, by decide +kernel⟩
 | a + 5, h => absurd h (by omega)
theorem aab : ∀ w ∈ (["events", "sum", "first", "last", "change", "rises"] : List Str), Fst w := fun w hw => by
 have h : ∀ w ∈ (["events", "sum", "first", "last", "change", "rises"] : List Str), zU w = true ∧ w.length ≤ 1000 ∧ w ≠ "(" ∧ w ≠ "abs" ∧ w ∉ (["max", "min"] : List Str) ∧ w ≠ "-" ∧ Ss w = false := by decide +kernel
 obtain ⟨h1, h2, h3, h4, h5, h6, h7⟩ := h w hw
 exact ⟨h1, h2, h3, h4, h5, h6, h7⟩
def Lk.good : Lk → Bool
 | .ev a b => decide (a < b) && decide (b ≤ 4)
 | .all m f a b => decide (m ∈ Xb) && decide (f ∈ (["zero", "held"] : List Str)) && decide (a < b) && decide (b ≤ 4)
 | .each m f a b => decide (m ∈ Sv) && decide (if m = "told" then f = "raw" else f ∈ fW) && decide (a < b) && decide (b ≤ 4)
theorem aei : (xJ.all Lk.good) = true := by decide +kernel
section
variable {h0 : Hh} {n : Nat} {ps : List Int}
theorem slt {ws : List Str} {s a b : Nat} (h1 : uD ws s = "[") (h2 : uD ws (s + 1) = dg a) (h3 : uD ws (s + 2) = ":") (h4 : uD ws (s + 3) = dg b) (h5 : uD ws (s + 4) = "]") (hab : a < b) (hb : b ≤ 4) (hn : b ≤ n) : Z9 ws s (a : Int) (b : Int) (n : Int) :=
 ⟨h1, by rw [h2]; exact acZ a (by omega), h3, by rw [h4]; exact acZ b hb, h5, by omega, by omega, by omega⟩
theorem ac0 {l : Lk} (g : l.good = true) (hn : l.hi ≤ n) : vH [.ref h0.length] (TH h0 n l.wsL ps (0 : Nat)) = .ok (.tup l.ndL) [] (TH h0 n l.wsL ps (l.wsL.length : Nat)) := by
 cases l with
 | ev a b =>
   unfold Lk.good at g
   simp only [Bool.and_eq_true, decide_eq_true_eq] at g
   exact afM (s := 0) rfl (slt rfl rfl rfl rfl rfl g.1 g.2 hn)
 | all m f a b =>
   unfold Lk.good at g
   simp only [Bool.and_eq_true, decide_eq_true_eq] at g
   exact aef (s := 0) g.1.1.1 rfl rfl rfl rfl rfl g.1.1.2 (slt rfl rfl rfl rfl rfl g.1.2 g.2 hn) rfl rfl
 | each m f a b =>
   unfold Lk.good at g
   simp only [Bool.and_eq_true, decide_eq_true_eq] at g
   exact acW (s := 0) g.1.1.1 rfl rfl rfl rfl rfl g.1.1.2 (slt rfl rfl rfl rfl rfl g.1.2 g.2 hn) rfl rfl
theorem aej {l : Lk} (g : l.good = true) : Fst (uD l.wsL 0) ∧ uD l.wsL l.wsL.length = "" := by
 cases l with
 | ev a b => exact ⟨aab _ (by exact ai8), rfl⟩
 | all m f a b =>
   unfold Lk.good at g
   simp only [Bool.and_eq_true, decide_eq_true_eq] at g
   exact ⟨aab _ (ajc _ (ajc _ g.1.1.1)), rfl⟩
 | each m f a b => exact ⟨aab _ (ajc _ ai8), rfl⟩
theorem ac1 {l : Lk} (hl : l ∈ xJ) (hn : l.hi ≤ n) : ∃ h', zJ [.cls 1, .str l.txt, .int (n : Int)] h0 = .ok (.no 1 [.int (n : Int), l.ndD]) [] (h0 ++ h') := by
 have g := List.all_eq_true.mp aei l hl
 have o := List.all_eq_true.mp lks_ok l hl
 simp only [Bool.and_eq_true, decide_eq_true_eq] at o
 obtain ⟨⟨o1, o2⟩, o3⟩ := o
 obtain ⟨f1, f2⟩ := aej g
 obtain ⟨h', e⟩ := ab4 (h0 := h0) (sz := (n : Int)) (k := l.wsL.length) o1 o2 (by rw [o3]; exact f1) (by rw [o3]; exact f2) (fun ps => by rw [o3]; exact ac0 g hn)
 refine ⟨h', ?_⟩
 unfold Lk.ndD
 apply Wp.eq
 simp only [↓ou, ↓mU, ↓wp_bind, ↓oM, ↓tZ, ↓sE, ↓oN, ↓iH, ↓nM, ↓oO, ↓rQ, ↓rR, ↓sG, ↓oR, ↓iI, ↓oU, ↓sH, ↓iJ, ↓iK, ↓oV, ↓cU, ↓sJ, ↓cV, ↓cW, ↓oW, ↓oX, ↓iQ, ↓sO, ↓qd, ↓iT, ↓oY, ↓sS, ↓ig, ↓iU, ↓iV, ↓m7, ↓oZ, ↓iW, ↓nO, ↓o5, ↓o7, ↓iY, ↓gU, ↓sU, ↓il, ↓cX, ↓bA, ↓cY, ↓o8, ↓jc, ↓je, ↓jf, ↓jh, ↓ji, ↓jk, ↓jm, ↓bB, ↓jn, ↓jo, ↓jr, ↓j6, ↓qp, ↓jt, ↓ir, ↓ju, ↓jV, ↓nY, ↓nZ, ↓nu, ↓nA, gM, oE, oF, nQ, ie, ue, uf, gR, oG, nH, oH, iG, oJ, oK, nJ, mX, mY, gY, ni, cZ, jP, pX, iZ, ↓km, ↓kE, ↓eO, ↓qu, ↓tK, ↓kJ, ↓kW, ↓oA, ↓lB, ↓lC, ↓qG, ↓qH, ↓qI, ↓qL, ↓lF, ↓eV, ↓tL, ↓eX, ↓lG, ↓lL, ↓lM, ↓fG, ↓fH, ↓fJ, ↓bY, ↓qM, ↓lN, ↓fL, ↓fM, ↓qN, ↓lU, ↓fO, ↓fP, ↓fQ, ↓qO, ↓qP, ↓qQ, ↓qR, ↓lX, ↓fU, ↓bZ, ↓cA, ↓qY, ↓qZ, ↓fY, ↓rA, ↓lZ, ↓mD, ↓mF, ↓fZ, ↓gh, ↓gj, ↓cG, ↓mH, ↓gA, ↓rB, ↓gG, jw, pD, o9, sV, jx, pF, jy, fz_non, jA, pG, ph, sW, pq, sX, jB, pH, jC, pJ, jD, pK, pA, sY, pB, tD, pC, tE, gQ, mV, m9, mW, di, jE, iw, jF, dw, pM, jG, jH, ul, uo, uv, uw, ux, uz, uA, tG, mK, rW, dB, dC, jJ, dD, dF, bD, dG, dH, bF, dI, nR, pN, pO, pP, jK, jL, dJ, tH, jM, pQ, jN, jO, pU, pW, rY, rZ, dR, jQ, dU, bO, dW, bQ, jR, dX, bR, dY, dZ, jT, jU, uh, uR, u6, bU, bV, eE, j7, d8, bT, pZ, qb, jW, d9, jY, jZ, j5, qm, jX, qj, ql, ai3, ai4, ai5, aiV, Int.reduceToNat, bG, bH, dM, bJ, bK, dN, dO, bL, bM, eQ, eU, lD, qJ, qK, Option.isSome_some, Option.isSome_none, lE, Int.reduceEq, beq_self_eq_true, cQ, cR, eY, lH, eZ, fj, fu, lJ, lK, fB, fD, fK, bW, bz, lO, lQ, lV, lW, fV, cC, cD, lY, fX, qT, tM, qU, qW, qX, uB, uC, gq, mG, nj, nU, iy, nW, j8, kh, eG, j9, kY, qw, kZ, lg, qC, lu, lw, lA, qD, qF, startF, aiR, aiT, aiY, ai2, aiS, aiU, ai0, ai1, ai6, ai7, aiZ, aiW, aiX, Nat.reduceAdd, Nat.reduceSub, Nat.reduceLeDiff, Nat.reduceLT, Nat.zero_add, and_true, true_and, and_self, false_and, and_false, not_true_eq_false, not_false_eq_true, eq_self, decide_true, decide_false, Bool.not_true, Bool.not_false, Bool.true_and, Bool.false_and, Bool.and_true, Bool.and_false, Bool.or_true, Bool.or_false, Bool.true_or, Bool.false_or, Option.map_some, Option.map_none, Int.toNat_natCast, ↓reduceIte, Bool.false_eq_true, reduceCtorEq, Int.cast_ofNat_Int, Int.reduceLT, Int.reduceLE, Int.reduceAdd, Int.reduceSub, Int.reduceNeg, Int.natCast_zero, pY, and_assoc, ↓Ux, ↓Z4, ↓aU, aF, aG, aV, aP, aM, aW, aH, aX, aQ, az, aN, aY, aZ, au, ↓XJ, ↓Tu, e, xj]
end
end L
namespace L
open PySem PySem.Spec L2 Pk
theorem afN : ∀ b, b ≤ 4 → ∀ a, a < b → (a, b) ∈ prs := by decide
theorem VJ {a b : Nat} {l : Lk} (hab : a < b) (hb : b ≤ 4) (h : l ∈ Xc a b) : l ∈ xJ := List.mem_flatMap.mpr ⟨(a, b), afN b hb a hab, h⟩
theorem ag1 {a b : Nat} : Lk.ev a b ∈ Xc a b := ai8
theorem afO {m f : Str} {a b : Nat} (hm : m ∈ Xb) (hf : f = "zero" ∨ f = "held") : Lk.all m f a b ∈ Xc a b := by
 refine ajc _ (List.mem_append_left _ (List.mem_append_left _ (List.mem_flatMap.mpr ⟨m, hm, ?_⟩)))
 rcases hf with rfl | rfl
 · exact ai8
 · exact ajc _ ai8
theorem aek {m f : Str} {a b : Nat} (hm : m ∈ m6) (hf : f ∈ fW) : Lk.each m f a b ∈ Xc a b :=
 ajc _ (List.mem_append_left _ (List.mem_append_right _ (List.mem_flatMap.mpr ⟨m, hm, List.mem_map.mpr ⟨f, hf, rfl⟩⟩)))
theorem ael {a b : Nat} : Lk.each "told" "raw" a b ∈ Xc a b := ajc _ (List.mem_append_right _ ai8)
theorem VL {l : List Str} {i : Nat} {d : D} (e : (l.map D.str)[i]? = some d) : ∃ w, w ∈ l ∧ d = .str w := by
 rw [ajj] at e
 cases q : l[i]? with
 | none => rw [q] at e; cases e
 | some w => rw [q] at e; cases e; exact ⟨w, ajg q, rfl⟩
theorem ab5 {h : Hh} {n : Nat} {C : Int} {sz : Nat} (S : Src h n C) (hC : C ≤ 99000) (h2 : 2 ≤ sz) (h4 : sz ≤ 4) :
 ∃ l h', Cr [.ref n, .int (sz : Int)] h = .ok l.ldD [] h' ∧ Src h' n (C + 7) ∧ l ∈ xJ ∧ l.hi ≤ sz := by
 obtain ⟨r0, h1, e1, S1, a1, b1⟩ := JK (m := (sz : Int)) S (by omega) (by omega) (by omega)
 obtain ⟨i, d, k1, hi, hd, e2, S2⟩ := Kr (l := [.int 0, .int 0, .int r0]) S1 (by omega) (by simp) (by simp)
 obtain ⟨lo, rfl, hlo⟩ : ∃ lo : Nat, d = .int (lo : Int) ∧ lo < sz := by
  match i, hi with
  | 0, _ => cases hd; exact ⟨0, rfl, by omega⟩
  | 1, _ => cases hd; exact ⟨0, rfl, by omega⟩
  | 2, _ => cases hd; exact ⟨r0.toNat, by rw [Int.toNat_of_nonneg a1], by omega⟩
 clear hd hi i
 obtain ⟨r1, h3, e3, S3, a3, b3⟩ := JK (m := (sz : Int) - lo) S2 (by omega) (by omega) (by omega)
 obtain ⟨i, d, k2, hi, hd, e4, S4⟩ := Kr (l := [.int (sz : Int), .int ((lo : Int) + 1 + r1)]) S3 (by omega) (by simp) (by simp)
 obtain ⟨hh, rfl, hab, hb⟩ : ∃ hh : Nat, d = .int (hh : Int) ∧ lo < hh ∧ hh ≤ sz := by
  match i, hi with
  | 0, _ => cases hd; exact ⟨sz, rfl, hlo, Nat.le_refl _⟩
  | 1, _ => cases hd; exact ⟨lo + 1 + r1.toNat, by simp only [Int.natCast_add, Int.natCast_one, Int.toNat_of_nonneg a3], by omega, by omega⟩
 clear hd hi i
 obtain ⟨r2, k3, e5, S5, a5, b5⟩ := JK (m := 5) S4 (by omega) (by omega) (by omega)
 by_cases c0 : r2 = 0
 · subst c0
   refine ⟨.ev lo hh, k3, ?_, S5.up (by omega), VJ hab (by omega) ag1, hb⟩
   apply Wp.eq
   simp only [↓ou, ↓mU, ↓wp_bind, ↓oM, ↓tZ, ↓sE, ↓oN, ↓iH, ↓nM, ↓oO, ↓rQ, ↓rR, ↓sG, ↓oR, ↓iI, ↓oU, ↓sH, ↓iJ, ↓iK, ↓oV, ↓cU, ↓sJ, ↓cV, ↓cW, ↓oW, ↓oX, ↓iQ, ↓sO, ↓qd, ↓iT, ↓oY, ↓sS, ↓ig, ↓iU, ↓iV, ↓m7, ↓oZ, ↓iW, ↓nO, ↓o5, ↓o7, ↓iY, ↓gU, ↓sU, ↓il, ↓cX, ↓bA, ↓cY, ↓o8, ↓jc, ↓je, ↓jf, ↓jh, ↓ji, ↓jk, ↓jm, ↓bB, ↓jn, ↓jo, ↓jr, ↓j6, ↓qp, ↓jt, ↓ir, ↓ju, ↓jV, ↓nY, ↓nZ, ↓nu, ↓nA, gM, oE, oF, nQ, ie, ue, uf, gR, oG, nH, oH, iG, oJ, oK, nJ, mX, mY, gY, ni, cZ, jP, pX, iZ, ↓km, ↓kE, ↓eO, ↓qu, ↓tK, ↓kJ, ↓kW, ↓oA, ↓lB, ↓lC, ↓qG, ↓qH, ↓qI, ↓qL, ↓lF, ↓eV, ↓tL, ↓eX, ↓lG, ↓lL, ↓lM, ↓fG, ↓fH, ↓fJ, ↓bY, ↓qM, ↓lN, ↓fL, ↓fM, ↓qN, ↓lU, ↓fO, ↓fP, ↓fQ, ↓qO, ↓qP, ↓qQ, ↓qR, ↓lX, ↓fU, ↓bZ, ↓cA, ↓qY, ↓qZ, ↓fY, ↓rA, ↓lZ, ↓mD, ↓mF, ↓fZ, ↓gh, ↓gj, ↓cG, ↓mH, ↓gA, ↓rB, ↓gG, jw, pD, o9, sV, jx, pF, jy, fz_non, jA, pG, ph, sW, pq, sX, jB, pH, jC, pJ, jD, pK, pA, sY, pB, tD, pC, tE, gQ, mV, m9, mW, di, jE, iw, jF, dw, pM, jG, jH, ul, uo, uv, uw, ux, uz, uA, tG, mK, rW, dB, dC, jJ, dD, dF, bD, dG, dH, bF, dI, nR, pN, pO, pP, jK, jL, dJ, tH, jM, pQ, jN, jO, pU, pW, rY, rZ, dR, jQ, dU, bO, dW, bQ, jR, dX, bR, dY, dZ, jT, jU, uh, uR, u6, bU, bV, eE, j7, d8, bT, pZ, qb, jW, d9, jY, jZ, j5, qm, jX, qj, ql, ai3, ai4, ai5, aiV, Int.reduceToNat, bG, bH, dM, bJ, bK, dN, dO, bL, bM, eQ, eU, lD, qJ, qK, Option.isSome_some, Option.isSome_none, lE, Int.reduceEq, beq_self_eq_true, cQ, cR, eY, lH, eZ, fj, fu, lJ, lK, fB, fD, fK, bW, bz, lO, lQ, lV, lW, fV, cC, cD, lY, fX, qT, tM, qU, qW, qX, uB, uC, gq, mG, nj, nU, iy, nW, j8, kh, eG, j9, kY, qw, kZ, lg, qC, lu, lw, lA, qD, qF, startF, aiR, aiT, aiY, ai2, aiS, aiU, ai0, ai1, ai6, ai7, aiZ, aiW, aiX, Nat.reduceAdd, Nat.reduceSub, Nat.reduceLeDiff, Nat.reduceLT, Nat.zero_add, and_true, true_and, and_self, false_and, and_false, not_true_eq_false, not_false_eq_true, eq_self, decide_true, decide_false, Bool.not_true, Bool.not_false, Bool.true_and, Bool.false_and, Bool.and_true, Bool.and_false, Bool.or_true, Bool.or_false, Bool.true_or, Bool.false_or, Option.map_some, Option.map_none, Int.toNat_natCast, ↓reduceIte, Bool.false_eq_true, reduceCtorEq, Int.cast_ofNat_Int, Int.reduceLT, Int.reduceLE, Int.reduceAdd, Int.reduceSub, Int.reduceNeg, Int.natCast_zero, pY, and_assoc, ↓uV, ↓uW, ↓uX, ↓uY, ↓uZ, ↓wI, ↓aU, aF, aG, aV, aP, aM, aW, aH, aX, aQ, az, aN, aY, aZ, au, ↓Ho, e1, e2, e3, e4, e5]
   rfl
 · have d0 : ∀ h : Hh, uE h (.int r2) (.int 0) = some false := fun h => (Vh (h := h) Em.int (aaU r2) (aaU 0) trivial trivial (by decide)).trans (congrArg some (decide_eq_false c0))
   by_cases c3 : r2 < 3
   · have d3 : decide (r2 < 3) = true := decide_eq_true c3
     obtain ⟨i, d, k4, hi, hd, e6, S6⟩ := Kr (l := (["first", "last", "change", "rises", "rises"] : List Str).map D.str) S5 (by omega) (by decide) (by decide)
     obtain ⟨m, hm, rfl⟩ := VL hd
     obtain ⟨i', d', k5, hi', hd', e7, S7⟩ := Kr (l := (["zero", "held"] : List Str).map D.str) S6 (by omega) (by decide) (by decide)
     obtain ⟨f, hf, rfl⟩ := VL hd'
     simp only [aiR, aiT] at e6 e7
     refine ⟨.all m f lo hh, k5, ?_, S7.up (by omega), VJ hab (by omega) (afO ?_ ?_), hb⟩
     · apply Wp.eq
       simp only [↓ou, ↓mU, ↓wp_bind, ↓oM, ↓tZ, ↓sE, ↓oN, ↓iH, ↓nM, ↓oO, ↓rQ, ↓rR, ↓sG, ↓oR, ↓iI, ↓oU, ↓sH, ↓iJ, ↓iK, ↓oV, ↓cU, ↓sJ, ↓cV, ↓cW, ↓oW, ↓oX, ↓iQ, ↓sO, ↓qd, ↓iT, ↓oY, ↓sS, ↓ig, ↓iU, ↓iV, ↓m7, ↓oZ, ↓iW, ↓nO, ↓o5, ↓o7, ↓iY, ↓gU, ↓sU, ↓il, ↓cX, ↓bA, ↓cY, ↓o8, ↓jc, ↓je, ↓jf, ↓jh, ↓ji, ↓jk, ↓jm, ↓bB, ↓jn, ↓jo, ↓jr, ↓j6, ↓qp, ↓jt, ↓ir, ↓ju, ↓jV, ↓nY, ↓nZ, ↓nu, ↓nA, gM, oE, oF, nQ, ie, ue, uf, gR, oG, nH, oH, iG, oJ, oK, nJ, mX, mY, gY, ni, cZ, jP, pX, iZ, ↓km, ↓kE, ↓eO, ↓qu, ↓tK, ↓kJ, ↓kW, ↓oA, ↓lB, ↓lC, ↓qG, ↓qH, ↓qI, ↓qL, ↓lF, ↓eV, ↓tL, ↓eX, ↓lG, ↓lL, ↓lM, ↓fG, ↓fH, ↓fJ, ↓bY, ↓qM, ↓lN, ↓fL, ↓fM, ↓qN, ↓lU, ↓fO, ↓fP, ↓fQ, ↓qO, ↓qP, ↓qQ, ↓qR, ↓lX, ↓fU, ↓bZ, ↓cA, ↓qY, ↓qZ, ↓fY, ↓rA, ↓lZ, ↓mD, ↓mF, ↓fZ, ↓gh, ↓gj, ↓cG, ↓mH, ↓gA, ↓rB, ↓gG, jw, pD, o9, sV, jx, pF, jy, fz_non, jA, pG, ph, sW, pq, sX, jB, pH, jC, pJ, jD, pK, pA, sY, pB, tD, pC, tE, gQ, mV, m9, mW, di, jE, iw, jF, dw, pM, jG, jH, ul, uo, uv, uw, ux, uz, uA, tG, mK, rW, dB, dC, jJ, dD, dF, bD, dG, dH, bF, dI, nR, pN, pO, pP, jK, jL, dJ, tH, jM, pQ, jN, jO, pU, pW, rY, rZ, dR, jQ, dU, bO, dW, bQ, jR, dX, bR, dY, dZ, jT, jU, uh, uR, u6, bU, bV, eE, j7, d8, bT, pZ, qb, jW, d9, jY, jZ, j5, qm, jX, qj, ql, ai3, ai4, ai5, aiV, Int.reduceToNat, bG, bH, dM, bJ, bK, dN, dO, bL, bM, eQ, eU, lD, qJ, qK, Option.isSome_some, Option.isSome_none, lE, Int.reduceEq, beq_self_eq_true, cQ, cR, eY, lH, eZ, fj, fu, lJ, lK, fB, fD, fK, bW, bz, lO, lQ, lV, lW, fV, cC, cD, lY, fX, qT, tM, qU, qW, qX, uB, uC, gq, mG, nj, nU, iy, nW, j8, kh, eG, j9, kY, qw, kZ, lg, qC, lu, lw, lA, qD, qF, startF, aiR, aiT, aiY, ai2, aiS, aiU, ai0, ai1, ai6, ai7, aiZ, aiW, aiX, Nat.reduceAdd, Nat.reduceSub, Nat.reduceLeDiff, Nat.reduceLT, Nat.zero_add, and_true, true_and, and_self, false_and, and_false, not_true_eq_false, not_false_eq_true, eq_self, decide_true, decide_false, Bool.not_true, Bool.not_false, Bool.true_and, Bool.false_and, Bool.and_true, Bool.and_false, Bool.or_true, Bool.or_false, Bool.true_or, Bool.false_or, Option.map_some, Option.map_none, Int.toNat_natCast, ↓reduceIte, Bool.false_eq_true, reduceCtorEq, Int.cast_ofNat_Int, Int.reduceLT, Int.reduceLE, Int.reduceAdd, Int.reduceSub, Int.reduceNeg, Int.natCast_zero, pY, and_assoc, ↓uV, ↓uW, ↓uX, ↓uY, ↓uZ, ↓wI, ↓aU, aF, aG, aV, aP, aM, aW, aH, aX, aQ, az, aN, aY, aZ, au, ↓Ho, e1, e2, e3, e4, e5, e6, e7, d0, d3]
       rfl
     · exact (show ∀ m ∈ (["first", "last", "change", "rises", "rises"] : List Str), m ∈ Xb by decide +kernel) m hm
     · simp only [List.mem_cons, List.not_mem_nil, or_false] at hf
       exact hf
   · have d3 : decide (r2 < 3) = false := decide_eq_false c3
     obtain ⟨i, d, k4, hi, hd, e6, S6⟩ := Kr (l := (["first", "last", "top", "low", "change", "rises", "rises", "told"] : List Str).map D.str) S5 (by omega) (by decide) (by decide)
     obtain ⟨m, hm, rfl⟩ := VL hd
     have hmg : ∀ m ∈ (["first", "last", "top", "low", "change", "rises", "rises", "told"] : List Str), zU m = true ∧ (m = "told" ∨ m ∈ m6) := by decide +kernel
     obtain ⟨g, hm6⟩ := hmg m hm
     have dt : ∀ h : Hh, uE h (.str m) (.str "told") = some (decide (m = "told")) := fun h => Gh g (by decide +kernel)
     simp only [aiR, aiT] at e6
     by_cases ct : m = "told"
     · have d4 : decide (m = "told") = true := decide_eq_true ct
       refine ⟨.each m "raw" lo hh, k4, ?_, S6.up (by omega), VJ hab (by omega) (by rw [ct]; exact ael), hb⟩
       apply Wp.eq
       simp only [↓ou, ↓mU, ↓wp_bind, ↓oM, ↓tZ, ↓sE, ↓oN, ↓iH, ↓nM, ↓oO, ↓rQ, ↓rR, ↓sG, ↓oR, ↓iI, ↓oU, ↓sH, ↓iJ, ↓iK, ↓oV, ↓cU, ↓sJ, ↓cV, ↓cW, ↓oW, ↓oX, ↓iQ, ↓sO, ↓qd, ↓iT, ↓oY, ↓sS, ↓ig, ↓iU, ↓iV, ↓m7, ↓oZ, ↓iW, ↓nO, ↓o5, ↓o7, ↓iY, ↓gU, ↓sU, ↓il, ↓cX, ↓bA, ↓cY, ↓o8, ↓jc, ↓je, ↓jf, ↓jh, ↓ji, ↓jk, ↓jm, ↓bB, ↓jn, ↓jo, ↓jr, ↓j6, ↓qp, ↓jt, ↓ir, ↓ju, ↓jV, ↓nY, ↓nZ, ↓nu, ↓nA, gM, oE, oF, nQ, ie, ue, uf, gR, oG, nH, oH, iG, oJ, oK, nJ, mX, mY, gY, ni, cZ, jP, pX, iZ, ↓km, ↓kE, ↓eO, ↓qu, ↓tK, ↓kJ, ↓kW, ↓oA, ↓lB, ↓lC, ↓qG, ↓qH, ↓qI, ↓qL, ↓lF, ↓eV, ↓tL, ↓eX, ↓lG, ↓lL, ↓lM, ↓fG, ↓fH, ↓fJ, ↓bY, ↓qM, ↓lN, ↓fL, ↓fM, ↓qN, ↓lU, ↓fO, ↓fP, ↓fQ, ↓qO, ↓qP, ↓qQ, ↓qR, ↓lX, ↓fU, ↓bZ, ↓cA, ↓qY, ↓qZ, ↓fY, ↓rA, ↓lZ, ↓mD, ↓mF, ↓fZ, ↓gh, ↓gj, ↓cG, ↓mH, ↓gA, ↓rB, ↓gG, jw, pD, o9, sV, jx, pF, jy, fz_non, jA, pG, ph, sW, pq, sX, jB, pH, jC, pJ, jD, pK, pA, sY, pB, tD, pC, tE, gQ, mV, m9, mW, di, jE, iw, jF, dw, pM, jG, jH, ul, uo, uv, uw, ux, uz, uA, tG, mK, rW, dB, dC, jJ, dD, dF, bD, dG, dH, bF, dI, nR, pN, pO, pP, jK, jL, dJ, tH, jM, pQ, jN, jO, pU, pW, rY, rZ, dR, jQ, dU, bO, dW, bQ, jR, dX, bR, dY, dZ, jT, jU, uh, uR, u6, bU, bV, eE, j7, d8, bT, pZ, qb, jW, d9, jY, jZ, j5, qm, jX, qj, ql, ai3, ai4, ai5, aiV, Int.reduceToNat, bG, bH, dM, bJ, bK, dN, dO, bL, bM, eQ, eU, lD, qJ, qK, Option.isSome_some, Option.isSome_none, lE, Int.reduceEq, beq_self_eq_true, cQ, cR, eY, lH, eZ, fj, fu, lJ, lK, fB, fD, fK, bW, bz, lO, lQ, lV, lW, fV, cC, cD, lY, fX, qT, tM, qU, qW, qX, uB, uC, gq, mG, nj, nU, iy, nW, j8, kh, eG, j9, kY, qw, kZ, lg, qC, lu, lw, lA, qD, qF, startF, aiR, aiT, aiY, ai2, aiS, aiU, ai0, ai1, ai6, ai7, aiZ, aiW, aiX, Nat.reduceAdd, Nat.reduceSub, Nat.reduceLeDiff, Nat.reduceLT, Nat.zero_add, and_true, true_and, and_self, false_and, and_false, not_true_eq_false, not_false_eq_true, eq_self, decide_true, decide_false, Bool.not_true, Bool.not_false, Bool.true_and, Bool.false_and, Bool.and_true, Bool.and_false, Bool.or_true, Bool.or_false, Bool.true_or, Bool.false_or, Option.map_some, Option.map_none, Int.toNat_natCast, ↓reduceIte, Bool.false_eq_true, reduceCtorEq, Int.cast_ofNat_Int, Int.reduceLT, Int.reduceLE, Int.reduceAdd, Int.reduceSub, Int.reduceNeg, Int.natCast_zero, pY, and_assoc, ↓uV, ↓uW, ↓uX, ↓uY, ↓uZ, ↓wI, ↓aU, aF, aG, aV, aP, aM, aW, aH, aX, aQ, az, aN, aY, aZ, au, ↓Ho, e1, e2, e3, e4, e5, e6, d0, d3, dt, d4]
       rfl
     · have d4 : decide (m = "told") = false := decide_eq_false ct
       obtain ⟨i', d', k5, hi', hd', e7, S7⟩ := Kr (l := fW.map D.str) S6 (by omega) (by decide) (by decide)
       obtain ⟨f, hf, rfl⟩ := VL hd'
       simp only [fW, aiR, aiT] at e7
       refine ⟨.each m f lo hh, k5, ?_, S7.up (by omega), VJ hab (by omega) (aek (hm6.resolve_left ct) hf), hb⟩
       apply Wp.eq
       simp only [↓ou, ↓mU, ↓wp_bind, ↓oM, ↓tZ, ↓sE, ↓oN, ↓iH, ↓nM, ↓oO, ↓rQ, ↓rR, ↓sG, ↓oR, ↓iI, ↓oU, ↓sH, ↓iJ, ↓iK, ↓oV, ↓cU, ↓sJ, ↓cV, ↓cW, ↓oW, ↓oX, ↓iQ, ↓sO, ↓qd, ↓iT, ↓oY, ↓sS, ↓ig, ↓iU, ↓iV, ↓m7, ↓oZ, ↓iW, ↓nO, ↓o5, ↓o7, ↓iY, ↓gU, ↓sU, ↓il, ↓cX, ↓bA, ↓cY, ↓o8, ↓jc, ↓je, ↓jf, ↓jh, ↓ji, ↓jk, ↓jm, ↓bB, ↓jn, ↓jo, ↓jr, ↓j6, ↓qp, ↓jt, ↓ir, ↓ju, ↓jV, ↓nY, ↓nZ, ↓nu, ↓nA, gM, oE, oF, nQ, ie, ue, uf, gR, oG, nH, oH, iG, oJ, oK, nJ, mX, mY, gY, ni, cZ, jP, pX, iZ, ↓km, ↓kE, ↓eO, ↓qu, ↓tK, ↓kJ, ↓kW, ↓oA, ↓lB, ↓lC, ↓qG, ↓qH, ↓qI, ↓qL, ↓lF, ↓eV, ↓tL, ↓eX, ↓lG, ↓lL, ↓lM, ↓fG, ↓fH, ↓fJ, ↓bY, ↓qM, ↓lN, ↓fL, ↓fM, ↓qN, ↓lU, ↓fO, ↓fP, ↓fQ, ↓qO, ↓qP, ↓qQ, ↓qR, ↓lX, ↓fU, ↓bZ, ↓cA, ↓qY, ↓qZ, ↓fY, ↓rA, ↓lZ, ↓mD, ↓mF, ↓fZ, ↓gh, ↓gj, ↓cG, ↓mH, ↓gA, ↓rB, ↓gG, jw, pD, o9, sV, jx, pF, jy, fz_non, jA, pG, ph, sW, pq, sX, jB, pH, jC, pJ, jD, pK, pA, sY, pB, tD, pC, tE, gQ, mV, m9, mW, di, jE, iw, jF, dw, pM, jG, jH, ul, uo, uv, uw, ux, uz, uA, tG, mK, rW, dB, dC, jJ, dD, dF, bD, dG, dH, bF, dI, nR, pN, pO, pP, jK, jL, dJ, tH, jM, pQ, jN, jO, pU, pW, rY, rZ, dR, jQ, dU, bO, dW, bQ, jR, dX, bR, dY, dZ, jT, jU, uh, uR, u6, bU, bV, eE, j7, d8, bT, pZ, qb, jW, d9, jY, jZ, j5, qm, jX, qj, ql, ai3, ai4, ai5, aiV, Int.reduceToNat, bG, bH, dM, bJ, bK, dN, dO, bL, bM, eQ, eU, lD, qJ, qK, Option.isSome_some, Option.isSome_none, lE, Int.reduceEq, beq_self_eq_true, cQ, cR, eY, lH, eZ, fj, fu, lJ, lK, fB, fD, fK, bW, bz, lO, lQ, lV, lW, fV, cC, cD, lY, fX, qT, tM, qU, qW, qX, uB, uC, gq, mG, nj, nU, iy, nW, j8, kh, eG, j9, kY, qw, kZ, lg, qC, lu, lw, lA, qD, qF, startF, aiR, aiT, aiY, ai2, aiS, aiU, ai0, ai1, ai6, ai7, aiZ, aiW, aiX, Nat.reduceAdd, Nat.reduceSub, Nat.reduceLeDiff, Nat.reduceLT, Nat.zero_add, and_true, true_and, and_self, false_and, and_false, not_true_eq_false, not_false_eq_true, eq_self, decide_true, decide_false, Bool.not_true, Bool.not_false, Bool.true_and, Bool.false_and, Bool.and_true, Bool.and_false, Bool.or_true, Bool.or_false, Bool.true_or, Bool.false_or, Option.map_some, Option.map_none, Int.toNat_natCast, ↓reduceIte, Bool.false_eq_true, reduceCtorEq, Int.cast_ofNat_Int, Int.reduceLT, Int.reduceLE, Int.reduceAdd, Int.reduceSub, Int.reduceNeg, Int.natCast_zero, pY, and_assoc, ↓uV, ↓uW, ↓uX, ↓uY, ↓uZ, ↓wI, ↓aU, aF, aG, aV, aP, aM, aW, aH, aX, aQ, az, aN, aY, aZ, au, ↓Ho, e1, e2, e3, e4, e5, e6, e7, d0, d3, dt, d4]
       rfl
end L
namespace L
open PySem PySem.Spec L2 Pk
theorem aac {h : Hh} {n : Int} : xJ.map (fun l => Eo [tm n l.ndD] h) = xJ.map (fun l => R.ok (D.nl (l.vars.map fun v => tm n v.ndD)) [] h) := by kernel_rfl
theorem aem {h : Hh} : xJ.map (fun l => l.vars.map fun v => vK [tm 2 v.ndD, tm 2 l.ndD] h) = xJ.map (fun l => l.vars.map fun v => R.ok (D.bl (decide (v = l))) [] h) := by kernel_rfl
theorem aen {h : Hh} : xJ.map (fun l => l.vars.map fun v => vK [tm 3 v.ndD, tm 3 l.ndD] h) = xJ.map (fun l => l.vars.map fun v => R.ok (D.bl (decide (v = l))) [] h) := by kernel_rfl
theorem aeo {h : Hh} : xJ.map (fun l => l.vars.map fun v => vK [tm 4 v.ndD, tm 4 l.ndD] h) = xJ.map (fun l => l.vars.map fun v => R.ok (D.bl (decide (v = l))) [] h) := by kernel_rfl
theorem aep : (xJ.all fun l => decide ((l.vars.filter fun v => decide (v = l)).length = 1)) = true := by decide +kernel
theorem afP {h : Hh} {x0 x1 x2 x3 x5 x6 x7 x8 x9 : Option D} : xJ.map (fun l => Jt [9] (Jr (mJ (cJ 1 0 yO (aK []) (aj [(ak 4)]) (aj [])))) Gu Gv Gx [x0, x1, x2, x3, some l.ldD, x5, x6, x7, x8, x9] h) = xJ.map (fun l => R.ok (D.nl (l.vars.map fun v => .str v.txt)) [x0, x1, x2, x3, some l.ldD, x5, x6, x7, x8, none] h) := by kernel_rfl
theorem aeq : (xJ.all fun l => zU l.txt) = true := by decide +kernel
section
variable {h : Hh} {n : Nat} {l v : Lk}
theorem aa3 (hl : l ∈ xJ) (hv : v ∈ l.vars) : v ∈ xJ := by
 have a := List.all_eq_true.mp (List.all_eq_true.mp aeh l hl) v hv
 simp only [Bool.and_eq_true, decide_eq_true_eq] at a
 exact a.1.1
theorem VM (hl : l ∈ xJ) : uL [l.ldD] h = .ok (.str l.txt) [] h := of_map acY l hl
theorem Xp (hl : l ∈ xJ) : Bw [tm n l.ndD] h = .ok (.str l.txt) [] h := of_map aeg l hl
theorem XN (hl : l ∈ xJ) : Eo [tm n l.ndD] h = .ok (.nl (l.vars.map fun v => tm n v.ndD)) [] h := of_map aac l hl
theorem aer (h2 : 2 ≤ n) (h4 : n ≤ 4) (hl : l ∈ xJ) (hv : v ∈ l.vars) : vK [tm n v.ndD, tm n l.ndD] h = .ok (.bl (decide (v = l))) [] h := by
 rcases (by omega : n = 2 ∨ n = 3 ∨ n = 4) with rfl | rfl | rfl
 · exact of_map (of_map (f := fun l : Lk => l.vars.map fun v => vK [tm 2 v.ndD, tm 2 l.ndD] h) aem l hl) v hv
 · exact of_map (of_map (f := fun l : Lk => l.vars.map fun v => vK [tm 3 v.ndD, tm 3 l.ndD] h) aen l hl) v hv
 · exact of_map (of_map (f := fun l : Lk => l.vars.map fun v => vK [tm 4 v.ndD, tm 4 l.ndD] h) aeo l hl) v hv
theorem once (hl : l ∈ xJ) : (l.vars.filter fun v => decide (v = l)).length = 1 := of_decide_eq_true (List.all_eq_true.mp aep l hl)
theorem ab6 (hl : l ∈ xJ) : zU l.txt = true := List.all_eq_true.mp aeq l hl
end
section
variable {n : Nat} {l : List D} {vs : List Nat} {g : D → M Unit} {t : M Bool} {e : M D} {fr : Fr} {h : Hh}
theorem Nm {α : Type} {F G : α → D} {p : α → Bool} (hc : h[n]? = some (.nl l)) : ∀ {xs : List α}, (∀ a ∈ xs, xm vs g t e (F a) fr h = .ok (if p a then some (G a) else none) fr h) → vW n l vs g t e (xs.map F) fr h = .ok ((xs.filter p).map G) fr h
 | [], _ => ZG hc
 | a :: xs, hx => by
   rw [aiR, Xk hc (hx a ai8) (Nm hc fun b hb => hx b (ajc _ hb)), List.filter_cons]
   cases p a <;> rfl
end
end L
namespace L
open PySem PySem.Spec L2 Pk
section
variable {h : Hh} {n s : Nat} {k : Int} {l : Lk} {S0 : D} {x0 x1 x2 x3 x4 x5 x6 x7 x8 : Option D}
abbrev xK (n : Nat) (l : Lk) : List D := l.vars.map fun v => tm n v.ndD
abbrev Ht (l : Lk) : List D := l.vars.map fun v => .str v.txt
theorem aes {h : Hh} {r : List D} : KD QR (h ++ [.nl r]) (.ref h.length) (.ty "list") = some (.bl true) := by
 have e : (h ++ [D.nl r])[h.length]? = some (.nl r) := JV
 unfold KD D.tag D.der
 simp only [e, Option.getD_some]
 rfl
theorem afQ {h : Hh} {r : List D} : FT (h ++ [.nl r]) (.ref h.length) = some (h.length, r) := by
 have e : (h ++ [D.nl r])[h.length]? = some (.nl r) := JV
 unfold FT
 simp only [e]
theorem afR (hl : l ∈ xJ) {fr : Fr} (hf : fr = [x0, x1, x2, x3, x4, x5, x6, x7, x8, none]) : vW h.length (xK n l) [9] Le Lf Lg (xK n l) fr (h ++ [.nl (xK n l)]) = .ok (Ht l) fr (h ++ [.nl (xK n l)]) := by
 refine ZJ JV fun v hv => ?_
 subst hf
 have t := Xp (h := h ++ [.nl (xK n l)]) (n := n) (aa3 hl hv)
 unfold tm at *
 apply Wp.eq
 simp only [↓ou, ↓mU, ↓wp_bind, ↓oM, ↓tZ, ↓sE, ↓oN, ↓iH, ↓nM, ↓oO, ↓rQ, ↓rR, ↓sG, ↓oR, ↓iI, ↓oU, ↓sH, ↓iJ, ↓iK, ↓oV, ↓cU, ↓sJ, ↓cV, ↓cW, ↓oW, ↓oX, ↓iQ, ↓sO, ↓qd, ↓iT, ↓oY, ↓sS, ↓ig, ↓iU, ↓iV, ↓m7, ↓oZ, ↓iW, ↓nO, ↓o5, ↓o7, ↓iY, ↓gU, ↓sU, ↓il, ↓cX, ↓bA, ↓cY, ↓o8, ↓jc, ↓je, ↓jf, ↓jh, ↓ji, ↓jk, ↓jm, ↓bB, ↓jn, ↓jo, ↓jr, ↓j6, ↓qp, ↓jt, ↓ir, ↓ju, ↓jV, ↓nY, ↓nZ, ↓nu, ↓nA, gM, oE, oF, nQ, ie, ue, uf, gR, oG, nH, oH, iG, oJ, oK, nJ, mX, mY, gY, ni, cZ, jP, pX, iZ, ↓km, ↓kE, ↓eO, ↓qu, ↓tK, ↓kJ, ↓kW, ↓oA, ↓lB, ↓lC, ↓qG, ↓qH, ↓qI, ↓qL, ↓lF, ↓eV, ↓tL, ↓eX, ↓lG, ↓lL, ↓lM, ↓fG, ↓fH, ↓fJ, ↓bY, ↓qM, ↓lN, ↓fL, ↓fM, ↓qN, ↓lU, ↓fO, ↓fP, ↓fQ, ↓qO, ↓qP, ↓qQ, ↓qR, ↓lX, ↓fU, ↓bZ, ↓cA, ↓qY, ↓qZ, ↓fY, ↓rA, ↓lZ, ↓mD, ↓mF, ↓fZ, ↓gh, ↓gj, ↓cG, ↓mH, ↓gA, ↓rB, ↓gG, jw, pD, o9, sV, jx, pF, jy, fz_non, jA, pG, ph, sW, pq, sX, jB, pH, jC, pJ, jD, pK, pA, sY, pB, tD, pC, tE, gQ, mV, m9, mW, di, jE, iw, jF, dw, pM, jG, jH, ul, uo, uv, uw, ux, uz, uA, tG, mK, rW, dB, dC, jJ, dD, dF, bD, dG, dH, bF, dI, nR, pN, pO, pP, jK, jL, dJ, tH, jM, pQ, jN, jO, pU, pW, rY, rZ, dR, jQ, dU, bO, dW, bQ, jR, dX, bR, dY, dZ, jT, jU, uh, uR, u6, bU, bV, eE, j7, d8, bT, pZ, qb, jW, d9, jY, jZ, j5, qm, jX, qj, ql, ai3, ai4, ai5, aiV, Int.reduceToNat, bG, bH, dM, bJ, bK, dN, dO, bL, bM, eQ, eU, lD, qJ, qK, Option.isSome_some, Option.isSome_none, lE, Int.reduceEq, beq_self_eq_true, cQ, cR, eY, lH, eZ, fj, fu, lJ, lK, fB, fD, fK, bW, bz, lO, lQ, lV, lW, fV, cC, cD, lY, fX, qT, tM, qU, qW, qX, uB, uC, gq, mG, nj, nU, iy, nW, j8, kh, eG, j9, kY, qw, kZ, lg, qC, lu, lw, lA, qD, qF, startF, aiR, aiT, aiY, ai2, aiS, aiU, ai0, ai1, ai6, ai7, aiZ, aiW, aiX, Nat.reduceAdd, Nat.reduceSub, Nat.reduceLeDiff, Nat.reduceLT, Nat.zero_add, and_true, true_and, and_self, false_and, and_false, not_true_eq_false, not_false_eq_true, eq_self, decide_true, decide_false, Bool.not_true, Bool.not_false, Bool.true_and, Bool.false_and, Bool.and_true, Bool.and_false, Bool.or_true, Bool.or_false, Bool.true_or, Bool.false_or, Option.map_some, Option.map_none, Int.toNat_natCast, ↓reduceIte, Bool.false_eq_true, reduceCtorEq, Int.cast_ofNat_Int, Int.reduceLT, Int.reduceLE, Int.reduceAdd, Int.reduceSub, Int.reduceNeg, Int.natCast_zero, pY, and_assoc, ↓aU, ↓xW, ↓xX, ↓xY, ↓xZ, ↓yc, ↓ye, ↓yf, ↓yg, ↓yh, ↓yj, ↓ym, ↓yo, ↓vL, ↓vM, ↓xg, ↓vP, ↓v8, ↓u9, ↓vf, ↓vg, ↓wC, ↓Es, aF, aG, aV, aP, aM, aW, aH, aX, aQ, az, aN, aY, aZ, au, t]
theorem afS (h4 : True) {fr : Fr} (hf : fr = [x0, x1, x2, some (.int (n : Int)), x4, x5, x6, x7, x8, none]) : vW h.length (xK n l) [9] IK IV IW (xK n l) fr (h ++ [.nl (xK n l)]) = .ok [] fr (h ++ [.nl (xK n l)]) := by
 have e := Nm (n := h.length) (l := xK n l) (vs := [9]) (g := IK) (t := IV) (e := IW) (fr := fr) (h := h ++ [.nl (xK n l)]) (F := fun v : Lk => tm n v.ndD) (G := fun v : Lk => tm n v.ndD) (p := fun _ => false) JV (xs := l.vars) fun v hv => by
  subst hf
  have c : ∀ h : Hh, uE h (.int (n : Int)) (.int (n : Int)) = some true := fun h => nR.trans (congrArg some (decide_eq_true rfl))
  unfold tm
  apply Wp.eq
  simp only [↓ou, ↓mU, ↓wp_bind, ↓oM, ↓tZ, ↓sE, ↓oN, ↓iH, ↓nM, ↓oO, ↓rQ, ↓rR, ↓sG, ↓oR, ↓iI, ↓oU, ↓sH, ↓iJ, ↓iK, ↓oV, ↓cU, ↓sJ, ↓cV, ↓cW, ↓oW, ↓oX, ↓iQ, ↓sO, ↓qd, ↓iT, ↓oY, ↓sS, ↓ig, ↓iU, ↓iV, ↓m7, ↓oZ, ↓iW, ↓nO, ↓o5, ↓o7, ↓iY, ↓gU, ↓sU, ↓il, ↓cX, ↓bA, ↓cY, ↓o8, ↓jc, ↓je, ↓jf, ↓jh, ↓ji, ↓jk, ↓jm, ↓bB, ↓jn, ↓jo, ↓jr, ↓j6, ↓qp, ↓jt, ↓ir, ↓ju, ↓jV, ↓nY, ↓nZ, ↓nu, ↓nA, gM, oE, oF, nQ, ie, ue, uf, gR, oG, nH, oH, iG, oJ, oK, nJ, mX, mY, gY, ni, cZ, jP, pX, iZ, ↓km, ↓kE, ↓eO, ↓qu, ↓tK, ↓kJ, ↓kW, ↓oA, ↓lB, ↓lC, ↓qG, ↓qH, ↓qI, ↓qL, ↓lF, ↓eV, ↓tL, ↓eX, ↓lG, ↓lL, ↓lM, ↓fG, ↓fH, ↓fJ, ↓bY, ↓qM, ↓lN, ↓fL, ↓fM, ↓qN, ↓lU, ↓fO, ↓fP, ↓fQ, ↓qO, ↓qP, ↓qQ, ↓qR, ↓lX, ↓fU, ↓bZ, ↓cA, ↓qY, ↓qZ, ↓fY, ↓rA, ↓lZ, ↓mD, ↓mF, ↓fZ, ↓gh, ↓gj, ↓cG, ↓mH, ↓gA, ↓rB, ↓gG, jw, pD, o9, sV, jx, pF, jy, fz_non, jA, pG, ph, sW, pq, sX, jB, pH, jC, pJ, jD, pK, pA, sY, pB, tD, pC, tE, gQ, mV, m9, mW, di, jE, iw, jF, dw, pM, jG, jH, ul, uo, uv, uw, ux, uz, uA, tG, mK, rW, dB, dC, jJ, dD, dF, bD, dG, dH, bF, dI, nR, pN, pO, pP, jK, jL, dJ, tH, jM, pQ, jN, jO, pU, pW, rY, rZ, dR, jQ, dU, bO, dW, bQ, jR, dX, bR, dY, dZ, jT, jU, uh, uR, u6, bU, bV, eE, j7, d8, bT, pZ, qb, jW, d9, jY, jZ, j5, qm, jX, qj, ql, ai3, ai4, ai5, aiV, Int.reduceToNat, bG, bH, dM, bJ, bK, dN, dO, bL, bM, eQ, eU, lD, qJ, qK, Option.isSome_some, Option.isSome_none, lE, Int.reduceEq, beq_self_eq_true, cQ, cR, eY, lH, eZ, fj, fu, lJ, lK, fB, fD, fK, bW, bz, lO, lQ, lV, lW, fV, cC, cD, lY, fX, qT, tM, qU, qW, qX, uB, uC, gq, mG, nj, nU, iy, nW, j8, kh, eG, j9, kY, qw, kZ, lg, qC, lu, lw, lA, qD, qF, startF, aiR, aiT, aiY, ai2, aiS, aiU, ai0, ai1, ai6, ai7, aiZ, aiW, aiX, Nat.reduceAdd, Nat.reduceSub, Nat.reduceLeDiff, Nat.reduceLT, Nat.zero_add, and_true, true_and, and_self, false_and, and_false, not_true_eq_false, not_false_eq_true, eq_self, decide_true, decide_false, Bool.not_true, Bool.not_false, Bool.true_and, Bool.false_and, Bool.and_true, Bool.and_false, Bool.or_true, Bool.or_false, Bool.true_or, Bool.false_or, Option.map_some, Option.map_none, Int.toNat_natCast, ↓reduceIte, Bool.false_eq_true, reduceCtorEq, Int.cast_ofNat_Int, Int.reduceLT, Int.reduceLE, Int.reduceAdd, Int.reduceSub, Int.reduceNeg, Int.natCast_zero, pY, and_assoc, ↓aU, ↓xW, ↓xX, ↓xY, ↓xZ, ↓yc, ↓ye, ↓yf, ↓yg, ↓yh, ↓yj, ↓ym, ↓yo, ↓vL, ↓vM, ↓xg, ↓vP, ↓v8, ↓u9, ↓vf, ↓vg, ↓wC, ↓Es, aF, aG, aV, aP, aM, aW, aH, aX, aQ, az, aN, aY, aZ, au, c]
 rw [e]
 simp
theorem afT (h2 : 2 ≤ n) (h4 : n ≤ 4) (hl : l ∈ xJ) {fr : Fr} (hf : fr = [x0, x1, x2, x3, x4, some (tm n l.ndD), x6, x7, x8, none]) : vW h.length (xK n l) [9] Lh Lj Ln (xK n l) fr (h ++ [.nl (xK n l)]) = .ok ((l.vars.filter fun v => decide (v = l)).map fun v => tm n v.ndD) fr (h ++ [.nl (xK n l)]) := by
 refine Nm JV fun v hv => ?_
 subst hf
 have t := aer (h := h ++ [.nl (xK n l)]) h2 h4 hl hv
 unfold tm at *
 apply Wp.eq
 cases hd : decide (v = l) with
 | true =>
   rw [hd] at t
   simp only [↓ou, ↓mU, ↓wp_bind, ↓oM, ↓tZ, ↓sE, ↓oN, ↓iH, ↓nM, ↓oO, ↓rQ, ↓rR, ↓sG, ↓oR, ↓iI, ↓oU, ↓sH, ↓iJ, ↓iK, ↓oV, ↓cU, ↓sJ, ↓cV, ↓cW, ↓oW, ↓oX, ↓iQ, ↓sO, ↓qd, ↓iT, ↓oY, ↓sS, ↓ig, ↓iU, ↓iV, ↓m7, ↓oZ, ↓iW, ↓nO, ↓o5, ↓o7, ↓iY, ↓gU, ↓sU, ↓il, ↓cX, ↓bA, ↓cY, ↓o8, ↓jc, ↓je, ↓jf, ↓jh, ↓ji, ↓jk, ↓jm, ↓bB, ↓jn, ↓jo, ↓jr, ↓j6, ↓qp, ↓jt, ↓ir, ↓ju, ↓jV, ↓nY, ↓nZ, ↓nu, ↓nA, gM, oE, oF, nQ, ie, ue, uf, gR, oG, nH, oH, iG, oJ, oK, nJ, mX, mY, gY, ni, cZ, jP, pX, iZ, ↓km, ↓kE, ↓eO, ↓qu, ↓tK, ↓kJ, ↓kW, ↓oA, ↓lB, ↓lC, ↓qG, ↓qH, ↓qI, ↓qL, ↓lF, ↓eV, ↓tL, ↓eX, ↓lG, ↓lL, ↓lM, ↓fG, ↓fH, ↓fJ, ↓bY, ↓qM, ↓lN, ↓fL, ↓fM, ↓qN, ↓lU, ↓fO, ↓fP, ↓fQ, ↓qO, ↓qP, ↓qQ, ↓qR, ↓lX, ↓fU, ↓bZ, ↓cA, ↓qY, ↓qZ, ↓fY, ↓rA, ↓lZ, ↓mD, ↓mF, ↓fZ, ↓gh, ↓gj, ↓cG, ↓mH, ↓gA, ↓rB, ↓gG, jw, pD, o9, sV, jx, pF, jy, fz_non, jA, pG, ph, sW, pq, sX, jB, pH, jC, pJ, jD, pK, pA, sY, pB, tD, pC, tE, gQ, mV, m9, mW, di, jE, iw, jF, dw, pM, jG, jH, ul, uo, uv, uw, ux, uz, uA, tG, mK, rW, dB, dC, jJ, dD, dF, bD, dG, dH, bF, dI, nR, pN, pO, pP, jK, jL, dJ, tH, jM, pQ, jN, jO, pU, pW, rY, rZ, dR, jQ, dU, bO, dW, bQ, jR, dX, bR, dY, dZ, jT, jU, uh, uR, u6, bU, bV, eE, j7, d8, bT, pZ, qb, jW, d9, jY, jZ, j5, qm, jX, qj, ql, ai3, ai4, ai5, aiV, Int.reduceToNat, bG, bH, dM, bJ, bK, dN, dO, bL, bM, eQ, eU, lD, qJ, qK, Option.isSome_some, Option.isSome_none, lE, Int.reduceEq, beq_self_eq_true, cQ, cR, eY, lH, eZ, fj, fu, lJ, lK, fB, fD, fK, bW, bz, lO, lQ, lV, lW, fV, cC, cD, lY, fX, qT, tM, qU, qW, qX, uB, uC, gq, mG, nj, nU, iy, nW, j8, kh, eG, j9, kY, qw, kZ, lg, qC, lu, lw, lA, qD, qF, startF, aiR, aiT, aiY, ai2, aiS, aiU, ai0, ai1, ai6, ai7, aiZ, aiW, aiX, Nat.reduceAdd, Nat.reduceSub, Nat.reduceLeDiff, Nat.reduceLT, Nat.zero_add, and_true, true_and, and_self, false_and, and_false, not_true_eq_false, not_false_eq_true, eq_self, decide_true, decide_false, Bool.not_true, Bool.not_false, Bool.true_and, Bool.false_and, Bool.and_true, Bool.and_false, Bool.or_true, Bool.or_false, Bool.true_or, Bool.false_or, Option.map_some, Option.map_none, Int.toNat_natCast, ↓reduceIte, Bool.false_eq_true, reduceCtorEq, Int.cast_ofNat_Int, Int.reduceLT, Int.reduceLE, Int.reduceAdd, Int.reduceSub, Int.reduceNeg, Int.natCast_zero, pY, and_assoc, ↓aU, ↓xW, ↓xX, ↓xY, ↓xZ, ↓yc, ↓ye, ↓yf, ↓yg, ↓yh, ↓yj, ↓ym, ↓yo, ↓vL, ↓vM, ↓xg, ↓vP, ↓v8, ↓u9, ↓vf, ↓vg, ↓wC, ↓Es, aF, aG, aV, aP, aM, aW, aH, aX, aQ, az, aN, aY, aZ, au, t]
 | false =>
   rw [hd] at t
   simp only [↓ou, ↓mU, ↓wp_bind, ↓oM, ↓tZ, ↓sE, ↓oN, ↓iH, ↓nM, ↓oO, ↓rQ, ↓rR, ↓sG, ↓oR, ↓iI, ↓oU, ↓sH, ↓iJ, ↓iK, ↓oV, ↓cU, ↓sJ, ↓cV, ↓cW, ↓oW, ↓oX, ↓iQ, ↓sO, ↓qd, ↓iT, ↓oY, ↓sS, ↓ig, ↓iU, ↓iV, ↓m7, ↓oZ, ↓iW, ↓nO, ↓o5, ↓o7, ↓iY, ↓gU, ↓sU, ↓il, ↓cX, ↓bA, ↓cY, ↓o8, ↓jc, ↓je, ↓jf, ↓jh, ↓ji, ↓jk, ↓jm, ↓bB, ↓jn, ↓jo, ↓jr, ↓j6, ↓qp, ↓jt, ↓ir, ↓ju, ↓jV, ↓nY, ↓nZ, ↓nu, ↓nA, gM, oE, oF, nQ, ie, ue, uf, gR, oG, nH, oH, iG, oJ, oK, nJ, mX, mY, gY, ni, cZ, jP, pX, iZ, ↓km, ↓kE, ↓eO, ↓qu, ↓tK, ↓kJ, ↓kW, ↓oA, ↓lB, ↓lC, ↓qG, ↓qH, ↓qI, ↓qL, ↓lF, ↓eV, ↓tL, ↓eX, ↓lG, ↓lL, ↓lM, ↓fG, ↓fH, ↓fJ, ↓bY, ↓qM, ↓lN, ↓fL, ↓fM, ↓qN, ↓lU, ↓fO, ↓fP, ↓fQ, ↓qO, ↓qP, ↓qQ, ↓qR, ↓lX, ↓fU, ↓bZ, ↓cA, ↓qY, ↓qZ, ↓fY, ↓rA, ↓lZ, ↓mD, ↓mF, ↓fZ, ↓gh, ↓gj, ↓cG, ↓mH, ↓gA, ↓rB, ↓gG, jw, pD, o9, sV, jx, pF, jy, fz_non, jA, pG, ph, sW, pq, sX, jB, pH, jC, pJ, jD, pK, pA, sY, pB, tD, pC, tE, gQ, mV, m9, mW, di, jE, iw, jF, dw, pM, jG, jH, ul, uo, uv, uw, ux, uz, uA, tG, mK, rW, dB, dC, jJ, dD, dF, bD, dG, dH, bF, dI, nR, pN, pO, pP, jK, jL, dJ, tH, jM, pQ, jN, jO, pU, pW, rY, rZ, dR, jQ, dU, bO, dW, bQ, jR, dX, bR, dY, dZ, jT, jU, uh, uR, u6, bU, bV, eE, j7, d8, bT, pZ, qb, jW, d9, jY, jZ, j5, qm, jX, qj, ql, ai3, ai4, ai5, aiV, Int.reduceToNat, bG, bH, dM, bJ, bK, dN, dO, bL, bM, eQ, eU, lD, qJ, qK, Option.isSome_some, Option.isSome_none, lE, Int.reduceEq, beq_self_eq_true, cQ, cR, eY, lH, eZ, fj, fu, lJ, lK, fB, fD, fK, bW, bz, lO, lQ, lV, lW, fV, cC, cD, lY, fX, qT, tM, qU, qW, qX, uB, uC, gq, mG, nj, nU, iy, nW, j8, kh, eG, j9, kY, qw, kZ, lg, qC, lu, lw, lA, qD, qF, startF, aiR, aiT, aiY, ai2, aiS, aiU, ai0, ai1, ai6, ai7, aiZ, aiW, aiX, Nat.reduceAdd, Nat.reduceSub, Nat.reduceLeDiff, Nat.reduceLT, Nat.zero_add, and_true, true_and, and_self, false_and, and_false, not_true_eq_false, not_false_eq_true, eq_self, decide_true, decide_false, Bool.not_true, Bool.not_false, Bool.true_and, Bool.false_and, Bool.and_true, Bool.and_false, Bool.or_true, Bool.or_false, Bool.true_or, Bool.false_or, Option.map_some, Option.map_none, Int.toNat_natCast, ↓reduceIte, Bool.false_eq_true, reduceCtorEq, Int.cast_ofNat_Int, Int.reduceLT, Int.reduceLE, Int.reduceAdd, Int.reduceSub, Int.reduceNeg, Int.natCast_zero, pY, and_assoc, ↓aU, ↓xW, ↓xX, ↓xY, ↓xZ, ↓yc, ↓ye, ↓yf, ↓yg, ↓yh, ↓yj, ↓ym, ↓yo, ↓vL, ↓vM, ↓xg, ↓vP, ↓v8, ↓u9, ↓vf, ↓vg, ↓wC, ↓Es, aF, aG, aV, aP, aM, aW, aH, aX, aQ, az, aN, aY, aZ, au, t]
end
end L
namespace L
open PySem PySem.Spec L2 Pk
section
variable {h : Hh} {n s : Nat} {k : Int} {l : Lk} {S0 : D} {ns : List Int}
def FQ (S0 : D) (k : Int) (s n : Nat) (l : Lk) (d5 : D) (x7 x8 x9 : Option D) : Fr := [some S0, some (.int k), some (.ref s), some (.int (n : Int)), some l.ldD, some d5, some (.nl (Ht l)), x7, x8, x9]
def T5 (n : Nat) (l : Lk) (d : D) : Prop := d = .no 1 [.int (n : Int), l.ndD] ∨ d = tm n l.ndD
theorem aet {l : Lk} : Ht l = (l.vars.map Lk.txt).map .str := by unfold Ht; rw [List.map_map]; rfl
theorem ag3 (hl : l ∈ xJ) {h : Hh} : uE h (.fl (Ht l)) (.nl (Ht l)) = some true := by
 rw [aet]
 have g : ∀ x ∈ l.vars.map Lk.txt, zU x = true := fun x hx => by
  obtain ⟨v, hv, rfl⟩ := List.mem_map.mp hx
  exact ab6 (aa3 hl hv)
 exact (Vh Em.str.list (agM Em.str Kl _) (agN Em.str Kl _) g g (by decide)).trans (congrArg some (decide_eq_true rfl))
theorem nil_eq {h : Hh} : uE h (.fl []) (.nl []) = some true := rfl
theorem aeu : ∀ l ∈ xJ, l.vars.length ≤ 6 := by
 have e : (xJ.all fun l => decide (l.vars.length ≤ 6)) = true := by decide +kernel
 exact fun l hl => of_decide_eq_true (List.all_eq_true.mp e l hl)
theorem inner (h2 : 2 ≤ n) (h4 : n ≤ 4) (hl : l ∈ xJ) {d5 : D} (h5 : T5 n l d5) (x7 x8 x9 : Option D) :
 Wp (GF (FQ S0 k s n l d5 x7 x8 x9) h) (fun f fr _ => f = .nx ∧ ∃ y8 y9, fr = FQ S0 k s n l (tm n l.ndD) x7 y8 y9) wU := by
 have v : ∀ h : Hh, Eo [tm n l.ndD] h = .ok (.nl (xK n l)) [] h := fun h => XN hl
 have i1 := aes (h := h) (r := xK n l)
 have ca := afQ (h := h) (r := xK n l)
 have lt := afR (x0 := some S0) (x1 := some (.int k)) (x2 := some (.ref s)) (x3 := some (.int (n : Int))) (x4 := some l.ldD) (x5 := some (tm n l.ndD)) (x6 := some (.nl (Ht l))) (x7 := x7) (x8 := some (.ref h.length)) (h := h) (n := n) hl rfl
 have lr := afS (l := l) (x0 := some S0) (x1 := some (.int k)) (x2 := some (.ref s)) (x4 := some l.ldD) (x5 := some (tm n l.ndD)) (x6 := some (.nl (Ht l))) (x7 := x7) (x8 := some (.ref h.length)) (h := h) (n := n) trivial rfl
 have ls := afT (x0 := some S0) (x1 := some (.int k)) (x2 := some (.ref s)) (x3 := some (.int (n : Int))) (x4 := some l.ldD) (x6 := some (.nl (Ht l))) (x7 := x7) (x8 := some (.ref h.length)) (h := h) h2 h4 hl rfl
 have de : ∀ h : Hh, uE h (.fl (Ht l)) (.nl (Ht l)) = some true := fun h => ag3 hl
 have ne : ∀ h : Hh, uE h (.fl []) (.nl []) = some true := fun h => nil_eq
 have on := once hl
 have lv := aeu l hl
 have tl : (xK n l).length ≤ 6 := by unfold xK; rw [ajb]; exact lv
 have e1 : ∀ h : Hh, vh h (.nl ((l.vars.filter fun v => decide (v = l)).map fun v => tm n v.ndD)) = some (.int 1) := fun h => by
  show some (D.int ((((l.vars.filter fun v => decide (v = l)).map fun v => tm n v.ndD).length : Nat) : Int)) = _
  rw [ajb, on]
  rfl
 have c1 : ∀ h : Hh, uE h (.int 1) (.int 1) = some true := fun h => rfl
 have g8 : (h ++ [D.nl (xK n l)])[h.length]? = some (.nl (xK n l)) := JV
 have ap : ∀ d : D, Eu d (xK n l) = some (xK n l ++ [d]) := fun d => VH (by omega)
 have big6 : (xK n l).length ≤ big := Nat.le_trans tl (by decide)
 unfold FQ
 generalize hL : l.ldD = ld at *
 rcases h5 with rfl | rfl
 · unfold tm at *
   generalize xK n l = tr at *
   generalize Ht l = tx at *
   generalize l.ndD = nd at *
   generalize ((l.vars.filter fun v => decide (v = l)).map fun v => D.obj 1 [.int (n : Int), v.ndD]) = fs at *
   simp only [↓ou, ↓mU, ↓wp_bind, ↓oM, ↓tZ, ↓sE, ↓oN, ↓iH, ↓nM, ↓oO, ↓rQ, ↓rR, ↓sG, ↓oR, ↓iI, ↓oU, ↓sH, ↓iJ, ↓iK, ↓oV, ↓cU, ↓sJ, ↓cV, ↓cW, ↓oW, ↓oX, ↓iQ, ↓sO, ↓qd, ↓iT, ↓oY, ↓sS, ↓ig, ↓iU, ↓iV, ↓m7, ↓oZ, ↓iW, ↓nO, ↓o5, ↓o7, ↓iY, ↓gU, ↓sU, ↓il, ↓cX, ↓bA, ↓cY, ↓o8, ↓jc, ↓je, ↓jf, ↓jh, ↓ji, ↓jk, ↓jm, ↓bB, ↓jn, ↓jo, ↓jr, ↓j6, ↓qp, ↓jt, ↓ir, ↓ju, ↓jV, ↓nY, ↓nZ, ↓nu, ↓nA, gM, oE, oF, nQ, ie, ue, uf, gR, oG, nH, oH, iG, oJ, oK, nJ, mX, mY, gY, ni, cZ, jP, pX, iZ, ↓km, ↓kE, ↓eO, ↓qu, ↓tK, ↓kJ, ↓kW, ↓oA, ↓lB, ↓lC, ↓qG, ↓qH, ↓qI, ↓qL, ↓lF, ↓eV, ↓tL, ↓eX, ↓lG, ↓lL, ↓lM, ↓fG, ↓fH, ↓fJ, ↓bY, ↓qM, ↓lN, ↓fL, ↓fM, ↓qN, ↓lU, ↓fO, ↓fP, ↓fQ, ↓qO, ↓qP, ↓qQ, ↓qR, ↓lX, ↓fU, ↓bZ, ↓cA, ↓qY, ↓qZ, ↓fY, ↓rA, ↓lZ, ↓mD, ↓mF, ↓fZ, ↓gh, ↓gj, ↓cG, ↓mH, ↓gA, ↓rB, ↓gG, jw, pD, o9, sV, jx, pF, jy, fz_non, jA, pG, ph, sW, pq, sX, jB, pH, jC, pJ, jD, pK, pA, sY, pB, tD, pC, tE, gQ, mV, m9, mW, di, jE, iw, jF, dw, pM, jG, jH, ul, uo, uv, uw, ux, uz, uA, tG, mK, rW, dB, dC, jJ, dD, dF, bD, dG, dH, bF, dI, nR, pN, pO, pP, jK, jL, dJ, tH, jM, pQ, jN, jO, pU, pW, rY, rZ, dR, jQ, dU, bO, dW, bQ, jR, dX, bR, dY, dZ, jT, jU, uh, uR, u6, bU, bV, eE, j7, d8, bT, pZ, qb, jW, d9, jY, jZ, j5, qm, jX, qj, ql, ai3, ai4, ai5, aiV, Int.reduceToNat, bG, bH, dM, bJ, bK, dN, dO, bL, bM, eQ, eU, lD, qJ, qK, Option.isSome_some, Option.isSome_none, lE, Int.reduceEq, beq_self_eq_true, cQ, cR, eY, lH, eZ, fj, fu, lJ, lK, fB, fD, fK, bW, bz, lO, lQ, lV, lW, fV, cC, cD, lY, fX, qT, tM, qU, qW, qX, uB, uC, gq, mG, nj, nU, iy, nW, j8, kh, eG, j9, kY, qw, kZ, lg, qC, lu, lw, lA, qD, qF, startF, aiR, aiT, aiY, ai2, aiS, aiU, ai0, ai1, ai6, ai7, aiZ, aiW, aiX, Nat.reduceAdd, Nat.reduceSub, Nat.reduceLeDiff, Nat.reduceLT, Nat.zero_add, and_true, true_and, and_self, false_and, and_false, not_true_eq_false, not_false_eq_true, eq_self, decide_true, decide_false, Bool.not_true, Bool.not_false, Bool.true_and, Bool.false_and, Bool.and_true, Bool.and_false, Bool.or_true, Bool.or_false, Bool.true_or, Bool.false_or, Option.map_some, Option.map_none, Int.toNat_natCast, ↓reduceIte, Bool.false_eq_true, reduceCtorEq, Int.cast_ofNat_Int, Int.reduceLT, Int.reduceLE, Int.reduceAdd, Int.reduceSub, Int.reduceNeg, Int.natCast_zero, pY, and_assoc, ↓Pq, ↓Pr, ↓Pu, ↓VB, ↓aU, ↓xW, ↓xX, ↓xY, ↓xZ, ↓yc, ↓ye, ↓yf, ↓yg, ↓yh, ↓yj, ↓ym, ↓yo, ↓vL, ↓vM, ↓xg, ↓vP, ↓v8, ↓u9, ↓vf, ↓vg, ↓wC, ↓Es, aF, aG, aV, aP, aM, aW, aH, aX, aQ, az, aN, aY, aZ, au, v, i1, ca, lt, lr, ls, de, ne, e1, c1, g8, st0, JV, ap, wj]
   refine ⟨by omega, by omega, by omega, by omega, ?_⟩
   first | exact ⟨rfl, _, _, rfl⟩ | exact ⟨_, _, rfl⟩
 · unfold tm at *
   generalize xK n l = tr at *
   generalize Ht l = tx at *
   generalize l.ndD = nd at *
   generalize ((l.vars.filter fun v => decide (v = l)).map fun v => D.obj 1 [.int (n : Int), v.ndD]) = fs at *
   simp only [↓ou, ↓mU, ↓wp_bind, ↓oM, ↓tZ, ↓sE, ↓oN, ↓iH, ↓nM, ↓oO, ↓rQ, ↓rR, ↓sG, ↓oR, ↓iI, ↓oU, ↓sH, ↓iJ, ↓iK, ↓oV, ↓cU, ↓sJ, ↓cV, ↓cW, ↓oW, ↓oX, ↓iQ, ↓sO, ↓qd, ↓iT, ↓oY, ↓sS, ↓ig, ↓iU, ↓iV, ↓m7, ↓oZ, ↓iW, ↓nO, ↓o5, ↓o7, ↓iY, ↓gU, ↓sU, ↓il, ↓cX, ↓bA, ↓cY, ↓o8, ↓jc, ↓je, ↓jf, ↓jh, ↓ji, ↓jk, ↓jm, ↓bB, ↓jn, ↓jo, ↓jr, ↓j6, ↓qp, ↓jt, ↓ir, ↓ju, ↓jV, ↓nY, ↓nZ, ↓nu, ↓nA, gM, oE, oF, nQ, ie, ue, uf, gR, oG, nH, oH, iG, oJ, oK, nJ, mX, mY, gY, ni, cZ, jP, pX, iZ, ↓km, ↓kE, ↓eO, ↓qu, ↓tK, ↓kJ, ↓kW, ↓oA, ↓lB, ↓lC, ↓qG, ↓qH, ↓qI, ↓qL, ↓lF, ↓eV, ↓tL, ↓eX, ↓lG, ↓lL, ↓lM, ↓fG, ↓fH, ↓fJ, ↓bY, ↓qM, ↓lN, ↓fL, ↓fM, ↓qN, ↓lU, ↓fO, ↓fP, ↓fQ, ↓qO, ↓qP, ↓qQ, ↓qR, ↓lX, ↓fU, ↓bZ, ↓cA, ↓qY, ↓qZ, ↓fY, ↓rA, ↓lZ, ↓mD, ↓mF, ↓fZ, ↓gh, ↓gj, ↓cG, ↓mH, ↓gA, ↓rB, ↓gG, jw, pD, o9, sV, jx, pF, jy, fz_non, jA, pG, ph, sW, pq, sX, jB, pH, jC, pJ, jD, pK, pA, sY, pB, tD, pC, tE, gQ, mV, m9, mW, di, jE, iw, jF, dw, pM, jG, jH, ul, uo, uv, uw, ux, uz, uA, tG, mK, rW, dB, dC, jJ, dD, dF, bD, dG, dH, bF, dI, nR, pN, pO, pP, jK, jL, dJ, tH, jM, pQ, jN, jO, pU, pW, rY, rZ, dR, jQ, dU, bO, dW, bQ, jR, dX, bR, dY, dZ, jT, jU, uh, uR, u6, bU, bV, eE, j7, d8, bT, pZ, qb, jW, d9, jY, jZ, j5, qm, jX, qj, ql, ai3, ai4, ai5, aiV, Int.reduceToNat, bG, bH, dM, bJ, bK, dN, dO, bL, bM, eQ, eU, lD, qJ, qK, Option.isSome_some, Option.isSome_none, lE, Int.reduceEq, beq_self_eq_true, cQ, cR, eY, lH, eZ, fj, fu, lJ, lK, fB, fD, fK, bW, bz, lO, lQ, lV, lW, fV, cC, cD, lY, fX, qT, tM, qU, qW, qX, uB, uC, gq, mG, nj, nU, iy, nW, j8, kh, eG, j9, kY, qw, kZ, lg, qC, lu, lw, lA, qD, qF, startF, aiR, aiT, aiY, ai2, aiS, aiU, ai0, ai1, ai6, ai7, aiZ, aiW, aiX, Nat.reduceAdd, Nat.reduceSub, Nat.reduceLeDiff, Nat.reduceLT, Nat.zero_add, and_true, true_and, and_self, false_and, and_false, not_true_eq_false, not_false_eq_true, eq_self, decide_true, decide_false, Bool.not_true, Bool.not_false, Bool.true_and, Bool.false_and, Bool.and_true, Bool.and_false, Bool.or_true, Bool.or_false, Bool.true_or, Bool.false_or, Option.map_some, Option.map_none, Int.toNat_natCast, ↓reduceIte, Bool.false_eq_true, reduceCtorEq, Int.cast_ofNat_Int, Int.reduceLT, Int.reduceLE, Int.reduceAdd, Int.reduceSub, Int.reduceNeg, Int.natCast_zero, pY, and_assoc, ↓Pq, ↓Pr, ↓Pu, ↓VB, ↓aU, ↓xW, ↓xX, ↓xY, ↓xZ, ↓yc, ↓ye, ↓yf, ↓yg, ↓yh, ↓yj, ↓ym, ↓yo, ↓vL, ↓vM, ↓xg, ↓vP, ↓v8, ↓u9, ↓vf, ↓vg, ↓wC, ↓Es, aF, aG, aV, aP, aM, aW, aH, aX, aQ, az, aN, aY, aZ, au, v, i1, ca, lt, lr, ls, de, ne, e1, c1, g8, st0, JV, ap, wj]
   refine ⟨by omega, by omega, by omega, by omega, ?_⟩
   first | exact ⟨rfl, _, _, rfl⟩ | exact ⟨_, _, rfl⟩
abbrev FS (S0 : D) (k : Int) (s n : Nat) (l : Lk) (fr : Fr) : Prop := ∃ d5 x7 x8 x9, T5 n l d5 ∧ fr = FQ S0 k s n l d5 x7 x8 x9
theorem turns (h2 : 2 ≤ n) (h4 : n ≤ 4) (hl : l ∈ xJ) {fr : Fr} (hf : FS S0 k s n l fr) : Wp (zj fr h) (fun f fr _ => f = .nx ∧ ∃ x2 x3 x4 x5 x6 x7 x8 x9, fr = [some S0, some (.int k), x2, x3, x4, x5, x6, x7, x8, x9]) wU := by
 have lt : ∀ h : Hh, uL [l.ldD] h = .ok (.str l.txt) [] h := fun h => VM hl
 have tx : ∀ h : Hh, Bw [tm n l.ndD] h = .ok (.str l.txt) [] h := fun h => Xp hl
 have ce : ∀ h : Hh, uE h (.str l.txt) (.str l.txt) = some true := fun h => (Gh (ab6 hl) (ab6 hl)).trans (congrArg some (decide_eq_true rfl))
 unfold zj
 rw [m7, gU]
 simp only [↓ou, ↓mU, ↓wp_bind, ↓oM, ↓tZ, ↓sE, ↓oN, ↓iH, ↓nM, ↓oO, ↓rQ, ↓rR, ↓sG, ↓oR, ↓iI, ↓oU, ↓sH, ↓iJ, ↓iK, ↓oV, ↓cU, ↓sJ, ↓cV, ↓cW, ↓oW, ↓oX, ↓iQ, ↓sO, ↓qd, ↓iT, ↓oY, ↓sS, ↓ig, ↓iU, ↓iV, ↓m7, ↓oZ, ↓iW, ↓nO, ↓o5, ↓o7, ↓iY, ↓gU, ↓sU, ↓il, ↓cX, ↓bA, ↓cY, ↓o8, ↓jc, ↓je, ↓jf, ↓jh, ↓ji, ↓jk, ↓jm, ↓bB, ↓jn, ↓jo, ↓jr, ↓j6, ↓qp, ↓jt, ↓ir, ↓ju, ↓jV, gM, oE, oF, nQ, ie, ue, uf, gR, oG, nH, oH, iG, oJ, oK, nJ, mX, mY, gY, ni, cZ, jP, pX, iZ, ↓km, ↓kE, ↓eO, ↓qu, ↓tK, ↓kJ, ↓kW, ↓oA, ↓lB, ↓lC, ↓qG, ↓qH, ↓qI, ↓qL, ↓lF, ↓eV, ↓tL, ↓eX, ↓lG, ↓lL, ↓lM, ↓fG, ↓fH, ↓fJ, ↓bY, ↓qM, ↓lN, ↓fL, ↓fM, ↓qN, ↓lU, ↓fO, ↓fP, ↓fQ, ↓qO, ↓qP, ↓qQ, ↓qR, ↓lX, ↓fU, ↓bZ, ↓cA, ↓qY, ↓qZ, ↓fY, ↓rA, ↓lZ, ↓mD, ↓mF, ↓fZ, ↓gh, ↓gj, ↓cG, ↓mH, ↓gA, ↓rB, ↓gG, jw, pD, o9, sV, jx, pF, jy, fz_non, jA, pG, ph, sW, pq, sX, jB, pH, jC, pJ, jD, pK, pA, sY, pB, tD, pC, tE, gQ, mV, m9, mW, di, jE, iw, jF, dw, pM, jG, jH, ul, uo, uv, uw, ux, uz, uA, tG, mK, rW, dB, dC, jJ, dD, dF, bD, dG, dH, bF, dI, nR, pN, pO, pP, jK, jL, dJ, tH, jM, pQ, jN, jO, pU, pW, rY, rZ, dR, jQ, dU, bO, dW, bQ, jR, dX, bR, dY, dZ, jT, jU, uh, uR, u6, bU, bV, eE, j7, d8, bT, pZ, qb, jW, d9, jY, jZ, j5, qm, jX, qj, ql, ai3, ai4, ai5, aiV, Int.reduceToNat, bG, bH, dM, bJ, bK, dN, dO, bL, bM, eQ, eU, lD, qJ, qK, Option.isSome_some, Option.isSome_none, lE, Int.reduceEq, beq_self_eq_true, cQ, cR, eY, lH, eZ, fj, fu, lJ, lK, fB, fD, fK, bW, bz, lO, lQ, lV, lW, fV, cC, cD, lY, fX, qT, tM, qU, qW, qX, uB, uC, gq, mG, nj, nU, iy, nW, j8, kh, eG, j9, kY, qw, kZ, lg, qC, lu, lw, lA, qD, qF, startF, aiR, aiT, aiY, ai2, aiS, aiU, ai0, ai1, ai6, ai7, aiZ, aiW, aiX, Nat.reduceAdd, Nat.reduceSub, Nat.reduceLeDiff, Nat.reduceLT, Nat.zero_add, and_true, true_and, and_self, false_and, and_false, not_true_eq_false, not_false_eq_true, eq_self, decide_true, decide_false, Bool.not_true, Bool.not_false, Bool.true_and, Bool.false_and, Bool.and_true, Bool.and_false, Bool.or_true, Bool.or_false, Bool.true_or, Bool.false_or, Option.map_some, Option.map_none, Int.toNat_natCast, ↓reduceIte, Bool.false_eq_true, reduceCtorEq, Int.cast_ofNat_Int, Int.reduceLT, Int.reduceLE, Int.reduceAdd, Int.reduceSub, Int.reduceNeg, Int.natCast_zero, pY, and_assoc, ↓uV, ↓uW, ↓uX, ↓uY, ↓uZ, ↓wI, ↓vQ, ↓vR, ↓wM, ↓aU, ↓Di, ↓xW, ↓xX, ↓xY, ↓xZ, ↓yc, ↓ye, ↓yf, ↓yg, ↓yh, ↓yj, ↓ym, ↓yo, ↓vL, ↓vM, ↓xg, ↓vP, ↓v8, ↓u9, ↓vf, ↓vg, ↓wC, ↓Es, aF, aG, aV, aP, aM, aW, aH, aX, aQ, az, aN, aY, aZ, au]
 refine ⟨by decide, aaT (fun _ fr _ => FS S0 k s n l fr) hf ?_ ?_⟩
 · rintro j fr h' j0 j1 ⟨d5, x7, x8, x9, h5, rfl⟩
   have t := inner (S0 := S0) (k := k) (s := s) (h := h') h2 h4 hl h5 (some (.int j)) x8 x9
   unfold FQ at t ⊢
   generalize GF = B at t ⊢
   simp only [↓ou, ↓mU, ↓wp_bind, ↓oM, ↓tZ, ↓sE, ↓oN, ↓iH, ↓nM, ↓oO, ↓rQ, ↓rR, ↓sG, ↓oR, ↓iI, ↓oU, ↓sH, ↓iJ, ↓iK, ↓oV, ↓cU, ↓sJ, ↓cV, ↓cW, ↓oW, ↓oX, ↓iQ, ↓sO, ↓qd, ↓iT, ↓oY, ↓sS, ↓ig, ↓iU, ↓iV, ↓m7, ↓oZ, ↓iW, ↓nO, ↓o5, ↓o7, ↓iY, ↓gU, ↓sU, ↓il, ↓cX, ↓bA, ↓cY, ↓o8, ↓jc, ↓je, ↓jf, ↓jh, ↓ji, ↓jk, ↓jm, ↓bB, ↓jn, ↓jo, ↓jr, ↓j6, ↓qp, ↓jt, ↓ir, ↓ju, ↓jV, gM, oE, oF, nQ, ie, ue, uf, gR, oG, nH, oH, iG, oJ, oK, nJ, mX, mY, gY, ni, cZ, jP, pX, iZ, ↓km, ↓kE, ↓eO, ↓qu, ↓tK, ↓kJ, ↓kW, ↓oA, ↓lB, ↓lC, ↓qG, ↓qH, ↓qI, ↓qL, ↓lF, ↓eV, ↓tL, ↓eX, ↓lG, ↓lL, ↓lM, ↓fG, ↓fH, ↓fJ, ↓bY, ↓qM, ↓lN, ↓fL, ↓fM, ↓qN, ↓lU, ↓fO, ↓fP, ↓fQ, ↓qO, ↓qP, ↓qQ, ↓qR, ↓lX, ↓fU, ↓bZ, ↓cA, ↓qY, ↓qZ, ↓fY, ↓rA, ↓lZ, ↓mD, ↓mF, ↓fZ, ↓gh, ↓gj, ↓cG, ↓mH, ↓gA, ↓rB, ↓gG, jw, pD, o9, sV, jx, pF, jy, fz_non, jA, pG, ph, sW, pq, sX, jB, pH, jC, pJ, jD, pK, pA, sY, pB, tD, pC, tE, gQ, mV, m9, mW, di, jE, iw, jF, dw, pM, jG, jH, ul, uo, uv, uw, ux, uz, uA, tG, mK, rW, dB, dC, jJ, dD, dF, bD, dG, dH, bF, dI, nR, pN, pO, pP, jK, jL, dJ, tH, jM, pQ, jN, jO, pU, pW, rY, rZ, dR, jQ, dU, bO, dW, bQ, jR, dX, bR, dY, dZ, jT, jU, uh, uR, u6, bU, bV, eE, j7, d8, bT, pZ, qb, jW, d9, jY, jZ, j5, qm, jX, qj, ql, ai3, ai4, ai5, aiV, Int.reduceToNat, bG, bH, dM, bJ, bK, dN, dO, bL, bM, eQ, eU, lD, qJ, qK, Option.isSome_some, Option.isSome_none, lE, Int.reduceEq, beq_self_eq_true, cQ, cR, eY, lH, eZ, fj, fu, lJ, lK, fB, fD, fK, bW, bz, lO, lQ, lV, lW, fV, cC, cD, lY, fX, qT, tM, qU, qW, qX, uB, uC, gq, mG, nj, nU, iy, nW, j8, kh, eG, j9, kY, qw, kZ, lg, qC, lu, lw, lA, qD, qF, startF, aiR, aiT, aiY, ai2, aiS, aiU, ai0, ai1, ai6, ai7, aiZ, aiW, aiX, Nat.reduceAdd, Nat.reduceSub, Nat.reduceLeDiff, Nat.reduceLT, Nat.zero_add, and_true, true_and, and_self, false_and, and_false, not_true_eq_false, not_false_eq_true, eq_self, decide_true, decide_false, Bool.not_true, Bool.not_false, Bool.true_and, Bool.false_and, Bool.and_true, Bool.and_false, Bool.or_true, Bool.or_false, Bool.true_or, Bool.false_or, Option.map_some, Option.map_none, Int.toNat_natCast, ↓reduceIte, Bool.false_eq_true, reduceCtorEq, Int.cast_ofNat_Int, Int.reduceLT, Int.reduceLE, Int.reduceAdd, Int.reduceSub, Int.reduceNeg, Int.natCast_zero, pY, and_assoc, ↓uV, ↓uW, ↓uX, ↓uY, ↓uZ, ↓wI, ↓vQ, ↓vR, ↓wM, ↓aU, ↓Di, ↓xW, ↓xX, ↓xY, ↓xZ, ↓yc, ↓ye, ↓yf, ↓yg, ↓yh, ↓yj, ↓ym, ↓yo, ↓vL, ↓vM, ↓xg, ↓vP, ↓v8, ↓u9, ↓vf, ↓vg, ↓wC, ↓Es, aF, aG, aV, aP, aM, aW, aH, aX, aQ, az, aN, aY, aZ, au]
   refine t.mono ?_
   rintro f fr h'' ⟨rfl, y8, y9, rfl⟩
   simp only [↓ou, ↓mU, ↓wp_bind, ↓oM, ↓tZ, ↓sE, ↓oN, ↓iH, ↓nM, ↓oO, ↓rQ, ↓rR, ↓sG, ↓oR, ↓iI, ↓oU, ↓sH, ↓iJ, ↓iK, ↓oV, ↓cU, ↓sJ, ↓cV, ↓cW, ↓oW, ↓oX, ↓iQ, ↓sO, ↓qd, ↓iT, ↓oY, ↓sS, ↓ig, ↓iU, ↓iV, ↓m7, ↓oZ, ↓iW, ↓nO, ↓o5, ↓o7, ↓iY, ↓gU, ↓sU, ↓il, ↓cX, ↓bA, ↓cY, ↓o8, ↓jc, ↓je, ↓jf, ↓jh, ↓ji, ↓jk, ↓jm, ↓bB, ↓jn, ↓jo, ↓jr, ↓j6, ↓qp, ↓jt, ↓ir, ↓ju, ↓jV, gM, oE, oF, nQ, ie, ue, uf, gR, oG, nH, oH, iG, oJ, oK, nJ, mX, mY, gY, ni, cZ, jP, pX, iZ, ↓km, ↓kE, ↓eO, ↓qu, ↓tK, ↓kJ, ↓kW, ↓oA, ↓lB, ↓lC, ↓qG, ↓qH, ↓qI, ↓qL, ↓lF, ↓eV, ↓tL, ↓eX, ↓lG, ↓lL, ↓lM, ↓fG, ↓fH, ↓fJ, ↓bY, ↓qM, ↓lN, ↓fL, ↓fM, ↓qN, ↓lU, ↓fO, ↓fP, ↓fQ, ↓qO, ↓qP, ↓qQ, ↓qR, ↓lX, ↓fU, ↓bZ, ↓cA, ↓qY, ↓qZ, ↓fY, ↓rA, ↓lZ, ↓mD, ↓mF, ↓fZ, ↓gh, ↓gj, ↓cG, ↓mH, ↓gA, ↓rB, ↓gG, jw, pD, o9, sV, jx, pF, jy, fz_non, jA, pG, ph, sW, pq, sX, jB, pH, jC, pJ, jD, pK, pA, sY, pB, tD, pC, tE, gQ, mV, m9, mW, di, jE, iw, jF, dw, pM, jG, jH, ul, uo, uv, uw, ux, uz, uA, tG, mK, rW, dB, dC, jJ, dD, dF, bD, dG, dH, bF, dI, nR, pN, pO, pP, jK, jL, dJ, tH, jM, pQ, jN, jO, pU, pW, rY, rZ, dR, jQ, dU, bO, dW, bQ, jR, dX, bR, dY, dZ, jT, jU, uh, uR, u6, bU, bV, eE, j7, d8, bT, pZ, qb, jW, d9, jY, jZ, j5, qm, jX, qj, ql, ai3, ai4, ai5, aiV, Int.reduceToNat, bG, bH, dM, bJ, bK, dN, dO, bL, bM, eQ, eU, lD, qJ, qK, Option.isSome_some, Option.isSome_none, lE, Int.reduceEq, beq_self_eq_true, cQ, cR, eY, lH, eZ, fj, fu, lJ, lK, fB, fD, fK, bW, bz, lO, lQ, lV, lW, fV, cC, cD, lY, fX, qT, tM, qU, qW, qX, uB, uC, gq, mG, nj, nU, iy, nW, j8, kh, eG, j9, kY, qw, kZ, lg, qC, lu, lw, lA, qD, qF, startF, aiR, aiT, aiY, ai2, aiS, aiU, ai0, ai1, ai6, ai7, aiZ, aiW, aiX, Nat.reduceAdd, Nat.reduceSub, Nat.reduceLeDiff, Nat.reduceLT, Nat.zero_add, and_true, true_and, and_self, false_and, and_false, not_true_eq_false, not_false_eq_true, eq_self, decide_true, decide_false, Bool.not_true, Bool.not_false, Bool.true_and, Bool.false_and, Bool.and_true, Bool.and_false, Bool.or_true, Bool.or_false, Bool.true_or, Bool.false_or, Option.map_some, Option.map_none, Int.toNat_natCast, ↓reduceIte, Bool.false_eq_true, reduceCtorEq, Int.cast_ofNat_Int, Int.reduceLT, Int.reduceLE, Int.reduceAdd, Int.reduceSub, Int.reduceNeg, Int.natCast_zero, pY, and_assoc, ↓uV, ↓uW, ↓uX, ↓uY, ↓uZ, ↓wI, ↓vQ, ↓vR, ↓wM, ↓aU, ↓Di, ↓xW, ↓xX, ↓xY, ↓xZ, ↓yc, ↓ye, ↓yf, ↓yg, ↓yh, ↓yj, ↓ym, ↓yo, ↓vL, ↓vM, ↓xg, ↓vP, ↓v8, ↓u9, ↓vf, ↓vg, ↓wC, ↓Es, aF, aG, aV, aP, aM, aW, aH, aX, aQ, az, aN, aY, aZ, au]
   exact ⟨_, _, _, _, .inr rfl, rfl⟩
 · rintro fr h' ⟨d5, x7, x8, x9, h5, rfl⟩
   unfold FQ
   have own : l.ldD.own = false := by cases l <;> rfl
   have fz : l.ldD.fz = l.ldD := by cases l <;> rfl
   generalize l.ldD = ld at *
   rcases h5 with rfl | rfl
   · unfold tm at *
     generalize l.ndD = nd at *
     simp only [↓ou, ↓mU, ↓wp_bind, ↓oM, ↓tZ, ↓sE, ↓oN, ↓iH, ↓nM, ↓oO, ↓rQ, ↓rR, ↓sG, ↓oR, ↓iI, ↓oU, ↓sH, ↓iJ, ↓iK, ↓oV, ↓cU, ↓sJ, ↓cV, ↓cW, ↓oW, ↓oX, ↓iQ, ↓sO, ↓qd, ↓iT, ↓oY, ↓sS, ↓ig, ↓iU, ↓iV, ↓m7, ↓oZ, ↓iW, ↓nO, ↓o5, ↓o7, ↓iY, ↓gU, ↓sU, ↓il, ↓cX, ↓bA, ↓cY, ↓o8, ↓jc, ↓je, ↓jf, ↓jh, ↓ji, ↓jk, ↓jm, ↓bB, ↓jn, ↓jo, ↓jr, ↓j6, ↓qp, ↓jt, ↓ir, ↓ju, ↓jV, gM, oE, oF, nQ, ie, ue, uf, gR, oG, nH, oH, iG, oJ, oK, nJ, mX, mY, gY, ni, cZ, jP, pX, iZ, ↓km, ↓kE, ↓eO, ↓qu, ↓tK, ↓kJ, ↓kW, ↓oA, ↓lB, ↓lC, ↓qG, ↓qH, ↓qI, ↓qL, ↓lF, ↓eV, ↓tL, ↓eX, ↓lG, ↓lL, ↓lM, ↓fG, ↓fH, ↓fJ, ↓bY, ↓qM, ↓lN, ↓fL, ↓fM, ↓qN, ↓lU, ↓fO, ↓fP, ↓fQ, ↓qO, ↓qP, ↓qQ, ↓qR, ↓lX, ↓fU, ↓bZ, ↓cA, ↓qY, ↓qZ, ↓fY, ↓rA, ↓lZ, ↓mD, ↓mF, ↓fZ, ↓gh, ↓gj, ↓cG, ↓mH, ↓gA, ↓rB, ↓gG, jw, pD, o9, sV, jx, pF, jy, fz_non, jA, pG, ph, sW, pq, sX, jB, pH, jC, pJ, jD, pK, pA, sY, pB, tD, pC, tE, gQ, mV, m9, mW, di, jE, iw, jF, dw, pM, jG, jH, ul, uo, uv, uw, ux, uz, uA, tG, mK, rW, dB, dC, jJ, dD, dF, bD, dG, dH, bF, dI, nR, pN, pO, pP, jK, jL, dJ, tH, jM, pQ, jN, jO, pU, pW, rY, rZ, dR, jQ, dU, bO, dW, bQ, jR, dX, bR, dY, dZ, jT, jU, uh, uR, u6, bU, bV, eE, j7, d8, bT, pZ, qb, jW, d9, jY, jZ, j5, qm, jX, qj, ql, ai3, ai4, ai5, aiV, Int.reduceToNat, bG, bH, dM, bJ, bK, dN, dO, bL, bM, eQ, eU, lD, qJ, qK, Option.isSome_some, Option.isSome_none, lE, Int.reduceEq, beq_self_eq_true, cQ, cR, eY, lH, eZ, fj, fu, lJ, lK, fB, fD, fK, bW, bz, lO, lQ, lV, lW, fV, cC, cD, lY, fX, qT, tM, qU, qW, qX, uB, uC, gq, mG, nj, nU, iy, nW, j8, kh, eG, j9, kY, qw, kZ, lg, qC, lu, lw, lA, qD, qF, startF, aiR, aiT, aiY, ai2, aiS, aiU, ai0, ai1, ai6, ai7, aiZ, aiW, aiX, Nat.reduceAdd, Nat.reduceSub, Nat.reduceLeDiff, Nat.reduceLT, Nat.zero_add, and_true, true_and, and_self, false_and, and_false, not_true_eq_false, not_false_eq_true, eq_self, decide_true, decide_false, Bool.not_true, Bool.not_false, Bool.true_and, Bool.false_and, Bool.and_true, Bool.and_false, Bool.or_true, Bool.or_false, Bool.true_or, Bool.false_or, Option.map_some, Option.map_none, Int.toNat_natCast, ↓reduceIte, Bool.false_eq_true, reduceCtorEq, Int.cast_ofNat_Int, Int.reduceLT, Int.reduceLE, Int.reduceAdd, Int.reduceSub, Int.reduceNeg, Int.natCast_zero, pY, and_assoc, ↓uV, ↓uW, ↓uX, ↓uY, ↓uZ, ↓wI, ↓vQ, ↓vR, ↓wM, ↓aU, ↓Di, ↓xW, ↓xX, ↓xY, ↓xZ, ↓yc, ↓ye, ↓yf, ↓yg, ↓yh, ↓yj, ↓ym, ↓yo, ↓vL, ↓vM, ↓xg, ↓vP, ↓v8, ↓u9, ↓vf, ↓vg, ↓wC, ↓Es, aF, aG, aV, aP, aM, aW, aH, aX, aQ, az, aN, aY, aZ, au, lt, tx, ce, own, fz]
     exact ⟨_, _, _, _, _, _, _, _, rfl⟩
   · unfold tm at *
     generalize l.ndD = nd at *
     simp only [↓ou, ↓mU, ↓wp_bind, ↓oM, ↓tZ, ↓sE, ↓oN, ↓iH, ↓nM, ↓oO, ↓rQ, ↓rR, ↓sG, ↓oR, ↓iI, ↓oU, ↓sH, ↓iJ, ↓iK, ↓oV, ↓cU, ↓sJ, ↓cV, ↓cW, ↓oW, ↓oX, ↓iQ, ↓sO, ↓qd, ↓iT, ↓oY, ↓sS, ↓ig, ↓iU, ↓iV, ↓m7, ↓oZ, ↓iW, ↓nO, ↓o5, ↓o7, ↓iY, ↓gU, ↓sU, ↓il, ↓cX, ↓bA, ↓cY, ↓o8, ↓jc, ↓je, ↓jf, ↓jh, ↓ji, ↓jk, ↓jm, ↓bB, ↓jn, ↓jo, ↓jr, ↓j6, ↓qp, ↓jt, ↓ir, ↓ju, ↓jV, gM, oE, oF, nQ, ie, ue, uf, gR, oG, nH, oH, iG, oJ, oK, nJ, mX, mY, gY, ni, cZ, jP, pX, iZ, ↓km, ↓kE, ↓eO, ↓qu, ↓tK, ↓kJ, ↓kW, ↓oA, ↓lB, ↓lC, ↓qG, ↓qH, ↓qI, ↓qL, ↓lF, ↓eV, ↓tL, ↓eX, ↓lG, ↓lL, ↓lM, ↓fG, ↓fH, ↓fJ, ↓bY, ↓qM, ↓lN, ↓fL, ↓fM, ↓qN, ↓lU, ↓fO, ↓fP, ↓fQ, ↓qO, ↓qP, ↓qQ, ↓qR, ↓lX, ↓fU, ↓bZ, ↓cA, ↓qY, ↓qZ, ↓fY, ↓rA, ↓lZ, ↓mD, ↓mF, ↓fZ, ↓gh, ↓gj, ↓cG, ↓mH, ↓gA, ↓rB, ↓gG, jw, pD, o9, sV, jx, pF, jy, fz_non, jA, pG, ph, sW, pq, sX, jB, pH, jC, pJ, jD, pK, pA, sY, pB, tD, pC, tE, gQ, mV, m9, mW, di, jE, iw, jF, dw, pM, jG, jH, ul, uo, uv, uw, ux, uz, uA, tG, mK, rW, dB, dC, jJ, dD, dF, bD, dG, dH, bF, dI, nR, pN, pO, pP, jK, jL, dJ, tH, jM, pQ, jN, jO, pU, pW, rY, rZ, dR, jQ, dU, bO, dW, bQ, jR, dX, bR, dY, dZ, jT, jU, uh, uR, u6, bU, bV, eE, j7, d8, bT, pZ, qb, jW, d9, jY, jZ, j5, qm, jX, qj, ql, ai3, ai4, ai5, aiV, Int.reduceToNat, bG, bH, dM, bJ, bK, dN, dO, bL, bM, eQ, eU, lD, qJ, qK, Option.isSome_some, Option.isSome_none, lE, Int.reduceEq, beq_self_eq_true, cQ, cR, eY, lH, eZ, fj, fu, lJ, lK, fB, fD, fK, bW, bz, lO, lQ, lV, lW, fV, cC, cD, lY, fX, qT, tM, qU, qW, qX, uB, uC, gq, mG, nj, nU, iy, nW, j8, kh, eG, j9, kY, qw, kZ, lg, qC, lu, lw, lA, qD, qF, startF, aiR, aiT, aiY, ai2, aiS, aiU, ai0, ai1, ai6, ai7, aiZ, aiW, aiX, Nat.reduceAdd, Nat.reduceSub, Nat.reduceLeDiff, Nat.reduceLT, Nat.zero_add, and_true, true_and, and_self, false_and, and_false, not_true_eq_false, not_false_eq_true, eq_self, decide_true, decide_false, Bool.not_true, Bool.not_false, Bool.true_and, Bool.false_and, Bool.and_true, Bool.and_false, Bool.or_true, Bool.or_false, Bool.true_or, Bool.false_or, Option.map_some, Option.map_none, Int.toNat_natCast, ↓reduceIte, Bool.false_eq_true, reduceCtorEq, Int.cast_ofNat_Int, Int.reduceLT, Int.reduceLE, Int.reduceAdd, Int.reduceSub, Int.reduceNeg, Int.natCast_zero, pY, and_assoc, ↓uV, ↓uW, ↓uX, ↓uY, ↓uZ, ↓wI, ↓vQ, ↓vR, ↓wM, ↓aU, ↓Di, ↓xW, ↓xX, ↓xY, ↓xZ, ↓yc, ↓ye, ↓yf, ↓yg, ↓yh, ↓yj, ↓ym, ↓yo, ↓vL, ↓vM, ↓xg, ↓vP, ↓v8, ↓u9, ↓vf, ↓vg, ↓wC, ↓Es, aF, aG, aV, aP, aM, aW, aH, aX, aQ, az, aN, aY, aZ, au, lt, tx, ce, own, fz]
     exact ⟨_, _, _, _, _, _, _, _, rfl⟩
theorem body {q : Nat} (hq : q ≤ 62) (x2 x3 x4 x5 x6 x7 x8 x9 : Option D) :
 Wp (Jy [some (.kl (ns.map .int)), some (.int (q : Int)), x2, x3, x4, x5, x6, x7, x8, x9] h) (fun f fr _ => (f = .nx ∨ f = .ct) ∧ ∃ x1 ys, fr = some (.kl (ns.map .int)) :: x1 :: ys ∧ ys.length = 10 - 2) wU := by
 obtain ⟨a, b, e1, b0, b1⟩ := aan (h := h) (ns := ns) hq
 have S1 : Src (h ++ [.nl [.int a, .int b, .int 0]]) h.length 0 := ⟨a, b, 0, by rw [aji (Nat.le_refl _), Nat.sub_self]; rfl, b0, b1, by decide, by decide⟩
 obtain ⟨r, h2, e2, S2, r0, r1⟩ := JK (m := 3) S1 (by omega) (by decide) (by decide)
 obtain ⟨n, hn⟩ : ∃ n : Nat, 2 + r = (n : Int) := ⟨(2 + r).toNat, by omega⟩
 have n2 : 2 ≤ n := by omega
 have n4 : n ≤ 4 := by omega
 obtain ⟨l, h3, e3, S3, hl, hi⟩ := ab5 (sz := n) S2 (by omega) n2 n4
 have lt : ∀ h : Hh, uL [l.ldD] h = .ok (.str l.txt) [] h := fun h => VM hl
 obtain ⟨r4, e4⟩ := ac1 (h0 := h3) hl hi
 have du := of_map (afP (h := h3 ++ r4) (x0 := some (.kl (ns.map .int))) (x1 := some (.int (q : Int))) (x2 := some (.ref h.length)) (x3 := some (.int (n : Int))) (x5 := some (.no 1 [.int (n : Int), l.ndD])) (x6 := x6) (x7 := x7) (x8 := x8) (x9 := x9)) l hl
 have tt := turns (S0 := .kl (ns.map .int)) (k := (q : Int)) (s := h.length) (h := h3 ++ r4) n2 n4 hl (fr := FQ (.kl (ns.map .int)) (q : Int) h.length n l (.no 1 [.int (n : Int), l.ndD]) x7 x8 none) ⟨_, _, _, _, .inl rfl, rfl⟩
 unfold FQ at tt
 have own : l.ldD.own = false := by cases l <;> rfl
 have fz : l.ldD.fz = l.ldD := by cases l <;> rfl
 unfold Ht at tt
 generalize l.ldD = ld at *
 generalize l.ndD = nd at *
 generalize ns.map D.int = S0 at *
 generalize (l.vars.map fun v => D.str v.txt) = tx at *
 have hk4 : Cu = aC (cP 6 (Jt [9] (Jr (mJ (cJ 1 0 yO (aK []) (aj [(ak 4)]) (aj [])))) Gu Gv Gx)) zj := rfl
 have k4 : Wp (Cu [some (.kl S0), some (.int (q : Int)), some (.ref h.length), some (.int (n : Int)), some ld, some (.no 1 [.int (n : Int), nd]), x6, x7, x8, x9] (h3 ++ r4)) (fun f fr _ => (f = .nx ∨ f = .ct) ∧ ∃ x1 ys, fr = some (.kl S0) :: x1 :: ys ∧ ys.length = 10 - 2) wU := by
  rw [hk4]
  generalize zj = B at tt ⊢
  generalize Jt [9] (Jr (mJ (cJ 1 0 yO (aK []) (aj [(ak 4)]) (aj [])))) Gu Gv Gx = M0 at du ⊢
  simp only [↓ou, ↓mU, ↓wp_bind, ↓oM, ↓tZ, ↓sE, ↓oN, ↓iH, ↓nM, ↓oO, ↓rQ, ↓rR, ↓sG, ↓oR, ↓iI, ↓oU, ↓sH, ↓iJ, ↓iK, ↓oV, ↓cU, ↓sJ, ↓cV, ↓cW, ↓oW, ↓oX, ↓iQ, ↓sO, ↓qd, ↓iT, ↓oY, ↓sS, ↓ig, ↓iU, ↓iV, ↓m7, ↓oZ, ↓iW, ↓nO, ↓o5, ↓o7, ↓iY, ↓gU, ↓sU, ↓il, ↓cX, ↓bA, ↓cY, ↓o8, ↓jc, ↓je, ↓jf, ↓jh, ↓ji, ↓jk, ↓jm, ↓bB, ↓jn, ↓jo, ↓jr, ↓j6, ↓qp, ↓jt, ↓ir, ↓ju, ↓jV, gM, oE, oF, nQ, ie, ue, uf, gR, oG, nH, oH, iG, oJ, oK, nJ, mX, mY, gY, ni, cZ, jP, pX, iZ, ↓km, ↓kE, ↓eO, ↓qu, ↓tK, ↓kJ, ↓kW, ↓oA, ↓lB, ↓lC, ↓qG, ↓qH, ↓qI, ↓qL, ↓lF, ↓eV, ↓tL, ↓eX, ↓lG, ↓lL, ↓lM, ↓fG, ↓fH, ↓fJ, ↓bY, ↓qM, ↓lN, ↓fL, ↓fM, ↓qN, ↓lU, ↓fO, ↓fP, ↓fQ, ↓qO, ↓qP, ↓qQ, ↓qR, ↓lX, ↓fU, ↓bZ, ↓cA, ↓qY, ↓qZ, ↓fY, ↓rA, ↓lZ, ↓mD, ↓mF, ↓fZ, ↓gh, ↓gj, ↓cG, ↓mH, ↓gA, ↓rB, ↓gG, jw, pD, o9, sV, jx, pF, jy, fz_non, jA, pG, ph, sW, pq, sX, jB, pH, jC, pJ, jD, pK, pA, sY, pB, tD, pC, tE, gQ, mV, m9, mW, di, jE, iw, jF, dw, pM, jG, jH, ul, uo, uv, uw, ux, uz, uA, tG, mK, rW, dB, dC, jJ, dD, dF, bD, dG, dH, bF, dI, nR, pN, pO, pP, jK, jL, dJ, tH, jM, pQ, jN, jO, pU, pW, rY, rZ, dR, jQ, dU, bO, dW, bQ, jR, dX, bR, dY, dZ, jT, jU, uh, uR, u6, bU, bV, eE, j7, d8, bT, pZ, qb, jW, d9, jY, jZ, j5, qm, jX, qj, ql, ai3, ai4, ai5, aiV, Int.reduceToNat, bG, bH, dM, bJ, bK, dN, dO, bL, bM, eQ, eU, lD, qJ, qK, Option.isSome_some, Option.isSome_none, lE, Int.reduceEq, beq_self_eq_true, cQ, cR, eY, lH, eZ, fj, fu, lJ, lK, fB, fD, fK, bW, bz, lO, lQ, lV, lW, fV, cC, cD, lY, fX, qT, tM, qU, qW, qX, uB, uC, gq, mG, nj, nU, iy, nW, j8, kh, eG, j9, kY, qw, kZ, lg, qC, lu, lw, lA, qD, qF, startF, aiR, aiT, aiY, ai2, aiS, aiU, ai0, ai1, ai6, ai7, aiZ, aiW, aiX, Nat.reduceAdd, Nat.reduceSub, Nat.reduceLeDiff, Nat.reduceLT, Nat.zero_add, and_true, true_and, and_self, false_and, and_false, not_true_eq_false, not_false_eq_true, eq_self, decide_true, decide_false, Bool.not_true, Bool.not_false, Bool.true_and, Bool.false_and, Bool.and_true, Bool.and_false, Bool.or_true, Bool.or_false, Bool.true_or, Bool.false_or, Option.map_some, Option.map_none, Int.toNat_natCast, ↓reduceIte, Bool.false_eq_true, reduceCtorEq, Int.cast_ofNat_Int, Int.reduceLT, Int.reduceLE, Int.reduceAdd, Int.reduceSub, Int.reduceNeg, Int.natCast_zero, pY, and_assoc, ↓uV, ↓uW, ↓uX, ↓uY, ↓uZ, ↓wI, ↓vQ, ↓vR, ↓wM, ↓aU, ↓JC, ↓JD, ↓JF, ↓JG, ↓JH, ↓Mu, ↓xW, ↓xX, ↓xY, ↓xZ, ↓yc, ↓ye, ↓yf, ↓yg, ↓yh, ↓yj, ↓ym, ↓yo, ↓vL, ↓vM, ↓xg, ↓vP, ↓v8, ↓u9, ↓vf, ↓vg, ↓wC, ↓Es, aF, aG, aV, aP, aM, aW, aH, aX, aQ, az, aN, aY, aZ, au, du]
  refine tt.mono ?_
  rintro f fr h' ⟨rfl, y2, y3, y4, y5, y6, y7, y8, y9, rfl⟩
  exact ⟨.inl rfl, _, _, rfl, rfl⟩
 simp only [↓ou, ↓mU, ↓wp_bind, ↓oM, ↓tZ, ↓sE, ↓oN, ↓iH, ↓nM, ↓oO, ↓rQ, ↓rR, ↓sG, ↓oR, ↓iI, ↓oU, ↓sH, ↓iJ, ↓iK, ↓oV, ↓cU, ↓sJ, ↓cV, ↓cW, ↓oW, ↓oX, ↓iQ, ↓sO, ↓qd, ↓iT, ↓oY, ↓sS, ↓ig, ↓iU, ↓iV, ↓m7, ↓oZ, ↓iW, ↓nO, ↓o5, ↓o7, ↓iY, ↓gU, ↓sU, ↓il, ↓cX, ↓bA, ↓cY, ↓o8, ↓jc, ↓je, ↓jf, ↓jh, ↓ji, ↓jk, ↓jm, ↓bB, ↓jn, ↓jo, ↓jr, ↓j6, ↓qp, ↓jt, ↓ir, ↓ju, ↓jV, gM, oE, oF, nQ, ie, ue, uf, gR, oG, nH, oH, iG, oJ, oK, nJ, mX, mY, gY, ni, cZ, jP, pX, iZ, ↓km, ↓kE, ↓eO, ↓qu, ↓tK, ↓kJ, ↓kW, ↓oA, ↓lB, ↓lC, ↓qG, ↓qH, ↓qI, ↓qL, ↓lF, ↓eV, ↓tL, ↓eX, ↓lG, ↓lL, ↓lM, ↓fG, ↓fH, ↓fJ, ↓bY, ↓qM, ↓lN, ↓fL, ↓fM, ↓qN, ↓lU, ↓fO, ↓fP, ↓fQ, ↓qO, ↓qP, ↓qQ, ↓qR, ↓lX, ↓fU, ↓bZ, ↓cA, ↓qY, ↓qZ, ↓fY, ↓rA, ↓lZ, ↓mD, ↓mF, ↓fZ, ↓gh, ↓gj, ↓cG, ↓mH, ↓gA, ↓rB, ↓gG, jw, pD, o9, sV, jx, pF, jy, fz_non, jA, pG, ph, sW, pq, sX, jB, pH, jC, pJ, jD, pK, pA, sY, pB, tD, pC, tE, gQ, mV, m9, mW, di, jE, iw, jF, dw, pM, jG, jH, ul, uo, uv, uw, ux, uz, uA, tG, mK, rW, dB, dC, jJ, dD, dF, bD, dG, dH, bF, dI, nR, pN, pO, pP, jK, jL, dJ, tH, jM, pQ, jN, jO, pU, pW, rY, rZ, dR, jQ, dU, bO, dW, bQ, jR, dX, bR, dY, dZ, jT, jU, uh, uR, u6, bU, bV, eE, j7, d8, bT, pZ, qb, jW, d9, jY, jZ, j5, qm, jX, qj, ql, ai3, ai4, ai5, aiV, Int.reduceToNat, bG, bH, dM, bJ, bK, dN, dO, bL, bM, eQ, eU, lD, qJ, qK, Option.isSome_some, Option.isSome_none, lE, Int.reduceEq, beq_self_eq_true, cQ, cR, eY, lH, eZ, fj, fu, lJ, lK, fB, fD, fK, bW, bz, lO, lQ, lV, lW, fV, cC, cD, lY, fX, qT, tM, qU, qW, qX, uB, uC, gq, mG, nj, nU, iy, nW, j8, kh, eG, j9, kY, qw, kZ, lg, qC, lu, lw, lA, qD, qF, startF, aiR, aiT, aiY, ai2, aiS, aiU, ai0, ai1, ai6, ai7, aiZ, aiW, aiX, Nat.reduceAdd, Nat.reduceSub, Nat.reduceLeDiff, Nat.reduceLT, Nat.zero_add, and_true, true_and, and_self, false_and, and_false, not_true_eq_false, not_false_eq_true, eq_self, decide_true, decide_false, Bool.not_true, Bool.not_false, Bool.true_and, Bool.false_and, Bool.and_true, Bool.and_false, Bool.or_true, Bool.or_false, Bool.true_or, Bool.false_or, Option.map_some, Option.map_none, Int.toNat_natCast, ↓reduceIte, Bool.false_eq_true, reduceCtorEq, Int.cast_ofNat_Int, Int.reduceLT, Int.reduceLE, Int.reduceAdd, Int.reduceSub, Int.reduceNeg, Int.natCast_zero, pY, and_assoc, ↓uV, ↓uW, ↓uX, ↓uY, ↓uZ, ↓wI, ↓vQ, ↓vR, ↓wM, ↓aU, ↓JC, ↓JD, ↓JF, ↓JG, ↓JH, ↓Mu, ↓xW, ↓xX, ↓xY, ↓xZ, ↓yc, ↓ye, ↓yf, ↓yg, ↓yh, ↓yj, ↓ym, ↓yo, ↓vL, ↓vM, ↓xg, ↓vP, ↓u9, ↓vf, ↓vg, ↓wC, ↓Es, aF, aG, aV, aP, aM, aW, aH, aX, aQ, az, aN, aY, aZ, au, wC, vg, vf, u9, e1, e2, hn, e3, lt, e4, own, fz]
 exact k4
theorem plain (ns : List Int) (hl : ns.length ≤ 63) : ∃ fr h, abU [.kl (ns.map Pk.D.int)] [] = .ok (.bl true) fr h := by
 unfold abU Vm
 refine afC (by decide) (by decide) (by decide) fun k xs h hk hx => ?_
 match xs, hx with
 | [x2, x3, x4, x5, x6, x7, x8, x9], _ => exact body (by omega) x2 x3 x4 x5 x6 x7 x8 x9
end
end L
namespace L
open PySem PySem.Spec PyProof.Rows L2
theorem facts {P : Program} {w : World} {K : PySem.W.Frag} {h : Heap} {mg : Str → Option Value} {f : Addr} (X : K.In h) (G : h.Ns mainGlobals mg) (hfa : mg ("law" : Str) = some (.ref f)) (c : cI K) :
 ∃ fd : FuncData, (∀ (s : Shared) (v : Value), BindsTo s fd ⟨[v], []⟩ [("_law_script", v)]) ∧ ∀ base : Heap, K.In base → base.Ns mainGlobals mg → FnOk P w K mg base (L2.CX P w) 11 f fd ["_law_script"] (Pk.spF K (T K) 1 abU) := by
 obtain ⟨fd, F⟩ := c.def_ (fn.length - 1) (d := aeD) rfl
 have e := hfa.symm.trans (He.glo_ok X G (c.fact (fa.length - 1) (f := .he (.glo "law")) rfl))
 cases e
 have b := FunD.bindsA (ps := ["_law_script"]) F fun _ _ _ _ _ _ us hl => match us, hl with | [_], _ => rfl
 exact ⟨fd, fun s v => b s [v] rfl, fun base Y Gb => Pk.fn_sim F agd (aec c Y Gb)⟩
end L
open PySem PySem.W PySem.Calls PyProof.Rows
theorem PySem.Challenge.cw_countrestarts_k78_variants_holds : PySem.Challenge.rw_countrestarts_k78_variants.Holds := by
 w_on; o_law
 refine HandSHeadRun.head_any (r := OpenLaw.row PySem.Challenge.rw_countrestarts_k78_variants) (q := L.vw) (H := L.hk) (ob := L.ob) (M := 20000) (loose := L.names) (d := HandSHeadRun.topDef (OpenLaw.row PySem.Challenge.rw_countrestarts_k78_variants).prog 53) (kwd := []) L.ob_eq
  (by kernel_rfl) (fun s => by kernel_rfl) L.run (by kernel_rfl) (by kernel_rfl) (by kernel_rfl) (by rfl) (by first | assumption | decide +kernel) (by decide +kernel) ⟨rfl, rfl, rfl, rfl, rfl, by decide +kernel⟩ ?hw ?hc
 case hw => w_witness2
 case hc =>
  refine L2.walk_ofE (l := PySem.Challenge.rw_countrestarts_k78_variants) (n := 63) (k := 11) (x := "_law_script") (CX := L2.CX0) rfl (by decide) (by kernel_rfl) ⟨rfl, by decide, by decide⟩ ?F (fun _ _ _ _ z => z)
  intro w mg fa h Y G hmg0
  obtain ⟨K, KX, c⟩ := Y
  have hmg : mg ("law" : PySem.Str) = some (.ref fa) := by
   have e : (HandSHeadRun.topDef (OpenLaw.row PySem.Challenge.rw_countrestarts_k78_variants).prog 53).name = ("law" : PySem.Str) := by kernel_rfl
   rw [← e]
   exact hmg0
  obtain ⟨fd, hb, hF⟩ := L.facts (P := (PySem.Challenge.rw_countrestarts_k78_variants).prog) (w := w) KX G hmg c
  exact ⟨K, fd, _, KX, hb, fun H a ns hl _ hS => (let ⟨fr, h, e⟩ := L.plain ns hl; Pk.law_sp hS e), fun base Y Gb => Pk.fn_cx0 (hF base Y Gb)⟩
