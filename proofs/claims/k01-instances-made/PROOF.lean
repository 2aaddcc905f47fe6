import PyProof.Rows.All
import Wide.All
import OpenK.AllK
import Wide.FinOn
import HandS.ForMost
import HandS.Exc
import HandS.IsInst
import HandS.Wide
import HandS.TupAny
import HandS.Conv
import HandS.Deep
import HandS.Property
import HandS.MakeKwOnly
import HandS.SortInts
import HandS.RaiseMore
import HandS.Style
import HandS.Zip
import HandS.CallSlots
import HandS.Defaults
import HandS.HeadHook1
import HandS.HeadHook2
import HandS.HeadHook3
import HandS.HeadHook4
import HandS.HeadEnd
import HandS.ExcIs
import HandS.ExcField
import KE.GoesMore
import PyProof.EnumMake
import PyProof.EnumFor
import HandS.Iter
import HandS.Star
import KE.KExcSuper
import KE.KSuper
import HandS.ExcInit
import KE.KStateDown
import HandS.Head0
import HandS.Head1
import HandS.Head2
import PySem.Challenge.RW_countrestarts_k01_instances_made
import KE.KExcIs
import HandS.TryOnly
import HandS.TryMany
import HandS.ClsMeth
import HandS.OwnEq
import PyProof.CallFns
import HandS.FStr
import PyProof.Rows.StrWeight2
import PyProof.Rows.StrSplitJoin
import PyProof.Rows.StrFin3
import HandS.ExcOwn
import KE.GoesSet
import HandS.Strs
import KE.KTupSum
import PyProof.Rows.RuleN_abs
import KE.KOpsOwn
import KE.KMethU
import HandS.Dict
import HandS.Flow
import HandS.MethStar
import HandS.GenList
import HandS.GenYield
import KE.GoesZip
import KE.GoesEnum
import HandS.GenCall
import KE.SortData
import KE.SortLaws
import KE.KDictList
set_option Elab.async false
set_option linter.all false
set_option maxRecDepth 100000
set_option maxHeartbeats 40000000
set_option autoImplicit false
open List renaming length_map → agZ, map_cons → ag0, getElem?_eq_getElem → ag1, length_cons → ag3, length_append → ag4, append_nil → ag5, getElem?_set_ne → ag6, map_nil → ag7, getElem?_set_self → ag8, mem_cons_self → ag9, lookup → aha, length_nil → ahb, length_singleton → ahc, mem_of_getElem? → ahd, drop_zero → ahe, nil_append → ahf, length_set → ahg, cons_append → ahh, getElem?_cons_zero → ahi, take_succ_cons → ahj, replicate_succ → ahk, set_cons_succ → ahl, set_cons_zero → ahm, mem_cons_of_mem → ahn, take_zero → aho, drop_succ_cons → ahp, replicate_zero → ahq, getElem?_cons_succ → ahr, range → ahs, mem_singleton → aht, getElem?_append_right → ahu, length_range → ahv, getElem?_append_left → ahw, getElem?_map → ahx
namespace Pk
open PySem PySem.Spec L2
inductive D where
 | non | bl (b : Bool) | int (i : Int) | str (s : Str)
 | tup (l : List D) | fl (l : List D) | nl (l : List D) | kl (l : List D)
 | obj (c : Nat) (fs : List D) | no (c : Nat) (fs : List D) | ref (n : Nat) | cls (c : Nat) | ty (t : String)
 | sl (lo hi : Option Int)
 /-- a dict with tuples for keys, in a cell: its keys, its values -/
 | dc (ks : List (List (Sum Int Str))) (ds : List D)
 /-- a dict with ints and texts for keys, in a cell -/
 | dk (ks : List (Sum Int Str)) (ds : List D)
 deriving Inhabited
def D.own : D → Bool
 | .nl _ => true
 | .no _ _ => true
 | _ => false
def D.fz : D → D
 | .nl l => .fl l
 | .no c fs => .obj c fs
 | d => d
abbrev Fr := List (Option D)
abbrev Hh := List D
structure Tb where
 cad : Nat → Addr
 fld : Nat → List Str
structure Wd where
 F : Hp
 I : List Addr
def Wd.le (w w' : Wd) : Prop := (∀ a o, w.F a = some o → w'.F a = some o) ∧ ∃ r, w'.I = w.I ++ r
theorem Wd.le_refl (w : Wd) : w.le w := ⟨fun _ _ h => h, [], by simp⟩
theorem Wd.le_trans {a b c : Wd} (x : a.le b) (y : b.le c) : a.le c :=
 ⟨fun p o h => y.1 p o (x.1 p o h), by
  obtain ⟨r, e⟩ := x.2
  obtain ⟨q, f⟩ := y.2
  exact ⟨r ++ q, by rw [f, e, List.append_assoc]⟩⟩
theorem Wd.le_at {w w' : Wd} (x : w.le w') {n : Nat} {a : Addr} (h : w.I[n]? = some a) : w'.I[n]? = some a := by
 obtain ⟨r, e⟩ := x.2
 rw [e, ahw (List.getElem?_eq_some_iff.mp h).1]
 exact h
theorem Wd.le_mem {w w' : Wd} (x : w.le w') {a : Addr} (h : a ∈ w.I) : a ∈ w'.I := by
 obtain ⟨r, e⟩ := x.2
 rw [e]
 exact List.mem_append_left _ h
theorem abi {F F' : Hp} (x : ∀ a o, F a = some o → F' a = some o) {a : Addr} {u : HO} (h : Rd F a u) : Rd F' a u := by
 rcases h with h | ⟨o, h⟩
 · exact .inl (x _ _ h)
 · exact .inr ⟨o, x _ _ h⟩
theorem oW {K : PySem.W.Frag} {F F' : Hp} (x : ∀ a o, F a = some o → F' a = some o) {a : Addr} {vs : List V} (h : SqL K F a vs) : SqL K F' a vs := by
 rcases h with h | h
 · exact .inl (abi x h)
 · exact .inr h
theorem dO {K : PySem.W.Frag} {F F' : Hp} (x : ∀ a o, F a = some o → F' a = some o) {a : Addr} {vs : List V} (h : SqT K F a vs) : SqT K F' a vs := by
 rcases h with h | h
 · exact .inl (abi x h)
 · exact .inr h
def SlO (a : Addr) (lo hi : Option Int) (h : Heap) : Prop := ∃ vl vu, h.IsSliceOf a vl vu .none ∧ IsPart vl lo ∧ IsPart vu hi
mutual
inductive bA (K : PySem.W.Frag) (T : Tb) (w : Wd) : V → D → Prop where
 | non : bA K T w .non .non
 | bl (b : Bool) : bA K T w (.bl b) (.bl b)
 | int (i : Int) : bA K T w (.int i) (.int i)
 | str (s : Str) : bA K T w (.str s) (.str s)
 | tup {a : Addr} {vs : List V} {ds : List D} : SqT K w.F a vs → au K T w vs ds → bA K T w (.ref a) (.tup ds)
 | fl {a : Addr} {vs : List V} {ds : List D} : w.F a = some (.lst vs) → au K T w vs ds → bA K T w (.ref a) (.fl ds)
 | kl {a : Addr} {vs : List V} {ds : List D} : SqL K w.F a vs → au K T w vs ds → bA K T w (.ref a) (.kl ds)
 | obj {a dx : Addr} {c : Nat} {vs : List V} {ds : List D} : w.F a = some (.ins (T.cad c) dx ((T.fld c).zip vs)) → au K T w vs ds → bA K T w (.ref a) (.obj c ds)
 | ref {a : Addr} {n : Nat} : w.I[n]? = some a → bA K T w (.ref a) (.ref n)
 | cls (c : Nat) : bA K T w (.ref (T.cad c)) (.cls c)
 | ty (t : String) : bA K T w (.ty t) (.ty t)
 | sl {a : Addr} {lo hi : Option Int} : w.F a = some (.ext (SlO a lo hi)) → bA K T w (.ref a) (.sl lo hi)
inductive au (K : PySem.W.Frag) (T : Tb) (w : Wd) : List V → List D → Prop where
 | nil : au K T w [] []
 | cons {v : V} {d : D} {vs : List V} {ds : List D} : bA K T w v d → au K T w vs ds → au K T w (v :: vs) (d :: ds)
end
section
variable {K : PySem.W.Frag} {T : Tb} {w w' : Wd}
mutual
theorem bA.mono (x : w.le w') : ∀ {v : V} {d : D}, bA K T w v d → bA K T w' v d
 | _, _, .non => .non
 | _, _, .bl b => .bl b
 | _, _, .int i => .int i
 | _, _, .str s => .str s
 | _, _, .tup h t => .tup (dO x.1 h) (au.mono x t)
 | _, _, .fl h t => .fl (x.1 _ _ h) (au.mono x t)
 | _, _, .kl h t => .kl (oW x.1 h) (au.mono x t)
 | _, _, .obj h t => .obj (x.1 _ _ h) (au.mono x t)
 | _, _, .ref h => .ref (Wd.le_at x h)
 | _, _, .cls c => .cls c
 | _, _, .ty t => .ty t
 | _, _, .sl h => .sl (x.1 _ _ h)
theorem au.mono (x : w.le w') : ∀ {vs : List V} {ds : List D}, au K T w vs ds → au K T w' vs ds
 | _, _, .nil => .nil
 | _, _, .cons h t => .cons (bA.mono x h) (au.mono x t)
end
theorem au.length : ∀ {vs : List V} {ds : List D}, au K T w vs ds → vs.length = ds.length
 | _, _, .nil => rfl
 | _, _, .cons _ t => congrArg Nat.succ (au.length t)
theorem au.get : ∀ {vs : List V} {ds : List D} {i : Nat} {d : D}, au K T w vs ds → ds[i]? = some d → ∃ v, vs[i]? = some v ∧ bA K T w v d
 | _, _, _, _, .nil, e => by simp at e
 | _, _, 0, _, .cons h _, e => by
   simp at e
   subst e
   exact ⟨_, rfl, h⟩
 | _, _, i + 1, d, .cons _ t, e => by
   obtain ⟨v, h1, h2⟩ := au.get (i := i) (d := d) t (by simpa using e)
   exact ⟨v, by simpa using h1, h2⟩
theorem au.append : ∀ {vs us : List V} {ds es : List D}, au K T w vs ds → au K T w us es → au K T w (vs ++ us) (ds ++ es)
 | _, _, _, _, .nil, t => t
 | _, _, _, _, .cons h r, t => .cons h (au.append r t)
theorem au.drop : ∀ {vs : List V} {ds : List D} (n : Nat), au K T w vs ds → au K T w (vs.drop n) (ds.drop n)
 | _, _, 0, h => h
 | _, _, _ + 1, .nil => .nil
 | _, _, n + 1, .cons _ t => au.drop n t
theorem au.take : ∀ {vs : List V} {ds : List D} (n : Nat), au K T w vs ds → au K T w (vs.take n) (ds.take n)
 | _, _, 0, _ => .nil
 | _, _, _ + 1, .nil => .nil
 | _, _, n + 1, .cons h t => .cons h (au.take n t)
theorem au.set : ∀ {vs : List V} {ds : List D} {v : V} {d : D} (n : Nat), au K T w vs ds → bA K T w v d → au K T w (vs.set n v) (ds.set n d)
 | _, _, _, _, _, .nil, _ => .nil
 | _, _, _, _, 0, .cons _ t, h => .cons h t
 | _, _, _, _, n + 1, .cons h t, k => .cons h (au.set n t k)
theorem au.ints : ∀ {vs : List V} {is : List Int}, au K T w vs (is.map D.int) → vs = is.map V.int
 | _, [], .nil => rfl
 | _, i :: is, .cons h t => by
   cases h
   rw [au.ints t]
   rfl
end
structure Bs where
 w0 : Wd
 H0 : Hp
 P : List (Addr × HO)
 /-- where an __init__'s own instance is: in slot 0, as long as that holds an object of the body's own -/
 me : Option Addr
abbrev Bs.of (w : Wd) (H : Hp) : Bs := ⟨w, H, [], none⟩
structure Own (B : Bs) (w : Wd) (p : Addr) : Prop where
 f : w.F p = none
 i : p ∉ w.I
 e : B.H0 p = none
 p : ∀ q ∈ B.P, q.1 ≠ p
inductive xZ (K : PySem.W.Frag) (T : Tb) (w : Wd) : HO → D → Prop where
 | lst {vs : List V} {ds : List D} : au K T w vs ds → xZ K T w (.lst vs) (.nl ds)
 | obj {dx : Addr} {c : Nat} {vs : List V} {ds : List D} : au K T w vs ds → xZ K T w (.ins (T.cad c) dx ((T.fld c).zip vs)) (.no c ds)
theorem xZ.own {K : PySem.W.Frag} {T : Tb} {w : Wd} {o : HO} {d : D} (x : xZ K T w o d) : d.own = true := by
 cases x <;> rfl
theorem xZ.mono {K : PySem.W.Frag} {T : Tb} {w w' : Wd} {o : HO} {d : D} (l : w.le w') (x : xZ K T w o d) : xZ K T w' o d := by
 cases x with
 | lst r => exact .lst (r.mono l)
 | obj r => exact .obj (r.mono l)
theorem xZ.fz {K : PySem.W.Frag} {T : Tb} {w w' : Wd} {o : HO} {d : D} {p : Addr} (l : w.le w') (e : w'.F p = some o) (x : xZ K T w o d) : bA K T w' (.ref p) d.fz := by
 cases x with
 | lst r => exact .fl e (r.mono l)
 | obj r => exact .obj e (r.mono l)
theorem La {K : PySem.W.Frag} {T : Tb} {w : Wd} {v : V} {d : D} (r : bA K T w v d) : d.own = false := by
 cases r <;> rfl
theorem abJ {K : PySem.W.Frag} {T : Tb} {w : Wd} {v : V} {d : D} (r : bA K T w v d) : d.fz = d := by
 cases r <;> rfl
theorem Bg {K : PySem.W.Frag} {T : Tb} {w : Wd} {v : V} {d : D} (o : d.own = true) (r : bA K T w v d) : False := by
 rw [La r] at o
 cases o
theorem YS (d : D) : d.fz.own = false := by
 cases d <;> rfl
inductive Ld (K : PySem.W.Frag) (T : Tb) (B : Bs) (w : Wd) (H : Hp) : Option V → Option D → Prop where
 | none {v : Option V} : Ld K T B w H v none
 | val {v : V} {d : D} : bA K T w v d → Ld K T B w H (some v) (some d)
 | own {p : Addr} {o : HO} {d : D} : Own B w p → H p = some o → xZ K T w o d → Ld K T B w H (some (.ref p)) (some d)
inductive Ip (K : PySem.W.Frag) (T : Tb) (w : Wd) : HO → D → Prop where
 | lst {vs : List V} {ds : List D} : au K T w vs ds → Ip K T w (.lst vs) (.nl ds)
 | obj {dx : Addr} {c : Nat} {vs : List V} {ds : List D} : au K T w vs ds → Ip K T w (.ins (T.cad c) dx ((T.fld c).zip vs)) (.no c ds)
 | dct {ks : List (List Key)} {vs : List V} {ds : List D} : ks.length = ds.length → au K T w vs ds → Ip K T w (.dT (ks.zip vs)) (.dc ks ds)
 | dkt {ks : List Key} {vs : List V} {ds : List D} : ks.length = ds.length → au K T w vs ds → Ip K T w (.dK (ks.zip vs)) (.dk ks ds)
theorem xZ.cel {K : PySem.W.Frag} {T : Tb} {w : Wd} {o : HO} {d : D} (x : xZ K T w o d) : Ip K T w o d := by
 cases x with
 | lst r => exact .lst r
 | obj r => exact .obj r
theorem Ip.mono {K : PySem.W.Frag} {T : Tb} {w w' : Wd} {o : HO} {d : D} (l : w.le w') (x : Ip K T w o d) : Ip K T w' o d := by
 cases x with
 | lst r => exact .lst (r.mono l)
 | obj r => exact .obj (r.mono l)
 | dct h r => exact .dct h (r.mono l)
 | dkt h r => exact .dkt h (r.mono l)
def J8 (K : PySem.W.Frag) (T : Tb) (w : Wd) (H : Hp) (a : Addr) (d : D) : Prop := ∃ o, H a = some o ∧ Ip K T w o d
def Cz (σ : St) (fr : Fr) (i : Nat) (p : Addr) : Prop := σ[i]? = some (some (.ref p)) ∧ ∃ d, fr[i]? = some (some d) ∧ d.own = true
structure Rel (K : PySem.W.Frag) (T : Tb) (B : Bs) (w : Wd) (σ : St) (H : Hp) (fr : Fr) (h : Hh) : Prop where
 le : B.w0.le w
 nF : ∀ a, w.F a ≠ none → B.w0.F a ≠ none ∨ B.H0 a = none
 nI : ∀ a ∈ w.I, a ∈ B.w0.I ∨ B.H0 a = none
 keep : ∀ a o, B.H0 a = some o → a ∉ B.w0.I → H a = some o
 prot : ∀ q ∈ B.P, H q.1 = some q.2 ∧ w.F q.1 = none ∧ q.1 ∉ w.I
 sub : ∀ a o, w.F a = some o → H a = some o
 len : w.I.length = h.length
 nd : w.I.Nodup
 dis : ∀ a ∈ w.I, w.F a = none
 cel : ∀ (n : Nat) a c, w.I[n]? = some a → h[n]? = some c → J8 K T w H a c
 fl : fr.length = σ.length
 sl : ∀ (i : Nat) s d, σ[i]? = some s → fr[i]? = some d → Ld K T B w H s d
 sep : ∀ i j p, i ≠ j → Cz σ fr i p → Cz σ fr j p → False
 me : ∀ x d, B.me = some x → fr[0]? = some (some d) → d.own = true → σ[0]? = some (some (.ref x))
section
variable {K : PySem.W.Frag} {T : Tb} {B : Bs} {w w' : Wd} {σ : St} {H H' : Hp} {fr : Fr} {h : Hh}
theorem Rel.nP (R : Rel K T B w σ H fr h) {p : Addr} (np : H p = none) : w.F p = none ∧ p ∉ w.I ∧ (∀ q ∈ B.P, q.1 ≠ p) := by
 refine ⟨?_, fun hm => ?_, fun q hq e => ?_⟩
 · cases e : w.F p with
   | none => rfl
   | some o =>
     have := R.sub p o e
     rw [np] at this
     cases this
 · obtain ⟨n, hn, e⟩ := List.getElem_of_mem hm
   have hl : n < h.length := by rw [← R.len]; exact hn
   obtain ⟨o, q, _⟩ := R.cel n p h[n] (by rw [ag1 hn, e]) (ag1 hl)
   rw [np] at q
   cases q
 · have z := (R.prot q hq).1
   rw [e, np] at z
   cases z
theorem Rel.iSome (R : Rel K T B w σ H fr h) {a : Addr} (hm : a ∈ w.I) : H a ≠ none := fun np => (R.nP np).2.1 hm
theorem J8.keep {a : Addr} {c : D} (x : w.le w') (e : H' a = H a) (z : J8 K T w H a c) : J8 K T w' H' a c := by
 obtain ⟨o, q, r⟩ := z
 exact ⟨o, by rw [e]; exact q, r.mono x⟩
theorem Rel.grow (R : Rel K T B w σ H fr h) (x : w.le w') (eI : w'.I = w.I) (hk : ∀ a o, H a = some o → H' a = some o) (hF : ∀ a o, w'.F a = some o → H' a = some o)
 (hn : ∀ a, w'.F a ≠ none → w.F a ≠ none ∨ H a = none) (he : ∀ a, H a = none → B.H0 a = none ∨ True) : Rel K T B w' σ H' fr h where
 le := Wd.le_trans R.le x
 nF := fun a ha => by
  rcases hn a ha with q | q
  · exact R.nF a q
  · right
    cases e : B.H0 a with
    | none => rfl
    | some o =>
      by_cases hm : a ∈ B.w0.I
      · exact absurd q (R.iSome (Wd.le_mem R.le hm))
      · have := R.keep a o e hm
        rw [q] at this
        cases this
 nI := fun a ha => R.nI a (by rw [← eI]; exact ha)
 keep := fun a o e hm => hk a o (R.keep a o e hm)
 prot := fun q hq => by
  obtain ⟨h1, h2, h3⟩ := R.prot q hq
  refine ⟨hk _ _ h1, ?_, by rw [eI]; exact h3⟩
  cases e : w'.F q.1 with
  | none => rfl
  | some o =>
    rcases hn q.1 (by rw [e]; simp) with z | z
    · exact absurd h2 z
    · rw [h1] at z
      cases z
 sub := hF
 len := by rw [eI]; exact R.len
 nd := by rw [eI]; exact R.nd
 dis := fun a ha => by
  have hm : a ∈ w.I := by rw [← eI]; exact ha
  cases e : w'.F a with
  | none => rfl
  | some o =>
    rcases hn a (by rw [e]; simp) with z | z
    · exact absurd (R.dis a hm) z
    · exact absurd z (R.iSome hm)
 cel := fun n a c e1 e2 => by
  have e1' : w.I[n]? = some a := by rw [← eI]; exact e1
  have z := R.cel n a c e1' e2
  refine J8.keep x ?_ z
  have hs := R.iSome (ahd e1')
  cases q : H a with
  | none => exact absurd q hs
  | some o => exact hk a o q
 fl := R.fl
 sl := fun i s d e1 e2 => by
  have z := R.sl i s d e1 e2
  cases z with
  | none => exact .none
  | val r => exact .val (r.mono x)
  | own o e r =>
    refine .own ⟨?_, by rw [eI]; exact o.i, o.e, o.p⟩ (hk _ _ e) (r.mono x)
    cases q : w'.F _ with
    | none => rfl
    | some u =>
      rcases hn _ (by rw [q]; simp) with z | z
      · exact absurd o.f z
      · rw [e] at z
        cases z
 sep := R.sep
 me := R.me
def Wd.add (w : Wd) (p : Addr) (o : HO) : Wd := ⟨upd w.F p o, w.I⟩
theorem Wd.le_add {p : Addr} {o : HO} (e : w.F p = none) : w.le (w.add p o) :=
 ⟨fun a u h => by
  show upd w.F p o a = some u
  rw [upd_ne (ne_of_none h e)]
  exact h, [], by simp [Wd.add]⟩
theorem Rel.laid (R : Rel K T B w σ H fr h) {p : Addr} {o : HO} (np : H p = none) : Rel K T B (w.add p o) σ (upd H p o) fr h := by
 refine R.grow (Wd.le_add (R.nP np).1) rfl (fun a u e => ?_) (fun a u e => ?_) (fun a e => ?_) (fun _ _ => .inr trivial)
 · rw [upd_ne (ne_of_none e np)]
   exact e
 · have e' : upd w.F p o a = some u := e
   by_cases ha : a = p
   · subst ha
     rw [upd_same] at e' ⊢
     exact e'
   · rw [upd_ne ha] at e' ⊢
     exact R.sub a u e'
 · have e' : upd w.F p o a ≠ none := e
   by_cases ha : a = p
   · subst ha
     exact .inr np
   · rw [upd_ne ha] at e'
     exact .inl e'
theorem Rel.temp (R : Rel K T B w σ H fr h) {p : Addr} {o : HO} (np : H p = none) : Rel K T B w σ (upd H p o) fr h :=
 R.grow (Wd.le_refl w) rfl (fun a u e => by rw [upd_ne (ne_of_none e np)]; exact e) (fun a u e => by rw [upd_ne (ne_of_none (R.sub a u e) np)]; exact R.sub a u e) (fun a e => .inl e) (fun _ _ => .inr trivial)
theorem Rel.own_new (R : Rel K T B w σ H fr h) {p : Addr} (np : H p = none) : Own B w p := by
 obtain ⟨h1, h2, h3⟩ := R.nP np
 refine ⟨h1, h2, ?_, h3⟩
 cases e : B.H0 p with
 | none => rfl
 | some o =>
   by_cases hm : p ∈ B.w0.I
   · exact absurd np (R.iSome (Wd.le_mem R.le hm))
   · have := R.keep p o e hm
     rw [np] at this
     cases this
def CG (σ : St) (fr : Fr) (p : Addr) : Prop := ∀ i, ¬ Cz σ fr i p
theorem Rel.loose_new (R : Rel K T B w σ H fr h) {p : Addr} (np : H p = none) : CG σ fr p := fun i ⟨e1, d, e2, od⟩ => by
 have z := R.sl i _ _ e1 e2
 cases z with
 | val r => exact Bg od r
 | own o e r =>
   rw [np] at e
   cases e
theorem Rel.freeze (R : Rel K T B w σ H fr h) {p : Addr} {o : HO} (O : Own B w p) (l : CG σ fr p) (e : H p = some o) : Rel K T B (w.add p o) σ H fr h where
 le := Wd.le_trans R.le (Wd.le_add O.f)
 nF := fun a ha => by
  have e' : upd w.F p o a ≠ none := ha
  by_cases hp : a = p
  · subst hp
    exact .inr O.e
  · rw [upd_ne hp] at e'
    exact R.nF a e'
 nI := R.nI
 keep := R.keep
 prot := fun q hq => by
  obtain ⟨h1, h2, h3⟩ := R.prot q hq
  refine ⟨h1, ?_, h3⟩
  show upd w.F p o q.1 = none
  rw [upd_ne (O.p q hq)]
  exact h2
 sub := fun a u ha => by
  have e' : upd w.F p o a = some u := ha
  by_cases hp : a = p
  · subst hp
    rw [upd_same] at e'
    rw [← e']
    exact e
  · rw [upd_ne hp] at e'
    exact R.sub a u e'
 len := R.len
 nd := R.nd
 dis := fun a ha => by
  show upd w.F p o a = none
  have hne : a ≠ p := fun z => O.i (by rw [← z]; exact ha)
  rw [upd_ne hne]
  exact R.dis a ha
 cel := fun n a c e1 e2 => J8.keep (Wd.le_add O.f) rfl (R.cel n a c e1 e2)
 fl := R.fl
 sl := fun i s d e1 e2 => by
  have z := R.sl i s d e1 e2
  cases z with
  | none => exact .none
  | val r => exact .val (r.mono (Wd.le_add O.f))
  | @own q _ _ o' e' r =>
    refine .own ⟨?_, o'.i, o'.e, o'.p⟩ e' (r.mono (Wd.le_add O.f))
    show upd w.F p o q = none
    have hne : q ≠ p := fun z => l i ⟨by rw [← z]; exact e1, _, e2, r.own⟩
    rw [upd_ne hne]
    exact o'.f
 sep := R.sep
 me := R.me
theorem Mu {σ : St} {fr : Fr} {i j : Nat} {s : Option V} {d : Option D} {p : Addr} (hi : i ≠ j) (o : Cz (σ.set j s) (fr.set j d) i p) : Cz σ fr i p := by
 obtain ⟨e1, dd, e2, od⟩ := o
 rw [ag6 (Ne.symm hi)] at e1 e2
 exact ⟨e1, dd, e2, od⟩
theorem Rel.set_slot (R : Rel K T B w σ H fr h) {i : Nat} {s : Option V} {d : Option D} (r : Ld K T B w H s d) (hp : ∀ p d', s = some (.ref p) → d = some d' → d'.own = true → CG σ fr p) (hm : i = 0 → ∀ d', d = some d' → d'.own = false) : Rel K T B w (σ.set i s) H (fr.set i d) h :=
 { R with
   me := fun x d' bx e od => by
    by_cases hi : i = 0
    · subst hi
      have l2 : 0 < fr.length := by
       have := (List.getElem?_eq_some_iff.mp e).1
       rwa [ahg] at this
      rw [ag8 l2] at e
      rw [hm rfl d' (Option.some.inj e)] at od
      cases od
    · rw [ag6 hi] at e ⊢
      exact R.me x d' bx e od
   fl := by rw [ahg, ahg]; exact R.fl
   sl := fun j s' d' e1 e2 => by
    by_cases hj : i = j
    · subst hj
      have l1 : i < σ.length := by
       have := (List.getElem?_eq_some_iff.mp e1).1
       rwa [ahg] at this
      rw [ag8 l1] at e1
      rw [ag8 (by rw [R.fl]; exact l1)] at e2
      cases e1
      cases e2
      exact r
    · rw [ag6 hj] at e1 e2
      exact R.sl j s' d' e1 e2
   sep := fun a b p hab o1 o2 => by
    have key : ∀ a b, a ≠ b → a = i → Cz (σ.set i s) (fr.set i d) a p → Cz (σ.set i s) (fr.set i d) b p → False := fun a b hab ha o1 o2 => by
     subst ha
     have o2' := Mu (Ne.symm hab) o2
     obtain ⟨e1, dd, e2, od⟩ := o1
     have l1 : a < σ.length := by
      have := (List.getElem?_eq_some_iff.mp e1).1
      rwa [ahg] at this
     rw [ag8 l1] at e1
     rw [ag8 (by rw [R.fl]; exact l1)] at e2
     cases e1
     cases e2
     exact hp p dd rfl rfl od b o2'
    by_cases ha : a = i
    · exact key a b hab ha o1 o2
    · by_cases hb : b = i
      · exact key b a (Ne.symm hab) hb o2 o1
      · exact R.sep a b p hab (Mu ha o1) (Mu hb o2) }
theorem Rel.drop_slot (R : Rel K T B w σ H fr h) (i : Nat) : Rel K T B w σ H (fr.set i none) h :=
 { R with
   me := fun x d' bx e od => by
    by_cases hi : i = 0
    · subst hi
      have l2 : 0 < fr.length := by
       have := (List.getElem?_eq_some_iff.mp e).1
       rwa [ahg] at this
      rw [ag8 l2] at e
      cases e
    · rw [ag6 hi] at e
      exact R.me x d' bx e od
   fl := by rw [ahg]; exact R.fl
   sl := fun j s' d' e1 e2 => by
    by_cases hj : i = j
    · subst hj
      have l2 : i < fr.length := by
       have := (List.getElem?_eq_some_iff.mp e2).1
       rwa [ahg] at this
      rw [ag8 l2] at e2
      cases e2
      exact .none
    · rw [ag6 hj] at e2
      exact R.sl j s' d' e1 e2
   sep := fun a b p hab o1 o2 => by
    have key : ∀ a, Cz σ (fr.set i none) a p → Cz σ fr a p := fun a o => by
     obtain ⟨e1, dd, e2, od⟩ := o
     by_cases ha : i = a
     · subst ha
       have l2 : i < fr.length := by
        have := (List.getElem?_eq_some_iff.mp e2).1
        rwa [ahg] at this
       rw [ag8 l2] at e2
       cases e2
     · rw [ag6 ha] at e2
       exact ⟨e1, dd, e2, od⟩
    exact R.sep a b p hab (key a o1) (key b o2) }
theorem Rel.freeze_slot (R : Rel K T B w σ H fr h) {i : Nat} {d : D} (e : fr[i]? = some (some d)) (od : d.own = true) :
 ∃ p o, σ[i]? = some (some (.ref p)) ∧ H p = some o ∧ xZ K T w o d ∧ w.F p = none ∧ Rel K T B (w.add p o) σ H (fr.set i (some d.fz)) h := by
 have l2 : i < fr.length := (List.getElem?_eq_some_iff.mp e).1
 have l1 : i < σ.length := by rw [← R.fl]; exact l2
 have e1 : σ[i]? = some σ[i] := ag1 l1
 have z := R.sl i _ _ e1 e
 generalize hs : σ[i] = s at z e1
 cases z with
 | val r => exact (Bg od r).elim
 | @own p o _ O eH r =>
   refine ⟨p, o, e1, eH, r, O.f, ?_⟩
   have R1 := R.drop_slot i
   have lo : CG σ (fr.set i none) p := fun j q => by
    obtain ⟨q1, dq, q2, oq⟩ := q
    by_cases hj : i = j
    · subst hj
      rw [ag8 l2] at q2
      cases q2
    · rw [ag6 hj] at q2
      exact R.sep i j p hj ⟨e1, d, e, od⟩ ⟨q1, dq, q2, oq⟩
   have R2 := R1.freeze O lo eH
   have R3 := R2.set_slot (i := i) (s := some (.ref p)) (d := some d.fz) (.val (r.fz (Wd.le_add O.f) (by show upd w.F p _ p = _; rw [upd_same]))) (fun _ _ _ q oq => by
    cases q
    rw [YS] at oq
    cases oq) (fun _ d' q => by
    cases q
    exact YS d)
   rw [List.set_set] at R3
   have es : σ.set i (some (.ref p)) = σ := by
    have := List.set_getElem_self (as := σ) (h := l1)
    rw [hs] at this
    exact this
   rw [es] at R3
   exact R3
theorem Uo {α : Type} : ∀ {l : List α} {i j : Nat} {a : α}, l.Nodup → l[i]? = some a → l[j]? = some a → i = j
 | [], _, _, _, _, e, _ => by simp at e
 | b :: l, 0, 0, _, _, _, _ => rfl
 | b :: l, 0, j + 1, a, n, e1, e2 => by
   simp at e1 e2
   subst e1
   exact absurd (ahd e2) (List.nodup_cons.mp n).1
 | b :: l, i + 1, 0, a, n, e1, e2 => by
   simp at e1 e2
   subst e2
   exact absurd (ahd e1) (List.nodup_cons.mp n).1
 | b :: l, i + 1, j + 1, a, n, e1, e2 => by
   simp at e1 e2
   rw [Uo (List.nodup_cons.mp n).2 e1 e2]
theorem Rel.change_slot (R : Rel K T B w σ H fr h) {i : Nat} {d d' : D} {p : Addr} {o o' : HO} (e1 : σ[i]? = some (some (.ref p))) (e : fr[i]? = some (some d)) (O : Own B w p) (eH : H p = some o) (od : d.own = true) (r' : xZ K T w o' d') :
 Rel K T B w σ (upd H p o') (fr.set i (some d')) h := by
 have l2 : i < fr.length := (List.getElem?_eq_some_iff.mp e).1
 have l1 : i < σ.length := by rw [← R.fl]; exact l2
 refine { R with keep := fun a u ha hm => ?_, prot := fun q hq => ?_, sub := fun a u ha => ?_, cel := fun n a c q1 q2 => ?_, fl := by rw [ahg]; exact R.fl, sl := fun j s dj q1 q2 => ?_, sep := fun a b q hab o1 o2 => ?_, me := fun x dx bx q od' => ?_ }
 · rw [upd_ne (fun z => by rw [z, O.e] at ha; cases ha)]
   exact R.keep a u ha hm
 · obtain ⟨h1, h2, h3⟩ := R.prot q hq
   exact ⟨by rw [upd_ne (O.p q hq)]; exact h1, h2, h3⟩
 · rw [upd_ne (fun z => by rw [z, O.f] at ha; cases ha)]
   exact R.sub a u ha
 · refine J8.keep (Wd.le_refl w) ?_ (R.cel n a c q1 q2)
   exact upd_ne (fun z => O.i (z ▸ ahd q1))
 · by_cases hj : i = j
   · subst hj
     rw [e1] at q1
     rw [ag8 l2] at q2
     cases q1
     cases q2
     exact .own O upd_same r'
   · rw [ag6 hj] at q2
     have z := R.sl j s dj q1 q2
     cases z with
     | none => exact .none
     | val r => exact .val r
     | @own q u _ O' eH' rr =>
       refine .own O' ?_ rr
       have hne : q ≠ p := fun z => R.sep i j p hj ⟨e1, d, e, od⟩ ⟨by rw [← z]; exact q1, _, q2, rr.own⟩
       rw [upd_ne hne]
       exact eH'
 · have key : ∀ a, Cz σ (fr.set i (some d')) a q → Cz σ fr a q := fun a ⟨q1, dq, q2, oq⟩ => by
    by_cases ha : i = a
    · subst ha
      exact ⟨q1, d, e, od⟩
    · rw [ag6 ha] at q2
      exact ⟨q1, dq, q2, oq⟩
   exact R.sep a b q hab (key a o1) (key b o2)
 · by_cases hi : i = 0
   · subst hi
     exact R.me x d bx e od
   · rw [ag6 hi] at q
     exact R.me x dx bx q od'
theorem Rel.change_cell (R : Rel K T B w σ H fr h) {n : Nat} {a : Addr} {d d' : D} {o' : HO} (e1 : w.I[n]? = some a) (e : h[n]? = some d) (r' : Ip K T w o' d') : Rel K T B w σ (upd H a o') fr (h.set n d') := by
 have hm : a ∈ w.I := ahd e1
 have lh : n < h.length := (List.getElem?_eq_some_iff.mp e).1
 refine { R with keep := fun b u hb hn => ?_, prot := fun q hq => ?_, sub := fun b u hb => ?_, len := by rw [ahg]; exact R.len, cel := fun k b c q1 q2 => ?_, sl := fun j s dj q1 q2 => ?_ }
 · rw [upd_ne (fun z => by
    subst z
    rcases R.nI _ hm with q | q
    · exact hn q
    · rw [q] at hb
      cases hb)]
   exact R.keep b u hb hn
 · obtain ⟨h1, h2, h3⟩ := R.prot q hq
   have hne : q.1 ≠ a := fun z => h3 (by rw [z]; exact hm)
   exact ⟨by rw [upd_ne hne]; exact h1, h2, h3⟩
 · rw [upd_ne (fun z => by rw [z, R.dis a hm] at hb; cases hb)]
   exact R.sub b u hb
 · by_cases hk : n = k
   · subst hk
     rw [e1] at q1
     rw [ag8 lh] at q2
     cases q1
     cases q2
     exact ⟨o', upd_same, r'⟩
   · rw [ag6 hk] at q2
     refine J8.keep (Wd.le_refl w) (upd_ne fun z => ?_) (R.cel k b c q1 q2)
     subst z
     exact hk (Uo R.nd e1 q1)
 · have z := R.sl j s dj q1 q2
   cases z with
   | none => exact .none
   | val r => exact .val r
   | @own q u _ O' eH' rr =>
     have hne : q ≠ a := fun z => O'.i (by rw [z]; exact hm)
     exact .own O' (by rw [upd_ne hne]; exact eH') rr
theorem Rel.to_cellO (R : Rel K T B w σ H fr h) {p : Addr} {o : HO} {d : D} (O : Own B w p) (lo : CG σ fr p) (e : H p = some o) (r : Ip K T w o d) : Rel K T B ⟨w.F, w.I ++ [p]⟩ σ H fr (h ++ [d]) := by
 have le : w.le ⟨w.F, w.I ++ [p]⟩ := ⟨fun _ _ q => q, [p], rfl⟩
 refine ⟨Wd.le_trans R.le le, R.nF, fun a ha => ?_, R.keep, fun q hq => ?_, R.sub, ?_, ?_, fun a ha => ?_, fun n a c q1 q2 => ?_, R.fl, fun j s dj q1 q2 => ?_, R.sep, R.me⟩
 · rcases List.mem_append.mp ha with q | q
   · exact R.nI a q
   · rw [aht] at q
     subst q
     exact .inr O.e
 · obtain ⟨h1, h2, h3⟩ := R.prot q hq
   refine ⟨h1, h2, fun z => ?_⟩
   rcases List.mem_append.mp z with y | y
   · exact h3 y
   · rw [aht] at y
     exact O.p q hq y
 · show (w.I ++ [p]).length = (h ++ [d]).length
   rw [ag4, ag4, R.len]
   rfl
 · show (w.I ++ [p]).Nodup
   rw [List.nodup_append]
   exact ⟨R.nd, by simp, fun a ha b hb => by
    rw [aht] at hb
    subst hb
    exact fun z => O.i (z ▸ ha)⟩
 · rcases List.mem_append.mp ha with q | q
   · exact R.dis a q
   · rw [aht] at q
     subst q
     exact O.f
 · have q1' : (w.I ++ [p])[n]? = some a := q1
   by_cases hn : n < w.I.length
   · rw [ahw hn] at q1'
     rw [ahw (by rw [← R.len]; exact hn)] at q2
     exact J8.keep le rfl (R.cel n a c q1' q2)
   · have hn' : w.I.length ≤ n := Nat.le_of_not_lt hn
     rw [ahu hn'] at q1'
     rw [ahu (by rw [← R.len]; exact hn'), ← R.len] at q2
     cases k : n - w.I.length with
     | zero =>
       rw [k] at q1' q2
       cases q1'
       cases q2
       exact ⟨o, e, r.mono le⟩
     | succ m =>
       rw [k] at q1'
       simp at q1'
 · have z := R.sl j s dj q1 q2
   cases z with
   | none => exact .none
   | val r => exact .val (r.mono le)
   | @own q u _ O' eH' rr =>
     refine .own ⟨O'.f, fun z => ?_, O'.e, O'.p⟩ eH' (rr.mono le)
     rcases List.mem_append.mp z with y | y
     · exact O'.i y
     · rw [aht] at y
       exact lo j ⟨by rw [← y]; exact q1, _, q2, rr.own⟩
theorem Rel.to_cell (R : Rel K T B w σ H fr h) {p : Addr} {o : HO} {d : D} (O : Own B w p) (lo : CG σ fr p) (e : H p = some o) (r : xZ K T w o d) : Rel K T B ⟨w.F, w.I ++ [p]⟩ σ H fr (h ++ [d]) := R.to_cellO O lo e r.cel
theorem QL {i : Nat} {p : Addr} : ¬ Cz [] [] i p := fun ⟨q, _⟩ => by simp at q
theorem Rel.enter (R : Rel K T B w σ H fr h) : Rel K T (Bs.of w H) w [] H [] h where
 le := Wd.le_refl w
 nF := fun _ q => .inl q
 nI := fun _ q => .inl q
 keep := fun _ _ q _ => q
 prot := fun _ q => by cases q
 sub := R.sub
 len := R.len
 nd := R.nd
 dis := R.dis
 cel := R.cel
 fl := rfl
 sl := fun _ _ _ q => by simp at q
 sep := fun _ _ _ _ q => (QL q).elim
 me := fun _ _ _ q _ => by simp at q
theorem Rel.unframe (R : Rel K T B w σ H fr h) : Rel K T B w [] H [] h where
 le := R.le
 nF := R.nF
 nI := R.nI
 keep := R.keep
 prot := R.prot
 sub := R.sub
 len := R.len
 nd := R.nd
 dis := R.dis
 cel := R.cel
 fl := rfl
 sl := fun _ _ _ q => by simp at q
 sep := fun _ _ _ _ q => (QL q).elim
 me := fun _ _ _ q _ => by simp at q
theorem Rel.back {h' : Hh} (R : Rel K T B w σ H fr h) (x : w.le w') (C : Rel K T (Bs.of w H) w' [] H' [] h') : Rel K T B w' σ H' fr h' where
 le := Wd.le_trans R.le x
 nF := fun a ha => by
  rcases C.nF a ha with q | q
  · exact R.nF a q
  · exact .inr (R.own_new q).e
 nI := fun a ha => by
  rcases C.nI a ha with q | q
  · exact R.nI a q
  · exact .inr (R.own_new q).e
 keep := fun a o e hm => C.keep a o (R.keep a o e hm) fun z => by
  rcases R.nI a z with q | q
  · exact hm q
  · rw [q] at e
    cases e
 prot := fun q hq => by
  obtain ⟨h1, h2, h3⟩ := R.prot q hq
  refine ⟨C.keep _ _ h1 h3, ?_, fun z => ?_⟩
  · cases e : w'.F q.1 with
    | none => rfl
    | some o =>
      rcases C.nF q.1 (by rw [e]; simp) with y | y
      · exact absurd h2 y
      · have y' : H q.1 = none := y
        rw [h1] at y'
        cases y'
  · rcases C.nI _ z with y | y
    · exact h3 y
    · have y' : H q.1 = none := y
      rw [h1] at y'
      cases y'
 sub := C.sub
 len := C.len
 nd := C.nd
 dis := C.dis
 cel := C.cel
 fl := R.fl
 sl := fun i s d e1 e2 => by
  have z := R.sl i s d e1 e2
  cases z with
  | none => exact .none
  | val r => exact .val (r.mono x)
  | @own p o _ O eH rr =>
    refine .own ⟨?_, fun z => ?_, O.e, O.p⟩ (C.keep _ _ eH O.i) (rr.mono x)
    · cases e : w'.F p with
      | none => rfl
      | some o =>
        rcases C.nF p (by rw [e]; simp) with y | y
        · exact absurd O.f y
        · have y' : H p = none := y
          rw [eH] at y'
          cases y'
    · rcases C.nI _ z with y | y
      · exact O.i y
      · have y' : H p = none := y
        rw [eH] at y'
        cases y'
 sep := R.sep
 me := R.me
end
end Pk
namespace Pk
open PySem PySem.Spec L2
structure aP where
 c : Nat
 fs : List D
inductive R (α : Type) where
 | ok (a : α) (fr : Fr) (h : Hh)
 | exc (x : aP) (fr : Fr) (h : Hh)
 | err
abbrev M (α : Type) := Fr → Hh → R α
def M.ret {α : Type} (a : α) : M α := fun fr h => .ok a fr h
def M.bind {α β : Type} (m : M α) (f : α → M β) : M β := fun fr h => match m fr h with
 | .ok a fr h => f a fr h
 | .exc x fr h => .exc x fr h
 | .err => .err
def M.opt {α : Type} (o : Option α) : M α := fun fr h => match o with
 | some a => .ok a fr h
 | none => .err
@[simp] theorem M.bind_ret {α β : Type} (a : α) (f : α → M β) : (M.ret a).bind f = f a := rfl
@[simp] theorem M.ret_ap {α : Type} (a : α) (fr : Fr) (h : Hh) : M.ret a fr h = .ok a fr h := rfl
@[simp] theorem M.opt_some {α : Type} (a : α) (fr : Fr) (h : Hh) : M.opt (some a) fr h = .ok a fr h := rfl
@[simp] theorem M.opt_none {α : Type} (fr : Fr) (h : Hh) : M.opt (none : Option α) fr h = .err := rfl
theorem M.bind_ok {α β : Type} {m : M α} {f : α → M β} {fr fr1 : Fr} {h h1 : Hh} {a : α} (e : m fr h = .ok a fr1 h1) : m.bind f fr h = f a fr1 h1 := by
 unfold M.bind
 rw [e]
theorem M.bind_exc {α β : Type} {m : M α} {f : α → M β} {fr fr1 : Fr} {h h1 : Hh} {x : aP} (e : m fr h = .exc x fr1 h1) : m.bind f fr h = .exc x fr1 h1 := by
 unfold M.bind
 rw [e]
theorem M.bind_err {α β : Type} {m : M α} {f : α → M β} {fr : Fr} {h : Hh} (e : m fr h = .err) : m.bind f fr h = .err := by
 unfold M.bind
 rw [e]
def Ry (K : PySem.W.Frag) (T : Tb) (w : Wd) (x : aP) (cls : Value) (dd : Option Addr) : Prop :=
 cls = .ref (T.cad x.c) ∧ ((x.fs = [] ∧ dd = none) ∨ ∃ d vs, dd = some d ∧ w.F d = some (.xd ((T.fld x.c).zip vs)) ∧ au K T w vs x.fs)
section
variable {α β : Type}
def aO (K : PySem.W.Frag) (T : Tb) (B : Bs) (W : WX) (VR : Wd → Hp → Fr → β → α → Prop) (w : Wd) (σ : L2.St) (r : R α) (Q : β → Hp → Prop) : Prop :=
 match r with
 | .ok d fr h => ∀ w' H' v, w.le w' → Rel K T B w' σ H' fr h → VR w' H' fr v d → Q v H'
 | .exc x fr h => ∀ w' H' cls dd, w.le w' → Rel K T B w' σ H' fr h → Ry K T w' x cls dd → W cls dd σ H'
 | .err => False
end
abbrev ju (β α : Type) := PySem.W.Frag → Tb → Bs → L2.St → Wd → Hp → Fr → β → α → Prop
def vV : ju V D := fun K T _ _ w _ _ v d => bA K T w v d
def vE : ju V D := fun K T B σ w H fr v d => bA K T w v d ∨ ∃ p o, v = .ref p ∧ Own B w p ∧ CG σ fr p ∧ H p = some o ∧ xZ K T w o d
def vO : ju V D := fun K T _ _ w H _ v d => bA K T w v d ∨ ∃ p o, v = .ref p ∧ H p = some o ∧ xZ K T w o d
def vB : ju Bool Bool := fun _ _ _ _ _ _ _ b c => b = c
def vA : ju (List V) (List D) := fun K T _ _ w _ _ vs ds => au K T w vs ds
def eE {α β : Type} (run : L2.St → Hp → (β → Hp → Prop) → Prop) (K : PySem.W.Frag) (T : Tb) (W : WX) (VR : ju β α) (m : M α) : Prop :=
 ∀ (B : Bs) (w : Wd) (σ : L2.St) (H : Hp) (fr : Fr) (h : Hh) (Q : β → Hp → Prop), Rel K T B w σ H fr h → aO K T B W (VR K T B σ) w σ (m fr h) Q → run σ H Q
section
variable {α β γ δ : Type} {K : PySem.W.Frag} {T : Tb} {B : Bs} {W : WX} {w w' : Wd} {σ : L2.St} {H : Hp}
theorem aO.le {VR : Wd → Hp → Fr → β → α → Prop} {r : R α} {Q : β → Hp → Prop} (x : w.le w') (p : aO K T B W VR w σ r Q) : aO K T B W VR w' σ r Q := by
 cases r with
 | ok d fr h => exact fun w2 H2 v y => p w2 H2 v (Wd.le_trans x y)
 | exc e fr h => exact fun w2 H2 c d y => p w2 H2 c d (Wd.le_trans x y)
 | err => exact p
theorem aO.imp {VR : Wd → Hp → Fr → β → α → Prop} {r : R α} {Q Q' : β → Hp → Prop} (p : aO K T B W VR w σ r Q) (hq : ∀ v H, Q v H → Q' v H) : aO K T B W VR w σ r Q' := by
 cases r with
 | ok d fr h => exact fun w2 H2 v y r z => hq _ _ (p w2 H2 v y r z)
 | exc e fr h => exact p
 | err => exact p
theorem aO.bind {VR : Wd → Hp → Fr → γ → δ → Prop} {VR' : Wd → Hp → Fr → β → α → Prop} {m : M δ} {f : δ → M α} {fr : Fr} {h : Hh} {Q : β → Hp → Prop} {Q' : γ → Hp → Prop} (p : aO K T B W VR' w σ (m.bind f fr h) Q)
 (k : ∀ d fr1 h1 w1 H1 v, m fr h = .ok d fr1 h1 → w.le w1 → Rel K T B w1 σ H1 fr1 h1 → VR w1 H1 fr1 v d → aO K T B W VR' w1 σ (f d fr1 h1) Q → Q' v H1) : aO K T B W VR w σ (m fr h) Q' := by
 cases e : m fr h with
 | ok d fr1 h1 =>
   rw [M.bind_ok e] at p
   exact fun w1 H1 v x r z => k d fr1 h1 w1 H1 v e x r z (p.le x)
 | exc y fr1 h1 =>
   rw [M.bind_exc e] at p
   exact p
 | err =>
   rw [M.bind_err e] at p
   exact p
theorem eE.bind {run1 : L2.St → Hp → (γ → Hp → Prop) → Prop} {run2 : γ → L2.St → Hp → (β → Hp → Prop) → Prop} {VR1 : ju γ δ} {VR : ju β α} {m : M δ} {f : δ → M α} (s1 : eE run1 K T W VR1 m)
 (s2 : ∀ B w σ H fr h d v Q, Rel K T B w σ H fr h → VR1 K T B σ w H fr v d → aO K T B W (VR K T B σ) w σ (f d fr h) Q → run2 v σ H Q) :
 eE (fun σ H Q => run1 σ H fun v H1 => run2 v σ H1 Q) K T W VR (m.bind f) := fun B w σ H fr h Q r p =>
 s1 B w σ H fr h _ r (p.bind fun d fr1 h1 w1 H1 v e x r1 z p1 => s2 B w1 σ H1 fr1 h1 d v Q r1 z p1)
end
structure WE (X : Cx) (e : Expr) (σ : L2.St) (H : Hp) (Q : VK) : Prop where
 go : ∀ pins s, Inv X pins σ H s → wpAny (model X.prog X.w) X.A (eval e X.env) (EP X pins σ Q) X.xe s
structure WT (X : Cx) (e : Expr) (σ : L2.St) (H : Hp) (Q : Bool → Hp → Prop) : Prop where
 go : ∀ pins s, Inv X pins σ H s → wpAny (model X.prog X.w) X.A (isTrue e X.env (eval e X.env)) (TP X pins σ Q) X.xe s
structure WW (X : Cx) (e : Expr) (σ : L2.St) (H : Hp) (Q : Bool → Hp → Prop) : Prop where
 go : ∀ whole pins s, Inv X pins σ H s → wpAny (model X.prog X.w) X.A (isTrue e X.env whole) (TP X pins σ Q) X.xe s
structure WA (X : Cx) (es : List Expr) (σ : L2.St) (H : Hp) (Q : List V → Hp → Prop) : Prop where
 go : ∀ pos pins s, Inv X pins σ H s → wpAny (model X.prog X.w) X.A (spliced (backTo pos (starEach es X.env))) (AP X pins σ Q) X.xe s
structure WS (X : Cx) (st : Stmt) (D : Ends) (σ : L2.St) (H : Hp) : Prop where
 go : ∀ pins s, Inv X pins σ H s → wpAny (model X.prog X.w) X.A (exec st X.env) (SP X pins D) X.xe s
structure Wy (X : Cx) (st : List Stmt) (D : Ends) (σ : L2.St) (H : Hp) : Prop where
 go : ∀ pins s, Inv X pins σ H s → wpAny (model X.prog X.w) X.A (execs st X.env) (SP X pins D) X.xe s
def rM (X : Cx) (f : Value → Value → Sem Value) : R2 := fun x y H Q => ∀ pins s σ v u, Inv X pins σ H s → RelV x v → RelV y u → wpAny (model X.prog X.w) X.A (f v u) (EP X pins σ Q) X.xe s
def uM (X : Cx) (f : Value → Sem Value) : V → Hp → VK → Prop := fun x H Q => ∀ pins s σ v, Inv X pins σ H s → RelV x v → wpAny (model X.prog X.w) X.A (f v) (EP X pins σ Q) X.xe s
def cM (X : Cx) (f : Value) : List V → Hp → VK → Prop := fun xs H Q => ∀ pins s σ us, Inv X pins σ H s → Vals xs us → wpAny (model X.prog X.w) X.A (call f us) (EP X pins σ Q) X.xe s
section
variable {X : Cx} {e : Expr} {es : List Expr} {st : Stmt} {sts : List Stmt}
theorem aX : PE X e (WE X e) := ⟨fun pins s σ H Q I h => h.go pins s I⟩
theorem Hi : PT X e (WT X e) := ⟨fun pins s σ H Q I h => h.go pins s I⟩
theorem Uq : PW X e (WW X e) := ⟨fun wh pins s σ H Q I h => h.go wh pins s I⟩
theorem Mv : PA X es (WA X es) := ⟨fun pos pins s σ H Q I h => h.go pos pins s I⟩
theorem YT : PS X st (WS X st) := ⟨fun pins s σ H D I h => h.go pins s I⟩
theorem Ey : PSs X sts (Wy X sts) := ⟨fun pins s σ H D I h => h.go pins s I⟩
theorem eU {t : TE} (p : PE X e t) {σ : L2.St} {H : Hp} {Q : VK} (h : t σ H Q) : WE X e σ H Q := ⟨fun pins s I => p.run pins s σ H Q I h⟩
theorem QM {t : TT} (p : PT X e t) {σ : L2.St} {H : Hp} {Q : Bool → Hp → Prop} (h : t σ H Q) : WT X e σ H Q := ⟨fun pins s I => p.run pins s σ H Q I h⟩
theorem T9 {t : TT} (p : PW X e t) {σ : L2.St} {H : Hp} {Q : Bool → Hp → Prop} (h : t σ H Q) : WW X e σ H Q := ⟨fun wh pins s I => p.run wh pins s σ H Q I h⟩
theorem Ua {t : TA} (p : PA X es t) {σ : L2.St} {H : Hp} {Q : List V → Hp → Prop} (h : t σ H Q) : WA X es σ H Q := ⟨fun pos pins s I => p.run pos pins s σ H Q I h⟩
theorem Bh {t : TS} (p : PS X st t) {D : Ends} {σ : L2.St} {H : Hp} (h : t D σ H) : WS X st D σ H := ⟨fun pins s I => p.run pins s σ H D I h⟩
theorem Rz {t : TS} (p : PSs X sts t) {D : Ends} {σ : L2.St} {H : Hp} (h : t D σ H) : Wy X sts D σ H := ⟨fun pins s I => p.run pins s σ H D I h⟩
theorem Kv {f : Value → Value → Sem Value} : OpR X f (rM X f) := fun pins s σ H x y v u Q I rx ry h => h pins s σ v u I rx ry
theorem Bj {f : Value → Value → Sem Value} {r : R2} (o : OpR X f r) {x y : V} {H : Hp} {Q : VK} (h : r x y H Q) : rM X f x y H Q := fun pins s σ v u I rx ry => o pins s σ H x y v u Q I rx ry h
theorem acO {f : Value → Sem Value} : UnR X f (uM X f) := fun pins s σ H x v Q I rx h => h pins s σ v I rx
theorem aed {f : Value → Sem Value} {r : V → Hp → VK → Prop} (o : UnR X f r) {x : V} {H : Hp} {Q : VK} (h : r x H Q) : uM X f x H Q := fun pins s σ v I rx => o pins s σ H x v Q I rx h
theorem Qg {f : Value} : CallR X f (cM X f) := fun pins s σ H xs us Q I r h => h pins s σ us I r
theorem ji {f : Value} {r : List V → Hp → VK → Prop} (o : CallR X f r) {xs : List V} {H : Hp} {Q : VK} (h : r xs H Q) : cM X f xs H Q := fun pins s σ us I rr => o pins s σ H xs us Q I rr h
end
abbrev xO (X : Cx) (T : Tb) (W : WX) (e : Expr) (m : M D) : Prop := eE (WE X e) X.K T W vE m
abbrev aM (X : Cx) (T : Tb) (W : WX) (e : Expr) (m : M D) : Prop := eE (WE X e) X.K T W vV m
abbrev Ez (X : Cx) (T : Tb) (W : WX) (e : Expr) (m : M Bool) : Prop := eE (WT X e) X.K T W vB m
abbrev Qh (X : Cx) (T : Tb) (W : WX) (e : Expr) (m : M Bool) : Prop := eE (WW X e) X.K T W vB m
abbrev Qi (X : Cx) (T : Tb) (W : WX) (es : List Expr) (m : M (List D)) : Prop := eE (WA X es) X.K T W vA m
abbrev Le (X : Cx) (T : Tb) (W : WX) (e : Expr) (m : M D) : Prop := eE (WE X e) X.K T W vO m
def bL (m : M D) : M D := m.bind fun d => M.ret d.fz
def mC (d : D) : M D := M.ret d
def aa (i : Nat) : M D := fun fr h => match fr[i]? with
 | some (some d) => if d.own then .ok d.fz (fr.set i (some d.fz)) h else .ok d fr h
 | _ => .err
def JF (i : Nat) : M D := fun fr h => match fr[i]? with
 | some (some d) => .ok d (fr.set i none) h
 | _ => .err
def az (i : Nat) : M D := fun fr h => match fr[i]? with
 | some (some d) => .ok d fr h
 | _ => .err
section
variable {X : Cx} {T : Tb} {W : WX} {e a b c : Expr} {es : List Expr} {m ma mb mc : M D} {pos : Pos}
theorem RB {α β : Type} {run : L2.St → Hp → (β → Hp → Prop) → Prop} {K : PySem.W.Frag} {VR VR' : ju β α} {m : M α} (s : eE run K T W VR m) (h : ∀ B σ w H fr v d, VR K T B σ w H fr v d → VR' K T B σ w H fr v d) : eE run K T W VR' m :=
 fun B w σ H fr hh Q r p => s B w σ H fr hh Q r (by
  cases q : m fr hh with
  | ok d fr1 h1 =>
    rw [q] at p
    exact fun w1 H1 v x r1 z => p w1 H1 v x r1 (h _ _ _ _ _ _ _ z)
  | exc y fr1 h1 => rw [q] at p; exact p
  | err => rw [q] at p; exact p)
theorem dh (s : aM X T W e m) : xO X T W e m := RB s fun _ _ _ _ _ _ _ z => .inl z
theorem uL (s : aM X T W e m) : Le X T W e m := RB s fun _ _ _ _ _ _ _ z => .inl z
theorem eG (s : xO X T W e m) : Le X T W e m := RB s fun _ _ _ _ _ _ _ z => by
 rcases z with z | ⟨p, o, e1, _, _, e2, r⟩
 · exact .inl z
 · exact .inr ⟨p, o, e1, e2, r⟩
theorem cU (s : xO X T W e m) : aM X T W e (bL m) := fun B w σ H fr h Q r p => s B w σ H fr h Q r (by
 refine aO.bind (VR := vE X.K T B σ) p fun d fr1 h1 w1 H1 v eq x r1 z p1 => ?_
 rcases z with z | ⟨p', o, rfl, O, lo, eH, rd⟩
 · rw [abJ z] at p1
   exact p1 w1 H1 v (Wd.le_refl _) r1 z
 · exact p1 (w1.add p' o) H1 (.ref p') (Wd.le_add O.f) (r1.freeze O lo eH) (rd.fz (Wd.le_add O.f) (by show upd w1.F p' _ p' = _; rw [upd_same])))
theorem aA {i : Int} {j : Nat} : aM X T W (.Constant (.int i) j pos) (mC (.int i)) := fun B w σ H fr h Q r p => eU pe_int (p w H _ (Wd.le_refl _) r (.int i))
theorem xW {i : Bool} {j : Nat} : aM X T W (.Constant (.bool i) j pos) (mC (.bl i)) := fun B w σ H fr h Q r p => eU pe_bl (p w H _ (Wd.le_refl _) r (.bl i))
theorem YW {j : Nat} : aM X T W (.Constant .none j pos) (mC .non) := fun B w σ H fr h Q r p => eU pe_non (p w H _ (Wd.le_refl _) r .non)
theorem Ir {i : Str} {j : Nat} : aM X T W (.Constant (.str i) j pos) (mC (.str i)) := fun B w σ H fr h Q r p => eU pe_str (p w H _ (Wd.le_refl _) r (.str i))
theorem fW {K : PySem.W.Frag} {T : Tb} {B : Bs} {w : Wd} {σ : L2.St} {H : Hp} {fr : Fr} {h : Hh} (R : Rel K T B w σ H fr h) {i : Nat} {d : D} (e : fr[i]? = some (some d)) :
 ∃ v, σ[i]? = some (some v) ∧ Ld K T B w H (some v) (some d) := by
 have l2 : i < fr.length := (List.getElem?_eq_some_iff.mp e).1
 have l1 : i < σ.length := by rw [← R.fl]; exact l2
 have e1 : σ[i]? = some σ[i] := ag1 l1
 have z := R.sl i _ _ e1 e
 generalize σ[i] = s at z e1
 cases z with
 | val r => exact ⟨_, e1, .val r⟩
 | own O eH r => exact ⟨_, e1, .own O eH r⟩
theorem ak (i : Nat) {x : Str} (hN : X.N[i]? = some x := by rfl) (hv : Vis X.env.scope x := by first | exact Or.inl rfl | exact Or.inr (Or.inl rfl) | exact Or.inr (Or.inr rfl)) (hd : (x == ("__debug__" : Str)) = false := by decide)
 (hcd : (x == ("__classdict__" : Str)) = false := by decide) : aM X T W (.Name x pos) (aa i) := fun B w σ H fr h Q r p => eU (pe_var hN hv hd hcd) (by
 unfold aa at p
 split at p
 · rename_i d e1
   cases od : d.own with
   | true =>
     rw [od] at p
     obtain ⟨q, o, e2, eH, rd, nf, r1⟩ := r.freeze_slot e1 od
     exact ⟨_, e2, p (w.add q o) H (.ref q) (Wd.le_add nf) r1 (rd.fz (Wd.le_add nf) (by show upd w.F q _ q = _; rw [upd_same]))⟩
   | false =>
     rw [od] at p
     obtain ⟨v, e2, z⟩ := fW r e1
     cases z with
     | val rd => exact ⟨v, e2, p w H v (Wd.le_refl _) r rd⟩
     | own O eH rd =>
       rw [rd.own] at od
       cases od
 · exact p.elim)
theorem bQ (i : Nat) {x : Str} (hN : X.N[i]? = some x := by rfl) (hv : Vis X.env.scope x := by first | exact Or.inl rfl | exact Or.inr (Or.inl rfl) | exact Or.inr (Or.inr rfl)) (hd : (x == ("__debug__" : Str)) = false := by decide)
 (hcd : (x == ("__classdict__" : Str)) = false := by decide) : Le X T W (.Name x pos) (az i) := fun B w σ H fr h Q r p => eU (pe_var hN hv hd hcd) (by
 unfold az at p
 split at p
 · rename_i d e1
   obtain ⟨v, e2, z⟩ := fW r e1
   refine ⟨v, e2, p w H v (Wd.le_refl _) r ?_⟩
   cases z with
   | val rd => exact .inl rd
   | own O eH rd => exact .inr ⟨_, _, rfl, eH, rd⟩
 · exact p.elim)
theorem abK (i : Nat) {x : Str} (hN : X.N[i]? = some x := by rfl) (hv : Vis X.env.scope x := by first | exact Or.inl rfl | exact Or.inr (Or.inl rfl) | exact Or.inr (Or.inr rfl)) (hd : (x == ("__debug__" : Str)) = false := by decide)
 (hcd : (x == ("__classdict__" : Str)) = false := by decide) : xO X T W (.Name x pos) (JF i) := fun B w σ H fr h Q r p => eU (pe_var hN hv hd hcd) (by
 unfold JF at p
 split at p
 · rename_i d e1
   obtain ⟨v, e2, z⟩ := fW r e1
   refine ⟨v, e2, p w H v (Wd.le_refl _) (r.drop_slot i) ?_⟩
   cases z with
   | val rd => exact .inl rd
   | @own q o _ O eH rd =>
     refine .inr ⟨q, o, rfl, O, fun j z => ?_, eH, rd⟩
     obtain ⟨q1, dq, q2, oq⟩ := z
     by_cases hj : i = j
     · subst hj
       rw [ag8 (List.getElem?_eq_some_iff.mp e1).1] at q2
       cases q2
     · rw [ag6 hj] at q2
       exact r.sep i j q hj ⟨e2, d, e1, rd.own⟩ ⟨q1, dq, q2, oq⟩
 · exact p.elim)
def big : Nat := 100000
theorem xP {n : Nat} (h : n ≤ big) : n ≤ sizeLine := Nat.le_trans h (by decide)
def D.der (h : Hh) : D → D
 | .ref n => (h[n]?).getD .non
 | d => d
def D.its (h : Hh) (d : D) : Option (List D) := match d.der h with
 | .tup l => some l
 | .fl l => some l
 | .kl l => some l
 | .nl l => some l
 | _ => none
theorem Kw {K : PySem.W.Frag} {T : Tb} {B : Bs} {w : Wd} {σ : L2.St} {H : Hp} {fr : Fr} {h : Hh} {v : V} {d : D} {ds : List D} (R : Rel K T B w σ H fr h) (z : vO K T B σ w H fr v d) (e : d.its h = some ds) :
 ∃ p vs, v = .ref p ∧ au K T w vs ds ∧ (SqL K H p vs ∨ SqT K H p vs) := by
 rcases z with z | ⟨p, o, rfl, eH, z⟩
 · cases z with
   | tup s r =>
     have e' : some _ = some ds := e
     cases e'
     exact ⟨_, _, rfl, r, .inr (dO R.sub s)⟩
   | fl s r =>
     have e' : some _ = some ds := e
     cases e'
     exact ⟨_, _, rfl, r, .inl (SqL.of (R.sub _ _ s))⟩
   | kl s r =>
     have e' : some _ = some ds := e
     cases e'
     exact ⟨_, _, rfl, r, .inl (oW R.sub s)⟩
   | @ref a n s =>
     have ln : n < h.length := by
      rw [← R.len]
      exact (List.getElem?_eq_some_iff.mp s).1
     obtain ⟨o, q, rr⟩ := R.cel n a h[n] s (ag1 ln)
     have e0 : (h[n]?).getD .non = h[n] := by rw [ag1 ln]; rfl
     unfold D.its D.der at e
     dsimp only at e
     rw [e0] at e
     generalize h[n] = c at rr e
     cases rr with
     | lst r =>
       have e' : some _ = some ds := e
       cases e'
       exact ⟨_, _, rfl, r, .inl (SqL.of q)⟩
     | obj r => cases e
     | dct _ r => cases e
     | dkt _ r => cases e
   | non => cases e
   | bl _ => cases e
   | int _ => cases e
   | str _ => cases e
   | obj _ _ => cases e
   | cls _ => cases e
   | ty _ => cases e
   | sl _ => cases e
 · cases z with
   | lst r =>
     have e' : some _ = some ds := e
     cases e'
     exact ⟨_, _, rfl, r, .inl (SqL.of eH)⟩
   | obj r => cases e
def aG {α : Type} (f : Hh → D → D → Option α) (ma mb : M D) : M α := ma.bind fun x => mb.bind fun y fr h => M.opt (f h x y) fr h
theorem Ur {α β : Type} {VR2 : ju V D} {VR : ju β α} {f : Hh → D → D → Option α} {r : V → V → Hp → (β → Hp → Prop) → Prop} (sa : aM X T W a ma) (sb : eE (WE X b) X.K T W VR2 mb)
 (hr : ∀ B w σ H fr h x y d e z Q, Rel X.K T B w σ H fr h → bA X.K T w x d → VR2 X.K T B σ w H fr y e → f h d e = some z → (∀ w' H' v, w.le w' → Rel X.K T B w' σ H' fr h → VR X.K T B σ w' H' fr v z → Q v H') → r x y H Q) :
 eE (fun σ H Q => WE X a σ H fun x H1 => WE X b σ H1 fun y H2 => r x y H2 Q) X.K T W VR (aG f ma mb) := fun B w σ H fr h Q r1 p =>
 sa B w σ H fr h _ r1 (aO.bind (VR := vV X.K T B σ) p fun d fr1 h1 w1 H1 x e1 l1 r1 rx p1 => sb B w1 σ H1 fr1 h1 _ r1 (aO.bind (VR := VR2 X.K T B σ) p1 fun e fr2 h2 w2 H2 y e2 l2 r2 ry p2 => by
  cases q : f h2 d e with
  | none => rw [q] at p2; exact p2.elim
  | some z =>
    rw [q] at p2
    exact hr B w2 σ H2 fr2 h2 x y d e z Q r2 (rx.mono l2) ry q p2))
end
end Pk
namespace Pk
open PySem PySem.Spec L2
structure Cq (X : Cx) (T : Tb) (W : WX) (k : Nat) : Prop where
 calm : X.calm = true
 nd : X.N.Nodup
 room : Room k X.A
 takes : Takes X W
 po : PassesOwn (model X.prog X.w) X.A X.env X.xe
theorem Cq.u {X : Cx} {T : Tb} {W : WX} {k : Nat} (C : Cq X T W k) : X.A.units + 65 < cLine := by
 have := C.room.un
 omega
section
variable {X : Cx} {T : Tb} {W : WX} {k : Nat} {e a b c : Expr} {es : List Expr} {m ma mb mc : M D} {pos : Pos}
mutual
def D.toP : D → Option PyData
 | .non => some .none
 | .bl b => some (.bool b)
 | .int i => some (.int i)
 | .str s => some (.str s)
 | .tup l => (D.toPs l).map .tuple
 | .fl l => (D.toPs l).map .list
 | .kl l => (D.toPs l).map .list
 | .nl l => (D.toPs l).map .list
 | _ => none
def D.toPs : List D → Option (List PyData)
 | [] => some []
 | d :: ds => match D.toP d, D.toPs ds with
   | some p, some ps => some (p :: ps)
   | _, _ => none
end
section
variable {K : PySem.W.Frag} {w : Wd} {H : Hp}
mutual
theorem Oa (hs : ∀ a o, w.F a = some o → H a = some o) : ∀ {v : V} {d : D} {p : PyData}, bA K T w v d → d.toP = some p → Dp K H v p
 | _, _, _, .non, e => by cases e; exact .non
 | _, _, _, .bl b, e => by cases e; exact .bl b
 | _, _, _, .int i, e => by cases e; exact .int i
 | _, _, _, .str s, e => by cases e; exact .str s
 | _, _, _, .tup s r, e => by
   unfold D.toP at e
   obtain ⟨ps, e1, e2⟩ := Option.map_eq_some_iff.mp e
   subst e2
   exact .tup (dO hs s) (Mw hs r e1)
 | _, _, _, .fl s r, e => by
   unfold D.toP at e
   obtain ⟨ps, e1, e2⟩ := Option.map_eq_some_iff.mp e
   subst e2
   exact .lst (SqL.of (hs _ _ s)) (Mw hs r e1)
 | _, _, _, .kl s r, e => by
   unfold D.toP at e
   obtain ⟨ps, e1, e2⟩ := Option.map_eq_some_iff.mp e
   subst e2
   exact .lst (oW hs s) (Mw hs r e1)
 | _, _, _, .obj _ _, e => by cases e
 | _, _, _, .ref _, e => by cases e
 | _, _, _, .cls _, e => by cases e
 | _, _, _, .ty _, e => by cases e
 | _, _, _, .sl _, e => by cases e
theorem Mw (hs : ∀ a o, w.F a = some o → H a = some o) : ∀ {vs : List V} {ds : List D} {ps : List PyData}, au K T w vs ds → D.toPs ds = some ps → DpAll K H vs ps
 | _, _, _, .nil, e => by cases e; exact .nil
 | _, _, _, @au.cons _ _ _ _ d _ ds h t, e => by
   unfold D.toPs at e
   cases e1 : d.toP with
   | none => rw [e1] at e; cases e
   | some p =>
     cases e2 : D.toPs ds with
     | none => rw [e1, e2] at e; cases e
     | some ps =>
       rw [e1, e2] at e
       cases e
       exact .cons (Oa hs h e1) (Mw hs t e2)
end
theorem YX {B : Bs} {σ : L2.St} {fr : Fr} {h : Hh} {v : V} {d : D} {p : PyData} (R : Rel K T B w σ H fr h) (z : vO K T B σ w H fr v d) (e : d.toP = some p) : Dp K H v p := by
 rcases z with z | ⟨q, o, rfl, eH, z⟩
 · exact Oa R.sub z e
 · cases z with
   | lst r =>
     unfold D.toP at e
     obtain ⟨ps, e1, e2⟩ := Option.map_eq_some_iff.mp e
     subst e2
     exact .lst (SqL.of eH) (Mw R.sub r e1)
   | obj r => cases e
end
def cA (h : Hh) : D → D → Option D
 | .int i, .int j => some (.int (i + j))
 | .str a, .str b => if a.length + b.length ≤ big then some (.str (a ++ b)) else none
 | .tup a, .tup b => if a.length + b.length ≤ big then some (.tup (a ++ b)) else none
 | .fl a, .fl b => if a.length + b.length ≤ big then some (.nl (a ++ b)) else none
 | _, _ => none
theorem Ql {w : Wd} {K : PySem.W.Frag} {v : V} {ds : List D} (r : bA K T w v (.fl ds)) : ∃ a vs, v = .ref a ∧ w.F a = some (.lst vs) ∧ au K T w vs ds := by
 cases r with
 | fl s t => exact ⟨_, _, rfl, s, t⟩
theorem Bl {w : Wd} {K : PySem.W.Frag} {v : V} {ds : List D} (r : bA K T w v (.tup ds)) : ∃ a vs, v = .ref a ∧ SqT K w.F a vs ∧ au K T w vs ds := by
 cases r with
 | tup s t => exact ⟨_, _, rfl, s, t⟩
theorem mX {w : Wd} {K : PySem.W.Frag} {v : V} {i : Int} (r : bA K T w v (.int i)) : v = .int i := by
 cases r
 rfl
theorem acP {w : Wd} {K : PySem.W.Frag} {v : V} {i : Bool} (r : bA K T w v (.bl i)) : v = .bl i := by
 cases r
 rfl
theorem Ie {w : Wd} {K : PySem.W.Frag} {v : V} {i : Str} (r : bA K T w v (.str i)) : v = .str i := by
 cases r
 rfl
theorem Ig {K : PySem.W.Frag} {B : Bs} {w : Wd} {σ : L2.St} {H : Hp} {fr : Fr} {h : Hh} {p : Addr} {vs : List V} {ds : List D} {Q : V → Hp → Prop} (R : Rel K T B w σ H fr h) (r : au K T w vs ds) (np : H p = none)
 (q : ∀ w' H' v, w.le w' → Rel K T B w' σ H' fr h → bA K T w' v (.tup ds) → Q v H') : Q (.ref p) (upd H p (.tup vs)) :=
 q (w.add p (.tup vs)) _ _ (Wd.le_add (R.nP np).1) (R.laid np) (.tup (SqT.of (by show upd w.F p _ p = _; rw [upd_same])) (r.mono (Wd.le_add (R.nP np).1)))
theorem Oc {K : PySem.W.Frag} {B : Bs} {w : Wd} {σ : L2.St} {H : Hp} {fr : Fr} {h : Hh} {p : Addr} {vs : List V} {ds : List D} {Q : V → Hp → Prop} (R : Rel K T B w σ H fr h) (r : au K T w vs ds) (np : H p = none)
 (q : ∀ w' H' v, w.le w' → Rel K T B w' σ H' fr h → vE K T B σ w' H' fr v (.nl ds) → Q v H') : Q (.ref p) (upd H p (.lst vs)) :=
 q w _ _ (Wd.le_refl w) (R.temp np) (.inr ⟨p, _, rfl, R.own_new np, R.loose_new np, upd_same, .lst r⟩)
theorem jk (sa : aM X T W a ma) (sb : aM X T W b mb) : xO X T W (.BinOp a .Add b pos) (aG cA ma mb) := fun B w σ H fr h Q r1 p =>
 eU (pe_op Kv aX aX) (Ur (VR := vE) sa sb (fun B w σ H fr h x y d e z Q R rx ry q k => by
  unfold cA at q
  split at q
  · cases q
    rw [mX rx, mX ry]
    exact Bj op_add ⟨_, _, rfl, rfl, k w H _ (Wd.le_refl _) R (.inl (.int _))⟩
  · split at q
    · rename_i hl
      cases q
      rw [Ie rx, Ie ry]
      exact Bj op_add_str ⟨_, _, rfl, rfl, xP hl, k w H _ (Wd.le_refl _) R (.inl (.str _))⟩
    · cases q
  · split at q
    · rename_i ds es hl
      cases q
      obtain ⟨p1, vs, rfl, s1, r1⟩ := Bl rx
      obtain ⟨p2, us, rfl, s2, r2⟩ := Bl ry
      refine Bj op_catA ⟨p1, p2, vs, us, rfl, rfl, dO R.sub s1, dO R.sub s2, by rw [r1.length, r2.length]; exact xP hl, fun e0 => ?_, fun _ e0 => ?_, fun _ _ p np => ?_⟩
      · subst e0
        cases r1
        exact k w H _ (Wd.le_refl _) R (.inl ry)
      · subst e0
        cases r2
        rw [ag5] at k
        exact k w H _ (Wd.le_refl _) R (.inl rx)
      · exact Ig R (r1.append r2) np fun w' H' v l R' r' => k w' H' v l R' (.inl r')
    · cases q
  · split at q
    · rename_i ds es hl
      cases q
      obtain ⟨p1, vs, rfl, s1, r1⟩ := Ql rx
      obtain ⟨p2, us, rfl, s2, r2⟩ := Ql ry
      refine Bj op_cat ⟨p1, p2, vs, us, rfl, rfl, R.sub _ _ s1, R.sub _ _ s2, by rw [r1.length, r2.length]; exact xP hl, fun p np => ?_⟩
      exact Oc R (r1.append r2) np k
    · cases q
  · cases q) B w σ H fr h Q r1 p)
def eO (C : Int → Int → Bool) (g : Int → Int → Int) (_ : Hh) : D → D → Option D
 | .int i, .int j => if C i j then some (.int (g i j)) else none
 | _, _ => none
theorem Iu {op : Operator} {P : Int → Int → Prop} {C : Int → Int → Bool} {g : Int → Int → Int} (o : OpR X (binaryOp op) (rI P fun i j => .int (g i j))) (hC : ∀ i j, C i j = true → P i j) (sa : aM X T W a ma) (sb : aM X T W b mb) :
 aM X T W (.BinOp a op b pos) (aG (eO C g) ma mb) := fun B w σ H fr h Q r1 p =>
 eU (pe_op Kv aX aX) (Ur (VR := vV) sa sb (fun B w σ H fr h x y d e z Q R rx ry q k => by
  unfold eO at q
  split at q
  · split at q
    · rename_i hc
      cases q
      rw [mX rx, mX ry]
      exact Bj o ⟨_, _, rfl, rfl, hC _ _ hc, k w H _ (Wd.le_refl _) R (.int _)⟩
    · cases q
  · cases q) B w σ H fr h Q r1 p)
def uv (_ _ : Int) : Bool := true
def Xr (i j : Int) : Bool := decide (i.natAbs.log2 + j.natAbs.log2 < 1000000)
def ZZ (_ j : Int) : Bool := decide (0 < j)
def Xu (_ j : Int) : Bool := decide (0 < j) && decide (j.natAbs.log2 < 9000)
def Mx (i j : Int) : Bool := decide (0 ≤ j) && decide (j ≤ 1000000) && decide (i.natAbs < 2 ^ 64)
abbrev CP := eO uv (fun i j => i - j)
abbrev Xv := eO Xr (fun i j => i * j)
abbrev RG := eO ZZ (fun i j => i % j)
abbrev Z0 := eO Xu (fun i j => i / j)
abbrev RJ := eO Mx (fun i j => i ^ j.toNat)
theorem abL : OpR X (binaryOp .Sub) (rI (fun _ _ => True) fun i j => .int (i - j)) := fun pins s σ H x y v u Q I rx ry ⟨i, j, e1, e2, _, q⟩ => op_sub pins s σ H x y v u Q I rx ry ⟨i, j, e1, e2, q⟩
theorem zp (sa : aM X T W a ma) (sb : aM X T W b mb) : aM X T W (.BinOp a .Sub b pos) (aG CP ma mb) := Iu abL (fun _ _ _ => trivial) sa sb
theorem Us (sa : aM X T W a ma) (sb : aM X T W b mb) : aM X T W (.BinOp a .Mult b pos) (aG Xv ma mb) := Iu op_mulW (fun i j h => by
 have h' : decide (i.natAbs.log2 + j.natAbs.log2 < 1000000) = true := h
 have h2 : i.natAbs.log2 + j.natAbs.log2 < 1000000 := of_decide_eq_true h'
 exact h2) sa sb
theorem Mz (sa : aM X T W a ma) (sb : aM X T W b mb) : aM X T W (.BinOp a .Mod b pos) (aG RG ma mb) := Iu op_mod (fun _ j h => by
 have h' : decide (0 < j) = true := h
 exact of_decide_eq_true h') sa sb
theorem YZ (sa : aM X T W a ma) (sb : aM X T W b mb) : aM X T W (.BinOp a .FloorDiv b pos) (aG Z0 ma mb) := Iu op_fdivW (fun _ _ h => by
 obtain ⟨h1, h2⟩ := Bool.and_eq_true_iff.mp h
 exact ⟨of_decide_eq_true h1, of_decide_eq_true h2⟩) sa sb
theorem MF (sa : aM X T W a ma) (sb : aM X T W b mb) : aM X T W (.BinOp a .Pow b pos) (aG RJ ma mb) := Iu op_pow (fun _ _ h => by
 obtain ⟨h1, h3⟩ := Bool.and_eq_true_iff.mp h
 obtain ⟨h1, h2⟩ := Bool.and_eq_true_iff.mp h1
 exact ⟨of_decide_eq_true h1, of_decide_eq_true h2, of_decide_eq_true h3⟩) sa sb
def MJ : D → Option D
 | .int i => some (.int (-i))
 | _ => none
def aC {α : Type} (f : Hh → D → Option α) (ma : M D) : M α := ma.bind fun x fr h => M.opt (f h x) fr h
theorem Xw {α β : Type} {VR1 : ju V D} {VR : ju β α} {f : Hh → D → Option α} {r : V → Hp → (β → Hp → Prop) → Prop} (sa : eE (WE X a) X.K T W VR1 ma)
 (hr : ∀ B w σ H fr h x d z Q, Rel X.K T B w σ H fr h → VR1 X.K T B σ w H fr x d → f h d = some z → (∀ w' H' v, w.le w' → Rel X.K T B w' σ H' fr h → VR X.K T B σ w' H' fr v z → Q v H') → r x H Q) :
 eE (fun σ H Q => WE X a σ H fun x H1 => r x H1 Q) X.K T W VR (aC f ma) := fun B w σ H fr h Q r1 p =>
 sa B w σ H fr h _ r1 (aO.bind (VR := VR1 X.K T B σ) p fun d fr1 h1 w1 H1 x e1 l1 r1 rx p1 => by
  cases q : f h1 d with
  | none => rw [q] at p1; exact p1.elim
  | some z =>
    rw [q] at p1
    exact hr B w1 σ H1 fr1 h1 x d z Q r1 rx q p1)
theorem Y0 (sa : aM X T W a ma) : aM X T W (.UnaryOp .USub a pos) (aC (fun _ => MJ) ma) := fun B w σ H fr h Q r1 p =>
 eU (pe_un acO aX) (Xw (VR := vV) sa (fun B w σ H fr h x d z Q R rx q k => by
  unfold MJ at q
  split at q
  · cases q
    rw [mX rx]
    exact aed un_neg ⟨_, rfl, k w H _ (Wd.le_refl _) R (.int _)⟩
  · cases q) B w σ H fr h Q r1 p)
def zW (X : Cx) (T : Tb) (VR2 : ju V D) (op : CmpOp) (f : Hh → D → D → Option Bool) : Prop :=
 ∀ B w σ H fr h x y d e c Q, Rel X.K T B w σ H fr h → bA X.K T w x d → VR2 X.K T B σ w H fr y e → f h d e = some c → Q (.bl c) H → rM X (compareOp op) x y H Q
def cInt (p : Int → Int → Bool) (_ : Hh) : D → D → Option Bool
 | .int i, .int j => some (p i j)
 | _, _ => none
theorem Od {op : CmpOp} {p : Int → Int → Bool} (o : OpR X (compareOp op) (rI0 fun i j => .bl (p i j))) : zW X T vV op (cInt p) := fun B w σ H fr h x y d e c Q R rx ry q k => by
 unfold cInt at q
 split at q
 · cases q
   rw [mX rx, mX ry]
   exact Bj o ⟨_, _, rfl, rfl, k⟩
 · cases q
abbrev Th := cInt fun i j => decide (i < j)
abbrev QQ := cInt fun i j => decide (i ≤ j)
abbrev cGt := cInt fun i j => decide (j < i)
abbrev cGe := cInt fun i j => decide (j ≤ i)
theorem cmp_lt : zW X T vV .Lt Th := Od op_lt
theorem cmp_le : zW X T vV .LtE QQ := Od op_le
theorem cmp_gt : zW X T vV .Gt cGt := Od op_gt
theorem cmp_ge : zW X T vV .GtE cGe := Od op_ge
def u5 (_ : Hh) (d e : D) : Option Bool := match d.toP, e.toP with
 | some p, some q => if SeqAt.shaped p && SeqAt.shaped q then some (PyData.eqv p q) else none
 | _, _ => none
def MK (h : Hh) (d e : D) : Option Bool := (u5 h d e).map (!·)
theorem Ut {h : Hh} {d e : D} {c : Bool} (q : u5 h d e = some c) : ∃ p p', d.toP = some p ∧ e.toP = some p' ∧ SeqAt.shaped p = true ∧ SeqAt.shaped p' = true ∧ c = PyData.eqv p p' := by
 unfold u5 at q
 split at q
 · rename_i p p' e1 e2
   split at q
   · rename_i hs
     obtain ⟨h1, h2⟩ := Bool.and_eq_true_iff.mp hs
     cases q
     exact ⟨p, p', e1, e2, h1, h2, rfl⟩
   · cases q
 · cases q
theorem cmp_eq (C : Cq X T W k) : zW X T vO .Eq u5 := fun B w σ H fr h x y d e c Q R rx ry q kk => by
 obtain ⟨p, p', e1, e2, s1, s2, rfl⟩ := Ut q
 exact Bj (op_eqD (by have := C.u; omega)) ⟨p, p', Oa R.sub rx e1, YX R ry e2, s1, s2, kk⟩
theorem QR (C : Cq X T W k) : zW X T vO .NotEq MK := fun B w σ H fr h x y d e c Q R rx ry q kk => by
 obtain ⟨c', q', rfl⟩ := Option.map_eq_some_iff.mp q
 obtain ⟨p, p', e1, e2, s1, s2, rfl⟩ := Ut q'
 exact Bj (op_neD (by have := C.u; omega)) ⟨p, p', Oa R.sub rx e1, YX R ry e2, s1, s2, kk⟩
def D.flat : D → Bool
 | .non => true
 | .bl _ => true
 | .int _ => true
 | .str _ => true
 | _ => false
def D.eqf : D → D → Bool
 | .non, .non => true
 | .bl a, .bl b => a == b
 | .bl a, .int b => (if a then 1 else 0) == b
 | .int a, .bl b => a == (if b then 1 else 0)
 | .int a, .int b => a == b
 | .str a, .str b => a == b
 | _, _ => false
theorem Uu {K : PySem.W.Frag} {w : Wd} {v : V} {d : D} (r : bA K T w v d) (f : d.flat = true) : flatV v = true := by
 cases r <;> first | rfl | cases f
theorem Tj {K : PySem.W.Frag} {w : Wd} : ∀ {vs : List V} {ds : List D}, au K T w vs ds → ds.all D.flat = true → vs.all flatV = true
 | _, _, .nil, _ => rfl
 | _, _, .cons h t, f => by
   rw [List.all_cons, Bool.and_eq_true] at f ⊢
   exact ⟨Uu h f.1, Tj t f.2⟩
theorem abM {K : PySem.W.Frag} {w : Wd} {v u : V} {d e : D} (r : bA K T w v d) (s : bA K T w u e) : eqV v u = D.eqf d e := by
 cases r <;> cases s <;> rfl
theorem Wz {K : PySem.W.Frag} {w : Wd} {u : V} {e : D} (s : bA K T w u e) : ∀ {vs : List V} {ds : List D}, au K T w vs ds → inV u vs = ds.any fun z => D.eqf z e
 | _, _, .nil => rfl
 | _, _, @au.cons _ _ _ v d vs ds h t => by
   have q := Wz s t
   unfold inV at q ⊢
   rw [List.any_cons, List.any_cons, abM h s, q]
def cIn (h : Hh) (x y : D) : Option Bool := match x, y with
 | .str c, .str z => if c.length = 1 then some (decide (c.cps.toList.headD 0 ∈ z.cps.toList)) else some (!(Builtin.Str.occurrences z c 0 z.length 1).isEmpty)
 | x, y => match y.its h with
   | some l => if x.flat && l.all D.flat then some (l.any fun z => D.eqf z x) else none
   | none => none
def Qm (h : Hh) (x y : D) : Option Bool := (cIn h x y).map (!·)
theorem str1 {c : Str} (h : c.length = 1) : c = ⟨#[c.cps.toList.headD 0]⟩ := by
 obtain ⟨⟨l⟩⟩ := c
 have h' : l.length = 1 := h
 match l, h' with
 | [x], _ => rfl
theorem WD : zW X T vO .NotIn Qm := fun B w σ H fr h x y d e c Q R rx ry q kk => by
 obtain ⟨c', q', rfl⟩ := Option.map_eq_some_iff.mp q
 clear q
 have q := q'
 clear q'
 unfold cIn at q
 split at q
 · rename_i cc z
   have ey : y = .str z := by
    rcases ry with ry | ⟨_, _, _, _, r⟩
    · exact Ie ry
    · cases r
   rw [Ie rx, ey]
   split at q
   · rename_i h1
     cases q
     exact Bj op_notIn_sign ⟨_, z, by rw [← str1 h1], rfl, kk⟩
   · cases q
     exact Bj op_notin_str ⟨cc, z, rfl, rfl, kk⟩
 · split at q
   · rename_i l el
     split at q
     · rename_i hf
       obtain ⟨f1, f2⟩ := Bool.and_eq_true_iff.mp hf
       cases q
       obtain ⟨p, vs, rfl, rl, sq⟩ := Kw R ry el
       refine Bj op_notIn_seq ⟨p, vs, rfl, sq, Uu rx f1, Tj rl f2, ?_⟩
       rw [if_pos rfl, Wz rx rl]
       exact kk
     · cases q
   · cases q
def D.isNon : D → Bool
 | .non => true
 | _ => false
theorem Y4 {K : PySem.W.Frag} {w : Wd} {v : V} {d : D} (r : bA K T w v d) : decide (v = .non) = d.isNon := by
 cases r <;> rfl
def cIs (_ : Hh) (d e : D) : Option Bool := if e.isNon then some d.isNon else none
def RK (_ : Hh) (d e : D) : Option Bool := if e.isNon then some (!d.isNon) else none
theorem acR {K : PySem.W.Frag} {w : Wd} {v : V} {d : D} (r : bA K T w v d) (h : d.isNon = true) : v = .non := by
 cases r <;> first | rfl | cases h
theorem abN : zW X T vV .IsNot RK := fun B w σ H fr h x y d e c Q R rx ry q kk => by
 unfold RK at q
 split at q
 · rename_i he
   cases q
   refine Bj op_notN ⟨acR ry he, ?_⟩
   rw [Y4 rx]
   exact kk
 · cases q
theorem fQ {op : CmpOp} {VR2 : ju V D} {f : Hh → D → D → Option Bool} (o : zW X T VR2 op f) (sa : aM X T W a ma) (sb : eE (WE X b) X.K T W VR2 mb) (hm : behindInMarks op b = false := by with_unfolding_all rfl) :
 Ez X T W (.Compare a [op] [b] pos) (aG f ma mb) := fun B w σ H fr h Q r1 p =>
 QM (pt_cmpR Kv aX aX hm) (Ur (VR := vB) (r := fun x y H Q => rM X (compareOp op) x y H fun z H' => ∃ k, z = .bl k ∧ Q k H') sa sb (fun B w σ H fr h x y d e z Q R rx ry q k =>
  o B w σ H fr h x y d e z _ R rx ry q ⟨z, rfl, k w H z (Wd.le_refl _) R rfl⟩) B w σ H fr h Q r1 p)
def mBl (m : M Bool) : M D := m.bind fun b => M.ret (.bl b)
theorem Iv {op : CmpOp} {VR2 : ju V D} {f : Hh → D → D → Option Bool} (o : zW X T VR2 op f) (sa : aM X T W a ma) (sb : eE (WE X b) X.K T W VR2 mb) (hm : behindInMarks op b = false := by with_unfolding_all rfl) :
 aM X T W (.Compare a [op] [b] pos) (aG (fun h x y => (f h x y).map .bl) ma mb) := fun B w σ H fr h Q r1 p =>
 eU (pe_cmpR Kv aX aX hm) (Ur (VR := vV) sa sb (fun B w σ H fr h x y d e z Q R rx ry q k => by
  obtain ⟨c, q', rfl⟩ := Option.map_eq_some_iff.mp q
  exact o B w σ H fr h x y d e c _ R rx ry q' (k w H _ (Wd.le_refl _) R (.bl c))) B w σ H fr h Q r1 p)
def jm (f g : Hh → D → D → Option Bool) (ma mb mc : M D) : M Bool := ma.bind fun x => mb.bind fun y fr h => match f h x y with
 | some true => (mc.bind fun z fr h => M.opt (g h y z) fr h) fr h
 | some false => .ok false fr h
 | none => .err
theorem Qn {op op' : CmpOp} {f g : Hh → D → D → Option Bool} (o : zW X T vV op f) (o' : zW X T vV op' g) (sa : aM X T W a ma) (sb : aM X T W b mb) (sc : aM X T W c mc) (hm : lastMarks [op, op'] [b, c] = false := by with_unfolding_all rfl) :
 Ez X T W (.Compare a [op, op'] [b, c] pos) (jm f g ma mb mc) := fun B w σ H fr h Q r1 p =>
 QM (pt_chain Kv Kv aX aX aX hm) (sa B w σ H fr h _ r1 (aO.bind (VR := vV X.K T B σ) p fun d fr1 h1 w1 H1 x e1 l1 r1 rx p1 => sb B w1 σ H1 fr1 h1 _ r1 (aO.bind (VR := vV X.K T B σ) p1 fun e fr2 h2 w2 H2 y e2 l2 r2 ry p2 => by
  cases q : f h2 d e with
  | none => rw [q] at p2; exact p2.elim
  | some k =>
    rw [q] at p2
    cases k with
    | false => exact o B w2 σ H2 fr2 h2 x y d e false _ r2 (rx.mono l2) ry q ⟨false, rfl, ⟨false, rfl, p2 w2 H2 false (Wd.le_refl _) r2 rfl⟩⟩
    | true => exact o B w2 σ H2 fr2 h2 x y d e true _ r2 (rx.mono l2) ry q ⟨true, rfl, by
     show WE X c σ H2 _
     exact sc B w2 σ H2 fr2 h2 _ r2 (aO.bind (VR := vV X.K T B σ) p2 fun z fr3 h3 w3 H3 zv e3 l3 r3 rz p3 => by
      cases q' : g h3 e z with
      | none => rw [q'] at p3; exact p3.elim
      | some k' =>
        rw [q'] at p3
        exact o' B w3 σ H3 fr3 h3 y zv e z k' _ r3 (ry.mono l3) rz q' ⟨k', rfl, p3 w3 H3 k' (Wd.le_refl _) r3 rfl⟩)⟩)))
def D.tb : D → Option Bool
 | .bl b => some b
 | _ => none
theorem Uv {K : PySem.W.Frag} {B : Bs} {σ : L2.St} {w : Wd} {H : Hp} {fr : Fr} {v : V} {d : D} {b : Bool} (r : vO K T B σ w H fr v d) (e : d.tb = some b) : v = .bl b := by
 rcases r with r | ⟨_, _, _, _, r⟩
 · cases r <;> first | (cases e; rfl) | cases e
 · cases r <;> cases e
def D.tru (h : Hh) (d : D) : Option Bool := match d with
 | .non => some false
 | .bl b => some b
 | .int i => some (i != 0)
 | .str z => if z.length ≤ big then some ((z.length : Int) != 0) else none
 | d => (d.its h).map fun l => !l.isEmpty
theorem Tn {K : PySem.W.Frag} {w : Wd} {vs : List V} {ds : List D} (r : au K T w vs ds) : vs.isEmpty = ds.isEmpty := by
 cases r <;> rfl
theorem fB (s : Le X T W e m) (he : ∀ whole, isTrue e X.env whole = (do let v ← whole; standAt e.pos; holding [v] (truthy v)) := by intro _; rfl) : Ez X T W e (aC D.tru m) := fun B w σ H fr h Q r1 p =>
 QM (pt_truth aX he) (Xw (VR := vB) (r := fun x H Q => ∃ k, TruV X.K x H k ∧ Q k H) s (fun B w σ H fr h x d z Q R rx q k => by
  refine ⟨z, ?_, k w H z (Wd.le_refl _) R rfl⟩
  have viaIts : ∀ {l : List D}, d.its h = some l → (!l.isEmpty) = z → TruV X.K x H z := fun {l} el ez => by
   obtain ⟨p, vs, rfl, rl, sq⟩ := Kw R rx el
   rcases sq with sq | sq
   · exact .inl ⟨vs, sq, by rw [← ez, Tn rl]⟩
   · exact .inr (.inl ⟨vs, sq, by rw [← ez, Tn rl]⟩)
  unfold D.tru at q
  split at q
  · rcases rx with rx | ⟨_, _, _, _, rx⟩
    · cases rx
      cases q
      rfl
    · cases rx
  · rcases rx with rx | ⟨_, _, _, _, rx⟩
    · cases rx
      cases q
      rfl
    · cases rx
  · rcases rx with rx | ⟨_, _, _, _, rx⟩
    · cases rx
      cases q
      rfl
    · cases rx
  · split at q
    · rename_i hl
      rcases rx with rx | ⟨_, _, _, _, rx⟩
      · cases rx
        cases q
        exact ⟨xP hl, rfl⟩
      · cases rx
    · cases q
  · obtain ⟨l, e1, e2⟩ := Option.map_eq_some_iff.mp q
    exact viaIts e1 e2) B w σ H fr h Q r1 p)
def cC (m : M Bool) : M Bool := m.bind fun b => M.ret !b
def J9 (m n : M Bool) : M Bool := m.bind fun b => if b then n else M.ret false
def jA (m n : M Bool) : M Bool := m.bind fun b => if b then M.ret true else n
variable {n ta tb tc : M Bool} {rest : List Expr}
theorem dY (s : Ez X T W a n) : Ez X T W (.UnaryOp .Not a pos) (cC n) := fun B w σ H fr h Q r1 p =>
 QM (pt_not Hi) (s B w σ H fr h _ r1 (aO.bind (VR := vB X.K T B σ) p fun d fr1 h1 w1 H1 x e1 l1 r1 rx p1 => by
  have rx' : x = d := rx
  subst rx'
  exact p1 w1 H1 _ (Wd.le_refl _) r1 rfl))
theorem Bm (s : Qh X T W e n) : Ez X T W e n := fun B w σ H fr h Q r1 p => QM Uq.pt (s B w σ H fr h Q r1 p)
theorem WK (s : Ez X T W a ta) : Qh X T W (.BoolOp .And [a] pos) ta := fun B w σ H fr h Q r1 p => T9 (pw_and1 Hi) (s B w σ H fr h Q r1 p)
theorem Av (s : Ez X T W a ta) : Qh X T W (.BoolOp .Or [a] pos) ta := fun B w σ H fr h Q r1 p => T9 (pw_or1 Hi) (s B w σ H fr h Q r1 p)
theorem Y5 (s : Ez X T W a ta) (t : Qh X T W (.BoolOp .And (b :: rest) pos) tb) : Qh X T W (.BoolOp .And (a :: b :: rest) pos) (J9 ta tb) := fun B w σ H fr h Q r1 p =>
 T9 (pw_and Hi Uq) (s B w σ H fr h _ r1 (aO.bind (VR := vB X.K T B σ) p fun d fr1 h1 w1 H1 x e1 l1 r1 rx p1 => by
  have rx' : x = d := rx
  subst rx'
  cases x with
  | true => exact t B w1 σ H1 fr1 h1 Q r1 p1
  | false => exact p1 w1 H1 false (Wd.le_refl _) r1 rfl))
theorem Bo (s : Ez X T W a ta) (t : Qh X T W (.BoolOp .Or (b :: rest) pos) tb) : Qh X T W (.BoolOp .Or (a :: b :: rest) pos) (jA ta tb) := fun B w σ H fr h Q r1 p =>
 T9 (pw_or Hi Uq) (s B w σ H fr h _ r1 (aO.bind (VR := vB X.K T B σ) p fun d fr1 h1 w1 H1 x e1 l1 r1 rx p1 => by
  have rx' : x = d := rx
  subst rx'
  cases x with
  | false => exact t B w1 σ H1 fr1 h1 Q r1 p1
  | true => exact p1 w1 H1 true (Wd.le_refl _) r1 rfl))
def JG (m : M D) : M D := m.bind fun d => M.opt (d.tb.map fun b => .bl (!b))
def xX (m n : M D) : M D := m.bind fun d => match d.tb with
 | some true => n
 | some false => M.ret (.bl false)
 | none => M.opt none
def Qo (m n : M D) : M D := m.bind fun d => match d.tb with
 | some true => M.ret (.bl true)
 | some false => n
 | none => M.opt none
theorem Iw {op : BoolOp} (s : aM X T W a ma) : aM X T W (.BoolOp op [a] pos) ma := fun B w σ H fr h Q r1 p => eU (pe_one aX) (s B w σ H fr h Q r1 p)
theorem Y6 (s : aM X T W a ma) : aM X T W (.UnaryOp .Not a pos) (JG ma) := fun B w σ H fr h Q r1 p =>
 eU (pe_not aX) (s B w σ H fr h _ r1 (aO.bind (VR := vV X.K T B σ) p fun d fr1 h1 w1 H1 x e1 l1 r1 rx p1 => by
  cases q : d.tb with
  | none => rw [q] at p1; exact p1.elim
  | some c =>
    rw [q] at p1
    exact ⟨c, Uv (fr := fr1) (B := B) (σ := σ) (H := H1) (.inl rx) q, p1 w1 H1 _ (Wd.le_refl _) r1 (.bl _)⟩))
theorem Ky (s : aM X T W a ma) (t : aM X T W (.BoolOp .And (b :: rest) pos) mb) : aM X T W (.BoolOp .And (a :: b :: rest) pos) (xX ma mb) := fun B w σ H fr h Q r1 p =>
 eU (pe_and aX aX) (s B w σ H fr h _ r1 (aO.bind (VR := vV X.K T B σ) p fun d fr1 h1 w1 H1 x e1 l1 r1 rx p1 => by
  cases q : d.tb with
  | none => rw [q] at p1; exact p1.elim
  | some c =>
    rw [q] at p1
    refine ⟨c, Uv (fr := fr1) (B := B) (σ := σ) (H := H1) (.inl rx) q, ?_⟩
    cases c with
    | true => exact t B w1 σ H1 fr1 h1 Q r1 p1
    | false => exact p1 w1 H1 _ (Wd.le_refl _) r1 (.bl _)))
theorem aee (s : aM X T W a ma) (t : aM X T W (.BoolOp .Or (b :: rest) pos) mb) : aM X T W (.BoolOp .Or (a :: b :: rest) pos) (Qo ma mb) := fun B w σ H fr h Q r1 p =>
 eU (pe_or aX aX) (s B w σ H fr h _ r1 (aO.bind (VR := vV X.K T B σ) p fun d fr1 h1 w1 H1 x e1 l1 r1 rx p1 => by
  cases q : d.tb with
  | none => rw [q] at p1; exact p1.elim
  | some c =>
    rw [q] at p1
    refine ⟨c, Uv (fr := fr1) (B := B) (σ := σ) (H := H1) (.inl rx) q, ?_⟩
    cases c with
    | false => exact t B w1 σ H1 fr1 h1 Q r1 p1
    | true => exact p1 w1 H1 _ (Wd.le_refl _) r1 (.bl _)))
def Mf {α : Type} (t : M Bool) (m n : M α) : M α := t.bind fun b => if b then m else n
theorem s_if {VR : ju V D} (st : Ez X T W c tc) (sa : eE (WE X a) X.K T W VR ma) (sb : eE (WE X b) X.K T W VR mb) : eE (WE X (.IfExp c a b pos)) X.K T W VR (Mf tc ma mb) := fun B w σ H fr h Q r1 p =>
 eU (pe_ifExp Hi aX aX) (st B w σ H fr h _ r1 (aO.bind (VR := vB X.K T B σ) p fun d fr1 h1 w1 H1 x e1 l1 r1 rx p1 => by
  have rx' : x = d := rx
  subst rx'
  cases x with
  | true => exact sa B w1 σ H1 fr1 h1 Q r1 p1
  | false => exact sb B w1 σ H1 fr1 h1 Q r1 p1))
def aef : Expr → Bool
 | .Starred .. => true
 | _ => false
theorem d8 {e : Expr} {es : List Expr} {env : Env} (h : aef e = false) : starEach (e :: es) env = (false, eval e env) :: starEach es env := by
 cases e <;> first | (cases h; done) | rfl
def ao : List (M D) → M (List D)
 | [] => M.ret []
 | m :: ms => m.bind fun d => (ao ms).bind fun ds => M.ret (d :: ds)
variable {ms : List (M D)}
theorem aN : Qi X T W [] (ao []) := fun B w σ H fr h Q r1 p => Ua pa_nil (p w H _ (Wd.le_refl _) r1 .nil)
theorem aq (s : aM X T W e m) (t : Qi X T W es (ao ms)) (hs : starEach (e :: es) X.env = (false, eval e X.env) :: starEach es X.env := by exact d8 rfl) : Qi X T W (e :: es) (ao (m :: ms)) := fun B w σ H fr h Q r1 p =>
 Ua (pa_cons aX Mv hs) (s B w σ H fr h _ r1 (aO.bind (VR := vV X.K T B σ) p fun d fr1 h1 w1 H1 x e1 l1 r1 rx p1 =>
  t B w1 σ H1 fr1 h1 _ r1 (aO.bind (VR := vA X.K T B σ) p1 fun ds fr2 h2 w2 H2 vs e2 l2 r2 rs p2 => p2 w2 H2 _ (Wd.le_refl _) r2 (.cons (rx.mono l2) rs))))
def tW (ms : List (M D)) : M D := (ao ms).bind fun ds => M.opt (if ds.length ≤ big then some (.tup ds) else none)
def dX (ms : List (M D)) : M D := (ao ms).bind fun ds => M.opt (if ds.length ≤ big then some (.nl ds) else none)
theorem Cj {x1 : Nat} (s : Qi X T W es (ao ms)) : aM X T W (.Tuple es x1 pos) (tW ms) := fun B w σ H fr h Q r1 p =>
 eU (pe_tup Mv) (s B w σ H fr h _ r1 (aO.bind (VR := vA X.K T B σ) p fun ds fr1 h1 w1 H1 vs e1 l1 r1 rs p1 => by
  by_cases hl : ds.length ≤ big
  · rw [if_pos hl] at p1
    exact ⟨by rw [au.length rs]; exact xP hl, fun q nq => Ig r1 rs nq p1⟩
  · rw [if_neg hl] at p1
    exact p1.elim))
theorem tZ (s : Qi X T W es (ao ms)) : xO X T W (.List es pos) (dX ms) := fun B w σ H fr h Q r1 p =>
 eU (pe_lst Mv) (s B w σ H fr h _ r1 (aO.bind (VR := vA X.K T B σ) p fun ds fr1 h1 w1 H1 vs e1 l1 r1 rs p1 => by
  by_cases hl : ds.length ≤ big
  · rw [if_pos hl] at p1
    exact ⟨by rw [au.length rs]; exact xP hl, fun q nq => Oc r1 rs nq p1⟩
  · rw [if_neg hl] at p1
    exact p1.elim))
end
end Pk
namespace Pk
open PySem PySem.Spec L2
section
variable {X : Cx} {T : Tb} {W : WX} {k : Nat} {e a b c o : Expr} {es : List Expr} {m ma mb mc : M D} {pos p2 pf : Pos}
def bh (h : Hh) (d i : D) : Option D := match d, i with
 | .str z, .int i => if z.length ≤ big then (atI z.cps.toList i).map fun c => .str ⟨#[c]⟩ else none
 | d, .int i => match d.its h with
   | some l => atI l i
   | none => none
 | _, _ => none
def ixM (X : Cx) : R2 := fun x y H Q => ∀ value slice pins s σ v u, Inv X pins σ H s → RelV x v → RelV y u → subscripted slice false v u = operate [v, u] (getItem v u) → wpAny (model X.prog X.w) X.A (PyProof.Rows.subscriptTail value slice v u) (EP X pins σ Q) X.xe s
theorem acU : IxR X (ixM X) := fun value slice pins s σ H x y v u Q I rx ry h hs => h value slice pins s σ v u I rx ry hs
theorem Uw {r : R2} (o : IxR X r) {x y : V} {H : Hp} {Q : VK} (h : r x y H Q) : ixM X x y H Q := fun value slice pins s σ v u I rx ry hs => o value slice pins s σ H x y v u Q I rx ry h hs
theorem abO {K : PySem.W.Frag} {w : Wd} {vs : List V} {ds : List D} {i : Int} {d : D} (r : au K T w vs ds) (e : atI ds i = some d) : ∃ v, atI vs i = some v ∧ bA K T w v d := by
 unfold atI at e ⊢
 rw [r.length]
 cases q : ixN ds.length i with
 | none => rw [q] at e; cases e
 | some j =>
   rw [q] at e
   exact r.get (show ds[j]? = some d from e)
theorem Ux {K : PySem.W.Frag} {B : Bs} {σ : L2.St} {w : Wd} {H : Hp} {fr : Fr} {v : V} {z : Str} (r : vO K T B σ w H fr v (.str z)) : v = .str z := by
 rcases r with r | ⟨_, _, _, _, r⟩
 · exact Ie r
 · cases r
theorem acV {B : Bs} {w : Wd} {σ : L2.St} {H : Hp} {fr : Fr} {h : Hh} {x y : V} {d i z : D} {Q : VK} (R : Rel X.K T B w σ H fr h) (rx : vO X.K T B σ w H fr x d) (ry : bA X.K T w y i) (q : bh h d i = some z)
 (k : ∀ v, bA X.K T w v z → Q v H) : ixM X x y H Q := by
 unfold bh at q
 split at q
 · rename_i z' i'
   split at q
   · rename_i hl
     obtain ⟨c, ec, rfl⟩ := Option.map_eq_some_iff.mp q
     rw [Ux rx, mX ry]
     exact Uw ix_str ⟨z', i', c, rfl, rfl, xP hl, ec, k _ (.str _)⟩
   · cases q
 · rename_i i' _
   split at q
   · rename_i l el
     obtain ⟨p, vs, rfl, rl, sq⟩ := Kw R rx el
     obtain ⟨v, ev, rv⟩ := abO rl q
     rw [mX ry]
     rcases sq with sq | sq
     · exact Uw ix_list ⟨p, vs, i', v, rfl, rfl, sq, ev, k v rv⟩
     · exact Uw ix_tup ⟨p, vs, i', v, rfl, rfl, sq, ev, k v rv⟩
   · cases q
 · cases q
def fL (i : Nat) : M Unit := fun fr h => match fr[i]? with
 | some (some _) => .ok () fr h
 | _ => .err
def aV {α : Type} (i : Nat) (m : M α) (f : Hh → D → α → Option D) : M D := (fL i).bind fun _ => m.bind fun y => (az i).bind fun d fr h => M.opt (f h d y) fr h
theorem Uy {K : PySem.W.Frag} {B : Bs} {w : Wd} {σ : L2.St} {H : Hp} {fr : Fr} {h : Hh} {i : Nat} {α β : Type} {VR : Wd → Hp → Fr → β → α → Prop} {m : M α} {Q : β → Hp → Prop} (R : Rel K T B w σ H fr h) (p : aO K T B W VR w σ ((fL i).bind (fun _ => m) fr h) Q) :
 (∃ v, σ[i]? = some (some v)) ∧ aO K T B W VR w σ (m fr h) Q := by
 cases e1 : fr[i]? with
 | none =>
   have q : fL i fr h = .err := by unfold fL; rw [e1]
   rw [M.bind_err q] at p
   exact p.elim
 | some o =>
   cases o with
   | none =>
     have q : fL i fr h = .err := by unfold fL; rw [e1]
     rw [M.bind_err q] at p
     exact p.elim
   | some d =>
     have q : fL i fr h = .ok () fr h := by unfold fL; rw [e1]
     rw [M.bind_ok q] at p
     obtain ⟨v, e2, z⟩ := fW R e1
     exact ⟨⟨v, e2⟩, p⟩
theorem Uz {K : PySem.W.Frag} {B : Bs} {w : Wd} {σ : L2.St} {H : Hp} {fr : Fr} {h : Hh} {i : Nat} {v : V} {α β : Type} {VR : Wd → Hp → Fr → β → α → Prop} {f : D → M α} {Q : β → Hp → Prop} (R : Rel K T B w σ H fr h) (ev : σ[i]? = some (some v))
 (p : aO K T B W VR w σ ((az i).bind f fr h) Q) : ∃ d, vO K T B σ w H fr v d ∧ aO K T B W VR w σ (f d fr h) Q := by
 cases e1 : fr[i]? with
 | none =>
   have q : az i fr h = .err := by unfold az; rw [e1]
   rw [M.bind_err q] at p
   exact p.elim
 | some o =>
   cases o with
   | none =>
     have q : az i fr h = .err := by unfold az; rw [e1]
     rw [M.bind_err q] at p
     exact p.elim
   | some d =>
     have q : az i fr h = .ok d fr h := by unfold az; rw [e1]
     rw [M.bind_ok q] at p
     obtain ⟨v', e2, z⟩ := fW R e1
     rw [ev] at e2
     cases e2
     refine ⟨d, ?_, p⟩
     cases z with
     | val rd => exact .inl rd
     | own O eH rd => exact .inr ⟨_, _, rfl, eH, rd⟩
theorem cG (i : Nat) {x : Str} {px : Pos} (sb : aM X T W b mb) (hs : PlainIx b := by intro _ _; rfl) (hN : X.N[i]? = some x := by rfl) (hv : Vis X.env.scope x := by first | exact Or.inl rfl | exact Or.inr (Or.inl rfl) | exact Or.inr (Or.inr rfl)) (hd : (x == ("__debug__" : Str)) = false := by decide)
 (hcd : (x == ("__classdict__" : Str)) = false := by decide) : aM X T W (.Subscript (.Name x px) b pos) (aV i mb bh) := fun B w σ H fr h Q r1 p => by
 obtain ⟨⟨v, ev⟩, p⟩ := Uy r1 p
 refine eU (pe_ix acU (pe_var hN hv hd hcd) aX hs) ⟨v, ev, sb B w σ H fr h _ r1 (aO.bind (VR := vV X.K T B σ) p fun y fr1 h1 w1 H1 u e1 l1 r2 ru p1 => ?_)⟩
 obtain ⟨d, rd, p2⟩ := Uz r2 ev p1
 cases q : bh h1 d y with
 | none => rw [q] at p2; exact p2.elim
 | some z =>
   rw [q] at p2
   exact acV r2 rd ru q fun v' rv => p2 w1 H1 v' (Wd.le_refl _) r2 rv
def slM (X : Cx) : V → Option Int → Option Int → Hp → VK → Prop := fun x lo hi H Q => ∀ pins s σ v vl vu sl, Inv X pins σ H s → RelV x v → s.heap.IsSliceOf sl vl vu .none → IsPart vl lo → IsPart vu hi →
    ∃ T id, typeLookup (.type T) "__getitem__" = pure (some (.builtin id)) ∧ s.TypeIs v T ∧ wpAny (model X.prog X.w) X.A (getItem v (.ref sl)) (EP X pins σ Q) X.xe s
theorem acW : SlR X (slM X) := fun pins s σ H x v vl vu lo hi sl Q I rx hs pl pu h => h pins s σ v vl vu sl I rx hs pl pu
theorem UG {r : V → Option Int → Option Int → Hp → VK → Prop} (o : SlR X r) {x : V} {lo hi : Option Int} {H : Hp} {Q : VK} (h : r x lo hi H Q) : slM X x lo hi H Q := fun pins s σ v vl vu sl I rx hs pl pu => o pins s σ H x v vl vu lo hi sl Q I rx hs pl pu h
def WO (X : Cx) (e : Option Expr) : TO := fun σ H Q => ∀ pins s, Inv X pins σ H s → wpAny (model X.prog X.w) X.A (evalPart e X.env) (fun u s' => ∃ o H', Inv X pins σ H' s' ∧ IsPart u o ∧ Q o H') X.xe s
theorem Y7 {e : Option Expr} : PO X e (WO X e) := ⟨fun pins s σ H Q I h => h pins s I⟩
theorem abl {e : Option Expr} {t : TO} (p : PO X e t) {σ : L2.St} {H : Hp} {Q : Option Int → Hp → Prop} (h : t σ H Q) : WO X e σ H Q := fun pins s I => p.run pins s σ H Q I h
def vI : ju (Option Int) (Option Int) := fun _ _ _ _ _ _ _ b c => b = c
abbrev Xx (X : Cx) (T : Tb) (W : WX) (e : Option Expr) (m : M (Option Int)) : Prop := eE (WO X e) X.K T W vI m
def Y8 : M (Option Int) := M.ret none
def UJ (m : M D) : M (Option Int) := m.bind fun d => M.opt (match d with | .int i => some (some i) | _ => none)
theorem abP : Xx X T W none Y8 := fun B w σ H fr h Q r p => abl po_none (p w H _ (Wd.le_refl _) r rfl)
theorem abQ (s : aM X T W e m) : Xx X T W (some e) (UJ m) := fun B w σ H fr h Q r p =>
 abl (po_some aX) (s B w σ H fr h _ r (aO.bind (VR := vV X.K T B σ) p fun d fr1 h1 w1 H1 x e1 l1 r1 rx p1 => by
  cases rx with
  | int i => exact ⟨i, rfl, p1 w1 H1 _ (Wd.le_refl _) r1 rfl⟩
  | _ => exact (show False from p1).elim))
def cutD {α : Type} (xs : List α) (lo hi : Option Int) : List α := (xs.drop (HT.sIx xs.length 0 lo)).take (HT.sIx xs.length xs.length hi - HT.sIx xs.length 0 lo)
theorem WL {K : PySem.W.Frag} {w : Wd} {vs : List V} {ds : List D} {lo hi : Option Int} (r : au K T w vs ds) : au K T w (cutV vs lo hi) (cutD ds lo hi) := by
 unfold cutV cutD
 rw [r.length]
 exact (r.drop _).take _
def yc (h : Hh) (d : D) (p : Option Int × Option Int) : Option D := match d with
 | .str z => if z.length ≤ big then some (.str (cutS z p.1 p.2)) else none
 | .tup l => some (.tup (cutD l p.1 p.2))
 | d => match d.der h with
   | .fl l => some (.nl (cutD l p.1 p.2))
   | .nl l => some (.nl (cutD l p.1 p.2))
   | .kl l => some (.nl (cutD l p.1 p.2))
   | _ => none
theorem Y9 {α : Type} {xs : List α} {lo hi : Option Int} (h1 : HT.sIx xs.length 0 lo = 0) (h2 : HT.sIx xs.length xs.length hi = xs.length) : cutD xs lo hi = xs := by
 unfold cutD
 rw [h1, h2, ahe, Nat.sub_zero, List.take_length]
theorem Kz {K : PySem.W.Frag} {B : Bs} {w : Wd} {σ : L2.St} {H : Hp} {fr : Fr} {h : Hh} {v : V} {d : D} {l : List D} (R : Rel K T B w σ H fr h) (z : vO K T B σ w H fr v d) (e : d.der h = .fl l ∨ d.der h = .nl l ∨ d.der h = .kl l) :
 ∃ p vs, v = .ref p ∧ au K T w vs l ∧ SqL K H p vs := by
 rcases z with z | ⟨p, o, rfl, eH, z⟩
 · cases z with
   | fl s r =>
     rcases e with e | e | e <;> cases e
     exact ⟨_, _, rfl, r, SqL.of (R.sub _ _ s)⟩
   | kl s r =>
     rcases e with e | e | e <;> cases e
     exact ⟨_, _, rfl, r, oW R.sub s⟩
   | @ref a n s =>
     have ln : n < h.length := by
      rw [← R.len]
      exact (List.getElem?_eq_some_iff.mp s).1
     obtain ⟨o, q, rr⟩ := R.cel n a h[n] s (ag1 ln)
     have e0 : D.der h (.ref n) = h[n] := by
      unfold D.der
      dsimp only
      rw [ag1 ln]
      rfl
     rw [e0] at e
     generalize h[n] = c at rr e
     cases rr with
     | lst r =>
       rcases e with e | e | e <;> cases e
       exact ⟨_, _, rfl, r, SqL.of q⟩
     | obj r => rcases e with e | e | e <;> cases e
     | dct _ r => rcases e with e | e | e <;> cases e
     | dkt _ r => rcases e with e | e | e <;> cases e
   | _ => rcases e with e | e | e <;> cases e
 · cases z with
   | lst r =>
     rcases e with e | e | e <;> cases e
     exact ⟨_, _, rfl, r, SqL.of eH⟩
   | obj r => rcases e with e | e | e <;> cases e
theorem acX {B : Bs} {w : Wd} {σ : L2.St} {H : Hp} {fr : Fr} {h : Hh} {x : V} {d z : D} {lo hi : Option Int} {Q : VK} (R : Rel X.K T B w σ H fr h) (rx : vO X.K T B σ w H fr x d) (q : yc h d (lo, hi) = some z)
 (k : ∀ w' H' v, w.le w' → Rel X.K T B w' σ H' fr h → vE X.K T B σ w' H' fr v z → Q v H') : slM X x lo hi H Q := by
 have fin : ∀ {l : List D}, (d.der h = .fl l ∨ d.der h = .nl l ∨ d.der h = .kl l) → z = .nl (cutD l lo hi) → slM X x lo hi H Q := fun {l} el ez => by
  obtain ⟨p, vs, rfl, rl, sq⟩ := Kz R rx el
  subst ez
  exact UG sl_list ⟨p, vs, rfl, sq, fun q nq => Oc R (WL rl) nq k⟩
 unfold yc at q
 split at q
 · split at q
   · rename_i hl
     cases q
     rw [Ux rx]
     exact UG sl_str ⟨_, rfl, xP hl, k w H _ (Wd.le_refl _) R (.inl (.str _))⟩
   · cases q
 · cases q
   rcases rx with rx | ⟨_, _, _, _, r⟩
   · obtain ⟨p, vs, rfl, s, rl⟩ := Bl rx
     refine UG sl_tupA ⟨p, vs, rfl, dO R.sub s, fun hw => ?_, fun _ q nq => Ig R (WL rl) nq fun w' H' v l R' r' => k w' H' v l R' (.inl r')⟩
     rw [rl.length] at hw
     refine k w H _ (Wd.le_refl _) R (.inl ?_)
     rw [Y9 hw.1 hw.2]
     exact rx
   · cases r
 · split at q
   · rename_i l el
     exact fin (.inl el) (by cases q; rfl)
   · rename_i l el
     exact fin (.inr (.inl el)) (by cases q; rfl)
   · rename_i l el
     exact fin (.inr (.inr el)) (by cases q; rfl)
   · cases q
def JH (ml mh : M (Option Int)) : M (Option Int × Option Int) := ml.bind fun l => mh.bind fun u => M.ret (l, u)
variable {lo hi : Option Expr} {ml mh : M (Option Int)}
theorem abR (i : Nat) {x : Str} {px : Pos} (sl : Xx X T W lo ml) (sh : Xx X T W hi mh) (hN : X.N[i]? = some x := by rfl) (hv : Vis X.env.scope x := by first | exact Or.inl rfl | exact Or.inr (Or.inl rfl) | exact Or.inr (Or.inr rfl)) (hd : (x == ("__debug__" : Str)) = false := by decide)
 (hcd : (x == ("__classdict__" : Str)) = false := by decide) : xO X T W (.Subscript (.Name x px) (.Slice lo hi none p2) pos) (aV i (JH ml mh) yc) := fun B w σ H fr h Q r1 p => by
 obtain ⟨⟨v, ev⟩, p⟩ := Uy r1 p
 have p0 : aO X.K T B W (vE X.K T B σ) w σ ((ml.bind fun l => mh.bind fun u => (az i).bind fun d fr h => M.opt (yc h d (l, u)) fr h) fr h) Q := by
  have e : (JH ml mh).bind (fun y => (az i).bind fun d fr h => M.opt (yc h d y) fr h) fr h = (ml.bind fun l => mh.bind fun u => (az i).bind fun d fr h => M.opt (yc h d (l, u)) fr h) fr h := by
   unfold JH M.bind
   cases ml fr h with
   | ok l fr1 h1 => dsimp only; cases mh fr1 h1 <;> rfl
   | exc _ _ _ => rfl
   | err => rfl
  rw [← e]
  exact p
 refine eU (pe_slice acW (pe_var hN hv hd hcd) Y7 Y7) ⟨v, ev, sl B w σ H fr h _ r1 (aO.bind (VR := vI X.K T B σ) p0 fun l fr1 h1 w1 H1 l' e1 l1 r2 rl p1 => sh B w1 σ H1 fr1 h1 _ r2 (aO.bind (VR := vI X.K T B σ) p1 fun u fr2 h2 w2 H2 u' e2 l2 r3 ru p2 => ?_))⟩
 have rl' : l' = l := rl
 have ru' : u' = u := ru
 subst rl' ru'
 obtain ⟨d, rd, p3⟩ := Uz r3 ev p2
 cases q : yc h2 d (l', u') with
 | none => rw [q] at p3; exact p3.elim
 | some z =>
   rw [q] at p3
   exact acX r3 rd q p3
def Z3 (ma : M D) (ml mh : M (Option Int)) : M D := ma.bind fun d => ml.bind fun l => mh.bind fun u fr h => M.opt (yc h d (l, u)) fr h
variable {x : Str}
theorem Z4 {VR1 VR : ju V D} {id : String} {f : Hh → D → Option D} (sa : eE (WE X a) X.K T W VR1 ma) (hr : ∀ B w σ H fr h x d z Q, Rel X.K T B w σ H fr h → VR1 X.K T B σ w H fr x d → f h d = some z → (∀ w' H' v, w.le w' → Rel X.K T B w' σ H' fr h → VR X.K T B σ w' H' fr v z → Q v H') → cM X (.builtin id) [x] H Q)
 (hm : X.mg x = none) (hg : Gl X x := by rfl) (hv : bootBuiltins x = some (.builtin id) := by decide +kernel) (hn : x ≠ "__name__" := by decide) (hdb : (x == ("__debug__" : Str)) = false := by decide)
 (he : starEach (a :: []) X.env = (false, eval a X.env) :: starEach [] X.env := by exact d8 rfl) (hpl : (backTo pos (starEach [] X.env)).any (·.1) = false := by rfl) : eE (WE X (.Call (.Name x pf) [a] [] pos)) X.K T W VR (aC f ma) := fun B w σ H fr h Q r1 p =>
 eU (pe_callB Qg hg hm hv (pa_cons aX pa_nil he) hn hdb he hpl) (Xw (r := fun x H Q => cM X (.builtin id) [x] H Q) sa hr B w σ H fr h Q r1 p)
theorem Z5 {VR1 VR : ju V D} {id : String} {f : Hh → D → Option D} (sa : eE (WE X a) X.K T W VR1 ma) (hr : ∀ B w σ H fr h x d z Q, Rel X.K T B w σ H fr h → VR1 X.K T B σ w H fr x d → f h d = some z → (∀ w' H' v, w.le w' → Rel X.K T B w' σ H' fr h → VR X.K T B σ w' H' fr v z → Q v H') → cM X (.type id) [x] H Q)
 (hm : X.mg x = none) (hg : Gl X x := by rfl) (hv : bootBuiltins x = some (.type id) := by decide +kernel) (hn : x ≠ "__name__" := by decide) (hdb : (x == ("__debug__" : Str)) = false := by decide)
 (he : starEach (a :: []) X.env = (false, eval a X.env) :: starEach [] X.env := by exact d8 rfl) (hpl : (backTo pos (starEach [] X.env)).any (·.1) = false := by rfl) : eE (WE X (.Call (.Name x pf) [a] [] pos)) X.K T W VR (aC f ma) := fun B w σ H fr h Q r1 p =>
 eU (pe_callTy Qg hg hm hv (pa_cons aX pa_nil he) hn hdb he hpl) (Xw (r := fun x H Q => cM X (.type id) [x] H Q) sa hr B w σ H fr h Q r1 p)
def cV (h : Hh) (d : D) : Option D := match d with
 | .str z => if z.length ≤ big then some (.int z.length) else none
 | d => (d.its h).map fun l => .int l.length
theorem jB (sa : Le X T W a ma) (hm : X.mg "len" = none) (hg : Gl X "len" := by rfl) (he : starEach (a :: []) X.env = (false, eval a X.env) :: starEach [] X.env := by exact d8 rfl) : aM X T W (.Call (.Name "len" pf) [a] [] pos) (aC cV ma) :=
 Z4 (id := "len") sa (fun B w σ H fr h x d z Q R rx q k => by
  unfold cV at q
  split at q
  · split at q
    · rename_i hl
      cases q
      rw [Ux rx]
      exact ji call_len_str ⟨_, rfl, xP hl, k w H _ (Wd.le_refl _) R (.int _)⟩
    · cases q
  · obtain ⟨l, el, rfl⟩ := Option.map_eq_some_iff.mp q
    obtain ⟨p, vs, rfl, rl, sq⟩ := Kw R rx el
    refine ji call_len_seq ⟨p, vs, rfl, sq, ?_⟩
    rw [rl.length]
    exact k w H _ (Wd.le_refl _) R (.int _)) hm hg (by decide +kernel) (by decide) (by decide) he
def xY (_ : Hh) (d : D) : Option D := match d with
 | .int i => some (.int i)
 | .bl b => some (.int (if b then 1 else 0))
 | .str z => if z.length ≤ 640 then (PySem.intText? z).map .int else none
 | _ => none
theorem KC (sa : aM X T W a ma) (hm : X.mg "int" = none) (hg : Gl X "int" := by rfl) (he : starEach (a :: []) X.env = (false, eval a X.env) :: starEach [] X.env := by exact d8 rfl) : aM X T W (.Call (.Name "int" pf) [a] [] pos) (aC xY ma) :=
 Z5 (id := "int") sa (fun B w σ H fr h x d z Q R rx q k => by
  unfold xY at q
  split at q
  · cases q
    rw [mX rx]
    exact ji call_int1 (.inl ⟨_, rfl, k w H _ (Wd.le_refl _) R (.int _)⟩)
  · cases q
    rw [acP rx]
    exact ji call_int1 (.inr ⟨_, rfl, k w H _ (Wd.le_refl _) R (.int _)⟩)
  · split at q
    · rename_i hl
      obtain ⟨n, en, rfl⟩ := Option.map_eq_some_iff.mp q
      rw [Ie rx]
      exact ji call_int_str ⟨_, n, rfl, en, hl, k w H _ (Wd.le_refl _) R (.int _)⟩
    · cases q
  · cases q) hm hg (by decide +kernel) (by decide) (by decide) he
def Lf (_ : Hh) (d : D) : Option D := match d with
 | .int i => some (.int (if i < 0 then -i else i))
 | _ => none
theorem Za (sa : aM X T W a ma) (hm : X.mg "abs" = none) (hg : Gl X "abs" := by rfl) (he : starEach (a :: []) X.env = (false, eval a X.env) :: starEach [] X.env := by exact d8 rfl) : aM X T W (.Call (.Name "abs" pf) [a] [] pos) (aC Lf ma) :=
 Z4 (id := "abs") sa (fun B w σ H fr h x d z Q R rx q k => by
  unfold Lf at q
  split at q
  · cases q
    rw [mX rx]
    exact ji call_abs ⟨_, rfl, k w H _ (Wd.le_refl _) R (.int _)⟩
  · cases q) hm hg (by decide +kernel) (by decide) (by decide) he
def cR (h : Hh) (d : D) : Option D := (d.its h).map .nl
theorem zu (sa : Le X T W a ma) (hm : X.mg "list" = none) (hg : Gl X "list" := by rfl) (he : starEach (a :: []) X.env = (false, eval a X.env) :: starEach [] X.env := by exact d8 rfl) : xO X T W (.Call (.Name "list" pf) [a] [] pos) (aC cR ma) :=
 Z5 (id := "list") sa (fun B w σ H fr h x d z Q R rx q k => by
  obtain ⟨l, el, rfl⟩ := Option.map_eq_some_iff.mp q
  obtain ⟨p, vs, rfl, rl, sq⟩ := Kw R rx el
  exact ji call_list_of ⟨p, vs, rfl, sq, fun q nq => Oc R rl nq k⟩) hm hg (by decide +kernel) (by decide) (by decide) he
def jn (h : Hh) (d : D) : Option D := (d.its h).map .tup
theorem yH (sa : Le X T W a ma) (hm : X.mg "tuple" = none) (hg : Gl X "tuple" := by rfl) (he : starEach (a :: []) X.env = (false, eval a X.env) :: starEach [] X.env := by exact d8 rfl) : aM X T W (.Call (.Name "tuple" pf) [a] [] pos) (aC jn ma) :=
 Z5 (id := "tuple") sa (fun B w σ H fr h x d z Q R rx q k => by
  obtain ⟨l, el, rfl⟩ := Option.map_eq_some_iff.mp q
  cases hd : d.der h with
  | tup l' =>
    have ed : d = .tup l' := by
     rcases rx with rx | ⟨_, _, _, _, rr⟩
     · cases rx with
       | tup s r => exact hd
       | @ref a n s =>
         have ln : n < h.length := by
          rw [← R.len]
          exact (List.getElem?_eq_some_iff.mp s).1
         obtain ⟨o, q, rr⟩ := R.cel n a h[n] s (ag1 ln)
         have e0 : D.der h (.ref n) = h[n] := by
          unfold D.der
          dsimp only
          rw [ag1 ln]
          rfl
         rw [e0] at hd
         rw [hd] at rr
         cases rr
       | _ => cases hd
     · cases rr <;> cases hd
    subst ed
    cases el
    rcases rx with rx | ⟨_, _, _, _, rr⟩
    · obtain ⟨p, vs, rfl, s, rl⟩ := Bl rx
      exact ji call_tuple_of ⟨p, vs, rfl, .inr ⟨dO R.sub s, k w H _ (Wd.le_refl _) R rx⟩⟩
    · cases rr
  | _ =>
    have el' := el
    unfold D.its at el'
    rw [hd] at el'
    first
     | (cases el'; done)
     | (cases el'
        obtain ⟨p, vs, rfl, rl, sq⟩ := Kz R rx (by first | exact .inl hd | exact .inr (.inl hd) | exact .inr (.inr hd))
        exact ji call_tuple_of ⟨p, vs, rfl, .inl ⟨sq, fun q nq => Ig R rl nq k⟩⟩)) hm hg (by decide +kernel) (by decide) (by decide) he
def D.ints : List D → Option (List Int)
 | [] => some []
 | .int i :: r => (D.ints r).map (i :: ·)
 | _ :: _ => none
theorem ints_map : ∀ {l : List D} {is : List Int}, D.ints l = some is → l = is.map D.int
 | [], is, e => by cases e; rfl
 | d :: r, is, e => by
   cases d with
   | int i =>
     unfold D.ints at e
     obtain ⟨js, ej, rfl⟩ := Option.map_eq_some_iff.mp e
     rw [ints_map ej]
     rfl
   | _ => cases e
def D.lints (h : Hh) (d : D) : Option (List Int) := match d.der h with
 | .fl l => D.ints l
 | .nl l => D.ints l
 | .kl l => D.ints l
 | _ => none
theorem Zb {K : PySem.W.Frag} {B : Bs} {w : Wd} {σ : L2.St} {H : Hp} {fr : Fr} {h : Hh} {v : V} {d : D} {is : List Int} (R : Rel K T B w σ H fr h) (z : vO K T B σ w H fr v d) (e : d.lints h = some is) : ∃ p, v = .ref p ∧ SqL K H p (is.map V.int) := by
 unfold D.lints at e
 split at e
 · rename_i l el
   obtain ⟨p, vs, rfl, rl, sq⟩ := Kz R z (.inl el)
   rw [ints_map e] at rl
   rw [rl.ints] at sq
   exact ⟨p, rfl, sq⟩
 · rename_i l el
   obtain ⟨p, vs, rfl, rl, sq⟩ := Kz R z (.inr (.inl el))
   rw [ints_map e] at rl
   rw [rl.ints] at sq
   exact ⟨p, rfl, sq⟩
 · rename_i l el
   obtain ⟨p, vs, rfl, rl, sq⟩ := Kz R z (.inr (.inr el))
   rw [ints_map e] at rl
   rw [rl.ints] at sq
   exact ⟨p, rfl, sq⟩
 · cases e
def UL (h : Hh) (d : D) : Option D := (d.lints h).map fun l => .int l.sum
def Xy : Int → List Int → Int
 | a, [] => a
 | a, b :: r => Xy (if b > a then b else a) r
def acY : Int → List Int → Int
 | a, [] => a
 | a, b :: r => acY (if b < a then b else a) r
def aeg (h : Hh) (d : D) : Option D := match d.lints h with
 | some (a :: r) => some (.int (Xy a r))
 | _ => none
def afL (h : Hh) (d : D) : Option D := match d.lints h with
 | some (a :: r) => some (.int (acY a r))
 | _ => none
theorem Z6 {VR2 VR : ju V D} {id : String} {f : Hh → D → D → Option D} (sa : aM X T W a ma) (sb : eE (WE X b) X.K T W VR2 mb)
 (hr : ∀ B w σ H fr h x y d e z Q, Rel X.K T B w σ H fr h → bA X.K T w x d → VR2 X.K T B σ w H fr y e → f h d e = some z → (∀ w' H' v, w.le w' → Rel X.K T B w' σ H' fr h → VR X.K T B σ w' H' fr v z → Q v H') → cM X (.builtin id) [x, y] H Q)
 (hm : X.mg x = none) (hg : Gl X x := by rfl) (hv : bootBuiltins x = some (.builtin id) := by decide +kernel) (hn : x ≠ "__name__" := by decide) (hdb : (x == ("__debug__" : Str)) = false := by decide)
 (he : starEach (a :: b :: []) X.env = (false, eval a X.env) :: starEach (b :: []) X.env := by exact d8 rfl) (he2 : starEach (b :: []) X.env = (false, eval b X.env) :: starEach [] X.env := by exact d8 rfl)
 (hpl : (backTo pos (starEach (b :: []) X.env)).any (·.1) = false := by rfl) : eE (WE X (.Call (.Name x pf) [a, b] [] pos)) X.K T W VR (aG f ma mb) := fun B w σ H fr h Q r1 p =>
 eU (pe_callB Qg hg hm hv (pa_cons aX (pa_cons aX pa_nil he2) he) hn hdb he hpl) (Ur (r := fun x y H Q => cM X (.builtin id) [x, y] H Q) sa sb hr B w σ H fr h Q r1 p)
abbrev Oe := eO uv fun i j => if j > i then j else i
abbrev Og := eO uv fun i j => if j < i then j else i
theorem abS (C : Cq X T W k) (sa : aM X T W a ma) (sb : aM X T W b mb) (hm : X.mg "max" = none) (hg : Gl X "max" := by rfl) (he : starEach (a :: b :: []) X.env = (false, eval a X.env) :: starEach (b :: []) X.env := by exact d8 rfl) (he2 : starEach (b :: []) X.env = (false, eval b X.env) :: starEach [] X.env := by exact d8 rfl)
 (hpl : (backTo pos (starEach (b :: []) X.env)).any (·.1) = false := by rfl) : aM X T W (.Call (.Name "max" pf) [a, b] [] pos) (aG Oe ma mb) :=
 Z6 (id := "max") sa sb (fun B w σ H fr h x y d e z Q R rx ry q kk => by
  unfold Oe eO at q
  split at q
  · cases q
    rw [mX rx, mX ry]
    exact ji (call_max2 C.calm) ⟨_, _, rfl, kk w H _ (Wd.le_refl _) R (.int _)⟩
  · cases q) hm hg (by decide +kernel) (by decide) (by decide) he he2 hpl
theorem abT (C : Cq X T W k) (sa : aM X T W a ma) (sb : aM X T W b mb) (hm : X.mg "min" = none) (hg : Gl X "min" := by rfl) (he : starEach (a :: b :: []) X.env = (false, eval a X.env) :: starEach (b :: []) X.env := by exact d8 rfl) (he2 : starEach (b :: []) X.env = (false, eval b X.env) :: starEach [] X.env := by exact d8 rfl)
 (hpl : (backTo pos (starEach (b :: []) X.env)).any (·.1) = false := by rfl) : aM X T W (.Call (.Name "min" pf) [a, b] [] pos) (aG Og ma mb) :=
 Z6 (id := "min") sa sb (fun B w σ H fr h x y d e z Q R rx ry q kk => by
  unfold Og eO at q
  split at q
  · cases q
    rw [mX rx, mX ry]
    exact ji (call_min2 C.calm) ⟨_, _, rfl, kk w H _ (Wd.le_refl _) R (.int _)⟩
  · cases q) hm hg (by decide +kernel) (by decide) (by decide) he he2 hpl
end
end Pk
namespace Pk
open PySem PySem.Spec L2
def Bs.pr (B : Bs) (p : Addr) (o : HO) : Bs := ⟨B.w0, B.H0, (p, o) :: B.P, B.me⟩
section
variable {K : PySem.W.Frag} {T : Tb} {B : Bs} {w w' : Wd} {σ : L2.St} {H H' : Hp} {fr : Fr} {h : Hh} {p : Addr} {o : HO}
theorem Own.pr (O : Own B w p) {q : Addr} {u : HO} (hq : q ≠ p) : Own (B.pr q u) w p := ⟨O.f, O.i, O.e, fun z hz => by
 rcases List.mem_cons.mp hz with e | hz
 · rw [e]
   exact hq
 · exact O.p z hz⟩
theorem Own.unpr {q : Addr} {u : HO} (O : Own (B.pr q u) w p) : Own B w p := ⟨O.f, O.i, O.e, fun z hz => O.p z (ahn _ hz)⟩
theorem Rel.protect (R : Rel K T B w σ H fr h) (O : Own B w p) (lo : CG σ fr p) (e : H p = some o) : Rel K T (B.pr p o) w σ H fr h :=
 { R with
   prot := fun q hq => by
    rcases List.mem_cons.mp hq with z | hq
    · rw [z]
      exact ⟨e, O.f, O.i⟩
    · exact R.prot q hq
   sl := fun i s d e1 e2 => by
    have z := R.sl i s d e1 e2
    cases z with
    | none => exact .none
    | val r => exact .val r
    | @own q u _ O' eH' rr =>
      have hne : p ≠ q := fun z => lo i ⟨by rw [z]; exact e1, _, e2, rr.own⟩
      exact .own (O'.pr hne) eH' rr }
theorem Rel.unprotect (R : Rel K T (B.pr p o) w σ H fr h) (e0 : B.H0 p = none) (hP : ∀ q ∈ B.P, q.1 ≠ p) : Rel K T B w σ H fr h ∧ Own B w p ∧ CG σ fr p ∧ H p = some o := by
 obtain ⟨h1, h2, h3⟩ := R.prot (p, o) (ag9)
 refine ⟨{ R with prot := fun q hq => R.prot q (ahn _ hq), sl := fun i s d e1 e2 => ?_ }, ⟨h2, h3, e0, hP⟩, fun i ⟨q1, d, q2, od⟩ => ?_, h1⟩
 · have z := R.sl i s d e1 e2
   cases z with
   | none => exact .none
   | val r => exact .val r
   | own O' eH' rr => exact .own O'.unpr eH' rr
 · have z := R.sl i _ _ q1 q2
   cases z with
   | val r => exact Bg od r
   | own O' eH' rr => exact O'.p (p, o) (ag9) rfl
theorem Rel.repr {o' : HO} (R : Rel K T (B.pr p o) w σ H fr h) (e0 : B.H0 p = none) (hP : ∀ q ∈ B.P, q.1 ≠ p) : Rel K T (B.pr p o') w σ (upd H p o') fr h := by
 obtain ⟨R1, O, lo, e⟩ := R.unprotect e0 hP
 refine Rel.protect { R1 with keep := fun a u ha hm => ?_, prot := fun q hq => ?_, sub := fun a u ha => ?_, cel := fun n a c q1 q2 => ?_, sl := fun j s dj q1 q2 => ?_ } O lo upd_same
 · rw [upd_ne (fun z => by rw [z, e0] at ha; cases ha)]
   exact R1.keep a u ha hm
 · obtain ⟨h1, h2, h3⟩ := R1.prot q hq
   exact ⟨by rw [upd_ne (hP q hq)]; exact h1, h2, h3⟩
 · rw [upd_ne (fun z => by rw [z, O.f] at ha; cases ha)]
   exact R1.sub a u ha
 · have hne : a ≠ p := fun z => O.i (by rw [← z]; exact ahd q1)
   exact J8.keep (Wd.le_refl w) (upd_ne hne) (R1.cel n a c q1 q2)
 · have z := R1.sl j s dj q1 q2
   cases z with
   | none => exact .none
   | val r => exact .val r
   | @own q u _ O' eH' rr =>
     have hne : q ≠ p := fun z => lo j ⟨by rw [← z]; exact q1, _, q2, rr.own⟩
     exact .own O' (by rw [upd_ne hne]; exact eH') rr
end
def WG (X : Cx) (tg : Expr) : TG := fun v σ H Q => ∀ pins s u, Inv X pins σ H s → RelV v u → wpAny (model X.prog X.w) X.A (assign tg X.env u) (fun _ s' => ∃ σ' H', Inv X pins σ' H' s' ∧ Q σ' H') X.xe s
structure WI (X : Cx) (tg iter : Expr) (σ : L2.St) (H : Hp) (R : It → Hp → Prop) : Prop where
 go : ∀ pins s, Inv X pins σ H s → wpAny (model X.prog X.w) X.A (eval iter X.env) (fun v s1 => wpAny (model X.prog X.w) X.A (pyIter v) (PIE X pins σ tg R) X.xe s1) X.xe s
def Mg (X : Cx) (ifs : List Expr) : TT := fun σ H Q => ∀ pins s, Inv X pins σ H s →
    wpAny (model X.prog X.w) X.A (forIn ifs true fun c r => if r = true then do let ok ← isTrue c X.env (eval c X.env); pure (ForInStep.yield ok) else pure (ForInStep.yield r)) (TP X pins σ Q) X.xe s
section
variable {X : Cx} {tg iter : Expr} {ifs : List Expr}
theorem QS : PG X tg (WG X tg) := ⟨fun pins s σ H v u Q I r h => h pins s u I r⟩
theorem KD : PI X tg iter (WI X tg iter) := ⟨fun pins s σ H R I h => h.go pins s I⟩
theorem QT {t : TG} (p : PG X tg t) {v : V} {σ : L2.St} {H : Hp} {Q : L2.St → Hp → Prop} (h : t v σ H Q) : WG X tg v σ H Q := fun pins s u I r => p.run pins s σ H v u Q I r h
theorem Oh {t : TI} (p : PI X tg iter t) {σ : L2.St} {H : Hp} {R : It → Hp → Prop} (h : t σ H R) : WI X tg iter σ H R := ⟨fun pins s I => p.run pins s σ H R I h⟩
theorem WN {t : TT} (p : PTs X ifs t) {σ : L2.St} {H : Hp} {Q : Bool → Hp → Prop} (h : t σ H Q) : Mg X ifs σ H Q := fun pins s I => p.run pins s σ H Q I h
end
inductive Eo (K : PySem.W.Frag) (T : Tb) (B : Bs) (σ : L2.St) (w : Wd) (H : Hp) (fr : Fr) : List V → List D → List Addr → Prop where
 | nil : Eo K T B σ w H fr [] [] []
 | val {v : V} {d : D} {vs : List V} {ds : List D} {ps : List Addr} : bA K T w v d → Eo K T B σ w H fr vs ds ps → Eo K T B σ w H fr (v :: vs) (d :: ds) ps
 | own {p : Addr} {o : HO} {d : D} {vs : List V} {ds : List D} {ps : List Addr} : Own B w p → CG σ fr p → H p = some o → xZ K T w o d → p ∉ ps → Eo K T B σ w H fr vs ds ps → Eo K T B σ w H fr (.ref p :: vs) (d :: ds) (p :: ps)
def vEs : ju (List V) (List D) := fun K T B σ w H fr vs ds => ∃ ps, Eo K T B σ w H fr vs ds ps
abbrev Ub (X : Cx) (T : Tb) (W : WX) (es : List Expr) (m : M (List D)) : Prop := eE (WA X es) X.K T W vEs m
theorem Eo.unpr {K : PySem.W.Frag} {T : Tb} {B : Bs} {σ : L2.St} {w : Wd} {H : Hp} {fr : Fr} {p : Addr} {o : HO} {vs : List V} {ds : List D} {ps : List Addr} (x : Eo K T (B.pr p o) σ w H fr vs ds ps) : Eo K T B σ w H fr vs ds ps ∧ p ∉ ps := by
 induction x with
 | nil => exact ⟨.nil, by simp⟩
 | val r _ ih => exact ⟨.val r ih.1, ih.2⟩
 | @own q u d vs ds ps O lo e r nq _ ih =>
   refine ⟨.own O.unpr lo e r nq ih.1, fun z => ?_⟩
   rcases List.mem_cons.mp z with z | z
   · exact O.p (p, o) (ag9) z
   · exact ih.2 z
theorem Eo.length {K : PySem.W.Frag} {T : Tb} {B : Bs} {σ : L2.St} {w : Wd} {H : Hp} {fr : Fr} {vs : List V} {ds : List D} {ps : List Addr} (x : Eo K T B σ w H fr vs ds ps) : vs.length = ds.length := by
 induction x with
 | nil => rfl
 | val _ _ ih => exact congrArg Nat.succ ih
 | own _ _ _ _ _ _ ih => exact congrArg Nat.succ ih
theorem aO.pr {α β : Type} {K : PySem.W.Frag} {T : Tb} {B : Bs} {W : WX} {VR VR' : Wd → Hp → Fr → β → α → Prop} {w : Wd} {σ : L2.St} {p : Addr} {o : HO} {r : R α} {Q Q' : β → Hp → Prop} (e0 : B.H0 p = none) (hP : ∀ q ∈ B.P, q.1 ≠ p) (x : aO K T B W VR w σ r Q)
 (k : ∀ d fr h w' H' v, r = .ok d fr h → w.le w' → Rel K T (B.pr p o) w' σ H' fr h → VR' w' H' fr v d → (∀ w2 H2 v2, w.le w2 → Rel K T B w2 σ H2 fr h → VR w2 H2 fr v2 d → Q v2 H2) → Q' v H') : aO K T (B.pr p o) W VR' w σ r Q' := by
 cases r with
 | ok d fr h => exact fun w' H' v l R z => k d fr h w' H' v rfl l R z x
 | exc e fr h => exact fun w' H' c dd l R z => x w' H' c dd l (R.unprotect e0 hP).1 z
 | err => exact x
section
variable {X : Cx} {T : Tb} {W : WX} {e : Expr} {es : List Expr} {m : M D} {ms : List (M D)}
theorem abU : Ub X T W [] (ao []) := fun B w σ H fr h Q r1 p => Ua pa_nil (p w H _ (Wd.le_refl _) r1 ⟨[], .nil⟩)
theorem Iz (s : xO X T W e m) (t : Ub X T W es (ao ms)) (hs : starEach (e :: es) X.env = (false, eval e X.env) :: starEach es X.env := by exact d8 rfl) : Ub X T W (e :: es) (ao (m :: ms)) := fun B w σ H fr h Q r1 p =>
 Ua (pa_cons aX Mv hs) (s B w σ H fr h _ r1 (aO.bind (VR := vE X.K T B σ) p fun d fr1 h1 w1 H1 x e1 l1 r1 rx p1 => by
  rcases rx with rx | ⟨q, o, rfl, O, lo, eH, rd⟩
  · exact t B w1 σ H1 fr1 h1 _ r1 (aO.bind (VR := vEs X.K T B σ) p1 fun ds fr2 h2 w2 H2 vs e2 l2 r2 ⟨ps, rs⟩ p2 => p2 w2 H2 _ (Wd.le_refl _) r2 ⟨ps, .val (rx.mono l2) rs⟩)
  · refine t (B.pr q o) w1 σ H1 fr1 h1 _ (r1.protect O lo eH) ?_
    have p1' : aO X.K T B W (vEs X.K T B σ) w1 σ ((ao ms).bind (fun ds => M.ret (d :: ds)) fr1 h1) Q := p1
    cases e2 : ao ms fr1 h1 with
    | ok ds fr2 h2 =>
      rw [M.bind_ok e2] at p1'
      intro w2 H2 vs l2 r2 ⟨ps, rs⟩
      obtain ⟨r3, O3, lo3, eH3⟩ := r2.unprotect O.e O.p
      obtain ⟨rs', np⟩ := rs.unpr
      exact p1' w2 H2 (.ref q :: vs) l2 r3 ⟨q :: ps, .own O3 lo3 eH3 (rd.mono l2) np rs'⟩
    | exc y fr2 h2 =>
      rw [M.bind_exc e2] at p1'
      exact fun w' H' c dd l R z => p1' w' H' c dd l (R.unprotect O.e O.p).1 z
    | err =>
      rw [M.bind_err e2] at p1'
      exact p1'))
end
def EY (is : List Nat) (σ' σ : L2.St) : Prop := σ'.length = σ.length ∧ ∀ j : Nat, j ∉ is → σ'[j]? = σ[j]?
def yI (X : Cx) (T : Tb) (is : List Nat) (tg : Expr) (mg : D → M Unit) : Prop := ∀ B w σ H fr h x d (Q : L2.St → Hp → Prop), Rel X.K T B w σ H fr h → bA X.K T w x d →
 (match mg d fr h with
  | .ok _ fr' h' => ∀ w' σ' H', w.le w' → Rel X.K T B w' σ' H' fr' h' → EY is σ' σ → Q σ' H'
  | _ => False) → WG X tg x σ H Q
def Oi (X : Cx) (T : Tb) (is : List Nat) (tgs : List Expr) (mg : List D → M Unit) : Prop := ∃ t, PGs X tgs t ∧ ∀ B w σ H fr h xs ds (Q : L2.St → Hp → Prop), Rel X.K T B w σ H fr h → au X.K T w xs ds →
 (match mg ds fr h with
  | .ok _ fr' h' => ∀ w' σ' H', w.le w' → Rel X.K T B w' σ' H' fr' h' → EY is σ' σ → Q σ' H'
  | _ => False) → t xs σ H Q
def aQ (i : Nat) (d : D) : M Unit := fun fr h => .ok () (fr.set i (some d)) h
def yJ : List D → M Unit
 | [] => M.ret ()
 | _ => M.opt none
def cI (g : D → M Unit) (gs : List D → M Unit) : List D → M Unit
 | [] => M.opt none
 | d :: ds => (g d).bind fun _ => gs ds
def zX (n : Nat) (gs : List D → M Unit) (d : D) : M Unit := match d with
 | .tup l => if l.length = n then gs l else M.opt none
 | _ => M.opt none
section
variable {X : Cx} {T : Tb} {W : WX} {k : Nat} {pos : Pos} {tg : Expr} {tgs : List Expr} {g : D → M Unit} {gs : List D → M Unit} {is js : List Nat}
theorem cP (C : Cq X T W k) (i : Nat) {x : Str} (hi : X.N[i]? = some x := by rfl) (hx : Loc X.env.scope x := by first | exact Or.inl rfl | exact Or.inr rfl) (hf : X.fn x = true ∨ X.env.scope.names.lookup x = some .local := by first | exact .inl rfl | exact .inr rfl) :
 yI X T [i] (.Name x pos) (aQ i) := fun B w σ H fr h v d Q R rd p => QT (pg_name C.nd hi hx hf) (p w _ H (Wd.le_refl _) (R.set_slot (.val rd) (fun _ _ _ e od => by
 cases e
 exact (Bg od rd).elim) fun _ _ e => by
 cases e
 exact La rd) ⟨ahg, fun j hj => by
  rw [ag6]
  intro e
  exact hj (by simp [e])⟩)
theorem KH : Oi X T [] [] yJ := ⟨_, pgs_nil, fun B w σ H fr h vs ds Q R rd p => by
 cases rd with
 | nil => exact ⟨rfl, p w σ H (Wd.le_refl _) R ⟨rfl, fun _ _ => rfl⟩⟩
 | cons _ _ => exact p.elim⟩
theorem fV (s : yI X T is tg g) (t : Oi X T js tgs gs) (hs : (assignEach (tg :: tgs) X.env).map (·.2) = assign tg X.env :: (assignEach tgs X.env).map (·.2) := by rfl) : Oi X T (is ++ js) (tg :: tgs) (cI g gs) := by
 obtain ⟨u, pu, t⟩ := t
 refine ⟨_, pgs_cons QS pu hs, fun B w σ H fr h vs ds Q R rd p => ?_⟩
 cases rd with
 | nil => exact p.elim
 | @cons v d vr dr r rr =>
   refine ⟨v, vr, rfl, s B w σ H fr h v d _ R r ?_⟩
   have p' : (match (g d).bind (fun _ => gs dr) fr h with
    | .ok _ fr' h' => ∀ w' σ' H', w.le w' → Rel X.K T B w' σ' H' fr' h' → EY (is ++ js) σ' σ → Q σ' H'
    | _ => False) := p
   cases e : g d fr h with
   | ok _ fr1 h1 =>
     rw [M.bind_ok e] at p'
     intro w1 σ1 H1 l1 R1 k1
     refine t B w1 σ1 H1 fr1 h1 vr dr Q R1 (rr.mono l1) ?_
     cases e2 : gs dr fr1 h1 with
     | ok _ fr2 h2 =>
       rw [e2] at p'
       exact fun w2 σ2 H2 l2 R2 k2 => p' w2 σ2 H2 (Wd.le_trans l1 l2) R2 ⟨k2.1.trans k1.1, fun j hj => by
        rw [List.mem_append, not_or] at hj
        rw [k2.2 j hj.2, k1.2 j hj.1]⟩
     | exc _ _ _ => rw [e2] at p'; exact p'
     | err => rw [e2] at p'; exact p'
   | exc y fr1 h1 =>
     rw [M.bind_exc e] at p'
     exact p'.elim
   | err =>
     rw [M.bind_err e] at p'
     exact p'.elim
theorem QV (C : Cq X T W k) {kk : Nat} {n : Nat} (t : Oi X T is tgs gs) (hn : (assignEach tgs X.env).length = n := by rfl) (hst : (assignEach tgs X.env).findIdx? (·.1) = none := by rfl) : yI X T is (.Tuple tgs kk pos) (zX n gs) := by
 obtain ⟨u, pu, t⟩ := t
 refine fun B w σ H fr h x d Q R rd p => QT (pg_tup C.calm pu hn hst) ?_
 cases d with
 | tup l =>
   have p' : (match (if l.length = n then gs l else M.opt none) fr h with
    | .ok _ fr' h' => ∀ w' σ' H', w.le w' → Rel X.K T B w' σ' H' fr' h' → EY is σ' σ → Q σ' H'
    | _ => False) := p
   by_cases hl : l.length = n
   · rw [if_pos hl] at p'
     obtain ⟨a, vs, rfl, sq, rl⟩ := Bl rd
     exact ⟨a, vs, rfl, dO R.sub sq, rl.length.trans hl, t B w σ H fr h vs l Q R rl p'⟩
   · rw [if_neg hl] at p'
     exact p'.elim
 | _ => exact (show False from p).elim
def yK : List Nat → List D → Fr → Option Fr
 | [], [], fr => some fr
 | i :: is, d :: ds, fr => yK is ds (fr.set i (some d))
 | _, _, _ => none
theorem Rel.putV {K : PySem.W.Frag} {B : Bs} {w : Wd} {σ : L2.St} {H : Hp} {fr : Fr} {h : Hh} {v : V} {d : D} (R : Rel K T B w σ H fr h) (i : Nat) (r : bA K T w v d) : Rel K T B w (σ.set i (some v)) H (fr.set i (some d)) h :=
 R.set_slot (.val r) (fun _ _ _ e od => by
  cases e
  exact (Bg od r).elim) fun _ _ e => by
  cases e
  exact La r
theorem Rel.put {K : PySem.W.Frag} {B : Bs} {w : Wd} {σ : L2.St} {H : Hp} {fr : Fr} {h : Hh} {v : V} {d : D} (R : Rel K T B w σ H fr h) (i : Nat) (hi : i ≠ 0) (x : vE K T B σ w H fr v d) : Rel K T B w (σ.set i (some v)) H (fr.set i (some d)) h := by
 rcases x with r | ⟨p, o, rfl, O, lo, e, r⟩
 · exact R.putV i r
 · exact R.set_slot (.own O e r) (fun q d' e1 e2 od => by
    cases e1
    cases e2
    exact lo) fun z => (hi z).elim
theorem Zd {σ : L2.St} {fr : Fr} {i : Nat} {v : V} {d : D} {p : Addr} (lo : CG σ fr p) (hv : d.own = true → v ≠ .ref p) : CG (σ.set i (some v)) (fr.set i (some d)) p := fun j z => by
 obtain ⟨e1, dd, e2, od⟩ := z
 by_cases hj : i = j
 · subst hj
   have l1 : i < σ.length := by
    have := (List.getElem?_eq_some_iff.mp e1).1
    rwa [ahg] at this
   have l2 : i < fr.length := by
    have := (List.getElem?_eq_some_iff.mp e2).1
    rwa [ahg] at this
   rw [ag8 l1] at e1
   rw [ag8 l2] at e2
   cases e1
   cases e2
   exact hv od rfl
 · rw [ag6 hj] at e1 e2
   exact lo j ⟨e1, dd, e2, od⟩
theorem Eo.set {K : PySem.W.Frag} {B : Bs} {w : Wd} {σ : L2.St} {H : Hp} {fr : Fr} {vs : List V} {ds : List D} {ps : List Addr} {i : Nat} {v : V} {d : D} (x : Eo K T B σ w H fr vs ds ps) (hv : ∀ p ∈ ps, d.own = true → v ≠ .ref p) :
 Eo K T B (σ.set i (some v)) w H (fr.set i (some d)) vs ds ps := by
 induction x with
 | nil => exact .nil
 | val r _ ih => exact .val r (ih hv)
 | own O lo e r nq _ ih => exact .own O (Zd lo (hv _ (ag9))) e r nq (ih fun q hq => hv q (ahn _ hq))
def Uc (X : Cx) (T : Tb) (is : List Nat) (tgs : List Expr) : Prop := ∃ t, PGs X tgs t ∧ ∀ B w σ H fr fr' h xs ds ps (Q : L2.St → Hp → Prop), Rel X.K T B w σ H fr h → Eo X.K T B σ w H fr xs ds ps → yK is ds fr = some fr' →
 (∀ σ', Rel X.K T B w σ' H fr' h → Q σ' H) → t xs σ H Q
theorem abV : Uc X T [] [] := ⟨_, pgs_nil, fun B w σ H fr fr' h xs ds ps Q R rs e q => by
 cases rs with
 | nil =>
   cases e
   exact ⟨rfl, q σ R⟩
 | val _ _ => cases e
 | own _ _ _ _ _ _ => cases e⟩
theorem IK (C : Cq X T W k) (i : Nat) {x : Str} (t : Uc X T is tgs) (hs : (assignEach (.Name x pos :: tgs) X.env).map (·.2) = assign (.Name x pos) X.env :: (assignEach tgs X.env).map (·.2) := by rfl)
 (hi : X.N[i]? = some x := by rfl) (hx : Loc X.env.scope x := by first | exact Or.inl rfl | exact Or.inr rfl) (hf : X.fn x = true ∨ X.env.scope.names.lookup x = some .local := by first | exact .inl rfl | exact .inr rfl) (h0 : i ≠ 0 := by decide) : Uc X T (i :: is) (.Name x pos :: tgs) := by
 obtain ⟨u, pu, t⟩ := t
 refine ⟨_, pgs_cons (pg_name C.nd hi hx hf) pu hs, fun B w σ H fr fr' h xs ds ps Q R rs e q => ?_⟩
 cases rs with
 | nil => cases e
 | val r rr => exact ⟨_, _, rfl, t B w _ H _ fr' h _ _ _ Q (R.put i h0 (.inl r)) (rr.set fun p _ od => (Bg od r).elim) e q⟩
 | own O lo eH r nq rr => exact ⟨_, _, rfl, t B w _ H _ fr' h _ _ _ Q (R.put i h0 (.inr ⟨_, _, rfl, O, lo, eH, r⟩)) (rr.set fun p hp _ z => by
  cases z
  exact nq hp) e q⟩
end
def vJ : ju It (List D) := fun K T _ _ w _ _ J ds => ∀ i w1 H1, w.le w1 → (∀ a o, w1.F a = some o → H1 a = some o) →
 (ds.length ≤ i → J.stop i H1) ∧ ∀ d, ds[i]? = some d → J.go i H1 ∧ ∀ x H2, J.yld i H1 x H2 → ∀ B σ fr h, Rel K T B w1 σ H1 fr h → ∃ w2, w1.le w2 ∧ Rel K T B w2 σ H2 fr h ∧ bA K T w2 x d
abbrev MN (X : Cx) (T : Tb) (W : WX) (tg iter : Expr) (m : M (List D)) : Prop := eE (WI X tg iter) X.K T W vJ m
section
variable {X : Cx} {T : Tb} {W : WX} {k : Nat} {pos p pf tpos : Pos} {tg e a b : Expr} {m ma mb : M D}
def zY (m : M D) : M (List D) := m.bind fun d => M.opt (d.its [])
theorem abW {K : PySem.W.Frag} {w : Wd} {v : V} {d : D} {l : List D} (r : bA K T w v d) (e : d.its [] = some l) : ∃ p vs, v = .ref p ∧ au K T w vs l ∧ (SqT K w.F p vs ∨ SqL K w.F p vs) := by
 cases r with
 | tup s r =>
   have e' : some _ = some l := e
   cases e'
   exact ⟨_, _, rfl, r, .inl s⟩
 | fl s r =>
   have e' : some _ = some l := e
   cases e'
   exact ⟨_, _, rfl, r, .inr (SqL.of s)⟩
 | kl s r =>
   have e' : some _ = some l := e
   cases e'
   exact ⟨_, _, rfl, r, .inr s⟩
 | ref s => cases e
 | _ => cases e
def aeQ (K : PySem.W.Frag) (tl : TE) : TI := fun σ H R => tl σ H fun x H1 => ∃ a, x = .ref a ∧ (((∃ xs, SqT K H1 a xs) ∧ R (Itt K a) H1) ∨ ((∃ xs, SqL K H1 a xs) ∧ R (Itl K a) H1))
open PyProof.Rows in
theorem Ze {l : Expr} {tl : TE} (hl : PE X l tl) : PI X tg l (aeQ X.K tl) := by
 refine ⟨fun pins s σ H R I h => ?_⟩
 refine thn (hl.run pins s σ H _ I h) fun v s1 ⟨x, H1, I1, r1, q1⟩ => ?_
 obtain ⟨a, e, ⟨⟨xs, hq⟩, q⟩ | ⟨⟨xs, hq⟩, q⟩⟩ := q1
 · subst e
   cases r1
   obtain ⟨its, rv, p, hz⟩ := I1.tuple hq
   refine wpAny_pyIter_tuple (show s1.heap.IsTuple a its.toArray from p) ?_
   refine ⟨s1.heap.objs.size, [s1.heap.objs.size], _, _, H1, rfl, I1.kept (t' := s1.toks) fun b o e => Heap.get?_push_of_some _ e, turn_tuple a _, ⟨_, Heap.get?_push_size _ rfl, rfl, rfl⟩, fun b hb => ?_, q⟩
   have e : b = s1.heap.objs.size := by simpa using hb
   subst e
   exact I1.fpOk (Nat.le_refl _) (I1.hok.fresh (Nat.le_refl _))
 · subst e
   cases r1
   obtain ⟨its, rv, p, hz⟩ := I1.list hq
   refine wpAny_pyIter_list p.isList ?_
   refine ⟨s1.heap.objs.size, [s1.heap.objs.size], _, _, H1, rfl, I1.kept (t' := s1.toks) fun b o e => Heap.get?_push_of_some _ e, turn_list a _, ⟨_, Heap.get?_push_size _ rfl, rfl, rfl⟩, fun b hb => ?_, q⟩
   have e : b = s1.heap.objs.size := by simpa using hb
   subst e
   exact I1.fpOk (Nat.le_refl _) (I1.hok.fresh (Nat.le_refl _))
theorem acZ {K : PySem.W.Frag} {B : Bs} {σ : L2.St} {w : Wd} {H : Hp} {fr : Fr} {a : Addr} {vs : List V} {l : List D} (sq : SqT K w.F a vs) (rl : au K T w vs l) : vJ K T B σ w H fr (Itt K a) l := fun i w2 H2 l2 hs => ⟨fun hi => ⟨vs, dO hs (dO l2.1 sq), by rw [rl.length]; exact hi⟩, fun d' hd => by
 obtain ⟨v, hv, rv⟩ := rl.get hd
 refine ⟨⟨vs, v, dO hs (dO l2.1 sq), hv⟩, fun y H3 hy B' σ' fr' h' R' => ?_⟩
 obtain ⟨rfl, hy⟩ := hy
 have z := hy vs (dO hs (dO l2.1 sq))
 rw [hv] at z
 cases z
 exact ⟨w2, Wd.le_refl _, R', rv.mono l2⟩⟩
theorem ac0 {K : PySem.W.Frag} {B : Bs} {σ : L2.St} {w : Wd} {H : Hp} {fr : Fr} {a : Addr} {vs : List V} {l : List D} (sq : SqL K w.F a vs) (rl : au K T w vs l) : vJ K T B σ w H fr (Itl K a) l := fun i w2 H2 l2 hs => ⟨fun hi => ⟨vs, oW hs (oW l2.1 sq), by rw [rl.length]; exact hi⟩, fun d' hd => by
 obtain ⟨v, hv, rv⟩ := rl.get hd
 refine ⟨⟨vs, v, oW hs (oW l2.1 sq), hv⟩, fun y H3 hy B' σ' fr' h' R' => ?_⟩
 obtain ⟨rfl, hy⟩ := hy
 have z := hy vs (oW hs (oW l2.1 sq))
 rw [hv] at z
 cases z
 exact ⟨w2, Wd.le_refl _, R', rv.mono l2⟩⟩
theorem Hj (s : aM X T W e m) : MN X T W tg e (zY m) := fun B w σ H fr h Q r p => Oh (Ze aX) (s B w σ H fr h _ r (aO.bind (VR := vV X.K T B σ) p fun d fr1 h1 w1 H1 x e1 l1 r1 rx p1 => by
 cases q : d.its [] with
 | none => rw [q] at p1; exact p1.elim
 | some l =>
   rw [q] at p1
   obtain ⟨a, vs, rfl, rl, sq⟩ := abW rx q
   refine ⟨a, rfl, ?_⟩
   rcases sq with sq | sq
   · exact .inl ⟨⟨vs, dO r1.sub sq⟩, p1 w1 H1 (Itt X.K a) (Wd.le_refl _) r1 (acZ sq rl)⟩
   · exact .inr ⟨⟨vs, oW r1.sub sq⟩, p1 w1 H1 (Itl X.K a) (Wd.le_refl _) r1 (ac0 sq rl)⟩))
def jw (lo : Int) (n : Nat) : List D := (ahs n).map fun (i : Nat) => D.int (lo + (i : Int))
def ue (i : Int) : Bool := decide (-(2 ^ 62) ≤ i) && decide (i < 2 ^ 62)
theorem UT {i : Int} (h : ue i = true) : -(2 ^ 62) ≤ i ∧ i < 2 ^ 62 := by
 obtain ⟨h1, h2⟩ := Bool.and_eq_true_iff.mp h
 exact ⟨of_decide_eq_true h1, of_decide_eq_true h2⟩
def z7 (m : M D) : M (List D) := m.bind fun d => M.opt (match d with
 | .int j => if ue j then some (jw 0 j.toNat) else none
 | _ => none)
def Bp (ma mb : M D) : M (List D) := ma.bind fun x => mb.bind fun y => M.opt (match x, y with
 | .int i, .int j => if ue i && ue j then some (jw i (j - i).toNat) else none
 | _, _ => none)
theorem Zf {K : PySem.W.Frag} {B : Bs} {σ : L2.St} {w : Wd} {H : Hp} {fr : Fr} (lo : Int) (n : Nat) : vJ K T B σ w H fr (Itr lo n) (jw lo n) := fun i w2 H2 l2 hs => ⟨fun hi => by
 have hi' : (jw lo n).length ≤ i := hi
 unfold jw at hi'
 rw [agZ, ahv] at hi'
 exact hi', fun d' hd => by
 unfold jw at hd
 rw [ahx] at hd
 obtain ⟨j, hj, rfl⟩ := Option.map_eq_some_iff.mp hd
 obtain ⟨hl, ej⟩ := List.getElem?_eq_some_iff.mp hj
 rw [ahv] at hl
 rw [List.getElem_range] at ej
 subst ej
 refine ⟨hl, fun y H3 hy B' σ' fr' h' R' => ?_⟩
 obtain ⟨rfl, rfl⟩ := hy
 exact ⟨w2, Wd.le_refl _, R', .int _⟩⟩
theorem Oj (s : aM X T W a ma) (hm : X.mg "range" = none) (hg : Gl X "range" := by rfl) (hs : starEach [a] X.env = [(false, eval a X.env)] := by rfl) : MN X T W tg (.Call (.Name "range" p) [a] [] pos) (z7 ma) := fun B w σ H fr h Q r p =>
 Oh (pi_range1 hg hm (pa_cons aX pa_nil (hs.trans (by rfl))) hs) (s B w σ H fr h _ r (aO.bind (VR := vV X.K T B σ) p fun d fr1 h1 w1 H1 x e1 l1 r1 rx p1 => by
  cases rx with
  | int j =>
    dsimp only at p1
    cases hj : ue j with
    | false => rw [hj] at p1; exact (show False from p1).elim
    | true =>
      rw [hj] at p1
      obtain ⟨h1', h2'⟩ := UT hj
      exact ⟨j, rfl, h1', h2', p1 w1 H1 (Itr 0 j.toNat) (Wd.le_refl _) r1 (Zf 0 _)⟩
  | _ => exact (show False from p1).elim))
theorem RL (sa : aM X T W a ma) (sb : aM X T W b mb) (hm : X.mg "range" = none) (hg : Gl X "range" := by rfl) (hs : starEach [a, b] X.env = [(false, eval a X.env), (false, eval b X.env)] := by rfl) (hs2 : starEach [b] X.env = [(false, eval b X.env)] := by rfl) :
 MN X T W tg (.Call (.Name "range" p) [a, b] [] pos) (Bp ma mb) := fun B w σ H fr h Q r p =>
 Oh (pi_range2 hg hm (pa_cons aX (pa_cons aX pa_nil (hs2.trans (by rfl))) (hs.trans (by rw [hs2]))) hs hs2) (sa B w σ H fr h _ r (aO.bind (VR := vV X.K T B σ) p fun d fr1 h1 w1 H1 x e1 l1 r1 rx p => sb B w1 σ H1 fr1 h1 _ r1 (aO.bind (VR := vV X.K T B σ) p fun d2 fr2 h2 w2 H2 y e2 l2 r2 ry p1 => by
  have bad : ¬ (∃ i j, d = .int i ∧ d2 = .int j ∧ (ue i && ue j) = true) → False := fun hn => by
   revert p1
   split
   · rename_i i j
     cases hc : ue i && ue j with
     | false => exact fun p1 => p1
     | true => exact fun _ => hn ⟨i, j, rfl, rfl, hc⟩
   · exact fun p1 => p1
  by_cases hh : ∃ i j, d = .int i ∧ d2 = .int j ∧ (ue i && ue j) = true
  · obtain ⟨i, j, rfl, rfl, hc⟩ := hh
    cases rx
    cases ry
    dsimp only at p1
    rw [hc] at p1
    obtain ⟨hi, hj⟩ := Bool.and_eq_true_iff.mp hc
    obtain ⟨h1', h2'⟩ := UT hi
    obtain ⟨h3', h4'⟩ := UT hj
    exact ⟨i, j, rfl, ⟨h1', h2', h3', h4'⟩, p1 w2 H2 (Itr i (j - i).toNat) (Wd.le_refl _) r2 (Zf i _)⟩
  · exact (bad hh).elim)))
end
end Pk
namespace Pk
open PySem PySem.Spec L2
inductive Fl where
 | nx | brk | ct | rt (d : D)
def cW (K : PySem.W.Frag) (T : Tb) (B : Bs) (W : WX) (w : Wd) (r : R Fl) (D : Ends) : Prop :=
 match r with
 | .ok .nx fr h => ∀ w' σ' H', w.le w' → Rel K T B w' σ' H' fr h → D.nx σ' H'
 | .ok .brk fr h => ∀ w' σ' H', w.le w' → Rel K T B w' σ' H' fr h → D.bk σ' H'
 | .ok .ct fr h => ∀ w' σ' H', w.le w' → Rel K T B w' σ' H' fr h → D.ct σ' H'
 | .ok (.rt d) fr h => ∀ w' σ' H' v, w.le w' → Rel K T B w' σ' H' fr h → vE K T B σ' w' H' fr v d → D.rt v H'
 | .exc x fr h => ∀ w' σ' H' cls dd, w.le w' → Rel K T B w' σ' H' fr h → Ry K T w' x cls dd → W cls dd σ' H'
 | .err => False
def uA (X : Cx) (T : Tb) (W : WX) (st : Stmt) (m : M Fl) : Prop := ∀ (B : Bs) (w : Wd) (σ : L2.St) (H : Hp) (fr : Fr) (h : Hh) (D : Ends), Rel X.K T B w σ H fr h → cW X.K T B W w (m fr h) D → WS X st D σ H
def CJ (X : Cx) (T : Tb) (W : WX) (sts : List Stmt) (m : M Fl) : Prop := ∀ (B : Bs) (w : Wd) (σ : L2.St) (H : Hp) (fr : Fr) (h : Hh) (D : Ends), Rel X.K T B w σ H fr h → cW X.K T B W w (m fr h) D → Wy X sts D σ H
section
variable {K : PySem.W.Frag} {T : Tb} {B : Bs} {W : WX} {w w' : Wd} {σ : L2.St} {H : Hp}
theorem cW.le {r : R Fl} {D : Ends} (x : w.le w') (p : cW K T B W w r D) : cW K T B W w' r D := by
 cases r with
 | ok f fr h =>
   cases f with
   | rt d => exact fun w2 σ2 H2 v y => p w2 σ2 H2 v (Wd.le_trans x y)
   | _ => exact fun w2 σ2 H2 y => p w2 σ2 H2 (Wd.le_trans x y)
 | exc e fr h => exact fun w2 σ2 H2 c d y => p w2 σ2 H2 c d (Wd.le_trans x y)
 | err => exact p
theorem cW.bind {α β : Type} {VR : Wd → Hp → Fr → β → α → Prop} {m : M α} {f : α → M Fl} {fr : Fr} {h : Hh} {D : Ends} {Q : β → Hp → Prop} (p : cW K T B W w (m.bind f fr h) D)
 (k : ∀ d fr1 h1 w1 H1 v, m fr h = .ok d fr1 h1 → w.le w1 → Rel K T B w1 σ H1 fr1 h1 → VR w1 H1 fr1 v d → cW K T B W w1 (f d fr1 h1) D → Q v H1) : aO K T B W VR w σ (m fr h) Q := by
 cases e : m fr h with
 | ok d fr1 h1 =>
   rw [M.bind_ok e] at p
   exact fun w1 H1 v x r z => k d fr1 h1 w1 H1 v e x r z (p.le x)
 | exc y fr1 h1 =>
   rw [M.bind_exc e] at p
   exact fun w1 H1 c dd x r z => p w1 σ H1 c dd x r z
 | err =>
   rw [M.bind_err e] at p
   exact p
end
def aD (m n : M Fl) : M Fl := m.bind fun f => match f with
 | .nx => n
 | f => M.ret f
def bB (t : M Bool) (m n : M Fl) : M Fl := t.bind fun b => if b then m else n
def iV {α : Type} (m : M α) : M Fl := m.bind fun _ => M.ret .nx
def aU (m : M D) : M Fl := m.bind fun d => M.ret (.rt d)
def bM (i : Nat) (m : M D) : M Fl := m.bind fun d fr h => .ok .nx (fr.set i (some d)) h
def MP (m : M D) (g : D → M Unit) : M Fl := m.bind fun d fr h => match g d fr h with
 | .ok _ fr h => .ok .nx fr h
 | _ => .err
def Lg (is : List Nat) (m : M (List D)) : M Fl := m.bind fun ds fr h => match yK is ds fr with
 | some fr' => if ds.length ≤ big then .ok .nx fr' h else .err
 | none => .err
section
variable {X : Cx} {T : Tb} {W : WX} {k : Nat} {pos pos' p2 : Pos} {e a b c : Expr} {st : Stmt} {sts as bs : List Stmt} {m : M D} {s n : M Fl} {t : M Bool} {es : List Expr}
theorem dZ : CJ X T W [] (M.ret .nx) := fun B w σ H fr h D R p => Rz pss_nil (p w σ H (Wd.le_refl _) R)
theorem aJ (s1 : uA X T W st s) (s2 : CJ X T W sts n) : CJ X T W (st :: sts) (aD s n) := fun B w σ H fr h D R p =>
 Rz (pss_cons YT Ey) (s1 B w σ H fr h _ R (by
  unfold aD at p
  cases e : s fr h with
  | ok f fr1 h1 =>
    rw [M.bind_ok e] at p
    cases f with
    | nx => exact fun w1 σ1 H1 l R1 => s2 B w1 σ1 H1 fr1 h1 D R1 (p.le l)
    | _ => exact p
  | exc y fr1 h1 => rw [M.bind_exc e] at p; exact p
  | err => rw [M.bind_err e] at p; exact p))
theorem aW (s1 : uA X T W st s) : CJ X T W [st] s := fun B w σ H fr h D R p => Rz (pss_one YT) (s1 B w σ H fr h _ R p)
theorem Ck {VR : ju V D} (s : eE (WE X e) X.K T W VR m) (hs : swapsWith e none pos.line X.env = pure false := by rfl) : uA X T W (.Expr e pos) (iV m) := fun B w σ H fr h D R p =>
 Bh (ps_expr aX hs) (s B w σ H fr h _ R (cW.bind (VR := VR X.K T B σ) p fun d fr1 h1 w1 H1 v e1 l1 r1 rx p1 => p1 w1 σ H1 (Wd.le_refl _) r1))
theorem s_ret (s : xO X T W e m) : uA X T W (.Return (some e) pos) (aU m) := fun B w σ H fr h D R p =>
 Bh (ps_ret aX) (s B w σ H fr h _ R (cW.bind (VR := vE X.K T B σ) p fun d fr1 h1 w1 H1 v e1 l1 r1 rx p1 => p1 w1 σ H1 v (Wd.le_refl _) r1 rx))
theorem fM (st : Ez X T W c t) (sa : CJ X T W as s) (sb : CJ X T W bs n) : uA X T W (.If c as bs pos) (bB t s n) := fun B w σ H fr h D R p =>
 Bh (ps_if Hi Ey Ey) (st B w σ H fr h _ R (cW.bind (VR := vB X.K T B σ) p fun d fr1 h1 w1 H1 x e1 l1 r1 rx p1 => by
  have rx' : x = d := rx
  subst rx'
  cases x with
  | true => exact sa B w1 σ H1 fr1 h1 D r1 p1
  | false => exact sb B w1 σ H1 fr1 h1 D r1 p1))
theorem abX : uA X T W st (fun _ _ => .err) := fun B w σ H fr h D R p => p.elim
theorem z8 (C : Cq X T W k) (i : Nat) {x : Str} (s : xO X T W e m) (hs : swapsWith e (some (.Name x pos')) pos.line X.env = pure false := by rfl) (hi : X.N[i]? = some x := by rfl) (hx : Loc X.env.scope x := by first | exact Or.inl rfl | exact Or.inr rfl)
 (hf : X.fn x = true ∨ X.env.scope.names.lookup x = some .local := by first | exact .inl rfl | exact .inr rfl) (h0 : i ≠ 0 := by decide) : uA X T W (.Assign [.Name x pos'] e pos) (bM i m) := fun B w σ H fr h D R p =>
 Bh (ps_set C.nd hi hx aX hs hf) (s B w σ H fr h _ R (cW.bind (VR := vE X.K T B σ) p fun d fr1 h1 w1 H1 v e1 l1 r1 rx p1 => p1 w1 _ H1 (Wd.le_refl _) (r1.put i h0 rx)))
theorem Hk (C : Cq X T W k) (i : Nat) {x : Str} (s : aM X T W e m) (hs : swapsWith e (some (.Name x pos')) pos.line X.env = pure false := by rfl) (hi : X.N[i]? = some x := by rfl) (hx : Loc X.env.scope x := by first | exact Or.inl rfl | exact Or.inr rfl)
 (hf : X.fn x = true ∨ X.env.scope.names.lookup x = some .local := by first | exact .inl rfl | exact .inr rfl) : uA X T W (.Assign [.Name x pos'] e pos) (bM i m) := fun B w σ H fr h D R p =>
 Bh (ps_set C.nd hi hx aX hs hf) (s B w σ H fr h _ R (cW.bind (VR := vV X.K T B σ) p fun d fr1 h1 w1 H1 v e1 l1 r1 rx p1 => p1 w1 _ H1 (Wd.le_refl _) (r1.putV i rx)))
theorem s_asg {tg : Expr} {is : List Nat} {g : D → M Unit} (s : aM X T W e m) (sg : yI X T is tg g) (hs : swapsWithSole [tg] e pos.line X.env = pure false := by rfl) (hw : swappedStores [tg] e X.env = pure none := by rfl)
 (h1 : (assignEach [tg] X.env).map (·.2) = [assign tg X.env] := by rfl) : uA X T W (.Assign [tg] e pos) (MP m g) := fun B w σ H fr h D R p =>
 Bh (ps_asg aX QS hs hw h1) (s B w σ H fr h _ R (cW.bind (VR := vV X.K T B σ) p fun d fr1 h1 w1 H1 v e1 l1 r1 rx p1 => sg B w1 σ H1 fr1 h1 v d _ r1 rx (by
  cases e2 : g d fr1 h1 with
  | ok u fr2 h2 =>
    rw [e2] at p1
    exact fun w2 σ2 H2 l2 r2 _ => p1 w2 σ2 H2 l2 r2
  | exc y fr2 h2 =>
    rw [e2] at p1
    exact p1.elim
  | err =>
    rw [e2] at p1
    exact p1.elim)))
theorem Eo.temp {K : PySem.W.Frag} {B : Bs} {σ : L2.St} {w : Wd} {H : Hp} {fr : Fr} {vs : List V} {ds : List D} {ps : List Addr} {p : Addr} {o : HO} (x : Eo K T B σ w H fr vs ds ps) (np : H p = none) : Eo K T B σ w (upd H p o) fr vs ds ps := by
 induction x with
 | nil => exact .nil
 | val r _ ih => exact .val r ih
 | own O lo e r nq _ ih => exact .own O lo (by rw [upd_ne (ne_of_none e np)]; exact e) r nq ih
theorem UV : ∀ (is : List Nat) (ds : List D) (fr fr' : Fr), yK is ds fr = some fr' → ds.length = is.length
 | [], [], _, _, _ => rfl
 | [], _ :: _, _, _, q => by cases q
 | _ :: _, [], _, _, q => by cases q
 | _ :: is, _ :: ds, _, fr', q => congrArg Nat.succ (UV is ds _ fr' q)
theorem ac1 (C : Cq X T W k) {tgs : List Expr} {is : List Nat} {kk x1 : Nat} {n : Nat} {ms : M (List D)} (se : Ub X T W es ms) (g : Uc X T is tgs) (hn : (assignEach tgs X.env).length = n := by rfl) (hl : is.length = n := by rfl) (hst : (assignEach tgs X.env).findIdx? (·.1) = none := by rfl)
 (hs : swapsWithSole [.Tuple tgs kk pos'] (.Tuple es x1 p2) pos.line X.env = pure false := by rfl) (hw : swappedStores [.Tuple tgs kk pos'] (.Tuple es x1 p2) X.env = pure none := by rfl)
 (h1 : (assignEach [.Tuple tgs kk pos'] X.env).map (·.2) = [assign (.Tuple tgs kk pos') X.env] := by rfl) : uA X T W (.Assign [.Tuple tgs kk pos'] (.Tuple es x1 p2) pos) (Lg is ms) := by
 obtain ⟨u, pu, g⟩ := g
 refine fun B w σ H fr h D R p => Bh (ps_asg (pe_tup Mv) (pg_tup C.calm pu hn hst) hs hw h1) (se B w σ H fr h _ R (cW.bind (VR := vEs X.K T B σ) p fun ds fr1 h1 w1 H1 vs e1 l1 r1 ⟨ps, rs⟩ p1 => ?_))
 cases q : yK is ds fr1 with
 | none => rw [q] at p1; exact p1.elim
 | some fr' =>
   rw [q] at p1
   dsimp only at p1
   by_cases hb : ds.length ≤ big
   · rw [if_pos hb] at p1
     refine ⟨by rw [rs.length]; exact xP hb, fun a na => ⟨a, vs, rfl, SqT.of upd_same, ?_, ?_⟩⟩
     · rw [rs.length, UV _ _ _ _ q, hl]
     · exact g B w1 σ (upd H1 a (.tup vs)) fr1 fr' h1 vs ds ps _ (r1.temp na) (rs.temp na) q fun σ' R' => p1 w1 σ' _ (Wd.le_refl _) R'
   · rw [if_neg hb] at p1
     exact p1.elim
end
end Pk
namespace Pk
open PySem PySem.Spec L2
def iH (g : D → M Unit) (b : M Fl) : List D → M Fl
 | [] => M.ret .nx
 | d :: ds => fun fr h => match g d fr h with
   | .ok _ fr h => match b fr h with
     | .ok .nx fr h => iH g b ds fr h
     | .ok .ct fr h => iH g b ds fr h
     | .ok .brk fr h => .ok .nx fr h
     | .ok (.rt d) fr h => .ok (.rt d) fr h
     | .exc x fr h => .exc x fr h
     | .err => .err
   | _ => .err
def jC (l : M (List D)) (g : D → M Unit) (b : M Fl) : M Fl := l.bind fun ds => iH g b ds
def Zg (t : M Bool) (b : M Fl) : Nat → M Fl
 | 0 => fun _ _ => .err
 | n + 1 => fun fr h => match t fr h with
   | .ok true fr h => match b fr h with
     | .ok .nx fr h => Zg t b n fr h
     | .ok .ct fr h => Zg t b n fr h
     | .ok .brk fr h => .ok .nx fr h
     | .ok (.rt d) fr h => .ok (.rt d) fr h
     | .exc x fr h => .exc x fr h
     | .err => .err
   | .ok false fr h => .ok .nx fr h
   | .exc x fr h => .exc x fr h
   | .err => .err
section
variable {X : Cx} {T : Tb} {W : WX} {k : Nat} {pos pos' : Pos} {tg iter c : Expr} {body : List Stmt} {li : M (List D)} {g : D → M Unit} {b : M Fl} {is : List Nat} {t : M Bool}
theorem Lh (C : Cq X T W k) (si : MN X T W tg iter li) (sg : yI X T is tg g) (sb : CJ X T W body b) (hs : ∀ x, foldedSetIterable iter X.env x = pure x := by intro _; rfl) : uA X T W (.For tg iter body [] pos) (jC li g b) := fun B w σ H fr h D R p =>
 Bh (ps_for C.po C.calm KD QS Ey hs) (si B w σ H fr h _ R (cW.bind (VR := vJ X.K T B σ) p fun ds fr1 h1 w1 H1 J e1 l1 r1 vj p1 => by
  refine ⟨fun i m σ H => m = ds.length - i ∧ i ≤ ds.length ∧ ∃ w' fr' h', w1.le w' ∧ Rel X.K T B w' σ H fr' h' ∧ cW X.K T B W w' (iH g b (ds.drop i) fr' h') D, ⟨ds.length, by simp, Nat.zero_le _, w1, fr1, h1, Wd.le_refl _, r1, p1⟩, ?_⟩
  rintro i m σ2 H2 ⟨rfl, hi, w2, fr2, h2, l2, r2, p2⟩
  obtain ⟨js, jg⟩ := vj i w2 H2 l2 r2.sub
  by_cases hlt : i < ds.length
  · obtain ⟨go, y⟩ := jg ds[i] (ag1 hlt)
    refine .inr ⟨go, fun σ' H' => ∃ w' fr' h', w1.le w' ∧ Rel X.K T B w' σ' H' fr' h' ∧ cW X.K T B W w' (iH g b (ds.drop (i + 1)) fr' h') D, fun σ' H' q => ⟨ds.length - (i + 1), by omega, rfl, hlt, q⟩, fun x H3 yx => ?_⟩
    obtain ⟨w3, l3, r3, rx⟩ := y x H3 yx B σ2 fr2 h2 r2
    have ed : ds.drop i = ds[i] :: ds.drop (i + 1) := List.drop_eq_getElem_cons hlt
    rw [ed] at p2
    refine sg B w3 σ2 H3 fr2 h2 x ds[i] _ r3 rx ?_
    unfold iH at p2
    cases e2 : g ds[i] fr2 h2 with
    | ok u fr3 h3 =>
      rw [e2] at p2
      intro w4 σ4 H4 l4 r4 _
      refine sb B w4 σ4 H4 fr3 h3 _ r4 ?_
      have l34 : w1.le w4 := Wd.le_trans l2 (Wd.le_trans l3 l4)
      dsimp only at p2
      cases e3 : b fr3 h3 with
      | ok f fr4 h4 =>
        rw [e3] at p2
        cases f with
        | nx => exact fun w5 σ5 H5 l5 r5 => ⟨w5, fr4, h4, Wd.le_trans l34 l5, r5, p2.le (Wd.le_trans (Wd.le_trans l3 l4) l5)⟩
        | ct => exact fun w5 σ5 H5 l5 r5 => ⟨w5, fr4, h4, Wd.le_trans l34 l5, r5, p2.le (Wd.le_trans (Wd.le_trans l3 l4) l5)⟩
        | brk => exact fun w5 σ5 H5 l5 r5 => p2 w5 σ5 H5 (Wd.le_trans (Wd.le_trans l3 l4) l5) r5
        | rt d => exact fun w5 σ5 H5 v l5 r5 rv => p2 w5 σ5 H5 v (Wd.le_trans (Wd.le_trans l3 l4) l5) r5 rv
      | exc y fr4 h4 =>
        rw [e3] at p2
        exact fun w5 σ5 H5 cc dd l5 r5 z => p2 w5 σ5 H5 cc dd (Wd.le_trans (Wd.le_trans l3 l4) l5) r5 z
      | err => rw [e3] at p2; exact p2
    | exc y fr3 h3 => rw [e2] at p2; exact p2
    | err => rw [e2] at p2; exact p2
  · have e : i = ds.length := by omega
    subst e
    rw [List.drop_length] at p2
    exact .inl ⟨js (Nat.le_refl _), p2 w2 σ2 H2 (Wd.le_refl _) r2⟩))
end
def WF : WX := fun _ _ _ _ => False
def cX (fr : Fr) : List Nat → Fr
 | [] => fr
 | v :: vs => (cX fr vs).set v none
theorem MT (fr : Fr) : ∀ vs : List Nat, (cX fr vs).length = fr.length
 | [] => rfl
 | v :: vs => by unfold cX; rw [ahg, MT fr vs]
theorem JK {fr : Fr} {i : Nat} : ∀ {vs : List Nat}, i ∉ vs → (cX fr vs)[i]? = fr[i]?
 | [], _ => rfl
 | v :: vs, h => by
   unfold cX
   rw [List.mem_cons, not_or] at h
   rw [ag6 (Ne.symm h.1), JK h.2]
theorem xQ {fr : Fr} {i : Nat} {d : D} : ∀ {vs : List Nat}, i ∈ vs → (cX fr vs)[i]? ≠ some (some d)
 | [], h => by cases h
 | v :: vs, h => by
   unfold cX
   by_cases e : v = i
   · subst e
     by_cases l : v < (cX fr vs).length
     · rw [ag8 l]
       exact fun z => by cases z
     · rw [List.getElem?_eq_none (by rw [ahg]; omega)]
       exact fun z => by cases z
   · rw [ag6 e]
     rcases List.mem_cons.mp h with z | z
     · exact absurd z.symm e
     · exact xQ z
theorem wipe_out {σ : L2.St} {i : Nat} : ∀ {vs : List Nat}, i ∉ vs → (wipe σ vs)[i]? = σ[i]?
 | [], _ => rfl
 | v :: vs, h => by
   unfold wipe
   rw [List.mem_cons, not_or] at h
   rw [ag6 (Ne.symm h.1), wipe_out h.2]
theorem abY {σ : L2.St} {i : Nat} {v : V} {vs : List Nat} (h : i ∈ vs) : (wipe σ vs)[i]? ≠ some (some v) := fun z => (wipe_some z).2 h
section
variable {K : PySem.W.Frag} {T : Tb} {B : Bs} {w w' : Wd} {σ σ' : L2.St} {H H' : Hp} {fr fr' : Fr} {h : Hh}
theorem Rel.refr (R : Rel K T B w σ H fr h) (fl : fr'.length = σ'.length) (hs : ∀ (i : Nat) (d : D), fr'[i]? = some (some d) → fr[i]? = some (some d) ∧ σ'[i]? = σ[i]?) : Rel K T B w σ' H fr' h :=
 { R with
   me := fun x d bx e od => by
    obtain ⟨h1, h2⟩ := hs 0 d e
    rw [h2]
    exact R.me x d bx h1 od
   fl := fl
   sl := fun i s d e1 e2 => by
    cases d with
    | none => exact .none
    | some d =>
      obtain ⟨h1, h2⟩ := hs i d e2
      rw [h2] at e1
      exact R.sl i s (some d) e1 h1
   sep := fun i j p hij ⟨a1, d1, a2, a3⟩ ⟨b1, d2, b2, b3⟩ => by
    obtain ⟨h1, h2⟩ := hs i d1 a2
    obtain ⟨h3, h4⟩ := hs j d2 b2
    rw [h2] at a1
    rw [h4] at b1
    exact R.sep i j p hij ⟨a1, d1, h1, a3⟩ ⟨b1, d2, h3, b3⟩ }
theorem Rel.wipe (R : Rel K T B w σ H fr h) (vs : List Nat) : Rel K T B w (wipe σ vs) H (cX fr vs) h := by
 refine R.refr (by rw [MT, wipe_length]; exact R.fl) fun i d e => ?_
 by_cases hi : i ∈ vs
 · exact absurd e (xQ hi)
 · rw [JK hi] at e
   exact ⟨e, wipe_out hi⟩
end
def dJ (vs : List Nat) (g : D → M Unit) (t : M Bool) (e : M D) (d : D) : M (Option D) := fun fr h => match g d fr h with
 | .ok _ fr h => match t fr h with
   | .ok true fr h => match e fr h with
     | .ok y fr h => .ok (some y) (cX fr vs) h
     | _ => .err
   | .ok false fr h => .ok none (cX fr vs) h
   | _ => .err
 | _ => .err
def uB {α : Type} : Option α → List α → List α
 | some y, r => y :: r
 | none, r => r
def jx (vs : List Nat) (g : D → M Unit) (t : M Bool) (e : M D) : List D → M (List D)
 | [] => M.ret []
 | d :: ds => (dJ vs g t e d).bind fun o => (jx vs g t e ds).bind fun r => M.ret (uB o r)
def GZ (vs : List Nat) : M Unit := fun fr h => .ok () (cX fr vs) h
def ye (vs : List Nat) (l : M (List D)) (g : D → M Unit) (t : M Bool) (e : M D) : M D := l.bind fun ds => (GZ vs).bind fun _ => if ds.length ≤ big then (jx vs g t e ds).bind fun r => M.ret (.nl r) else M.opt none
section
variable {X : Cx} {T : Tb} {W : WX} {k : Nat} {pos pos' : Pos} {tg iter elt c : Expr} {ifs : List Expr} {li : M (List D)} {g : D → M Unit} {b : M Fl} {is : List Nat} {t : M Bool} {me : M D} {scope : Scope} {own : List (Str × Nat)}
theorem UW {σ σ2 : L2.St} {vs is : List Nat} (hl : σ2.length = σ.length) (hi : ∀ i ∈ is, i ∈ vs) (hk : ∀ (j : Nat), j ∉ is → σ2[j]? = (wipe σ vs)[j]?) : wipe σ2 vs = wipe σ vs := by
 refine List.ext_getElem? fun j => ?_
 by_cases hj : j ∈ vs
 · have key : ∀ τ : L2.St, τ.length = σ.length → (wipe τ vs)[j]? = if j < σ.length then some none else none := fun τ hτ => by
    by_cases hjl : j < σ.length
    · rw [if_pos hjl]
      have hjl' : j < (wipe τ vs).length := by rw [wipe_length, hτ]; exact hjl
      rw [ag1 hjl']
      cases e : (wipe τ vs)[j] with
      | none => rfl
      | some v => exact absurd (by rw [ag1 hjl', e]) (abY (σ := τ) (v := v) hj)
    · rw [if_neg hjl]
      exact List.getElem?_eq_none (by rw [wipe_length, hτ]; omega)
   rw [key σ2 hl, key σ rfl]
 · rw [wipe_out hj, hk j fun z => hj (hi j z), wipe_out hj]
def GB (X : Cx) (scope : Scope) (tg : Expr) : TG := fun v σ H Q => ∀ (s : Shared) (H0 : Hp) (C : Addr) (cl : List (Str × Addr)) (fp : List Addr), WG (X.blk s H0 scope (compEnvC scope cl C X.env) fp) tg v σ H Q
def TB (X : Cx) (scope : Scope) (ifs : List Expr) : TT := fun σ H Q => ∀ (s : Shared) (H0 : Hp) (C : Addr) (cl : List (Str × Addr)) (fp : List Addr), Mg (X.blk s H0 scope (compEnvC scope cl C X.env) fp) ifs σ H Q
def EB (X : Cx) (scope : Scope) (e : Expr) : TE := fun σ H Q => ∀ (s : Shared) (H0 : Hp) (C : Addr) (cl : List (Str × Addr)) (fp : List Addr), WE (X.blk s H0 scope (compEnvC scope cl C X.env) fp) e σ H Q
theorem Zh {B : Bs} {w : Wd} {σ : L2.St} {H : Hp} {fr : Fr} {h : Hh} {Q : VK} (si : MN X T W tg iter li) (hi : ∀ i ∈ is, i ∈ own.map (·.2))
 (sg : ∀ (s : Shared) (H0 : Hp) (C : Addr) (cl : List (Str × Addr)) (fp : List Addr), yI (X.blk s H0 scope (compEnvC scope cl C X.env) fp) T is tg g)
 (st : ∀ (s : Shared) (H0 : Hp) (C : Addr) (cl : List (Str × Addr)) (fp : List Addr), eE (Mg (X.blk s H0 scope (compEnvC scope cl C X.env) fp) ifs) X.K T WF vB t)
 (se : ∀ (s : Shared) (H0 : Hp) (C : Addr) (cl : List (Str × Addr)) (fp : List Addr), aM (X.blk s H0 scope (compEnvC scope cl C X.env) fp) T WF elt me)
 (R : Rel X.K T B w σ H fr h) (p : aO X.K T B W (vE X.K T B σ) w σ (ye (own.map (·.2)) li g t me fr h) Q) : tLc (WI X tg iter) (GB X scope tg) (TB X scope ifs) (EB X scope elt) (own.map (·.2)) σ H Q := by
 refine si B w σ H fr h _ R (aO.bind (VR := vJ X.K T B σ) p fun ds fr0 h0 w1 H1 J e1 l1 r0 vj p0 => ?_)
 generalize hvs : own.map (·.2) = vs at hi p0 ⊢
 intro A0 nD
 have p1 : aO X.K T B W (vE X.K T B σ) w1 σ ((if ds.length ≤ big then (jx vs g t me ds).bind fun r => M.ret (.nl r) else M.opt none) (cX fr0 vs) h0) Q := p0
 by_cases hb : ds.length ≤ big
 · rw [if_pos hb] at p1
   have rD := r0.temp (o := .lst []) nD
   have OD : Own B w1 A0 := r0.own_new nD
   refine ⟨fun i m H => m = ds.length - i ∧ i ≤ ds.length ∧ ∃ w' fr' h' acc vs', w1.le w' ∧ au X.K T w' vs' acc ∧ acc.length ≤ i ∧ Rel X.K T (B.pr A0 (.lst vs')) w' (wipe σ vs) H fr' h' ∧ (∀ j ∈ vs, ∀ d, fr'[j]? ≠ some (some d)) ∧
    aO X.K T B W (vE X.K T B σ) w' σ (((jx vs g t me (ds.drop i)).bind fun r => M.ret (D.nl (acc ++ r))) fr' h') Q, ⟨ds.length, by simp, Nat.zero_le _, w1, cX fr0 vs, h0, [], [], Wd.le_refl _, .nil, Nat.zero_le _,
     (rD.wipe vs).protect OD (fun i ⟨z1, dd, z2, z3⟩ => r0.loose_new nD i (by
      by_cases hj : i ∈ vs
      · exact absurd z2 (xQ hj)
      · rw [JK hj] at z2
        rw [wipe_out hj] at z1
        exact ⟨z1, dd, z2, z3⟩)) upd_same, fun j hj d => xQ hj, p1⟩, ?_⟩
   rintro i m H2 ⟨rfl, hil, w2, fr2, h2, acc, us, l2, ra, la, r2, hw2, p2⟩
   have hP := OD.p
   obtain ⟨js, jg⟩ := vj i w2 H2 l2 r2.sub
   by_cases hlt : i < ds.length
   · obtain ⟨go, y⟩ := jg ds[i] (ag1 hlt)
     have ed : ds.drop i = ds[i] :: ds.drop (i + 1) := List.drop_eq_getElem_cons hlt
     rw [ed] at p2
     refine .inr ⟨go, fun H' => ∃ w' fr' h' acc vs', w1.le w' ∧ au X.K T w' vs' acc ∧ acc.length ≤ i + 1 ∧ Rel X.K T (B.pr A0 (.lst vs')) w' (wipe σ vs) H' fr' h' ∧ (∀ j ∈ vs, ∀ d, fr'[j]? ≠ some (some d)) ∧
      aO X.K T B W (vE X.K T B σ) w' σ (((jx vs g t me (ds.drop (i + 1))).bind fun r => M.ret (D.nl (acc ++ r))) fr' h') Q, fun H' q => ⟨ds.length - (i + 1), by omega, rfl, hlt, q⟩, fun x H3 yx => ?_⟩
     obtain ⟨w3, l3, r3, rx⟩ := y x H3 yx (B.pr A0 (.lst us)) (wipe σ vs) fr2 h2 r2
     have turn : ∃ o fr' h', dJ vs g t me ds[i] fr2 h2 = .ok o fr' h' ∧ aO X.K T B W (vE X.K T B σ) w2 σ (((jx vs g t me (ds.drop (i + 1))).bind fun r => M.ret (D.nl (acc ++ uB o r))) fr' h') Q := by
      have p2' : aO X.K T B W (vE X.K T B σ) w2 σ (((dJ vs g t me ds[i]).bind fun o => (jx vs g t me (ds.drop (i + 1))).bind fun r => M.ret (D.nl (acc ++ uB o r))) fr2 h2) Q := by
       have ee : ((jx vs g t me (ds[i] :: ds.drop (i + 1))).bind fun r => M.ret (D.nl (acc ++ r))) fr2 h2 = ((dJ vs g t me ds[i]).bind fun o => (jx vs g t me (ds.drop (i + 1))).bind fun r => M.ret (D.nl (acc ++ uB o r))) fr2 h2 := by
        show M.bind (M.bind _ _) _ fr2 h2 = _
        unfold M.bind
        cases dJ vs g t me ds[i] fr2 h2 with
        | ok o fr' h' => dsimp only; cases jx vs g t me (ds.drop (i + 1)) fr' h' <;> rfl
        | exc _ _ _ => rfl
        | err => rfl
       rw [← ee]
       exact p2
      cases q : dJ vs g t me ds[i] fr2 h2 with
      | ok o fr' h' =>
        rw [M.bind_ok q] at p2'
        exact ⟨o, fr', h', rfl, p2'⟩
      | exc y fr' h' =>
        exfalso
        unfold dJ at q
        split at q
        · split at q
          · split at q <;> cases q
          · cases q
          · cases q
        · cases q
      | err =>
        rw [M.bind_err q] at p2'
        exact p2'.elim
     obtain ⟨o, fro, ho, qt, p3⟩ := turn
     have upw : ∀ {u2 : L2.St} {w' : Wd} {H' : Hp} {fr' : Fr} {h' : Hh} {B' : Bs}, wipe u2 vs = wipe σ vs → Rel X.K T B' w' u2 H' fr' h' → Rel X.K T B' w' (wipe σ vs) H' (cX fr' vs) h' := fun {u2 w' H' fr' h' B'} e R' => by
      rw [← e]
      exact R'.wipe vs
     intro s0 H0 C cl fp
     refine sg s0 H0 C cl fp (B.pr A0 (.lst us)) w3 (wipe σ vs) H3 fr2 h2 x ds[i] _ r3 rx ?_
     unfold dJ at qt
     cases q1 : g ds[i] fr2 h2 with
     | exc _ _ _ => rw [q1] at qt; cases qt
     | err => rw [q1] at qt; cases qt
     | ok _ fr3 h3 =>
       rw [q1] at qt
       dsimp only at qt
       intro w4 σ4 H4 l4 r4 k4
       have ew : wipe σ4 vs = wipe σ vs := UW (k4.1.trans (wipe_length σ vs)) hi k4.2
       refine ⟨ew, fun s0 H0 C cl fp => st s0 H0 C cl fp (B.pr A0 (.lst us)) w4 σ4 H4 fr3 h3 _ r4 ?_⟩
       cases q2 : t fr3 h3 with
       | exc _ _ _ => rw [q2] at qt; cases qt
       | err => rw [q2] at qt; cases qt
       | ok b fr4 h4 =>
         rw [q2] at qt
         intro w5 H5 v l5 r5 rv
         have rv' : v = b := rv
         subst rv'
         cases v with
         | false =>
           dsimp only at qt
           cases qt
           simp only [Bool.false_eq_true, if_false]
           exact ⟨w5, _, _, acc, us, Wd.le_trans l2 (Wd.le_trans l3 (Wd.le_trans l4 l5)), ra.mono (Wd.le_trans l3 (Wd.le_trans l4 l5)), Nat.le_succ_of_le la, upw ew r5, fun j hj d => xQ hj, p3.le (Wd.le_trans l3 (Wd.le_trans l4 l5))⟩
         | true =>
           dsimp only at qt
           simp only [if_true]
           intro s0 H0 C cl fp
           refine se s0 H0 C cl fp (B.pr A0 (.lst us)) w5 σ4 H5 fr4 h4 _ r5 ?_
           cases q3 : me fr4 h4 with
           | exc _ _ _ => rw [q3] at qt; cases qt
           | err => rw [q3] at qt; cases qt
           | ok yd fr5 h5 =>
             rw [q3] at qt
             cases qt
             intro w6 H6 yv l6 r6 ry
             have hD6 : H6 A0 = some (.lst us) := (r6.prot (A0, .lst us) (ag9)).1
             have lall : w2.le w6 := Wd.le_trans l3 (Wd.le_trans l4 (Wd.le_trans l5 l6))
             refine ⟨us, hD6, ?_, w6, _, _, acc ++ [yd], us ++ [yv], Wd.le_trans l2 lall, (ra.mono lall).append (.cons ry .nil), ?_, (upw ew r6).repr OD.e OD.p, fun j hj d => xQ hj, ?_⟩
             · rw [ra.length]
               have : big < sizeLine := by decide
               omega
             · rw [ag4]
               show acc.length + 1 ≤ i + 1
               omega
             · have e9 : ∀ r : List _, acc ++ uB (some yd) r = acc ++ [yd] ++ r := fun r => by
                show acc ++ yd :: r = _
                rw [List.append_assoc]
                rfl
               simp only [e9] at p3
               exact p3.le lall
   · have e : i = ds.length := by omega
     subst e
     rw [List.drop_length] at p2
     obtain ⟨r3, O3, lo3, eD⟩ := r2.unprotect OD.e OD.p
     refine .inl ⟨js (Nat.le_refl _), ?_⟩
     have p3 : aO X.K T B W (vE X.K T B σ) w2 σ (.ok (D.nl (acc ++ [])) fr2 h2) Q := p2
     rw [ag5] at p3
     have r4 : Rel X.K T B w2 σ H2 fr2 h2 := r3.refr (by rw [← wipe_length σ vs]; exact r3.fl) fun j d ej => ⟨ej, by
      by_cases hj : j ∈ vs
      · exact absurd ej (hw2 j hj d)
      · exact (wipe_out hj).symm⟩
     refine p3 w2 H2 (.ref A0) (Wd.le_refl _) r4 (.inr ⟨A0, _, rfl, O3, fun j ⟨z1, dd, z2, z3⟩ => lo3 j ⟨?_, dd, z2, z3⟩, eD, .lst ra⟩)
     by_cases hj : j ∈ vs
     · exact absurd z2 (hw2 j hj dd)
     · rw [wipe_out hj]
       exact z1
 · rw [if_neg hb] at p1
   exact p1.elim
theorem Ol (C : Cq X T W k) (own : List (Str × Nat)) (si : MN X T W tg iter li) (hi : ∀ i ∈ is, i ∈ own.map (·.2))
 (sg : ∀ (s : Shared) (H0 : Hp) (C : Addr) (cl : List (Str × Addr)) (fp : List Addr), yI (X.blk s H0 scope (compEnvC scope cl C X.env) fp) T is tg g)
 (st : ∀ (s : Shared) (H0 : Hp) (C : Addr) (cl : List (Str × Addr)) (fp : List Addr), eE (Mg (X.blk s H0 scope (compEnvC scope cl C X.env) fp) ifs) X.K T WF vB t)
 (se : ∀ (s : Shared) (H0 : Hp) (C : Addr) (cl : List (Str × Addr)) (fp : List Addr), aM (X.blk s H0 scope (compEnvC scope cl C X.env) fp) T WF elt me)
 (ok : BlkOk X.N X.env.scope scope own) (hs : ∀ x, foldedSetIterable iter X.env x = pure x := by intro _; rfl) : xO X T W (.ListComp elt [⟨tg, iter, ifs, 0⟩] scope pos) (ye (own.map (·.2)) li g t me) := fun B w σ H fr h Q R p =>
 eU (pe_lc C.calm C.nd KD ok (fun s H C cl fp => ⟨fun pins s' σ H v u Q I r hh => hh s _ C cl fp pins s' u I r⟩) (fun s H C cl fp => ⟨fun pins s' σ H Q I hh => hh s _ C cl fp pins s' I⟩) (fun s H C cl fp => ⟨fun pins s' σ H Q I hh => (hh s _ C cl fp).go pins s' I⟩) hs) (Zh si hi sg st se R p)
theorem RM (C : Cq X T W k) (j : Nat) {y : Str} {py spos : Pos} (own : List (Str × Nat)) (si : MN X T W tg iter li) (hi : ∀ i ∈ is, i ∈ own.map (·.2))
 (sg : ∀ (s : Shared) (H0 : Hp) (C : Addr) (cl : List (Str × Addr)) (fp : List Addr), yI (X.blk s H0 scope (compEnvC scope cl C X.env) fp) T is tg g)
 (st : ∀ (s : Shared) (H0 : Hp) (C : Addr) (cl : List (Str × Addr)) (fp : List Addr), eE (Mg (X.blk s H0 scope (compEnvC scope cl C X.env) fp) ifs) X.K T WF vB t)
 (se : ∀ (s : Shared) (H0 : Hp) (C : Addr) (cl : List (Str × Addr)) (fp : List Addr), aM (X.blk s H0 scope (compEnvC scope cl C X.env) fp) T WF elt me)
 (ok : BlkOk X.N X.env.scope scope own) (hsw : swapsWith (.ListComp elt [⟨tg, iter, ifs, 0⟩] scope pos) (some (.Name y py)) spos.line X.env = pure true) (hy : X.N[j]? = some y := by rfl) (j0 : j ≠ 0 := by decide) (hyl : X.env.scope.names.lookup y = some .local := by rfl)
 (hs : ∀ x, foldedSetIterable iter X.env x = pure x := by intro _; rfl) : uA X T W (.Assign [.Name y py] (.ListComp elt [⟨tg, iter, ifs, 0⟩] scope pos) spos) (bM j (ye (own.map (·.2)) li g t me)) := fun B w σ H fr h D R p =>
 Bh (ps_setLc C.calm C.nd hy hyl hsw KD ok (fun s H C cl fp => ⟨fun pins s' σ H v u Q I r hh => hh s _ C cl fp pins s' u I r⟩) (fun s H C cl fp => ⟨fun pins s' σ H Q I hh => hh s _ C cl fp pins s' I⟩) (fun s H C cl fp => ⟨fun pins s' σ H Q I hh => (hh s _ C cl fp).go pins s' I⟩) hs)
  (Zh si hi sg st se R (cW.bind (VR := vE X.K T B σ) p fun d fr1 h1 w1 H1 v e1 l1 r1 rx p1 => p1 w1 _ H1 (Wd.le_refl _) (r1.put j j0 rx)))
theorem Ih : eE (Mg X []) X.K T W vB (M.ret true) := fun B w σ H fr h Q R p => WN pts_nil (p w H true (Wd.le_refl _) R rfl)
theorem Om (s : Ez X T W c t) : eE (Mg X [c]) X.K T W vB t := fun B w σ H fr h Q R p => WN (pts_one Hi) (s B w σ H fr h Q R p)
theorem Cq.blk (C : Cq X T W k) {s : Shared} {H0 : Hp} {A0 : Addr} {cl : List (Str × Addr)} {fp : List Addr} : Cq (X.blk s H0 scope (compEnvC scope cl A0 X.env) fp) T WF k :=
 ⟨C.calm, C.nd, C.room, fun u s' ⟨_, _, _, _, _, _, _, _, _, _, _, _, _, _, _, _, w⟩ => w.elim, fun _ _ z => z.elim⟩
end
def aR (i : Nat) (f : List D → Option (List D)) : M Unit := fun fr h => match fr[i]? with
 | some (some (.nl l)) => match f l with
   | some l' => .ok () (fr.set i (some (.nl l'))) h
   | none => .err
 | some (some (.ref n)) => match h[n]? with
   | some (.nl l) => match f l with
     | some l' => .ok () fr (h.set n (.nl l'))
     | none => .err
   | _ => .err
 | _ => .err
def jD (d : D) (f : List D → Option (List D)) : M Unit := fun fr h => match d with
 | .ref n => match h[n]? with
   | some (.nl l) => match f l with
     | some l' => .ok () fr (h.set n (.nl l'))
     | none => .err
   | _ => .err
 | _ => .err
def jr (l : List D) : Option (List D) := some l
def CQ (d : D) (l : List D) : Option (List D) := if l.length < big then some (l ++ [d]) else none
def Dj (j : D) (d : D) (l : List D) : Option (List D) := match j with
 | .int j => (ixN l.length j).map fun n => l.set n d
 | _ => none
def M3 (_ : List D) : Option (List D) := some []
def JL (K : PySem.W.Frag) (T : Tb) (B : Bs) (w : Wd) (σ : L2.St) (H : Hp) (v : V) (f : List D → Option (List D)) (fr' : Fr) (h' : Hh) : Prop :=
 ∃ p vs l l', v = .ref p ∧ H p = some (.lst vs) ∧ au K T w vs l ∧ f l = some l' ∧ ∀ vs', au K T w vs' l' → Rel K T B w σ (upd H p (.lst vs')) fr' h'
section
variable {K : PySem.W.Frag} {T : Tb} {B : Bs} {w : Wd} {σ : L2.St} {H : Hp} {fr : Fr} {h : Hh}
theorem Qp (R : Rel K T B w σ H fr h) {n : Nat} {v : V} (rv : bA K T w v (.ref n)) {f : List D → Option (List D)} {l l' : List D} (e : h[n]? = some (.nl l)) (ef : f l = some l') : JL K T B w σ H v f fr (h.set n (.nl l')) := by
 cases rv with
 | @ref a n s =>
   obtain ⟨o, q, rr⟩ := R.cel n a _ s e
   cases rr with
   | lst r => exact ⟨a, _, l, l', rfl, q, r, ef, fun vs' rs => R.change_cell s e (.lst rs)⟩
theorem RN {α β : Type} {VR : Wd → Hp → Fr → β → α → Prop} {W : WX} {d : D} {v : V} {f : List D → Option (List D)} {m : M α} {Q : β → Hp → Prop} (R : Rel K T B w σ H fr h) (rv : bA K T w v d) (p : aO K T B W VR w σ ((jD d f).bind (fun _ => m) fr h) Q) :
 ∃ fr' h', JL K T B w σ H v f fr' h' ∧ aO K T B W VR w σ (m fr' h') Q := by
 cases q : jD d f fr h with
 | ok u fr' h' =>
   rw [M.bind_ok q] at p
   refine ⟨fr', h', ?_, p⟩
   unfold jD at q
   split at q
   · split at q
     · split at q
       · cases q
         exact Qp R rv (by assumption) (by assumption)
       · cases q
     · cases q
   · cases q
 | exc y fr' h' =>
   exfalso
   unfold jD at q
   split at q
   · split at q
     · split at q <;> cases q
     · cases q
   · cases q
 | err =>
   rw [M.bind_err q] at p
   exact p.elim
theorem U0 {α β : Type} {VR : Wd → Hp → Fr → β → α → Prop} {W : WX} {i : Nat} {v : V} {f : List D → Option (List D)} {m : M α} {Q : β → Hp → Prop} (R : Rel K T B w σ H fr h) (ev : σ[i]? = some (some v)) (p : aO K T B W VR w σ ((aR i f).bind (fun _ => m) fr h) Q) :
 ∃ fr' h', JL K T B w σ H v f fr' h' ∧ aO K T B W VR w σ (m fr' h') Q := by
 cases q : aR i f fr h with
 | ok u fr' h' =>
   rw [M.bind_ok q] at p
   refine ⟨fr', h', ?_, p⟩
   unfold aR at q
   split at q
   · rename_i l e1
     split at q
     · rename_i l' ef
       cases q
       obtain ⟨v', e2, z⟩ := fW R e1
       rw [ev] at e2
       cases e2
       cases z with
       | val r => cases r
       | own O eH r =>
         cases r with
         | lst r => exact ⟨_, _, l, l', rfl, eH, r, ef, fun vs' rs => R.change_slot ev e1 O eH rfl (.lst rs)⟩
     · cases q
   · rename_i n e1
     split at q
     · split at q
       · cases q
         obtain ⟨v', e2, z⟩ := fW R e1
         rw [ev] at e2
         cases e2
         cases z with
         | val r => exact Qp R r (by assumption) (by assumption)
         | own O eH r => cases r
       · cases q
     · cases q
   · cases q
 | exc y fr' h' =>
   exfalso
   unfold aR at q
   split at q
   · split at q <;> cases q
   · split at q
     · split at q <;> cases q
     · cases q
   · cases q
 | err =>
   rw [M.bind_err q] at p
   exact p.elim
end
def yL (i : Nat) (m : M D) : M D := (aR i jr).bind fun _ => m.bind fun d => (aR i (CQ d)).bind fun _ => M.ret .non
def Xz (i : Nat) : M D := (aR i M3).bind fun _ => M.ret .non
def G3 (mo m : M D) : M D := mo.bind fun o => (jD o jr).bind fun _ => m.bind fun d => (jD o (CQ d)).bind fun _ => M.ret .non
def Oo (mo : M D) : M D := mo.bind fun o => (jD o M3).bind fun _ => M.ret .non
section
variable {X : Cx} {T : Tb} {W : WX} {k : Nat} {apos cpos px : Pos} {e o : Expr} {m mo : M D}
theorem U3 {K : PySem.W.Frag} {B : Bs} {w : Wd} {σ : L2.St} {H : Hp} {v : V} {f : List D → Option (List D)} {fr' : Fr} {h' : Hh} (z : JL K T B w σ H v f fr' h') : tyV K "list" v H := by
 obtain ⟨p, vs, l, l', rfl, e, _⟩ := z
 exact .inl ⟨rfl, vs, SqL.of e⟩
theorem U4 {K : PySem.W.Frag} {B : Bs} {w : Wd} {σ : L2.St} {H : Hp} {v : V} {fr' : Fr} {h' : Hh} (z : JL K T B w σ H v jr fr' h') : Rel K T B w σ H fr' h' := by
 obtain ⟨p, vs, l, l', rfl, e, r, ef, k⟩ := z
 have e1 : l = l' := Option.some.inj ef
 subst e1
 have z := k vs r
 have : upd H p (.lst vs) = H := by
  funext a
  unfold upd
  split
  · rename_i h
    rw [h, e]
  · rfl
 rw [this] at z
 exact z
theorem WP {K : PySem.W.Frag} {B : Bs} {w : Wd} {σ : L2.St} {H : Hp} {v y : V} {d : D} {fr' : Fr} {h' : Hh} {Q : VK} (z : JL K T B w σ H v (CQ d) fr' h') (ry : bA K T w y d) (q : ∀ H', Rel K T B w σ H' fr' h' → Q .non H') : rAppend v [y] H Q := by
 obtain ⟨p, vs, l, l', rfl, e, r, ef, k⟩ := z
 unfold CQ at ef
 by_cases hl : l.length < big
 · rw [if_pos hl] at ef
   cases ef
   exact ⟨p, vs, y, rfl, rfl, e, by rw [r.length]; exact Nat.lt_of_lt_of_le hl (by decide), q _ (k _ (r.append (.cons ry .nil)))⟩
 · rw [if_neg hl] at ef
   cases ef
theorem Ii (i : Nat) {x : Str} (s : aM X T W e m) (hN : X.N[i]? = some x := by rfl) (hv : Vis X.env.scope x := by first | exact Or.inl rfl | exact Or.inr (Or.inl rfl) | exact Or.inr (Or.inr rfl)) (hd : (x == ("__debug__" : Str)) = false := by decide)
 (hcd : (x == ("__classdict__" : Str)) = false := by decide)
 (hbase : attributeBase (.Name x px) "append" X.env (eval (.Name x px) X.env) = eval (.Name x px) X.env := by rfl)
 (hfew : ((backTo cpos (starEach (e :: []) X.env)).all (fun x => !x.1) && (backToKw cpos (keywordEach [] X.env)).all (fun x => x.1.isSome)
  && decide ((e :: []).length + ([] : List Keyword).length + (if ([] : List Keyword).isEmpty then 0 else 1) < 30)) = true := by rfl)
 (hline : (apos.endLine == cpos.line) = true := by rfl) (hs : starEach (e :: []) X.env = (false, eval e X.env) :: starEach [] X.env := by exact d8 rfl) (hplain : (backTo cpos (starEach [] X.env)).any (·.1) = false := by rfl) :
 aM X T W (.Call (.Attribute (.Name x px) "append" apos) [e] [] cpos) (yL i m) := fun B w σ H fr h Q R p => by
 have hh : ∃ v, σ[i]? = some (some v) := by
  cases e1 : fr[i]? with
  | none =>
    have q : aR i jr fr h = .err := by unfold aR; rw [e1]
    have p' : aO X.K T B W (vV X.K T B σ) w σ ((aR i jr).bind _ fr h) Q := p
    rw [M.bind_err q] at p'
    exact p'.elim
  | some o =>
    cases o with
    | none =>
      have q : aR i jr fr h = .err := by unfold aR; rw [e1]
      have p' : aO X.K T B W (vV X.K T B σ) w σ ((aR i jr).bind _ fr h) Q := p
      rw [M.bind_err q] at p'
      exact p'.elim
    | some d =>
      obtain ⟨v, e2, _⟩ := fW R e1
      exact ⟨v, e2⟩
 obtain ⟨v, ev⟩ := hh
 obtain ⟨fr1, h1, z1, p1⟩ := U0 (VR := vV X.K T B σ) R ev p
 have R1 := U4 z1
 refine eU (pe_bm PySem.F.plainAttrs_list PySem.F.slot_list_append PySem.F.type_list_append mt_append (pe_var hN hv hd hcd) (pa_cons aX pa_nil hs) hbase hfew hline hs hplain) ⟨v, ev, U3 z1, s B w σ H fr1 h1 _ R1 (aO.bind (VR := vV X.K T B σ) p1 fun d fr2 h2 w2 H2 y e2 l2 r2 ry p2 => ?_)⟩
 obtain ⟨fr3, h3, z3, p3⟩ := U0 (VR := vV X.K T B σ) r2 ev p2
 exact WP z3 ry fun H' R' => p3 w2 H' .non (Wd.le_refl _) R' .non
theorem RP (so : aM X T W o mo) (s : aM X T W e m)
 (hbase : attributeBase o "append" X.env (eval o X.env) = eval o X.env := by rfl)
 (hfew : ((backTo cpos (starEach (e :: []) X.env)).all (fun x => !x.1) && (backToKw cpos (keywordEach [] X.env)).all (fun x => x.1.isSome)
  && decide ((e :: []).length + ([] : List Keyword).length + (if ([] : List Keyword).isEmpty then 0 else 1) < 30)) = true := by rfl)
 (hline : (apos.endLine == cpos.line) = true := by rfl) (hs : starEach (e :: []) X.env = (false, eval e X.env) :: starEach [] X.env := by exact d8 rfl) (hplain : (backTo cpos (starEach [] X.env)).any (·.1) = false := by rfl) :
 aM X T W (.Call (.Attribute o "append" apos) [e] [] cpos) (G3 mo m) := fun B w σ H fr h Q R p => by
 refine eU (pe_bm PySem.F.plainAttrs_list PySem.F.slot_list_append PySem.F.type_list_append mt_append aX (pa_cons aX pa_nil hs) hbase hfew hline hs hplain) (so B w σ H fr h _ R (aO.bind (VR := vV X.K T B σ) p fun od fr0 h0 w0 H0 ov e0 l0 r0 ro p0 => ?_))
 obtain ⟨fr1, h1, z1, p1⟩ := RN (VR := vV X.K T B σ) r0 ro p0
 have R1 := U4 z1
 refine ⟨U3 z1, s B w0 σ H0 fr1 h1 _ R1 (aO.bind (VR := vV X.K T B σ) p1 fun d fr2 h2 w2 H2 y e2 l2 r2 ry p2 => ?_)⟩
 obtain ⟨fr3, h3, z3, p3⟩ := RN (VR := vV X.K T B σ) r2 (ro.mono l2) p2
 exact WP z3 ry fun H' R' => p3 w2 H' .non (Wd.le_refl _) R' .non
theorem abZ (so : aM X T W o mo) (hbase : attributeBase o "clear" X.env (eval o X.env) = eval o X.env := by rfl) (hline : (apos.endLine == cpos.line) = true := by rfl) :
 aM X T W (.Call (.Attribute o "clear" apos) [] [] cpos) (Oo mo) := fun B w σ H fr h Q R p => by
 refine eU (pe_bm0 PySem.F.plainAttrs_list PySem.F.slot_list_clear PySem.F.type_list_clear mt_clear aX hbase hline) (so B w σ H fr h _ R (aO.bind (VR := vV X.K T B σ) p fun od fr0 h0 w0 H0 ov e0 l0 r0 ro p0 => ?_))
 obtain ⟨fr1, h1, z1, p1⟩ := RN (VR := vV X.K T B σ) r0 ro p0
 have ty := U3 z1
 obtain ⟨p', vs, l, l', rfl, eH, r, ef, kk⟩ := z1
 cases ef
 exact ⟨ty, p', vs, rfl, rfl, eH, p1 w0 _ .non (Wd.le_refl _) (kk [] .nil) .non⟩
def Dk (i : Nat) (m mi : M D) : M Fl := m.bind fun d => (fL i).bind fun _ => mi.bind fun j => (aR i (Dj j d)).bind fun _ => M.ret .nx
def XC (mo m mi : M D) : M Fl := m.bind fun d => mo.bind fun o => mi.bind fun j => (jD o (Dj j d)).bind fun _ => M.ret .nx
end
end Pk
namespace Pk
open PySem PySem.Spec L2
section
variable {K : PySem.W.Frag} {T : Tb} {B : Bs} {w : Wd} {σ : L2.St} {H : Hp} {fr : Fr} {h : Hh}
theorem Zi {i : Nat} {v : V} {f : List D → Option (List D)} (R : Rel K T B w σ H fr h) (ev : σ[i]? = some (some v)) : aR i f fr h = .err ∨ ∃ fr' h', aR i f fr h = .ok () fr' h' ∧ JL K T B w σ H v f fr' h' := by
 cases q : aR i f fr h with
 | ok u fr' h' =>
   right
   refine ⟨fr', h', rfl, ?_⟩
   unfold aR at q
   split at q
   · rename_i l e1
     split at q
     · rename_i l' ef
       cases q
       obtain ⟨v', e2, z⟩ := fW R e1
       rw [ev] at e2
       cases e2
       cases z with
       | val r => cases r
       | own O eH r =>
         cases r with
         | lst r => exact ⟨_, _, l, l', rfl, eH, r, ef, fun vs' rs => R.change_slot ev e1 O eH rfl (.lst rs)⟩
     · cases q
   · rename_i n e1
     split at q
     · split at q
       · cases q
         obtain ⟨v', e2, z⟩ := fW R e1
         rw [ev] at e2
         cases e2
         cases z with
         | val r => exact Qp R r (by assumption) (by assumption)
         | own O eH r => cases r
       · cases q
     · cases q
   · cases q
 | exc y fr' h' =>
   exfalso
   unfold aR at q
   split at q
   · split at q <;> cases q
   · split at q
     · split at q <;> cases q
     · cases q
   · cases q
 | err => exact .inl rfl
end
section
variable {X : Cx} {T : Tb} {W : WX} {k : Nat} {pos px tpos : Pos} {e o j : Expr} {m mo mj : M D}
theorem ac2 {K : PySem.W.Frag} {B : Bs} {w : Wd} {σ : L2.St} {H : Hp} {v y u : V} {d jd : D} {fr' : Fr} {h' : Hh} {Q : Hp → Prop} (z : JL K T B w σ H v (Dj jd d) fr' h') (ry : bA K T w y d) (rj : bA K T w u jd) (q : ∀ H', Rel K T B w σ H' fr' h' → Q H') : rSetL v u y H Q := by
 obtain ⟨p, vs, l, l', rfl, e, r, ef, k⟩ := z
 unfold Dj at ef
 split at ef
 · rename_i i
   obtain ⟨n, en, rfl⟩ := Option.map_eq_some_iff.mp ef
   rw [mX rj]
   exact ⟨p, vs, i, n, rfl, rfl, e, by rw [r.length]; exact en, q _ (k _ (r.set n ry))⟩
 · cases ef
theorem U5 (i : Nat) {x : Str} (s : aM X T W e m) (sj : aM X T W j mj) (hN : X.N[i]? = some x := by rfl) (hv : Vis X.env.scope x := by first | exact Or.inl rfl | exact Or.inr (Or.inl rfl) | exact Or.inr (Or.inr rfl)) (hd : (x == ("__debug__" : Str)) = false := by decide)
 (hcd : (x == ("__classdict__" : Str)) = false := by decide)
 (ha : ∀ v, assign (.Subscript (.Name x px) j tpos) X.env v = (do
  let ov ← holding [v] (eval (.Name x px) X.env)
  let iv ← holding [v, ov] (eval j X.env)
  standAt tpos
  holding [v, ov, iv] (setItem ov iv v)
  release [v, ov, iv] []) := by intro _; rfl)
 (hs : swapsWithSole [.Subscript (.Name x px) j tpos] e pos.line X.env = pure false := by rfl) (hw : swappedStores [.Subscript (.Name x px) j tpos] e X.env = pure none := by rfl)
 (h1 : (assignEach [.Subscript (.Name x px) j tpos] X.env).map (·.2) = [assign (.Subscript (.Name x px) j tpos) X.env] := by rfl) : uA X T W (.Assign [.Subscript (.Name x px) j tpos] e pos) (Dk i m mj) := fun B w σ H fr h D R p =>
 Bh (ps_asg aX (pg_sub (pe_var hN hv hd hcd) aX set_list ha) hs hw h1) (s B w σ H fr h _ R (cW.bind (VR := vV X.K T B σ) p fun d fr1 h1 w1 H1 v e1 l1 r1 rx p1 => by
  have p1' : cW X.K T B W w1 ((fL i).bind (fun _ => mj.bind fun j => (aR i (Dj j d)).bind fun _ => M.ret .nx) fr1 h1) D := p1
  cases es : fr1[i]? with
  | none =>
    have q : fL i fr1 h1 = .err := by unfold fL; rw [es]
    rw [M.bind_err q] at p1'
    exact p1'.elim
  | some os =>
    cases os with
    | none =>
      have q : fL i fr1 h1 = .err := by unfold fL; rw [es]
      rw [M.bind_err q] at p1'
      exact p1'.elim
    | some ds =>
      have q : fL i fr1 h1 = .ok () fr1 h1 := by unfold fL; rw [es]
      rw [M.bind_ok q] at p1'
      obtain ⟨ov, ev, _⟩ := fW r1 es
      refine ⟨ov, ev, sj B w1 σ H1 fr1 h1 _ r1 (cW.bind (VR := vV X.K T B σ) p1' fun jd fr2 h2 w2 H2 jv e2 l2 r2 rj p2 => ?_)⟩
      have p2' : cW X.K T B W w2 ((aR i (Dj jd d)).bind (fun _ => M.ret .nx) fr2 h2) D := p2
      rcases Zi (f := Dj jd d) r2 ev with q | ⟨fr3, h3, q, z⟩
      · rw [M.bind_err q] at p2'
        exact p2'.elim
      · rw [M.bind_ok q] at p2'
        exact ac2 z (rx.mono l2) rj fun H' R' => p2' w2 σ H' (Wd.le_refl _) R'))
def cD (m : M D) : M D := m.bind fun d fr h => if d.own then .ok (.ref h.length) fr (h ++ [d]) else .err
theorem yf (s : xO X T W e m) : aM X T W e (cD m) := fun B w σ H fr h Q R p => s B w σ H fr h Q R (aO.bind (VR := vE X.K T B σ) p fun d fr1 h1 w1 H1 v e1 l1 r1 rx p1 => by
 rcases rx with rx | ⟨q, o, rfl, O, lo, eH, rd⟩
 · have p1' : aO X.K T B W (vV X.K T B σ) w1 σ (if d.own then .ok (.ref h1.length) fr1 (h1 ++ [d]) else .err) Q := p1
   rw [La rx] at p1'
   exact (show False from p1').elim
 · have p1' : aO X.K T B W (vV X.K T B σ) w1 σ (if d.own then .ok (.ref h1.length) fr1 (h1 ++ [d]) else .err) Q := p1
   rw [rd.own] at p1'
   have R2 := r1.to_cell O lo eH rd
   exact p1' ⟨w1.F, w1.I ++ [q]⟩ H1 (.ref q) ⟨fun _ _ z => z, [q], rfl⟩ R2 (.ref (by
    rw [← r1.len]
    show (w1.I ++ [q])[w1.I.length]? = some q
    rw [ahu (Nat.le_refl _), Nat.sub_self]
    rfl)))
theorem QW {α : Type} {f : Str} : ∀ {fs : List Str} {vs : List α} {i : Nat}, fs.Nodup → fs[i]? = some f → (fs.zip vs).lookup f = vs[i]?
 | [], _, _, _, e => by simp at e
 | g :: fs, [], i, _, _ => by simp
 | g :: fs, v :: vs, 0, _, e => by
   simp at e
   subst e
   simp [aha]
 | g :: fs, v :: vs, i + 1, n, e => by
   have hf : f ∈ fs := ahd (by simpa using e)
   have hne : (f == g) = false := by
    rw [beq_eq_false_iff_ne]
    rintro rfl
    exact (List.nodup_cons.mp n).1 hf
   show aha f ((g, v) :: fs.zip vs) = (v :: vs)[i + 1]?
   rw [List.lookup_cons, hne]
   show (fs.zip vs).lookup f = _
   rw [QW (List.nodup_cons.mp n).2 (by simpa using e)]
   simp
theorem U6 {f : Str} {y : V} : ∀ {fs : List Str} {vs : List V} {i : Nat}, fs.Nodup → fs[i]? = some f → i ≤ vs.length → putF f y (fs.zip vs) = fs.zip (if i < vs.length then vs.set i y else vs ++ [y])
 | [], _, _, _, e, _ => by simp at e
 | g :: fs, [], i, _, e, hl => by
   have h0 : i = 0 := by simpa using hl
   subst h0
   simp at e
   subst e
   simp [putF]
 | g :: fs, v :: vs, 0, _, e, _ => by
   simp at e
   subst e
   show putF g y ((g, v) :: fs.zip vs) = _
   unfold putF
   rw [if_pos rfl, if_pos (show 0 < (v :: vs).length from Nat.succ_pos _)]
   rfl
 | g :: fs, v :: vs, i + 1, n, e, hl => by
   have hf : f ∈ fs := ahd (by simpa using e)
   have hne : ¬ g = f := by
    rintro rfl
    exact (List.nodup_cons.mp n).1 hf
   show putF f y ((g, v) :: fs.zip vs) = _
   unfold putF
   rw [if_neg hne, U6 (List.nodup_cons.mp n).2 (i := i) (by simpa using e) (by simpa using hl)]
   by_cases h : i < vs.length
   · rw [if_pos h, if_pos (by simpa using h)]
     rfl
   · rw [if_neg h, if_neg (by simpa using h)]
     rfl
structure M4 (X : Cx) (T : Tb) (f : Str) (ix : Nat → Option Nat) : Prop where
 cls : ∀ c i, ix c = some i → Cls X.K (T.cad c)
 na : ∀ c i, ix c = some i → NoAttr X.K (T.cad c) f
 nd : ∀ c i, ix c = some i → (T.fld c).Nodup ∧ (T.fld c).length < 1000
 at_ : ∀ c i, ix c = some i → (T.fld c)[i]? = some f
def D.ins (h : Hh) (d : D) : Option (Nat × List D) := match d.der h with
 | .obj c fs => some (c, fs)
 | .no c fs => some (c, fs)
 | _ => none
def tX (ix : Nat → Option Nat) (h : Hh) (d : D) : Option D := match d.ins h with
 | some (c, fs) => match ix c with
   | some i => fs[i]?
   | none => none
 | none => none
theorem WQ {K : PySem.W.Frag} {B : Bs} {w : Wd} {σ : L2.St} {H : Hp} {fr : Fr} {h : Hh} {v : V} {d : D} {c : Nat} {fs : List D} (R : Rel K T B w σ H fr h) (z : vO K T B σ w H fr v d) (e : d.ins h = some (c, fs)) :
 ∃ a dx vs, v = .ref a ∧ H a = some (.ins (T.cad c) dx ((T.fld c).zip vs)) ∧ au K T w vs fs := by
 rcases z with z | ⟨p, o, rfl, eH, z⟩
 · cases z with
   | obj s r =>
     cases e
     exact ⟨_, _, _, rfl, R.sub _ _ s, r⟩
   | @ref a n s =>
     have ln : n < h.length := by
      rw [← R.len]
      exact (List.getElem?_eq_some_iff.mp s).1
     obtain ⟨o, q, rr⟩ := R.cel n a h[n] s (ag1 ln)
     have e0 : D.der h (.ref n) = h[n] := by
      unfold D.der
      dsimp only
      rw [ag1 ln]
      rfl
     unfold D.ins at e
     rw [e0] at e
     generalize h[n] = cc at rr e
     cases rr with
     | lst r => cases e
     | dct _ r => cases e
     | dkt _ r => cases e
     | obj r =>
       cases e
       exact ⟨_, _, _, rfl, q, r⟩
   | _ => cases e
 · cases z with
   | lst r => cases e
   | obj r =>
     cases e
     exact ⟨_, _, _, rfl, eH, r⟩
theorem Hl {f : Str} {ix : Nat → Option Nat} (F : M4 X T f ix) (s : Le X T W o mo) (hb : attributeBase o f X.env (eval o X.env) = eval o X.env := by rfl) : aM X T W (.Attribute o f pos) (aC (tX ix) mo) := fun B w σ H fr h Q R p =>
 eU (pe_fld aX hb) (s B w σ H fr h _ R (aO.bind (VR := vO X.K T B σ) p fun d fr1 h1 w1 H1 v e1 l1 r1 rx p1 => by
  have p1' : aO X.K T B W (vV X.K T B σ) w1 σ (M.opt (tX ix h1 d) fr1 h1) Q := p1
  cases q : tX ix h1 d with
  | none => rw [q] at p1'; exact p1'.elim
  | some z =>
    rw [q] at p1'
    unfold tX at q
    split at q
    · rename_i c fs ei
      split at q
      · rename_i i ec
        obtain ⟨a, dx, vs, rfl, eH, rs⟩ := WQ r1 rx ei
        obtain ⟨v, ev, rv⟩ := rs.get q
        exact ⟨a, _, dx, _, v, rfl, eH, F.cls c i ec, F.na c i ec, by rw [QW (F.nd c i ec).1 (F.at_ c i ec)]; exact ev, p1' w1 H1 v (Wd.le_refl _) r1 rv⟩
      · cases q
    · cases q))
def uw (i : Nat) (d : D) (fs : List D) : Option (List D) := if i ≤ fs.length then some (if i < fs.length then fs.set i d else fs ++ [d]) else none
def Ax (j : Nat) (ix : Nat → Option Nat) (d : D) : M Unit := fun fr h => match fr[j]? with
 | some (some (.no c fs)) => match ix c with
   | some i => match uw i d fs with
     | some fs' => .ok () (fr.set j (some (.no c fs'))) h
     | none => .err
   | none => .err
 | some (some (.ref n)) => match h[n]? with
   | some (.no c fs) => match ix c with
     | some i => match uw i d fs with
       | some fs' => .ok () fr (h.set n (.no c fs'))
       | none => .err
     | none => .err
   | _ => .err
 | _ => .err
def yg (j : Nat) (ix : Nat → Option Nat) (m : M D) : M Fl := m.bind fun d => (Ax j ix d).bind fun _ => M.ret .nx
theorem Zj {K : PySem.W.Frag} {w : Wd} {f : Str} {c i : Nat} {fs fs' : List D} {vs : List V} {y : V} {d : D} (nd : (T.fld c).Nodup) (at_ : (T.fld c)[i]? = some f) (rs : au K T w vs fs) (ry : bA K T w y d) (e : uw i d fs = some fs') :
 ∃ vs', putF f y ((T.fld c).zip vs) = (T.fld c).zip vs' ∧ au K T w vs' fs' := by
 unfold uw at e
 by_cases hi : i ≤ fs.length
 · rw [if_pos hi] at e
   cases e
   refine ⟨_, U6 nd at_ (by rw [rs.length]; exact hi), ?_⟩
   rw [rs.length]
   by_cases hl : i < fs.length
   · rw [if_pos hl, if_pos hl]
     exact rs.set i ry
   · rw [if_neg hl, if_neg hl]
     exact rs.append (.cons ry .nil)
 · rw [if_neg hi] at e
   cases e
theorem Fd (j : Nat) {x f : Str} {ix : Nat → Option Nat} (F : M4 X T f ix) (s : aM X T W e m) (hs : swapsWith e (some (.Attribute (.Name x px) f tpos)) pos.line X.env = pure false := by rfl)
 (hN : X.N[j]? = some x := by rfl) (hv : Vis X.env.scope x := by first | exact Or.inl rfl | exact Or.inr (Or.inl rfl) | exact Or.inr (Or.inr rfl)) (hd : (x == ("__debug__" : Str)) = false := by decide)
 (hcd : (x == ("__classdict__" : Str)) = false := by decide) : uA X T W (.Assign [.Attribute (.Name x px) f tpos] e pos) (yg j ix m) := fun B w σ H fr h D R p =>
 Bh (ps_fld (pe_var hN hv hd hcd) aX hs) (s B w σ H fr h _ R (cW.bind (VR := vV X.K T B σ) p fun d fr1 h1 w1 H1 y e1 l1 r1 ry p1 => by
  have p1' : cW X.K T B W w1 ((Ax j ix d).bind (fun _ => M.ret .nx) fr1 h1) D := p1
  have fin : ∀ {c i : Nat} {a dx : Addr} {vs : List V} {fs fs' : List Pk.D}, ix c = some i → H1 a = some (.ins (T.cad c) dx ((T.fld c).zip vs)) → au X.K T w1 vs fs → uw i d fs = some fs' → (∀ vs', au X.K T w1 vs' fs' → D.nx σ (upd H1 a (.ins (T.cad c) dx ((T.fld c).zip vs')))) → σ[j]? = some (some (.ref a)) →
   ∃ v, σ[j]? = some (some v) ∧ ∃ a C dx fs, v = .ref a ∧ H1 a = some (.ins C dx fs) ∧ Cls X.K C ∧ NoAttr X.K C f ∧ fs.length < 1000 ∧ D.nx σ (upd H1 a (.ins C dx (putF f y fs))) := fun {c i a dx vs fs fs'} ec eH rs ep kk es => by
   obtain ⟨vs', e1, rs'⟩ := Zj (F.nd c i ec).1 (F.at_ c i ec) rs ry ep
   refine ⟨_, es, a, _, dx, _, rfl, eH, F.cls c i ec, F.na c i ec, ?_, ?_⟩
   · rw [List.length_zip]
     have := (F.nd c i ec).2
     omega
   · rw [e1]
     exact kk vs' rs'
  cases q : Ax j ix d fr1 h1 with
  | err => rw [M.bind_err q] at p1'; exact p1'.elim
  | exc z fr2 h2 =>
    exfalso
    unfold Ax at q
    repeat' (first | (split at q) | (cases q))
  | ok u fr2 h2 =>
    rw [M.bind_ok q] at p1'
    have p2 : ∀ w' σ' H', w1.le w' → Rel X.K T B w' σ' H' fr2 h2 → D.nx σ' H' := p1'
    unfold Ax at q
    split at q
    · rename_i c fs es
      split at q
      · rename_i i ec
        split at q
        · rename_i fs' ep
          cases q
          obtain ⟨v, e2, z⟩ := fW r1 es
          cases z with
          | val r => cases r
          | own O eH r =>
            cases r with
            | obj r => exact fin ec eH r ep (fun vs' rs' => p2 w1 σ _ (Wd.le_refl _) (r1.change_slot e2 es O eH rfl (.obj rs'))) e2
        · cases q
      · cases q
    · rename_i n es
      split at q
      · rename_i c fs en
        split at q
        · rename_i i ec
          split at q
          · rename_i fs' ep
            cases q
            obtain ⟨v, e2, z⟩ := fW r1 es
            cases z with
            | val r =>
              cases r with
              | ref sI =>
                obtain ⟨o, qo, rr⟩ := r1.cel n _ _ sI en
                cases rr with
                | obj r => exact fin ec qo r ep (fun vs' rs' => p2 w1 σ _ (Wd.le_refl _) (r1.change_cell sI en (.obj rs'))) e2
            | own O eH r => cases r
          · cases q
        · cases q
      · cases q
    · cases q))
end
end Pk
namespace Pk
open PySem PySem.Spec L2
abbrev Fn := List D → Hh → R D
def startF (n : Nat) (ds : List D) : Fr := ds.map some ++ List.replicate (n - ds.length) none
def du (n : Nat) (m : M Fl) : Fn := fun ds h => match m (startF n ds) h with
 | .ok (.rt d) _ h => .ok d [] h
 | .ok .nx _ h => .ok .non [] h
 | .ok _ _ _ => .err
 | .exc x _ h => .exc x [] h
 | .err => .err
def runI (c n : Nat) (m : M Fl) : Fn := fun ds h => match m (startF n (.no c [] :: ds)) h with
 | .ok .nx fr h => match (fr : Fr)[0]? with
   | some (some (D.no c' fs)) => if c' = c then .ok (.no c fs) [] h else .err
   | _ => .err
 | .ok _ _ _ => .err
 | .exc x _ h => .exc x [] h
 | .err => .err
def spF (K : PySem.W.Frag) (T : Tb) (n : Nat) (F : Fn) : Sp := fun vs H Q E => ∃ w h ds, Rel K T (Bs.of w H) w [] H [] h ∧ au K T w vs ds ∧ ds.length = n ∧ aO K T (Bs.of w H) (fun c d _ H' => E c d H') (vE K T (Bs.of w H) []) w [] (F ds h) Q
def vN (K : PySem.W.Frag) (T : Tb) (w : Wd) (G : Hp) (x : Addr) (w' : Wd) (H' : Hp) (_ : Fr) (v : V) (d : D) : Prop := v = .non ∧ Own (Bs.of w G) w' x ∧ ∃ o, H' x = some o ∧ xZ K T w' o d
def spI (K : PySem.W.Frag) (T : Tb) (c n : Nat) (F : Fn) : Sp := fun vs H Q E => ∃ w h ds G x dx us, vs = .ref x :: us ∧ G x = none ∧ H = upd G x (.ins (T.cad c) dx []) ∧ Rel K T (Bs.of w G) w [] G [] h ∧ au K T w us ds ∧ ds.length + 1 = n ∧
 aO K T (Bs.of w G) (fun c d _ H' => E c d H') (vN K T w G x) w [] (F ds h) Q
section
variable {K : PySem.W.Frag} {T : Tb} {B : Bs} {w w' : Wd} {σ : L2.St} {H H' : Hp} {fr : Fr} {h : Hh}
theorem Mh {n : Nat} {ds : List D} (hl : ds.length ≤ n) : (startF n ds).length = n := by
 unfold startF
 rw [ag4, agZ, List.length_replicate]
 omega
theorem Hm {n i : Nat} {ds : List D} {d : D} (e : (startF n ds)[i]? = some (some d)) : ds[i]? = some d := by
 unfold startF at e
 by_cases hi : i < ds.length
 · rw [ahw (by simpa using hi), ahx] at e
   cases q : ds[i]? with
   | none => rw [q] at e; cases e
   | some a => rw [q] at e; cases e; rfl
 · rw [ahu (by simpa using hi), List.getElem?_replicate] at e
   split at e <;> cases e
theorem U7 {N : List Str} {vs : List V} {i : Nat} {v : V} (e : vs[i]? = some v) : (L2.start N vs)[i]? = some (some v) := by
 unfold L2.start
 have hi : i < vs.length := (List.getElem?_eq_some_iff.mp e).1
 rw [ahw (by simpa using hi), ahx, e]
 rfl
theorem Tq {N : List Str} {vs : List V} (hl : vs.length ≤ N.length) : (L2.start N vs).length = N.length := by
 unfold L2.start
 rw [ag4, agZ, List.length_replicate]
 omega
theorem Rel.start (R : Rel K T B w [] H [] h) {N : List Str} {vs : List V} {ds : List D} (rs : au K T w vs ds) (hl : ds.length ≤ N.length) : Rel K T B w (L2.start N vs) H (startF N.length ds) h :=
 { R with
   me := fun x d bx e od => by
    obtain ⟨v, ev, rv⟩ := rs.get (Hm e)
    exact (Bg od rv).elim
   fl := by rw [Mh hl, Tq (by rw [rs.length]; exact hl)]
   sl := fun i s d e1 e2 => by
    cases d with
    | none => exact .none
    | some d =>
      obtain ⟨v, ev, rv⟩ := rs.get (Hm e2)
      rw [U7 ev] at e1
      cases e1
      exact .val rv
   sep := fun i j p hij ⟨_, d, e, od⟩ _ => by
    obtain ⟨v, ev, rv⟩ := rs.get (Hm e)
    exact Bg od rv }
theorem Rel.startI (R : Rel K T B w [] H [] h) {N : List Str} {x dx : Addr} {c : Nat} {vs : List V} {ds : List D} (hB : B.me = some x) (nx : H x = none) (rs : au K T w vs ds) (hl : ds.length + 1 ≤ N.length) :
 Rel K T B w (L2.start N (.ref x :: vs)) (upd H x (.ins (T.cad c) dx [])) (startF N.length (.no c [] :: ds)) h := by
 have R1 : Rel K T B w [] (upd H x (.ins (T.cad c) dx [])) [] h := R.temp nx
 have O : Own B w x := R.own_new nx
 have sl : ∀ (i : Nat) s d, (L2.start N (.ref x :: vs))[i]? = some s → (startF N.length (.no c [] :: ds))[i]? = some d → Ld K T B w (upd H x (.ins (T.cad c) dx [])) s d := fun i s d e1 e2 => by
  cases d with
  | none => exact .none
  | some d =>
    have q := Hm e2
    cases i with
    | zero =>
      cases q
      cases e1
      exact .own O upd_same (by
       have z : xZ K T w (.ins (T.cad c) dx ((T.fld c).zip [])) (.no c []) := .obj .nil
       rw [List.zip_nil_right] at z
       exact z)
    | succ i =>
      obtain ⟨v, ev, rv⟩ := rs.get (show ds[i]? = some d from q)
      have e3 : (L2.start N (.ref x :: vs))[i + 1]? = some (some v) := U7 (show (V.ref x :: vs)[i + 1]? = some v from ev)
      rw [e3] at e1
      cases e1
      exact .val rv
 have hown : ∀ (i : Nat) d, (startF N.length (.no c [] :: ds))[i]? = some (some d) → d.own = true → i = 0 := fun i d e od => by
  cases i with
  | zero => rfl
  | succ i =>
    have q := Hm e
    obtain ⟨v, ev, rv⟩ := rs.get (show ds[i]? = some d from q)
    exact (Bg od rv).elim
 refine { R1 with fl := ?_, sl := sl, sep := fun i j p hij ⟨_, d, e, od⟩ ⟨_, d', e', od'⟩ => hij ((hown i d e od).trans (hown j d' e' od').symm), me := fun y d bx e od => ?_ }
 · rw [Mh (by simpa using hl), Tq (by rw [ag3, rs.length]; exact hl)]
 · have bx' : some x = some y := hB.symm.trans bx
   cases bx'
   rfl
theorem Rel.unme {m : Option Addr} {w0 : Wd} {G : Hp} (R : Rel K T ⟨w0, G, [], m⟩ w [] H [] h) : Rel K T (Bs.of w0 G) w [] H [] h := { R with me := (fun _ _ _ q _ => by simp at q), sl := fun _ _ _ q => by simp at q }
theorem Rel.ofme {x : Addr} {w0 : Wd} {G : Hp} (R : Rel K T (Bs.of w0 G) w [] H [] h) : Rel K T ⟨w0, G, [], some x⟩ w [] H [] h := { R with me := (fun _ _ _ q _ => by simp at q), sl := fun _ _ _ q => by simp at q }
end
section
variable {P : Program} {w : World} {K : PySem.W.Frag} {mg : Str → Option Value} {base : Heap} {T : Tb} {k : Nat} {x qual : Str} {params : Arguments} {body : List Stmt} {scope : Scope} {dvs : List V} {kws : List (Str × V)} {f : Addr} {fd : FuncData} {N ps : List Str}
abbrev Cxd (P : Program) (w : World) (K : PySem.W.Frag) (mg : Str → Option Value) (base : Heap) (N : List Str) (qual : Str) (scope : Scope) (f : Addr) (cdv : Value) (A : Around) (outer : List Env) (s : Shared) (H : Hp) (E : XK) : Cx := cxOf (L2.CX P w) P w K mg base N qual scope f cdv A outer s H E
def WX.up (E : XK) : WX := fun c d _ H' => E c d H'
def Does (P : Program) (w : World) (K : PySem.W.Frag) (mg : Str → Option Value) (base : Heap) (T : Tb) (k : Nat) (N : List Str) (qual : Str) (scope : Scope) (body : List Stmt) (m : M Fl) : Prop :=
 ∀ (f : Addr) (cdv : Value) (A : Around) (outer : List Env) (s : Shared) (H : Hp) (E : XK), Cq (Cxd P w K mg base N qual scope f cdv A outer s H E) T (WX.up E) k → CJ (Cxd P w K mg base N qual scope f cdv A outer s H E) T (WX.up E) body m
theorem abn (S : FnScope N ps scope) {cdv : Value} {A : Around} {outer : List Env} {s : Shared} {H : Hp} {E : XK} (hr : Room k (A.deeper (PyProof.Rows.envOfC qual scope s.heap.objs.size f cdv))) : Cq (Cxd P w K mg base N qual scope f cdv A outer s H E) T (WX.up E) k :=
 ⟨rfl, S.nd, hr, takes_of rfl rfl rfl rfl, passes_of rfl⟩
theorem fn_sim (F : FunD K x qual params body scope dvs kws f fd) (S : FnScope N ps scope) {m : M Fl} (dm : Does P w K mg base T k N qual scope body m) : FnOk P w K mg base (L2.CX P w) (k + 1) f fd ps (spF K T ps.length (du N.length m)) := by
 refine F.ok S (fun vs H Q E ⟨w, h, ds, _, rs, hl, _⟩ => rs.length.trans hl) fun cdv A outer s H vs Q E hr ⟨w, h, ds, R, rs, hl, post⟩ => ⟨Wy _ body, Ey, ?_⟩
 have hpl : ps.length ≤ N.length := by
  have := congrArg List.length S.pre
  rw [List.length_take] at this
  omega
 refine dm f cdv A outer s H E (abn S hr) (Bs.of w H) w _ H (startF N.length ds) h _ (R.start rs (by rw [hl]; exact hpl)) ?_
 unfold du at post
 cases e : m (startF N.length ds) h with
 | ok fl fr h' =>
   rw [e] at post
   cases fl with
   | nx => exact fun w' σ' H' l R' => post w' H' .non l R'.unframe (.inl .non)
   | rt d => exact fun w' σ' H' v l R' rv => post w' H' v l R'.unframe (by
    rcases rv with rv | ⟨p, o, rfl, O, lo, eH, rd⟩
    · exact .inl rv
    · exact .inr ⟨p, o, rfl, O, fun i => QL, eH, rd⟩)
   | brk => exact post.elim
   | ct => exact post.elim
 | exc y fr h' =>
   rw [e] at post
   exact fun w' σ' H' c dd l R' z => post w' H' c dd l R'.unframe z
 | err => rw [e] at post; exact post
theorem ab0 (c : Nat) (F : FunD K x qual params body scope dvs kws f fd) (S : FnScope N ps scope) {m : M Fl} (dm : Does P w K mg base T k N qual scope body m) : FnOk P w K mg base (L2.CX P w) (k + 1) f fd ps (spI K T c ps.length (runI c N.length m)) := by
 refine F.ok S (fun vs H Q E ⟨w, h, ds, G, x, dx, us, ev, _, _, _, rs, hl, _⟩ => by rw [ev, ag3, rs.length]; exact hl) fun cdv A outer s H vs Q E hr ⟨w, h, ds, G, x, dx, us, ev, nx, eH, R, rs, hl, post⟩ => ⟨Wy _ body, Ey, ?_⟩
 have hpl : ps.length ≤ N.length := by
  have := congrArg List.length S.pre
  rw [List.length_take] at this
  omega
 subst ev eH
 refine dm f cdv A outer s _ E (abn S hr) ⟨w, G, [], some x⟩ w _ _ (startF N.length (.no c [] :: ds)) h _ (R.ofme.startI rfl nx rs (by rw [hl]; exact hpl)) ?_
 unfold runI at post
 cases e : m (startF N.length (.no c [] :: ds)) h with
 | ok fl fr h' =>
   rw [e] at post
   cases fl with
   | nx =>
     intro w' σ' H' l R'
     dsimp only at post
     cases e0 : (fr : Fr)[0]? with
     | none => rw [e0] at post; exact post.elim
     | some od =>
       rw [e0] at post
       cases od with
       | none => exact post.elim
       | some d =>
         cases d with
         | no c' fs =>
           dsimp only at post
           by_cases hc : c' = c
           · rw [if_pos hc] at post
             subst hc
             have s0 := R'.me x _ rfl e0 rfl
             obtain ⟨v, ev, z⟩ := fW R' e0
             rw [s0] at ev
             cases ev
             cases z with
             | val r => cases r
             | own O eH r => exact post w' H' .non l R'.unframe.unme ⟨rfl, ⟨O.f, O.i, O.e, fun q hq => by cases hq⟩, _, eH, r⟩
           · rw [if_neg hc] at post
             exact post.elim
         | _ => exact post.elim
   | rt d => exact post.elim
   | brk => exact post.elim
   | ct => exact post.elim
 | exc y fr h' =>
   rw [e] at post
   exact fun w' σ' H' c dd l R' z => post w' H' c dd l R'.unframe.unme z
 | err => rw [e] at post; exact post
end
end Pk
namespace Pk
open PySem PySem.Spec L2
structure WKw (X : Cx) (kws : List Keyword) (σ : L2.St) (H : Hp) (Q : List V → Hp → Prop) : Prop where
 go : ∀ pos pins s, Inv X pins σ H s → wpAny (model X.prog X.w) X.A (evalAll ((backToKw pos (keywordEach kws X.env)).map (·.2))) (AP X pins σ Q) X.xe s
theorem ac5 {X : Cx} {kws : List Keyword} : PK X kws (WKw X kws) := ⟨fun pos pins s σ H Q I h => h.go pos pins s I⟩
theorem abo {X : Cx} {kws : List Keyword} {t : TA} (p : PK X kws t) {σ : L2.St} {H : Hp} {Q : List V → Hp → Prop} (h : t σ H Q) : WKw X kws σ H Q := ⟨fun pos pins s I => p.run pos pins s σ H Q I h⟩
abbrev XD (X : Cx) (T : Tb) (W : WX) (kws : List Keyword) (m : M (List D)) : Prop := eE (WKw X kws) X.K T W vA m
section
variable {X : Cx} {T : Tb} {W : WX} {e : Expr} {kws : List Keyword} {m : M D} {ms : List (M D)} {nm : Option Str} {kpos : Pos}
theorem U8 : XD X T W [] (ao []) := fun B w σ H fr h Q r1 p => abo pk_nil (p w H _ (Wd.le_refl _) r1 .nil)
theorem yh (s : aM X T W e m) (t : XD X T W kws (ao ms)) : XD X T W (⟨nm, e, kpos⟩ :: kws) (ao (m :: ms)) := fun B w σ H fr h Q r1 p =>
 abo (pk_cons aX ac5) (s B w σ H fr h _ r1 (aO.bind (VR := vV X.K T B σ) p fun d fr1 h1 w1 H1 x e1 l1 r1 rx p1 =>
  t B w1 σ H1 fr1 h1 _ r1 (aO.bind (VR := vA X.K T B σ) p1 fun ds fr2 h2 w2 H2 vs e2 l2 r2 rs p2 => p2 w2 H2 _ (Wd.le_refl _) r2 (.cons (rx.mono l2) rs))))
end
def bZ (fr : Fr) : R D → R D
 | .ok d _ h => .ok d fr h
 | .exc x _ h => .exc x fr h
 | .err => .err
theorem WR {K : PySem.W.Frag} {T : Tb} {B : Bs} {W : WX} {w : Wd} {σ : L2.St} {H : Hp} {fr : Fr} {h : Hh} {n : Nat} {F : Fn} {vs : List V} {ds : List D} {Q : VK} (R : Rel K T B w σ H fr h) (rs : au K T w vs ds) (hl : ds.length = n)
 (p : aO K T B W (vE K T B σ) w σ (bZ fr (F ds h)) Q) : spF K T n F vs H Q (fun c d H' => W c d σ H') := by
 refine ⟨w, h, ds, R.enter, rs, hl, ?_⟩
 cases e : F ds h with
 | ok d fr' h' =>
   rw [e] at p
   intro w' H' v l R' rv
   have ef : fr' = [] := by
    have := R'.fl
    exact List.length_eq_zero_iff.mp this
   subst ef
   have R2 := R.back l R'
   refine p w' H' v l R2 ?_
   rcases rv with rv | ⟨q, o, rfl, O, lo, eH, rd⟩
   · exact .inl rv
   · have nq : H q = none := O.e
     refine .inr ⟨q, o, rfl, ⟨O.f, O.i, (R.own_new nq).e, (R.own_new nq).p⟩, fun i z => R.loose_new nq i z, eH, rd⟩
 | exc y fr' h' =>
   rw [e] at p
   intro w' H' c dd l R' z
   have ef : fr' = [] := by
    have := R'.fl
    exact List.length_eq_zero_iff.mp this
   subst ef
   exact p w' H' c dd l (R.back l R') z
 | err => rw [e] at p; exact p
theorem Z7 {K : PySem.W.Frag} {T : Tb} {B : Bs} {W : WX} {w : Wd} {σ : L2.St} {H : Hp} {fr : Fr} {h : Hh} {n c : Nat} {F : Fn} {vs : List V} {ds : List D} {Q : VK} {x dx : Addr} (R : Rel K T B w σ H fr h) (rs : au K T w vs ds) (hl : ds.length + 1 = n)
 (nx : H x = none) (nd : H dx = none) (ne : dx ≠ x)
 (p : aO K T B W (vE K T B σ) w σ (bZ fr (F ds h)) Q) : spI K T c n F (.ref x :: vs) (upd (upd H dx (.own x)) x (.ins (T.cad c) dx [])) (fun v H2 => v = .non ∧ Q (.ref x) H2) (fun c d H' => W c d σ H') := by
 have R1 : Rel K T B w σ (upd H dx (.own x)) fr h := R.temp nd
 have nx1 : (upd H dx (.own x)) x = none := by rw [upd_ne (Ne.symm ne)]; exact nx
 refine ⟨w, h, ds, upd H dx (.own x), x, dx, vs, rfl, nx1, rfl, R1.enter, rs, hl, ?_⟩
 cases e : F ds h with
 | ok d fr' h' =>
   rw [e] at p
   intro w' H' v l R' ⟨ev, O, o, eH, rd⟩
   have ef : fr' = [] := by
    have := R'.fl
    exact List.length_eq_zero_iff.mp this
   subst ef
   exact ⟨ev, p w' H' (.ref x) l (R1.back l R') (.inr ⟨x, o, rfl, ⟨O.f, O.i, (R1.own_new nx1).e, (R1.own_new nx1).p⟩, fun i z => R1.loose_new nx1 i z, eH, rd⟩)⟩
 | exc y fr' h' =>
   rw [e] at p
   intro w' H' c dd l R' z
   have ef : fr' = [] := by
    have := R'.fl
    exact List.length_eq_zero_iff.mp this
   subst ef
   exact p w' H' c dd l (R1.back l R') z
 | err => rw [e] at p; exact p
structure Bn (K : PySem.W.Frag) (T : Tb) (fd : FuncData) (ps : List Str) (n : Nat) (ks : List Str) (gD : List D → List D → List D) : Prop where
 ex : ∃ (g : List Value → List Value → List Value) (gV : List V → List V → List V), KBn K fd ps n ks g gV ∧
  ∀ (w : Wd) (vs zs : List V) (ds es : List D), au K T w vs ds → au K T w zs es → ds.length = n → es.length = ks.length → au K T w (gV vs zs) (gD ds es) ∧ (gD ds es).length = ps.length
def aK (dfl : List D) (ds _ : List D) : List D := ds ++ dfl
structure u6 (P : Program) (w : World) (K : PySem.W.Frag) (mg : Str → Option Value) (base : Heap) (T : Tb) (k : Nat) (f : Addr) (fd : FuncData) (ps : List Str) (F : Fn) : Prop where
 ok : FnOk P w K mg base (L2.CX P w) k f fd ps (spF K T ps.length F)
 kp : PySem.W.keepIn K (.ref f) = true
structure FnI (P : Program) (w : World) (K : PySem.W.Frag) (mg : Str → Option Value) (base : Heap) (T : Tb) (k c : Nat) (f : Addr) (fd : FuncData) (ps : List Str) (F : Fn) : Prop where
 ok : FnOk P w K mg base (L2.CX P w) k f fd ps (spI K T c ps.length F)
 made : Mk K (T.cad c) f
def aH (n m : Nat) (F : Fn) (gD : List D → List D → List D) (ma mk : M (List D)) : M D := ma.bind fun ds => mk.bind fun es fr h => if ds.length = n ∧ es.length = m then bZ fr (F (gD ds es) h) else .err
theorem uf {K : PySem.W.Frag} {T : Tb} {fd : FuncData} {ps : List Str} (h : Binds K fd ps []) : Bn K T fd ps ps.length [] (aK []) :=
 ⟨fun us _ => us, fun vs _ => vs, ⟨fun s us ws X l1 _ => by
  have b := h s us X (by rw [ag5]; exact l1)
  rw [ag5] at b
  exact b, fun r _ => r⟩, fun w vs zs ds es rs _ hl _ => ⟨by
   show au K T w vs (ds ++ [])
   rw [ag5]
   exact rs, by
   show (ds ++ []).length = _
   rw [ag5]
   exact hl⟩⟩
section
variable {X : Cx} {T : Tb} {W : WX} {k kk n : Nat} {f C : Addr} {fd : FuncData} {ps ks : List Str} {F : Fn} {x m : Str} {p pos apos : Pos} {e o : Expr} {es : List Expr} {kws : List Keyword} {mo : M D} {ma mk : M (List D)} {gD : List D → List D → List D}
theorem ab1 {pins : List (Addr × Obj)} {σ : L2.St} {H : Hp} {s : Shared} {Q : VK} {us ws : List Value} {vs zs : List V} {g : List Value → List Value → List Value} {gV : List V → List V → List V} {sp : Sp} (F : FnOk X.prog X.w X.K X.mg X.base (L2.CX X.prog X.w) kk f fd ps sp) (hr : Room kk X.A) (hb : KBn X.K fd ps n ks g gV) (tk : Takes X W)
 (I : Inv X pins σ H s) (r : Vals vs us) (rz : Vals zs ws) (l1 : vs.length = n) (l2 : zs.length = ks.length) (h : sp (gV vs zs) H Q (fun c d H' => W c d σ H')) : wpAny (model X.prog X.w) X.A (call (.ref f) us (ks.zip ws)) (EP X pins σ Q) X.xe s := by
 have r2 := hb.rel r rz
 refine wpAny_call (codeAny_mono (F.run X.A X.stack s H ⟨us, ks.zip ws⟩ (g us ws) (gV vs zs) Q _ hr I.env0 (hb.to s us ws I.kIn (r.length.symm.trans l1) (rz.length.symm.trans l2)) r2 h) fun r s' hq => ?_)
 cases r with
 | error e => exact passAt tk σ pins H s e s' I hq
 | ok fl =>
   cases fl with
   | ret u => exact I.after hq
   | next => exact False.elim hq
   | brk => exact False.elim hq
   | cont => exact False.elim hq
theorem run_mk {pins : List (Addr × Obj)} {σ : L2.St} {H : Hp} {s : Shared} {Q : VK} {us ws : List Value} {vs zs : List V} {g : List Value → List Value → List Value} {gV : List V → List V → List V} {sp : Sp} (M : Mk X.K C f) (F : FnOk X.prog X.w X.K X.mg X.base (L2.CX X.prog X.w) kk f fd ps sp) (hr : Room (kk + 1) X.A) (hb : KBn X.K fd ps (n + 1) ks g gV) (tk : Takes X W)
 (I : Inv X pins σ H s) (r : Vals vs us) (rz : Vals zs ws) (l1 : vs.length = n) (l2 : zs.length = ks.length)
 (h : ∀ x dx, H x = none → H dx = none → dx ≠ x → sp (gV (.ref x :: vs) zs) (upd (upd H dx (.own x)) x (.ins C dx [])) (fun v H2 => v = .non ∧ Q (.ref x) H2) (fun c d H' => W c d σ H')) :
 wpAny (model X.prog X.w) X.A (call (.ref C) us (ks.zip ws)) (EP X pins σ Q) X.xe s := by
 have hq := h (s.heap.objs.size + 1) s.heap.objs.size (I.hok.fresh (Nat.le_succ _)) (I.hok.fresh (Nat.le_refl _)) (Nat.ne_of_lt (Nat.lt_succ_self _))
 have I2 := Inv.made (C := C) I
 have r1 : Vals (V.ref (s.heap.objs.size + 1) :: vs) (Value.ref (s.heap.objs.size + 1) :: us) := .cons rfl r
 have r2 := hb.rel r1 rz
 have n1 : (Value.ref (s.heap.objs.size + 1) :: us).length = n + 1 := by
  rw [ag3, ← r.length, l1]
 refine wpAny_call (make_map (f := f) I.kIn M.makes M.init (beq_iff_eq.mp M.fn) (codeAny_mono (F.run _ X.stack _ _ ⟨Value.ref (s.heap.objs.size + 1) :: us, ks.zip ws⟩ (g (Value.ref (s.heap.objs.size + 1) :: us) ws) _ _ _ (hr.make C us (ks.zip ws))
  (I2.env0.make C us (ks.zip ws)) (hb.to _ (Value.ref (s.heap.objs.size + 1) :: us) ws I2.kIn n1 (rz.length.symm.trans l2)) r2 hq) fun r s' hq' => ?_))
 cases r with
 | error e => exact passAt tk σ pins _ _ e s' I2 hq'
 | ok fl =>
   cases fl with
   | ret u =>
     obtain ⟨v, H', I3, rv, ev, q3⟩ := I2.after hq'
     subst ev
     exact ⟨rv, ⟨V.ref (s.heap.objs.size + 1), H', I3, rfl, q3⟩⟩
   | next => exact False.elim hq'
   | brk => exact False.elim hq'
   | cont => exact False.elim hq'
theorem Z8 {B : Bs} {w : Wd} {σ : L2.St} {H : Hp} {fr : Fr} {h : Hh} {m : Nat} {vs zs : List V} {ds es : List D} {Q : VK} {gV : List V → List V → List V} (hg : ∀ (w : Wd) (vs zs : List V) (ds es : List D), au X.K T w vs ds → au X.K T w zs es → ds.length = n → es.length = m → au X.K T w (gV vs zs) (gD ds es) ∧ (gD ds es).length = ps.length)
 (R : Rel X.K T B w σ H fr h) (rs : au X.K T w vs ds) (rz : au X.K T w zs es) (p : aO X.K T B W (vE X.K T B σ) w σ (if ds.length = n ∧ es.length = m then bZ fr (F (gD ds es) h) else .err) Q) :
 vs.length = n ∧ zs.length = m ∧ spF X.K T ps.length F (gV vs zs) H Q (fun c d H' => W c d σ H') := by
 by_cases hl : ds.length = n ∧ es.length = m
 · rw [if_pos hl] at p
   obtain ⟨r2, l2⟩ := hg w vs zs ds es rs rz hl.1 hl.2
   exact ⟨rs.length.trans hl.1, rz.length.trans hl.2, WR R r2 l2 p⟩
 · rw [if_neg hl] at p
   exact p.elim
theorem bO (C : Cq X T W k) (F0 : u6 X.prog X.w X.K X.mg X.base T kk f fd ps F) (hk : kk ≤ k) (bn : Bn X.K T fd ps n [] gD) (hm : X.mg x = some (.ref f)) (sa : Qi X T W (e :: es) ma) (hg : Gl X x := by rfl) (hdb : (x == ("__debug__" : Str)) = false := by decide)
 (he : starEach (e :: es) X.env = (false, eval e X.env) :: starEach es X.env := by exact d8 rfl) (hpl : (backTo pos (starEach es X.env)).any (·.1) = false := by rfl) : xO X T W (.Call (.Name x p) (e :: es) [] pos) (aH n 0 F gD ma (ao [])) := fun B w σ H fr h Q R pp => WE.mk <| fun pins s I => by
 obtain ⟨g, gV, hb, hgD⟩ := bn.ex
 refine wpAny_Call_Name_kw (ld_glob I hg hm ?_ hdb)
 refine PySem.W.callWith_K (h₀ := X.base) I.ok.mod.kin F0.kp (thn ((sa B w σ H fr h _ R (aO.bind (VR := vA X.K T B σ) pp fun ds fr1 h1 w1 H1 vs e1 l1 r1 rs p1 => Z8 hgD r1 rs .nil p1)).go pos pins s I) fun us s1 ⟨vs, H1, I1, r, q⟩ => ⟨I1.kIn, ?_⟩) he hpl
 exact ab1 (ws := []) F0.ok (C.room.mono hk) hb C.takes I1 r .nil q.1 rfl q.2.2
end
end Pk
namespace Pk
open PySem PySem.Spec L2
structure BnI (K : PySem.W.Frag) (T : Tb) (fd : FuncData) (ps : List Str) (n : Nat) (ks : List Str) (gD : List D → List D → List D) : Prop where
 ex : ∃ (g : List Value → List Value → List Value) (gV gW : List V → List V → List V), KBn K fd ps (n + 1) ks g gV ∧ (∀ x vs zs, vs.length = n → zs.length = ks.length → gV (x :: vs) zs = x :: gW vs zs) ∧
  ∀ (w : Wd) (vs zs : List V) (ds es : List D), au K T w vs ds → au K T w zs es → ds.length = n → es.length = ks.length → au K T w (gW vs zs) (gD ds es) ∧ (gD ds es).length + 1 = ps.length
section
variable {X : Cx} {T : Tb} {W : WX} {k kk n c : Nat} {f : Addr} {fd : FuncData} {ps ks : List Str} {F : Fn} {x m : Str} {p pos apos : Pos} {e o : Expr} {es : List Expr} {kws : List Keyword} {mo : M D} {ma mk : M (List D)} {gD : List D → List D → List D}
theorem Z9 {B : Bs} {w : Wd} {σ : L2.St} {H : Hp} {fr : Fr} {h : Hh} {m : Nat} {vs zs : List V} {ds es : List D} {Q : VK} {gV gW : List V → List V → List V} (hv : ∀ x vs zs, vs.length = n → zs.length = m → gV (x :: vs) zs = x :: gW vs zs)
 (hg : ∀ (w : Wd) (vs zs : List V) (ds es : List D), au X.K T w vs ds → au X.K T w zs es → ds.length = n → es.length = m → au X.K T w (gW vs zs) (gD ds es) ∧ (gD ds es).length + 1 = ps.length)
 (R : Rel X.K T B w σ H fr h) (rs : au X.K T w vs ds) (rz : au X.K T w zs es) (p : aO X.K T B W (vE X.K T B σ) w σ (if ds.length = n ∧ es.length = m then bZ fr (F (gD ds es) h) else .err) Q) :
 vs.length = n ∧ zs.length = m ∧ ∀ x dx, H x = none → H dx = none → dx ≠ x → spI X.K T c ps.length F (gV (.ref x :: vs) zs) (upd (upd H dx (.own x)) x (.ins (T.cad c) dx [])) (fun v H2 => v = .non ∧ Q (.ref x) H2) (fun c d H' => W c d σ H') := by
 by_cases hl : ds.length = n ∧ es.length = m
 · rw [if_pos hl] at p
   obtain ⟨r2, l2⟩ := hg w vs zs ds es rs rz hl.1 hl.2
   refine ⟨rs.length.trans hl.1, rz.length.trans hl.2, fun x dx nx nd ne => ?_⟩
   rw [hv _ _ _ (rs.length.trans hl.1) (rz.length.trans hl.2)]
   exact Z7 R r2 l2 nx nd ne p
 · rw [if_neg hl] at p
   exact p.elim
theorem Qq (C : Cq X T W k) (F0 : FnI X.prog X.w X.K X.mg X.base T kk c f fd ps F) (hk : kk + 1 ≤ k) (bn : BnI X.K T fd ps n ks gD) (hm : X.mg x = some (.ref (T.cad c))) (sa : Qi X T W (e :: es) ma) (sk : XD X T W kws mk) (hg : Gl X x := by rfl) (hdb : (x == ("__debug__" : Str)) = false := by decide)
 (hall : (backToKw pos (keywordEach kws X.env)).all (·.1.isSome) = true := by rfl) (hks : (backToKw pos (keywordEach kws X.env)).filterMap (·.1) = ks := by rfl)
 (he : starEach (e :: es) X.env = (false, eval e X.env) :: starEach es X.env := by exact d8 rfl) (hpl : ((backTo pos (starEach (e :: es) X.env)).any (·.1) || (backToKw pos (keywordEach kws X.env)).any (·.1.isNone)) = false := by rfl) :
 xO X T W (.Call (.Name x p) (e :: es) kws pos) (aH n ks.length F gD ma mk) := fun B w σ H fr h Q R pp => WE.mk <| fun pins s I => by
 obtain ⟨g, gV, gW, hb, hv, hgD⟩ := bn.ex
 refine wpAny_Call_Name_kw (ld_glob I hg hm ?_ hdb)
 refine PySem.W.callWith_KW (h₀ := X.base) I.ok.mod.kin F0.made.kp hall (thn ((sa B w σ H fr h _ R (aO.bind (VR := vA X.K T B σ) pp fun ds fr1 h1 w1 H1 vs e1 l1 r1 rs p1 =>
  sk B w1 σ H1 fr1 h1 _ r1 (aO.bind (VR := vA X.K T B σ) p1 fun es fr2 h2 w2 H2 zs e2 l2 r2 rz p2 => Z9 (c := c) hv hgD r2 (rs.mono l2) rz p2))).go pos pins s I) fun us s1 ⟨vs, H1, I1, r, q⟩ => ?_) hpl he
 refine thn (q.go pos pins s1 I1) fun ws s2 ⟨zs, H2, I2, rz, q2⟩ => ⟨I2.kIn, ?_⟩
 rw [hks]
 exact run_mk F0.made F0.ok (C.room.mono hk) hb C.takes I2 r rz q2.1 q2.2.1 q2.2.2
structure afM (X : Cx) (T : Tb) (k : Nat) (m : Str) (mt : Nat → Option Fn) (n : Nat) (ks : List Str) (gD : List D → List D → List D) : Prop where
 ex : ∀ c F, mt c = some F → ∃ (kk : Nat) (f : Addr) (fd : FuncData) (ps : List Str), Cls X.K (T.cad c) ∧ Meth X.K (T.cad c) m f ∧ u6 X.prog X.w X.K X.mg X.base T kk f fd ps F ∧ Bn X.K T fd ps (n + 1) ks gD ∧ m ∉ T.fld c ∧ kk ≤ k
def fnOf (mt : Nat → Option Fn) (h : Hh) (o : D) : Option Fn := match o.ins h with
 | some (c, _) => mt c
 | none => none
def XF (n m : Nat) (mt : Nat → Option Fn) (gD : List D → List D → List D) (mo : M D) (ma mk : M (List D)) : M D := mo.bind fun o fr h => match fnOf mt h o with
 | some F => (aH (n + 1) m F gD (ma.bind fun ds => M.ret (o :: ds)) mk) fr h
 | none => .err
structure abp (X : Cx) (T : Tb) (k : Nat) (m : Str) (mt : Nat → Option Fn) : Prop where
 ex : ∀ c F, mt c = some F → ∃ (kk : Nat) (pa f : Addr) (fd : FuncData) (ps : List Str), Cls X.K (T.cad c) ∧ PropOf X.K (T.cad c) m pa f ∧ u6 X.prog X.w X.K X.mg X.base T kk f fd ps F ∧ Binds X.K fd ps [] ∧ ps.length = 1 ∧ kk + 1 ≤ k
def Ot (mt : Nat → Option Fn) (mo : M D) : M D := mo.bind fun o fr h => match fnOf mt h o with
 | some F => match F [o] h with
   | .ok d _ h => .ok d fr h
   | _ => .err
 | none => .err
theorem Wu {X : Cx} : Passes (L2.CX X.prog X.w) X.nox (fun _ _ _ => False) := fun pins σ H s e s' I c => by
 obtain ⟨a, B, H', cls, d, rfl, fl, hok, ub, na, os, ag, hE⟩ := c
 exact hE.elim
theorem ab2 {mt : Nat → Option Fn} (C : Cq X T W k) (M : abp X T k m mt) (so : aM X T W o mo) (hab : attributeBase o m X.env (eval o X.env) = eval o X.env := by rfl) : xO X T W (.Attribute o m pos) (Ot mt mo) := fun B w σ H fr h Q R pp => WE.mk <| fun pins s I => by
 refine attr_of hab (thn ((so B w σ H fr h (fun v H1 => ∃ (kk : Nat) (pa f : Addr) (fd : FuncData) (ps : List Str) (a C dx : Addr) (fs : List (Str × V)) (G : Fn), v = .ref a ∧ H1 a = some (.ins C dx fs) ∧ Cls X.K C ∧ PropOf X.K C m pa f ∧ u6 X.prog X.w X.K X.mg X.base T kk f fd ps G ∧ Binds X.K fd ps [] ∧ kk + 1 ≤ k ∧ spF X.K T ps.length G [.ref a] H1 Q (fun _ _ _ => False))
  R (aO.bind (VR := vV X.K T B σ) pp fun d fr1 h1 w1 H1 v e1 l1 r1 rv p1 => ?_)).go pins s I) fun u s1 ⟨x, H1, I1, rx, kk, pa, f, fd, ps, a, Cl, dx, fs, G, ex, ea, c1, c2, c3, c4, c5, q⟩ => ?_)
 · have p1' : aO X.K T B W (vE X.K T B σ) w1 σ (match fnOf mt h1 d with | some F => (match F [d] h1 with | .ok d _ h => .ok d fr1 h | _ => .err) | none => .err) Q := p1
   cases ef : fnOf mt h1 d with
   | none => rw [ef] at p1'; exact p1'.elim
   | some G =>
     rw [ef] at p1'
     have ei : ∃ c fs, d.ins h1 = some (c, fs) ∧ mt c = some G := by
      unfold fnOf at ef
      split at ef
      · rename_i c fs ei
        exact ⟨c, fs, ei, ef⟩
      · cases ef
     obtain ⟨c, fs, ei, em⟩ := ei
     obtain ⟨kk, pa, f, fd, ps, c1, c2, c3, c4, c5, c6⟩ := M.ex c G em
     obtain ⟨a, dx, vs, rfl, eH, rs⟩ := WQ r1 (.inl rv) ei
     refine ⟨kk, pa, f, fd, ps, a, T.cad c, dx, _, G, rfl, eH, c1, c2, c3, c4, c6, ?_⟩
     have z := WR (W := WF) (n := ps.length) (F := G) (Q := Q) r1 (.cons rv .nil) (show [d].length = ps.length from c5.symm) (by
      dsimp only at p1'
      cases e : G [d] h1 with
      | ok d' fr' h' => rw [e] at p1'; exact p1'
      | exc _ _ _ => rw [e] at p1'; exact p1'.elim
      | err => rw [e] at p1'; exact p1'.elim)
     exact z
 · subst ex
   obtain rfl : u = Value.ref a := rx
   exact getprop_ok (dvs := []) I1 ea c1 c2 c3.ok (C.room.mono c5) c4 .nil Wu q
end
end Pk
namespace Pk
open PySem PySem.Spec L2
section
variable {X : Cx} {T : Tb} {W : WX} {k c : Nat} {x : Str} {pos : Pos}
theorem Aa {t : String} (hm : X.mg x = none) (hg : Gl X x := by rfl) (hv : bootBuiltins x = some (.type t) := by decide +kernel) (hn : x ≠ "__name__" := by decide) (hd : (x == ("__debug__" : Str)) = false := by decide) : aM X T W (.Name x pos) (mC (.ty t)) := fun B w σ H fr h Q r p =>
 eU (pe_bltn (v := .ty t) hg hm hv rfl hn hd) (p w H _ (Wd.le_refl _) r (.ty t))
structure af8 (X : Cx) (T : Tb) (x : Str) (d : D) : Prop where
 ex : ∃ (u : Value) (v : V), X.mg x = some u ∧ RelV v u ∧ bA X.K T ⟨fun _ => none, []⟩ v d
end
inductive Tg where
 | b (t : String) | o (c : Nat)
 deriving DecidableEq
def Tg.v (T : Tb) : Tg → Value
 | .b t => .type t
 | .o c => .ref (T.cad c)
def D.tag (h : Hh) (d : D) : Option Tg := match d.der h with
 | .non => some (.b "NoneType")
 | .bl _ => some (.b "bool")
 | .int _ => some (.b "int")
 | .str _ => some (.b "str")
 | .tup _ => some (.b "tuple")
 | .fl _ => some (.b "list")
 | .nl _ => some (.b "list")
 | .kl _ => some (.b "list")
 | .obj c _ => some (.o c)
 | .no c _ => some (.o c)
 | _ => none
def D.ctag : D → Option Tg
 | .ty t => some (.b t)
 | .cls c => some (.o c)
 | _ => none
structure aaa (K : PySem.W.Frag) (C : Addr) : Prop where
 cls : Cls K C
 ha : PySem.W.findIn K (.ref C) "__class__" = some (some (.builtin "object.__class__"))
 hn : PySem.W.specialIn K (.builtin "object.__class__") "__get__" = some (some (.builtin "getset_descriptor.__get__"))
 htk : PySem.W.takesIn K (.builtin "object.__class__") = some true
 hm : PySem.W.mroIn K C (.type "object") = some true
structure RQ (K : PySem.W.Frag) (T : Tb) (tab : Tg → Tg → Option Bool) : Prop where
 kit : ∀ t u b, tab t u = some b → PySem.W.kitOne K (t.v T) (u.v T) = some b
 ins : ∀ c u b, tab (.o c) u = some b → aaa K (T.cad c)
def Lj : List String := ["NoneType", "bool", "int", "str", "tuple", "list"]
def U9 (a b : String) : Option Bool := if Lj.contains a && Lj.contains b then some (a == b || (a == "bool" && b == "int")) else none
theorem ab3 : ∀ a b r, U9 a b = some r → kitB a b = some r := by
 have key : ∀ a ∈ Lj, ∀ b ∈ Lj, kitB a b = U9 a b := by decide +kernel
 intro a b r h
 unfold U9 at h
 split at h
 · rename_i hh
   obtain ⟨h1, h2⟩ := Bool.and_eq_true_iff.mp hh
   rw [key a (List.contains_iff_mem.mp h1) b (List.contains_iff_mem.mp h2)]
   unfold U9
   rw [if_pos hh]
   exact h
 · cases h
def JM : List D → Option (List Tg)
 | [] => some []
 | d :: ds => match d.ctag, JM ds with
   | some u, some us => some (u :: us)
   | _, _ => none
def IV (tab : Tg → Tg → Option Bool) (t : Tg) : List Tg → Option Bool
 | [] => some false
 | u :: us => match tab t u with
   | some true => some true
   | some false => IV tab t us
   | none => none
def jy (tab : Tg → Tg → Option Bool) (h : Hh) (d c : D) : Option D := match d.tag h with
 | some t => match c with
   | .tup l => match JM l with
     | some (u :: us) => (IV tab t (u :: us)).map .bl
     | _ => none
   | c => match c.ctag with
     | some u => (tab t u).map .bl
     | none => none
 | none => none
section
variable {X : Cx} {T : Tb} {W : WX} {k : Nat} {pos pf : Pos} {a b : Expr} {ma mb : M D} {tab : Tg → Tg → Option Bool}
theorem Qs {K : PySem.W.Frag} {w : Wd} {v : V} {d : D} {u : Tg} (r : bA K T w v d) (e : d.ctag = some u) : ClsV v (u.v T) := by
 cases r <;> cases e
 · exact .own _
 · exact .ty _
theorem Ou {K : PySem.W.Frag} {B : Bs} {w : Wd} {σ : L2.St} {H : Hp} {fr : Fr} {h : Hh} {v : V} {d : D} {t u : Tg} {bb : Bool} (F : RQ K T tab) (R : Rel K T B w σ H fr h) (rv : vO K T B σ w H fr v d) (e : d.tag h = some t) (e2 : tab t u = some bb) : TyX K H v (t.v T) := by
 have sqT : ∀ {a : Addr} {vs : List V}, SqT K H a vs → TyX K H (.ref a) (.type "tuple") := fun {a vs} q => by
  rcases q with (q | ⟨o, q⟩) | ⟨o, its, n, q1, q2, _⟩
  · exact .base (.tup q)
  · exact .fTuple q
  · exact .kTuple q1 q2
 have sqL : ∀ {a : Addr} {vs : List V}, SqL K H a vs → TyX K H (.ref a) (.type "list") := fun {a vs} q => by
  rcases q with (q | ⟨o, q⟩) | ⟨o, its, n, q1, q2, _⟩
  · exact .base (.lst q)
  · exact .base (.frz q)
  · exact .kList q1 q2
 have ins : ∀ {c : Nat} {a dx : Addr} {fs : List (Str × V)}, tab (.o c) u = some bb → H a = some (.ins (T.cad c) dx fs) → TyX K H (.ref a) (.ref (T.cad c)) := fun {c a dx fs} q eH => by
  have i := F.ins c u bb q
  exact .base (.ins eH i.cls i.ha i.hn i.htk i.hm)
 rcases rv with rv | ⟨p, o, rfl, eH, rv⟩
 · cases rv with
   | non => cases e; exact .base .non
   | bl b => cases e; exact .base (.bl b)
   | int i => cases e; exact .base (.int i)
   | str s => cases e; exact .base (.str s)
   | tup s r => cases e; exact sqT (dO R.sub s)
   | fl s r => cases e; exact .base (.lst (R.sub _ _ s))
   | kl s r => cases e; exact sqL (oW R.sub s)
   | obj s r => cases e; exact ins e2 (R.sub _ _ s)
   | @ref a n s =>
     have ln : n < h.length := by
      rw [← R.len]
      exact (List.getElem?_eq_some_iff.mp s).1
     obtain ⟨o, q, rr⟩ := R.cel n a h[n] s (ag1 ln)
     have e0 : D.der h (.ref n) = h[n] := by
      unfold D.der
      dsimp only
      rw [ag1 ln]
      rfl
     unfold D.tag at e
     rw [e0] at e
     generalize h[n] = cc at rr e
     cases rr with
     | lst r => cases e; exact .base (.lst q)
     | obj r => cases e; exact ins e2 q
     | dct _ r => cases e
     | dkt _ r => cases e
   | cls _ => cases e
   | ty _ => cases e
   | sl _ => cases e
 · cases rv with
   | lst r => cases e; exact .base (.lst eH)
   | obj r => cases e; exact ins e2 eH
theorem M5 {K : PySem.W.Frag} {w : Wd} : ∀ {vs : List V} {ds : List D} {us : List Tg}, au K T w vs ds → JM ds = some us → Paired ClsV vs (us.map (Tg.v T))
 | _, _, _, .nil, e => by cases e; exact .nil
 | _, _, _, @au.cons _ _ _ v d vs ds r rr, e => by
   unfold JM at e
   cases e1 : d.ctag with
   | none => rw [e1] at e; cases e
   | some u =>
     cases e2 : JM ds with
     | none => rw [e1, e2] at e; cases e
     | some us =>
       rw [e1, e2] at e
       cases e
       exact .cons (Qs r e1) (M5 rr e2)
theorem Lk {K : PySem.W.Frag} {t : Tg} {bb : Bool} (F : RQ K T tab) : ∀ {us : List Tg}, IV tab t us = some bb → PySem.W.kitAny K (t.v T) (us.map (Tg.v T)) = some bb
 | [], e => by cases e; exact kitAny_nil
 | u :: us, e => by
   unfold IV at e
   cases et : tab t u with
   | none => rw [et] at e; cases e
   | some b1 =>
     rw [et] at e
     cases b1 with
     | false => exact kitAny_cons (F.kit t u false et) (fun _ => Lk F e) (fun z => by cases z)
     | true =>
       cases e
       exact kitAny_cons (F.kit t u true et) (fun z => by cases z) (fun _ => rfl)
theorem Pu {t : Tg} {bb : Bool} {us : List Tg} (e : IV tab t us = some bb) : us = [] ∨ ∃ u b, tab t u = some b := by
 cases us with
 | nil => exact .inl rfl
 | cons u us =>
   right
   unfold IV at e
   cases et : tab t u with
   | none => rw [et] at e; cases e
   | some b => exact ⟨u, b, et⟩
theorem Tr : CallR X (.builtin "isinstance") (fun xs H Q => ∃ (x : V) (tp : Addr) (cs : List V) (t : Value) (us : List Value) (b : Bool), xs = [x, .ref tp] ∧ SqT X.K H tp cs ∧ Paired ClsV cs us ∧ TyX X.K H x t ∧ PySem.W.kitAny X.K t us = some b ∧ Q (.bl b) H) := by
 intro pins s σ H xs us Q I r h
 obtain ⟨x, tp, cs, t, ws, b, rfl, hT, k, ty, e, q⟩ := h
 obtain ⟨u1, u2, rfl, r1, r2⟩ := vals2 r
 cases (show u2 = Value.ref tp from r2)
 obtain ⟨P, Z, p, hx⟩ := kit_of I r1 ty
 obtain ⟨its, rv, pl, _⟩ := I.tuple hT
 obtain ⟨o, h1, h2, n, h3⟩ := pl
 have e3 := ClsV.all k rv
 subst e3
 obtain ⟨oc, od, dt, sl⟩ := o
 simp only at h2 h3
 subst h2 h3
 exact PySem.W.kia_tup Z I.kIn p h1 e hx fun tk => ⟨.bl b, H, I.tok tk, rfl, q⟩
theorem Cm (F : RQ X.K T tab) (sa : aM X T W a ma) (sb : aM X T W b mb) (hm : X.mg "isinstance" = none) (hg : Gl X "isinstance" := by rfl) (he : starEach (a :: b :: []) X.env = (false, eval a X.env) :: starEach (b :: []) X.env := by exact d8 rfl) (he2 : starEach (b :: []) X.env = (false, eval b X.env) :: starEach [] X.env := by exact d8 rfl)
 (hpl : (backTo pos (starEach (b :: []) X.env)).any (·.1) = false := by rfl) : aM X T W (.Call (.Name "isinstance" pf) [a, b] [] pos) (aG (jy tab) ma mb) :=
 Z6 (id := "isinstance") sa sb (fun B w σ H fr h x y d e z Q R rx ry q kk => by
  have ry : bA X.K T w y e := ry
  unfold jy at q
  cases et : d.tag h with
  | none => rw [et] at q; cases q
  | some t =>
    rw [et] at q
    have one : ∀ u, e.ctag = some u → (tab t u).map D.bl = some z → cM X (.builtin "isinstance") [x, y] H Q := fun u ec eq => by
     obtain ⟨bb, eb, rfl⟩ := Option.map_eq_some_iff.mp eq
     exact ji call_isi ⟨x, y, t.v T, u.v T, bb, rfl, Qs ry ec, Ou F R (.inl rx) et eb, F.kit t u bb eb, kk w H _ (Wd.le_refl _) R (.bl bb)⟩
    cases e with
    | tup l =>
      dsimp only at q
      cases ec : JM l with
      | none => rw [ec] at q; cases q
      | some us =>
        rw [ec] at q
        cases us with
        | nil => cases q
        | cons u us =>
          obtain ⟨bb, eb, rfl⟩ := Option.map_eq_some_iff.mp q
          obtain ⟨p, vs, rfl, sq, rs⟩ := Bl ry
          have ty : TyX X.K H x (t.v T) := by
           rcases Pu eb with z | ⟨u', b', z⟩
           · cases z
           · exact Ou F R (.inl rx) et z
          exact ji Tr ⟨x, p, vs, t.v T, (u :: us).map (Tg.v T), bb, rfl, dO R.sub sq, M5 rs ec, ty, Lk F eb, kk w H _ (Wd.le_refl _) R (.bl bb)⟩
    | cls c => exact one _ rfl q
    | ty t => exact one _ rfl q
    | _ => cases q) hm hg (by decide +kernel) (by decide) (by decide) he he2 hpl
end
end Pk
namespace Pk
open PySem PySem.Spec L2
structure PD where
 adr : PySem.W.Frag → Addr
 name : Str
 qual : Str
 params : Arguments
 body : List Stmt
 scope : Scope
 dfl : List He.Dv
 kwd : List (Str × He.Dv)
 /-- an __init__ that says super() -/
 clo : Bool
def Va (K : PySem.W.Frag) (a : Addr) : He.FnW := match K.lookup a with
 | some ⟨_, _, .func fd, _⟩ => some (fd.name, fd.qualname, fd.params, fd.body, fd.scope, fd.globals, fd.closure.map (fun q => (q.1, 0)), fd.builtins)
 | _ => none
def PD.val (d : PD) : He.FnW := some (d.name, d.qual, d.params, .stmts d.body, d.scope, mainGlobals, if d.clo then [("__class__", 0)] else [], builtinsNs)
def PD.dvs (K : PySem.W.Frag) (d : PD) : List V := d.dfl.map (He.Dv.v K)
def PD.kws (K : PySem.W.Frag) (d : PD) : List (Str × V) := d.kwd.map fun q => (q.1, q.2.v K)
def PD.ok (K : PySem.W.Frag) (d : PD) : Bool := PySem.W.keepIn K (.ref (d.adr K)) && (match K.lookup (d.adr K) with
 | some ⟨_, _, .func fd, _⟩ => PySem.W.codeIn K fd.code d.qual && (He.dflB K fd.defaults (d.dvs K) && He.kwdB K fd.kwdefaults (d.kws K))
 | _ => false)
theorem PD.funD {K : PySem.W.Frag} {d : PD} (hc : d.clo = false) (e : Va K (d.adr K) = d.val) (c : d.ok K = true) : ∃ fd, FunD K d.name d.qual d.params d.body d.scope (d.dvs K) (d.kws K) (d.adr K) fd := by
 obtain ⟨kp, c2⟩ := He.ba c
 unfold Va at e
 cases q : K.lookup (d.adr K) with
 | none =>
   rw [q] at c2
   cases c2
 | some o =>
   obtain ⟨oc, od, dt, osl⟩ := o
   rw [q] at c2 e
   cases dt with
   | func fd =>
     obtain ⟨n1, n2, n3, n4, n5, n6, n7, n8, n9, n10, n11, n12, n13, n14, n15⟩ := fd
     unfold PD.val at e
     rw [hc] at e
     have e2 : (some (n1, n2, n3, n4, n5, n6, n7.map (fun q => (q.1, 0)), n15) : He.FnW) = some (d.name, d.qual, d.params, .stmts d.body, d.scope, mainGlobals, [], builtinsNs) := e
     simp only [Option.some.injEq, Prod.mk.injEq, List.map_eq_nil_iff] at e2
     obtain ⟨h1, h2, h3, h4, h5, h6, h7, h8⟩ := e2
     subst h1 h2 h3 h4 h5 h6 h7 h8
     have c3 : (PySem.W.codeIn K n13 d.qual && (He.dflB K n8 (d.dvs K) && He.kwdB K n9 (d.kws K))) = true := c2
     obtain ⟨k1, k2⟩ := He.ba c3
     obtain ⟨k3, k4⟩ := He.ba k2
     exact ⟨_, ⟨oc, od, n8, n9, n10, n11, n12, n13, n14, osl, rfl, q, k1, He.dflB_ok k3, He.kwdB_ok k4⟩, kp⟩
   | _ => cases c2
def pgA (K : PySem.W.Frag) (C : Addr) (f : Str) : Addr := match PySem.W.findIn K (.ref C) f with
 | some (some (.ref p)) => (match PySem.W.recIn K p "property" with
   | some (.ref g :: _) => g
   | _ => 0)
 | _ => 0
def IW (a : PySem.W.Frag → Addr) (x : Str) (K : PySem.W.Frag) : Addr := match K.lookup (a K) with
 | some ⟨_, _, .func fd, _⟩ => (match fd.kwdefaults with
   | .ref d => (match PySem.W.nsIn K d x with
     | some (some (.ref b)) => b
     | _ => 0)
   | _ => 0)
 | _ => 0
def dfA (a : PySem.W.Frag → Addr) (i : Nat) (K : PySem.W.Frag) : Addr := match K.lookup (a K) with
 | some ⟨_, _, .func fd, _⟩ => (match fd.defaults with
   | .ref T => (match K.lookup T with
     | some ⟨_, _, .seq its _, _⟩ => (match its.toList[i]? with
       | some (.ref b) => b
       | _ => 0)
     | _ => 0)
   | _ => 0)
 | _ => 0
def XH (K : PySem.W.Frag) (a : Addr) (vs : List He.Dv) : Bool := match K.lookup a with
 | some ⟨.type c, _, .seq its _, _⟩ => decide (c = "tuple") && (decide (its.size ≤ sizeLine) && He.relAll (vs.map (He.Dv.v K)) its.toList)
 | _ => false
theorem RW {K : PySem.W.Frag} {a : Addr} {vs : List He.Dv} (h : XH K a vs = true) (H : Hp) : SqT K H a (vs.map (He.Dv.v K)) := by
 unfold XH at h
 cases q : K.lookup a with
 | none =>
   rw [q] at h
   cases h
 | some o =>
   obtain ⟨oc, od, dt, osl⟩ := o
   rw [q] at h
   cases oc with
   | type c =>
     cases dt with
     | seq its n =>
       obtain ⟨h1, h2⟩ := He.ba (show (decide (c = "tuple") && (decide (its.size ≤ sizeLine) && He.relAll (vs.map (He.Dv.v K)) its.toList)) = true from h)
       obtain ⟨h3, h4⟩ := He.ba h2
       exact .inr ⟨_, its, n, q, congrArg Value.type (of_decide_eq_true h1), rfl, of_decide_eq_true h3, He.relAll_ok h4⟩
     | _ => cases h
   | _ => cases dt <;> cases h
inductive Fx where
 | he (f : He.Fa)
 | prop (x f : Str)
 | ins (x : Str)
 | kit (t u : Tg) (b : Bool)
 | tup (a : PySem.W.Frag → Addr) (vs : List He.Dv)
 | slf (x : Str)
 /-- an own error class whose __init__ says super(): its fields, the file -/
 | own (x file : Str) (fs : List Str)
 /-- an error class as isinstance wants it -/
 | exi (x : Str)
 /-- a class that is no kind of number -/
 | nsb (x : Str)
 /-- anything else that is to be seen -/
 | raw (p : PySem.W.Frag → Bool)
def Tbo (cn : Nat → Str) (fld : Nat → List Str) (K : PySem.W.Frag) : Tb := ⟨fun c => He.ga K (cn c), fld⟩
def aeR (K : PySem.W.Frag) (C : Addr) : Bool := match K.lookup C with
 | some ⟨.type "type", _, .cls cd, sl⟩ => (match cd.mro, sl.toList with
   | .ref C' :: bm, [_, _, _, _, some (.builtin n), _] => C' == C && (n == "ValueError.__new__" && (!cd.hasDel && (cd.hasDict && (PySem.HandSPX.refsVE bm && He.eqO (PySem.W.alongIn K "__init__" bm) (some (some (.builtin "ValueError.__init__")))))))
   | _, _ => false)
 | _ => false
def aeS (K : PySem.W.Frag) (C f : Addr) (file : Str) : Bool := match K.lookup f with
 | some ⟨_, _, .func fd, _⟩ => (match fd.closure, fd.defaults, fd.code with
   | [(_, cc)], .none, .ref cda => (match K.lookup cc with
       | some ⟨_, _, .cell (some (.ref a)), _⟩ => decide (a = C)
       | _ => false) && (PySem.W.codeIn K (.ref cda) fd.qualname && (match K.lookup cda with
       | some ⟨_, _, Data.fields vs, _⟩ => (match (vs[2]? : Option Value) with
         | some (.str fi _) => decide (fi = file)
         | _ => false)
       | _ => false))
   | _, _, _ => false)
 | _ => false
def aeT (K : PySem.W.Frag) (C f : Addr) (file : Str) (fs : List Str) : Bool :=
 aeR K C && (He.eqO (PySem.W.findIn K (.ref C) "__setattr__") (some (some (.builtin "object.__setattr__"))) && (He.eqO (PySem.W.findIn K (.ref C) "__init__") (some (some (.ref f))) && (decide (PySem.W.typeIn K (.ref f) = some (.type "function")) &&
  (decide (PySem.W.subIn K (.ref C) (.type "ValueError") = some true) && (decide (PySem.W.mroIn K C (.ref C) = some true) && (He.eqO (PySem.W.nsIn K cStatics "thirdparty.any") (some none) && (aeS K C f file && (fs.all (fun y => He.eqO (PySem.W.findIn K (.ref C) y) (some none)) &&
  (PySem.W.keepIn K (.ref C) && (decide (PySem.W.subIn K (.ref C) (.type "BaseException") = some true) && (decide (PySem.W.typeIn K (.ref C) = some (.type "type")) && (He.eqO (PySem.W.findIn K (.ref C) "__getattribute__") (some (some (.builtin "BaseException.__getattribute__"))) &&
  (He.eqO (PySem.W.findIn K (.ref C) "__getattr__") (some none) && PySem.W.hasDictIn K C)))))))))))))
def aeU (K : PySem.W.Frag) (C : Addr) : Bool :=
 He.eqO (PySem.W.findIn K (.ref C) "__getattribute__") (some (some (.builtin "BaseException.__getattribute__"))) && (He.eqO (PySem.W.findIn K (.ref C) "__getattr__") (some none) && (decide (PySem.W.subIn K (.ref C) (.type "BaseException") = some true) && (PySem.W.hasDictIn K C &&
  (He.eqO (PySem.W.findIn K (.ref C) "__class__") (some (some (.builtin "object.__class__"))) && (He.eqO (PySem.W.specialIn K (.builtin "object.__class__") "__get__") (some (some (.builtin "getset_descriptor.__get__"))) && (decide (PySem.W.takesIn K (.builtin "object.__class__") = some true) && decide (PySem.W.mroIn K C (.type "object") = some true)))))))
def Fx.ok (cn : Nat → Str) (K : PySem.W.Frag) : Fx → Bool
 | .he f => f.ok K
 | .prop x f => He.eqO (PySem.W.findIn K (.ref (He.ga K x)) f) (some (some (.ref (He.ma K (He.ga K x) f)))) && (He.eqO (PySem.W.specialIn K (.ref (He.ma K (He.ga K x) f)) "__get__") (some (some (.builtin "property.__get__"))) &&
  (decide (PySem.W.takesIn K (.ref (He.ma K (He.ga K x) f)) = some true) && (match PySem.W.recIn K (He.ma K (He.ga K x) f) "property" with
   | some (.ref g :: _) => decide (g = pgA K (He.ga K x) f)
   | _ => false)))
 | .ins x => (He.Fa.cls x).ok K && (He.eqO (PySem.W.findIn K (.ref (He.ga K x)) "__class__") (some (some (.builtin "object.__class__"))) && (He.eqO (PySem.W.specialIn K (.builtin "object.__class__") "__get__") (some (some (.builtin "getset_descriptor.__get__"))) &&
  (decide (PySem.W.takesIn K (.builtin "object.__class__") = some true) && decide (PySem.W.mroIn K (He.ga K x) (.type "object") = some true))))
 | .kit t u b => decide (PySem.W.kitOne K (t.v (Tbo cn (fun _ => []) K)) (u.v (Tbo cn (fun _ => []) K)) = some b)
 | .tup a vs => XH K (a K) vs
 | .slf x => PySem.W.selfFirst K (He.ga K x)
 | .nsb x => decide (PySem.W.subIn K (.ref (He.ga K x)) (.type "int") = some false) && decide (PySem.W.subIn K (.ref (He.ga K x)) (.type "bool") = some false)
 | .exi x => aeU K (He.ga K x)
 | .raw p => p K
 | .own x file fs => aeT K (He.ga K x) (He.ma K (He.ga K x) "__init__") file fs
section
variable {K : PySem.W.Frag} {cn : Nat → Str} {fld : Nat → List Str}
theorem ab4 {x f : Str} (c : (Fx.prop x f).ok cn K = true) : PropOf K (He.ga K x) f (He.ma K (He.ga K x) f) (pgA K (He.ga K x) f) := by
 obtain ⟨c1, c⟩ := He.ba c
 obtain ⟨c2, c⟩ := He.ba c
 obtain ⟨c3, c4⟩ := He.ba c
 refine ⟨He.eqO_ok c1, He.eqO_ok c2, of_decide_eq_true c3, ?_⟩
 split at c4
 · rename_i g rest e
   rw [e, of_decide_eq_true c4]
   exact ⟨rest, rfl⟩
 · cases c4
end
abbrev AlP : Type := Bool × List He.FnW
def ac9 (cn : Nat → Str) (fa : List Fx) (fn : List PD) (K : PySem.W.Frag) : AlP := ((fa.all fun f => f.ok cn K) && fn.all fun d => d.ok K, fn.map fun d => Va K (d.adr K))
def ada (fn : List PD) : AlP := (true, fn.map PD.val)
def Ov (cn : Nat → Str) (fa : List Fx) (fn : List PD) (K : PySem.W.Frag) : Prop := ac9 cn fa fn K = ada fn
def aeh (o : Obj) : List Addr := (match o.dict with
 | some d => [d]
 | none => []) ++ match o.data with
 | .seq its _ => its.toList.flatMap He.refV
 | .dict es _ => es.toList.flatMap fun e => He.refV e.val
 | .func fd => He.refV fd.code ++ (He.refV fd.defaults ++ (He.refV fd.kwdefaults ++ fd.closure.map (·.2)))
 | .cls cd => cd.ns :: (cd.mro.drop 1).flatMap He.refV
 | .fields vs => vs.toList.flatMap He.refV
 | .cell (some v) => He.refV v
 | _ => []
def asF (g : Addr → Option Obj) : Nat → List Addr → List Addr
 | 0, l => l
 | n + 1, l => l ++ asF g n (l.flatMap fun a => match g a with
   | some o => aeh o
   | none => [])
def asP (g : Addr → Option Obj) (n : Nat) : List Addr := asF g n [mainGlobals] ++ [cStatics]
def obsPG (n : Nat) (cn : Nat → Str) (fa : List Fx) (fn : List PD) (g : Addr → Option Obj) : AlP := ac9 cn fa fn (He.frG g (asP g n))
def hookP (n : Nat) (cn : Nat → Str) (fa : List Fx) (fn : List PD) : PySem.W.Hook where
 α := AlP
 obs := fun s => obsPG n cn fa fn s.heap.get?
 val := fun _ => ada fn
 says := fun _ h => ∃ K : PySem.W.Frag, K.In h ∧ Ov cn fa fn K
 of := fun _ _ e => ⟨_, He.frG_in, e⟩
 keeps := fun _ _ _ ⟨K, hK, c⟩ k => ⟨K, PySem.W.Frag.In.keeps hK k, c⟩
theorem obsPG_eq {n : Nat} {cn : Nat → Str} {fa : List Fx} {fn : List PD} {g : Addr → Option Obj} {s : Shared} (h : ∀ a, g a = s.heap.get? a) : obsPG n cn fa fn g = (hookP n cn fa fn).obs s := by
 have e : g = s.heap.get? := funext h
 rw [e] <;> rfl
section
variable {cn : Nat → Str} {fa : List Fx} {fn : List PD} {K : PySem.W.Frag}
theorem Ov.fact (c : Ov cn fa fn K) (i : Nat) {f : Fx} (h : fa[i]? = some f := by rfl) : f.ok cn K = true := by
 have c1 := (He.ba (show ((fa.all fun f => f.ok cn K) && fn.all fun d => d.ok K) = true from congrArg (fun z : AlP => z.1) c)).1
 exact List.all_eq_true.mp c1 f (ahd h)
theorem Ov.def_ (c : Ov cn fa fn K) (i : Nat) {d : PD} (h : fn[i]? = some d := by rfl) (hc : d.clo = false := by rfl) : ∃ fd, FunD K d.name d.qual d.params d.body d.scope (d.dvs K) (d.kws K) (d.adr K) fd := by
 have c2 := (He.ba (show ((fa.all fun f => f.ok cn K) && fn.all fun d => d.ok K) = true from congrArg (fun z : AlP => z.1) c)).2
 have e : fn.map (fun d => Va K (d.adr K)) = fn.map PD.val := congrArg (fun z : AlP => z.2) c
 have e2 : (fn.map fun d => Va K (d.adr K))[i]? = (fn.map PD.val)[i]? := by rw [e]
 rw [ahx, ahx, h] at e2
 exact PD.funD hc (Option.some.inj e2) (List.all_eq_true.mp c2 d (ahd h))
end
theorem QX {K : PySem.W.Frag} {T : Tb} {w : Wd} : ∀ ns : List Int, au K T w (ns.map V.int) (ns.map D.int)
 | [] => .nil
 | i :: r => .cons (.int i) (QX r)
theorem law_sp {K : PySem.W.Frag} {T : Tb} {F : Fn} {H : Hp} {a : Addr} {ns : List Int} (hq : SqL K H a (ns.map V.int)) {fr : Fr} {h : Hh} (e : F [.kl (ns.map D.int)] [] = .ok (.bl true) fr h) : spF K T 1 F [.ref a] H (fun v _ => v = .bl true) (fun _ _ _ => False) := by
 refine ⟨⟨H, []⟩, [], [.kl (ns.map D.int)], ⟨Wd.le_refl _, fun _ q => .inl q, fun _ q => (by cases q), fun _ _ q _ => q, fun _ q => (by cases q), fun _ _ q => q, rfl, List.nodup_nil, fun _ q => (by cases q), fun _ _ _ q => (by simp at q), rfl, fun _ _ _ q => (by simp at q), fun _ _ _ _ q => (QL q).elim, fun _ _ _ q _ => (by simp at q)⟩, .cons (.kl hq (QX ns)) .nil, rfl, ?_⟩
 rw [e]
 intro w' H' v l R rv
 rcases rv with rv | ⟨p, o, _, _, _, _, r⟩
 · cases rv
   rfl
 · cases r
def pick {α : Type} (is : List Nat) (l : List α) : List α := is.filterMap fun i => l[i]?
theorem JN : ∀ (is : List Nat) {vs : List V} {us : List Value}, Vals vs us → Vals (pick is vs) (pick is us)
 | [], _, _, _ => .nil
 | i :: is, vs, us, r => by
   unfold pick
   rw [List.filterMap_cons, List.filterMap_cons]
   cases e : vs[i]? with
   | none =>
     have e2 : us[i]? = none := by
      rw [List.getElem?_eq_none_iff] at e ⊢
      rw [← r.length]
      exact e
     rw [e2]
     exact JN is r
   | some v =>
     obtain ⟨u, hu, ru⟩ := r.get e
     rw [hu]
     exact .cons ru (JN is r)
theorem Qt {K : PySem.W.Frag} {T : Tb} {w : Wd} : ∀ (is : List Nat) {vs : List V} {ds : List D}, au K T w vs ds → au K T w (pick is vs) (pick is ds)
 | [], _, _, _ => .nil
 | i :: is, vs, ds, r => by
   unfold pick
   rw [List.filterMap_cons, List.filterMap_cons]
   cases e : ds[i]? with
   | none =>
     have e2 : vs[i]? = none := by
      rw [List.getElem?_eq_none_iff] at e ⊢
      rw [r.length]
      exact e
     rw [e2]
     exact Qt is r
   | some d =>
     obtain ⟨v, hv, rv⟩ := r.get e
     rw [hv]
     exact .cons rv (Qt is r)
def WY {α : Type} (is : List Nat) (us mv ws : List α) : List α := us ++ pick is (ws ++ mv)
end Pk
namespace PySem
namespace EnT
abbrev Vb (l : Addr) : Obj := { cls := .type "tuple_iterator", data := .fields #[.ref l, .int 0 0] }
abbrev Zk (it : Addr) : Obj := { cls := .type "enumerate", data := .fields #[.none, .bool false, .ref it, rawInt 0, .none, .none] }
theorem Ig (l : Addr) (items : Array Value) (n : Nat) (dct : Option Addr) (sl : Array (Option Value)) :
 Meets (Builtin.«enumerate.__new__» ⟨[.type "enumerate", .ref l], []⟩) (fun _ R s => s.heap.get? l = some { cls := .type "tuple", dict := dct, data := .seq items n, slots := sl } ∧
  R (.ok (.ret (.ref (s.heap.push (Vb l)).objs.size))) { s with heap := (s.heap.push (Vb l)).push (Zk s.heap.objs.size) }) := by
 refine .of_wp fun prog w A R s h => ?_
 obtain ⟨hp, g, d, tk, os⟩ := s
 obtain ⟨hl, h⟩ := h
 have hsub := sub_enumerate
 have hT : Heap.IsTuple (Shared.heap ⟨hp, g, d, tk, os⟩) l items := ⟨_, hl, rfl, n, rfl⟩
 wp_walk using AutoSeq1.wpAny_loadPart' hl
 refine wpAny_stack_any fun st => wpAny_pure ?_
 split
 · rename_i c _ _ _ _ _
   cases (c == Value.type "enumerate") <;> (wp_walk using AutoSeq1.wpAny_loadPart' hl, wpAny_pyIter_tuple hT; exact ⟨_, rfl, h⟩)
 · wp_walk using AutoSeq1.wpAny_loadPart' hl, wpAny_pyIter_tuple hT
   exact ⟨_, rfl, h⟩
section
variable {prog : Program} {w : World} {A : Around} {E : Value → Shared → Prop} {s : Shared}
theorem call_tup {l : Addr} {items : Array Value} {Q : Value → Shared → Prop} (hT : s.heap.IsTuple l items)
 (h : ∀ h', IsEnum h' (s.heap.objs.size + 1) s.heap.objs.size 0 .none → h'.IsTupleIter s.heap.objs.size l 0 → (∀ b o, s.heap.get? b = some o → h'.get? b = some o) → Q (.ref (s.heap.objs.size + 1)) { s with heap := h' }) :
 wpAny (model prog w) A (call (.type "enumerate") [.ref l]) Q E s := by
 obtain ⟨⟨c, dct, dt, sl⟩, hl, hc, n, hd⟩ := hT
 obtain rfl : c = .type "tuple" := hc
 obtain rfl : dt = .seq items n := hd
 have hz : (s.heap.push (Vb l)).objs.size = s.heap.objs.size + 1 := Heap.size_push ..
 have he : ((s.heap.push (Vb l)).push (Zk s.heap.objs.size)).get? (s.heap.objs.size + 1) = some (Zk s.heap.objs.size) := by
  have z := Heap.get?_push_size (s.heap.push (Vb l)) (o := Zk s.heap.objs.size) rfl
  rw [hz] at z
  exact z
 have hi : ((s.heap.push (Vb l)).push (Zk s.heap.objs.size)).get? s.heap.objs.size = some (Vb l) := Heap.get?_push_of_some _ (Heap.get?_push_size _ rfl)
 refine callType_new F.called_enumerate (by decide) (F.typeCall_enumerate_1 _) (F.newCall_enumerate_1 _) (fun obj => F.args_object_init_2 obj _) F.entry_enumerate_new (Ig l items n dct sl) ⟨hl, ?_⟩
 show _ ∧ _
 rw [hz]
 exact ⟨⟨_, he, rfl⟩, h _ he ⟨_, hi, rfl, rfl⟩ fun b o x => Heap.get?_push_of_some _ (Heap.get?_push_of_some _ x)⟩
end
end EnT
end PySem
namespace L2
open PySem PySem.Spec PyProof.Rows
def ItE (K : PySem.W.Frag) (a : Addr) : It :=
 ⟨fun i H => ∃ (xs : List V) (x : V), SqT K H a xs ∧ xs[i]? = some x, fun i H v H' => ∃ T x, v = .ref T ∧ H T = none ∧ H' = upd H T (.tup [.int (i : Nat), x]) ∧ ∀ xs, SqT K H a xs → xs[i]? = some x, fun i H => ∃ xs : List V, SqT K H a xs ∧ xs.length ≤ i⟩
theorem RX {h : Heap} {a b : Addr} {its : Array Value} {n : String} {o : Obj} (p : h.IsTuple a its) (e : h.get? b = some o) (c : o.cls = .type n) (hn : n ≠ "tuple") : a ≠ b := fun z => by
 obtain ⟨oa, ea, ca, _⟩ := p
 rw [z, e] at ea
 cases ea
 rw [c] at ca
 exact hn (by injection ca)
theorem aab {P : Program} {w : World} {K : PySem.W.Frag} {elts : List Expr} {kk : Nat} {tpos : Pos} (a e it : Addr) :
 Turn P w K (.Tuple elts kk tpos) (ItE K a) [e, it] e (fun i h => (∃ old, IsEnum h e it ((i : Nat) : Int) old) ∧ h.IsTupleIter it a i ∧ e ≠ it) where
 mem := by simp
 obj := fun i h st b hb => by
  obtain ⟨⟨old, he⟩, ⟨o, ho, _, hd⟩, _⟩ := st
  rcases (show b = e ∨ b = it by simpa using hb) with rfl | rfl
  · exact ⟨_, he, fun v q => nomatch q⟩
  · exact ⟨o, ho, fun v q => by rw [hd] at q; cases q⟩
 keep := fun i h h' st k => by
  obtain ⟨⟨old, he⟩, hi, hne⟩ := st
  exact ⟨⟨old, k e (by simp) _ he⟩, hi.at fun o q => k it (by simp) o q, hne⟩
 item := by
  intro X hP hw hK hc i pins s σ H E I hf st hg
  subst hP hw hK
  obtain ⟨⟨old, he⟩, hit, hne⟩ := st
  obtain ⟨xs, x, hq, hx⟩ := hg
  obtain ⟨its, rv, p, _⟩ := I.tuple hq
  obtain ⟨u, hu, ru⟩ := rv.get hx
  have pt : s.heap.IsTuple a its.toArray := p
  have hai : a ≠ it := by
   obtain ⟨o, ho, c, _⟩ := id hit
   exact RX pt ho c (by decide)
  have hae : a ≠ e := RX pt he rfl (by decide)
  have hlt : i < its.toArray.size := by
   have := (List.getElem?_eq_some_iff.mp hu).1
   simpa using this
  have hel : e < s.heap.objs.size := Heap.lt_size he
  have hil : it < s.heap.objs.size := by
   obtain ⟨_, q, _⟩ := hit
   exact Heap.lt_size q
  refine wpAny_pyNext_enum_itemD (Draws.tuple (show X.A.in1.handled = none from I.ok.hd hc) it a hai its.toArray) he ⟨hit, pt⟩ hlt hne (by simp [hne, Ne.symm hae]) fun y h' tk hy ho hst hT hsz hk => ?_
  obtain rfl : u = y := by
   have e1 : its[i]? = some y := by simpa using hy
   rw [hu] at e1
   exact Option.some.inj e1
  refine ⟨_, rfl, wpAny_letOwnedTupleGo_enum (s := { s with heap := h', toks := tk + 1 }) ho fun h'' he' sb => ?_⟩
  have ne : s.heap.objs.size ≠ e := Nat.ne_of_gt hel
  have new : ObjOk X.prog X.w (upd H s.heap.objs.size (.tup [.int (i : Nat), x])) h'' s.heap.objs.size (.tup [.int (i : Nat), x]) :=
   ⟨by show 2 ≤ sizeLine; decide, [.int i tk, u], .cons ⟨_, rfl⟩ (.cons ru .nil), ⟨_, (sb.2 _ ne).trans hT, rfl, _, rfl⟩⟩
  have I1 : Inv X pins σ (upd H s.heap.objs.size (.tup [.int (i : Nat), x])) { s with heap := h'', toks := tk + 1 } :=
   I.turnedNew (ch := [e, it]) (fun b ob hb q => (sb.2 b (fun z => hb (by simp [z]))).trans (hk b ob (fun z => hb (by simp [z])) (fun z => hb (by simp [z])) q)) hf (Nat.le_refl _) new
  refine ⟨.ref s.heap.objs.size, _, I1, rfl, ⟨_, x, rfl, I.hok.fresh (Nat.le_refl _), rfl, fun ys hy => by rw [I.tuple_inj hy hq]; exact hx⟩, ⟨⟨u, ?_⟩, hst.1.at fun o q => (sb.2 it (Ne.symm hne)).trans q, hne⟩, fun b hb => ?_⟩
  · rw [show ((i + 1 : Nat) : Int) = (i : Int) + 1 by omega]
    exact he'
  · have hb' : b < s.heap.objs.size := by
     rcases (show b = e ∨ b = it by simpa using hb) with rfl | rfl
     · exact hel
     · exact hil
    rw [upd_ne (Nat.ne_of_lt hb')]
    exact (hf b hb).1
 done := by
  intro X hP hw hK hc i pins s σ H E I hf st hg
  subst hP hw hK
  obtain ⟨⟨old, he⟩, hit, hne⟩ := st
  obtain ⟨xs, hq, hx⟩ := hg
  obtain ⟨its, rv, p, _⟩ := I.tuple hq
  have pt : s.heap.IsTuple a its.toArray := p
  obtain ⟨f0, f1, f2, f3, f4, f5⟩ := hf it (by simp)
  have hai : a ≠ it := by
   obtain ⟨o, ho, c, _⟩ := id hit
   exact RX pt ho c (by decide)
  have hi : its.toArray[i]? = none := by
   have hl := rv.length
   simp
   omega
  have D : Draws X.prog X.w X.A.in1 it [it, a] i (fun _ _ => True) (fun j h => j = i ∧ h.IsTupleIter it a j ∧ h.IsTuple a its.toArray) :=
   { live := fun _ _ st => by
      obtain ⟨_, ⟨o, ho, _⟩, _⟩ := st
      exact ⟨o, ho⟩
     frame := fun _ _ _ st hk => ⟨st.1, st.2.1.at fun o e => hk it (by simp) o e, st.2.2.at fun o e => hk a (by simp) o e⟩
     item := fun j s Q E hj st _ => absurd st.1 (Nat.ne_of_lt hj)
     done := fun s Q E st hE => PySem.wpAny_nextOf_tuple_end (show X.A.in1.handled = none from I.ok.hd hc) st.2.1 st.2.2 hi hE }
  exact wpAny_pyNext_enum_endD D he ⟨rfl, hit, pt⟩ fun h' eb => ⟨rfl, I.turned (t' := s.toks) (fun b o hb q => eb b o hb q) f0 f1 f3 f4 f5⟩
 self := fun A i s Q E st h => by
  obtain ⟨⟨_, he⟩, _⟩ := st
  exact wpAny_pyIter_enum he h
def aeV (K : PySem.W.Frag) (ta : TA) : TI := fun σ H R => ta σ H fun vs H1 => ∃ a xs, vs = [.ref a] ∧ ((SqL K H1 a xs ∧ R (Ite K a) H1) ∨ (SqT K H1 a xs ∧ R (ItE K a) H1))
theorem Zm {X : Cx} {e : Expr} {ta : TA} {p pos tpos : Pos} {elts : List Expr} {kk : Nat} (hg : Gl X "enumerate") (hm : X.mg "enumerate" = none) (ha : PA X [e] ta) (hs : starEach [e] X.env = [(false, eval e X.env)] := by rfl) :
 PI X (.Tuple elts kk tpos) (.Call (.Name "enumerate" p) [e] [] pos) (aeV X.K ta) := by
 refine ⟨fun pins s σ H R I h => ?_⟩
 refine Call_ (ld_blt I hg hm boot_enumerate (PyProof.Rows.callWith_type1 (thn (ha.run pos pins s σ H _ I h) fun us s1 hh => ?_) hs rfl))
 obtain ⟨vs, H1, I1, r1, a, xs, rfl, q⟩ := hh
 cases r1 with
 | cons r rr =>
   cases rr
   cases r
   have two : ∀ b ∈ [s1.heap.objs.size + 1, s1.heap.objs.size], FpOk X pins H1 b := fun b hb => by
    have hle : s1.heap.objs.size ≤ b := by
     rcases (show b = s1.heap.objs.size + 1 ∨ b = s1.heap.objs.size by simpa using hb) with rfl | rfl
     · exact Nat.le_succ _
     · exact Nat.le_refl _
    exact I1.fpOk hle (I1.hok.fresh hle)
   rcases q with ⟨hq, q⟩ | ⟨hq, q⟩
   · obtain ⟨its, rv, pl, _⟩ := I1.list hq
     refine call_enumerate_list pl.isList fun h' he hit _ hk => wpAny_pyIter_enum he ?_
     exact ⟨s1.heap.objs.size + 1, [s1.heap.objs.size + 1, s1.heap.objs.size], _, _, H1, rfl, I1.kept (t' := s1.toks) hk, turn_enum a (s1.heap.objs.size + 1) s1.heap.objs.size, ⟨⟨.none, he⟩, hit, Nat.succ_ne_self _⟩, two, q⟩
   · obtain ⟨its, rv, pl, _⟩ := I1.tuple hq
     refine PySem.EnT.call_tup (show s1.heap.IsTuple a its.toArray from pl) fun h' he hit hk => wpAny_pyIter_enum he ?_
     exact ⟨s1.heap.objs.size + 1, [s1.heap.objs.size + 1, s1.heap.objs.size], _, _, H1, rfl, I1.kept (t' := s1.toks) hk, aab a (s1.heap.objs.size + 1) s1.heap.objs.size, ⟨⟨.none, he⟩, hit, Nat.succ_ne_self _⟩, two, q⟩
end L2
namespace Pk
open PySem PySem.Spec L2
def iW : Nat → List D → List D
 | _, [] => []
 | i, d :: ds => .tup [.int (i : Int), d] :: iW (i + 1) ds
theorem Dm : ∀ (i : Nat) (l : List D), (iW i l).length = l.length
 | _, [] => rfl
 | i, _ :: l => congrArg Nat.succ (Dm (i + 1) l)
theorem JQ : ∀ (i : Nat) (l : List D) (j : Nat) (z : D), (iW i l)[j]? = some z → ∃ d, l[j]? = some d ∧ z = .tup [.int ((i + j : Nat) : Int), d]
 | _, [], j, z, e => by simp [iW] at e
 | i, d :: l, 0, z, e => by
   simp [iW] at e
   exact ⟨d, rfl, e.symm⟩
 | i, d :: l, j + 1, z, e => by
   obtain ⟨d', h1, h2⟩ := JQ (i + 1) l j z (by simpa [iW] using e)
   exact ⟨d', by simpa using h1, by rw [h2]; congr 3; omega⟩
def D.lst : D → Option (List D)
 | .fl l => some l
 | .kl l => some l
 | .tup l => some l
 | _ => none
def Ln (m : M D) : M (List D) := m.bind fun d => M.opt (d.lst.map (iW 0))
section
variable {X : Cx} {T : Tb} {W : WX} {k kk : Nat} {pos p tpos : Pos} {elts : List Expr} {a : Expr} {ma : M D}
theorem ab5 {K : PySem.W.Frag} {B : Bs} {σ : L2.St} {w : Wd} {H : Hp} {fr : Fr} {a : Addr} {vs : List V} {l : List D} (sq : SqL K w.F a vs) (rl : au K T w vs l) : vJ K T B σ w H fr (Ite K a) (iW 0 l) := fun i w2 H2 l2 hs => ⟨fun hi => ⟨vs, oW hs (oW l2.1 sq), by rw [rl.length, ← Dm 0 l]; exact hi⟩, fun d' hd => by
 obtain ⟨d, hd1, rfl⟩ := JQ 0 l i d' hd
 obtain ⟨v, hv, rv⟩ := rl.get hd1
 have sq2 : SqL K H2 a vs := oW hs (oW l2.1 sq)
 refine ⟨⟨vs, v, sq2, hv⟩, fun y H3 hy B' σ' fr' h' R' => ?_⟩
 obtain ⟨Tp, x, rfl, nT, rfl, hx⟩ := hy
 have z := hx vs sq2
 rw [hv] at z
 cases z
 have nf : w2.F Tp = none := (R'.nP nT).1
 have lw := Wd.le_add (o := .tup [.int (i : Nat), v]) nf
 rw [Nat.zero_add]
 exact ⟨w2.add Tp (.tup [.int (i : Nat), v]), lw, R'.laid nT, .tup (SqT.of (by show upd w2.F Tp _ Tp = _; rw [upd_same])) (.cons (.int _) (.cons ((rv.mono l2).mono lw) .nil))⟩⟩
theorem adb {K : PySem.W.Frag} {B : Bs} {σ : L2.St} {w : Wd} {H : Hp} {fr : Fr} {a : Addr} {vs : List V} {l : List D} (sq : SqT K w.F a vs) (rl : au K T w vs l) : vJ K T B σ w H fr (ItE K a) (iW 0 l) := fun i w2 H2 l2 hs => ⟨fun hi => ⟨vs, dO hs (dO l2.1 sq), by rw [rl.length, ← Dm 0 l]; exact hi⟩, fun d' hd => by
 obtain ⟨d, hd1, rfl⟩ := JQ 0 l i d' hd
 obtain ⟨v, hv, rv⟩ := rl.get hd1
 have sq2 : SqT K H2 a vs := dO hs (dO l2.1 sq)
 refine ⟨⟨vs, v, sq2, hv⟩, fun y H3 hy B' σ' fr' h' R' => ?_⟩
 obtain ⟨Tp, x, rfl, nT, rfl, hx⟩ := hy
 have z := hx vs sq2
 rw [hv] at z
 cases z
 have lw := Wd.le_add (o := .tup [.int (i : Nat), v]) (R'.nP nT).1
 rw [Nat.zero_add]
 exact ⟨w2.add Tp (.tup [.int (i : Nat), v]), lw, R'.laid nT, .tup (SqT.of (by show upd w2.F Tp _ Tp = _; rw [upd_same])) (.cons (.int _) (.cons ((rv.mono l2).mono lw) .nil))⟩⟩
theorem adc {K : PySem.W.Frag} {w : Wd} {v : V} {d : D} {l : List D} (r : bA K T w v d) (e : d.lst = some l) : ∃ p vs, v = .ref p ∧ au K T w vs l ∧ (SqL K w.F p vs ∨ SqT K w.F p vs) := by
 cases r with
 | fl s r =>
   cases e
   exact ⟨_, _, rfl, r, .inl (SqL.of s)⟩
 | kl s r =>
   cases e
   exact ⟨_, _, rfl, r, .inl s⟩
 | tup s r =>
   cases e
   exact ⟨_, _, rfl, r, .inr s⟩
 | _ => cases e
theorem ab6 (s : aM X T W a ma) (hm : X.mg "enumerate" = none) (hg : Gl X "enumerate" := by rfl) (hs : starEach [a] X.env = [(false, eval a X.env)] := by rfl) : MN X T W (.Tuple elts kk tpos) (.Call (.Name "enumerate" p) [a] [] pos) (Ln ma) := fun B w σ H fr h Q r p =>
 Oh (Zm hg hm (pa_cons aX pa_nil (hs.trans (by rfl))) hs) (s B w σ H fr h _ r (aO.bind (VR := vV X.K T B σ) p fun d fr1 h1 w1 H1 x e1 l1 r1 rx p1 => by
  cases q : d.lst with
  | none => rw [q] at p1; exact p1.elim
  | some l =>
    rw [q] at p1
    obtain ⟨a, vs, rfl, rl, sq | sq⟩ := adc rx q
    · exact ⟨a, vs, rfl, .inl ⟨oW r1.sub sq, p1 w1 H1 (Ite X.K a) (Wd.le_refl _) r1 (ab5 sq rl)⟩⟩
    · exact ⟨a, vs, rfl, .inr ⟨dO r1.sub sq, p1 w1 H1 (ItE X.K a) (Wd.le_refl _) r1 (adb sq rl)⟩⟩))
end
end Pk
namespace Pk
open PySem PySem.Spec L2
inductive AllL {β : Type} (Q : Nat → β → Prop) : List (Nat × β) → Prop where
 | nil : AllL Q []
 | cons {a : Nat} {b : β} {l : List (Nat × β)} : Q a b → AllL Q l → AllL Q ((a, b) :: l)
theorem d7 {β : Type} {Q : Nat → β → Prop} : ∀ {l : List (Nat × β)}, AllL Q l → ∀ c i, aha c l = some i → Q c i
 | _, .nil, _, _, e => by cases e
 | _, @AllL.cons _ _ a b l q r, c, i, e => by
   rw [List.lookup_cons] at e
   cases h : c == a with
   | true =>
     rw [h] at e
     cases e
     rw [beq_iff_eq.mp h]
     exact q
   | false =>
     rw [h] at e
     exact d7 r c i e
theorem Zo {α : Type} {ms kws : List α} (idx : List Nat) (h : ms = pick idx kws) : ∀ q ∈ ms, q ∈ kws := fun q hq => by
 rw [h] at hq
 obtain ⟨i, _, e⟩ := List.mem_filterMap.mp hq
 exact ahd e
def ade (rows : List ((Tg × Tg) × Bool)) (t u : Tg) : Option Bool := match t, u with
 | .b a, .b b => U9 a b
 | t, u => aha (t, u) rows
inductive Do (K : PySem.W.Frag) (T : Tb) : List ((Tg × Tg) × Bool) → Prop where
 | nil : Do K T []
 | b {a : String} {c : Nat} {r : Bool} {l : List ((Tg × Tg) × Bool)} : PySem.W.kitOne K (Tg.v T (.b a)) (Tg.v T (.o c)) = some r → Do K T l → Do K T (((.b a, .o c), r) :: l)
 | o {c : Nat} {u : Tg} {r : Bool} {l : List ((Tg × Tg) × Bool)} : PySem.W.kitOne K (Tg.v T (.o c)) (u.v T) = some r → aaa K (T.cad c) → Do K T l → Do K T (((.o c, u), r) :: l)
theorem KJ {K : PySem.W.Frag} {T : Tb} : ∀ {l : List ((Tg × Tg) × Bool)}, Do K T l → ∀ t u b, aha (t, u) l = some b → PySem.W.kitOne K (t.v T) (u.v T) = some b ∧ ∀ c, t = .o c → aaa K (T.cad c)
 | _, .nil, _, _, _, e => by cases e
 | _, @Do.b _ _ a c r l q rr, t, u, b, e => by
   rw [List.lookup_cons] at e
   cases h : (t, u) == (Tg.b a, Tg.o c) with
   | true =>
     rw [h] at e
     cases e
     cases beq_iff_eq.mp h
     exact ⟨q, fun c' z => by cases z⟩
   | false =>
     rw [h] at e
     exact KJ rr t u b e
 | _, @Do.o _ _ c u' r l q i rr, t, u, b, e => by
   rw [List.lookup_cons] at e
   cases h : (t, u) == (Tg.o c, u') with
   | true =>
     rw [h] at e
     cases e
     cases beq_iff_eq.mp h
     exact ⟨q, fun c' z => by cases z; exact i⟩
   | false =>
     rw [h] at e
     exact KJ rr t u b e
theorem adf {K : PySem.W.Frag} {T : Tb} {l : List ((Tg × Tg) × Bool)} (h : Do K T l) : RQ K T (ade l) := by
 refine ⟨fun t u b e => ?_, fun c u b e => ?_⟩
 · cases t with
   | b a =>
     cases u with
     | b a' => exact kit_ty (ab3 _ _ _ e)
     | o c => exact (KJ h _ _ _ e).1
   | o c => exact (KJ h _ _ _ e).1
 · exact (KJ h _ _ _ e).2 c rfl
def nW (is : List Nat) (md : List D) (ds es : List D) : List D := ds ++ pick is (es ++ md)
theorem Vc {α : Type} {l : List α} : ∀ {is : List Nat}, (is.all fun i => decide (i < l.length)) = true → (pick is l).length = is.length
 | [], _ => rfl
 | i :: is, h => by
   rw [List.all_cons, Bool.and_eq_true] at h
   have hi : i < l.length := of_decide_eq_true h.1
   unfold pick
   rw [List.filterMap_cons, ag1 hi]
   exact congrArg Nat.succ (Vc h.2)
theorem aac {K : PySem.W.Frag} {T : Tb} {mv : List V} {md : List D} (is : List Nat) (hm : ∀ w, au K T w mv md) {n m : Nat} (h1 : (is.all fun i => decide (i < m + md.length)) = true) (w : Wd) (vs zs : List V) (ds es : List D) (r : au K T w vs ds) (z : au K T w zs es) (l1 : ds.length = n) (l2 : es.length = m) :
 au K T w (WY is vs mv zs) (nW is md ds es) ∧ (nW is md ds es).length = n + is.length :=
 ⟨r.append (Qt is (z.append (hm w))), by
  unfold nW
  rw [ag4, l1, Vc (by rw [ag4, l2]; exact h1)]⟩
theorem W0 {K : PySem.W.Frag} {T : Tb} {mv : List V} {md : List D} {ps ks : List Str} (is : List Nat) (hm : ∀ w, au K T w mv md) {n : Nat} (h1 : (is.all fun i => decide (i < ks.length + md.length)) = true) (h2 : n + is.length + 1 = ps.length) : ∀ (w : Wd) (vs zs : List V) (ds es : List D), au K T w vs ds → au K T w zs es → ds.length = n → es.length = ks.length →
 au K T w (WY is vs mv zs) (nW is md ds es) ∧ (nW is md ds es).length + 1 = ps.length := fun w vs zs ds es r z l1 l2 => by
 obtain ⟨a, b⟩ := aac is hm h1 w vs zs ds es r z l1 l2
 exact ⟨a, by rw [b]; exact h2⟩
theorem fn_cx0 {P : Program} {w : World} {K : PySem.W.Frag} {mg : Str → Option Value} {base : Heap} {k : Nat} {f : Addr} {fd : FuncData} {ps : List Str} {sp : Sp} (F : FnOk P w K mg base (L2.CX P w) k f fd ps sp) :
 FnOk P w K mg base CX0 k f fd ps (fun vs H Q _ => sp vs H Q fun _ _ _ => False) := by
 refine ⟨fun vs H Q _ q => F.len vs H Q _ q, fun A outer s H args us vs Q E hr e0 hb r hsp => codeAny_mono (F.run A outer s H args us vs Q _ hr e0 hb r hsp) fun r s' hq => ?_⟩
 cases r with
 | error e =>
   obtain ⟨a, B, H', cls, d, rfl, fl, hok, ub, na, os, ag, hE⟩ := (show L2.CX P w outer H s (fun _ _ _ => False) e s' from hq)
   exact hE.elim
 | ok fl => cases fl <;> exact hq
end Pk
namespace Pk
open PySem PySem.Spec L2
section
variable {P : Program} {w : World} {K : PySem.W.Frag} {mg : Str → Option Value} {base : Heap} {T : Tb} {k : Nat} {x qual : Str} {params : Arguments} {body : List Stmt} {scope : Scope} {dvs : List V} {kws : List (Str × V)} {f : Addr} {fd : FuncData} {N ps : List Str}
end
structure FnS (P : Program) (w : World) (K : PySem.W.Frag) (mg : Str → Option Value) (base : Heap) (T : Tb) (k c : Nat) (f : Addr) (n : Nat) (ks : List Str) (F : Fn) : Prop where
 run : ∀ (A : Around) (outer : List Env) (s : Shared) (H : Hp) (u0 : Value) (ur ws : List Value) (v0 : V) (vr zs : List V) (Q : VK) (E : XK), Room k A → Env0 P w K mg base A outer s H → RelV v0 u0 → Vals vr ur → Vals zs ws → zs.length = ks.length → vr.length ≤ sizeLine →
  (∀ p, H p = none → spI K T c n F (v0 :: (zs ++ [.ref p])) (upd H p (.tup vr)) Q E) → codeAny (model P w) A (.call (.ref f) ⟨u0 :: ur, ks.zip ws⟩) (CR (L2.CX P w) outer P w H s Q E) s
 made : Mk K (T.cad c) f
section
variable {P : Program} {w : World} {K : PySem.W.Frag} {mg : Str → Option Value} {base : Heap} {T : Tb} {k : Nat} {x qual : Str} {params : Arguments} {body : List Stmt} {scope : Scope} {f : Addr} {fd : FuncData} {N : List Str} {p0 pv : Str} {ks : List Str}
end
def QZ (ds es : List D) : List D := es ++ [.tup ds]
def XJ (m : Nat) (F : Fn) (ma : M D) (mk : M (List D)) : M D := ma.bind fun d => mk.bind fun es fr h => match d.its [] with
 | some ds => if ds.length ≤ big ∧ es.length = m then bZ fr (F (QZ ds es) h) else .err
 | none => .err
section
variable {X : Cx} {T : Tb} {W : WX} {k kk n c : Nat} {f : Addr} {ks : List Str} {F : Fn} {x : Str} {p pos apos : Pos} {e : Expr} {es : List Expr} {kws : List Keyword} {ma : M (List D)} {mo : M D} {mk : M (List D)}
end
section
open PySem.W
variable {M' : Model} {A : Around} {E : Value → Shared → Prop} {s : Shared}
end
section
variable {X : Cx} {T : Tb} {W : WX} {k kk n c : Nat} {f : Addr} {ks : List Str} {F : Fn} {x : Str} {p sp_ pos apos : Pos} {e : Expr} {kws : List Keyword} {mo : M D} {mk : M (List D)}
end
end Pk
namespace Pk
open PySem PySem.Spec L2
structure af9 (X : Cx) (T : Tb) (k : Nat) (op : Operator) (mt : Nat → Option Fn) : Prop where
 ex : ∀ c F, mt c = some F → ∃ (kk : Nat) (f : Addr) (fd : FuncData) (ps : List Str), Cls X.K (T.cad c) ∧ Meth X.K (T.cad c) (PySem.dunder op.info.2) f ∧ PySem.W.selfFirst X.K (T.cad c) = true ∧ u6 X.prog X.w X.K X.mg X.base T kk f fd ps F ∧ Bn X.K T fd ps 2 [] (aK []) ∧ kk ≤ k
def HX (h : Hh) (x y : D) : Option Nat := match x.ins h, y.ins h with
 | some (c, _), some (c', _) => if c = c' then some c else none
 | _, _ => none
def Ow (mt : Nat → Option Fn) (h : Hh) (x y : D) : Option Fn := match HX h x y with
 | some c => mt c
 | none => none
def aad (mt : Nat → Option Fn) (ma mb : M D) : M D := ma.bind fun x => mb.bind fun y fr h => match Ow mt h x y with
 | some F => bZ fr (F [x, y] h)
 | none => .err
section
variable {X : Cx} {T : Tb} {W : WX} {k : Nat} {a b : Expr} {ma mb : M D} {pos : Pos} {op : Operator}
end
end Pk
namespace PySem
namespace ExS
open PySem.W PySem.Calls PyProof.Rows PySem.HandSPX
abbrev asg (f : Str) (q1 q2 q3 q4 : Pos) : Stmt := .Assign [.Attribute (.Name "self" q1) f q2] (.Name f q3) q4
abbrev sup (e : Expr) (p0 p1 p2 p3 p4 : Pos) : Stmt := .Expr (.Call (.Attribute (.Call (.Name "super" p0) [] [] p1) "__init__" p2) [e] [] p3) p4
structure Ox (prog : Program) (K : Frag) (C fI : Addr) (params : Arguments) (body : List Stmt) (scope : Scope) (qual : Str) : Prop where
 cls : ∃ nm q N bs bm sn sub ab col dd k0 k1 k2 k3 k5, K.lookup C = some (excClassObj nm q C N bs bm true sn sub ab col dd k0 k1 k2 k3 k5 "ValueError.__new__") ∧ refsVE bm = true ∧ alongIn K "__init__" bm = some (some (.builtin "ValueError.__init__"))
 sa : findIn K (.ref C) "__setattr__" = some (some (.builtin "object.__setattr__"))
 iC : findIn K (.ref C) "__init__" = some (some (.ref fI))
 tC : typeIn K (.ref fI) = some (.type "function")
 subB : subIn K (.ref C) (.type "ValueError") = some true
 subC : mroIn K C (.ref C) = some true
 opq : nsIn K cStatics "thirdparty.any" = some none
 top : (prog.main.scope.names.lookup ("super" : Str)).isSome = false
 fn : ∃ (oc : Value) (od : Option Addr) (kV doc pm : Value) (an : Option Addr) (cda : Addr) (ct : Value) (osl : Array (Option Value)) (cc : Addr),
  K.lookup fI = some ⟨oc, od, .func (ksFn "__init__" qual params body scope .none kV doc pm an (.ref cda) ct cc), osl⟩ ∧ codeIn K (.ref cda) qual = true ∧
  (∃ (ccl : Value) (cdd : Option Addr) (vs : Array Value) (ccs : Array (Option Value)) (file : Str) (tf : Tok), K.lookup cda = some ⟨ccl, cdd, .fields vs, ccs⟩ ∧ vs[2]? = some (.str file tf) ∧ ((prog.main.file : Str) == file) = true) ∧
  ∃ (cl : Value) (cld : Option Addr) (csl : Array (Option Value)), K.lookup cc = some ⟨cl, cld, .cell (some (.ref C)), csl⟩
section
variable {prog : Program} {w : World} {M : Model} {A : Around} {E : Value → Shared → Prop} {s : Shared}
theorem aae {t : Sem Value} {Q : List Value → Shared → Prop} (h : wpAny M A t (fun v s => Q [v] s) E s) : wpAny M A (spliced [(false, t)]) Q E s := by
 unfold spliced
 refine wpAny_bind (wpAny_mono h (fun v s' h' => ?_) fun _ _ x => x)
 refine wpAny_bind (wpAny_pure ?_)
 refine wpAny_bind (wpAny_holding ?_)
 exact Calls.spliced_nil (wpAny_pure h')
theorem ab7 {h : Heap} {g : Array GenState} {d : Drawn} {t : Nat} {os : OsState} {nm q : Str} {C N : Addr} {bs bm : List Value} {hdct : Bool} {sn : List Str} {sub : List Value} {ab : Bool} {col : Option Bool} {dd : Option Addr} {k0 k1 k2 k3 k5 : Option Value} {u x t0 : Addr} {rest : List Value} {Q : Value → Shared → Prop}
 (hC : h.get? C = some (excClassObj nm q C N bs bm hdct sn sub ab col dd k0 k1 k2 k3 k5 "ValueError.__new__")) (he : h.get? x = some (excO C t0)) (hu : h.get? u = some (kxs_mw "ValueError.__init__" x)) (hz : rest.length ≤ sizeLine)
 (hq : ∀ h' t1, (∀ b o, b ≠ x → h.get? b = some o → h'.get? b = some o) → h'.get? x = some (excO C t1) → Q .none ⟨h', g, d, t, os⟩) :
 wpAny (model prog w) A (call (.ref u) rest) Q E ⟨h, g, d, t, os⟩ := by
 refine wpAny_call (codeAny_of_tree ?_)
 show wpAny _ A.in1 (callAny (.ref u) ⟨rest, []⟩) _ _ _
 simp only [callAny]
 refine wpAny_bind (wpAny_load hu ?_)
 simp only [kxs_mw, show (Value.type "method-wrapper" == Value.type "method" || Value.type "method-wrapper" == Value.type "builtin_function_or_method" || Value.type "method-wrapper" == Value.type "method-wrapper") = true by decide, if_true]
 refine KFB.if_so (by decide) ?_
 refine wpAny_bind (check_bound_init F.excBase_ValueError.toExcCallFacts hC he rfl ?_)
 refine wpAny_bind (wpAny_pure (wpAny_pure ?_))
 refine ⟨plainId_quiet F.excBase_ValueError.init.plain _, codeAny_builtin F.excBase_ValueError.initEntry ?_⟩
 exact exc_init_tree (cls := .ref C) (t0 := t0) (dv := none) (c2 := .none) (c3 := .none) (b4 := .bool false) he hz fun h' k e' _ => hq h' _ k e'
end
theorem ab8 {K : Frag} {h : Heap} {b : Addr} (X : K.In h) (hb : h.objs.size ≤ b) : K.lookup b = none := by
 cases e : K.lookup b with
 | none => rfl
 | some o => exact absurd (Heap.lt_size (X _ _ e)) (Nat.not_lt.mpr hb)
theorem Vd {K : Frag} {h h' : Heap} {x : Addr} (X : K.In h) (hx : K.lookup x = none) (k : ∀ b o, b ≠ x → h.get? b = some o → h'.get? b = some o) : K.In h' := fun a o e =>
 k a o (fun z => by rw [z, hx] at e; cases e) (X a o e)
section
variable {prog : Program} {w : World} {A : Around} {R : Result → Shared → Prop} {s : Shared} {K : Frag} {C fI : Addr} {params : Arguments} {scope : Scope} {qual : Str} {ex : Expr} {p0 p1 p2 p3 p4 : Pos} {rest : List Stmt} {mg mb : Str → Option Value}
theorem enter (T : Ox prog K C fI params (sup ex p0 p1 p2 p3 p4 :: rest) scope qual) {x t0 : Addr} {us : List Value} {binds : List (Str × Value)} (X : K.In s.heap) (hlim : s.heap.NoLimit) (hx : s.heap.get? x = some (excO C t0)) (hnx : K.lookup x = none) (hroom : A.depth < recursionLimit)
 (hG : s.heap.Ns mainGlobals mg) (hg : mg "super" = none) (hB : s.heap.Ns builtinsNs mb) (hb : mb "super" = some (.type "super"))
 (hbind : ∀ (kV doc pm : Value) (an : Option Addr) (cdv ct : Value) (cc : Addr), bindArgs (ksFn "__init__" qual params (sup ex p0 p1 p2 p3 p4 :: rest) scope .none kV doc pm an cdv ct cc) ⟨.ref x :: us, []⟩ = pure binds)
 (hself : binds.reverse.lookup ("self" : Str) = some (.ref x)) (hloc : ∀ y ∈ binds, scope.names.lookup y.1 = some .local)
 (hcell : ∀ y ∈ scope.names, y.2 ≠ .cell) (hp : ∃ ar : Arg, (params.posonlyargs ++ params.args).head? = some ar ∧ ar.arg = "self") (hks : scope.names.lookup ("super" : Str) = some .globalImplicit) (hkc : scope.names.lookup ("__class__" : Str) = some .free) (hka : scope.names.lookup ("self" : Str) = some .local)
 (hco : scope.isCoroutine = false) (hgen : scope.isGenerator = false) (hk : scope.kind = .function)
 (hE : ∀ (cda cc : Addr) (L : Addr) (A' : Around) (h : Heap) (g : Array GenState) (d : Drawn) (t : Nat) (os : OsState) (E' : Value → Shared → Prop) (Q : Value → Shared → Prop), (∀ b o, s.heap.get? b = some o → h.get? b = some o) → h.Ns L (fun y => binds.reverse.lookup y) → (∀ v t', Q v ⟨h, g, d, t', os⟩) → wpAny (model prog w) A' (eval ex (ksEnv qual scope L fI (.ref cda) cc)) Q E' ⟨h, g, d, t, os⟩)
 (hin : ∀ (cda cc L : Addr), interactive (ksEnv qual scope L fI (.ref cda) cc) = false)
 (hev : ∀ (cda cc L : Addr), ∃ pl : Sem Bool, eval (.Call (.Attribute (.Call (.Name "super" p0) [] [] p1) "__init__" p2) [ex] [] p3) (ksEnv qual scope L fI (.ref cda) cc) = (do
  let ov ← attributeBase (.Call (.Name "super" p0) [] [] p1) "__init__" (ksEnv qual scope L fI (.ref cda) cc) (eval (.Call (.Name "super" p0) [] [] p1) (ksEnv qual scope L fI (.ref cda) cc))
  standAt p2.atName
  let (f, first) ← holding [ov] (getMethod ov "__init__" pl)
  callWith p3 f first (backTo p3 (starEach [ex] (ksEnv qual scope L fI (.ref cda) cc))) []))
 (hsw : ∀ (cda cc L : Addr), swapsWith (.Call (.Attribute (.Call (.Name "super" p0) [] [] p1) "__init__" p2) [ex] [] p3) none p4.line (ksEnv qual scope L fI (.ref cda) cc) = pure false)
 (hst : ∀ env : Env, starEach [ex] env = [(false, eval ex env)])
 (hq : ∀ (cda cc : Addr) h' tk t1, (∀ b o, b ≠ x → s.heap.get? b = some o → h'.get? b = some o) → h'.get? x = some (excO C t1) → h'.Ns s.heap.objs.size (fun y => binds.reverse.lookup y) →
  wpAny (model prog w) (A.deeper (ksEnv qual scope s.heap.objs.size fI (.ref cda) cc)) (execs rest (ksEnv qual scope s.heap.objs.size fI (.ref cda) cc)) (fun f s' => R (.ok (.ret (match f with | .ret v => v | _ => .none))) s')
   (fun _ _ => False) { s with heap := h', toks := tk }) : codeAny (model prog w) A (.call (.ref fI) ⟨.ref x :: us, []⟩) R s := by
 obtain ⟨oc, od, kV, doc, pm, an, cda, ct, osl, cc, ho, hcd, ⟨ccl, cdd, vs, ccs, file, tf, hcode, hvs, hfile⟩, cl, cld, csl, hcel⟩ := T.fn
 obtain ⟨nm, q, N, bs, bm, sn, sub, ab, col, dd, k0, k1, k2, k3, k5, hC, hbm, hal⟩ := T.cls
 obtain ⟨ar, hp, har⟩ := hp
 have hcl : clsIn K C = some { name := nm, bases := bs, mro := .ref C :: bm, ns := N, qualname := q, hasDict := true, slotNames := sn, subclasses := sub, abstract := ab, collection := col, hasDel := false } := by unfold clsIn; rw [hC] <;> rfl
 refine ks_codeAny_call_defAt (fd := ksFn "__init__" qual params (sup ex p0 p1 p2 p3 p4 :: rest) scope .none kV doc pm an (.ref cda) ct cc) (body := sup ex p0 p1 p2 p3 p4 :: rest) (binds := binds) hroom (X _ _ ho) rfl hlim (codeRec_of X hcd) rfl (BindsTo.of_eq (hbind kV doc pm an (.ref cda) ct cc)) hcell hloc (fun h₁ hns hk₁ => ?_) hco hgen hk
 obtain ⟨hp0, g, d, t, os⟩ := s
 show wpAt (model prog w) (A.deeper (ksEnv qual scope hp0.objs.size fI (.ref cda) cc)) (.func (sup ex p0 p1 p2 p3 p4 :: rest) (ksEnv qual scope hp0.objs.size fI (.ref cda) cc)) (execs (sup ex p0 p1 p2 p3 p4 :: rest) (ksEnv qual scope hp0.objs.size fI (.ref cda) cc)) _ _ _
 have X₁ : K.In h₁ := X.keeps hk₁
 have hx₁ := hk₁ _ _ hx
 have hC₁ := X₁ _ _ hC
 have hxC : x ≠ C := fun z => by
  rw [z, hC₁] at hx₁
  cases hx₁
 obtain ⟨pl, hev⟩ := hev cda cc hp0.objs.size
 refine ks_wpAt_execs_cons (ks_wpAt_Expr_any (ks_wpAt_MethodCall (pl := pl) ?_ hev) (hin _ _ _) (hsw _ _ _))
 refine ks_wpAt_super_base (fd := ksFn "__init__" qual params (sup ex p0 p1 p2 p3 p4 :: rest) scope .none kV doc pm an (.ref cda) ct cc) hks hkc (by decide) rfl (X₁ _ _ ho) rfl hp rfl (X₁ _ _ hcode) rfl hvs hfile T.top ?_
 refine ks_loadName_global hk hks (Calls.loadGlobal_builtin (hG.keeps hk₁) hg (hB.keeps hk₁) hb ⟨rfl, ?_⟩)
 refine wpAny_loadName_free hk hkc rfl ⟨_, X₁ _ _ hcel, rfl⟩ ?_
 rw [har]
 refine wpAny_loadName_local hk hka hns hself ?_
 refine ks_wpAny_isType_cls hC₁ rfl ⟨rfl, ?_⟩
 refine ks_wpAny_call_super hC₁ rfl hx₁ rfl (fun c e => by cases e) (looks_mroIn X₁ T.subC) (fun h₂ hso k₂ => ?_)
 have X₂ : K.In h₂ := X₁.keeps k₂
 have hx₂ := k₂ _ _ hx₁
 have I₂ : InstAt h₂ x (excO C t0) C none := ⟨hx₂, rfl, rfl, trivial⟩
 refine kxs_getMethod kxs_ValueError hso (looks_opaque X₂ T.opq) (l₀ := .ref C :: bm) ((looks_clsIn X₂ hcl).andThen .now) (by simp [List.dropWhile_cons]) X₂ hal (I₂.type.andThen (looks_subIn X₂ T.subB)) hxC rfl ?_
 have k₃ : ∀ b o, h₂.get? b = some o → (h₂.push (kxs_mw "ValueError.__init__" x)).get? b = some o := fun b o e => Heap.get?_push_of_some _ e
 have hu : (h₂.push (kxs_mw "ValueError.__init__" x)).get? h₂.objs.size = some (kxs_mw "ValueError.__init__" x) := Heap.get?_push_at rfl rfl
 refine kxs_callWith (i := "ValueError.__init__") (x := x) (by rw [hst]; rfl) ?_
 rw [hst]
 refine evalArgs_plain ?_
 show wpAny _ _ (spliced [(false, eval ex (ksEnv qual scope hp0.objs.size fI (.ref cda) cc))]) _ _ _
 refine aae (hE cda cc hp0.objs.size _ _ _ _ _ _ _ _ (fun b o e => k₃ _ _ (k₂ _ _ (hk₁ _ _ e))) ((hns.keeps k₂).keeps k₃) fun v t' => ⟨hu, ?_⟩)
 refine ab7 (k₃ _ _ (k₂ _ _ hC₁)) (k₃ _ _ hx₂) hu (by show 1 ≤ sizeLine; decide) fun h₄ t1 k₄ hx₄ => ?_
 have hxL : hp0.objs.size ≠ x := Nat.ne_of_gt (Heap.lt_size hx)
 refine wpAt_of_wpAny (wpAny_mono (hq cda cc h₄ _ t1 (fun b o hb e => k₄ b o hb (k₃ _ _ (k₂ _ _ (hk₁ _ _ e)))) hx₄ ?_) (fun _ _ z => z) fun _ _ z => z.elim)
 obtain ⟨o, es, ep, eo, r⟩ := (hns.keeps k₂).keeps k₃
 exact ⟨o, es, ep, k₄ _ _ hxL eo, r⟩
end
abbrev Px : Type := Str × Pos × Pos × Pos × Pos
abbrev M6 (gs : List Px) : List Stmt := gs.map fun g => asg g.1 g.2.1 g.2.2.1 g.2.2.2.1 g.2.2.2.2
theorem Ay {α : Type} (f g : Str) (y : α) (fs : List (Str × α)) : ((f, y) :: fs).lookup g = if g = f then some y else fs.lookup g := by
 by_cases h : g = f
 · subst h
   simp [aha]
 · have e : (g == f) = false := by simpa using h
   rw [if_neg h]
   simp [aha, e]
theorem Qu {α : Type} {y : Str} : ∀ {l : List (Str × α)} {v : α}, l.lookup y = some v → y ∈ l.map (·.1)
 | [], v, h => by cases h
 | (f, z) :: l, v, h => by
   rw [Ay] at h
   by_cases e : y = f
   · rw [e]; exact ag9 ..
   · rw [if_neg e] at h
     exact ahn _ (Qu h)
theorem Ve {α : Type} {y : Str} : ∀ (l r : List (Str × α)), (l ++ r).lookup y = match l.lookup y with | some v => some v | none => r.lookup y
 | [], r => rfl
 | (f, z) :: l, r => by
   rw [ahh, Ay, Ay]
   by_cases e : y = f
   · rw [if_pos e, if_pos e]
   · rw [if_neg e, if_neg e]; exact Ve l r
theorem look_none {α : Type} {y : Str} {l : List (Str × α)} (h : y ∉ l.map (·.1)) : l.lookup y = none := by
 cases e : l.lookup y with
 | none => rfl
 | some v => exact absurd (Qu e) h
theorem Vf {α : Type} {y : Str} : ∀ {l : List (Str × α)}, (l.map (·.1)).Nodup → l.reverse.lookup y = l.lookup y
 | [], _ => rfl
 | (f, z) :: l, h => by
   rw [ag0, List.nodup_cons] at h
   have e1 : ((f, z) :: l).lookup y = if y = f then some z else l.lookup y := Ay f y z l
   have e2 : [(f, z)].lookup y = if y = f then some z else none := Ay f y z []
   rw [List.reverse_cons, Ve, Vf h.2, e1, e2]
   by_cases e : y = f
   · subst e
     rw [look_none h.1, if_pos rfl]
   · rw [if_neg e, if_neg e]
     cases l.lookup y <;> rfl
structure StX (h0 h : Heap) (x C : Addr) (done : List (Str × Value)) : Prop where
 keep : ∀ b o, b ≠ x → h0.get? b = some o → h.get? b = some o
 big : h0.objs.size ≤ h.objs.size
 at_ : ∃ (t1 : Addr) (dv : Option Addr), h.get? x = some { cls := .ref C, dict := dv, data := .fields #[.ref t1, .none, .none, .none, .bool false, .none] } ∧
  ((done = [] ∧ dv = none) ∨ ∃ (dx : Addr) (m : Str → Option Value), dv = some dx ∧ h0.objs.size ≤ dx ∧ dx ≠ x ∧ h.Ns1 dx m ∧ ∀ y, m y = done.lookup y)
section
variable {prog : Program} {w : World} {A : Around} {E : Value → Shared → Prop} {K : Frag} {C fI L x : Addr} {scope : Scope} {qual : Str} {cda cc : Addr} {m : Str → Option Value} {h0 : Heap} {g : Array GenState} {d : Drawn} {os : OsState} {Q : Flow → Shared → Prop} {cd : ClassData}
theorem stores (X0 : K.In h0) (hnx : K.lookup x = none) (hLx : L ≠ x) (hL0 : L < h0.objs.size) (hcl : clsIn K C = some cd) (hm : refsVE cd.mro = true) (hh : cd.hasDict = true) (sa : findIn K (.ref C) "__setattr__" = some (some (.builtin "object.__setattr__"))) (hk : scope.kind = .function) (hself : m "self" = some (.ref x)) (ls : scope.names.lookup ("self" : Str) = some .local)
 (hsw : ∀ g : Px, swapsWith (.Name g.1 g.2.2.2.1) (some (.Attribute (.Name "self" g.2.1) g.1 g.2.2.1)) g.2.2.2.2.line (ksEnv qual scope L fI (.ref cda) cc) = pure false) (hns0 : h0.Ns L m) :
 ∀ (gs : List Px) (vs : List Value) (done : List (Str × Value)) (h : Heap) (t : Nat), (∀ g ∈ gs, (g.1 == ("__debug__" : Str)) = false ∧ scope.names.lookup g.1 = some .local ∧ findIn K (.ref C) g.1 = some none) → gs.length = vs.length → (∀ (i : Nat) (f : Str) (v : Value), (gs.map (·.1))[i]? = some f → vs[i]? = some v → m f = some v) → done.length + gs.length ≤ 500 → StX h0 h x C done →
   (∀ h' t', StX h0 h' x C (((gs.map (·.1)).zip vs).reverse ++ done) → Q .next ⟨h', g, d, t', os⟩) → wpAny (model prog w) A (execs (M6 gs) (ksEnv qual scope L fI (.ref cda) cc)) Q E ⟨h, g, d, t, os⟩
 | [], vs, done, h, t, _, hl, _, _, S, hq => by
   cases vs with
   | nil => exact wpAny_execs_nil (hq h t S)
   | cons v vs => cases hl
 | a :: gs, vs, done, h, t, hg, hl, hv, hlen, S, hq => by
   cases vs with
   | nil => cases hl
   | cons v vs =>
     obtain ⟨n1, n2, n3⟩ := hg a ag9
     have hva : m a.1 = some v := hv 0 a.1 v rfl rfl
     obtain ⟨t1, dv, hx, hd⟩ := S.at_
     have X : K.In h := Vd X0 hnx S.keep
     have hns : h.Ns L m := by
      obtain ⟨o, es, ep, eo, r⟩ := hns0
      exact ⟨o, es, ep, S.keep _ _ hLx eo, r⟩
     have go : ∀ h' t', StX h0 h' x C ((a.1, v) :: done) → wpAny (model prog w) A (execs (M6 gs) (ksEnv qual scope L fI (.ref cda) cc)) Q E ⟨h', g, d, t', os⟩ := fun h' t' S' => by
      refine stores X0 hnx hLx hL0 hcl hm hh sa hk hself ls hsw hns0 gs vs ((a.1, v) :: done) h' t' (fun b hb => hg b (ahn _ hb)) (Nat.succ.inj hl) (fun i f u e1 e2 => hv (i + 1) f u e1 e2) (by simp only [ag3] at hlen ⊢; omega) S' fun h2 t2 S2 => hq h2 t2 ?_
      have e : ((List.map (·.1) (a :: gs)).zip (v :: vs)).reverse ++ done = ((gs.map (·.1)).zip vs).reverse ++ (a.1, v) :: done := by
       simp
      rw [e]
      exact S2
     refine wpAny_execs_cons (plainObj_wpAny_Assign_Attribute ?_ (hsw a))
     refine wpAny_Name (wpAny_loadName_local hk (show (ksEnv qual scope L fI (.ref cda) cc).kindOf a.1 = some .local from n2) hns hva ?_) n1
     refine wpAny_Name (wpAny_loadName_local hk (show (ksEnv qual scope L fI (.ref cda) cc).kindOf "self" = some .local from ls) hns hself ?_) (by decide)
     rcases hd with ⟨rfl, rfl⟩ | ⟨dx, m0, rfl, dn, dne, hn1, hmm⟩
     · refine set_plain X (ox := { cls := .ref C, dict := none, data := .fields #[.ref t1, .none, .none, .none, .bool false, .none] }) (od := none) ⟨hx, rfl, rfl, trivial⟩ sa ?_
       refine exc_osa X hx hcl hm hh n3 (fun h₃ tk₃ dx k₃ dn dne hx₃ hn₃ => ?_)
       have zz : dx < h₃.objs.size := by
        obtain ⟨o, es, ep, eo, _⟩ := hn₃
        exact Heap.lt_size eo
       refine go h₃ _ ⟨fun b o hb e => k₃ b o hb (S.keep b o hb e), Nat.le_of_lt (Nat.lt_of_le_of_lt (Nat.le_trans S.big dn) zz), t1, some dx, hx₃, .inr ⟨dx, _, rfl, Nat.le_trans S.big dn, dne, hn₃, fun y => ?_⟩⟩
       · rw [Ay]
         rfl
     · obtain ⟨oD, es, ep, hoD, r⟩ := id hn1
       have hw : Within m0 (done.map (·.1)) := fun y hy => by
        rw [hmm y] at hy
        cases e : done.lookup y with
        | none => exact absurd e hy
        | some u => exact Qu e
       refine set_plain X (ox := { cls := .ref C, dict := some dx, data := .fields #[.ref t1, .none, .none, .none, .bool false, .none] }) (od := some oD) ⟨hx, rfl, rfl, hoD⟩ sa ?_
       refine OEX.osa_old X hx hn1 hw (by rw [agZ]; omega) hcl hm hh n3 (fun h₃ tk₃ k₃ hn₃ => ?_)
       have zz : dx < h₃.objs.size := by
        obtain ⟨o, es, ep, eo, _⟩ := hn₃
        exact Heap.lt_size eo
       refine go h₃ _ ⟨fun b o hb e => k₃ b o (fun z => ?_) (S.keep b o hb e), Nat.le_of_lt (Nat.lt_of_le_of_lt dn zz), t1, some dx, k₃ _ _ (Ne.symm dne) hx, .inr ⟨dx, _, rfl, dn, dne, hn₃, fun y => ?_⟩⟩
       · rw [z] at e
         exact absurd (Heap.lt_size e) (Nat.not_lt.mpr dn)
       · rw [Ay, hmm y]
end
structure Vg (K : Frag) (params : Arguments) (scope : Scope) (qual : Str) (ex : Expr) (p0 p1 p2 p3 p4 : Pos) (gs : List Px) (Ok : L2.Hp → List L2.V → Prop) : Prop where
 bind : ∀ (kV doc pm : Value) (an : Option Addr) (cdv ct : Value) (cc x : Addr) (us : List Value), us.length = gs.length → bindArgs (ksFn "__init__" qual params (sup ex p0 p1 p2 p3 p4 :: M6 gs) scope .none kV doc pm an cdv ct cc) ⟨.ref x :: us, []⟩ = pure ((("self" : Str) :: gs.map (·.1)).zip (.ref x :: us))
 nd : (("self" : Str) :: gs.map (·.1)).Nodup
 len : gs.length ≤ 100
 loc : ∀ y ∈ ("self" : Str) :: gs.map (·.1), scope.names.lookup y = some .local
 dbg : ∀ g ∈ gs, (g.1 == ("__debug__" : Str)) = false
 cell : ∀ y ∈ scope.names, y.2 ≠ .cell
 hp : ∃ ar : Arg, (params.posonlyargs ++ params.args).head? = some ar ∧ ar.arg = "self"
 ks : scope.names.lookup ("super" : Str) = some .globalImplicit
 kc : scope.names.lookup ("__class__" : Str) = some .free
 co : scope.isCoroutine = false
 gen : scope.isGenerator = false
 k : scope.kind = .function
 hE : ∀ (H0 : L2.Hp) (vs : List L2.V) (us : List Value), Ok H0 vs → L2.Vals vs us → vs.length = gs.length → ∀ (cda cc L x fI : Addr) (prog : Program) (w : World) (A' : Around) (h0 h : Heap) (g : Array GenState) (d : Drawn) (t : Nat) (os : OsState) (E' : Value → Shared → Prop) (Q : Value → Shared → Prop), K.In h → L2.HOk prog w H0 h0 → (∀ b o, h0.get? b = some o → h.get? b = some o) →
  h.Ns L (fun y => ((("self" : Str) :: gs.map (·.1)).zip (Value.ref x :: us)).reverse.lookup y) → (∀ v t', Q v ⟨h, g, d, t', os⟩) → wpAny (model prog w) A' (eval ex (ksEnv qual scope L fI (.ref cda) cc)) Q E' ⟨h, g, d, t, os⟩
 hin : ∀ (fI cda cc L : Addr), interactive (ksEnv qual scope L fI (.ref cda) cc) = false
 hev : ∀ (fI cda cc L : Addr), ∃ pl : Sem Bool, eval (.Call (.Attribute (.Call (.Name "super" p0) [] [] p1) "__init__" p2) [ex] [] p3) (ksEnv qual scope L fI (.ref cda) cc) = (do
     let ov ← attributeBase (.Call (.Name "super" p0) [] [] p1) "__init__" (ksEnv qual scope L fI (.ref cda) cc) (eval (.Call (.Name "super" p0) [] [] p1) (ksEnv qual scope L fI (.ref cda) cc))
     standAt p2.atName
     let (f, first) ← holding [ov] (getMethod ov "__init__" pl)
     callWith p3 f first (backTo p3 (starEach [ex] (ksEnv qual scope L fI (.ref cda) cc))) [])
 hsw : ∀ (fI cda cc L : Addr), swapsWith (.Call (.Attribute (.Call (.Name "super" p0) [] [] p1) "__init__" p2) [ex] [] p3) none p4.line (ksEnv qual scope L fI (.ref cda) cc) = pure false
 hst : ∀ env : Env, starEach [ex] env = [(false, eval ex env)]
 hsw2 : ∀ (fI cda cc L : Addr) (g : Px), swapsWith (.Name g.1 g.2.2.2.1) (some (.Attribute (.Name "self" g.2.1) g.1 g.2.2.1)) g.2.2.2.2.line (ksEnv qual scope L fI (.ref cda) cc) = pure false
theorem zip_get {α : Type} : ∀ {ps : List Str} {us : List α} {i : Nat} {f : Str} {v : α}, ps.Nodup → ps[i]? = some f → us[i]? = some v → (ps.zip us).lookup f = some v
 | [], _, i, f, v, _, e, _ => by simp at e
 | _ :: _, [], i, f, v, _, _, e => by simp at e
 | p :: ps, u :: us, 0, f, v, _, e1, e2 => by
   simp at e1 e2
   subst e1 e2
   simp [aha]
 | p :: ps, u :: us, i + 1, f, v, nd, e1, e2 => by
   rw [List.nodup_cons] at nd
   have e1' : ps[i]? = some f := by simpa using e1
   have e2' : us[i]? = some v := by simpa using e2
   rw [List.zip_cons_cons, Ay, if_neg (fun z => nd.1 (by rw [← z]; exact ahd e1'))]
   exact zip_get nd.2 e1' e2'
theorem aaf {α : Type} {ps : List Str} {us : List α} (hl : ps.length = us.length) : (ps.zip us).map (·.1) = ps := by
 rw [List.map_fst_zip]
 omega
section
variable {prog : Program} {w : World} {A : Around} {R : Result → Shared → Prop} {s : Shared} {K : Frag} {C fI : Addr} {params : Arguments} {scope : Scope} {qual : Str} {ex : Expr} {p0 p1 p2 p3 p4 : Pos} {gs : List Px} {Ok : L2.Hp → List L2.V → Prop} {H0 : L2.Hp} {h00 : Heap} {mg mb : Str → Option Value}
theorem aag (T : Ox prog K C fI params (sup ex p0 p1 p2 p3 p4 :: M6 gs) scope qual) (S : Vg K params scope qual ex p0 p1 p2 p3 p4 gs Ok) (hno : ∀ g ∈ gs, findIn K (.ref C) g.1 = some none) {x t0 : Addr} {vs : List L2.V} {us : List Value} (X : K.In s.heap) (hlim : s.heap.NoLimit) (hx : s.heap.get? x = some (excO C t0)) (hnx : K.lookup x = none) (hroom : A.depth < recursionLimit)
 (hG : s.heap.Ns mainGlobals mg) (hg : mg "super" = none) (hB : s.heap.Ns builtinsNs mb) (hb : mb "super" = some (.type "super")) (hH : L2.HOk prog w H0 h00) (kp0 : ∀ b o, h00.get? b = some o → s.heap.get? b = some o) (ok : Ok H0 vs) (rv : L2.Vals vs us) (hl : vs.length = gs.length)
 (hq : ∀ h' tk, StX s.heap h' x C ((gs.map (·.1)).zip us).reverse → R (.ok (.ret .none)) { s with heap := h', toks := tk }) : codeAny (model prog w) A (.call (.ref fI) ⟨.ref x :: us, []⟩) R s := by
 have hlu : us.length = gs.length := by rw [← rv.length]; exact hl
 have keys : (((("self" : Str) :: gs.map (·.1)).zip (Value.ref x :: us)).map (·.1)) = ("self" : Str) :: gs.map (·.1) := aaf (by simp [hlu])
 have hrev : ∀ y, ((("self" : Str) :: gs.map (·.1)).zip (Value.ref x :: us)).reverse.lookup y = ((("self" : Str) :: gs.map (·.1)).zip (Value.ref x :: us)).lookup y := fun y => Vf (by rw [keys]; exact S.nd)
 have hself : ((("self" : Str) :: gs.map (·.1)).zip (Value.ref x :: us)).reverse.lookup ("self" : Str) = some (.ref x) := by
  rw [hrev]
  exact zip_get S.nd (i := 0) rfl rfl
 refine enter T (mg := mg) (mb := mb) (binds := (("self" : Str) :: gs.map (·.1)).zip (.ref x :: us)) X hlim hx hnx hroom hG hg hB hb (fun kV doc pm an cdv ct cc => S.bind kV doc pm an cdv ct cc x us hlu) hself (fun y hy => S.loc y.1 (List.of_mem_zip hy).1) S.cell S.hp S.ks S.kc (S.loc _ ag9) S.co S.gen S.k
  (fun cda cc L A' h g d t os E' Q hk hn hq' => S.hE H0 vs us ok rv hl cda cc L x fI prog w A' h00 h g d t os E' Q (X.keeps hk) hH (fun b o e => hk b o (kp0 b o e)) hn hq') (S.hin fI) (S.hev fI) (S.hsw fI) S.hst fun cda cc h' tk t1 k hx' hns => ?_
 obtain ⟨nm, q, N, bs, bm, sn, sub, ab, col, dd, k0, k1, k2, k3, k5, hC, hbm, hal⟩ := T.cls
 have hcl : clsIn K C = some { name := nm, bases := bs, mro := .ref C :: bm, ns := N, qualname := q, hasDict := true, slotNames := sn, subclasses := sub, abstract := ab, collection := col, hasDel := false } := by unfold clsIn; rw [hC] <;> rfl
 have X' : K.In h' := Vd X hnx k
 have hsz : s.heap.objs.size < h'.objs.size := by
  obtain ⟨o, es, ep, eo, _⟩ := hns
  exact Heap.lt_size eo
 obtain ⟨hp0, g, d, t, os⟩ := s
 refine stores (C := C) (x := x) (L := hp0.objs.size) (h0 := h') (m := fun y => ((("self" : Str) :: gs.map (·.1)).zip (Value.ref x :: us)).reverse.lookup y) X' hnx (Nat.ne_of_gt (Heap.lt_size hx)) hsz hcl (show refsVE (.ref C :: bm) = true from hbm) rfl T.sa S.k hself (S.loc _ ag9) (S.hsw2 fI cda cc _) hns gs us [] h' tk
  (fun b hb' => ⟨S.dbg b hb', S.loc b.1 (ahn _ (List.mem_map_of_mem hb')), hno b hb'⟩) hlu.symm (fun i f v e1 e2 => by
   show aha f _ = _
   rw [hrev]
   exact zip_get S.nd (i := i + 1) (by simpa using e1) (by simpa using e2)) (by have := S.len; simp only [ahb]; omega) ⟨fun b o hb' e => e, Nat.le_refl _, t1, none, hx', .inl ⟨rfl, rfl⟩⟩ fun h2 t2 S2 => ?_
 rw [ag5] at S2
 refine hq h2 t2 ⟨fun b o hb' e => S2.keep b o hb' (k b o hb' e), Nat.le_trans (Nat.le_of_lt hsz) S2.big, ?_⟩
 obtain ⟨t3, dv, e1, e2⟩ := S2.at_
 refine ⟨t3, dv, e1, ?_⟩
 rcases e2 with e2 | ⟨dx, m, q1, q2, q3, q4, q5⟩
 · exact .inl e2
 · exact .inr ⟨dx, m, q1, Nat.le_trans (Nat.le_of_lt hsz) q2, q3, q4, q5⟩
end
end ExS
end PySem
namespace PySem
namespace ExS
open PySem.W PySem.Calls PyProof.Rows PySem.HandSPX
structure MadeX (h h' : Heap) (e C : Addr) (fs : List (Str × Value)) : Prop where
 keep : ∀ b o, h.get? b = some o → h'.get? b = some o
 new : h.objs.size ≤ e
 at_ : ∃ (t1 : Addr) (dv : Option Addr), h'.get? e = some { cls := .ref C, dict := dv, data := .fields #[.ref t1, .none, .none, .none, .bool false, .none] } ∧
  ((fs = [] ∧ dv = none) ∨ ∃ (dx : Addr) (m : Str → Option Value), dv = some dx ∧ h.objs.size ≤ dx ∧ dx ≠ e ∧ h'.Ns1 dx m ∧ ∀ y, m y = fs.lookup y)
section
variable {prog : Program} {w : World} {A : Around} {R : Result → Shared → Prop} {s : Shared} {K : Frag} {C fI : Addr} {params : Arguments} {scope : Scope} {qual : Str} {ex : Expr} {p0 p1 p2 p3 p4 : Pos} {gs : List Px} {Ok : L2.Hp → List L2.V → Prop} {H0 : L2.Hp} {mg mb : Str → Option Value}
theorem small {l : List Value} {n : Nat} (e : l.length = n) (h : n ≤ 100) : l.length ≤ sizeLine := by
 have : (100 : Nat) ≤ sizeLine := by decide
 omega
theorem made (T : Ox prog K C fI params (sup ex p0 p1 p2 p3 p4 :: M6 gs) scope qual) (S : Vg K params scope qual ex p0 p1 p2 p3 p4 gs Ok) (hno : ∀ g ∈ gs, findIn K (.ref C) g.1 = some none) {vs : List L2.V} {us : List Value} (X : K.In s.heap) (hlim : s.heap.NoLimit) (hroom : A.depth + 1 < recursionLimit)
 (hG : s.heap.Ns mainGlobals mg) (hg : mg "super" = none) (hB : s.heap.Ns builtinsNs mb) (hb : mb "super" = some (.type "super")) (hH : L2.HOk prog w H0 s.heap) (ok : Ok H0 vs) (rv : L2.Vals vs us) (hl : vs.length = gs.length)
 (hq : ∀ h' tk e, MadeX s.heap h' e C ((gs.map (·.1)).zip us).reverse → R (.ok (.ret (.ref e))) { s with heap := h', toks := tk }) : codeAny (model prog w) A (.call (.ref C) ⟨us, []⟩) R s := by
 have hlu : us.length = gs.length := by rw [← rv.length]; exact hl
 obtain ⟨nm, q, N, bs, bm, sn, sub, ab, col, dd, k0, k1, k2, k3, k5, hC, hbm, hal⟩ := T.cls
 obtain ⟨hp, g, dr, tk, os⟩ := s
 have k : ∀ b o, hp.get? b = some o → ((hp.push (kdv_tup us)).push (excO C hp.objs.size)).get? b = some o := fun b o e => Heap.get?_push_of_some _ (Heap.get?_push_of_some _ e)
 have hget : ((hp.push (kdv_tup us)).push (excO C hp.objs.size)).get? (hp.objs.size + 1) = some (excO C hp.objs.size) := by heap_get
 have hnx : K.lookup (hp.objs.size + 1) = none := ab8 X (Nat.le_succ _)
 refine call_own F.excBase_ValueError (fun X => refsVE_contains X bm hbm) (X _ _ hC) (looks_findIn X T.iC) (fun self => bind_fn X self T.tC) (small hlu S.len) ?_
 refine aag (s := ⟨(hp.push (kdv_tup us)).push (excO C hp.objs.size), g, dr, tk, os⟩) T S hno (X.keeps k) (hlim.keeps k) hget hnx ?_ (hG.keeps k) hg (hB.keeps k) hb hH k ok rv hl fun h' tk' S' => ?_
 · show A.depth + 1 < recursionLimit
   exact hroom
 · have old : ∀ b o, hp.get? b = some o → h'.get? b = some o := fun b o e => S'.keep b o (Nat.ne_of_lt (Nat.lt_succ_of_lt (Heap.lt_size e))) (k b o e)
   refine ⟨rfl, hq h' tk' (hp.objs.size + 1) ⟨old, Nat.le_succ _, ?_⟩⟩
   obtain ⟨t1, dv, e1, e2⟩ := S'.at_
   refine ⟨t1, dv, e1, ?_⟩
   rcases e2 with ⟨e2, e3⟩ | ⟨dx, m, q1, q2, q3, q4, q5⟩
   · exact .inl ⟨e2, e3⟩
   · refine .inr ⟨dx, m, q1, ?_, q3, q4, q5⟩
     have z : hp.objs.size + 1 + 1 ≤ dx := by
      first
       | (simpa only [Heap.size_push] using q2)
       | exact q2
       | (have q := q2; rw [Heap.size_push, Heap.size_push] at q; exact q)
     exact Nat.le_trans (Nat.le_trans (Nat.le_succ _) (Nat.le_succ _)) z
end
end ExS
end PySem
namespace Pk
open PySem PySem.Spec PyProof.Rows L2
open PySem.ExS (Ox Vg sup M6 Px)
structure ExC (P : Program) (K : PySem.W.Frag) (T : Tb) (c : Nat) (Ok : Hp → List V → Prop) : Prop where
 tx : ∃ (fI : Addr) (params : Arguments) (scope : Scope) (qual : Str) (ex : Expr) (p0 p1 p2 p3 p4 : Pos) (gs : List Px),
  Ox P K (T.cad c) fI params (sup ex p0 p1 p2 p3 p4 :: M6 gs) scope qual ∧ Vg K params scope qual ex p0 p1 p2 p3 p4 gs Ok ∧ (∀ g ∈ gs, PySem.W.findIn K (.ref (T.cad c)) g.1 = some none) ∧ T.fld c = gs.map (·.1) ∧ (T.fld c).Nodup
 kC : PySem.W.keepIn K (.ref (T.cad c)) = true
 exC : PySem.W.subIn K (.ref (T.cad c)) (.type "BaseException") = some true
 tyC : PySem.W.typeIn K (.ref (T.cad c)) = some (.type "type")
section
variable {X : Cx} {T : Tb} {W : WX} {k c : Nat} {x : Str} {a : Expr} {es : List Expr} {ma : M (List D)} {p pos pos2 : Pos} {Ok : Hp → List V → Prop}
def aga (T : Tb) (c : Nat) (Ok : Hp → List V → Prop) (ta : TA) : L2.St → Hp → XK → Prop := fun σ H Q => ta σ H fun vs H1 => Ok H1 vs ∧ vs.length = (T.fld c).length ∧
 (T.fld c = [] → Q (.ref (T.cad c)) none H1) ∧ (∀ d, H1 d = none → Q (.ref (T.cad c)) (some d) (upd H1 d (.xd ((T.fld c).zip vs))))
end
end Pk
namespace PySem
namespace ExS
open PySem.W PySem.Calls PyProof.Rows PySem.HandSPX
end ExS
end PySem
namespace Pk
open PySem PySem.Spec PyProof.Rows L2
open PySem.ExS (Ox Vg sup M6 Px)
section
variable {params : Arguments} {scope : Scope} {qual : Str}
end
section
variable {X : Cx} {T : Tb} {W : WX} {k c n : Nat} {x : Str} {a : Expr} {es : List Expr} {ma : M (List D)} {p pos pos2 : Pos} {Ok : Hp → List V → Prop} {chk : List D → Bool}
def Vh (c n : Nat) (chk : List D → Bool) (ma : M (List D)) : M Fl := ma.bind fun ds fr h => if ds.length = n ∧ chk ds = true then .exc ⟨c, ds⟩ fr h else .err
end
end Pk
namespace L
open PySem PySem.Spec L2 Pk
def cn : Nat → Str
 | 0 => "Instance"
 | _ => "?"
def top (i : Nat) : Stmt := PySem.Challenge.pw_countrestarts_k01_instances_made.main.body.getD i (.Pass ⟨0, 0, 0, 0⟩)
abbrev uX : Stmt := top 15
abbrev Mi : List Str := ["_law_script", "_law_at", "_law_cell", "_law_large"]
abbrev Hr : List Str := ["_law_script", "_law_at"]
theorem R4 : FnScope Mi Hr (defScope uX) := ⟨rfl, rfl, rfl, by decide +kernel, rfl, by decide +kernel, by decide +kernel⟩
def Ht : PD := ⟨fun K => He.ga K "_law_source", "_law_source", "_law_source", defArgs uX, defBody uX, defScope uX, [], [], false⟩
abbrev zA : Stmt := top 16
abbrev Py : List Str := ["_law_source_here", "_law_many", "_law_digit", "_law_mixed"]
abbrev Ka : List Str := ["_law_source_here", "_law_many"]
theorem Vi : FnScope Py Ka (defScope zA) := ⟨rfl, rfl, rfl, by decide +kernel, rfl, by decide +kernel, by decide +kernel⟩
def Kc : PD := ⟨fun K => He.ga K "_law_draw", "_law_draw", "_law_draw", defArgs zA, defBody zA, defScope zA, [], [], false⟩
abbrev Dg : Stmt := top 17
abbrev Tt : List Str := ["_law_source_here", "_law_some"]
abbrev M7 : List Str := ["_law_source_here", "_law_some"]
theorem XM : FnScope Tt M7 (defScope Dg) := ⟨rfl, rfl, rfl, by decide +kernel, rfl, by decide +kernel, by decide +kernel⟩
def M8 : PD := ⟨fun K => He.ga K "_law_of", "_law_of", "_law_of", defArgs Dg, defBody Dg, defScope Dg, [], [], false⟩
abbrev uY : Stmt := top 18
abbrev Mj : List Str := ["_law_source_here"]
abbrev Hu : List Str := ["_law_source_here"]
theorem R5 : FnScope Mj Hu (defScope uY) := ⟨rfl, rfl, rfl, by decide +kernel, rfl, by decide +kernel, by decide +kernel⟩
def Hv : PD := ⟨fun K => He.ga K "_law_number", "_law_number", "_law_number", defArgs uY, defBody uY, defScope uY, [], [], false⟩
abbrev zB : Stmt := top 19
abbrev PB : List Str := ["_law_source_here", "_law_size", "_law_born", "_law_many", "_law_cuts", "_law_ends", "_law_gone", "_law_counts", "_law_at", "_law_gaps", "_law_gap"]
abbrev Kd : List Str := ["_law_source_here", "_law_size"]
theorem Vj : FnScope PB Kd (defScope zB) := ⟨rfl, rfl, rfl, by decide +kernel, rfl, by decide +kernel, by decide +kernel⟩
def Ke : PD := ⟨fun K => He.ga K "_law_life", "_law_life", "_law_life", defArgs zB, defBody zB, defScope zB, [], [], false⟩
abbrev d9 : Stmt := top 11
abbrev BP : List Str := ["counts", "start", "restarts", "at"]
abbrev uQ : List Str := ["counts", "start", "restarts"]
theorem Ja : FnScope BP uQ (defScope d9) := ⟨rfl, rfl, rfl, by decide +kernel, rfl, by decide +kernel, by decide +kernel⟩
def uR : PD := ⟨fun K => He.ga K "falls_without_restart", "falls_without_restart", "falls_without_restart", defArgs d9, defBody d9, defScope d9, [], [], false⟩
abbrev yj : Stmt := top 6
abbrev M9 : List Str := ["value"]
abbrev Jb : List Str := ["value"]
theorem TV : FnScope M9 Jb (defScope yj) := ⟨rfl, rfl, rfl, by decide +kernel, rfl, by decide +kernel, by decide +kernel⟩
def Jc : PD := ⟨fun K => He.ga K "is_integer", "is_integer", "is_integer", defArgs yj, defBody yj, defScope yj, [], [], false⟩
abbrev ym : Stmt := top 9
abbrev Nb : List Str := ["values", "most", "value"]
abbrev Jd : List Str := ["values", "most"]
theorem TX : FnScope Nb Jd (defScope ym) := ⟨rfl, rfl, rfl, by decide +kernel, rfl, by decide +kernel, by decide +kernel⟩
def Je : PD := ⟨fun K => He.ga K "are_counts", "are_counts", "are_counts", defArgs ym, defBody ym, defScope ym, [], [], false⟩
abbrev ux : Stmt := top 7
abbrev KN : List Str := ["values", "at", "value"]
abbrev Fe : List Str := ["values"]
theorem Q3 : FnScope KN Fe (defScope ux) := ⟨rfl, rfl, rfl, by decide +kernel, rfl, by decide +kernel, by decide +kernel⟩
def Ff : PD := ⟨fun K => He.ga K "is_ascending", "is_ascending", "is_ascending", defArgs ux, defBody ux, defScope ux, [], [], false⟩
abbrev zE : Stmt := top 8
abbrev PL : List Str := ["values", "low", "high"]
abbrev Kg : List Str := ["values", "low", "high"]
theorem Vk : FnScope PL Kg (defScope zE) := ⟨rfl, rfl, rfl, by decide +kernel, rfl, by decide +kernel, by decide +kernel⟩
def Kh : PD := ⟨fun K => He.ga K "is_inside", "is_inside", "is_inside", defArgs zE, defBody zE, defScope zE, [], [], false⟩
abbrev zF : Stmt := top 10
abbrev PN : List Str := ["tails", "gaps", "pair", "found", "gap"]
abbrev Kl : List Str := ["tails", "gaps"]
theorem Vl : FnScope PN Kl (defScope zF) := ⟨rfl, rfl, rfl, by decide +kernel, rfl, by decide +kernel, by decide +kernel⟩
def Km : PD := ⟨fun K => He.ga K "are_tails", "are_tails", "are_tails", defArgs zF, defBody zF, defScope zF, [], [], false⟩
abbrev uZ : Stmt := top 12
abbrev Ml : List Str := ["counts", "readings", "start", "restarts", "tails", "lost", "end", "gaps"]
abbrev Hz : List Str := ["counts", "readings", "start", "restarts", "tails", "lost"]
theorem R6 : FnScope Ml Hz (defScope uZ) := ⟨rfl, rfl, rfl, by decide +kernel, rfl, by decide +kernel, by decide +kernel⟩
def HD : PD := ⟨fun K => He.ga K "first_fault", "first_fault", "first_fault", defArgs uZ, defBody uZ, defScope uZ, [], [], false⟩
abbrev fO : Stmt := inClass (top 13) 0
abbrev Dq : List Str := ["self", "counts", "readings", "start", "restarts", "tails", "lost", "what", "gap", "many"]
abbrev fP : List Str := ["self", "counts", "readings", "start", "restarts", "tails", "lost"]
theorem KQ : FnScope Dq fP (defScope fO) := ⟨rfl, rfl, rfl, by decide +kernel, rfl, by decide +kernel, by decide +kernel⟩
def yM : PD := ⟨fun K => He.ma K (He.ga K "Instance") "__init__", "__init__", "Instance.__init__", defArgs fO, defBody fO, defScope fO, [], [("start", .int 0), ("restarts", .adr (IW (fun K => He.ma K (He.ga K "Instance") "__init__") "restarts")), ("tails", .adr (IW (fun K => He.ma K (He.ga K "Instance") "__init__") "tails")), ("lost", .adr (IW (fun K => He.ma K (He.ga K "Instance") "__init__") "lost"))], false⟩
abbrev o7 : Stmt := inClass (top 13) 1
abbrev JR : List Str := ["self"]
abbrev Dr : List Str := ["self"]
theorem Qv : FnScope JR Dr (defScope o7) := ⟨rfl, rfl, rfl, by decide +kernel, rfl, by decide +kernel, by decide +kernel⟩
def Ds : PD := ⟨fun K => pgA K (He.ga K "Instance") "end", "end", "Instance.end", defArgs o7, defBody o7, defScope o7, [], [], false⟩
abbrev mY : Stmt := top 21
abbrev HR : List Str := ["_law_value"]
abbrev Ce : List Str := ["_law_value"]
theorem Nf : FnScope HR Ce (defScope mY) := ⟨rfl, rfl, rfl, by decide +kernel, rfl, by decide +kernel, by decide +kernel⟩
def Cg : PD := ⟨fun K => He.ga K "_law_is_integer", "_law_is_integer", "_law_is_integer", defArgs mY, defBody mY, defScope mY, [], [], false⟩
abbrev iD : Stmt := top 22
abbrev Ep : List Str := ["_law_found", "_law_due", "_law_wrong", "_law_at"]
abbrev zU : List Str := ["_law_found", "_law_due"]
theorem Lp : FnScope Ep zU (defScope iD) := ⟨rfl, rfl, rfl, by decide +kernel, rfl, by decide +kernel, by decide +kernel⟩
def zV : PD := ⟨fun K => He.ga K "_law_are_integers", "_law_are_integers", "_law_are_integers", defArgs iD, defBody iD, defScope iD, [], [], false⟩
abbrev nY : Stmt := top 23
abbrev Jf : List Str := ["_law_found", "_law_due", "_law_at"]
abbrev CT : List Str := ["_law_found", "_law_due"]
theorem Pg : FnScope Jf CT (defScope nY) := ⟨rfl, rfl, rfl, by decide +kernel, rfl, by decide +kernel, by decide +kernel⟩
def CV : PD := ⟨fun K => He.ga K "_law_are_pairs", "_law_are_pairs", "_law_are_pairs", defArgs nY, defBody nY, defScope nY, [], [], false⟩
abbrev yo : Stmt := top 24
abbrev Nh : List Str := ["_law_one", "_law_life_here", "_law_size", "_law_born", "_law_counts", "_law_cuts", "_law_ends", "_law_gone", "_law_whole"]
abbrev Jg : List Str := ["_law_one", "_law_life_here", "_law_size"]
theorem TY : FnScope Nh Jg (defScope yo) := ⟨rfl, rfl, rfl, by decide +kernel, rfl, by decide +kernel, by decide +kernel⟩
def Jh : PD := ⟨fun K => He.ga K "_law_right", "_law_right", "_law_right", defArgs yo, defBody yo, defScope yo, [], [], false⟩
abbrev Oz : Stmt := top 25
abbrev abq : List Str := ["_law_script", "_law_at", "_law_source_here", "_law_size", "_law_life_here", "_law_born", "_law_counts", "_law_cuts", "_law_ends", "_law_gone", "_law_handed", "_law_kept", "_law_one", "_law_pair", "_law_pairs", "_law_other", "_law_rising", "_law_plain", "_law_gap", "_law_many", "_law_place"]
abbrev aei : List Str := ["_law_script"]
theorem adg : FnScope abq aei (defScope Oz) := ⟨rfl, rfl, rfl, by decide +kernel, rfl, by decide +kernel, by decide +kernel⟩
def abr : PD := ⟨fun K => He.ga K "law", "law", "law", defArgs Oz, defBody Oz, defScope Oz, [], [], false⟩
def fa : List Fx := [.tup (IW (fun K => He.ma K (He.ga K "Instance") "__init__") "restarts") [],
 .tup (IW (fun K => He.ma K (He.ga K "Instance") "__init__") "tails") [],
 .tup (IW (fun K => He.ma K (He.ga K "Instance") "__init__") "lost") [],
 .he (.free "len"),
 .he (.free "abs"),
 .he (.free "int"),
 .he (.glo "_law_draw"),
 .he (.glo "_law_of"),
 .he (.glo "_law_number"),
 .he (.free "range"),
 .he (.free "list"),
 .he (.free "isinstance"),
 .he (.free "bool"),
 .he (.free "tuple"),
 .he (.glo "is_integer"),
 .he (.free "enumerate"),
 .he (.glo "is_ascending"),
 .he (.glo "are_counts"),
 .he (.glo "is_inside"),
 .he (.glo "falls_without_restart"),
 .he (.glo "are_tails"),
 .he (.glo "first_fault"),
 .he (.glo "_law_is_integer"),
 .he (.glo "_law_are_integers"),
 .he (.glo "_law_are_pairs"),
 .he (.free "min"),
 .he (.free "max"),
 .he (.glo "_law_source"),
 .he (.glo "_law_life"),
 .he (.glo "Instance"),
 .he (.free "sum"),
 .he (.glo "_law_right"),
 .he (.cls "Instance"),
 .he (.noat "Instance" "readings"),
 .he (.noat "Instance" "start"),
 .he (.noat "Instance" "counts"),
 .he (.noat "Instance" "restarts"),
 .he (.noat "Instance" "tails"),
 .he (.noat "Instance" "lost"),
 .prop "Instance" "end",
 .he (.mkr "Instance"),
 .he (.glo "law")]
def fn : List PD := [Ht, Kc, M8, Hv, Ke, uR, Jc, Je, Ff, Kh, Km, HD, yM, Ds, Cg, zV, CV, Jh, abr]
abbrev aY (K : PySem.W.Frag) : Prop := Ov cn fa fn K
section
open PySem PySem.Spec PyProof.Rows L2
abbrev Rw : PySem.W.OpenRow := PySem.W.OpenLaw.row PySem.Challenge.rw_countrestarts_k01_instances_made
abbrev hk : PySem.W.Hook := Pk.hookP 7 cn fa fn
def ob (s : PySem.W.SharedT) : Pk.AlP := Pk.obsPG 7 cn fa fn (HandSHeadRun.getT s)
theorem ob_eq (s : PySem.W.SharedT) : ob s = hk.obs s.abs := Pk.obsPG_eq (HandSHeadRun.getT_eq s)
def names : List PySem.Str := "_wall" :: "CountError" :: "BadInstance" :: "BadFactor" :: "is_integer" :: "is_ascending" :: "is_inside" :: "are_counts" :: "are_tails" :: "falls_without_restart" :: "first_fault" :: "Instance" :: "_law_source" :: "_law_draw" :: "_law_of" :: "_law_number" :: "_law_life" :: "_law_made" :: "_law_is_integer" :: "_law_are_integers" :: "_law_are_pairs" :: "_law_right" :: []
theorem aeW {α β γ δ : Type} {o : Option α} {f : α → β} {g : α → γ} {k : α → δ} {a : β} {b : γ} {c : δ} (h1 : o.map f = some a) (h2 : o.map g = some b) (h3 : o.map k = some c) : o.map (fun s => (f s, g s, k s)) = some (a, b, c) := by
 cases o with
 | none => cases h1
 | some s =>
   cases h1
   cases h2
   cases h3
   rfl
abbrev vw : Program := PySem.W.view Rw.prog [25]
noncomputable abbrev ends (w : World) (os : PySem.OsState) : Option PySem.W.SharedT := HandSHeadRun.endF (HandSHeadRun.stepQ (HandSHeadRun.denQ HandSHeadRun.tabQ) Rw.prog w) 20000 Rw.prog w os
open PySem.W PySem.Calls HandSHeadRun in
set_option maxHeartbeats 0 in
theorem aej (w : World) (os : PySem.OsState) : (ends w os).map (fun s => looksF Rw.prog (boot_heap w.params) s.abs) = some true := by
 kernel_rfl
open PySem.W PySem.Calls HandSHeadRun in
set_option maxHeartbeats 0 in
theorem aek (w : World) (os : PySem.OsState) : (ends w os).map (fun s => seenQ vw names (importedModules Rw.prog.main.body) (fun s => xlAt vw [] s && recOk Rw.toRowW.records s) s.abs) = some (openGood vw names) := by
 kernel_rfl
abbrev fr0 (s : PySem.W.SharedT) : PySem.W.Frag := He.frG (HandSHeadRun.getT s) (Pk.asP (HandSHeadRun.getT s) 7)
abbrev nh : Nat := fn.length / 2
set_option maxHeartbeats 0 in
theorem adh (w : World) (os : PySem.OsState) : (ends w os).map (fun s => fa.all fun f => f.ok cn (fr0 s)) = some true := by
 kernel_rfl
set_option maxHeartbeats 0 in
theorem adi (w : World) (os : PySem.OsState) : (ends w os).map (fun s => (fn.take nh).all fun d => d.ok (fr0 s)) = some true := by
 kernel_rfl
set_option maxHeartbeats 0 in
theorem adk (w : World) (os : PySem.OsState) : (ends w os).map (fun s => (fn.drop nh).all fun d => d.ok (fr0 s)) = some true := by
 kernel_rfl
theorem all2 {α : Type} {l : List α} {p : α → Bool} {m : Nat} (h1 : (l.take m).all p = true) (h2 : (l.drop m).all p = true) : l.all p = true := by
 rw [← List.take_append_drop m l, List.all_append, h1, h2]
 rfl
theorem aeX {α : Type} {o : Option α} {f g k b : α → Bool} (h1 : o.map f = some true) (h2 : o.map g = some true) (h3 : o.map k = some true) (h : ∀ s, f s = true → g s = true → k s = true → b s = true) : o.map b = some true := by
 cases o with
 | none => cases h1
 | some s => exact congrArg some (h s (Option.some.inj h1) (Option.some.inj h2) (Option.some.inj h3))
theorem ael (w : World) (os : PySem.OsState) : (ends w os).map (fun s => (ob s).1) = some true :=
 aeX (adh w os) (adi w os) (adk w os) fun s h1 h2 h3 => (show ((fa.all fun f => f.ok cn (fr0 s)) && fn.all fun d => d.ok (fr0 s)) = true by rw [h1, all2 h2 h3]; rfl)
abbrev nq : Nat := fn.length / 3
set_option maxHeartbeats 0 in
theorem adl (w : World) (os : PySem.OsState) : (ends w os).map (fun s => (ob s).2.take nq) = some ((fn.map Pk.PD.val).take nq) := by
 kernel_rfl
set_option maxHeartbeats 0 in
theorem adm (w : World) (os : PySem.OsState) : (ends w os).map (fun s => ((ob s).2.drop nq).take nq) = some (((fn.map Pk.PD.val).drop nq).take nq) := by
 kernel_rfl
set_option maxHeartbeats 0 in
theorem adn (w : World) (os : PySem.OsState) : (ends w os).map (fun s => ((ob s).2.drop nq).drop nq) = some (((fn.map Pk.PD.val).drop nq).drop nq) := by
 kernel_rfl
theorem ado {α : Type} {l x : List α} {m : Nat} (h1 : l.take m = x.take m) (h2 : l.drop m = x.drop m) : l = x := by
 rw [← List.take_append_drop m l, h1, h2, List.take_append_drop]
theorem aeY {α β : Type} {o : Option α} {f : α → List β} {x : List β} {m : Nat} (h1 : o.map (fun s => (f s).take m) = some (x.take m)) (h2 : o.map (fun s => ((f s).drop m).take m) = some ((x.drop m).take m)) (h3 : o.map (fun s => ((f s).drop m).drop m) = some ((x.drop m).drop m)) : o.map f = some x := by
 cases o with
 | none => cases h1
 | some s => exact congrArg some (ado (Option.some.inj h1) (ado (Option.some.inj h2) (Option.some.inj h3)))
theorem aem (w : World) (os : PySem.OsState) : (ends w os).map (fun s => (ob s).2) = some (fn.map Pk.PD.val) := aeY (adl w os) (adm w os) (adn w os)
theorem aeZ {α β γ : Type} {o : Option α} {f : α → β × γ} {a : β} {b : γ} (h1 : o.map (fun s => (f s).1) = some a) (h2 : o.map (fun s => (f s).2) = some b) : o.map f = some (a, b) := by
 cases o with
 | none => cases h1
 | some s =>
   have e1 := Option.some.inj h1
   have e2 := Option.some.inj h2
   exact congrArg some (Prod.ext e1 e2)
theorem run (w : World) : HandSHeadRun.RunEq Rw vw hk ob 20000 names w := fun os => aeW (aej w os) (aek w os) (aeZ (ael w os) (aem w os))
end
end L
namespace Pk
open PySem PySem.Spec L2
def Vm {α β : Type} (P : Wd → L2.St → Prop) (run : L2.St → Hp → (β → Hp → Prop) → Prop) (K : PySem.W.Frag) (T : Tb) (W : WX) (VR : ju β α) (m : M α) : Prop :=
 ∀ (B : Bs) (w : Wd) (σ : L2.St) (H : Hp) (fr : Fr) (h : Hh) (Q : β → Hp → Prop), P w σ → Rel K T B w σ H fr h → aO K T B W (VR K T B σ) w σ (m fr h) Q → run σ H Q
def agb (P : Wd → L2.St → Prop) : Prop := ∀ w w' σ, w.le w' → P w σ → P w' σ
abbrev SqE (P : Wd → L2.St → Prop) (X : Cx) (T : Tb) (W : WX) (e : Expr) (m : M D) : Prop := Vm P (WE X e) X.K T W vE m
abbrev SqV (P : Wd → L2.St → Prop) (X : Cx) (T : Tb) (W : WX) (e : Expr) (m : M D) : Prop := Vm P (WE X e) X.K T W vV m
abbrev agc (P : Wd → L2.St → Prop) (X : Cx) (T : Tb) (W : WX) (e : Expr) (m : M Bool) : Prop := Vm P (WT X e) X.K T W vB m
abbrev SqW (P : Wd → L2.St → Prop) (X : Cx) (T : Tb) (W : WX) (e : Expr) (m : M Bool) : Prop := Vm P (WW X e) X.K T W vB m
abbrev SqA (P : Wd → L2.St → Prop) (X : Cx) (T : Tb) (W : WX) (es : List Expr) (m : M (List D)) : Prop := Vm P (WA X es) X.K T W vA m
section
variable {P : Wd → L2.St → Prop} {X : Cx} {T : Tb} {W : WX} {a b c e : Expr} {es rest : List Expr} {m ma mb : M D} {n ta tb tc : M Bool} {ms : List (M D)} {pos : Pos}
end
def G4 (P : Wd → L2.St → Prop) (K : PySem.W.Frag) (T : Tb) (B : Bs) (W : WX) (w : Wd) (r : R Fl) (D : Ends) : Prop :=
 match r with
 | .ok .nx fr h => ∀ w' σ' H', w.le w' → P w' σ' → Rel K T B w' σ' H' fr h → D.nx σ' H'
 | r => cW K T B W w r D
def SqS (P : Wd → L2.St → Prop) (X : Cx) (T : Tb) (W : WX) (st : Stmt) (m : M Fl) : Prop := ∀ (B : Bs) (w : Wd) (σ : L2.St) (H : Hp) (fr : Fr) (h : Hh) (D : Ends), P w σ → Rel X.K T B w σ H fr h → G4 P X.K T B W w (m fr h) D → WS X st D σ H
def XN (P : Wd → L2.St → Prop) (X : Cx) (T : Tb) (W : WX) (sts : List Stmt) (m : M Fl) : Prop := ∀ (B : Bs) (w : Wd) (σ : L2.St) (H : Hp) (fr : Fr) (h : Hh) (D : Ends), P w σ → Rel X.K T B w σ H fr h → G4 P X.K T B W w (m fr h) D → Wy X sts D σ H
section
variable {P : Wd → L2.St → Prop} {K : PySem.W.Frag} {T : Tb} {B : Bs} {W : WX} {w w' : Wd} {σ : L2.St} {H : Hp}
theorem G4.of {r : R Fl} {D : Ends} (p : cW K T B W w r D) : G4 P K T B W w r D := by
 cases r with
 | ok f fr h =>
   cases f with
   | nx => exact fun w' σ' H' l _ r => p w' σ' H' l r
   | _ => exact p
 | exc e fr h => exact p
 | err => exact p
theorem G4.le {r : R Fl} {D : Ends} (x : w.le w') (p : G4 P K T B W w r D) : G4 P K T B W w' r D := by
 cases r with
 | ok f fr h =>
   cases f with
   | nx => exact fun w2 σ2 H2 y => p w2 σ2 H2 (Wd.le_trans x y)
   | brk => exact cW.le x (show cW K T B W w (.ok .brk fr h) D from p)
   | ct => exact cW.le x (show cW K T B W w (.ok .ct fr h) D from p)
   | rt d => exact cW.le x (show cW K T B W w (.ok (.rt d) fr h) D from p)
 | exc e fr h => exact cW.le (D := D) (r := .exc e fr h) x p
 | err => exact p
theorem G4.bind {α β : Type} {VR : Wd → Hp → Fr → β → α → Prop} {m : M α} {f : α → M Fl} {fr : Fr} {h : Hh} {D : Ends} {Q : β → Hp → Prop} (p : G4 P K T B W w (m.bind f fr h) D)
 (k : ∀ d fr1 h1 w1 H1 v, m fr h = .ok d fr1 h1 → w.le w1 → Rel K T B w1 σ H1 fr1 h1 → VR w1 H1 fr1 v d → G4 P K T B W w1 (f d fr1 h1) D → Q v H1) : aO K T B W VR w σ (m fr h) Q := by
 cases e : m fr h with
 | ok d fr1 h1 =>
   rw [M.bind_ok e] at p
   exact fun w1 H1 v x r z => k d fr1 h1 w1 H1 v e x r z (p.le x)
 | exc y fr1 h1 =>
   rw [M.bind_exc e] at p
   exact fun w1 H1 c dd x r z => p w1 σ H1 c dd x r z
 | err =>
   rw [M.bind_err e] at p
   exact p.elim
end
section
variable {P : Wd → L2.St → Prop} {X : Cx} {T : Tb} {W : WX} {k : Nat} {pos pos' p2 : Pos} {e a b c : Expr} {st : Stmt} {sts as bs : List Stmt} {m : M D} {s n : M Fl} {t : M Bool}
end
def PX (K : PySem.W.Frag) (T : Tb) (i : Nat) (a : Addr) (x : aP) (cls : Value) (dd : Option Addr) : Wd → L2.St → Prop := fun w σ => σ[i]? = some (some (.ref a)) ∧ Ry K T w x cls dd
theorem Ry.mono {K : PySem.W.Frag} {T : Tb} {w w' : Wd} {x : aP} {cls : Value} {dd : Option Addr} (l : w.le w') (h : Ry K T w x cls dd) : Ry K T w' x cls dd :=
 ⟨h.1, h.2.imp id fun ⟨d, vs, e1, e2, e3⟩ => ⟨d, vs, e1, l.1 _ _ e2, e3.mono l⟩⟩
section
variable {K : PySem.W.Frag} {T : Tb} {i j : Nat} {a : Addr} {x : aP} {cls : Value} {dd : Option Addr}
theorem adp (h : j ≠ i := by decide) : ∀ w σ v, PX K T i a x cls dd w σ → PX K T i a x cls dd w (σ.set j v) := fun w σ v h' => ⟨by rw [ag6 h]; exact h'.1, h'.2⟩
end
structure Su (X : Cx) (T : Tb) (i : Nat) (a : Addr) (oe : Obj) (cls : Value) (dd : Option Addr) (pn : List (Addr × Obj)) (y : aP) : Prop where
 hz : Zc cls dd oe
 hf : ∃ vs, oe.data = .fields vs
theorem Su.st {X : Cx} {T : Tb} {i j : Nat} {a : Addr} {oe : Obj} {cls : Value} {dd : Option Addr} {pn : List (Addr × Obj)} {y : aP} (_ : Su X T i a oe cls dd pn y) (h : j ≠ i := by decide) : ∀ w σ v, PX X.K T i a y cls dd w σ → PX X.K T i a y cls dd w (σ.set j v) := adp h
structure agd (K : PySem.W.Frag) (T : Tb) (tab : Tg → Tg → Option Bool) : Prop where
 kit : ∀ t u b, tab t u = some b → PySem.W.kitOne K (t.v T) (u.v T) = some b
 exc : ∀ c u b, tab (.o c) u = some b → L2.ExcC K (T.cad c)
def aah (tab : Tg → Tg → Option Bool) (c : Nat) (d : D) : Option Bool := match d with
 | .tup l => match JM l with
   | some (u :: us) => IV tab (.o c) (u :: us)
   | _ => none
 | d => match d.ctag with
   | some u => tab (.o c) u
   | none => none
def aai (tab : Tg → Tg → Option Bool) (c : Nat) (mb : M D) : M D := mb.bind fun d => M.opt ((aah tab c d).map .bl)
def DkX (H : Hp) (dd : Option Addr) : Prop := dd = none ∨ ∃ d0 fs, dd = some d0 ∧ H d0 = some (.xd fs)
def age (K : PySem.W.Frag) (C a : Addr) (dd : Option Addr) : List V → Hp → VK → Prop := fun xs H Q => ∃ (y : V) (b : Bool), xs = [.ref a, y] ∧ L2.ExcC K C ∧ DkX H dd ∧
 ((∃ cv, ClsV y cv ∧ PySem.W.kitOne K (.ref C) cv = some b) ∨ ∃ tp cs us, y = .ref tp ∧ L2.SqT K H tp cs ∧ Paired ClsV cs us ∧ PySem.W.kitAny K (.ref C) us = some b) ∧ Q (.bl b) H
section
variable {X : Cx} {T : Tb} {W : WX} {k i : Nat} {a : Addr} {oe : Obj} {cls : Value} {dd : Option Addr} {x : aP} {pn : List (Addr × Obj)} {tab : Tg → Tg → Option Bool} {b : Expr} {mb : M D} {n : Str} {np pf pos : Pos}
def mXf (j : Nat) (x : aP) : M D := fun fr h => match x.fs[j]? with
 | some d => .ok d fr h
 | none => .err
structure XfF (K : PySem.W.Frag) (T : Tb) (f : Str) (ix : Nat → Option Nat) : Prop where
 at_ : ∀ c j, ix c = some j → (T.fld c)[j]? = some f ∧ (T.fld c).Nodup ∧ XfC K (T.cad c) ∧ PySem.W.findIn K (.ref (T.cad c)) f = some none
def mXF (ix : Nat → Option Nat) (x : aP) : M D := match ix x.c with
 | some j => mXf j x
 | none => fun _ _ => .err
end
def aaj (i : Nat) (r : R Fl) : R Fl := match r with
 | .ok .nx fr h => .ok .nx (fr.set i none) h
 | .ok .brk fr h => .ok .brk (fr.set i none) h
 | .ok .ct fr h => .ok .ct (fr.set i none) h
 | r => r
def XQ (i : Nat) (cond : Nat → Option Bool) (mb : M Fl) (ms : aP → M Fl) : M Fl := fun fr h => match mb fr h with
 | .exc x fr1 h1 => match cond x.c with
   | some true => if i < fr1.length then aaj i (ms x (fr1.set i none) h1) else .err
   | some false => .exc x fr1 h1
   | none => .err
 | r => r
def XR (cond : Nat → Option Bool) (mb : M Fl) (ms : aP → M Fl) : M Fl := fun fr h => match mb fr h with
 | .exc x fr1 h1 => match cond x.c with
   | some true => ms x fr1 h1
   | some false => .exc x fr1 h1
   | none => .err
 | r => r
section
variable {X : Cx} {T : Tb} {W : WX} {k : Nat} {x n : Str} {c : Value} {cond : Nat → Option Bool} {body suite : List Stmt} {b₀ : Stmt} {np pos pos' : Pos} {mb : M Fl} {ms : aP → M Fl}
end
end Pk
namespace PySem
namespace OwO
open PySem.W PySem.Calls PyProof.Rows
section
variable {prog : Program} {w : World} {A : Around} {E : Value → Shared → Prop} {s : Shared} {K : Frag} {x C L f : Addr} {h₀ : Heap} {m : Str → Option Value} {ox : Obj} {od : Option Obj} {t : String} {b : Value} {op : Operator} {Q : Value → Shared → Prop}
def agf (Q : Option Value → Shared → Prop) (v : Value) (s : Shared) : Prop := v ≠ .notImplemented ∧ Q (some v) s
end
section
variable {prog : Program} {w : World} {A : Around} {E : Value → Shared → Prop} {s : Shared} {x C dx : Addr}
end
end OwO
end PySem
namespace Pk
open PySem PySem.Spec L2
structure agg (X : Cx) (T : Tb) (k : Nat) (mt : Nat → Option Fn) : Prop where
 ex : ∀ c F, mt c = some F → ∃ (kk : Nat) (f : Addr) (fd : FuncData) (ps : List Str), Cls X.K (T.cad c) ∧ Meth X.K (T.cad c) (PySem.dunder "mul") f ∧ PySem.W.selfFirst X.K (T.cad c) = true ∧ u6 X.prog X.w X.K X.mg X.base T kk f fd ps F ∧ Bn X.K T fd ps 2 [] (aK []) ∧ kk ≤ k ∧
  ∃ g, PySem.W.findIn X.K (.ref (T.cad c)) (PySem.dunderR "mul") = some (some (.ref g))
structure afN (X : Cx) (T : Tb) (k : Nat) (mt : Nat → Option Fn) : Prop where
 ex : ∀ c F, mt c = some F → ∃ (kk : Nat) (f : Addr) (fd : FuncData) (ps : List Str), Cls X.K (T.cad c) ∧ Meth X.K (T.cad c) (PySem.dunderR "mul") f ∧ PySem.W.selfFirst X.K (T.cad c) = true ∧ u6 X.prog X.w X.K X.mg X.base T kk f fd ps F ∧ Bn X.K T fd ps 2 [] (aK []) ∧ kk ≤ k ∧
  (∃ g, PySem.W.findIn X.K (.ref (T.cad c)) (PySem.dunder "mul") = some (some (.ref g))) ∧ PySem.W.subIn X.K (.ref (T.cad c)) (.type "int") = some false ∧ PySem.W.subIn X.K (.ref (T.cad c)) (.type "bool") = some false
def D.bty (h : Hh) (d : D) : Option String := match d.tag h with
 | some (.b t) => some t
 | _ => none
def XS (mt : Nat → Option Fn) (ma mb : M D) : M D := ma.bind fun x => mb.bind fun y fr h => match fnOf mt h x, y.bty h with
 | some F, some _ => bZ fr (F [x, y] h)
 | _, _ => .err
def D.smp : D → Bool
 | .non => true
 | .bl _ => true
 | .int _ => true
 | _ => false
def XX (mt : Nat → Option Fn) (ma mb : M D) : M D := ma.bind fun x => mb.bind fun y fr h => match fnOf mt h y, x.smp with
 | some F, true => bZ fr (F [y, x] h)
 | _, _ => .err
section
variable {X : Cx} {T : Tb} {W : WX} {k : Nat} {a b : Expr} {ma mb : M D} {pos : Pos}
end
end Pk
namespace Pk
open PySem PySem.Spec L2
def ae0 (l : List ((Tg × Tg) × Bool)) : Tg → Tg → Option Bool := fun t u => aha (t, u) l
inductive X3 (K : PySem.W.Frag) (T : Tb) : List ((Tg × Tg) × Bool) → Prop where
 | nil : X3 K T []
 | cons {c : Nat} {u : Tg} {b : Bool} {l : List ((Tg × Tg) × Bool)} (q : PySem.W.kitOne K (.ref (T.cad c)) (u.v T) = some b) (i : L2.ExcC K (T.cad c)) (r : X3 K T l) : X3 K T (((.o c, u), b) :: l)
end Pk
namespace Pk
open PySem PySem.Spec L2
def Nk (mt : Nat → Option Fn) (o : D) (as : List D) : M D := fun fr h => match fnOf mt h o with
 | some F => match F (o :: as) h with
   | .ok d _ h => .ok d fr h
   | _ => .err
 | none => .err
def Ud (mt : Nat → Option Fn) (o : D) (as : List D) : M D := fun fr h => match fnOf mt h o with
 | some F => bZ fr (F (o :: as) h)
 | none => .err
section
variable {X : Cx} {T : Tb} {W : WX} {k kk j n : Nat} {f C : Addr} {fd : FuncData} {ps ks : List Str} {F : Fn} {m : Str} {pos pf : Pos} {a b : Expr} {ma mb : M D}
structure OwnRun (X : Cx) (T : Tb) (k n : Nat) (m : Str) (v : V) (H : Hp) (vs : List V) (Q : VK) (E : XK) : Prop where
 ex : ∃ (kk : Nat) (f : Addr) (fd : FuncData) (ps : List Str) (a C dx : Addr) (fs : List (Str × V)) (G : Fn), v = .ref a ∧ H a = some (.ins C dx fs) ∧ Cls X.K C ∧ Meth X.K C m f ∧ u6 X.prog X.w X.K X.mg X.base T kk f fd ps G ∧ kk ≤ k ∧
  ∃ g gV, KBn X.K fd ps (n + 1) [] g gV ∧ spF X.K T ps.length G (gV (.ref a :: vs) []) H Q E
def X4 (d : D) : M D := fun fr h => match d with
 | .int i => if 0 ≤ i ∧ i < 2 ^ 60 then .ok (.int i) fr h else .err
 | _ => .err
def X5 (mt : Nat → Option Fn) (ma : M D) : M D := ma.bind fun o => (Nk mt o []).bind X4
def X6 (mt : Nat → Option Fn) (ma mb : M D) : M D := ma.bind fun o => mb.bind fun i => Ud mt o [i]
def agh (X : Cx) (T : Tb) (W : WX) (VR2 : ju V D) (op : CmpOp) (g : D → D → M Bool) : Prop :=
 ∀ B w σ H fr h x y d e Q, Rel X.K T B w σ H fr h → bA X.K T w x d → VR2 X.K T B σ w H fr y e → aO X.K T B W (vB X.K T B σ) w σ (g d e fr h) Q → rM X (compareOp op) x y H (fun z H' => ∃ c, z = .bl c ∧ Q c H')
def aak {α : Type} (g : D → D → M α) (ma mb : M D) : M α := ma.bind fun x => mb.bind fun y => g x y
def Zq (d : D) : M Bool := M.opt d.tb
def gIn (mt : Nat → Option Fn) (c : Bool → Bool) (x o : D) : M Bool := (Nk mt o [x]).bind fun d => (Zq d).bind fun b => M.ret (c b)
end
end Pk
namespace PySem
namespace OwE
open PySem.W PySem.Calls PyProof.Rows
section
variable {prog : Program} {w : World} {M : Model} {A : Around} {E : Value → Shared → Prop} {s : Shared} {K : Frag} {x C f : Addr} {ox : Obj} {od : Option Obj} {b tb : Value}
end
end OwE
end PySem
namespace Pk
open PySem PySem.Spec L2
def eqX (K : PySem.W.Frag) (C : Addr) : Bool := He.eqO (PySem.W.findIn K (.ref C) "__ne__") (some (some (.builtin "object.__ne__"))) && (decide (PySem.W.mroIn K C (.type "object") = some true) && (Lj.all (fun t => PySem.W.notFirst K C (.type t)) && Lj.all fun t => decide (PySem.W.subIn K (.ref C) (.type t) = some false)))
structure EqX (K : PySem.W.Frag) (C : Addr) : Prop where
 ne : PySem.W.findIn K (.ref C) "__ne__" = some (some (.builtin "object.__ne__"))
 ob : PySem.W.mroIn K C (.type "object") = some true
 nf : ∀ t ∈ Lj, PySem.W.notFirst K C (.type t) = true
 nb : ∀ t ∈ Lj, PySem.W.subIn K (.ref C) (.type t) = some false
structure EqF (K : PySem.W.Frag) (T : Tb) (mt : Nat → Option Fn) : Prop where
 ex : ∀ c F, mt c = some F → EqX K (T.cad c)
def W3 (mt : Nat → Option Fn) (c : Bool → Bool) (x y : D) : M Bool := fun fr h => if (y.bty h).isSome || (HX h x y).isSome then ((Nk mt x [y]).bind fun d => (Zq d).bind fun b => M.ret (c b)) fr h else .err
section
variable {X : Cx} {T : Tb} {W : WX} {k j : Nat}
end
end Pk
namespace Pk
open PySem PySem.Spec L2
def Vn (K : PySem.W.Frag) (C : Addr) : Bool := PySem.W.readsIn K C (.type "type") && He.eqO (PySem.W.specialIn K (.ref C) "__getattribute__") (some (some (.builtin "type.__getattribute__")))
def ccA (K : PySem.W.Frag) (C : Addr) (f : Str) : Addr := match PySem.W.findCls K (.ref C) (.type "type") f with
 | some (.val (.ref a)) => a
 | _ => 0
def afO (K : PySem.W.Frag) (C : Addr) (f : Str) (vs : List He.Dv) : Bool := Vn K C && ((match PySem.W.findCls K (.ref C) (.type "type") f with
 | some (.val (.ref a)) => decide (a = ccA K C f)
 | _ => false) && XH K (ccA K C f) vs)
structure afP (X : Cx) (T : Tb) (c : Nat) (f : Str) (d : D) : Prop where
 ex : ∃ (u : Value) (v : V), ClX.CRead X.K (T.cad c) (.type "type") ∧ ClX.CVal X.K (T.cad c) (.type "type") f v u ∧ bA X.K T ⟨fun _ => none, []⟩ v d
section
variable {X : Cx} {T : Tb} {W : WX} {k c : Nat} {x f : Str} {p pos : Pos} {d : D}
end
end Pk
namespace PySem
namespace OwB
open PySem.W PySem.Calls PyProof.Rows
section
variable {prog : Program} {w : World} {A : Around} {E : Value → Shared → Prop} {s : Shared} {K : Frag} {x C f : Addr} {ox : Obj} {od : Option Obj}
def afg (Q : Bool → Shared → Prop) (v : Value) (s' : Shared) : Prop := match v with
 | .int n _ => (0 ≤ n ∧ n < 2 ^ 63) ∧ Q (n != 0) { s' with toks := s'.toks + 1 }
 | _ => False
end
end OwB
end PySem
namespace Pk
open PySem PySem.Spec L2
section
variable {X : Cx} {T : Tb} {W : WX} {k kk j n c : Nat} {pos pf px apos cpos p : Pos} {a b e : Expr} {es : List Expr} {ma mb m : M D} {m1 : M (List D)} {x f : Str}
structure NoB (K : PySem.W.Frag) (T : Tb) (mt : Nat → Option Fn) : Prop where
 ex : ∀ c F, mt c = some F → PySem.W.findIn K (.ref (T.cad c)) "__bool__" = some none
def agi (K : PySem.W.Frag) (C : Addr) : Bool := He.eqO (PySem.W.findIn K (.ref C) "__bool__") (some none)
def Vo (mt : Nat → Option Fn) (ma : M D) : M D := ma.bind fun o => (Nk mt o []).bind fun d => (X4 d).bind fun d => M.opt (match d with
 | .int i => some (.bl (i != 0))
 | _ => none)
theorem au.eraseIdx {K : PySem.W.Frag} {w : Wd} : ∀ {vs : List V} {ds : List D} (n : Nat), au K T w vs ds → au K T w (vs.eraseIdx n) (ds.eraseIdx n)
 | _, _, _, .nil => .nil
 | _, _, 0, .cons _ t => t
 | _, _, n + 1, .cons h t => .cons h (au.eraseIdx n t)
def Ij (i : Nat) (d : D) : M D := fun fr h => match fr[i]?, d with
 | some (some (.nl l)), .int j => if -(2 ^ 63) ≤ j ∧ j < 2 ^ 63 then (match seqIndex? j l.length with
   | some q => (match l[q]? with
     | some y => .ok y (fr.set i (some (.nl (l.eraseIdx q)))) h
     | none => .err)
   | none => .err) else .err
 | _, _ => .err
def X7 (i : Nat) (m : M D) : M D := (aR i jr).bind fun _ => m.bind fun d => Ij i d
structure CmF (X : Cx) (T : Tb) (k c : Nat) (m : Str) (n : Nat) (F : Fn) : Prop where
 ex : ∃ (kk : Nat) (p f : Addr) (fd : FuncData) (ps : List Str), ClX.CRead X.K (T.cad c) (.type "type") ∧ ClX.CMet X.K (T.cad c) (.type "type") m p f ∧ u6 X.prog X.w X.K X.mg X.base T kk f fd ps F ∧ Bn X.K T fd ps (n + 1) [] (aK []) ∧ kk ≤ k
def cmA (K : PySem.W.Frag) (C : Addr) (m : Str) : Addr := match PySem.W.findCls K (.ref C) (.type "type") m with
 | some (.get _ (.ref p) _ _) => (match PySem.W.recIn K p "classmethod" with
   | some (.ref g :: _) => g
   | _ => 0)
 | _ => 0
def cmX (K : PySem.W.Frag) (C : Addr) (m : Str) : Bool := Vn K C && (match PySem.W.findCls K (.ref C) (.type "type") m with
 | some (.get (.builtin i) (.ref p) .none (.ref C')) => decide (i = "classmethod.__get__") && (decide (C' = C) && ((match PySem.W.recIn K p "classmethod" with
   | some (.ref g :: _) => decide (g = cmA K C m)
   | _ => false) && PySem.W.fnIn K (cmA K C m)))
 | _ => false)
def mCm (n c : Nat) (F : Fn) (ma : M (List D)) : M D := ma.bind fun ds fr h => if ds.length = n then bZ fr (F (.cls c :: ds) h) else .err
end
end Pk
namespace Pk
open PySem PySem.Spec L2
section
variable {X : Cx} {T : Tb} {W : WX} {k : Nat} {b : Expr} {mb : M D} {pos px : Pos}
def afQ (X : Cx) (T : Tb) (op : CmpOp) (f : Hh → D → D → Option Bool) : Prop :=
 ∀ B w σ H fr h x y d e c Q, Rel X.K T B w σ H fr h → vO X.K T B σ w H fr x d → vO X.K T B σ w H fr y e → f h d e = some c → Q (.bl c) H → rM X (compareOp op) x y H Q
def Vp (i : Nat) (f : Hh → D → D → Option Bool) (mb : M D) : M Bool := (fL i).bind fun _ => mb.bind fun y => (az i).bind fun d fr h => M.opt (f h d y) fr h
end
end Pk
namespace PySem
namespace OwR
open PySem.W PySem.Calls PyProof.Rows
open PySem.AutoSeq1 (wpAny_loadPart')
section
variable {K : Frag} {x C : Addr} {ox : Obj} {od : Option Obj}
end
section
variable {prog : Program} {w : World} {A : Around} {E : Value → Shared → Prop} {s : Shared} {K : Frag} {x C f : Addr} {ox : Obj} {od : Option Obj} {a : Value} {t : String}
def aal (prog : Program) (w : World) (A : Around) (E : Value → Shared → Prop) (s : Shared) (a : Value) (nm : Str) (x : Addr) : Prop := ∀ P' : Option Value → Shared → Prop, P' none s → wpAny (model prog w) A (tryCompare a nm (.ref x)) P' E s
theorem right (op : CmpOp) {Q : Value → Shared → Prop} (hu : A.units < cLine) (X : K.In s.heap) (I : InstAt s.heap x ox C od) (h1 : oneThing? op a (.ref x) = none) (ha : Looks (model prog w) s.heap (typeOf a) (.type t)) (hn : subIn K (.ref C) (.type t) = some false)
 (hd : aal prog w A E s a (cmpInfo op).2.1 x) (h : wpAny (model prog w) A (tryCompare (.ref x) (cmpInfo op).2.2 a) (fun r s' => ∃ v, r = some v ∧ Q v s') E s) : wpAny (model prog w) A (richCompare op a (.ref x)) Q E s := by
 unfold richCompare
 simp only [h1]
 refine wpAny_holding (wpAny_bind (wpAny_cRoomFor hu ?_))
 refine wpAny_bind (ha.here (wpAny_bind (I.type.here ?_)))
 rw [if_pos (show ((Value.type t != Value.ref C) = true) from rfl)]
 refine wpAny_bind ((looks_subIn X hn).here ?_)
 simp only [Bool.false_eq_true, if_false]
 refine wpAny_bind (hd _ ?_)
 simp only [Bool.not_false, if_true]
 refine wpAny_bind (wpAny_mono h (fun r s' z => ?_) fun _ _ e => e)
 obtain ⟨v, rfl, q⟩ := z
 exact wpAny_pure q
end
end OwR
end PySem
namespace Pk
open PySem PySem.Spec L2
def aam (mt : Nat → Option Fn) (c : Bool → Bool) (x y : D) : M Bool := fun fr h => match fnOf mt h x with
 | some _ => W3 mt c x y fr h
 | none => if (x.bty h).isSome then ((Nk mt y [x]).bind fun d => (Zq d).bind fun b => M.ret (c b)) fr h else .err
section
variable {X : Cx} {T : Tb} {W : WX} {k j : Nat}
end
end Pk
namespace Pk
open PySem PySem.Spec L2
def ae1 (_ : Hh) : D → D → Option Bool
 | .bl a, .bl b => some (decide (a = b))
 | _, _ => none
def aen (_ : Hh) : D → D → Option Bool
 | .bl a, .bl b => some (!decide (a = b))
 | _, _ => none
section
variable {X : Cx} {T : Tb}
end
end Pk
namespace PySem
namespace OwT
open PySem.W PySem.Calls PyProof.Rows PySem.SeqAt
open PySem.AutoSeq1 (wpAny_loadPart')
section
variable {prog : Program} {w : World} {A : Around} {R : Result → Shared → Prop}
end
end OwT
end PySem
namespace Pk
open PySem PySem.Spec L2
mutual
def D.sim : D → D → Bool
 | .int i, .int j => i == j
 | .bl a, .bl b => a == b
 | .str a, .str b => a == b
 | .tup l, .tup m => D.sims l m
 | _, _ => true
def D.sims : List D → List D → Bool
 | d :: ds, e :: es => D.sim d e && D.sims ds es
 | [], [] => true
 | _, _ => false
end
section
variable {X : Cx} {T : Tb} {W : WX} {k j : Nat} {w : Wd} {pins : List (Addr × Obj)} {σ : L2.St} {H : Hp} {s : Shared}
mutual
theorem ab9 (I : Inv X pins σ H s) (sub : ∀ a o, w.F a = some o → H a = some o) : ∀ {v : V} {d : D}, bA X.K T w v d → ∀ {e : D}, bA X.K T w v e → D.sim d e = true
 | _, _, .tup h1 t1, _, r2 => by
   cases r2 with
   | tup h2 t2 =>
     have := I.tuple_inj (dO sub h1) (dO sub h2)
     subst this
     exact Vq I sub t1 t2
   | _ => rfl
 | _, _, .int i, _, r2 => by cases r2; simp [D.sim]
 | _, _, .bl b, _, r2 => by cases r2; simp [D.sim]
 | _, _, .str z, _, r2 => by cases r2; simp [D.sim]
 | _, _, .non, _, _ => rfl
 | _, _, .fl _ _, _, _ => rfl
 | _, _, .kl _ _, _, _ => rfl
 | _, _, .obj _ _, _, _ => rfl
 | _, _, .ref _, _, _ => rfl
 | _, _, .cls _, _, _ => rfl
 | _, _, .ty _, _, _ => rfl
 | _, _, .sl _, _, _ => rfl
theorem Vq (I : Inv X pins σ H s) (sub : ∀ a o, w.F a = some o → H a = some o) : ∀ {vs : List V} {ds : List D}, au X.K T w vs ds → ∀ {es : List D}, au X.K T w vs es → D.sims ds es = true
 | _, _, .nil, _, r2 => by cases r2; rfl
 | _, _, .cons h t, _, r2 => by
   cases r2 with
   | cons h2 t2 =>
     show (_ && _) = true
     rw [ab9 I sub h h2, Vq I sub t t2]
     rfl
end
noncomputable def pPair (mt : Nat → Option Fn) (nf : Nat → Nat) (h : Hh) : D → D → Option Bool
 | .obj c l, .obj c' m => if c = c' ∧ l.length = nf c ∧ m.length = nf c then match mt c with
  | some F => match F [.obj c l, .obj c m] h with
    | .ok (.bl b) _ h' => open Classical in if h' = h ∧ (b = true ∨ D.sims l m = false) then some b else none
    | _ => none
  | none => none
  else none
 | _, _ => none
noncomputable def aan (mt : Nat → Option Fn) (nf : Nat → Nat) (h : Hh) : List D → List D → Option Bool
 | d :: ds, e :: es => (pPair mt nf h d e).bind fun b => if b then aan mt nf h ds es else some false
 | [], [] => some true
 | _, _ => some false
noncomputable def X8 (mt : Nat → Option Fn) (nf : Nat → Nat) (h : Hh) : D → D → Option Bool
 | .tup l, .tup m => aan mt nf h l m
 | _, _ => none
noncomputable def aao (mt : Nat → Option Fn) (nf : Nat → Nat) (x y : D) : M Bool := fun fr h => M.opt (X8 mt nf h x y) fr h
structure NfF (T : Tb) (mt : Nat → Option Fn) (nf : Nat → Nat) : Prop where
 ex : ∀ c F, mt c = some F → (T.fld c).length = nf c
end
end Pk
namespace L2
open PySem PySem.Spec PyProof.Rows
def endsAt (oi : Option Nat) (D : Ends) : Ends := match oi with
 | none => D
 | some i => { nx := fun σ' H' => D.nx (σ'.set i none) H', rt := D.rt, bk := fun σ' H' => D.bk (σ'.set i none) H', ct := fun σ' H' => D.ct (σ'.set i none) H' }
def W4 (oi : Option Nat) (σ : St) (a : Addr) : St := match oi with
 | none => σ
 | some i => σ.set i (some (.ref a))
abbrev Q4 := Value × Option Nat × (Addr → Value → Option Addr → TS)
def ae2 (K : PySem.W.Frag) (Wout : WX) (D : Ends) : List Q4 → WX
 | [] => Wout
 | (c, oi, ts) :: r => fun cls d σ H => ∃ b, PySem.W.exmOne K cls c = some b ∧ (b = true → ∀ a, H a = none → ts a cls d (endsAt oi D) (W4 oi σ a) H) ∧ (b = false → ae2 K Wout D r cls d σ H)
inductive Q5 (X : Cx) : Option Str → Option Nat → Prop
 | no : Q5 X none none
 | at_ {n : Str} {i : Nat} (hi : X.N[i]? = some n) (hln : X.env.kindOf n = some .local) : Q5 X (some n) (some i)
inductive Nm (X : Cx) : List ExceptHandler → List Q4 → Prop
 | nil : Nm X [] []
 | cons {x : Str} {c : Value} {ts : Addr → Value → Option Addr → TS} {b₀ : Stmt} {suite : List Stmt} {np pos' : Pos} {nm : Option Str} {oi : Option Nat} {hds : List ExceptHandler} {l : List Q4} (hc : Names X x c) (hn : Q5 X nm oi)
  (hsu : ∀ (a : Addr) (oe : Obj) (cls : Value) (d : Option Addr) (pn : List (Addr × Obj)), Zc cls d oe → (∃ vs, oe.data = .fields vs) → PSs (X.suite a ((a, oe) :: pn)) (b₀ :: suite) (ts a cls d)) (r : Nm X hds l) :
  Nm X (.ExceptHandler (some (.Name x np)) nm (b₀ :: suite) pos' :: hds) ((c, oi, ts) :: l)
section
variable {X : Cx} {body : List Stmt} {h₀ : ExceptHandler} {hds : List ExceptHandler} {l : List Q4} {pos : Pos} {tb : WX → TS} {Wout : WX}
end
end L2
namespace Pk
open PySem PySem.Spec L2
abbrev Hd := Option Nat × (Nat → Option Bool) × (aP → M Fl)
def u9 : List Hd → aP → M Fl
 | [], x => fun fr h => .exc x fr h
 | (oi, cond, ms) :: r, x => fun fr h => match cond x.c with
   | some true => match oi with
     | some i => if i < fr.length then aaj i (ms x (fr.set i none) h) else .err
     | none => ms x fr h
   | some false => u9 r x fr h
   | none => .err
def Yb (cs : List Hd) (mb : M Fl) : M Fl := fun fr h => match mb fr h with
 | .exc x fr1 h1 => u9 cs x fr1 h1
 | r => r
section
variable {X : Cx} {T : Tb} {W : WX} {k : Nat} {body : List Stmt} {h₀ : ExceptHandler} {hds : List ExceptHandler} {pos : Pos} {mb : M Fl} {cs : List Hd}
inductive Np (X : Cx) (T : Tb) (W : WX) : List ExceptHandler → List Hd → Prop
 | nil : Np X T W [] []
 | named {x n : Str} {c : Value} {cond : Nat → Option Bool} {b₀ : Stmt} {suite : List Stmt} {np pos' : Pos} {i : Nat} {ms : aP → M Fl} {hds : List ExceptHandler} {l : List Hd} (hi : X.N[i]? = some n) (hln : X.env.kindOf n = some .local) (hc : Names X x c)
  (hcond : ∀ cc b, cond cc = some b → PySem.W.exmOne X.K (.ref (T.cad cc)) c = some b)
  (hsu : ∀ (a : Addr) (oe : Obj) (cls : Value) (d : Option Addr) (pn : List (Addr × Obj)) (y : aP), Su X T i a oe cls d pn y → XN (PX X.K T i a y cls d) (X.suite a ((a, oe) :: pn)) T W (b₀ :: suite) (ms y))
  (r : Np X T W hds l) : Np X T W (.ExceptHandler (some (.Name x np)) (some n) (b₀ :: suite) pos' :: hds) ((some i, cond, ms) :: l)
 | only {x : Str} {c : Value} {cond : Nat → Option Bool} {b₀ : Stmt} {suite : List Stmt} {np pos' : Pos} {ms : aP → M Fl} {hds : List ExceptHandler} {l : List Hd} (hc : Names X x c)
  (hcond : ∀ cc b, cond cc = some b → PySem.W.exmOne X.K (.ref (T.cad cc)) c = some b)
  (hsu : ∀ (a : Addr) (oe : Obj) (pn : List (Addr × Obj)) (y : aP), XN (fun _ _ => True) (X.suite a ((a, oe) :: pn)) T W (b₀ :: suite) (ms y))
  (r : Np X T W hds l) : Np X T W (.ExceptHandler (some (.Name x np)) none (b₀ :: suite) pos' :: hds) ((none, cond, ms) :: l)
end
end Pk
namespace Pk
open PySem PySem.Spec L2
section
variable {P : Wd → L2.St → Prop} {X : Cx} {T : Tb} {W : WX} {a b : Expr} {ma mb : M D} {pos pf : Pos} {x : Str} {tab : Tg → Tg → Option Bool}
end
end Pk
namespace Pk
open PySem PySem.Spec L2
def aeo (_ : Hh) : D → Option D
 | .bl b => some (.str (if b then "True" else "False"))
 | _ => none
def Zr (_ : Hh) : D → Option D
 | .bl b => some (.bl b)
 | .int i => some (.bl (i != 0))
 | _ => none
section
variable {X : Cx} {T : Tb} {W : WX} {a : Expr} {ma : M D} {pos pf : Pos}
end
end Pk
namespace Pk
open PySem PySem.Spec PyProof.Rows L2
def afR : List Stmt → Expr
 | .Expr (.Call _ [e] _ _) _ :: _ => e
 | _ => .Name "" ⟨0, 0, 0, 0⟩
def abt : List D → Option (List Str)
 | [] => some []
 | .str s :: r => (abt r).map (s :: ·)
 | _ => none
def afh (K : PySem.W.Frag) (H : Hp) (vs : List V) : Prop := ∃ (a : Addr) (ss : List Str), vs = [.ref a] ∧ SqT K H a (ss.map V.str) ∧ (ss.map (·.length)).sum + ss.length ≤ 1000
def ae3 (ds : List D) : Bool := match ds with
 | [.tup l] => match abt l with
   | some ss => decide ((ss.map (·.length)).sum + ss.length ≤ 1000)
   | none => false
 | _ => false
inductive JP (scope : Scope) (m : Str → Option Value) : List Expr → List Str → Prop
 | nil : JP scope m [] []
 | con {z : Str} {j : Nat} {pos : Pos} {es : List Expr} {ys : List Str} (hz : z.length ≤ 2000) (r : JP scope m es ys) : JP scope m (.Constant (.str z) j pos :: es) (z :: ys)
 | int {f : Str} {i : Int} {t : Tok} {pos pos2 : Pos} {es : List Expr} {ys : List Str} (hl : scope.names.lookup f = some .local) (hd : (f == ("__debug__" : Str)) = false) (hm : m f = some (.int i t)) (hi : i.natAbs.log2 < 1920) (r : JP scope m es ys) : JP scope m (.FormattedValue (.Name f pos) (-1) none pos2 :: es) (toString i :: ys)
 | str {f y : Str} {t : Tok} {pos pos2 : Pos} {es : List Expr} {ys : List Str} (hl : scope.names.lookup f = some .local) (hd : (f == ("__debug__" : Str)) = false) (hm : m f = some (.str y t)) (hy : y.length ≤ 2000) (r : JP scope m es ys) : JP scope m (.FormattedValue (.Name f pos) (-1) none pos2 :: es) (y :: ys)
section
variable {scope : Scope} {qual : Str} {m : Str → Option Value} {L fI cda cc : Addr} {prog : Program} {w : World} {A' : Around} {h : Heap} {g : Array GenState} {d : Drawn} {os : OsState} {E' : Value → Shared → Prop}
end
end Pk
namespace L2
open PySem PySem.Spec PyProof.Rows
def Vr (X : Cx) (te : Expr) (tst : Value → Option Bool) : Prop :=
 ∀ (a : Addr) (oe : Obj) (pn pins : List (Addr × Obj)) (σ : St) (H : Hp) (s : Shared) (cls : Value) (b : Bool) (Q : Bool → Shared → Prop) (E : Value → Shared → Prop), Inv (X.suite a ((a, oe) :: pn)) pins σ H s → PySem.W.Looks (model X.prog X.w) s.heap (typeOf (.ref a)) cls → tst cls = some b →
   (∀ h', (∀ q o, s.heap.get? q = some o → h'.get? q = some o) → Q b { s with heap := h' }) →
   wpAny (model X.prog X.w) (X.A.mark (some (.ref a))) (eval te X.env) (fun c s1 => wpAny (model X.prog X.w) (X.A.mark (some (.ref a))) (excMatches (.ref a) c) Q E s1) E s
abbrev OJ := (Value → Option Bool) × Option Nat × (Addr → Value → Option Addr → TS)
def aep (Wout : WX) (D : Ends) : List OJ → WX
 | [] => Wout
 | (c, oi, ts) :: r => fun cls d σ H => ∃ b, c cls = some b ∧ (b = true → ∀ a, H a = none → ts a cls d (endsAt oi D) (W4 oi σ a) H) ∧ (b = false → aep Wout D r cls d σ H)
inductive Qw (X : Cx) : List ExceptHandler → List OJ → Prop
 | nil : Qw X [] []
 | cons {te : Expr} {c : Value → Option Bool} {ts : Addr → Value → Option Addr → TS} {b₀ : Stmt} {suite : List Stmt} {pos' : Pos} {nm : Option Str} {oi : Option Nat} {hds : List ExceptHandler} {l : List OJ} (hc : Vr X te c) (hn : Q5 X nm oi)
  (hsu : ∀ (a : Addr) (oe : Obj) (cls : Value) (d : Option Addr) (pn : List (Addr × Obj)), Zc cls d oe → (∃ vs, oe.data = .fields vs) → PSs (X.suite a ((a, oe) :: pn)) (b₀ :: suite) (ts a cls d)) (r : Qw X hds l) :
  Qw X (.ExceptHandler (some te) nm (b₀ :: suite) pos' :: hds) ((c, oi, ts) :: l)
section
variable {X : Cx} {body : List Stmt} {h₀ : ExceptHandler} {hds : List ExceptHandler} {l : List OJ} {pos : Pos} {tb : WX → TS} {Wout : WX}
end
end L2
namespace Pk
open PySem PySem.Spec L2
section
variable {X : Cx} {T : Tb} {W : WX} {k : Nat} {body : List Stmt} {h₀ : ExceptHandler} {hds : List ExceptHandler} {pos : Pos} {mb : M Fl} {cs : List Hd}
inductive Nr (X : Cx) (T : Tb) (W : WX) : List ExceptHandler → List Hd → Prop
 | nil : Nr X T W [] []
 | named {te : Expr} {n : Str} {tst : Value → Option Bool} {cond : Nat → Option Bool} {b₀ : Stmt} {suite : List Stmt} {pos' : Pos} {i : Nat} {ms : aP → M Fl} {hds : List ExceptHandler} {l : List Hd} (hi : X.N[i]? = some n) (hln : X.env.kindOf n = some .local) (hc : Vr X te tst)
  (hcond : ∀ cc b, cond cc = some b → tst (.ref (T.cad cc)) = some b)
  (hsu : ∀ (a : Addr) (oe : Obj) (cls : Value) (d : Option Addr) (pn : List (Addr × Obj)) (y : aP), Su X T i a oe cls d pn y → XN (PX X.K T i a y cls d) (X.suite a ((a, oe) :: pn)) T W (b₀ :: suite) (ms y))
  (r : Nr X T W hds l) : Nr X T W (.ExceptHandler (some te) (some n) (b₀ :: suite) pos' :: hds) ((some i, cond, ms) :: l)
 | only {te : Expr} {tst : Value → Option Bool} {cond : Nat → Option Bool} {b₀ : Stmt} {suite : List Stmt} {pos' : Pos} {ms : aP → M Fl} {hds : List ExceptHandler} {l : List Hd} (hc : Vr X te tst)
  (hcond : ∀ cc b, cond cc = some b → tst (.ref (T.cad cc)) = some b)
  (hsu : ∀ (a : Addr) (oe : Obj) (pn : List (Addr × Obj)) (y : aP), XN (fun _ _ => True) (X.suite a ((a, oe) :: pn)) T W (b₀ :: suite) (ms y))
  (r : Nr X T W hds l) : Nr X T W (.ExceptHandler (some te) none (b₀ :: suite) pos' :: hds) ((none, cond, ms) :: l)
def agj (K : PySem.W.Frag) (C : Addr) : Bool := PySem.W.excIn K C [.type "ValueError", .type "Exception", .type "BaseException", .type "object"] "ValueError.__new__" && (PySem.W.keepIn K (.ref C) && (decide (PySem.W.subIn K (.ref C) (.type "BaseException") = some true) && decide (PySem.W.typeIn K (.ref C) = some (.type "type"))))
structure ExB (K : PySem.W.Frag) (C : Addr) : Prop where
 q : PySem.W.excIn K C [.type "ValueError", .type "Exception", .type "BaseException", .type "object"] "ValueError.__new__" = true
 kC : PySem.W.keepIn K (.ref C) = true
 exC : PySem.W.subIn K (.ref C) (.type "BaseException") = some true
 tyC : PySem.W.typeIn K (.ref C) = some (.type "type")
def R7 (c : Nat) (ma : M D) : M Fl := ma.bind fun _ fr h => .exc ⟨c, []⟩ fr h
end
section
variable {P : Wd → L2.St → Prop} {X : Cx} {T : Tb} {W : WX} {a b e : Expr} {m ma mb : M D} {pos : Pos}
end
end Pk
namespace Pk
open PySem PySem.Spec L2
def Ji : List D → List D → List D
 | a :: as, b :: bs => .tup [a, b] :: Ji as bs
 | _, _ => []
def Vs : D → D → Option (List D)
 | .tup l, .tup m => some (Ji l m)
 | .fl l, .fl m => some (Ji l m)
 | .fl l, .kl m => some (Ji l m)
 | .kl l, .fl m => some (Ji l m)
 | .kl l, .kl m => some (Ji l m)
 | _, _ => none
def aap (ma mb : M D) : M (List D) := ma.bind fun x => mb.bind fun y => M.opt (Vs x y)
section
variable {X : Cx} {T : Tb} {W : WX} {k kk : Nat} {pos p tpos : Pos} {elts : List Expr} {a b : Expr} {ma mb : M D}
end
section
variable {P : Wd → L2.St → Prop} {X : Cx} {T : Tb} {W : WX} {k : Nat} {a b e : Expr} {m ma mb : M D} {pos : Pos}
end
def Qx (n : Nat) (gs : List D → M Unit) (d : D) : M Unit := match d with
 | .tup l => if l.length = n then gs l else M.opt none
 | .fl l => if l.length = n then gs l else M.opt none
 | _ => M.opt none
def agk (_ : Hh) : D → D → Option D
 | .fl l, .int k => if 0 ≤ k ∧ k < 1000 ∧ l.length ≤ 100 then some (.nl (List.replicate k.toNat l).flatten) else none
 | _, _ => none
section
variable {X : Cx} {T : Tb} {W : WX} {k kk n : Nat} {is : List Nat} {tgs : List Expr} {gs : List D → M Unit} {pos : Pos} {a b : Expr} {ma mb : M D}
theorem abu (C : Cq X T W k) (t : Oi X T is tgs gs) (hn : (assignEach tgs X.env).length = n := by rfl) (hst : (assignEach tgs X.env).findIdx? (·.1) = none := by rfl) : yI X T is (.Tuple tgs kk pos) (Qx n gs) := by
 obtain ⟨u, pu, t⟩ := t
 intro B w σ H fr h x d Q R rd p
 cases d with
 | tup l =>
   refine QT (pg_tup C.calm pu hn hst) ?_
   have p' : (match (if l.length = n then gs l else M.opt none) fr h with
    | .ok _ fr' h' => ∀ w' σ' H', w.le w' → Rel X.K T B w' σ' H' fr' h' → EY is σ' σ → Q σ' H'
    | _ => False) := p
   by_cases hl : l.length = n
   · rw [if_pos hl] at p'
     obtain ⟨a, vs, rfl, sq, rl⟩ := Bl rd
     exact ⟨a, vs, rfl, dO R.sub sq, rl.length.trans hl, t B w σ H fr h vs l Q R rl p'⟩
   · rw [if_neg hl] at p'
     exact p'.elim
 | fl l =>
   refine QT (pg_lst C.calm pu hn hst) ?_
   have p' : (match (if l.length = n then gs l else M.opt none) fr h with
    | .ok _ fr' h' => ∀ w' σ' H', w.le w' → Rel X.K T B w' σ' H' fr' h' → EY is σ' σ → Q σ' H'
    | _ => False) := p
   by_cases hl : l.length = n
   · rw [if_pos hl] at p'
     obtain ⟨a, vs, rfl, sq, rl⟩ := Ql rd
     exact ⟨a, vs, rfl, SqL.of (R.sub _ _ sq), rl.length.trans hl, t B w σ H fr h vs l Q R rl p'⟩
   · rw [if_neg hl] at p'
     exact p'.elim
 | _ => exact (show False from p).elim
end
def putS : List Nat → List V → L2.St → L2.St
 | i :: is, v :: vs, σ => putS is vs (σ.set i (some v))
 | _, _, σ => σ
section
variable {X : Cx} {T : Tb} {W : WX} {k : Nat} {a b c : Expr} {pos : Pos}
end
end Pk
namespace Pk
open PySem PySem.Spec PyProof.Rows L2
section
variable {prog : Program} {w : World} {A : Around} {E : Value → Shared → Prop} {s : Shared} {l : Addr} {its : List Value} {ns : List Int} {Q : Value → Shared → Prop}
end
def afS (K : PySem.W.Frag) : List V → Hp → VK → Prop := fun vs H Q => ∃ (a : Addr) (ns : List Int), vs = [V.ref a] ∧ SqT K H a (ns.map V.int) ∧ 0 < ns.length ∧ ∀ m, m ∈ ns → (∀ y, y ∈ ns → y ≤ m) → Q (.int m) H
section
variable {X : Cx} {T : Tb} {W : WX} {k : Nat} {e a b c : Expr} {es : List Expr} {m ma mb mc : M D} {pos pf : Pos}
def afT (h : Hh) (d : D) : Option D := match d with
 | .tup l => match D.ints l with
   | some (a :: r) => some (.int (Xy a r))
   | _ => none
 | _ => aeg h d
end
end Pk
namespace Pk
open PySem PySem.Spec PyProof.Rows L2
section
variable {P : Program} {w : World} {A : Around} {E : Value → Shared → Prop} {s : Shared} {env : Env} {x : Str} {pe pt px p0 pc pos : Pos} {iter : Expr} {scope : Scope} {cl : List (Str × Addr)} {c : Int} {k0 : Nat} {Q : Value → Shared → Prop}
def ae4 (ns : List Int) (c : Int) (i : Nat) (k : Int) : Bool := decide (k ∈ (ns.take i).filter fun k => decide (k > c))
end
def adx (a : Int) : List Int → List Int
 | [] => [a]
 | b :: l => if a < b then a :: b :: l else if a = b then b :: l else b :: adx a l
def abv : List Int → List Int
 | [] => []
 | a :: l => adx a (abv l)
section
variable {X : L2.Cx} {T : Tb} {W : WX} {k : Nat} {a iter : Expr} {ma : M D} {pf pos pe pt px p0 pc pos2 : Pos} {x : Str} {scope : Scope} {cl : List (Str × Addr)} {c : Int} {k0 : Nat}
def vSt (w0 : World) (c : Int) : ju V D := fun _ _ _ _ _ H _ v d => ∃ p is n, v = .ref p ∧ d = .fl (is.map .int) ∧ H p = some (SetO w0 p (ae4 is c is.length) n) ∧ n ≤ is.length ∧ is.length ≤ 50
def bTI : D → Option D
 | .tup l => match D.ints l with
   | some is => if is.length ≤ 50 then some (.fl (is.map .int)) else none
   | none => none
 | _ => none
def afo (c : Int) (_ : Hh) (d : D) : Option D := match d with
 | .fl l => match D.ints l with
   | some is => some (.nl ((abv (is.filter fun k => decide (k > c))).map .int))
   | none => none
 | _ => none
def ady (a : Int) : List Int → List Int
 | [] => [a]
 | b :: l => if a ≤ b then a :: b :: l else b :: ady a l
def abw : List Int → List Int
 | [] => []
 | a :: l => ady a (abw l)
def afi (h : Hh) (d : D) : Option D := match d.lints h with
 | some is => if is.length < 64 then some (.nl ((abw is).map .int)) else none
 | none => none
end
end Pk
namespace Pk
open PySem PySem.Spec L2
def vJC : ju It (Nat × List D × List D) := fun K T B _ w _ _ J x => ∀ i w1 σ1 H1 fr1 h1, w.le w1 → Rel K T B w1 σ1 H1 fr1 h1 → h1[x.1]? = some (.nl x.2.1) →
 (x.2.2.length ≤ i → J.stop i H1) ∧ ∀ d, x.2.2[i]? = some d → J.go i H1 ∧ ∀ y H2, J.yld i H1 y H2 → ∃ w2, w1.le w2 ∧ Rel K T B w2 σ1 H2 fr1 h1 ∧ bA K T w2 y d
open Classical in
noncomputable def vf (n : Nat) (l : List D) (g : D → M Unit) (b : M Fl) : List D → M Fl
 | [] => fun fr h => if h[n]? = some (.nl l) then .ok .nx fr h else .err
 | d :: ds => fun fr h => if h[n]? = some (.nl l) then (match g d fr h with
   | .ok _ fr h => match b fr h with
     | .ok .nx fr h => vf n l g b ds fr h
     | .ok .ct fr h => vf n l g b ds fr h
     | .ok .brk fr h => .ok .nx fr h
     | .ok (.rt d) fr h => .ok (.rt d) fr h
     | .exc x fr h => .exc x fr h
     | .err => .err
   | _ => .err) else .err
noncomputable def Az (li : M (Nat × List D × List D)) (g : D → M Unit) (b : M Fl) : M Fl := li.bind fun x => vf x.1 x.2.1 g b x.2.2
def uN (h : Hh) (d : D) : Option (Nat × List D) := match d with
 | .ref n => match h[n]? with
   | some (.nl l) => some (n, l)
   | _ => none
 | _ => none
theorem Q6 {h : Hh} {d : D} {n : Nat} {l : List D} (e : uN h d = some (n, l)) : d = .ref n ∧ h[n]? = some (.nl l) := by
 unfold uN at e
 split at e
 · split at e
   · rename_i q; cases e; exact ⟨rfl, q⟩
   · cases e
 · cases e
def Jj (m : M D) : M (Nat × List D × List D) := m.bind fun d fr h => M.opt ((uN h d).map fun x => (x.1, x.2, x.2)) fr h
def aaq (h : Hh) (d e : D) : Option (Nat × List D × List D) := match uN h d, e with
 | some (n, l), .fl m => some (n, l, Ji l m)
 | _, _ => none
def Yc (ma mb : M D) : M (Nat × List D × List D) := ma.bind fun d => mb.bind fun e fr h => M.opt (aaq h d e) fr h
section
variable {X : Cx} {T : Tb} {W : WX} {k kk : Nat} {pos p tpos : Pos} {tg iter a c : Expr} {elts : List Expr} {body : List Stmt} {g : D → M Unit} {b : M Fl} {is : List Nat} {li : M (Nat × List D × List D)} {ma mb : M D}
theorem Zt (C : Cq X T W k) (si : eE (WI X tg iter) X.K T W vJC li) (sg : yI X T is tg g) (sb : CJ X T W body b) (hs : ∀ x, foldedSetIterable iter X.env x = pure x := by intro _; rfl) : uA X T W (.For tg iter body [] pos) (Az li g b) := fun B w σ H fr h D R p =>
 Bh (ps_for C.po C.calm KD QS Ey hs) (si B w σ H fr h _ R (cW.bind (VR := vJC X.K T B σ) p fun x fr1 h1 w1 H1 J e1 l1 r1 vj p1 => by
  obtain ⟨n, l, ds⟩ := x
  refine ⟨fun i m σ H => m = ds.length - i ∧ i ≤ ds.length ∧ ∃ w' fr' h', w1.le w' ∧ Rel X.K T B w' σ H fr' h' ∧ cW X.K T B W w' (vf n l g b (ds.drop i) fr' h') D, ⟨ds.length, by simp, Nat.zero_le _, w1, fr1, h1, Wd.le_refl _, r1, p1⟩, ?_⟩
  rintro i m σ2 H2 ⟨rfl, hi, w2, fr2, h2, l2, r2, p2⟩
  by_cases hlt : i < ds.length
  · have ed : ds.drop i = ds[i] :: ds.drop (i + 1) := List.drop_eq_getElem_cons hlt
    rw [ed] at p2
    unfold vf at p2
    by_cases hc : h2[n]? = some (.nl l)
    · rw [if_pos hc] at p2
      obtain ⟨js, jg⟩ := vj i w2 σ2 H2 fr2 h2 l2 r2 hc
      obtain ⟨go, y⟩ := jg ds[i] (ag1 hlt)
      refine .inr ⟨go, fun σ' H' => ∃ w' fr' h', w1.le w' ∧ Rel X.K T B w' σ' H' fr' h' ∧ cW X.K T B W w' (vf n l g b (ds.drop (i + 1)) fr' h') D, fun σ' H' q => ⟨ds.length - (i + 1), by omega, rfl, hlt, q⟩, fun x H3 yx => ?_⟩
      obtain ⟨w3, l3, r3, rx⟩ := y x H3 yx
      refine sg B w3 σ2 H3 fr2 h2 x ds[i] _ r3 rx ?_
      cases e2 : g ds[i] fr2 h2 with
      | ok u fr3 h3 =>
        rw [e2] at p2
        intro w4 σ4 H4 l4 r4 _
        refine sb B w4 σ4 H4 fr3 h3 _ r4 ?_
        have l34 : w1.le w4 := Wd.le_trans l2 (Wd.le_trans l3 l4)
        dsimp only at p2
        cases e3 : b fr3 h3 with
        | ok f fr4 h4 =>
          rw [e3] at p2
          cases f with
          | nx => exact fun w5 σ5 H5 l5 r5 => ⟨w5, fr4, h4, Wd.le_trans l34 l5, r5, p2.le (Wd.le_trans (Wd.le_trans l3 l4) l5)⟩
          | ct => exact fun w5 σ5 H5 l5 r5 => ⟨w5, fr4, h4, Wd.le_trans l34 l5, r5, p2.le (Wd.le_trans (Wd.le_trans l3 l4) l5)⟩
          | brk => exact fun w5 σ5 H5 l5 r5 => p2 w5 σ5 H5 (Wd.le_trans (Wd.le_trans l3 l4) l5) r5
          | rt d => exact fun w5 σ5 H5 v l5 r5 rv => p2 w5 σ5 H5 v (Wd.le_trans (Wd.le_trans l3 l4) l5) r5 rv
        | exc y fr4 h4 =>
          rw [e3] at p2
          exact fun w5 σ5 H5 cc dd l5 r5 z => p2 w5 σ5 H5 cc dd (Wd.le_trans (Wd.le_trans l3 l4) l5) r5 z
        | err => rw [e3] at p2; exact p2
      | exc y fr3 h3 => rw [e2] at p2; exact p2
      | err => rw [e2] at p2; exact p2
    · rw [if_neg hc] at p2
      exact p2.elim
  · have e : i = ds.length := by omega
    subst e
    rw [List.drop_length] at p2
    unfold vf at p2
    by_cases hc : h2[n]? = some (.nl l)
    · rw [if_pos hc] at p2
      exact .inl ⟨(vj _ w2 σ2 H2 fr2 h2 l2 r2 hc).1 (Nat.le_refl _), p2 w2 σ2 H2 (Wd.le_refl _) r2⟩
    · rw [if_neg hc] at p2
      exact p2.elim))
theorem Fg {K : PySem.W.Frag} {B : Bs} {w : Wd} {σ : L2.St} {H : Hp} {fr : Fr} {h : Hh} {q : Addr} {n : Nat} {l : List D} (R : Rel K T B w σ H fr h) (hq : w.I[n]? = some q) (hc : h[n]? = some (.nl l)) : ∃ vs, SqL K H q vs ∧ au K T w vs l := by
 obtain ⟨o, eH, ro⟩ := R.cel n q _ hq hc
 cases ro with
 | lst r => exact ⟨_, SqL.of eH, r⟩
theorem aby {w w' : Wd} {n : Nat} {q : Addr} (l : w.le w') (h : w.I[n]? = some q) : w'.I[n]? = some q := by
 obtain ⟨r, e⟩ := l.2
 rw [e, ahw (List.getElem?_eq_some_iff.mp h).1]
 exact h
end
end Pk
namespace PySem
namespace SlK
open Sem (wp)
open PySem.W PySem.Calls PyProof.Rows
section
variable {prog : Program} {w : World} {A : Around} {E : Value → Shared → Prop} {h : Heap} {g : Array GenState} {d : Drawn} {t : Nat} {os : OsState} {a : Addr} {o : Obj}
end
section
variable {prog : Program} {w : World} {A : Around} {E : Value → Shared → Prop} {s : Shared} {K : Frag} {x C L f : Addr} {h₀ : Heap} {m : Str → Option Value} {ox : Obj} {od : Option Obj}
end
end SlK
end PySem
namespace Pk
open PySem PySem.Spec L2
def agl (K : PySem.W.Frag) (C : Addr) : Bool := PySem.W.noSeq K C
structure agm (K : PySem.W.Frag) (T : Tb) (mt : Nat → Option Fn) : Prop where
 ex : ∀ c F, mt c = some F → PySem.W.noSeq K (T.cad c) = true
section
variable {X : Cx} {T : Tb} {W : WX} {k kk j n c : Nat} {pos pf px p2 : Pos} {a b e : Expr} {es : List Expr} {lo hi : Option Expr} {ma mb m : M D} {ml mh : M (Option Int)} {x : Str}
def Vt (mt : Nat → Option Fn) (ma : M D) (ml mh : M (Option Int)) : M D := ma.bind fun o => ml.bind fun l => mh.bind fun u => Ud mt o [.sl l u]
def ae5 (t : String) : Bool := ["int", "bool", "str", "tuple", "list"].contains t
def Ue (tab : Tg → Tg → Option Bool) (h : Hh) (d c : D) : Option D := match d with
 | .sl _ _ => match c with
   | .ty t => if ae5 t then some (.bl false) else none
   | _ => none
 | d => jy tab h d c
theorem Ba {tab : Tg → Tg → Option Bool} (F : RQ X.K T tab) {B : Bs} {w : Wd} {σ : L2.St} {H : Hp} {fr : Fr} {h : Hh} {x y : V} {d e z : D} {Q : VK} (R : Rel X.K T B w σ H fr h) (rx : bA X.K T w x d) (ry : bA X.K T w y e) (q : jy tab h d e = some z)
 (kk : ∀ w' H' v, w.le w' → Rel X.K T B w' σ H' fr h → vV X.K T B σ w' H' fr v z → Q v H') : cM X (.builtin "isinstance") [x, y] H Q := by
 unfold jy at q
 cases et : d.tag h with
 | none => rw [et] at q; cases q
 | some t =>
   rw [et] at q
   have one : ∀ u, e.ctag = some u → (tab t u).map D.bl = some z → cM X (.builtin "isinstance") [x, y] H Q := fun u ec eq => by
    obtain ⟨bb, eb, rfl⟩ := Option.map_eq_some_iff.mp eq
    exact ji call_isi ⟨x, y, t.v T, u.v T, bb, rfl, Qs ry ec, Ou F R (.inl rx) et eb, F.kit t u bb eb, kk w H _ (Wd.le_refl _) R (.bl bb)⟩
   cases e with
   | tup l =>
     dsimp only at q
     cases ec : JM l with
     | none => rw [ec] at q; cases q
     | some us =>
       rw [ec] at q
       cases us with
       | nil => cases q
       | cons u us =>
         obtain ⟨bb, eb, rfl⟩ := Option.map_eq_some_iff.mp q
         obtain ⟨p, vs, rfl, sq, rs⟩ := Bl ry
         have ty : TyX X.K H x (t.v T) := by
          rcases Pu eb with z | ⟨u', b', z⟩
          · cases z
          · exact Ou F R (.inl rx) et z
         exact ji Tr ⟨x, p, vs, t.v T, (u :: us).map (Tg.v T), bb, rfl, dO R.sub sq, M5 rs ec, ty, Lk F eb, kk w H _ (Wd.le_refl _) R (.bl bb)⟩
   | cls c => exact one _ rfl q
   | ty t => exact one _ rfl q
   | _ => cases q
def O2 (h : Hh) (d i : D) : Option D := match i with
 | .sl lo hi => match d.der h with
   | .fl l => some (.nl (cutD l lo hi))
   | .nl l => some (.nl (cutD l lo hi))
   | .kl l => some (.nl (cutD l lo hi))
   | _ => none
 | i => bh h d i
end
end Pk
namespace Pk
open PySem PySem.Spec L2
section
variable {X : Cx} {T : Tb} {W : WX} {k kk j n c : Nat} {pos pf px p2 p pr : Pos} {a b e : Expr} {es : List Expr} {ma mb m : M D} {ms : List (M D)} {x : Str}
def ae6 (a b : Int) : Bool := decide (-(2 ^ 62) ≤ a) && decide (a < 2 ^ 62) && decide (-(2 ^ 62) ≤ b) && decide (b < 2 ^ 62) && decide ((b - a).toNat ≤ 2 ^ 24)
def rgD (a b : Int) : List D := (ahs (b - a).toNat).map fun i => D.int (a + (i : Nat))
def W6 (x y : D) : Option D := match x, y with
 | .int a, .int b => if ae6 a b then some (.nl (rgD a b)) else none
 | _, _ => none
def Vu (ma : M D) : M D := ma.bind fun n => M.opt (W6 (.int 0) n)
def Vv (ma mb : M D) : M D := ma.bind fun a => mb.bind fun b => M.opt (W6 a b)
def aar (i : Nat) (f : Int → Int → Int) (m : M D) : M Fl := fun fr h => match fr[i]? with
 | some (some (.int a)) => (m.bind fun d fr h => match d with
   | .int b => .ok .nx (fr.set i (some (.int (f a b)))) h
   | _ => .err) fr h
 | _ => .err
def aas (d : D) : Option D := match d with
 | .str y => if y.length ≤ big then some (.str y) else none
 | .int i => if i.natAbs.log2 < 1920 then some (.str (toString i)) else none
 | _ => none
def aat (m : M D) : M D := m.bind fun d => M.opt (aas d)
def vS : ju Str Str := fun _ _ _ _ _ _ _ b c => b = c
def Nt : List (M D) → Str → M Str
 | [], acc => M.ret acc
 | m :: ms, acc => m.bind fun d => match d with
   | .str y => if (acc ++ y).length ≤ big then Nt ms (acc ++ y) else M.opt none
   | _ => M.opt none
def agn (X : Cx) (T : Tb) (W : WX) (es : List Expr) (ms : List (M D)) : Prop := ∀ acc, eE (fun σ H Q => tJs (es.map fun e => (WE X e : TE)) acc σ H Q) X.K T W vS (Nt ms acc)
def Yd (ms : List (M D)) : M D := (Nt ms Str.empty).bind fun s => M.ret (.str s)
end
structure WM (X : Cx) (cs : List MatchCase) (z : Str) (D : Ends) (σ : L2.St) (H : Hp) : Prop where
 go : ∀ pins s t first, Inv X pins σ H s → wpAny (model X.prog X.w) X.A (matchCases cs X.env (.str z t) first) (SP X pins D) X.xe s
structure ago (X : Cx) (p : Pattern) (ss : List Str) : Prop where
 go : ∀ (z : Str) pins (σ : L2.St) (H : Hp) s t (R : Option (List (Str × Value)) → Shared → Prop), Inv X pins σ H s → (∀ s', Inv X pins σ H s' → R (if ss.contains z then some [] else none) s') → wpAny (model X.prog X.w) X.A (matchPattern p X.env (.str z t)) R X.xe s
structure afU (X : Cx) (ps : List Pattern) (ss : List Str) : Prop where
 go : ∀ (z : Str) pins (σ : L2.St) (H : Hp) s t (R : Option (List (Str × Value)) → Shared → Prop), Inv X pins σ H s → (∀ s', Inv X pins σ H s' → R (if ss.contains z then some [] else none) s') → wpAny (model X.prog X.w) X.A (matchFirst ps X.env (.str z t)) R X.xe s
section
variable {X : Cx} {T : Tb} {W : WX} {pos p2 : Pos} {e : Expr} {m : M D} {cs : List MatchCase} {ms : List (List Str × M Fl)} {body : List Stmt} {mb : M Fl} {pt : Pattern} {pts : List Pattern} {ss ts : List Str} {y : Str} {jj : Nat}
def agp (X : Cx) (T : Tb) (W : WX) (cs : List MatchCase) (m : Str → M Fl) : Prop := ∀ z, ∀ (B : Bs) (w : Wd) (σ : L2.St) (H : Hp) (fr : Fr) (h : Hh) (D : Ends), Rel X.K T B w σ H fr h → cW X.K T B W w (m z fr h) D → WM X cs z D σ H
def KR : List (List Str × M Fl) → Str → M Fl
 | [], _ => M.ret .nx
 | (ss, b) :: r, z => if ss.contains z then b else KR r z
def Vw (m : M D) (f : Str → M Fl) : M Fl := m.bind fun d => match d with
 | .str z => f z
 | _ => fun _ _ => .err
end
end Pk
namespace Pk
open PySem PySem.Spec L2
section
variable {X : Cx} {T : Tb} {W : WX} {k : Nat} {pos pf : Pos} {a : Expr} {ma : M D}
def afV (_ : Hh) (d : D) : Option D := match d with
 | .int i => if i.natAbs.log2 < 1920 then some (.str (toString i)) else none
 | .str z => some (.str z)
 | _ => none
end
end Pk
namespace Pk
open PySem PySem.Spec L2
section
variable {X : Cx} {T : Tb} {W : WX} {k j : Nat} {pos : Pos} {a b : Expr} {ma mb : M D}
end
end Pk
namespace Pk
open PySem PySem.Spec PyProof.Rows L2
section
variable {prog : Program} {w : World} {A : Around} {E : Value → Shared → Prop} {s : Shared} {l : Addr} {its : List Value} {ns : List Int} {Q : Value → Shared → Prop}
theorem aca (hh : A.handled = none) (hl : PyProof.Rows.IsTup s.heap l its.toArray) (hi : IntsAre its ns)
 (h : ∀ h' tk t', (∀ b o, s.heap.get? b = some o → h'.get? b = some o) → Q (.int ns.sum t') { s with heap := h', toks := tk }) : wpAny (model prog w) A (call (.builtin "sum") [.ref l]) Q E s := by
 obtain ⟨xs, e⟩ := hi.allInts.items
 have hn : numsOf (intItems xs).toList = ns := by rw [← e]; exact hi.numsOf
 rw [nums_intItems] at hn
 rw [e] at hl
 refine PySem.W.ktm_sumG hh hl fun h' tk t' hk => ?_
 have := h h' tk t' hk
 rw [preSum_eq, List.take_of_length_le (by simp), hn]; exact this
end
def aeq (K : PySem.W.Frag) : List V → Hp → VK → Prop := fun vs H Q => ∃ (a : Addr) (ns : List Int), vs = [V.ref a] ∧ SqT K H a (ns.map V.int) ∧ Q (.int ns.sum) H
theorem acb {X : L2.Cx} (hc : X.calm = true) : CallR X (.builtin "sum") (aeq X.K) := by
 intro pins s σ H vs us Q I r h
 obtain ⟨a, ns, rfl, hs, q⟩ := h
 obtain ⟨its, rv, hl, _⟩ := I.tuple hs
 rw [Vals.ref1 r]
 exact aca (I.ok.hd hc) hl rv.ints fun h' tk t' hk => ⟨.int _, H, I.kept hk, ⟨_, rfl⟩, q⟩
section
variable {X : Cx} {T : Tb} {W : WX} {k : Nat} {e a b c : Expr} {es : List Expr} {m ma mb mc : M D} {pos pf : Pos}
def JS (h : Hh) (d : D) : Option D := match d with
 | .tup l => (D.ints l).map fun l => .int l.sum
 | _ => UL h d
theorem acd (C : Cq X T W k) (sa : Le X T W a ma) (hm : X.mg "sum" = none) (hg : Gl X "sum" := by rfl) (he : starEach (a :: []) X.env = (false, eval a X.env) :: starEach [] X.env := by exact d8 rfl) : aM X T W (.Call (.Name "sum" pf) [a] [] pos) (aC JS ma) :=
 Z4 (id := "sum") sa (fun B w σ H fr h x d z Q R rx q kk => by
  unfold JS at q
  split at q
  · rename_i l
    obtain ⟨ls, el, rfl⟩ := Option.map_eq_some_iff.mp q
    rcases rx with rx | ⟨_, _, _, _, rr⟩
    · obtain ⟨p, vs, rfl, sq, rl⟩ := Bl rx
      rw [ints_map el] at rl
      rw [rl.ints] at sq
      exact ji (acb C.calm) ⟨p, ls, rfl, dO R.sub sq, kk w H _ (Wd.le_refl _) R (.int _)⟩
    · cases rr
  · obtain ⟨l, el, rfl⟩ := Option.map_eq_some_iff.mp q
    obtain ⟨p, rfl, sq⟩ := Zb R rx el
    exact ji (cr_sum C.calm) ⟨p, l, rfl, sq, kk w H _ (Wd.le_refl _) R (.int _)⟩) hm hg (by decide +kernel) (by decide) (by decide) he
end
end Pk
namespace PySem
namespace OwA
open PySem.W PySem.Calls PyProof.Rows
section
variable {prog : Program} {w : World} {A : Around} {E : Value → Shared → Prop} {s : Shared} {K : Frag} {x C L f : Addr} {h₀ : Heap} {m : Str → Option Value} {ox : Obj} {od : Option Obj}
end
end OwA
end PySem
namespace Pk
open PySem PySem.Spec L2
section
variable {X : Cx} {T : Tb} {W : WX} {k j : Nat} {pos pf : Pos} {a b : Expr} {ma mb : M D}
def aau (mt : Nat → Option Fn) (ma : M D) : M D := ma.bind fun o => Nk mt o []
def afW (K : PySem.W.Frag) (C : Addr) (f : Str) (i : Int) : Bool := Vn K C && (match PySem.W.findCls K (.ref C) (.type "type") f with
 | some (.val (.int j _)) => decide (j = i)
 | _ => false)
end
end Pk
namespace PySem
namespace OwO
open PySem.W PySem.Calls PyProof.Rows
section
variable {prog : Program} {w : World} {A : Around} {E : Value → Shared → Prop} {s : Shared} {x C dx : Addr}
end
structure NmOk (nm : String) : Prop where
 n0 : fillsNumberSlot (.type "NoneType") nm = pure false
 n1 : fillsNumberSlot (.type "str") nm = pure false
 n2 : fillsNumberSlot (.type "list") nm = pure false
 n3 : fillsNumberSlot (.type "tuple") nm = pure false
 i0 : fillsNumberSlot (.type "int") nm = pure true
 b0 : fillsNumberSlot (.type "bool") nm = pure true
 i1 : numberSlotInPython (.type "int") nm = pure false
 b1 : numberSlotInPython (.type "bool") nm = pure false
 i2 : ∃ tk, typeLookup (.type "int") (dunderR nm) = pure tk
 b2 : ∃ tk, typeLookup (.type "bool") (dunderR nm) = pure tk
 ti : ∀ (prog : Program) (w : World) (A : Around) (E : Value → Shared → Prop) (s : Shared) (x C dx : Addr) (a : Int) (t : Tok), s.heap.get? x = some (instObj C dx) → ∀ P' : Option Value → Shared → Prop, P' none s → wpAny (model prog w) A (tryMethod (.int a t) (PySem.dunder nm) (.ref x)) P' E s
 tb : ∀ (prog : Program) (w : World) (A : Around) (E : Value → Shared → Prop) (s : Shared) (x C dx : Addr) (a : Bool), s.heap.get? x = some (instObj C dx) → ∀ P' : Option Value → Shared → Prop, P' none s → wpAny (model prog w) A (tryMethod (.bool a) (PySem.dunder nm) (.ref x)) P' E s
end OwO
end PySem
namespace Pk
open PySem PySem.Spec L2
structure OpF (X : Cx) (T : Tb) (k : Nat) (nm : String) (mt : Nat → Option Fn) : Prop where
 ok : PySem.OwO.NmOk nm
 ex : ∀ c F, mt c = some F → ∃ (kk : Nat) (f : Addr) (fd : FuncData) (ps : List Str), Cls X.K (T.cad c) ∧ Meth X.K (T.cad c) (PySem.dunder nm) f ∧ PySem.W.selfFirst X.K (T.cad c) = true ∧ u6 X.prog X.w X.K X.mg X.base T kk f fd ps F ∧ Bn X.K T fd ps 2 [] (aK []) ∧ kk ≤ k ∧
  ∃ g, PySem.W.findIn X.K (.ref (T.cad c)) (PySem.dunderR nm) = some (some (.ref g))
structure agq (X : Cx) (T : Tb) (k : Nat) (nm : String) (mt : Nat → Option Fn) : Prop where
 ex : ∀ c F, mt c = some F → ∃ (kk : Nat) (f : Addr) (fd : FuncData) (ps : List Str), Cls X.K (T.cad c) ∧ Meth X.K (T.cad c) (PySem.dunderR nm) f ∧ PySem.W.selfFirst X.K (T.cad c) = true ∧ u6 X.prog X.w X.K X.mg X.base T kk f fd ps F ∧ Bn X.K T fd ps 2 [] (aK []) ∧ kk ≤ k ∧
  (∃ g, PySem.W.findIn X.K (.ref (T.cad c)) (PySem.dunder nm) = some (some (.ref g))) ∧ PySem.W.subIn X.K (.ref (T.cad c)) (.type "int") = some false ∧ PySem.W.subIn X.K (.ref (T.cad c)) (.type "bool") = some false
def Ug (mtl mtr : Nat → Option Fn) (h : Hh) (x y : D) : Option (Fn × Bool) := match HX h x y with
 | some c => (mtl c).map fun F => (F, false)
 | none => match fnOf mtl h x, y.bty h with
   | some F, some _ => some (F, false)
   | _, _ => match fnOf mtr h y, x.smp with
     | some F, true => some (F, true)
     | _, _ => none
def aav (mtl mtr : Nat → Option Fn) (ma mb : M D) : M D := ma.bind fun x => mb.bind fun y fr h => match Ug mtl mtr h x y with
 | some (F, false) => bZ fr (F [x, y] h)
 | some (F, true) => bZ fr (F [y, x] h)
 | none => .err
section
variable {X : Cx} {T : Tb} {W : WX} {k : Nat} {a b : Expr} {ma mb : M D} {pos : Pos} {op : Operator}
def Vx (X : Cx) (T : Tb) (W : WX) (k : Nat) (σ : L2.St) (f : Addr) (x y : V) (H2 : Hp) (Q : VK) : Prop :=
 ∃ (kk : Nat) (fd : FuncData) (ps : List Str) (G : Fn), u6 X.prog X.w X.K X.mg X.base T kk f fd ps G ∧ Bn X.K T fd ps 2 [] (aK []) ∧ kk ≤ k ∧
   ∀ g gV, KBn X.K fd ps 2 [] g gV → (∀ (w : Wd) (vs zs : List V) (ds es : List D), au X.K T w vs ds → au X.K T w zs es → ds.length = 2 → es.length = ([] : List Str).length → au X.K T w (gV vs zs) (aK [] ds es) ∧ (aK [] ds es).length = ps.length) →
     spF X.K T ps.length G (gV [x, y] []) H2 Q (fun c d H' => W c d σ H')
def afq (X : Cx) (T : Tb) (W : WX) (k : Nat) (op : Operator) (σ : L2.St) (x y : V) (H2 : Hp) (Q : VK) : Prop :=
 (∃ (p1 p2 C dx dy f : Addr) (fs gs : List (Str × V)), x = .ref p1 ∧ y = .ref p2 ∧ H2 p1 = some (.ins C dx fs) ∧ H2 p2 = some (.ins C dy gs) ∧ Meth X.K C (PySem.dunder op.info.2) f ∧ PySem.W.selfFirst X.K C = true ∧ Vx X T W k σ f x y H2 Q) ∨
 (∃ (p1 C dx f g : Addr) (fs : List (Str × V)) (t : String), x = .ref p1 ∧ H2 p1 = some (.ins C dx fs) ∧ TyX X.K H2 y (.type t) ∧ t ∈ Lj ∧ Meth X.K C (PySem.dunder op.info.2) f ∧ PySem.W.selfFirst X.K C = true ∧ PySem.W.findIn X.K (.ref C) (PySem.dunderR op.info.2) = some (some (.ref g)) ∧ Vx X T W k σ f x y H2 Q) ∨
 (∃ (p1 C dx f g : Addr) (fs : List (Str × V)), y = .ref p1 ∧ H2 p1 = some (.ins C dx fs) ∧ (x = .non ∨ (∃ bb, x = .bl bb) ∨ ∃ i, x = .int i) ∧ Meth X.K C (PySem.dunderR op.info.2) f ∧ PySem.W.selfFirst X.K C = true ∧ PySem.W.findIn X.K (.ref C) (PySem.dunder op.info.2) = some (some (.ref g)) ∧ PySem.W.subIn X.K (.ref C) (.type "int") = some false ∧ PySem.W.subIn X.K (.ref C) (.type "bool") = some false ∧ Vx X T W k σ f y x H2 Q)
end
end Pk
namespace Pk
open PySem PySem.Spec L2
def D.lstP (h : Hh) (d : D) : Option (List PyData) := match d.der h with
 | .fl l => D.toPs l
 | .nl l => D.toPs l
 | .kl l => D.toPs l
 | _ => none
section
variable {K : PySem.W.Frag} {T : Tb} {B : Bs} {w : Wd} {σ : L2.St} {H : Hp} {fr : Fr} {h : Hh} {v : V} {d : D} {ps : List PyData}
end
section
variable {X : Cx} {T : Tb} {W : WX} {k : Nat}
def ae7 (h : Hh) (x y : D) : Option Bool := match x.toP, y.lstP h with
 | some p, some ps => if SeqAt.shaped p && SeqAt.shaped (.list ps) then some (ps.any fun z => PyData.eqv z p) else none
 | _, _ => none
def afX (h : Hh) (x y : D) : Option Bool := (ae7 h x y).map (!·)
def Ik (h : Hh) (o x : D) : Option D := match x.toP, o.lstP h with
 | some p, some ps => if SeqAt.shaped p && SeqAt.shaped (.list ps) then (ps.findIdx? fun z => PyData.eqv z p).map (fun j => .int (j : Nat)) else none
 | _, _ => none
def Vy (mo m : M D) : M D := mo.bind fun o fr h => if (o.lstP h).isSome then m.bind (fun x fr h => M.opt (Ik h o x) fr h) fr h else .err
variable {e o : Expr} {m mo : M D} {cpos apos : Pos}
end
end Pk
namespace Pk
open PySem PySem.Spec L2
def agr (ix : Nat → Option Nat) (x : D) : M D := fun fr h => M.opt (tX ix h x) fr h
section
variable {X : Cx} {T : Tb} {W : WX} {k j : Nat} {apos pos : Pos} {o b : Expr} {mo mb : M D} {f : Str} {ix : Nat → Option Nat}
end
end Pk
namespace Pk
open PySem PySem.Spec L2
def Vz : ju It (Nat × List D × List D) := fun K T _ _ w _ _ J x => ∀ i w1 B1 σ1 H1 fr1 h1, w.le w1 → Rel K T B1 w1 σ1 H1 fr1 h1 → h1[x.1]? = some (.nl x.2.1) →
 (x.2.2.length ≤ i → J.stop i H1) ∧ ∀ d, x.2.2[i]? = some d → J.go i H1 ∧ ∀ y H2, J.yld i H1 y H2 → ∃ w2, w1.le w2 ∧ Rel K T B1 w2 σ1 H2 fr1 h1 ∧ bA K T w2 y d
open Classical in
noncomputable def nu (n : Nat) (l : List D) (vs : List Nat) (g : D → M Unit) (t : M Bool) (e : M D) : List D → M (List D)
 | [] => fun fr h => if h[n]? = some (.nl l) then .ok [] fr h else .err
 | d :: ds => fun fr h => if h[n]? = some (.nl l) then ((dJ vs g t e d).bind fun o => (nu n l vs g t e ds).bind fun r => M.ret (uB o r)) fr h else .err
noncomputable def Lq (vs : List Nat) (l : M (Nat × List D × List D)) (g : D → M Unit) (t : M Bool) (e : M D) : M D := l.bind fun x => (GZ vs).bind fun _ => if x.2.2.length ≤ big then (nu x.1 x.2.1 vs g t e x.2.2).bind fun r => M.ret (.nl r) else M.opt none
section
variable {X : Cx} {T : Tb} {W : WX} {k : Nat} {pos pos' : Pos} {tg iter elt c e : Expr} {ifs : List Expr} {li : M (Nat × List D × List D)} {g : D → M Unit} {b : M Fl} {is : List Nat} {t : M Bool} {m me : M D} {scope : Scope} {own : List (Str × Nat)} {body : List Stmt}
theorem Q7 (s : aM X T W e m) : eE (WI X tg e) X.K T W Vz (Jj m) := fun B w σ H fr h Q r p => Oh (Ze aX) (s B w σ H fr h _ r (aO.bind (VR := vV X.K T B σ) p fun d fr1 h1 w1 H1 x e1 l1 r1 rx p1 => by
 cases q : uN h1 d with
 | none => rw [q] at p1; exact p1.elim
 | some z =>
   obtain ⟨n, l⟩ := z
   rw [q] at p1
   obtain ⟨rfl, hc⟩ := Q6 q
   cases rx with
   | @ref a n1 s1 =>
     obtain ⟨vs, sq, rv⟩ := Fg r1 s1 hc
     refine ⟨a, rfl, .inr ⟨⟨vs, sq⟩, p1 w1 H1 (Itl X.K a) (Wd.le_refl _) r1 fun i w3 B3 σ3 H3 fr3 h3 l3 r3 hc3 => ?_⟩⟩
     obtain ⟨vs3, sq3, rv3⟩ := Fg r3 (aby l3 s1) hc3
     refine ⟨fun hi => ⟨vs3, sq3, by rw [rv3.length]; exact hi⟩, fun d' hd => ?_⟩
     obtain ⟨v, hv, rv⟩ := rv3.get hd
     refine ⟨⟨vs3, v, sq3, hv⟩, fun y H4 hy => ?_⟩
     obtain ⟨rfl, hy⟩ := hy
     have z := hy vs3 sq3
     rw [hv] at z
     cases z
     exact ⟨w3, Wd.le_refl _, r3, rv⟩))
theorem aer (s : eE (WI X tg iter) X.K T W Vz li) : eE (WI X tg iter) X.K T W vJC li := fun B w σ H fr h Q r p => s B w σ H fr h Q r (by
 revert p
 cases li fr h with
 | ok x fr1 h1 => exact fun p w1 H1 J l1 r1 vj => p w1 H1 J l1 r1 fun i w2 σ2 H2 fr2 h2 l2 r2 hc => vj i w2 B σ2 H2 fr2 h2 l2 r2 hc
 | exc x fr1 h1 => exact fun p => p
 | err => exact fun p => p)
theorem Zu (C : Cq X T W k) (si : eE (WI X tg iter) X.K T W Vz li) (sg : yI X T is tg g) (sb : CJ X T W body b) (hs : ∀ x, foldedSetIterable iter X.env x = pure x := by intro _; rfl) : uA X T W (.For tg iter body [] pos) (Az li g b) := Zt C (aer si) sg sb hs
theorem W7 {B : Bs} {w : Wd} {σ : L2.St} {H : Hp} {fr : Fr} {h : Hh} {Q : VK} (si : eE (WI X tg iter) X.K T W Vz li) (hi : ∀ i ∈ is, i ∈ own.map (·.2))
 (sg : ∀ (s : Shared) (H0 : Hp) (C : Addr) (cl : List (Str × Addr)) (fp : List Addr), yI (X.blk s H0 scope (compEnvC scope cl C X.env) fp) T is tg g)
 (st : ∀ (s : Shared) (H0 : Hp) (C : Addr) (cl : List (Str × Addr)) (fp : List Addr), eE (Mg (X.blk s H0 scope (compEnvC scope cl C X.env) fp) ifs) X.K T WF vB t)
 (se : ∀ (s : Shared) (H0 : Hp) (C : Addr) (cl : List (Str × Addr)) (fp : List Addr), aM (X.blk s H0 scope (compEnvC scope cl C X.env) fp) T WF elt me)
 (R : Rel X.K T B w σ H fr h) (p : aO X.K T B W (vE X.K T B σ) w σ (Lq (own.map (·.2)) li g t me fr h) Q) : tLc (WI X tg iter) (GB X scope tg) (TB X scope ifs) (EB X scope elt) (own.map (·.2)) σ H Q := by
 refine si B w σ H fr h _ R (aO.bind (VR := Vz X.K T B σ) p fun xx fr0 h0 w1 H1 J e1 l1 r0 vj p0 => ?_)
 obtain ⟨n, l, ds⟩ := xx
 generalize hvs : own.map (·.2) = vs at hi p0 ⊢
 intro A0 nD
 have p1 : aO X.K T B W (vE X.K T B σ) w1 σ ((if ds.length ≤ big then (nu n l vs g t me ds).bind fun r => M.ret (.nl r) else M.opt none) (cX fr0 vs) h0) Q := p0
 by_cases hb : ds.length ≤ big
 · rw [if_pos hb] at p1
   have rD := r0.temp (o := .lst []) nD
   have OD : Own B w1 A0 := r0.own_new nD
   refine ⟨fun i m H => m = ds.length - i ∧ i ≤ ds.length ∧ ∃ w' fr' h' acc vs', w1.le w' ∧ au X.K T w' vs' acc ∧ acc.length ≤ i ∧ Rel X.K T (B.pr A0 (.lst vs')) w' (wipe σ vs) H fr' h' ∧ (∀ j ∈ vs, ∀ d, fr'[j]? ≠ some (some d)) ∧
    aO X.K T B W (vE X.K T B σ) w' σ (((nu n l vs g t me (ds.drop i)).bind fun r => M.ret (D.nl (acc ++ r))) fr' h') Q, ⟨ds.length, by simp, Nat.zero_le _, w1, cX fr0 vs, h0, [], [], Wd.le_refl _, .nil, Nat.zero_le _,
     (rD.wipe vs).protect OD (fun i ⟨z1, dd, z2, z3⟩ => r0.loose_new nD i (by
      by_cases hj : i ∈ vs
      · exact absurd z2 (xQ hj)
      · rw [JK hj] at z2
        rw [wipe_out hj] at z1
        exact ⟨z1, dd, z2, z3⟩)) upd_same, fun j hj d => xQ hj, p1⟩, ?_⟩
   rintro i m H2 ⟨rfl, hil, w2, fr2, h2, acc, us, l2, ra, la, r2, hw2, p2⟩
   have hP := OD.p
   by_cases hc : h2[n]? = some (.nl l)
   case neg =>
    exfalso
    have q : nu n l vs g t me (ds.drop i) fr2 h2 = .err := by cases ds.drop i <;> (unfold nu; rw [if_neg hc])
    rw [M.bind_err q] at p2
    exact p2.elim
   obtain ⟨js, jg⟩ := vj i w2 (B.pr A0 (.lst us)) (wipe σ vs) H2 fr2 h2 l2 r2 hc
   by_cases hlt : i < ds.length
   · obtain ⟨go, y⟩ := jg ds[i] (ag1 hlt)
     have ed : ds.drop i = ds[i] :: ds.drop (i + 1) := List.drop_eq_getElem_cons hlt
     rw [ed] at p2
     refine .inr ⟨go, fun H' => ∃ w' fr' h' acc vs', w1.le w' ∧ au X.K T w' vs' acc ∧ acc.length ≤ i + 1 ∧ Rel X.K T (B.pr A0 (.lst vs')) w' (wipe σ vs) H' fr' h' ∧ (∀ j ∈ vs, ∀ d, fr'[j]? ≠ some (some d)) ∧
      aO X.K T B W (vE X.K T B σ) w' σ (((nu n l vs g t me (ds.drop (i + 1))).bind fun r => M.ret (D.nl (acc ++ r))) fr' h') Q, fun H' q => ⟨ds.length - (i + 1), by omega, rfl, hlt, q⟩, fun x H3 yx => ?_⟩
     obtain ⟨w3, l3, r3, rx⟩ := y x H3 yx
     have turn : ∃ o fr' h', dJ vs g t me ds[i] fr2 h2 = .ok o fr' h' ∧ aO X.K T B W (vE X.K T B σ) w2 σ (((nu n l vs g t me (ds.drop (i + 1))).bind fun r => M.ret (D.nl (acc ++ uB o r))) fr' h') Q := by
      have p2' : aO X.K T B W (vE X.K T B σ) w2 σ (((dJ vs g t me ds[i]).bind fun o => (nu n l vs g t me (ds.drop (i + 1))).bind fun r => M.ret (D.nl (acc ++ uB o r))) fr2 h2) Q := by
       have ee : ((nu n l vs g t me (ds[i] :: ds.drop (i + 1))).bind fun r => M.ret (D.nl (acc ++ r))) fr2 h2 = ((dJ vs g t me ds[i]).bind fun o => (nu n l vs g t me (ds.drop (i + 1))).bind fun r => M.ret (D.nl (acc ++ uB o r))) fr2 h2 := by
        have q9 : nu n l vs g t me (ds[i] :: ds.drop (i + 1)) fr2 h2 = ((dJ vs g t me ds[i]).bind fun o => (nu n l vs g t me (ds.drop (i + 1))).bind fun r => M.ret (uB o r)) fr2 h2 := by rw [nu]; dsimp only; rw [if_pos hc]
        unfold M.bind at q9 ⊢
        rw [q9]
        cases dJ vs g t me ds[i] fr2 h2 with
        | ok o fr' h' => dsimp only; cases nu n l vs g t me (ds.drop (i + 1)) fr' h' <;> rfl
        | exc _ _ _ => rfl
        | err => rfl
       rw [← ee]
       exact p2
      cases q : dJ vs g t me ds[i] fr2 h2 with
      | ok o fr' h' =>
        rw [M.bind_ok q] at p2'
        exact ⟨o, fr', h', rfl, p2'⟩
      | exc y fr' h' =>
        exfalso
        unfold dJ at q
        split at q
        · split at q
          · split at q <;> cases q
          · cases q
          · cases q
        · cases q
      | err =>
        rw [M.bind_err q] at p2'
        exact p2'.elim
     obtain ⟨o, fro, ho, qt, p3⟩ := turn
     have upw : ∀ {u2 : L2.St} {w' : Wd} {H' : Hp} {fr' : Fr} {h' : Hh} {B' : Bs}, wipe u2 vs = wipe σ vs → Rel X.K T B' w' u2 H' fr' h' → Rel X.K T B' w' (wipe σ vs) H' (cX fr' vs) h' := fun {u2 w' H' fr' h' B'} e R' => by
      rw [← e]
      exact R'.wipe vs
     intro s0 H0 C cl fp
     refine sg s0 H0 C cl fp (B.pr A0 (.lst us)) w3 (wipe σ vs) H3 fr2 h2 x ds[i] _ r3 rx ?_
     unfold dJ at qt
     cases q1 : g ds[i] fr2 h2 with
     | exc _ _ _ => rw [q1] at qt; cases qt
     | err => rw [q1] at qt; cases qt
     | ok _ fr3 h3 =>
       rw [q1] at qt
       dsimp only at qt
       intro w4 σ4 H4 l4 r4 k4
       have ew : wipe σ4 vs = wipe σ vs := UW (k4.1.trans (wipe_length σ vs)) hi k4.2
       refine ⟨ew, fun s0 H0 C cl fp => st s0 H0 C cl fp (B.pr A0 (.lst us)) w4 σ4 H4 fr3 h3 _ r4 ?_⟩
       cases q2 : t fr3 h3 with
       | exc _ _ _ => rw [q2] at qt; cases qt
       | err => rw [q2] at qt; cases qt
       | ok b fr4 h4 =>
         rw [q2] at qt
         intro w5 H5 v l5 r5 rv
         have rv' : v = b := rv
         subst rv'
         cases v with
         | false =>
           dsimp only at qt
           cases qt
           simp only [Bool.false_eq_true, if_false]
           exact ⟨w5, _, _, acc, us, Wd.le_trans l2 (Wd.le_trans l3 (Wd.le_trans l4 l5)), ra.mono (Wd.le_trans l3 (Wd.le_trans l4 l5)), Nat.le_succ_of_le la, upw ew r5, fun j hj d => xQ hj, p3.le (Wd.le_trans l3 (Wd.le_trans l4 l5))⟩
         | true =>
           dsimp only at qt
           simp only [if_true]
           intro s0 H0 C cl fp
           refine se s0 H0 C cl fp (B.pr A0 (.lst us)) w5 σ4 H5 fr4 h4 _ r5 ?_
           cases q3 : me fr4 h4 with
           | exc _ _ _ => rw [q3] at qt; cases qt
           | err => rw [q3] at qt; cases qt
           | ok yd fr5 h5 =>
             rw [q3] at qt
             cases qt
             intro w6 H6 yv l6 r6 ry
             have hD6 : H6 A0 = some (.lst us) := (r6.prot (A0, .lst us) (ag9)).1
             have lall : w2.le w6 := Wd.le_trans l3 (Wd.le_trans l4 (Wd.le_trans l5 l6))
             refine ⟨us, hD6, ?_, w6, _, _, acc ++ [yd], us ++ [yv], Wd.le_trans l2 lall, (ra.mono lall).append (.cons ry .nil), ?_, (upw ew r6).repr OD.e OD.p, fun j hj d => xQ hj, ?_⟩
             · rw [ra.length]
               have : big < sizeLine := by decide
               omega
             · rw [ag4]
               show acc.length + 1 ≤ i + 1
               omega
             · have e9 : ∀ r : List _, acc ++ uB (some yd) r = acc ++ [yd] ++ r := fun r => by
                show acc ++ yd :: r = _
                rw [List.append_assoc]
                rfl
               simp only [e9] at p3
               exact p3.le lall
   · have e : i = ds.length := by omega
     subst e
     rw [List.drop_length] at p2
     obtain ⟨r3, O3, lo3, eD⟩ := r2.unprotect OD.e OD.p
     refine .inl ⟨js (Nat.le_refl _), ?_⟩
     have p3 : aO X.K T B W (vE X.K T B σ) w2 σ (.ok (D.nl (acc ++ [])) fr2 h2) Q := by
      have q : nu n l vs g t me [] fr2 h2 = .ok [] fr2 h2 := by unfold nu; rw [if_pos hc]
      rw [M.bind_ok q] at p2
      exact p2
     rw [ag5] at p3
     have r4 : Rel X.K T B w2 σ H2 fr2 h2 := r3.refr (by rw [← wipe_length σ vs]; exact r3.fl) fun j d ej => ⟨ej, by
      by_cases hj : j ∈ vs
      · exact absurd ej (hw2 j hj d)
      · exact (wipe_out hj).symm⟩
     refine p3 w2 H2 (.ref A0) (Wd.le_refl _) r4 (.inr ⟨A0, _, rfl, O3, fun j ⟨z1, dd, z2, z3⟩ => lo3 j ⟨?_, dd, z2, z3⟩, eD, .lst ra⟩)
     by_cases hj : j ∈ vs
     · exact absurd z2 (hw2 j hj dd)
     · rw [wipe_out hj]
       exact z1
 · rw [if_neg hb] at p1
   exact p1.elim
theorem adz (C : Cq X T W k) (own : List (Str × Nat)) (si : eE (WI X tg iter) X.K T W Vz li) (hi : ∀ i ∈ is, i ∈ own.map (·.2))
 (sg : ∀ (s : Shared) (H0 : Hp) (C : Addr) (cl : List (Str × Addr)) (fp : List Addr), yI (X.blk s H0 scope (compEnvC scope cl C X.env) fp) T is tg g)
 (st : ∀ (s : Shared) (H0 : Hp) (C : Addr) (cl : List (Str × Addr)) (fp : List Addr), eE (Mg (X.blk s H0 scope (compEnvC scope cl C X.env) fp) ifs) X.K T WF vB t)
 (se : ∀ (s : Shared) (H0 : Hp) (C : Addr) (cl : List (Str × Addr)) (fp : List Addr), aM (X.blk s H0 scope (compEnvC scope cl C X.env) fp) T WF elt me)
 (ok : BlkOk X.N X.env.scope scope own) (hs : ∀ x, foldedSetIterable iter X.env x = pure x := by intro _; rfl) : xO X T W (.ListComp elt [⟨tg, iter, ifs, 0⟩] scope pos) (Lq (own.map (·.2)) li g t me) := fun B w σ H fr h Q R p =>
 eU (pe_lc C.calm C.nd KD ok (fun s H C cl fp => ⟨fun pins s' σ H v u Q I r hh => hh s _ C cl fp pins s' u I r⟩) (fun s H C cl fp => ⟨fun pins s' σ H Q I hh => hh s _ C cl fp pins s' I⟩) (fun s H C cl fp => ⟨fun pins s' σ H Q I hh => (hh s _ C cl fp).go pins s' I⟩) hs) (W7 si hi sg st se R p)
theorem aaw (C : Cq X T W k) (j : Nat) {y : Str} {py spos : Pos} (own : List (Str × Nat)) (si : eE (WI X tg iter) X.K T W Vz li) (hi : ∀ i ∈ is, i ∈ own.map (·.2))
 (sg : ∀ (s : Shared) (H0 : Hp) (C : Addr) (cl : List (Str × Addr)) (fp : List Addr), yI (X.blk s H0 scope (compEnvC scope cl C X.env) fp) T is tg g)
 (st : ∀ (s : Shared) (H0 : Hp) (C : Addr) (cl : List (Str × Addr)) (fp : List Addr), eE (Mg (X.blk s H0 scope (compEnvC scope cl C X.env) fp) ifs) X.K T WF vB t)
 (se : ∀ (s : Shared) (H0 : Hp) (C : Addr) (cl : List (Str × Addr)) (fp : List Addr), aM (X.blk s H0 scope (compEnvC scope cl C X.env) fp) T WF elt me)
 (ok : BlkOk X.N X.env.scope scope own) (hsw : swapsWith (.ListComp elt [⟨tg, iter, ifs, 0⟩] scope pos) (some (.Name y py)) spos.line X.env = pure true) (hy : X.N[j]? = some y := by rfl) (j0 : j ≠ 0 := by decide) (hyl : X.env.scope.names.lookup y = some .local := by rfl)
 (hs : ∀ x, foldedSetIterable iter X.env x = pure x := by intro _; rfl) : uA X T W (.Assign [.Name y py] (.ListComp elt [⟨tg, iter, ifs, 0⟩] scope pos) spos) (bM j (Lq (own.map (·.2)) li g t me)) := fun B w σ H fr h D R p =>
 Bh (ps_setLc C.calm C.nd hy hyl hsw KD ok (fun s H C cl fp => ⟨fun pins s' σ H v u Q I r hh => hh s _ C cl fp pins s' u I r⟩) (fun s H C cl fp => ⟨fun pins s' σ H Q I hh => hh s _ C cl fp pins s' I⟩) (fun s H C cl fp => ⟨fun pins s' σ H Q I hh => (hh s _ C cl fp).go pins s' I⟩) hs)
  (W7 si hi sg st se R (cW.bind (VR := vE X.K T B σ) p fun d fr1 h1 w1 H1 v e1 l1 r1 rx p1 => p1 w1 _ H1 (Wd.le_refl _) (r1.put j j0 rx)))
end
section
variable {X : Cx} {T : Tb} {W : WX} {k : Nat} {pos : Pos} {tg iter elt : Expr} {ifs : List Expr} {lj : M (List D)} {g : D → M Unit} {is : List Nat} {t : M Bool} {me : M D} {scope : Scope} {own : List (Str × Nat)}
end
end Pk
namespace Pk
open PySem PySem.Spec L2
def keyD : D → Option Key
 | .int i => some (.inl i)
 | .str s => some (.inr s)
 | _ => none
def abz : List D → Option (List Key)
 | [] => some []
 | d :: ds => (keyD d).bind fun k => (abz ds).map fun ks => k :: ks
def valD : List (List Key) → List D → List Key → Option D
 | k' :: ks, d :: ds, k => if k' = k then some d else valD ks ds k
 | _, _, _ => none
def adA (ks : List (List Key)) (k : List Key) : Bool := ks.any fun k' => decide (k' = k)
def aes (ks : List (List Key)) (k : List Key) : List (List Key) := if adA ks k = true then ks else ks ++ [k]
def aet {α : Type} (ks : List (List Key)) (ds : List α) (k : List Key) (v : α) : List α := if adA ks k = true then List.zipWith (fun k' d => if k' = k then v else d) ks ds else ds ++ [v]
def abA (ds : List D) : Option (List Key) := if ds.length ≤ big then abz ds else none
def Zv (h : Hh) (d : D) : Option (Nat × List (List Key) × List D) := match d with
 | .ref n => match h[n]? with
   | some (.dc ks ds) => some (n, ks, ds)
   | _ => none
 | _ => none
def Ye (h : Hh) (o : D) (ks : List D) : Option D := (Zv h o).bind fun x => (abA ks).bind fun k => valD x.2.1 x.2.2 k
def Uh (h : Hh) (o : D) (ks : List D) (d : D) : Option Hh := (Zv h o).bind fun x => (abA ks).bind fun k => if x.2.1.length ≤ big then some (h.set x.1 (.dc (aes x.2.1 k) (aet x.2.1 x.2.2 k d))) else none
def abB : M D := fun fr h => .ok (.ref h.length) fr (h ++ [.dc [] []])
def Yg (mo : M D) (ms : List (M D)) : M D := mo.bind fun o => (ao ms).bind fun ks fr h => M.opt (Ye h o ks) fr h
def Yh (mo : M D) (ms : List (M D)) (mv : M D) : M Fl := mv.bind fun d => mo.bind fun o => (ao ms).bind fun ks fr h => match Uh h o ks d with
 | some h' => .ok .nx fr h'
 | none => .err
section
variable {X : Cx} {T : Tb} {W : WX} {k x1 : Nat} {pos tpos pos' : Pos} {o e : Expr} {es : List Expr} {mo m : M D} {ms : List (M D)}
end
end Pk
namespace Pk
open PySem PySem.Spec L2
def ags (K : PySem.W.Frag) (ta : TE) (f : Str) : TG := fun v σ H Q => ta σ H fun x H1 => ∃ a C dx fs, x = .ref a ∧ H1 a = some (.ins C dx fs) ∧ Cls K C ∧ NoAttr K C f ∧ fs.length < 1000 ∧ Q σ (upd H1 a (.ins C dx (putF f v fs)))
section
variable {X : Cx} {o : Expr} {f : Str} {pos : Pos} {ta : TE}
end
def Yi (j : Nat) (ix : Nat → Option Nat) (d : D) : M Unit := fun fr h => match fr[j]? with
 | some (some (.ref n)) => match h[n]? with
   | some (.no c fs) => match ix c with
     | some i => match uw i d fs with
       | some fs' => .ok () fr (h.set n (.no c fs'))
       | none => .err
     | none => .err
   | _ => .err
 | _ => .err
section
variable {X : Cx} {T : Tb} {W : WX} {k kk n c : Nat} {px tpos p pos : Pos} {f : Addr} {fd : FuncData} {ps : List Str} {F : Fn} {x : Str} {e : Expr} {es : List Expr} {ma mk : M (List D)} {gD : List D → List D → List D}
structure FnC (P : Program) (w : World) (K : PySem.W.Frag) (mg : Str → Option Value) (base : Heap) (T : Tb) (k c : Nat) (f : Addr) (fd : FuncData) (ps : List Str) (F : Fn) : Prop where
 ok : FnOk P w K mg base (L2.CX P w) k f fd ps (spF K T ps.length F)
 made : Mk K (T.cad c) f
def abC (fr : Fr) (n : Nat) : R D → R D
 | .ok .non _ h => .ok (.ref n) fr h
 | .ok _ _ _ => .err
 | .exc x _ h => .exc x fr h
 | .err => .err
def VB (c n m : Nat) (F : Fn) (gD : List D → List D → List D) (ma mk : M (List D)) : M D := ma.bind fun ds => mk.bind fun es fr h => if ds.length = n ∧ es.length = m then abC fr h.length (F (.ref h.length :: gD ds es) (h ++ [.no c []])) else .err
end
def afY (h : Hh) (d e : D) : Option D := match d, e with
 | .fl a, .ref n => match h[n]? with
   | some (.nl b) => if a.length + b.length ≤ big then some (.nl (a ++ b)) else none
   | _ => none
 | _, _ => none
section
variable {X : Cx} {T : Tb} {W : WX} {pos : Pos} {a b : Expr} {ma mb : M D}
end
end Pk
namespace Pk
open PySem PySem.Spec L2
def Jk (m : M D) : M (Nat × List D × List D) := m.bind fun d fr h => M.opt ((uN h d).map fun x => (x.1, x.2, iW 0 x.2)) fr h
section
variable {X : Cx} {T : Tb} {W : WX} {p pos tpos : Pos} {kk : Nat} {elts : List Expr} {a : Expr} {ma : M D}
theorem aax (s : aM X T W a ma) (hm : X.mg "enumerate" = none) (hg : Gl X "enumerate" := by rfl) (hs : starEach [a] X.env = [(false, eval a X.env)] := by rfl) :
 eE (WI X (.Tuple elts kk tpos) (.Call (.Name "enumerate" p) [a] [] pos)) X.K T W vJC (Jk ma) := fun B w σ H fr h Q r p =>
 Oh (Zm hg hm (pa_cons aX pa_nil (hs.trans (by rfl))) hs) (s B w σ H fr h _ r (aO.bind (VR := vV X.K T B σ) p fun d fr1 h1 w1 H1 x e1 l1 r1 rx p1 => by
  cases q : uN h1 d with
  | none => rw [q] at p1; exact p1.elim
  | some z =>
    obtain ⟨n, l⟩ := z
    rw [q] at p1
    obtain ⟨rfl, hc⟩ := Q6 q
    cases rx with
    | @ref a n1 s1 =>
      obtain ⟨vs, sq, rv⟩ := Fg r1 s1 hc
      refine ⟨a, vs, rfl, .inl ⟨sq, p1 w1 H1 (Ite X.K a) (Wd.le_refl _) r1 fun i w3 σ3 H3 fr3 h3 l3 r4 hc3 => ?_⟩⟩
      obtain ⟨vs3, sq3, rv3⟩ := Fg r4 (aby l3 s1) hc3
      refine ⟨fun hi => ⟨vs3, sq3, by rw [rv3.length, ← Dm 0 l]; exact hi⟩, fun d' hd => ?_⟩
      obtain ⟨d1, hd1, rfl⟩ := JQ 0 l i d' hd
      obtain ⟨v, hv, rv⟩ := rv3.get hd1
      refine ⟨⟨vs3, v, sq3, hv⟩, fun y H4 hy => ?_⟩
      obtain ⟨Tp, x, rfl, nT, rfl, hx⟩ := hy
      have z := hx vs3 sq3
      rw [hv] at z
      cases z
      have lw := Wd.le_add (o := .tup [.int (i : Nat), v]) (r4.nP nT).1
      rw [Nat.zero_add]
      exact ⟨w3.add Tp (.tup [.int (i : Nat), v]), lw, r4.laid nT, .tup (SqT.of (by show upd w3.F Tp _ Tp = _; rw [upd_same])) (.cons (.int _) (.cons (rv.mono lw) .nil))⟩))
end
end Pk
namespace Pk
open PySem PySem.Spec L2
def R8 (j : Nat) (ix : Nat → Option Nat) (f : Int → Int → Int) (m : M D) : M Fl := fun fr h => match fr[j]? with
 | some (some (.ref n)) => match h[n]? with
   | some (.no c fs) => match ix c with
     | some i => match fs[i]? with
       | some (.int a) => (m.bind fun d fr h => match d with
         | .int b => match h[n]? with
           | some (.no c' fs') => if c' = c then match uw i (.int (f a b)) fs' with
            | some fs'' => .ok .nx fr (h.set n (.no c fs''))
            | none => .err
            else .err
           | _ => .err
         | _ => .err) fr h
       | _ => .err
     | none => .err
   | _ => .err
 | _ => .err
section
variable {X : Cx} {T : Tb} {W : WX} {k : Nat} {px pos tpos apos cpos : Pos} {e o : Expr} {m mo : M D}
def aay (d : D) (l : List D) : Option (List D) := match d with
 | .fl r => if l.length + r.length ≤ big then some (l ++ r) else none
 | _ => none
def Yj (i : Nat) (m : M D) : M D := (aR i jr).bind fun _ => m.bind fun d => (aR i (aay d)).bind fun _ => M.ret .non
end
def W8 (i : Nat) (f : Hh → D → D → Option Bool) (m mt : M D) (b : M Fl) : Nat → M Fl
 | 0 => fun _ _ => .err
 | n + 1 => m.bind fun d fr h => (mt.bind fun t fr h => match f h d t with
   | some true => (match b fr h with
     | .ok .nx fr h => W8 i f m mt b n fr h
     | .ok .ct fr h => W8 i f m mt b n fr h
     | .ok .brk fr h => .ok .nx fr h
     | .ok (.rt d) fr h => .ok (.rt d) fr h
     | .exc x fr h => .exc x fr h
     | .err => .err)
   | some false => .ok .nx fr h
   | none => .err) (fr.set i (some d)) h
section
variable {X : Cx} {T : Tb} {W : WX} {k : Nat} {pos px npos cpos : Pos} {e t : Expr} {m mt : M D} {body : List Stmt} {b : M Fl} {x : Str}
end
end Pk
namespace Pk
open PySem PySem.Spec L2
section
variable {P : Program} {w : World} {K : PySem.W.Frag} {mg : Str → Option Value} {base : Heap} {T : Tb} {k : Nat} {x qual : Str} {params : Arguments} {body : List Stmt} {scope : Scope} {dvs : List V} {kws : List (Str × V)} {f : Addr} {fd : FuncData} {N ps : List Str} {p0 pv : Str}
end
def spM (K : PySem.W.Frag) (T : Tb) (F : Fn) : Sp := fun vs H Q E => ∃ ws rest, vs = ws ++ rest ∧ ws.length = 1 ∧ rest.length ≤ sizeLine ∧ ∀ p, H p = Option.none → spF K T 2 F (ws ++ [V.ref p]) (upd H p (.tup rest)) Q E
structure FnM (P : Program) (w : World) (K : PySem.W.Frag) (mg : Str → Option Value) (base : Heap) (T : Tb) (k : Nat) (f : Addr) (F : Fn) : Prop where
 run : FnR P w K mg base (L2.CX P w) k f (spM K T F)
section
variable {P : Program} {w : World} {K : PySem.W.Frag} {mg : Str → Option Value} {base : Heap} {T : Tb} {k : Nat} {x qual : Str} {params : Arguments} {body : List Stmt} {scope : Scope} {f : Addr} {fd : FuncData} {N : List Str} {p0 pv : Str}
end
def VD (mt : Nat → Option Fn) (mo : M D) (ma : M (List D)) : M D := mo.bind fun o fr h => match fnOf mt h o with
 | some F => (ma.bind fun ds fr h => if ds.length ≤ big then bZ fr (F [o, .tup ds] h) else .err) fr h
 | none => .err
def aaz (m : M D) (ma : M (List D)) : M (List D) := m.bind fun d fr h => match d.its h with
 | some l => (ma.bind fun r => M.ret (l ++ r)) fr h
 | none => .err
def Yk (m : M D) (ma : M (List D)) : M (List D) := m.bind fun d => ma.bind fun r => M.ret (d :: r)
structure aft (X : Cx) (T : Tb) (k : Nat) (m : Str) (mt : Nat → Option Fn) : Prop where
 ex : ∀ c F, mt c = some F → ∃ (kk : Nat) (f : Addr), Cls X.K (T.cad c) ∧ BMeth X.K (T.cad c) m f ∧ FnM X.prog X.w X.K X.mg X.base T kk f F ∧ m ∉ T.fld c ∧ kk ≤ k
section
variable {X : Cx} {T : Tb} {W : WX} {k kk : Nat} {f : Addr} {F : Fn} {m : Str} {p sp_ pos apos : Pos} {e o : Expr} {es : List Expr} {mo me : M D} {ma : M (List D)} {mt : Nat → Option Fn}
end
def bmX (K : PySem.W.Frag) (C : Addr) (m : Str) : Bool := He.eqO (PySem.W.specialIn K (.ref (He.ma K C m)) "__get__") (some (some (.builtin "function.__get__"))) && (decide (PySem.W.takesIn K (.ref (He.ma K C m)) = some false) && (decide (PySem.W.copiedNames.contains m = false) && PySem.W.fnIn K (He.ma K C m)))
end Pk
namespace Pk
open PySem PySem.Spec PyProof.Rows L2 GenW
section
variable {prog : Program} {w : World} {A : Around} {R : GenEnd} {Y : Protocol} {n : Nat} {s₀ : Shared} {c : Code} {fs : List Frame} {s : Shared} {env : Env} {K : Flow → Sem PySem.Fin} {J : Value → Sem PySem.Fin} {gd : Bool → Bool} {lv : List Value → List Value}
abbrev afZ (env : Env) (e : Value) : Sem PySem.Fin := (do noteFrame e env; theTreesLotGoes e : Sem Unit).wrap (fun _ => .raise e) .raise id id
abbrev turned (target : Expr) (it : Value) (body : List Stmt) (env : Env) : Flow → Sem PySem.Fin := fun f => match f with
 | .next | .cont => .pure (.again (.forLoop target it body [] env))
 | .brk => .pure (.done .next)
 | .ret v => .pure (.done (.ret v))
end
end Pk
namespace Pk
open PySem PySem.Spec PyProof.Rows L2 GenW
section
variable {M : Model} {A : Around} {R : GenEnd} {Y : Protocol} {n : Nat} {s₀ : Shared} {c : Code} {fs : List Frame} {s : Shared} {env : Env} {K : Flow → Sem PySem.Fin} {J : Value → Sem PySem.Fin} {gd : Bool → Bool} {lv : List Value → List Value}
end
section
variable {X : Cx} {tg : Expr}
def af0 (wi : TI) (g : TG) (tb : TGn) : TGn := fun D ys σ H => wi σ H fun J H1 => ∃ W : Nat → Nat → List V → L2.St → Hp → Prop, (∃ m, W 0 m ys σ H1) ∧ ∀ i m ys σ H, W i m ys σ H →
 (J.stop i H ∧ D.nx ys σ H) ∨ (J.go i H ∧ ∃ N : List V → L2.St → Hp → Prop, (∀ ys' σ' H', N ys' σ' H' → ∃ m', m' < m ∧ W (i + 1) m' ys' σ' H') ∧ ∀ x H', J.yld i H x H' → g x σ H' fun σ2 H2 => tb { D with nx := N, ct := N, bk := D.nx } ys σ2 H2)
end
end Pk
namespace Pk
open PySem PySem.Spec PyProof.Rows L2
def Yl (ma : M (List D)) : M D := ma.bind fun ds => M.opt (if ds.length ≤ big then some (.tup ds) else none)
section
variable {X : Cx} {T : Tb} {W : WX} {es : List Expr} {ma : M (List D)} {pos : Pos}
end
def adB (vs vs1 : List Nat) (g : D → M Unit) (t : M Bool) (l1 : M (List D)) (g1 : D → M Unit) (t1 : M Bool) (e : M D) (acc : List D) (d : D) : M (List D) := fun fr h => match g d fr h with
 | .ok _ fr h => match t fr h with
   | .ok true fr h => match l1 fr h with
     | .ok ds1 fr h => if acc.length + ds1.length ≤ big then (match jx vs1 g1 t1 e ds1 (cX fr vs1) h with
       | .ok r fr h => .ok (acc ++ r) (cX fr vs) h
       | _ => .err) else .err
     | _ => .err
   | .ok false fr h => .ok acc (cX fr vs) h
   | _ => .err
 | _ => .err
def abD (vs vs1 : List Nat) (g : D → M Unit) (t : M Bool) (l1 : M (List D)) (g1 : D → M Unit) (t1 : M Bool) (e : M D) : List D → List D → M (List D)
 | acc, [] => M.ret acc
 | acc, d :: ds => (adB vs vs1 g t l1 g1 t1 e acc d).bind fun acc' => abD vs vs1 g t l1 g1 t1 e acc' ds
def agt (vs vs1 : List Nat) (l : M (List D)) (g : D → M Unit) (t : M Bool) (l1 : M (List D)) (g1 : D → M Unit) (t1 : M Bool) (e : M D) : M D := l.bind fun ds => (GZ vs).bind fun _ => (abD vs vs1 g t l1 g1 t1 e [] ds).bind fun r => M.ret (.nl r)
section
variable {X : Cx} {T : Tb} {W : WX} {k : Nat} {pos pos' : Pos} {tg iter elt tg1 iter1 : Expr} {ifs ifs1 : List Expr} {li l1 : M (List D)} {g g1 : D → M Unit} {is is1 vs1 : List Nat} {t t1 : M Bool} {me : M D} {scope : Scope} {own : List (Str × Nat)}
def IB (X : Cx) (scope : Scope) (tg iter : Expr) : TI := fun σ H R => ∀ (s : Shared) (H0 : Hp) (C : Addr) (cl : List (Str × Addr)) (fp : List Addr), WI (X.blk s H0 scope (compEnvC scope cl C X.env) fp) tg iter σ H R
end
end Pk
namespace Pk
open PySem PySem.Spec PyProof.Rows L2 GenW
structure WGS (X : Cx) (st : Stmt) (D : GEnds) (ys : List V) (σ : L2.St) (H : Hp) : Prop where
 go : ∀ (A : Around) (S : Addr) (ip : List (Addr × Obj)) (R : GenEnd) (n : Nat) (s₀ : Shared) (c : Code) (fs : List Frame) (K : Flow → Sem PySem.Fin) (J : Value → Sem PySem.Fin) (gd : Bool → Bool) (lv : List Value → List Value) (s : Shared),
  GC X S ip A c fs gd → n + ys.length = sizeLine → GK X S ip A R c fs K J D → GI X S ip ys σ H s →
  Seg (model X.prog X.w) A R (GY X S) n s₀ c ((exec st X.env).wrap K J gd lv) fs s
structure ae8 (X : Cx) (st : List Stmt) (D : GEnds) (ys : List V) (σ : L2.St) (H : Hp) : Prop where
 go : ∀ (A : Around) (S : Addr) (ip : List (Addr × Obj)) (R : GenEnd) (n : Nat) (s₀ : Shared) (c : Code) (fs : List Frame) (K : Flow → Sem PySem.Fin) (J : Value → Sem PySem.Fin) (gd : Bool → Bool) (lv : List Value → List Value) (s : Shared),
  GC X S ip A c fs gd → n + ys.length = sizeLine → GK X S ip A R c fs K J D → GI X S ip ys σ H s →
  Seg (model X.prog X.w) A R (GY X S) n s₀ c ((execs st X.env).wrap K J gd lv) fs s
section
variable {X : Cx} {st : Stmt} {sts : List Stmt} {D : GEnds} {ys : List V} {σ : L2.St} {H : Hp}
end
def Q8 (K : PySem.W.Frag) (T : Tb) (B : Bs) (w : Wd) (r : R (List D)) (E : GEnds) : Prop := match r with
 | .ok ds fr h => ∀ w' σ' H' vs, w.le w' → Rel K T B w' σ' H' fr h → au K T w' vs ds → E.nx vs σ' H'
 | _ => False
def af1 (X : Cx) (T : Tb) (st : Stmt) (m : List D → M (List D)) : Prop := ∀ (B : Bs) (w : Wd) (σ : L2.St) (H : Hp) (fr : Fr) (h : Hh) (E : GEnds) (vs : List V) (ds : List D), Rel X.K T B w σ H fr h → au X.K T w vs ds → Q8 X.K T B w (m ds fr h) E → WGS X st E vs σ H
def adC (X : Cx) (T : Tb) (sts : List Stmt) (m : List D → M (List D)) : Prop := ∀ (B : Bs) (w : Wd) (σ : L2.St) (H : Hp) (fr : Fr) (h : Hh) (E : GEnds) (vs : List V) (ds : List D), Rel X.K T B w σ H fr h → au X.K T w vs ds → Q8 X.K T B w (m ds fr h) E → ae8 X sts E vs σ H
def afv (m : M Fl) (ds : List D) : M (List D) := fun fr h => match m fr h with
 | .ok .nx fr h => .ok ds fr h
 | _ => .err
def gNil (ds : List D) : M (List D) := M.ret ds
def af2 (m n : List D → M (List D)) (ds : List D) : M (List D) := (m ds).bind n
def afw (me : M D) (ds : List D) : M (List D) := me.bind fun d => if ds.length < big then M.ret (ds ++ [d]) else fun _ _ => .err
def adD (g : D → M Unit) (b : List D → M (List D)) : List D → List D → M (List D)
 | [], out => M.ret out
 | d :: ds, out => (g d).bind fun _ => (b out).bind fun out' => adD g b ds out'
def af3 (l : M (List D)) (g : D → M Unit) (b : List D → M (List D)) (out : List D) : M (List D) := l.bind fun ds => adD g b ds out
section
variable {X : Cx} {T : Tb} {W : WX} {k : Nat} {st : Stmt} {sts body : List Stmt} {m n : List D → M (List D)} {b : List D → M (List D)} {pos yp : Pos} {e tg iter : Expr} {me : M D} {li : M (List D)} {g : D → M Unit} {is : List Nat}
theorem Q8.le {K : PySem.W.Frag} {T : Tb} {B : Bs} {w w' : Wd} {r : R (List D)} {E : GEnds} (l : w.le w') (p : Q8 K T B w r E) : Q8 K T B w' r E := by
 cases r with
 | ok ds fr h => exact fun w2 σ' H' vs l2 r rs => p w2 σ' H' vs (Wd.le_trans l l2) r rs
 | exc _ _ _ => exact p
 | err => exact p
end
end Pk
namespace Pk
open PySem PySem.Spec PyProof.Rows L2 GenW
abbrev VF := List D → Hh → R (List D)
def agu (n : Nat) (m : List D → M (List D)) : VF := fun ds h => match m [] (startF n ds) h with
 | .ok ys _ h => .ok ys [] h
 | _ => .err
def ae9 (K : PySem.W.Frag) (T : Tb) (n : Nat) (F : VF) : SpG := fun vs H Q _ => ∃ w h ds, Rel K T (Bs.of w H) w [] H [] h ∧ au K T w vs ds ∧ ds.length = n ∧ match F ds h with
 | .ok ys _ h' => ∀ w' H' vs', w.le w' → Rel K T (Bs.of w H) w' [] H' [] h' → au K T w' vs' ys → Q vs' H'
 | _ => False
def af4 (P : Program) (w : World) (K : PySem.W.Frag) (mg : Str → Option Value) (base : Heap) (T : Tb) (k : Nat) (N : List Str) (qual : Str) (scope : Scope) (body : List Stmt) (m : List D → M (List D)) : Prop :=
 ∀ (f : Addr) (cdv : Value) (A : Around) (outer : List Env) (s : Shared) (H : Hp) (E : XK) (pn : List (Addr × Obj)), Cq (gcxOf P w K mg base N qual scope f cdv A outer s H E pn) T (WX.up E) k → adC (gcxOf P w K mg base N qual scope f cdv A outer s H E pn) T body m
section
variable {P : Program} {w : World} {K : PySem.W.Frag} {mg : Str → Option Value} {base : Heap} {T : Tb} {k : Nat} {name qual : Str} {params : Arguments} {body : List Stmt} {scope : Scope} {f : Addr} {N ps : List Str} {dV kV doc pm cdv ct oc : Value} {an od : Option Addr} {osl : Array (Option Value)}
end
end Pk
namespace Pk
open PySem PySem.Spec PyProof.Rows L2 GenW
def aeu (mt : Nat → Option VF) (h : Hh) (o : D) : Option VF := match o.ins h with
 | some (c, _) => mt c
 | none => none
def afx (mt : Nat → Option VF) (mo : M D) : M D := mo.bind fun o fr h => match aeu mt h o with
 | some F => match F [o] h with
   | .ok ys _ h => .ok (.nl ys) fr h
   | _ => .err
 | none => .err
structure afy (X : Cx) (T : Tb) (kk : Nat) (m : Str) (mt : Nat → Option VF) : Prop where
 ex : ∀ c F, mt c = some F → ∃ (f : Addr) (fd : FuncData) (ps : List Str), Cls X.K (T.cad c) ∧ Meth X.K (T.cad c) m f ∧ GFn X.prog X.w X.K X.mg X.base kk f fd ps (ae9 X.K T 1 F) ∧ Binds X.K fd ps [] ∧ m ∉ T.fld c
def WPG (X : Cx) (k : Nat) (e : Expr) (E : XK) : TGen := fun σ H cont => ∀ pins s, Inv X pins σ H s → wpAny (model X.prog X.w) X.A (eval e X.env)
    (fun u s' => ∃ H1 sc ex, Inv X pins σ H1 sc ∧ ExOk X pins ex ∧ GMade X.prog X.w k X.stack H1 sc ex cont E u s') X.xe s
section
variable {X : Cx} {T : Tb} {W : WX} {k kk : Nat} {m nm : Str} {p pos pos' apos : Pos} {o e : Expr} {mo : M D} {mt : Nat → Option VF} {E : XK}
end
section
variable {P : Program} {w : World} {K : PySem.W.Frag} {mg : Str → Option Value} {base : Heap} {T : Tb} {k : Nat} {x qual : Str} {params : Arguments} {body : List Stmt} {scope : Scope} {f : Addr} {fd : FuncData} {N ps : List Str} {dvs : List V} {kws : List (Str × V)}
end
end Pk
namespace L2
open PySem PySem.Spec PyProof.Rows
def Tu (K : PySem.W.Frag) : Bool → Hp → Addr → List V → Prop
 | true, H, a, xs => SqT K H a xs
 | false, H, a, xs => SqL K H a xs
def agv : Bool → Heap → Addr → Addr → Nat → Prop
 | true, h, it, a, i => h.IsTupleIter it a i
 | false, h, it, a, i => h.IsListIter it a i
def Isk : Bool → Heap → Addr → Array Value → Prop
 | true, h, a, xs => h.IsTuple a xs
 | false, h, a, xs => h.IsList a xs
def itOb : Bool → Addr → Obj
 | true, t => { cls := .type "tuple_iterator", data := .fields #[.ref t, .int 0 0] }
 | false, t => { cls := .type "list_iterator", data := .fields #[.ref t, .int 0 0] }
def afa (K : PySem.W.Frag) (k1 k2 : Bool) (a b : Addr) : It :=
 ⟨fun i H => ∃ xs ys x y, Tu K k1 H a xs ∧ Tu K k2 H b ys ∧ xs[i]? = some x ∧ ys[i]? = some y,
  fun i H v H' => ∃ T x y, v = V.ref T ∧ H T = none ∧ H' = upd H T (.tup [x, y]) ∧ (∀ xs, Tu K k1 H a xs → xs[i]? = some x) ∧ ∀ ys, Tu K k2 H b ys → ys[i]? = some y,
  fun i H => ∃ xs ys, Tu K k1 H a xs ∧ Tu K k2 H b ys ∧ (xs.length ≤ i ∨ ys.length ≤ i)⟩
def af5 (K : PySem.W.Frag) (ta : TA) : TI := fun σ H R => ta σ H fun vs H1 => ∃ k1 k2 a b xs ys, vs = [.ref a, .ref b] ∧ Tu K k1 H1 a xs ∧ Tu K k2 H1 b ys ∧ R (afa K k1 k2 a b) H1
end L2
namespace Pk
open PySem PySem.Spec L2
def Ym (h : Hh) (d e : D) : Option (Nat × List D × List D) := match uN h d, e with
 | some (n, l), .fl m => some (n, l, Ji l m)
 | some (n, l), .tup m => some (n, l, Ji l m)
 | _, _ => none
def VG (ma mb : M D) : M (Nat × List D × List D) := ma.bind fun d => mb.bind fun e fr h => M.opt (Ym h d e) fr h
section
variable {X : Cx} {T : Tb} {W : WX} {k kk : Nat} {pos p tpos : Pos} {tg iter a c : Expr} {elts : List Expr} {body : List Stmt} {g : D → M Unit} {b : M Fl} {is : List Nat} {li : M (Nat × List D × List D)} {ma mb : M D}
end
end Pk
namespace GenP
open PySem PySem.Spec
def noG : Frame → Bool
 | .gen .. => false
 | .ret .. => true
def Ui : Frame → Frame
 | .gen _ _ _ c p => .ret (fun _ => .unsupported "") none false [] c p []
 | f => f
theorem Wv (f : Frame) : (Ui f).where_ = f.where_ := by cases f <;> rfl
def Uj : GenState → GenState
 | .suspended _ l c p fs cl => .suspended (fun _ => .unsupported "") l c p (fs.map Ui) cl
 | st => st
def Nu : GenState → Bool
 | .fresh _ => false
 | _ => true
def clean : GenState → Bool
 | .suspended _ _ _ _ fs _ => fs.all noG
 | _ => true
theorem Zw (st : GenState) : (Uj st).seen = st.seen := by
 cases st with
 | suspended k l c p fs cl =>
   show (_, some ((c, p) :: List.map Frame.where_ (fs.map Ui))) = (_, some ((c, p) :: List.map Frame.where_ fs))
   rw [List.map_map, show Frame.where_ ∘ Ui = Frame.where_ from funext Wv]
 | _ => rfl
theorem Zx (st : GenState) : (Uj st).bare = st.bare := by cases st <;> rfl
structure PS (D : Nat → Prop) (s t : Shared) : Prop where
 heap : s.heap = t.heap
 drawn : s.drawn = t.drawn
 toks : s.toks = t.toks
 os : s.os = t.os
 size : s.gens.size = t.gens.size
 dead : ∀ i, D i → ∃ st, t.gens[i]? = some st ∧ Nu st = true ∧ s.gens[i]? = some (Uj st)
 live : ∀ i, ¬ D i → s.gens[i]? = t.gens[i]? ∧ ∀ st, t.gens[i]? = some st → clean st = true
theorem PS.seen {D : Nat → Prop} {s t : Shared} (P : PS D s t) {g : Nat} {st : GenState} (h : s.gens[g]? = some st) : ∃ st', t.gens[g]? = some st' ∧ st'.seen = st.seen := by
 by_cases hd : D g
 · obtain ⟨st', e1, e2, e3⟩ := P.dead g hd
   rw [h] at e3
   cases e3
   exact ⟨st', e1, (Zw st').symm⟩
 · exact ⟨st, (P.live g hd).1.symm.trans h, rfl⟩
theorem PS.set {D : Nat → Prop} {s t : Shared} (P : PS D s t) {g : Nat} (hd : ¬ D g) {st : GenState} (hc : clean st = true) : PS D (s.setGen g st) (t.setGen g st) where
 heap := P.heap
 drawn := P.drawn
 toks := P.toks
 os := P.os
 size := by show (s.gens.setIfInBounds g st).size = (t.gens.setIfInBounds g st).size; simp [P.size]
 dead := fun i hi => by
  have ne : g ≠ i := fun e => hd (e ▸ hi)
  obtain ⟨st', e1, e2, e3⟩ := P.dead i hi
  exact ⟨st', by show (t.gens.setIfInBounds g st)[i]? = _; rw [Array.getElem?_setIfInBounds_ne ne]; exact e1, e2, by show (s.gens.setIfInBounds g st)[i]? = _; rw [Array.getElem?_setIfInBounds_ne ne]; exact e3⟩
 live := fun i hi => by
  obtain ⟨e1, e2⟩ := P.live i hi
  show (s.gens.setIfInBounds g st)[i]? = (t.gens.setIfInBounds g st)[i]? ∧ ∀ x, (t.gens.setIfInBounds g st)[i]? = some x → _
  by_cases ne : g = i
  · subst ne
    rw [Array.getElem?_setIfInBounds_self, Array.getElem?_setIfInBounds_self, P.size]
    refine ⟨rfl, fun x hx => ?_⟩
    split at hx
    · cases hx; exact hc
    · cases hx
  · rw [Array.getElem?_setIfInBounds_ne ne, Array.getElem?_setIfInBounds_ne ne]
    exact ⟨e1, e2⟩
theorem PS.push {D : Nat → Prop} {s t : Shared} (P : PS D s t) (c : Code) : PS D { s with gens := s.gens.push (.fresh c) } { t with gens := t.gens.push (.fresh c) } where
 heap := P.heap
 drawn := P.drawn
 toks := P.toks
 os := P.os
 size := by simp [P.size]
 dead := fun i hi => by
  obtain ⟨st', e1, e2, e3⟩ := P.dead i hi
  have l1 := (Array.getElem?_eq_some_iff.mp e1).1
  refine ⟨st', ?_, e2, ?_⟩
  · show (t.gens.push _)[i]? = _
    rw [Array.getElem?_push_lt l1, ← e1, Array.getElem?_eq_getElem l1]
  · have l2 := (Array.getElem?_eq_some_iff.mp e3).1
    show (s.gens.push _)[i]? = _
    rw [Array.getElem?_push_lt l2, ← e3, Array.getElem?_eq_getElem l2]
 live := fun i hi => by
  obtain ⟨e1, e2⟩ := P.live i hi
  show (s.gens.push _)[i]? = (t.gens.push _)[i]? ∧ ∀ st, (t.gens.push _)[i]? = some st → _
  rw [Array.getElem?_push, Array.getElem?_push, P.size, e1]
  refine ⟨rfl, fun st hst => ?_⟩
  split at hst
  · cases hst; rfl
  · exact e2 st hst
def Kept (D : Nat → Prop) (t t' : Shared) : Prop := (∀ i, D i → t'.gens[i]? = t.gens[i]?) ∧ t.gens.size ≤ t'.gens.size
theorem Kept.trans {D : Nat → Prop} {t t' t2 : Shared} (a : Kept D t t') (b : Kept D t' t2) : Kept D t t2 := ⟨fun i hi => (b.1 i hi).trans (a.1 i hi), Nat.le_trans a.2 b.2⟩
theorem Kept.set {D : Nat → Prop} {t : Shared} {g : Nat} (hd : ¬ D g) (st : GenState) : Kept D t (t.setGen g st) := ⟨fun i hi => Array.getElem?_setIfInBounds_ne fun e => hd (by rw [e]; exact hi), by show t.gens.size ≤ (t.gens.setIfInBounds g st).size; simp⟩
theorem Kept.gens {D : Nat → Prop} {t t' : Shared} (h : t'.gens = t.gens) : Kept D t t' := ⟨fun i _ => by rw [h], by rw [h]; exact Nat.le_refl _⟩
def afz : End → Bool
 | .ret _ => true
 | .susp _ _ _ _ _ _ fs => fs.all noG
def aaA (u : Shared) : Nat → Prop := fun i => ∃ st, u.gens[i]? = some st ∧ Nu st = true
def aeK (u : Shared) : Shared := { u with gens := u.gens.map Uj }
theorem PS.bare {D : Nat → Prop} {s u : Shared} (P : PS D s u) (h : PyProof.Rows.AllBare s.gens) : PyProof.Rows.AllBare u.gens := fun y hy => by
 obtain ⟨i, hi, e⟩ := Array.mem_iff_getElem.mp hy
 have e : u.gens[i]? = some y := by rw [Array.getElem?_eq_getElem hi, e]
 by_cases hd : D i
 · obtain ⟨st, e1, _, e3⟩ := P.dead i hd
   rw [e] at e1
   cases e1
   rw [← Zx]
   exact h _ (Array.mem_of_getElem? e3)
 · exact h _ (Array.mem_of_getElem? ((P.live i hd).1.trans e))
end GenP
namespace GenP
open PySem PySem.Spec PyProof.Rows L2 GenW
section
variable {D : Nat → Prop} {s u : Shared} {X : Cx} {pins : List (Addr × Obj)} {σ : L2.St} {H : Hp}
end
abbrev SL := List (Nat × GenState)
def Sl (sl : SL) (s : Shared) : Prop := ∀ p ∈ sl, s.gens[p.1]? = some p.2 ∧ Nu p.2 = true
theorem Sl.keep {sl : SL} {u u' : Shared} (h : Sl sl u) (k : Kept (aaA u) u u') : Sl sl u' := fun p hp => by
 obtain ⟨e, hs⟩ := h p hp
 exact ⟨(k.1 p.1 ⟨_, e, hs⟩).trans e, hs⟩
def cutS (n : Nat) (s : Shared) : Shared := { s with heap := { s.heap with objs := s.heap.objs.extract 0 n } }
theorem aaB {n : Nat} {s : Shared} (h : n ≤ s.heap.objs.size) : (cutS n s).heap.objs.size = n := by
 show (s.heap.objs.extract 0 n).size = n
 rw [Array.size_extract]
 omega
section
variable {X : Cx} {pins : List (Addr × Obj)} {σ : L2.St} {H H1 : Hp} {s s1 : Shared} {n : Nat}
structure Low (X : Cx) (pins : List (Addr × Obj)) (n : Nat) : Prop where
 loc : X.env.locals < n
 cel : ∀ (x : Str) (c : Addr), aha x X.env.cells = some c → c < n
 pin : ∀ p ∈ X.pn ++ pins, p.1 < n
end
abbrev E0g : XK := fun _ _ _ => False
structure GD where
 P : Program
 w : World
 K : PySem.W.Frag
 mg : Str → Option Value
 base : Heap
 N : List Str
 qual : Str
 scope : Scope
 f : Addr
 cdv : Value
 A : Around
 outer : List Env
 n : Nat
 g : Nat
 pn : List (Addr × Obj)
def GD.cx (G : GD) (s : Shared) (H : Hp) : Cx := gcxOf G.P G.w G.K G.mg G.base G.N G.qual G.scope G.f G.cdv G.A G.outer s H E0g G.pn
def GD.env (G : GD) : Env := envOfC G.qual G.scope G.n G.f G.cdv
variable {G : GD} {s s0 s1 s2 : Shared} {H H0 H1 H2 : Hp} {pins : List (Addr × Obj)} {σ : L2.St}
end GenP
namespace GenP
open PySem PySem.Spec PyProof.Rows L2 GenW Pk
inductive GSt where
 | go (a : Fr) (h : Hh)
 | out (f : Fl) (a : Fr) (h : Hh)
 | err
inductive GR where
 | go (n : Nat) (a fr : Fr) (h : Hh)
 | out (f : Fl) (a : Fr) (h : Hh)
 | err
abbrev Step := D → Fr → Hh → GSt
abbrev Es := Step → Nat → Fr → Fr → Hh → GR
def GR.bind (r : GR) (k : Nat → Fr → Fr → Hh → GR) : GR := match r with
 | .go n a fr h => k n a fr h
 | .out f a h => .out f a h
 | .err => .err
def aev : Es := fun _ n a fr h => .go n a fr h
def afC (b c : Es) : Es := fun st n a fr h => (b st n a fr h).bind (c st)
def afj (ms : M Fl) : Es := fun _ n a fr h => match ms fr h with
 | .ok .nx fr h => .go n a fr h
 | _ => .err
def frozen (fr : Fr) : Bool := fr.all fun o => match o with
 | some d => !d.own
 | none => true
def afk (m : M D) : Es := fun st n a fr h => match n with
 | 0 => .err
 | n + 1 => match m fr h with
   | .ok d fr h => if frozen fr then (match st d a h with
     | .go a h => .go n a fr h
     | .out f a h => .out f a h
     | .err => .err) else .err
   | _ => .err
def Zy (g : D → M Unit) (b : Es) : List D → Es
 | [] => aev
 | d :: ds => fun st n a fr h => match g d fr h with
   | .ok _ fr h => (b st n a fr h).bind (Zy g b ds st)
   | _ => .err
def af6 (li : M (List D)) (g : D → M Unit) (b : Es) : Es := fun st n a fr h => match li fr h with
 | .ok ds fr h => Zy g b ds st n a fr h
 | _ => .err
def agw (t : M Bool) (b c : Es) : Es := fun st n a fr h => match t fr h with
 | .ok true fr h => b st n a fr h
 | .ok false fr h => c st n a fr h
 | _ => .err
def At (G : GD) (T : Tb) (Tok : Fr → Shared → Wd → Hp → Hh → Prop) (sl : SL) (X : Cx) (a : Fr) (w : Wd) (σ : L2.St) (H : Hp) (fr : Fr) (h : Hh) (s : Shared) (pins : List (Addr × Obj)) : Prop :=
 ∃ sw ww Hw hw, Tok a sw ww Hw hw ∧ G.n ≤ sw.heap.objs.size ∧ X = G.cx (cutS G.n sw) Hw ∧ L2.Inv X pins σ H s ∧ Rel G.K T (Bs.of ww Hw) w σ H fr h ∧ Sl ((G.g, .running) :: sl) s ∧ ∀ p ∈ pins, G.n ≤ p.1
def Fam (G : GD) (X : Cx) : Prop := ∃ s H, s.heap.objs.size = G.n ∧ X = G.cx s H
structure VH (G : GD) (T : Tb) where
 Tok : Fr → Shared → Wd → Hp → Hh → Prop
 R : GenEnd
 Y : Protocol
 step : Step
 Fin : Fl → Fr → Hh → Prop
 yld : ∀ {sl : SL} {X : Cx} {n : Nat} {s₀ : Shared} {kap : Resume → Shared → Prop} {x : V} {u : Value} {d : D} {a : Fr} {w : Wd} {σ : L2.St} {H : Hp} {fr : Fr} {h : Hh} {s : Shared} {pins : List (Addr × Obj)},
  At G T Tok sl X a w σ H fr h s pins → frozen fr = true → RelV x u → bA G.K T w x d →
  match step d a h with
  | .go a' h' => (∀ {X' : Cx} {w' : Wd} {H' : Hp} {s' : Shared}, w.le w' → At G T Tok sl X' a' w' σ H' fr h' s' pins → kap (.send .none) s' ∧ kap (.send (.bool true)) s') → Y n s₀ u s kap
  | .out f a' h' => Fin f a' h' → Y n s₀ u s kap
  | .err => True
structure adE (G : GD) (A : Around) (c : Code) (fs : List Frame) (gd : Bool → Bool) : Prop where
 over : A.over c fs = G.A.deeper G.env
 split : splitAtGen fs = none
 guard : fs.any Frame.guarded = false
 gd : gd false = false
section
variable {G : GD} {T : Tb}
def Exc (C : VH G T) (A : Around) (c : Code) (fs : List Frame) (J : Value → Sem PySem.Fin) : Prop := ∀ n s₀ X e s, Fam G X → X.xe e s → Seg (model G.P G.w) A C.R C.Y n s₀ c (J e) fs s
def VJ (C : VH G T) (sl : SL) (A : Around) (c : Code) (fs : List Frame) (t : Sem PySem.Fin) (w : Wd) (pins : List (Addr × Obj)) (r : GR) : Prop := match r with
 | .go n a fr h => ∀ {X : Cx} {w' : Wd} {σ : L2.St} {H : Hp} {s s₀ : Shared}, w.le w' → At G T C.Tok sl X a w' σ H fr h s pins → Seg (model G.P G.w) A C.R C.Y n s₀ c t fs s
 | .out f a h => C.Fin f a h
 | .err => False
theorem VJ.le {C : VH G T} {sl : SL} {A : Around} {c : Code} {fs : List Frame} {t : Sem PySem.Fin} {w w' : Wd} {pins : List (Addr × Obj)} {r : GR} (l : w.le w') (z : VJ C sl A c fs t w pins r) : VJ C sl A c fs t w' pins r := by
 cases r with
 | go n a fr h => exact fun l2 => z (Wd.le_trans l l2)
 | out f a h => exact z
 | err => exact z
def GA (G : GD) (T : Tb) (st : Stmt) (m : Es) : Prop := ∀ (C : VH G T) (sl : SL) (A : Around) (c : Code) (fs : List Frame) (Kf : Flow → Sem PySem.Fin) (J : Value → Sem PySem.Fin) (gd : Bool → Bool) (lv : List Value → List Value) (n : Nat) (s₀ : Shared) (X : Cx) (a : Fr) (w : Wd) (σ : L2.St) (H : Hp) (fr : Fr) (h : Hh) (s : Shared) (pins : List (Addr × Obj)),
 adE G A c fs gd → Exc C A c fs J → At G T C.Tok sl X a w σ H fr h s pins → VJ C sl A c fs (Kf .next) w pins (m C.step n a fr h) →
 Seg (model G.P G.w) A C.R C.Y n s₀ c ((exec st G.env).wrap Kf J gd lv) fs s
def GAs (G : GD) (T : Tb) (sts : List Stmt) (m : Es) : Prop := ∀ (C : VH G T) (sl : SL) (A : Around) (c : Code) (fs : List Frame) (Kf : Flow → Sem PySem.Fin) (J : Value → Sem PySem.Fin) (gd : Bool → Bool) (lv : List Value → List Value) (n : Nat) (s₀ : Shared) (X : Cx) (a : Fr) (w : Wd) (σ : L2.St) (H : Hp) (fr : Fr) (h : Hh) (s : Shared) (pins : List (Addr × Obj)),
 adE G A c fs gd → Exc C A c fs J → At G T C.Tok sl X a w σ H fr h s pins → VJ C sl A c fs (Kf .next) w pins (m C.step n a fr h) →
 Seg (model G.P G.w) A C.R C.Y n s₀ c ((execs sts G.env).wrap Kf J gd lv) fs s
theorem At.next {Tok : Fr → Shared → Wd → Hp → Hh → Prop} {sl : SL} {X : Cx} {a : Fr} {w w' : Wd} {σ σ' : L2.St} {H H' : Hp} {fr fr' : Fr} {h h' : Hh} {s s' : Shared} {pins : List (Addr × Obj)} (z : At G T Tok sl X a w σ H fr h s pins) (I : L2.Inv X pins σ' H' s')
 (r : ∀ B, Rel G.K T B w σ H fr h → Rel G.K T B w' σ' H' fr' h') (k : Sl ((G.g, .running) :: sl) s → Sl ((G.g, .running) :: sl) s') : At G T Tok sl X a w' σ' H' fr' h' s' pins := by
 obtain ⟨sw, ww, Hw, hw, t, hn, e, _, R, S, hp⟩ := z
 exact ⟨sw, ww, Hw, hw, t, hn, e, I, r _ R, k S, hp⟩
structure GOk (G : GD) (T : Tb) (k : Nat) : Prop where
 cq : ∀ s H, s.heap.objs.size = G.n → Cq (G.cx s H) T (WX.up E0g) k
theorem At.x {Tok : Fr → Shared → Wd → Hp → Hh → Prop} {sl : SL} {X : Cx} {a : Fr} {w : Wd} {σ : L2.St} {H : Hp} {fr : Fr} {h : Hh} {s : Shared} {pins : List (Addr × Obj)} (z : At G T Tok sl X a w σ H fr h s pins) :
 ∃ s' H', s'.heap.objs.size = G.n ∧ X = G.cx s' H' ∧ L2.Inv X pins σ H s ∧ (∃ B, Rel G.K T B w σ H fr h) ∧ Sl ((G.g, .running) :: sl) s := by
 obtain ⟨sw, ww, Hw, hw, _, hn, e, I, R, S, _⟩ := z
 exact ⟨_, _, aaB hn, e, I, ⟨_, R⟩, S⟩
end
end GenP
namespace GenP
open PySem PySem.Spec PyProof.Rows L2 GenW Pk
section
variable {G : GD} {T : Tb}
end
end GenP
namespace GenP
open PySem PySem.Spec PyProof.Rows L2 GenW Pk
def abE (P : Program) (w : World) (K : PySem.W.Frag) (mg : Str → Option Value) (base : Heap) (N : List Str) (qual : Str) (scope : Scope) (body : List Stmt) (f : Addr) (cdv : Value) (outer : List Env) (H : Hp) (vs : List V) (s : Shared) (u : Value) (s' : Shared) : Prop :=
 ∃ a g go, u = .ref a ∧ s.heap.objs.size < a ∧ s'.heap.get? a = some go ∧ (∀ h : Heap, h.get? a = some go → h.IsGen a g) ∧ (∀ v, go.data ≠ .cell v) ∧ s'.gens[g]? = some (.fresh (.func body (envOfC qual scope s.heap.objs.size f cdv))) ∧
   s'.os = s.os ∧ AllBare s'.gens ∧ (∀ b o, s.heap.get? b = some o → s'.heap.get? b = some o) ∧
   ∀ A : Around, A.handled = none → A.frames = some outer → L2.Inv (GD.cx ⟨P, w, K, mg, base, N, qual, scope, f, cdv, A, outer, s.heap.objs.size, g, [(a, go)]⟩ s H) [] (L2.start N vs) H s'
structure afb (P : Program) (w : World) (K : PySem.W.Frag) (mg : Str → Option Value) (base : Heap) (f : Addr) (fd : FuncData) (ps N : List Str) (qual : Str) (scope : Scope) (body : List Stmt) : Prop where
 ex : ∃ cdv, ∀ (A : Around) (outer : List Env) (s : Shared) (H : Hp) (args : Args) (us : List Value) (vs : List V), A.depth < recursionLimit → A.handled = none → Env0 P w K mg base A outer s H → BindsTo s fd args (ps.zip us) → Vals vs us → vs.length = ps.length →
  codeAny (model P w) A (.call (.ref f) args) (fun r s' => match r with
   | .ok (.ret u) => abE P w K mg base N qual scope body f cdv outer H vs s u s'
   | _ => False) s
section
variable {P : Program} {w : World} {K : PySem.W.Frag} {mg : Str → Option Value} {base : Heap} {x qual : Str} {params : Arguments} {body : List Stmt} {scope : Scope} {f : Addr} {fd : FuncData} {N ps : List Str} {dvs : List V} {kws : List (Str × V)}
end
section
variable {X : Cx} {T : Tb} {W : WX} {k : Nat}
def Yf (X : Cx) (pins : List (Addr × Obj)) (tg : Expr) (body : List Stmt) (a : Addr) (g : Nat) (D : Ends) : Protocol := fun _ _ v s kap => ∀ gs' : GenState, gs'.bare = true →
 wpAny (model X.prog X.w) X.A (assign tg X.env v) (fun _ s2 => wpAny (model X.prog X.w) X.A (execs body X.env) (fun f s3 => match f with
  | .next => (Nu gs' = true → s3.gens[g]? = some gs') ∧ s3.heap.IsGen a g ∧ s3.heap.NoLimit ∧ kap (.send .none) (s3.setGen g .running) ∧ kap (.send (.bool true)) (s3.setGen g .running)
  | .cont => (Nu gs' = true → s3.gens[g]? = some gs') ∧ s3.heap.IsGen a g ∧ s3.heap.NoLimit ∧ kap (.send .none) (s3.setGen g .running) ∧ kap (.send (.bool true)) (s3.setGen g .running)
  | .brk => ∃ σ' H', L2.Inv X pins σ' H' s3 ∧ D.nx σ' H'
  | .ret u => ∃ x σ' H', L2.Inv X pins σ' H' s3 ∧ RelV x u ∧ D.rt x H') X.xe s2) X.xe (s.setGen g gs')
def Rf (X : Cx) (pins : List (Addr × Obj)) (D : Ends) : GenEnd := fun _ _ r s => (r = .ok (.ret .none) ∨ r = .ok .next) ∧ (∃ σ' H', L2.Inv X pins σ' H' s ∧ D.nx σ' H') ∨ ∃ e, r = .error e ∧ False
def stepF (g : D → M Unit) (b : M Fl) : Step := fun d a h => match g d a h with
 | .ok _ a h => match b a h with
   | .ok .nx a h => .go a h
   | .ok .ct a h => .go a h
   | .ok .brk a h => .out .nx a h
   | .ok (.rt d) a h => .out (.rt d) a h
   | _ => .err
 | _ => .err
def agx (X : Cx) (T : Tb) (B : Bs) (w0 : Wd) (pins : List (Addr × Obj)) : Fr → Shared → Wd → Hp → Hh → Prop := fun a sw ww Hw hw => ∃ σ, L2.Inv X pins σ Hw sw ∧ Rel X.K T B ww σ Hw a hw ∧ w0.le ww
def agy (X : Cx) (T : Tb) (B : Bs) (W : WX) (w0 : Wd) (D : Ends) : Fl → Fr → Hh → Prop := fun f a h => cW X.K T B W w0 (.ok f a h) D
end
end GenP
namespace GenP
open PySem PySem.Spec PyProof.Rows L2 GenW Pk
abbrev Gc (X : Cx) (N : List Str) (qual : Str) (scope : Scope) (f : Addr) (cdv : Value) (n g : Nat) (a : Addr) (go : Obj) : GD := ⟨X.prog, X.w, X.K, X.mg, X.base, N, qual, scope, f, cdv, X.A.in1, X.stack, n, g, [(a, go)]⟩
section
variable {X : Cx} {T : Tb} {W : WX} {k : Nat} {pins : List (Addr × Obj)} {tg : Expr} {body : List Stmt} {gm : D → M Unit} {bm : M Fl} {is : List Nat} {B : Bs} {w0 : Wd} {Dn : Ends}
 {N : List Str} {qual : Str} {scope : Scope} {f : Addr} {cdv : Value} {n g : Nat} {a : Addr} {go : Obj}
structure agz (X : Cx) (pins : List (Addr × Obj)) (N : List Str) (qual : Str) (scope : Scope) (f : Addr) (cdv : Value) (n g : Nat) (a : Addr) (go : Obj) : Prop where
 low : Low X pins n
 cel : (Gc X N qual scope f cdv n g a go).env.cells = []
 na : n < a
 gen : ∀ h : Heap, h.get? a = some go → h.IsGen a g
 dat : ∀ v, go.data ≠ .cell v
 fr : ∀ b ∈ frs X.stack, b < n
end
end GenP
namespace GenP
open PySem PySem.Spec PyProof.Rows L2 GenW Pk
def afG (P : Program) (w : World) (K : PySem.W.Frag) (mg : Str → Option Value) (base : Heap) (T : Tb) (k : Nat) (N : List Str) (qual : Str) (scope : Scope) (body : List Stmt) (m : Es) : Prop :=
 ∀ (f : Addr) (cdv : Value) (A : Around) (outer : List Env) (n g : Nat) (pn : List (Addr × Obj)), GOk ⟨P, w, K, mg, base, N, qual, scope, f, cdv, A, outer, n, g, pn⟩ T k → GAs ⟨P, w, K, mg, base, N, qual, scope, f, cdv, A, outer, n, g, pn⟩ T body m
structure WCG (X : Cx) (e : Expr) (N : List Str) (qual : Str) (scope : Scope) (body : List Stmt) (σ : L2.St) (H : Hp) (Q : List V → Hp → Prop) : Prop where
 go : ∀ pins s, L2.Inv X pins σ H s → wpAny (model X.prog X.w) X.A (eval e X.env) (fun u s' => ∃ f cdv vs H1 s1, L2.Inv X pins σ H1 s1 ∧ Q vs H1 ∧ abE X.prog X.w X.K X.mg X.base N qual scope body f cdv X.stack H1 vs s1 u s') X.xe s
abbrev af7 (X : Cx) (T : Tb) (W : WX) (e : Expr) (N : List Str) (qual : Str) (scope : Scope) (body : List Stmt) (m : M (List D)) : Prop := eE (WCG X e N qual scope body) X.K T W vA m
def Yn (nN : Nat) (b : Es) (st : Step) : List D → Fr → Hh → R Fl := fun ds a h => match b st big a (startF nN ds) h with
 | .go _ a _ h => .ok .nx a h
 | .out f a h => .ok f a h
 | .err => .err
def Yo (mc : M (List D)) (nN : Nat) (b : Es) (g : D → M Unit) (bm : M Fl) : M Fl := fun fr h => match mc fr h with
 | .ok ds fr h => Yn nN b (stepF g bm) ds fr h
 | .exc x fr h => .exc x fr h
 | .err => .err
section
variable {X : Cx} {T : Tb} {W : WX} {k kk : Nat} {x : Str} {tp pos : Pos} {iter : Expr} {body gbody : List Stmt} {gm : D → M Unit} {bm : M Fl} {is : List Nat} {N ps : List Str} {qual : Str} {scope : Scope} {gb : Es} {mc : M (List D)}
end
end GenP
namespace GenP
open PySem PySem.Spec PyProof.Rows L2 GenW Pk
def Yp (c : Nat) (mo : M D) : M (List D) := mo.bind fun o fr h => match o.ins h with
 | some (c', _) => if c' = c then .ok [o] fr h else .err
 | none => .err
structure afI (X : Cx) (T : Tb) (m : Str) (c : Nat) (ps N : List Str) (qual : Str) (scope : Scope) (body : List Stmt) : Prop where
 ex : ∃ (f : Addr) (fd : FuncData), Cls X.K (T.cad c) ∧ Meth X.K (T.cad c) m f ∧ afb X.prog X.w X.K X.mg X.base f fd ps N qual scope body ∧ Binds X.K fd ps [] ∧ m ∉ T.fld c
 one : ps.length = 1
section
variable {X : Cx} {T : Tb} {W : WX} {k c : Nat} {m nm : Str} {p pos pos' apos : Pos} {o e : Expr} {mo : M D} {ps N : List Str} {qual : Str} {scope : Scope} {body : List Stmt}
end
end GenP
namespace Pk
open PySem PySem.Spec L2
def D.enc (d : D) : PyData := d.toP.getD .none
def leD (a b : D) : Bool := PySem.W.dataLe false D.enc a b
def adF (a : D) : List D → List D
 | [] => [a]
 | b :: l => if leD a b then a :: b :: l else b :: adF a l
def Yq : List D → List D
 | [] => []
 | a :: l => adF a (Yq l)
def W9 : List D → Bool
 | [] => true
 | a :: l => l.all (fun b => !leD b a) && W9 l
theorem pw_or {α : Type} {R : α → α → Prop} : ∀ {l : List α}, l.Pairwise R → ∀ a ∈ l, ∀ b ∈ l, a = b ∨ R a b ∨ R b a
 | x :: l, h, a, ha, b, hb => by
   obtain ⟨h1, h2⟩ := List.pairwise_cons.mp h
   rcases List.mem_cons.mp ha with ea | ha
   · rcases List.mem_cons.mp hb with eb | hb
     · exact .inl (ea.trans eb.symm)
     · exact .inr (.inl (ea ▸ h1 b hb))
   · rcases List.mem_cons.mp hb with eb | hb
     · exact .inr (.inr (eb ▸ h1 a ha))
     · exact pw_or h2 a ha b hb
def adG : PyData → Bool
 | .tuple (_ :: _) => true
 | _ => false
def aew : PyData → Bool
 | .none => false
 | .tuple _ => false
 | _ => true
def D.lds (h : Hh) (d : D) : Option (List D) := match d.der h with
 | .fl l => some l
 | .nl l => some l
 | .kl l => some l
 | _ => none
def afJ (h : Hh) (d : D) : Option D := match d.lds h with
 | some l => if l.all (fun d => d.toP.isSome && decide (d.enc.depth ≤ 8)) && (l.all fun a => l.all fun b => PySem.W.alike a.enc b.enc) && (l.all (fun d => adG d.enc) || l.all (fun d => aew d.enc)) && decide (l.length ≤ big) && W9 (Yq l) then some (.nl (Yq l)) else none
 | none => none
section
variable {X : Cx} {T : Tb} {W : WX} {k : Nat} {a : Expr} {ma : M D} {pf pos : Pos}
end
end Pk
namespace Pk
open PySem PySem.Spec PyProof.Rows L2
def keyB : Key → D
 | .inl i => .int i
 | .inr s => .str s
def valE : List Key → List D → Key → Option D
 | k' :: ks, d :: ds, k => if k' = k then some d else valE ks ds k
 | _, _, _ => none
def adH (ks : List Key) (k : Key) : Bool := ks.any fun k' => decide (k' = k)
def aex (ks : List Key) (k : Key) : List Key := if adH ks k = true then ks else ks ++ [k]
def aey {α : Type} (ks : List Key) (ds : List α) (k : Key) (v : α) : List α := if adH ks k = true then List.zipWith (fun k' d => if k' = k then v else d) ks ds else ds ++ [v]
def cellE (h : Hh) (d : D) : Option (Nat × List Key × List D) := match d with
 | .ref n => match h[n]? with
   | some (.dk ks ds) => some (n, ks, ds)
   | _ => none
 | _ => none
def Yr (h : Hh) (o k : D) : Option D := (cellE h o).bind fun x => (keyD k).bind fun k => valE x.2.1 x.2.2 k
def VL (h : Hh) (o k z : D) : Option D := (cellE h o).bind fun x => (keyD k).bind fun k => some ((valE x.2.1 x.2.2 k).getD z)
def Uk (h : Hh) (o k d : D) : Option Hh := (cellE h o).bind fun x => (keyD k).bind fun k => if x.2.1.length ≤ big then some (h.set x.1 (.dk (aex x.2.1 k) (aey x.2.1 x.2.2 k d))) else none
def VM (h : Hh) (o : D) : Option D := (cellE h o).bind fun x => some (.nl (x.2.1.map keyB))
def abF : M D := fun fr h => .ok (.ref h.length) fr (h ++ [.dk [] []])
def Ys (mo mk : M D) : M D := mo.bind fun o => mk.bind fun k fr h => M.opt (Yr h o k) fr h
def VN (mo mk mz : M D) : M D := mo.bind fun o fr h => if (cellE h o).isSome = true then (mk.bind fun k => mz.bind fun z fr h => M.opt (VL h o k z) fr h) fr h else .err
def Yt (mo mk mv : M D) : M Fl := mv.bind fun d => mo.bind fun o => mk.bind fun k fr h => match Uk h o k d with
 | some h' => .ok .nx fr h'
 | none => .err
def VP (mo : M D) : M D := mo.bind fun o fr h => M.opt (VM h o) fr h
section
variable {X : Cx} {e : Expr} {td : TE} {apos cpos p pos : Pos}
def afc (td : TE) : TE := fun σ H Q => td σ H fun x H1 => ∃ d kvs, x = .ref d ∧ H1 d = some (.dK kvs) ∧ ∀ q, H1 q = none → Q (.ref q) (upd H1 q (.lst (kvs.map fun kv => kV kv.1)))
end
section
variable {X : Cx} {T : Tb} {W : WX} {k : Nat} {pos pos' cpos apos p : Pos} {o e f : Expr} {mo mk mz m : M D}
def R9 (i : Nat) (m : M D) : M D := (az i).bind fun o fr h => if (o.lstP h).isSome = true then (m.bind fun x => (az i).bind fun o fr h => M.opt (Ik h o x) fr h) fr h else .err
end
end Pk
namespace Pk
open PySem PySem.Spec PyProof.Rows L2
def D.toPd (h : Hh) (d : D) : Option PyData := match d with
 | .ref n => (D.lstP h (.ref n)).map .list
 | d => d.toP
def afd (h : Hh) (d e : D) : Option Bool := match d.toPd h, e.toP with
 | some p, some q => if SeqAt.shaped p && SeqAt.shaped q then some (PyData.eqv p q) else none
 | _, _ => none
def agA (h : Hh) (d e : D) : Option Bool := (afd h d e).map (!·)
section
variable {X : Cx} {T : Tb} {W : WX} {k : Nat}
end
end Pk
namespace Pk
open PySem PySem.Spec PyProof.Rows L2
def Mp {α : Type} (t : Fr → Hh → Bool) (m1 m2 : M α) : M α := fun fr h => if t fr h = true then m1 fr h else m2 fr h
def Bb (m : M D) : Fr → Hh → Bool := fun fr h => match m fr h with
 | .ok (.ref _) _ _ => true
 | _ => false
section
variable {X : Cx} {T : Tb} {W : WX} {k : Nat} {pos : Pos} {tg e elt : Expr} {ifs : List Expr} {body : List Stmt} {g : D → M Unit} {b : M Fl} {is : List Nat} {t : M Bool} {m me : M D} {scope : Scope}
theorem aaC {st : Stmt} {q : Fr → Hh → Bool} {m1 m2 : M Fl} (s1 : uA X T W st m1) (s2 : uA X T W st m2) : uA X T W st (Mp q m1 m2) := fun B w σ H fr h D R p => by
 unfold Mp at p
 by_cases c : q fr h = true
 · rw [if_pos c] at p
   exact s1 B w σ H fr h D R p
 · rw [if_neg c] at p
   exact s2 B w σ H fr h D R p
theorem aez {x : Expr} {q : Fr → Hh → Bool} {m1 m2 : M D} (s1 : xO X T W x m1) (s2 : xO X T W x m2) : xO X T W x (Mp q m1 m2) := fun B w σ H fr h Q R p => by
 unfold Mp at p
 by_cases c : q fr h = true
 · rw [if_pos c] at p
   exact s1 B w σ H fr h Q R p
 · rw [if_neg c] at p
   exact s2 B w σ H fr h Q R p
noncomputable def Ul (m : M D) (g : D → M Unit) (b : M Fl) : M Fl := Mp (Bb m) (Az (Jj m) g b) (jC (zY m) g b)
theorem adI (C : Cq X T W k) (s : aM X T W e m) (sg : yI X T is tg g) (sb : CJ X T W body b) (hs : ∀ x, foldedSetIterable e X.env x = pure x := by intro _; rfl) : uA X T W (.For tg e body [] pos) (Ul m g b) :=
 aaC (Zu C (Q7 s) sg sb hs) (Lh C (Hj s) sg sb hs)
noncomputable def Sd (vs : List Nat) (m : M D) (g : D → M Unit) (t : M Bool) (me : M D) : M D := Mp (Bb m) (Lq vs (Jj m) g t me) (ye vs (zY m) g t me)
theorem Zz (C : Cq X T W k) (own : List (Str × Nat)) (s : aM X T W e m) (hi : ∀ i ∈ is, i ∈ own.map (·.2))
 (sg : ∀ (s : Shared) (H0 : Hp) (C : Addr) (cl : List (Str × Addr)) (fp : List Addr), yI (X.blk s H0 scope (compEnvC scope cl C X.env) fp) T is tg g)
 (st : ∀ (s : Shared) (H0 : Hp) (C : Addr) (cl : List (Str × Addr)) (fp : List Addr), eE (Mg (X.blk s H0 scope (compEnvC scope cl C X.env) fp) ifs) X.K T WF vB t)
 (se : ∀ (s : Shared) (H0 : Hp) (C : Addr) (cl : List (Str × Addr)) (fp : List Addr), aM (X.blk s H0 scope (compEnvC scope cl C X.env) fp) T WF elt me)
 (ok : BlkOk X.N X.env.scope scope own) (hs : ∀ x, foldedSetIterable e X.env x = pure x := by intro _; rfl) : xO X T W (.ListComp elt [⟨tg, e, ifs, 0⟩] scope pos) (Sd (own.map (·.2)) m g t me) :=
 aez (adz C own (Q7 s) hi sg st se ok hs) (Ol C own (Hj s) hi sg st se ok hs)
noncomputable def Q9 (m : M D) (g : D → M Unit) (b : M Fl) : M Fl := Mp (Bb m) (Az (Jk m) g b) (jC (Ln m) g b)
theorem ace {elts : List Expr} {kk : Nat} {tpos p cpos : Pos} (C : Cq X T W k) (s : aM X T W e m) (hm : X.mg "enumerate" = none) (sg : yI X T is (.Tuple elts kk tpos) g) (sb : CJ X T W body b) (hg : Gl X "enumerate" := by rfl) (he : starEach [e] X.env = [(false, eval e X.env)] := by rfl)
 (hs : ∀ x, foldedSetIterable (.Call (.Name "enumerate" p) [e] [] cpos) X.env x = pure x := by intro _; rfl) : uA X T W (.For (.Tuple elts kk tpos) (.Call (.Name "enumerate" p) [e] [] cpos) body [] pos) (Q9 m g b) :=
 aaC (Zt C (aax s hm hg he) sg sb hs) (Lh C (ab6 s hm hg he) sg sb hs)
end
end Pk
namespace Pk
open PySem PySem.Spec PyProof.Rows L2
def Bc {α : Type} : List (Option α) → Option (List α)
 | [] => some []
 | some a :: l => (Bc l).map (a :: ·)
 | none :: _ => none
def D.toPh (h : Hh) : Nat → D → Option PyData
 | 0, d => d.toP
 | k + 1, d => match d with
   | .ref n => match h[n]? with
     | some (.nl l) => (Bc (l.map (D.toPh h k))).map .list
     | _ => none
   | .fl l => (Bc (l.map (D.toPh h k))).map .list
   | .tup l => (Bc (l.map (D.toPh h k))).map .tuple
   | d => d.toP
def Yu (h : Hh) (d e : D) : Option Bool := match d.toPh h 3, e.toPh h 3 with
 | some p, some q => if SeqAt.shaped p && SeqAt.shaped q then some (PyData.eqv p q) else none
 | _, _ => none
def V1 (h : Hh) (d e : D) : Option Bool := (Yu h d e).map (!·)
theorem ZC {h : Hh} {d e : D} {c : Bool} (q : Yu h d e = some c) : ∃ p p', d.toPh h 3 = some p ∧ e.toPh h 3 = some p' ∧ SeqAt.shaped p = true ∧ SeqAt.shaped p' = true ∧ c = PyData.eqv p p' := by
 unfold Yu at q
 split at q
 · rename_i p p' e1 e2
   split at q
   · rename_i hs
     obtain ⟨h1, h2⟩ := Bool.and_eq_true_iff.mp hs
     cases q
     exact ⟨p, p', e1, e2, h1, h2, rfl⟩
   · cases q
 · cases q
section
variable {X : Cx} {T : Tb} {W : WX} {k : Nat}
theorem O4 {K : PySem.W.Frag} {H : Hp} {w : Wd} {f : D → Option PyData} : ∀ {vs : List V} {ds : List D} {ps : List PyData}, au K T w vs ds → (∀ v d p, bA K T w v d → f d = some p → Dp K H v p) → Bc (ds.map f) = some ps → DpAll K H vs ps
 | _, _, ps, .nil, _, e => by
   cases e
   exact .nil
 | _, _, ps, .cons (d := d) (ds := ds) r rs, hf, e => by
   rw [ag0] at e
   cases q : f d with
   | none => rw [q] at e; cases e
   | some p =>
     rw [q] at e
     obtain ⟨qs, e1, rfl⟩ := Option.map_eq_some_iff.mp (show (Bc (ds.map f)).map (p :: ·) = some ps from e)
     exact .cons (hf _ _ _ r q) (O4 rs hf e1)
theorem KY {B : Bs} {w : Wd} {σ : L2.St} {H : Hp} {fr : Fr} {h : Hh} (R : Rel X.K T B w σ H fr h) : ∀ (k : Nat) {v : V} {d : D} {p : PyData}, bA X.K T w v d → d.toPh h k = some p → Dp X.K H v p
 | 0, v, d, p, r, e => Oa R.sub r e
 | k + 1, v, d, p, r, e => by
   cases d with
   | ref n =>
     have e : (match h[n]? with
      | some (.nl l) => (Bc (l.map (D.toPh h k))).map PyData.list
      | _ => none) = some p := e
     cases q : h[n]? with
     | none => rw [q] at e; cases e
     | some c =>
       rw [q] at e
       cases c with
       | nl l =>
         obtain ⟨ps, e1, rfl⟩ := Option.map_eq_some_iff.mp (show (Bc (l.map (D.toPh h k))).map PyData.list = some p from e)
         cases r with
         | @ref a _ s =>
           obtain ⟨vs, sq, rv⟩ := Fg R s q
           exact .lst sq (O4 rv (fun v d p r e => KY R k r e) e1)
       | _ => cases e
   | fl l =>
     obtain ⟨ps, e1, rfl⟩ := Option.map_eq_some_iff.mp (show (Bc (l.map (D.toPh h k))).map PyData.list = some p from e)
     cases r with
     | fl s rv => exact .lst (SqL.of (R.sub _ _ s)) (O4 rv (fun v d p r e => KY R k r e) e1)
   | tup l =>
     obtain ⟨ps, e1, rfl⟩ := Option.map_eq_some_iff.mp (show (Bc (l.map (D.toPh h k))).map PyData.tuple = some p from e)
     cases r with
     | tup s rv => exact .tup (dO R.sub s) (O4 rv (fun v d p r e => KY R k r e) e1)
   | _ => exact Oa R.sub r e
theorem acf (C : Cq X T W k) : zW X T vV .NotEq V1 := fun B w σ H fr h x y d e c Q R rx ry q kk => by
 obtain ⟨c', q', rfl⟩ := Option.map_eq_some_iff.mp q
 obtain ⟨p, p', e1, e2, s1, s2, rfl⟩ := ZC q'
 exact Bj (op_neD (by have := C.u; omega)) ⟨p, p', KY R 3 rx e1, KY R 3 ry e2, s1, s2, kk⟩
def Yv (n : Nat) (gs : List D → M Unit) (d : D) : M Unit := match d with
 | .tup l => if l.length = n then gs l else M.opt none
 | .fl l => if l.length = n then gs l else M.opt none
 | .ref m => fun fr h => match h[m]? with
   | some (.nl l) => if l.length = n then gs l fr h else .err
   | _ => .err
 | _ => M.opt none
variable {kk n : Nat} {is : List Nat} {tgs : List Expr} {gs : List D → M Unit} {pos : Pos}
theorem adJ (C : Cq X T W k) (t : Oi X T is tgs gs) (hn : (assignEach tgs X.env).length = n := by rfl) (hst : (assignEach tgs X.env).findIdx? (·.1) = none := by rfl) : yI X T is (.Tuple tgs kk pos) (Yv n gs) := by
 intro B w σ H fr h x d Q R rd p
 cases d with
 | tup l => exact abu C t hn hst B w σ H fr h x (.tup l) Q R rd p
 | fl l => exact abu C t hn hst B w σ H fr h x (.fl l) Q R rd p
 | ref m =>
   obtain ⟨u, pu, t⟩ := t
   refine QT (pg_lst C.calm pu hn hst) ?_
   have p' : (match (match h[m]? with
    | some (.nl l) => if l.length = n then gs l fr h else .err
    | _ => .err) with
    | .ok _ fr' h' => ∀ w' σ' H', w.le w' → Rel X.K T B w' σ' H' fr' h' → EY is σ' σ → Q σ' H'
    | _ => False) := p
   cases q : h[m]? with
   | none => rw [q] at p'; exact p'.elim
   | some c =>
     rw [q] at p'
     cases c with
     | nl l =>
       dsimp only at p'
       by_cases hl : l.length = n
       · rw [if_pos hl] at p'
         cases rd with
         | @ref a _ s =>
           obtain ⟨vs, sq, rv⟩ := Fg R s q
           exact ⟨a, vs, rfl, sq, rv.length.trans hl, t B w σ H fr h vs l Q R rv p'⟩
       · rw [if_neg hl] at p'
         exact p'.elim
     | _ => exact p'.elim
 | _ => exact (show False from p).elim
variable {tg e elt : Expr} {ifs : List Expr} {g : D → M Unit} {t : M Bool} {m me : M D} {scope : Scope} {js : List Nat}
noncomputable def O5 (j : Nat) (vs : List Nat) (m : M D) (g : D → M Unit) (t : M Bool) (me : M D) : M Fl := Mp (Bb m) (bM j (Lq vs (Jj m) g t me)) (bM j (ye vs (zY m) g t me))
theorem aaD (C : Cq X T W k) (j : Nat) {y : Str} {py spos : Pos} (own : List (Str × Nat)) (s : aM X T W e m) (hi : ∀ i ∈ js, i ∈ own.map (·.2))
 (sg : ∀ (s : Shared) (H0 : Hp) (C : Addr) (cl : List (Str × Addr)) (fp : List Addr), yI (X.blk s H0 scope (compEnvC scope cl C X.env) fp) T js tg g)
 (st : ∀ (s : Shared) (H0 : Hp) (C : Addr) (cl : List (Str × Addr)) (fp : List Addr), eE (Mg (X.blk s H0 scope (compEnvC scope cl C X.env) fp) ifs) X.K T WF vB t)
 (se : ∀ (s : Shared) (H0 : Hp) (C : Addr) (cl : List (Str × Addr)) (fp : List Addr), aM (X.blk s H0 scope (compEnvC scope cl C X.env) fp) T WF elt me)
 (ok : BlkOk X.N X.env.scope scope own) (hsw : swapsWith (.ListComp elt [⟨tg, e, ifs, 0⟩] scope pos) (some (.Name y py)) spos.line X.env = pure true) (hy : X.N[j]? = some y := by rfl) (j0 : j ≠ 0 := by decide) (hyl : X.env.scope.names.lookup y = some .local := by rfl)
 (hs : ∀ x, foldedSetIterable e X.env x = pure x := by intro _; rfl) : uA X T W (.Assign [.Name y py] (.ListComp elt [⟨tg, e, ifs, 0⟩] scope pos) spos) (O5 j (own.map (·.2)) m g t me) :=
 aaC (aaw C j own (Q7 s) hi sg st se ok hsw hy j0 hyl hs) (RM C j own (Hj s) hi sg st se ok hsw hy j0 hyl hs)
end
end Pk
namespace Pk
open PySem PySem.Spec L2
def Wq {α : Type} (r : R α) (Q : α → Fr → Hh → Prop) (E : aP → Fr → Hh → Prop) : Prop := match r with
 | .ok a fr h => Q a fr h
 | .exc x fr h => E x fr h
 | .err => False
def Hn (d : D) : Option (List D) := match d with
 | .int j => if ue j then some (jw 0 j.toNat) else none
 | _ => none
def HS (x y : D) : Option (List D) := match x, y with
 | .int i, .int j => if ue i && ue j then some (jw i (j - i).toNat) else none
 | _, _ => none
def iY (_ : aP) (_ : Fr) (_ : Hh) : Prop := False
def Oq {α : Type} (o : Option α) (K : α → Prop) : Prop := match o with
 | some a => K a
 | none => False
def Sq (s : Option (Option D)) (K : D → Prop) : Prop := match s with
 | some (some d) => K d
 | _ => False
def Dt (b : Bool) (A B : Prop) : Prop := if b then A else B
def Bq (fr : Fr) (K : Fr → Prop) : Prop := K fr
def Fq (f : Fl) (A B : Prop) : Prop := match f with
 | .nx => A
 | _ => B
def Rq (f : Fl) (K : D → Prop) : Prop := match f with
 | .rt d => K d
 | .nx => K .non
 | _ => False
section
variable {α β : Type} {Q : α → Fr → Hh → Prop} {E : aP → Fr → Hh → Prop} {fr : Fr} {h : Hh}
theorem iI {a : α} : Wq (.ok a fr h) Q E = Q a fr h := by unfold Wq; rfl
theorem Fj {x : aP} : Wq (.exc x fr h : R α) Q E = E x fr h := by unfold Wq; rfl
theorem aF : Wq (.err : R α) Q E = False := by unfold Wq; rfl
theorem bj {a : α} {K : α → Prop} : Oq (some a) K = K a := by unfold Oq; rfl
theorem bu {K : α → Prop} : Oq none K = False := by unfold Oq; rfl
theorem O6 {o : Option α} {f : α → β} {K : β → Prop} : Oq (o.map f) K = Oq o fun a => K (f a) := by cases o <;> (unfold Oq; rfl)
theorem O7 {c : Prop} [Decidable c] {a : α} {K : α → Prop} : Oq (if c then some a else none) K = (c ∧ K a) := by
 by_cases hc : c
 · rw [if_pos hc, bj]; simp [hc]
 · rw [if_neg hc, bu]; simp [hc]
theorem acg {c : Bool} {a : α} {K : α → Prop} : Oq (if c then some a else none) K = (c = true ∧ K a) := O7
theorem yN {d : D} {K : D → Prop} : Sq (some (some d)) K = K d := by unfold Sq; rfl
theorem Jl {K : D → Prop} : Sq (some none) K = False := by unfold Sq; rfl
theorem HY {A B : Prop} : Dt true A B = A := by unfold Dt; exact if_pos rfl
theorem Ib {A B : Prop} : Dt false A B = B := by unfold Dt; exact if_neg (fun z => by cases z)
theorem aaE {a : Option D} {l : Fr} {K : Fr → Prop} : Bq (a :: l) K = K (a :: l) := by unfold Bq; rfl
theorem ach {K : Fr → Prop} : Bq [] K = K [] := by unfold Bq; rfl
theorem Sh {A B : Prop} : Fq .nx A B = A := by unfold Fq; rfl
theorem Xa {A B : Prop} {d : D} : Fq (.rt d) A B = B := by unfold Fq; rfl
theorem V2 {A B : Prop} : Fq .brk A B = B := by unfold Fq; rfl
theorem Xb {A B : Prop} : Fq .ct A B = B := by unfold Fq; rfl
theorem aci {K : D → Prop} : Rq .nx K = K .non := by unfold Rq; rfl
theorem acj {K : D → Prop} {d : D} : Rq (.rt d) K = K d := by unfold Rq; rfl
theorem Wq.mono {r : R α} {Q Q' : α → Fr → Hh → Prop} {E : aP → Fr → Hh → Prop} (w : Wq r Q E) (hq : ∀ a fr h, Q a fr h → Q' a fr h) : Wq r Q' E := by
 cases r with
 | ok a fr h => exact hq _ _ _ w
 | exc x fr h => exact w
 | err => exact w
theorem Wq.ex {r : R α} {Q : α → Fr → Hh → Prop} (w : Wq r Q iY) : ∃ a fr h, r = .ok a fr h ∧ Q a fr h := by
 cases r with
 | ok a fr h => exact ⟨a, fr, h, rfl, w⟩
 | exc x fr h => exact w.elim
 | err => exact w.elim
theorem Wq.eq {a : α} {r : R α} {fr : Fr} {h : Hh} (w : Wq r (fun b fr1 h1 => b = a ∧ fr1 = fr ∧ h1 = h) iY) : r = .ok a fr h := by
 obtain ⟨b, fr1, h1, e, e1, e2, e3⟩ := w.ex
 rw [e, e1, e2, e3]
theorem Wq.of_eq {r : R α} {a : α} {fr : Fr} {h : Hh} (e : r = .ok a fr h) (q : Q a fr h) : Wq r Q E := by
 rw [e]; exact q
theorem cH {a : α} : Wq (M.ret a fr h) Q E = Q a fr h := by unfold M.ret; exact iI
theorem aj {m : M β} {f : β → M α} : Wq (M.bind m f fr h) Q E = Wq (m fr h) (fun a fr h => Wq (f a fr h) Q E) E := by
 unfold M.bind
 cases m fr h <;> (unfold Wq; rfl)
theorem bf {o : Option α} : Wq (M.opt o fr h) Q E = Oq o fun a => Q a fr h := by
 cases o <;> (unfold Wq Oq M.opt; rfl)
end
section
variable {α : Type} {Q : D → Fr → Hh → Prop} {P : Bool → Fr → Hh → Prop} {S : α → Fr → Hh → Prop} {U : Unit → Fr → Hh → Prop} {G : List D → Fr → Hh → Prop} {L : Fl → Fr → Hh → Prop} {I : Option Int → Fr → Hh → Prop} {E : aP → Fr → Hh → Prop} {fr : Fr} {h : Hh} {m ma mb mc : M D} {i : Nat}
theorem aeA {d : D} : Wq (mC d fr h) Q E = Q d fr h := cH
theorem adK : Wq (bL m fr h) Q E = Wq (m fr h) (fun d fr h => Q d.fz fr h) E := by
 unfold bL; rw [aj]; simp only [cH]
theorem ack : Wq (aa i fr h) Q E = Sq fr[i]? fun d => Dt d.own (Bq (fr.set i (some d.fz)) fun fr => Q d.fz fr h) (Q d fr h) := by
 unfold aa
 cases fr[i]? with
 | none => rfl
 | some o => cases o with
   | none => rfl
   | some d =>
     rw [yN]
     dsimp only
     cases d.own <;> rfl
theorem aaF : Wq (JF i fr h) Q E = Sq fr[i]? fun d => Bq (fr.set i none) fun fr => Q d fr h := by
 unfold JF
 cases fr[i]? with
 | none => rfl
 | some o => cases o <;> rfl
theorem Xc : Wq (az i fr h) Q E = Sq fr[i]? fun d => Q d fr h := by
 unfold az
 cases fr[i]? with
 | none => rfl
 | some o => cases o <;> rfl
theorem Ss : Wq (fL i fr h) U E = Sq fr[i]? fun _ => U () fr h := by
 unfold fL
 cases fr[i]? with
 | none => rfl
 | some o => cases o <;> rfl
theorem adL {f : Hh → D → D → Option α} : Wq (aG f ma mb fr h) S E = Wq (ma fr h) (fun x fr h => Wq (mb fr h) (fun y fr h => Oq (f h x y) fun z => S z fr h) E) E := by
 unfold aG; simp only [aj, bf]
theorem adM {f : Hh → D → Option α} : Wq (aC f ma fr h) S E = Wq (ma fr h) (fun x fr h => Oq (f h x) fun z => S z fr h) E := by
 unfold aC; simp only [aj, bf]
theorem adN {t : M Bool} : Wq (mBl t fr h) Q E = Wq (t fr h) (fun b fr h => Q (.bl b) fr h) E := by
 unfold mBl; simp only [aj, cH]
theorem acl {t : M Bool} : Wq (cC t fr h) P E = Wq (t fr h) (fun b fr h => P (!b) fr h) E := by
 unfold cC; simp only [aj, cH]
theorem Fo {β : Type} {b : Bool} {m n : M β} {Q : β → Fr → Hh → Prop} : Wq ((if b then m else n) fr h) Q E = Dt b (Wq (m fr h) Q E) (Wq (n fr h) Q E) := by
 cases b
 · rw [Ib]; rfl
 · rw [HY]; rfl
theorem acn {t u : M Bool} : Wq (J9 t u fr h) P E = Wq (t fr h) (fun b fr h => Dt b (Wq (u fr h) P E) (P false fr h)) E := by
 unfold J9; simp only [aj, Fo, cH]
theorem adP {t u : M Bool} : Wq (jA t u fr h) P E = Wq (t fr h) (fun b fr h => Dt b (P true fr h) (Wq (u fr h) P E)) E := by
 unfold jA; simp only [aj, Fo, cH]
theorem aaG : Wq (JG m fr h) Q E = Wq (m fr h) (fun d fr h => Oq d.tb fun b => Q (.bl (!b)) fr h) E := by
 unfold JG; simp only [aj, bf, O6]
theorem aaH {n : M D} : Wq (xX m n fr h) Q E = Wq (m fr h) (fun d fr h => Oq d.tb fun b => Dt b (Wq (n fr h) Q E) (Q (.bl false) fr h)) E := by
 unfold xX; rw [aj]
 congr 1
 funext d fr h
 cases d.tb with
 | none => dsimp only; rw [bf, bu, bu]
 | some b =>
   rw [bj]
   cases b
   · rw [Ib]; exact cH
   · rw [HY]
theorem aco {n : M D} : Wq (Qo m n fr h) Q E = Wq (m fr h) (fun d fr h => Oq d.tb fun b => Dt b (Q (.bl true) fr h) (Wq (n fr h) Q E)) E := by
 unfold Qo; rw [aj]
 congr 1
 funext d fr h
 cases d.tb with
 | none => dsimp only; rw [bf, bu, bu]
 | some b =>
   rw [bj]
   cases b
   · rw [Ib]
   · rw [HY]; exact cH
theorem ZD {f g : Hh → D → D → Option Bool} : Wq (jm f g ma mb mc fr h) P E = Wq (ma fr h) (fun x fr h => Wq (mb fr h) (fun y fr h => Oq (f h x y) fun b => Dt b (Wq (mc fr h) (fun z fr h => Oq (g h y z) fun c => P c fr h) E) (P false fr h)) E) E := by
 unfold jm; simp only [aj]
 congr 1
 funext x fr h
 congr 1
 funext y fr h
 cases f h x y with
 | none => rw [bu]; exact aF
 | some b =>
   rw [bj]
   cases b
   · rw [Ib]; exact iI
   · rw [HY]; dsimp only; simp only [aj, bf]
theorem adQ {t : M Bool} {m n : M α} : Wq (Mf t m n fr h) S E = Wq (t fr h) (fun b fr h => Dt b (Wq (m fr h) S E) (Wq (n fr h) S E)) E := by
 unfold Mf; simp only [aj, Fo]
theorem ZF : Wq (ao [] fr h) G E = G [] fr h := cH
theorem ZG {ms : List (M D)} : Wq (ao (m :: ms) fr h) G E = Wq (m fr h) (fun d fr h => Wq (ao ms fr h) (fun ds fr h => G (d :: ds) fr h) E) E := by
 rw [ao]; simp only [aj, cH]
theorem acp {ms : List (M D)} : Wq (tW ms fr h) Q E = Wq (ao ms fr h) (fun ds fr h => ds.length ≤ big ∧ Q (.tup ds) fr h) E := by
 unfold tW; simp only [aj, bf, O7]
theorem acq {ms : List (M D)} : Wq (dX ms fr h) Q E = Wq (ao ms fr h) (fun ds fr h => ds.length ≤ big ∧ Q (.nl ds) fr h) E := by
 unfold dX; simp only [aj, bf, O7]
theorem aaI {β : Type} {m : M β} {f : Hh → D → β → Option D} : Wq (aV i m f fr h) Q E = Sq fr[i]? fun _ => Wq (m fr h) (fun y fr h => Sq fr[i]? fun d => Oq (f h d y) fun z => Q z fr h) E := by
 unfold aV; simp only [aj, Ss, Xc, bf]
theorem adR : Wq (Y8 fr h) I E = I none fr h := cH
theorem adS : Wq (UJ m fr h) I E = Wq (m fr h) (fun d fr h => Oq (match d with | .int i => some i | _ => none) fun i => I (some i) fr h) E := by
 unfold UJ; rw [aj]
 congr 1
 funext d fr h
 cases d <;> (rw [bf]; first | rw [bu, bu] | rw [bj, bj])
theorem aaJ {ml mh : M (Option Int)} {J : Option Int × Option Int → Fr → Hh → Prop} : Wq (JH ml mh fr h) J E = Wq (ml fr h) (fun l fr h => Wq (mh fr h) (fun u fr h => J (l, u) fr h) E) E := by
 unfold JH; simp only [aj, cH]
theorem acr {ml mh : M (Option Int)} : Wq (Z3 m ml mh fr h) Q E = Wq (m fr h) (fun d fr h => Wq (ml fr h) (fun l fr h => Wq (mh fr h) (fun u fr h => Oq (yc h d (l, u)) fun z => Q z fr h) E) E) E := by
 unfold Z3; simp only [aj, bf]
theorem adT : Wq (zY m fr h) G E = Wq (m fr h) (fun d fr h => Oq (d.its []) fun l => G l fr h) E := by
 unfold zY; simp only [aj, bf]
theorem aaK : Wq (z7 m fr h) G E = Wq (m fr h) (fun d fr h => Oq (Hn d) fun l => G l fr h) E := by
 unfold z7; simp only [aj, bf]; rfl
theorem aaL : Wq (Bp ma mb fr h) G E = Wq (ma fr h) (fun x fr h => Wq (mb fr h) (fun y fr h => Oq (HS x y) fun l => G l fr h) E) E := by
 unfold Bp; simp only [aj, bf]; rfl
theorem aaM : Wq (Ln m fr h) G E = Wq (m fr h) (fun d fr h => Oq d.lst fun l => G (iW 0 l) fr h) E := by
 unfold Ln; simp only [aj, bf, O6]
theorem acs {s n : M Fl} : Wq (aD s n fr h) L E = Wq (s fr h) (fun f fr h => Fq f (Wq (n fr h) L E) (L f fr h)) E := by
 unfold aD; rw [aj]
 congr 1
 funext f fr h
 cases f with
 | nx => rw [Sh]
 | brk => rw [V2]; exact cH
 | ct => rw [Xb]; exact cH
 | rt d => rw [Xa]; exact cH
theorem acu {t : M Bool} {s n : M Fl} : Wq (bB t s n fr h) L E = Wq (t fr h) (fun b fr h => Dt b (Wq (s fr h) L E) (Wq (n fr h) L E)) E := by
 unfold bB; simp only [aj, Fo]
theorem aaN {m : M α} : Wq (iV m fr h) L E = Wq (m fr h) (fun _ fr h => L .nx fr h) E := by
 unfold iV; simp only [aj, cH]
theorem acv : Wq (aU m fr h) L E = Wq (m fr h) (fun d fr h => L (.rt d) fr h) E := by
 unfold aU; simp only [aj, cH]
theorem acw : Wq (bM i m fr h) L E = Wq (m fr h) (fun d fr h => Bq (fr.set i (some d)) fun fr => L .nx fr h) E := by
 unfold bM Bq; rw [aj]
 congr 1
theorem acx {g : D → M Unit} : Wq (MP m g fr h) L E = Wq (m fr h) (fun d fr h => Wq (g d fr h) (fun _ fr h => L .nx fr h) iY) E := by
 unfold MP; rw [aj]
 congr 1
 funext d fr h
 cases g d fr h <;> (unfold Wq; rfl)
theorem aaO {is : List Nat} {ms : M (List D)} : Wq (Lg is ms fr h) L E = Wq (ms fr h) (fun ds fr h => Oq (yK is ds fr) fun fr' => ds.length ≤ big ∧ Bq fr' fun fr' => L .nx fr' h) E := by
 unfold Lg Bq; rw [aj]
 congr 1
 funext ds fr h
 cases yK is ds fr with
 | none => exact aF.trans bu.symm
 | some f =>
   rw [bj]
   dsimp only
   split
   · rename_i hb; rw [iI]; simp only [hb, true_and]
   · rename_i hb; rw [aF]; simp only [hb, false_and]
theorem aaP {l : M (List D)} {g : D → M Unit} {b : M Fl} : Wq (jC l g b fr h) L E = Wq (l fr h) (fun ds fr h => Wq (iH g b ds fr h) L E) E := by
 unfold jC; rw [aj]
theorem adU {vs : List Nat} {l : M (List D)} {g : D → M Unit} {t : M Bool} {e : M D} : Wq (ye vs l g t e fr h) Q E = Wq (l fr h) (fun ds fr h => ds.length ≤ big ∧ Bq (cX fr vs) fun fr => Wq (jx vs g t e ds fr h) (fun r fr h => Q (.nl r) fr h) E) E := by
 unfold ye GZ Bq; rw [aj]
 congr 1
 funext ds fr h
 rw [aj, iI]
 split
 · rename_i hb; rw [aj]; simp only [cH, hb, true_and]
 · rename_i hb; rw [bf, bu]; simp only [hb, false_and]
theorem aaQ {d : D} : Wq (aQ i d fr h) U E = Bq (fr.set i (some d)) fun fr => U () fr h := by
 unfold aQ Bq; exact iI
theorem ZJ : Wq (yJ [] fr h) U E = U () fr h := cH
theorem Yw {g : D → M Unit} {gs : List D → M Unit} {d : D} {ds : List D} : Wq (cI g gs (d :: ds) fr h) U E = Wq (g d fr h) (fun _ fr h => Wq (gs ds fr h) U E) E := by
 unfold cI; exact aj
theorem ZK {n : Nat} {gs : List D → M Unit} {l : List D} : Wq (zX n gs (.tup l) fr h) U E = (l.length = n ∧ Wq (gs l fr h) U E) := by
 unfold zX
 dsimp only
 split
 · rename_i hb; simp only [hb, true_and]
 · rename_i hb; rw [bf, bu]; simp only [hb, false_and]
theorem acy {f : List D → Option (List D)} : Wq (aR i f fr h) U E = Sq fr[i]? fun d => match d with
 | .nl l => Oq (f l) fun l' => Bq (fr.set i (some (.nl l'))) fun fr => U () fr h
 | .ref n => Oq h[n]? fun c => match c with
   | .nl l => Oq (f l) fun l' => U () fr (h.set n (.nl l'))
   | _ => False
 | _ => False := by
 unfold aR Bq
 cases e : fr[i]? with
 | none => unfold Wq Sq; rfl
 | some o =>
   cases o with
   | none => unfold Wq Sq; rfl
   | some d =>
     rw [yN]
     cases d with
     | nl l => dsimp only; cases f l <;> (unfold Wq Oq; rfl)
     | ref n =>
       dsimp only
       cases h[n]? with
       | none => unfold Wq Oq; rfl
       | some c =>
         rw [bj]
         cases c with
         | nl l => dsimp only; cases f l <;> (unfold Wq Oq; rfl)
         | _ => unfold Wq; rfl
     | _ => unfold Wq; rfl
theorem aaR {n : Nat} {f : List D → Option (List D)} : Wq (jD (.ref n) f fr h) U E = Oq h[n]? fun c => match c with
 | .nl l => Oq (f l) fun l' => U () fr (h.set n (.nl l'))
 | _ => False := by
 unfold jD
 dsimp only
 cases h[n]? with
 | none => unfold Wq Oq; rfl
 | some c =>
   rw [bj]
   cases c with
   | nl l => dsimp only; cases f l <;> (unfold Wq Oq; rfl)
   | _ => unfold Wq; rfl
theorem aaS : Wq (yL i m fr h) Q E = Wq (aR i jr fr h) (fun _ fr h => Wq (m fr h) (fun d fr h => Wq (aR i (CQ d) fr h) (fun _ fr h => Q .non fr h) E) E) E := by
 unfold yL; simp only [aj, cH]
theorem aaT : Wq (Xz i fr h) Q E = Wq (aR i M3 fr h) (fun _ fr h => Q .non fr h) E := by
 unfold Xz; simp only [aj, cH]
theorem aaU {mo : M D} : Wq (G3 mo m fr h) Q E = Wq (mo fr h) (fun o fr h => Wq (jD o jr fr h) (fun _ fr h => Wq (m fr h) (fun d fr h => Wq (jD o (CQ d) fr h) (fun _ fr h => Q .non fr h) E) E) E) E := by
 unfold G3; simp only [aj, cH]
theorem aaV {mo : M D} : Wq (Oo mo fr h) Q E = Wq (mo fr h) (fun o fr h => Wq (jD o M3 fr h) (fun _ fr h => Q .non fr h) E) E := by
 unfold Oo; simp only [aj, cH]
theorem aaW {mi : M D} : Wq (Dk i m mi fr h) L E = Wq (m fr h) (fun d fr h => Sq fr[i]? fun _ => Wq (mi fr h) (fun j fr h => Wq (aR i (Dj j d) fr h) (fun _ fr h => L .nx fr h) E) E) E := by
 unfold Dk; simp only [aj, cH, Ss]
theorem aaX {mo mi : M D} : Wq (XC mo m mi fr h) L E = Wq (m fr h) (fun d fr h => Wq (mo fr h) (fun o fr h => Wq (mi fr h) (fun j fr h => Wq (jD o (Dj j d) fr h) (fun _ fr h => L .nx fr h) E) E) E) E := by
 unfold XC; simp only [aj, cH]
theorem aaY : Wq (cD m fr h) Q E = Wq (m fr h) (fun d fr h => d.own = true ∧ Q (.ref h.length) fr (h ++ [d])) E := by
 unfold cD; rw [aj]
 congr 1
 funext d fr h
 split
 · rename_i hb; rw [iI]; simp only [hb, true_and]
 · rename_i hb; rw [aF, eq_iff_iff]
   exact ⟨False.elim, fun z => hb z.1⟩
theorem Yx {ix : Nat → Option Nat} : Wq (yg i ix m fr h) L E = Wq (m fr h) (fun d fr h => Wq (Ax i ix d fr h) (fun _ fr h => L .nx fr h) E) E := by
 unfold yg; simp only [aj, cH]
theorem aaZ {ix : Nat → Option Nat} {x : D} : Wq (Ax i ix x fr h) U E = Sq fr[i]? fun d => match d with
 | .no c fs => Oq (ix c) fun k => Oq (uw k x fs) fun fs' => Bq (fr.set i (some (.no c fs'))) fun fr => U () fr h
 | .ref n => Oq h[n]? fun c => match c with
   | .no c fs => Oq (ix c) fun k => Oq (uw k x fs) fun fs' => U () fr (h.set n (.no c fs'))
   | _ => False
 | _ => False := by
 unfold Ax Bq
 cases e : fr[i]? with
 | none => unfold Wq Sq; rfl
 | some o =>
   cases o with
   | none => unfold Wq Sq; rfl
   | some d =>
     rw [yN]
     cases d with
     | no c fs =>
       dsimp only
       cases ix c with
       | none => unfold Wq Oq; rfl
       | some k => rw [bj]; dsimp only; cases uw k x fs <;> (unfold Wq Oq; rfl)
     | ref n =>
       dsimp only
       cases h[n]? with
       | none => unfold Wq Oq; rfl
       | some c =>
         rw [bj]
         cases c with
         | no c fs =>
           dsimp only
           cases ix c with
           | none => unfold Wq Oq; rfl
           | some k => rw [bj]; dsimp only; cases uw k x fs <;> (unfold Wq Oq; rfl)
         | _ => unfold Wq; rfl
     | _ => unfold Wq; rfl
theorem yO {r : R D} {fr0 : Fr} : Wq (bZ fr0 r) Q E = Wq r (fun d _ h => Q d fr0 h) (fun x _ h => E x fr0 h) := by
 cases r <;> (unfold Wq bZ; rfl)
theorem V3 {n k : Nat} {F : Fn} {gD : List D → List D → List D} {ma mk : M (List D)} : Wq (aH n k F gD ma mk fr h) Q E = Wq (ma fr h) (fun ds fr h => Wq (mk fr h) (fun es fr h => ds.length = n ∧ es.length = k ∧ Wq (F (gD ds es) h) (fun d _ h => Q d fr h) (fun x _ h => E x fr h)) E) E := by
 unfold aH; rw [aj]
 congr 1
 funext ds fr h
 rw [aj]
 congr 1
 funext es fr h
 split
 · rename_i hb; rw [yO]; simp only [hb.1, hb.2, true_and]
 · rename_i hb
   rw [aF, eq_iff_iff]
   exact ⟨False.elim, fun z => hb ⟨z.1, z.2.1⟩⟩
theorem aa0 {n k : Nat} {mt : Nat → Option Fn} {gD : List D → List D → List D} {mo : M D} {ma mk : M (List D)} : Wq (XF n k mt gD mo ma mk fr h) Q E = Wq (mo fr h) (fun o fr h => Oq (fnOf mt h o) fun F => Wq (ma fr h) (fun ds fr h => Wq (mk fr h) (fun es fr h => ds.length = n ∧ es.length = k ∧ Wq (F (gD (o :: ds) es) h) (fun d _ h => Q d fr h) (fun x _ h => E x fr h)) E) E) E := by
 unfold XF; rw [aj]
 congr 1
 funext o fr h
 cases fnOf mt h o with
 | none => exact aF.trans bu.symm
 | some F =>
   rw [bj]
   dsimp only
   rw [V3]
   simp only [aj, cH, ag3, Nat.add_right_cancel_iff]
theorem aa1 {mt : Nat → Option Fn} {mo : M D} : Wq (Ot mt mo fr h) Q E = Wq (mo fr h) (fun o fr h => Oq (fnOf mt h o) fun F => Wq (F [o] h) (fun d _ h => Q d fr h) iY) E := by
 unfold Ot; rw [aj]
 congr 1
 funext o fr h
 cases fnOf mt h o with
 | none => exact aF.trans bu.symm
 | some F =>
   rw [bj]
   dsimp only
   cases F [o] h <;> (unfold Wq; rfl)
theorem aa2 {n : Nat} {m : M Fl} {ds : List D} : Wq (du n m ds h) Q E = Bq (startF n ds) fun fr => Wq (m fr h) (fun f _ h => Rq f fun d => Q d [] h) (fun x _ h => E x [] h) := by
 unfold du Bq
 show _ = Wq (m (startF n ds) h) _ _
 generalize m (startF n ds) h = r
 cases r with
 | ok f fr h => cases f <;> rfl
 | exc x fr h => rfl
 | err => rfl
def Nq (c : Nat) (s : Option (Option D)) (K : D → Prop) : Prop := match s with
 | some (some (.no c' fs)) => c' = c ∧ K (.no c fs)
 | _ => False
theorem Tv {c c' : Nat} {fs : List D} {K : D → Prop} : Nq c (some (some (.no c' fs))) K = (c' = c ∧ K (.no c fs)) := by unfold Nq; rfl
theorem aa3 {c n : Nat} {m : M Fl} {ds : List D} : Wq (runI c n m ds h) Q E = Bq (startF n (.no c [] :: ds)) fun fr => Wq (m fr h) (fun f fr h => Fq f (Nq c fr[0]? fun d => Q d [] h) False) (fun x _ h => E x [] h) := by
 unfold runI Bq
 show _ = Wq (m (startF n (.no c [] :: ds)) h) _ _
 generalize m (startF n (.no c [] :: ds)) h = r
 cases r with
 | ok f fr h =>
   cases f with
   | nx =>
     rw [iI, Sh]
     dsimp only
     cases e : (fr : List (Option D))[0]? with
     | none => rfl
     | some o =>
       cases o with
       | none => rfl
       | some d =>
         cases d with
         | no c' fs =>
           rw [Tv]
           dsimp only
           split
           · rename_i hb; subst hb; rw [iI]; simp
           · rename_i hb; rw [aF]; simp only [hb, false_and]
         | _ => rfl
   | _ => rfl
 | exc x fr h => rfl
 | err => rfl
end
structure PP {β γ : Type} (_ : β) (_ : γ) : Type where
def Wp {α : Type} (r : R α) (Q : α → Fr → Hh → Prop) (E : aP → Fr → Hh → Prop) (_ : PP Q E := ⟨⟩) : Prop := Wq r Q E
def Op {α : Type} (o : Option α) (K : α → Prop) (_ : PP K K := ⟨⟩) : Prop := Oq o K
def Sl (s : Option (Option D)) (K : D → Prop) (_ : PP K K := ⟨⟩) : Prop := Sq s K
def Cd (b : Bool) (A B : Prop) (_ : PP A B := ⟨⟩) : Prop := Dt b A B
def Bx (fr : Fr) (K : Fr → Prop) (_ : PP K K := ⟨⟩) : Prop := Bq fr K
def Xd (f : Fl) (A B : Prop) (_ : PP A B := ⟨⟩) : Prop := Fq f A B
def RtK (f : Fl) (K : D → Prop) (_ : PP K K := ⟨⟩) : Prop := Rq f K
def NoK (c : Nat) (s : Option (Option D)) (K : D → Prop) (_ : PP K K := ⟨⟩) : Prop := Nq c s K
section
variable {α β : Type} {Q : α → Fr → Hh → Prop} {E : aP → Fr → Hh → Prop} {fr : Fr} {h : Hh}
theorem fX {a : α} : Wp (.ok a fr h) Q E = Q a fr h := iI
theorem vg {x : aP} : Wp (.exc x fr h : R α) Q E = E x fr h := Fj
theorem iG {a : α} {K : α → Prop} : Op (some a) K = K a := bj
theorem O8 {K : α → Prop} : Op none K = False := bu
theorem vh {o : Option α} {f : α → β} {K : β → Prop} : Op (o.map f) K = Op o fun a => K (f a) := O6
theorem vm {c : Prop} [Decidable c] {a : α} {K : α → Prop} : Op (if c then some a else none) K = (c ∧ K a) := O7
theorem adW {c : Bool} {a : α} {K : α → Prop} : Op (if c then some a else none) K = (c = true ∧ K a) := acg
theorem nZ {d : D} {K : D → Prop} : Sl (some (some d)) K = K d := yN
theorem CW {A B : Prop} : Cd true A B = A := HY
theorem CZ {A B : Prop} : Cd false A B = B := Ib
theorem mZ {a : Option D} {l : Fr} {K : Fr → Prop} : Bx (a :: l) K = K (a :: l) := aaE
theorem vo {K : Fr → Prop} : Bx [] K = K [] := ach
theorem uC {A B : Prop} : Xd .nx A B = A := Sh
theorem vp {A B : Prop} {d : D} : Xd (.rt d) A B = B := Xa
theorem o8 {A B : Prop} : Xd .brk A B = B := V2
theorem vq {A B : Prop} : Xd .ct A B = B := Xb
theorem vz {K : D → Prop} : RtK .nx K = K .non := aci
theorem uD {K : D → Prop} {d : D} : RtK (.rt d) K = K d := acj
theorem Wp.mono {r : R α} {Q Q' : α → Fr → Hh → Prop} {E : aP → Fr → Hh → Prop} (w : Wp r Q E) (hq : ∀ a fr h, Q a fr h → Q' a fr h) : Wp r Q' E := Wq.mono w hq
theorem Wp.ex {r : R α} {Q : α → Fr → Hh → Prop} (w : Wp r Q iY) : ∃ a fr h, r = .ok a fr h ∧ Q a fr h := Wq.ex w
theorem Wp.eq {a : α} {r : R α} {fr : Fr} {h : Hh} (w : Wp r (fun b fr1 h1 => b = a ∧ fr1 = fr ∧ h1 = h) iY) : r = .ok a fr h := Wq.eq w
theorem Wp.of_eq {r : R α} {a : α} {fr : Fr} {h : Hh} (e : r = .ok a fr h) (q : Q a fr h) : Wp r Q E := Wq.of_eq e q
theorem nJ {a : α} : Wp (M.ret a fr h) Q E = Q a fr h := cH
theorem wp_bind {m : M β} {f : β → M α} : Wp (M.bind m f fr h) Q E = Wp (m fr h) (fun a fr h => Wp (f a fr h) Q E) E := aj
theorem vC {o : Option α} : Wp (M.opt o fr h) Q E = Op o fun a => Q a fr h := bf
end
section
variable {α : Type} {Q : D → Fr → Hh → Prop} {P : Bool → Fr → Hh → Prop} {S : α → Fr → Hh → Prop} {U : Unit → Fr → Hh → Prop} {G : List D → Fr → Hh → Prop} {L : Fl → Fr → Hh → Prop} {I : Option Int → Fr → Hh → Prop} {E : aP → Fr → Hh → Prop} {fr : Fr} {h : Hh} {m ma mb mc : M D} {i : Nat}
theorem Ci {d : D} : Wp (mC d fr h) Q E = Q d fr h := aeA
theorem Ab : Wp (bL m fr h) Q E = Wp (m fr h) (fun d fr h => Q d.fz fr h) E := adK
theorem vD : Wp (aa i fr h) Q E = Sl fr[i]? fun d => Cd d.own (Bx (fr.set i (some d.fz)) fun fr => Q d.fz fr h) (Q d fr h) := ack
theorem o9 : Wp (JF i fr h) Q E = Sl fr[i]? fun d => Bx (fr.set i none) fun fr => Q d fr h := aaF
theorem uE : Wp (az i fr h) Q E = Sl fr[i]? fun d => Q d fr h := Xc
theorem vG : Wp (fL i fr h) U E = Sl fr[i]? fun _ => U () fr h := Ss
theorem yP {f : Hh → D → D → Option α} : Wp (aG f ma mb fr h) S E = Wp (ma fr h) (fun x fr h => Wp (mb fr h) (fun y fr h => Op (f h x y) fun z => S z fr h) E) E := adL
theorem yQ {f : Hh → D → Option α} : Wp (aC f ma fr h) S E = Wp (ma fr h) (fun x fr h => Op (f h x) fun z => S z fr h) E := adM
theorem Ac {t : M Bool} : Wp (mBl t fr h) Q E = Wp (t fr h) (fun b fr h => Q (.bl b) fr h) E := adN
theorem vH {t : M Bool} : Wp (cC t fr h) P E = Wp (t fr h) (fun b fr h => P (!b) fr h) E := acl
theorem ph {β : Type} {b : Bool} {m n : M β} {Q : β → Fr → Hh → Prop} : Wp ((if b then m else n) fr h) Q E = Cd b (Wp (m fr h) Q E) (Wp (n fr h) Q E) := Fo
theorem vK {t u : M Bool} : Wp (J9 t u fr h) P E = Wp (t fr h) (fun b fr h => Cd b (Wp (u fr h) P E) (P false fr h)) E := acn
theorem Ad {t u : M Bool} : Wp (jA t u fr h) P E = Wp (t fr h) (fun b fr h => Cd b (P true fr h) (Wp (u fr h) P E)) E := adP
theorem pq : Wp (JG m fr h) Q E = Wp (m fr h) (fun d fr h => Op d.tb fun b => Q (.bl (!b)) fr h) E := aaG
theorem pA {n : M D} : Wp (xX m n fr h) Q E = Wp (m fr h) (fun d fr h => Op d.tb fun b => Cd b (Wp (n fr h) Q E) (Q (.bl false) fr h)) E := aaH
theorem vL {n : M D} : Wp (Qo m n fr h) Q E = Wp (m fr h) (fun d fr h => Op d.tb fun b => Cd b (Q (.bl true) fr h) (Wp (n fr h) Q E)) E := aco
theorem jE {f g : Hh → D → D → Option Bool} : Wp (jm f g ma mb mc fr h) P E = Wp (ma fr h) (fun x fr h => Wp (mb fr h) (fun y fr h => Op (f h x y) fun b => Cd b (Wp (mc fr h) (fun z fr h => Op (g h y z) fun c => P c fr h) E) (P false fr h)) E) E := ZD
theorem Ae {t : M Bool} {m n : M α} : Wp (Mf t m n fr h) S E = Wp (t fr h) (fun b fr h => Cd b (Wp (m fr h) S E) (Wp (n fr h) S E)) E := adQ
theorem jF : Wp (ao [] fr h) G E = G [] fr h := ZF
theorem jG {ms : List (M D)} : Wp (ao (m :: ms) fr h) G E = Wp (m fr h) (fun d fr h => Wp (ao ms fr h) (fun ds fr h => G (d :: ds) fr h) E) E := ZG
theorem vM {ms : List (M D)} : Wp (tW ms fr h) Q E = Wp (ao ms fr h) (fun ds fr h => ds.length ≤ big ∧ Q (.tup ds) fr h) E := acp
theorem vP {ms : List (M D)} : Wp (dX ms fr h) Q E = Wp (ao ms fr h) (fun ds fr h => ds.length ≤ big ∧ Q (.nl ds) fr h) E := acq
theorem pB {β : Type} {m : M β} {f : Hh → D → β → Option D} : Wp (aV i m f fr h) Q E = Sl fr[i]? fun _ => Wp (m fr h) (fun y fr h => Sl fr[i]? fun d => Op (f h d y) fun z => Q z fr h) E := aaI
theorem Af : Wp (Y8 fr h) I E = I none fr h := adR
theorem aeB : Wp (UJ m fr h) I E = Wp (m fr h) (fun d fr h => Op (match d with | .int i => some i | _ => none) fun i => I (some i) fr h) E := adS
theorem pC {ml mh : M (Option Int)} {J : Option Int × Option Int → Fr → Hh → Prop} : Wp (JH ml mh fr h) J E = Wp (ml fr h) (fun l fr h => Wp (mh fr h) (fun u fr h => J (l, u) fr h) E) E := aaJ
theorem vQ {ml mh : M (Option Int)} : Wp (Z3 m ml mh fr h) Q E = Wp (m fr h) (fun d fr h => Wp (ml fr h) (fun l fr h => Wp (mh fr h) (fun u fr h => Op (yc h d (l, u)) fun z => Q z fr h) E) E) E := acr
theorem Ag : Wp (zY m fr h) G E = Wp (m fr h) (fun d fr h => Op (d.its []) fun l => G l fr h) E := adT
theorem oh : Wp (z7 m fr h) G E = Wp (m fr h) (fun d fr h => Op (Hn d) fun l => G l fr h) E := aaK
theorem pD : Wp (Bp ma mb fr h) G E = Wp (ma fr h) (fun x fr h => Wp (mb fr h) (fun y fr h => Op (HS x y) fun l => G l fr h) E) E := aaL
theorem pF : Wp (Ln m fr h) G E = Wp (m fr h) (fun d fr h => Op d.lst fun l => G (iW 0 l) fr h) E := aaM
theorem uF {s n : M Fl} : Wp (aD s n fr h) L E = Wp (s fr h) (fun f fr h => Xd f (Wp (n fr h) L E) (L f fr h)) E := acs
theorem vR {t : M Bool} {s n : M Fl} : Wp (bB t s n fr h) L E = Wp (t fr h) (fun b fr h => Cd b (Wp (s fr h) L E) (Wp (n fr h) L E)) E := acu
theorem pG {m : M α} : Wp (iV m fr h) L E = Wp (m fr h) (fun _ fr h => L .nx fr h) E := aaN
theorem uG : Wp (aU m fr h) L E = Wp (m fr h) (fun d fr h => L (.rt d) fr h) E := acv
theorem vU : Wp (bM i m fr h) L E = Wp (m fr h) (fun d fr h => Bx (fr.set i (some d)) fun fr => L .nx fr h) E := acw
theorem vW {g : D → M Unit} : Wp (MP m g fr h) L E = Wp (m fr h) (fun d fr h => Wp (g d fr h) (fun _ fr h => L .nx fr h) iY) E := acx
theorem pH {is : List Nat} {ms : M (List D)} : Wp (Lg is ms fr h) L E = Wp (ms fr h) (fun ds fr h => Op (yK is ds fr) fun fr' => ds.length ≤ big ∧ Bx fr' fun fr' => L .nx fr' h) E := aaO
theorem ou {l : M (List D)} {g : D → M Unit} {b : M Fl} : Wp (jC l g b fr h) L E = Wp (l fr h) (fun ds fr h => Wp (iH g b ds fr h) L E) E := aaP
theorem Ah {vs : List Nat} {l : M (List D)} {g : D → M Unit} {t : M Bool} {e : M D} : Wp (ye vs l g t e fr h) Q E = Wp (l fr h) (fun ds fr h => ds.length ≤ big ∧ Bx (cX fr vs) fun fr => Wp (jx vs g t e ds fr h) (fun r fr h => Q (.nl r) fr h) E) E := adU
theorem oA {d : D} : Wp (aQ i d fr h) U E = Bx (fr.set i (some d)) fun fr => U () fr h := aaQ
theorem jH : Wp (yJ [] fr h) U E = U () fr h := ZJ
theorem fY {g : D → M Unit} {gs : List D → M Unit} {d : D} {ds : List D} : Wp (cI g gs (d :: ds) fr h) U E = Wp (g d fr h) (fun _ fr h => Wp (gs ds fr h) U E) E := Yw
theorem jJ {n : Nat} {gs : List D → M Unit} {l : List D} : Wp (zX n gs (.tup l) fr h) U E = (l.length = n ∧ Wp (gs l fr h) U E) := ZK
theorem vX {f : List D → Option (List D)} : Wp (aR i f fr h) U E = Sl fr[i]? fun d => match d with
 | .nl l => Op (f l) fun l' => Bx (fr.set i (some (.nl l'))) fun fr => U () fr h
 | .ref n => Op h[n]? fun c => match c with
   | .nl l => Op (f l) fun l' => U () fr (h.set n (.nl l'))
   | _ => False
 | _ => False := acy
theorem pJ {n : Nat} {f : List D → Option (List D)} : Wp (jD (.ref n) f fr h) U E = Op h[n]? fun c => match c with
 | .nl l => Op (f l) fun l' => U () fr (h.set n (.nl l'))
 | _ => False := aaR
theorem pK : Wp (yL i m fr h) Q E = Wp (aR i jr fr h) (fun _ fr h => Wp (m fr h) (fun d fr h => Wp (aR i (CQ d) fr h) (fun _ fr h => Q .non fr h) E) E) E := aaS
theorem pM : Wp (Xz i fr h) Q E = Wp (aR i M3 fr h) (fun _ fr h => Q .non fr h) E := aaT
theorem pN {mo : M D} : Wp (G3 mo m fr h) Q E = Wp (mo fr h) (fun o fr h => Wp (jD o jr fr h) (fun _ fr h => Wp (m fr h) (fun d fr h => Wp (jD o (CQ d) fr h) (fun _ fr h => Q .non fr h) E) E) E) E := aaU
theorem pO {mo : M D} : Wp (Oo mo fr h) Q E = Wp (mo fr h) (fun o fr h => Wp (jD o M3 fr h) (fun _ fr h => Q .non fr h) E) E := aaV
theorem pP {mi : M D} : Wp (Dk i m mi fr h) L E = Wp (m fr h) (fun d fr h => Sl fr[i]? fun _ => Wp (mi fr h) (fun j fr h => Wp (aR i (Dj j d) fr h) (fun _ fr h => L .nx fr h) E) E) E := aaW
theorem pQ {mo mi : M D} : Wp (XC mo m mi fr h) L E = Wp (m fr h) (fun d fr h => Wp (mo fr h) (fun o fr h => Wp (mi fr h) (fun j fr h => Wp (jD o (Dj j d) fr h) (fun _ fr h => L .nx fr h) E) E) E) E := aaX
theorem pU : Wp (cD m fr h) Q E = Wp (m fr h) (fun d fr h => d.own = true ∧ Q (.ref h.length) fr (h ++ [d])) E := aaY
theorem fZ {ix : Nat → Option Nat} : Wp (yg i ix m fr h) L E = Wp (m fr h) (fun d fr h => Wp (Ax i ix d fr h) (fun _ fr h => L .nx fr h) E) E := Yx
theorem pW {ix : Nat → Option Nat} {x : D} : Wp (Ax i ix x fr h) U E = Sl fr[i]? fun d => match d with
 | .no c fs => Op (ix c) fun k => Op (uw k x fs) fun fs' => Bx (fr.set i (some (.no c fs'))) fun fr => U () fr h
 | .ref n => Op h[n]? fun c => match c with
   | .no c fs => Op (ix c) fun k => Op (uw k x fs) fun fs' => U () fr (h.set n (.no c fs'))
   | _ => False
 | _ => False := aaZ
theorem pX {n k : Nat} {F : Fn} {gD : List D → List D → List D} {ma mk : M (List D)} : Wp (aH n k F gD ma mk fr h) Q E = Wp (ma fr h) (fun ds fr h => Wp (mk fr h) (fun es fr h => ds.length = n ∧ es.length = k ∧ Wp (F (gD ds es) h) (fun d _ h => Q d fr h) (fun x _ h => E x fr h)) E) E := V3
theorem pY {n k : Nat} {mt : Nat → Option Fn} {gD : List D → List D → List D} {mo : M D} {ma mk : M (List D)} : Wp (XF n k mt gD mo ma mk fr h) Q E = Wp (mo fr h) (fun o fr h => Op (fnOf mt h o) fun F => Wp (ma fr h) (fun ds fr h => Wp (mk fr h) (fun es fr h => ds.length = n ∧ es.length = k ∧ Wp (F (gD (o :: ds) es) h) (fun d _ h => Q d fr h) (fun x _ h => E x fr h)) E) E) E := aa0
theorem pZ {mt : Nat → Option Fn} {mo : M D} : Wp (Ot mt mo fr h) Q E = Wp (mo fr h) (fun o fr h => Op (fnOf mt h o) fun F => Wp (F [o] h) (fun d _ h => Q d fr h) iY) E := aa1
theorem oE {n : Nat} {m : M Fl} {ds : List D} : Wp (du n m ds h) Q E = Bx (startF n ds) fun fr => Wp (m fr h) (fun f _ h => RtK f fun d => Q d [] h) (fun x _ h => E x [] h) := aa2
theorem jK {c c' : Nat} {fs : List D} {K : D → Prop} : NoK c (some (some (.no c' fs))) K = (c' = c ∧ K (.no c fs)) := Tv
theorem qb {c n : Nat} {m : M Fl} {ds : List D} : Wp (runI c n m ds h) Q E = Bx (startF n (.no c [] :: ds)) fun fr => Wp (m fr h) (fun f fr h => Xd f (NoK c fr[0]? fun d => Q d [] h) False) (fun x _ h => E x [] h) := aa3
end
end Pk
namespace Pk
open PySem PySem.Spec L2
section
variable {h : Hh} {l l' ds fs : List D} {i j : Int} {a b : Bool} {s z : Str} {n c : Nat} {t : String}
theorem bz : (D.int i).own = false := by unfold D.own; rfl
theorem bR : (D.bl a).own = false := by unfold D.own; rfl
theorem bD : (D.str s).own = false := by unfold D.own; rfl
theorem bF : D.non.own = false := by unfold D.own; rfl
theorem bG : (D.tup l).own = false := by unfold D.own; rfl
theorem bT : (D.fl l).own = false := by unfold D.own; rfl
theorem bU : (D.kl l).own = false := by unfold D.own; rfl
theorem bH : (D.obj c l).own = false := by unfold D.own; rfl
theorem bJ : (D.ref n).own = false := by unfold D.own; rfl
theorem bK : (D.cls n).own = false := by unfold D.own; rfl
theorem bV : (D.ty t).own = false := by unfold D.own; rfl
theorem bW : (D.nl l).own = true := by unfold D.own; rfl
theorem bY : (D.no c l).own = true := by unfold D.own; rfl
theorem dw : (D.int i).fz = .int i := by unfold D.fz; rfl
theorem eV : (D.bl a).fz = .bl a := by unfold D.fz; rfl
theorem dB : (D.str s).fz = .str s := by unfold D.fz; rfl
theorem fz_non : D.non.fz = .non := by unfold D.fz; rfl
theorem dD : (D.tup l).fz = .tup l := by unfold D.fz; rfl
theorem eX : (D.fl l).fz = .fl l := by unfold D.fz; rfl
theorem eY : (D.kl l).fz = .kl l := by unfold D.fz; rfl
theorem dF : (D.obj c l).fz = .obj c l := by unfold D.fz; rfl
theorem dH : (D.ref n).fz = .ref n := by unfold D.fz; rfl
theorem dI : (D.cls n).fz = .cls n := by unfold D.fz; rfl
theorem eZ : (D.ty t).fz = .ty t := by unfold D.fz; rfl
theorem fj : (D.nl l).fz = .fl l := by unfold D.fz; rfl
theorem fu : (D.no c l).fz = .obj c l := by unfold D.fz; rfl
theorem jo : (D.tup l).its h = some l := by unfold D.its D.der; rfl
theorem nM : (D.fl l).its h = some l := by unfold D.its D.der; rfl
theorem ug : (D.kl l).its h = some l := by unfold D.its D.der; rfl
theorem oX : (D.nl l).its h = some l := by unfold D.its D.der; rfl
theorem Sv {x : D} (e : h[n]? = some x) : (D.ref n).der h = x := by
 unfold D.der; dsimp only; rw [e]; rfl
theorem jL : cV h (.tup l) = some (.int l.length) := by unfold cV; dsimp only; rw [jo]; rfl
theorem oF : cV h (.fl l) = some (.int l.length) := by unfold cV; dsimp only; rw [nM]; rfl
theorem oG : cV h (.kl l) = some (.int l.length) := by unfold cV; dsimp only; rw [ug]; rfl
theorem m7 : cV h (.nl l) = some (.int l.length) := by unfold cV; dsimp only; rw [oX]; rfl
theorem jM : bh h (.tup l) (.int i) = atI l i := by unfold bh; dsimp only; rw [jo]
theorem vY : bh h (.fl l) (.int i) = atI l i := by unfold bh; dsimp only; rw [nM]
theorem qd : bh h (.kl l) (.int i) = atI l i := by unfold bh; dsimp only; rw [ug]
theorem qj : bh h (.nl l) (.int i) = atI l i := by unfold bh; dsimp only; rw [oX]
section
variable {α : Type} {xs : List α}
theorem iJ {k : Nat} : atI xs (k : Int) = xs[k]? := by
 unfold atI ixN
 rw [if_pos (by omega)]
 by_cases hk : k < xs.length
 · rw [if_pos (by omega)]; simp
 · rw [if_neg (by omega)]; simp; omega
theorem Du : atI xs 0 = xs[0]? := iJ (k := 0)
theorem Dy : atI xs 1 = xs[1]? := iJ (k := 1)
theorem Dz : atI xs 2 = xs[2]? := iJ (k := 2)
theorem DG : atI xs 3 = xs[3]? := iJ (k := 3)
theorem DK : atI xs 4 = xs[4]? := iJ (k := 4)
theorem DN : atI xs 5 = xs[5]? := iJ (k := 5)
theorem DP : atI xs 6 = xs[6]? := iJ (k := 6)
theorem Ai : atI xs (-1) = xs.getLast? := by
 unfold atI ixN
 rw [if_neg (by decide), List.getLast?_eq_getElem?]
 by_cases hk : 1 ≤ xs.length
 · rw [if_pos (by omega)]
   show xs[((-1 : Int) + (xs.length : Int)).toNat]? = _
   congr 1; omega
 · rw [if_neg (by omega)]
   have : xs = [] := List.length_eq_zero_iff.mp (by omega)
   subst this; rfl
end
section
variable {C : Int → Int → Bool} {g : Int → Int → Int} {K : D → Prop}
theorem uH : Op (eO C g h (.int i) (.int j)) K = (C i j = true ∧ K (.int (g i j))) := by unfold eO; exact adW
theorem yR : uv i j = true := by unfold uv; rfl
theorem jN : cA h (.int i) (.int j) = some (.int (i + j)) := by unfold cA; rfl
theorem jO : cA h (.tup l) (.tup l') = if l.length + l'.length ≤ big then some (.tup (l ++ l')) else none := by unfold cA; rfl
theorem ql : cA h (.fl l) (.fl l') = if l.length + l'.length ≤ big then some (.nl (l ++ l')) else none := by unfold cA; rfl
theorem jP : MJ (.int i) = some (.int (-i)) := by unfold MJ; rfl
theorem jQ : Lf h (.int i) = some (.int (if i < 0 then -i else i)) := by unfold Lf; rfl
theorem gh : xY h (.int i) = some (.int i) := by unfold xY; rfl
theorem jR : xY h (.bl a) = some (.int (if a then 1 else 0)) := by unfold xY; rfl
theorem jT {d : D} : cR h d = (d.its h).map .nl := by unfold cR; rfl
theorem gj {d : D} : jn h d = (d.its h).map .tup := by unfold jn; rfl
theorem jU {p : Int → Int → Bool} : cInt p h (.int i) (.int j) = some (p i j) := by unfold cInt; rfl
theorem vZ : u5 h (.int i) (.int j) = some (decide (i = j)) := by
 have : u5 h (.int i) (.int j) = some (i == j) := by unfold u5; rfl
 rw [this]
 by_cases e : i = j
 · subst e; simp
 · simp [e]
theorem v4 : u5 h (.bl a) (.bl b) = some (a == b) := by unfold u5; rfl
theorem v5 : u5 h .non .non = some true := by unfold u5; rfl
theorem v7 {d e : D} : MK h d e = (u5 h d e).map (!·) := by unfold MK; rfl
theorem qm {d e : D} : Qm h d e = (cIn h d e).map (!·) := by unfold Qm; rfl
theorem qp {d : D} : cIs h d .non = some d.isNon := by unfold cIs; rfl
theorem jV {d : D} : RK h d .non = some (!d.isNon) := by unfold RK; rfl
theorem fJ : D.non.isNon = true := by unfold D.isNon; rfl
theorem gq : (D.int i).isNon = false := by unfold D.isNon; rfl
theorem jW : (D.bl a).isNon = false := by unfold D.isNon; rfl
theorem gA : (D.str s).isNon = false := by unfold D.isNon; rfl
theorem gG : (D.tup l).isNon = false := by unfold D.isNon; rfl
theorem jX : (D.fl l).isNon = false := by unfold D.isNon; rfl
theorem jY : (D.nl l).isNon = false := by unfold D.isNon; rfl
theorem gH : (D.obj c l).isNon = false := by unfold D.isNon; rfl
theorem gJ : (D.ref n).isNon = false := by unfold D.isNon; rfl
theorem uO : (D.bl a).tb = some a := by unfold D.tb; rfl
theorem qu : D.non.tru h = some false := by unfold D.tru; rfl
theorem cY : (D.bl a).tru h = some a := by unfold D.tru; rfl
theorem qw : (D.int i).tru h = some (i != 0) := by unfold D.tru; rfl
theorem qC : (D.tup l).tru h = some (!l.isEmpty) := by unfold D.tru; dsimp only; rw [jo]; rfl
theorem v8 : (D.fl l).tru h = some (!l.isEmpty) := by unfold D.tru; dsimp only; rw [nM]; rfl
theorem v9 : (D.nl l).tru h = some (!l.isEmpty) := by unfold D.tru; dsimp only; rw [oX]; rfl
end
theorem Ra : ∀ xs : List Int, D.ints (xs.map .int) = some xs
 | [] => by unfold D.ints; rfl
 | i :: xs => by rw [ag0]; unfold D.ints; rw [Ra xs]; rfl
theorem yS {xs : List Int} : UL h (.nl (xs.map .int)) = some (.int xs.sum) := by
 unfold UL D.lints D.der; dsimp only; rw [Ra]; rfl
theorem yU {xs : List Int} : UL h (.fl (xs.map .int)) = some (.int xs.sum) := by
 unfold UL D.lints D.der; dsimp only; rw [Ra]; rfl
theorem qD {ix : Nat → Option Nat} {K : D → Prop} : Op (tX ix h (.obj c fs)) K = Op (ix c) fun k => Op fs[k]? K := by
 unfold tX D.ins D.der; dsimp only
 cases ix c with
 | none => exact (O8 (K := K)).trans (O8 (α := Nat)).symm
 | some k => rw [iG]
theorem wg {ix : Nat → Option Nat} {K : D → Prop} : Op (tX ix h (.no c fs)) K = Op (ix c) fun k => Op fs[k]? K := by
 unfold tX D.ins D.der; dsimp only
 cases ix c with
 | none => exact (O8 (K := K)).trans (O8 (α := Nat)).symm
 | some k => rw [iG]
theorem jZ {mt : Nat → Option Fn} : fnOf mt h (.obj c fs) = mt c := by unfold fnOf D.ins D.der; rfl
theorem qF {mt : Nat → Option Fn} : fnOf mt h (.no c fs) = mt c := by unfold fnOf D.ins D.der; rfl
theorem j5 {fr : Fr} : yK [] [] fr = some fr := by unfold yK; rfl
theorem gK {fr : Fr} {k : Nat} {ks : List Nat} {d : D} : yK (k :: ks) (d :: ds) fr = yK ks ds (fr.set k (some d)) := by rw [yK]
theorem j6 {fr : Fr} : cX fr [] = fr := by unfold cX; rfl
theorem gM {fr : Fr} {k : Nat} {ks : List Nat} : cX fr (k :: ks) = (cX fr ks).set k none := by rw [cX]
theorem qG {dfl es : List D} : aK dfl ds es = ds ++ dfl := by unfold aK; rfl
theorem j7 {α : Type} {xs : List α} : pick [] xs = [] := by unfold pick; rfl
theorem gQ {α : Type} {xs : List α} {k : Nat} {ks : List Nat} : pick (k :: ks) xs = xs[k]?.toList ++ pick ks xs := by
 unfold pick
 rw [List.filterMap_cons]
 cases xs[k]? <;> rfl
theorem j8 {α : Type} {x : α} : (some x).toList = [x] := by unfold Option.toList; rfl
theorem j9 : jr l = some l := by unfold jr; rfl
theorem qH : M3 l = some [] := by unfold M3; rfl
theorem qI {d : D} : CQ d l = if l.length < big then some (l ++ [d]) else none := by unfold CQ; rfl
end
theorem wj : big = 100000 := by unfold big; rfl
def Nv (f : Fl) (A : Prop) (B : Fl → Prop) (_ : PP A B := ⟨⟩) : Prop := match f with
 | .nx => A
 | .ct => A
 | .brk => B .nx
 | .rt d => B (.rt d)
theorem oY {A : Prop} {B : Fl → Prop} : Nv .nx A B = A := by unfold Nv; rfl
theorem oZ {A : Prop} {B : Fl → Prop} : Nv .ct A B = A := by unfold Nv; rfl
theorem m9 {A : Prop} {B : Fl → Prop} : Nv .brk A B = B .nx := by unfold Nv; rfl
theorem uh {d : D} {A : Prop} {B : Fl → Prop} : Nv (.rt d) A B = B (.rt d) := by unfold Nv; rfl
section
variable {L : Fl → Fr → Hh → Prop} {E : aP → Fr → Hh → Prop} {g : D → M Unit} {b : M Fl}
theorem oH {fr : Fr} {h : Hh} : Wp (iH g b [] fr h) L E = L .nx fr h := by unfold iH; exact nJ
theorem oJ {d : D} {ds : List D} {fr : Fr} {h : Hh} : Wp (iH g b (d :: ds) fr h) L E = Wp (g d fr h) (fun _ fr h => Wp (b fr h) (fun f fr h => Nv f (Wp (iH g b ds fr h) L E) fun f => L f fr h) E) iY := by
 rw [iH]
 dsimp only
 cases g d fr h with
 | ok u fr h =>
   rw [fX]
   dsimp only
   cases b fr h with
   | ok f fr h =>
     rw [fX]
     cases f with
     | nx => rw [oY]
     | ct => rw [oZ]
     | brk => rw [m9]; exact fX
     | rt d => rw [uh]; exact fX
   | exc x fr h => unfold Wp; rfl
   | err => unfold Wp; rfl
 | exc x fr h => unfold Wp iY; rfl
 | err => unfold Wp; rfl
theorem adX {α : Type} {F : α → D} {xs : List α} (I : List α → Fr → Hh → Prop) {fr : Fr} {h : Hh} (i0 : I [] fr h)
 (st : ∀ pre a suf fr h, xs = pre ++ a :: suf → I pre fr h → Wp (g (F a) fr h) (fun _ fr h => Wp (b fr h) (fun f fr h => Nv f (I (pre ++ [a]) fr h) fun f => L f fr h) E) iY)
 (en : ∀ fr h, I xs fr h → L .nx fr h) : Wp (iH g b (xs.map F) fr h) L E := by
 have main : ∀ (suf pre : List α) (fr : Fr) (h : Hh), xs = pre ++ suf → I pre fr h → Wp (iH g b (suf.map F) fr h) L E := by
  intro suf
  induction suf with
  | nil =>
    intro pre fr h e i
    rw [ag7, oH]
    rw [ag5] at e
    subst e
    exact en fr h i
  | cons a suf ih =>
    intro pre fr h e i
    rw [ag0, oJ]
    refine (st pre a suf fr h e i).mono fun _ fr1 h1 w => w.mono fun f fr2 h2 z => ?_
    have e' : xs = (pre ++ [a]) ++ suf := by rw [e, List.append_assoc]; rfl
    cases f with
    | nx => rw [oY] at z ⊢; exact ih _ _ _ e' z
    | ct => rw [oZ] at z ⊢; exact ih _ _ _ e' z
    | brk => rw [m9] at z ⊢; exact z
    | rt d => rw [uh] at z ⊢; exact z
 exact main xs [] fr h rfl i0
theorem acz {lo : Int} {n : Nat} (I : Int → Fr → Hh → Prop) {fr : Fr} {h : Hh} (i0 : I lo fr h)
 (st : ∀ j fr h, lo ≤ j → j < lo + n → I j fr h → Wp (g (.int j) fr h) (fun _ fr h => Wp (b fr h) (fun f fr h => Nv f (I (j + 1) fr h) fun f => L f fr h) E) iY)
 (en : ∀ fr h, I (lo + n) fr h → L .nx fr h) : Wp (iH g b (jw lo n) fr h) L E := by
 have e : jw lo n = ((ahs n).map fun (k : Nat) => lo + (k : Int)).map D.int := by unfold jw; rw [List.map_map]; rfl
 rw [e]
 refine adX (fun pre fr h => I (lo + pre.length) fr h) (by simpa using i0) (fun pre a suf fr h ex i => ?_) (fun fr h i => en fr h ?_)
 · have hl : pre.length < n := by
    have := congrArg List.length ex
    simp only [agZ, ahv, ag4, ag3] at this
    omega
   have ha : a = lo + pre.length := by
    have := congrArg (fun l => l[pre.length]?) ex
    simp only [ahx, List.getElem?_range hl, Option.map_some, ahu (Nat.le_refl _), Nat.sub_self, ahi, Option.some.injEq] at this
    exact this.symm
   subst ha
   have z := st (lo + pre.length) fr h (by omega) (by omega) i
   rw [ag4, ahc, Int.natCast_add, ← Int.add_assoc]
   exact z
 · simpa using i
end
section
variable {vs : List Nat} {g : D → M Unit} {t : M Bool} {e : M D}
theorem qJ {d : D} {Q : Option D → Fr → Hh → Prop} {E : aP → Fr → Hh → Prop} {fr : Fr} {h : Hh} : Wp (dJ vs g t e d fr h) Q E = Wp (g d fr h) (fun _ fr h => Wp (t fr h) (fun b fr h => Cd b (Wp (e fr h) (fun y fr h => Bx (cX fr vs) fun fr => Q (some y) fr h) iY) (Bx (cX fr vs) fun fr => Q none fr h)) iY) iY := by
 unfold dJ Bx
 cases g d fr h with
 | ok u fr h =>
   rw [fX]
   dsimp only
   cases t fr h with
   | ok b fr h =>
     rw [fX]
     cases b with
     | true =>
       rw [CW]
       dsimp only
       cases e fr h with
       | ok y fr h => rw [fX]; exact fX (E := iY)
       | exc x fr h => unfold Wp iY; rfl
       | err => unfold Wp; rfl
     | false => rw [CZ]; exact fX
   | exc x fr h => unfold Wp iY; rfl
   | err => unfold Wp; rfl
 | exc x fr h => unfold Wp iY; rfl
 | err => unfold Wp; rfl
theorem Xe {fr : Fr} {h : Hh} : jx vs g t e [] fr h = .ok [] fr h := by unfold jx; rfl
theorem Lr {α : Type} {F G : α → D} {p : α → Bool} {fr : Fr} {h : Hh} : ∀ {xs : List α}, (∀ a ∈ xs, Wp (dJ vs g t e (F a) fr h) (fun o fr1 h1 => (o = if p a then some (G a) else none) ∧ fr1 = fr ∧ h1 = h) iY) → jx vs g t e (xs.map F) fr h = .ok ((xs.filter p).map G) fr h
 | [], _ => Xe
 | a :: xs, hh => by
   rw [ag0]
   unfold jx
   rw [M.bind_ok ((hh a ag9).eq), M.bind_ok (Lr fun x hx => hh x (ahn _ hx)), List.filter_cons]
   cases p a <;> rfl
theorem Xf {α : Type} {F G : α → D} {fr : Fr} {h : Hh} {xs : List α} (hh : ∀ a ∈ xs, Wp (dJ vs g t e (F a) fr h) (fun o fr1 h1 => o = some (G a) ∧ fr1 = fr ∧ h1 = h) iY) : jx vs g t e (xs.map F) fr h = .ok (xs.map G) fr h := by
 have := Lr (p := fun _ => true) (F := F) (G := G) (xs := xs) (vs := vs) (g := g) (t := t) (e := e) (fr := fr) (h := h) (fun a ha => (hh a ha).mono fun o fr1 h1 z => by simpa using z)
 rw [this, List.filter_eq_self.mpr (fun _ _ => rfl)]
theorem V4 {α : Type} {F : α → D} {fr : Fr} {h : Hh} {xs : List α} (hh : ∀ a ∈ xs, Wp (dJ vs g t e (F a) fr h) (fun o fr1 h1 => o = none ∧ fr1 = fr ∧ h1 = h) iY) : jx vs g t e (xs.map F) fr h = .ok [] fr h := by
 have := Lr (p := fun _ => false) (F := F) (G := F) (xs := xs) (vs := vs) (g := g) (t := t) (e := e) (fr := fr) (h := h) (fun a ha => (hh a ha).mono fun o fr1 h1 z => by simpa using z)
 rw [this, List.filter_eq_nil_iff.mpr (fun _ _ => by simp)]; rfl
end
end Pk
namespace Pk
open PySem PySem.Spec L2
structure Em (α : Type) [DecidableEq α] where
 f : α → PyData
 n : Nat
 ok : α → Prop
 lay : ∀ a, ok a → (f a).canLay0 = true
 dep : ∀ a, (f a).depth ≤ n
 eq : ∀ a b, PyData.eqv (f a) (f b) = decide (a = b)
theorem acA (a b : Int) : (a == b) = decide (a = b) := by
 by_cases e : a = b
 · subst e; simp
 · simp [e]
def Em.int : Em Int where
 f := .int
 n := 0
 ok := fun _ => True
 lay := fun _ _ => rfl
 dep := fun _ => Nat.le_refl 0
 eq := fun a b => by
  show (a == b) = _
  exact acA a b
def afe (s : Str) : Bool := (PyData.str s).canLay0
def Em.str : Em Str where
 f := .str
 n := 0
 ok := fun s => afe s = true
 lay := fun _ h => h
 dep := fun _ => Nat.le_refl 0
 eq := fun a b => by
  show (a == b) = _
  by_cases e : a = b
  · subst e; simp
  · simp [e]
section
variable {α β : Type} [DecidableEq α] [DecidableEq β]
theorem Em.all_lay (A : Em α) : ∀ {l : List α}, (∀ a ∈ l, A.ok a) → PyData.canLayAll0 (l.map A.f) = true
 | [], _ => rfl
 | a :: l, h => by
   rw [ag0, PyData.canLayAll0, A.lay a (h a ag9), A.all_lay fun x hx => h x (ahn _ hx)]
   rfl
theorem Em.all_dep (A : Em α) : ∀ l : List α, PyData.depthAll (l.map A.f) ≤ A.n
 | [] => Nat.zero_le _
 | a :: l => by
   rw [ag0, PyData.depthAll]
   exact Nat.max_le.mpr ⟨A.dep a, A.all_dep l⟩
theorem Em.all_eq (A : Em α) : ∀ l m : List α, PyData.eqvAll (l.map A.f) (m.map A.f) = decide (l = m)
 | [], [] => rfl
 | [], b :: m => by simp [PyData.eqvAll]
 | a :: l, [] => by simp [PyData.eqvAll]
 | a :: l, b :: m => by
   rw [ag0, ag0, PyData.eqvAll, A.eq, A.all_eq l m]
   by_cases e : a = b <;> by_cases e2 : l = m <;> simp [e, e2]
def Em.list (A : Em α) : Em (List α) where
 f := fun l => .list (l.map A.f)
 n := A.n + 1
 ok := fun l => ∀ a ∈ l, A.ok a
 lay := fun l h => by rw [PyData.canLay0]; exact A.all_lay h
 dep := fun l => by rw [PyData.depth]; exact Nat.succ_le_succ (A.all_dep l)
 eq := fun l m => by rw [PyData.eqv]; exact A.all_eq l m
def Em.tup (A : Em α) : Em (List α) where
 f := fun l => .tuple (l.map A.f)
 n := A.n + 1
 ok := fun l => ∀ a ∈ l, A.ok a
 lay := fun l h => by rw [PyData.canLay0]; exact A.all_lay h
 dep := fun l => by rw [PyData.depth]; exact Nat.succ_le_succ (A.all_dep l)
 eq := fun l m => by rw [PyData.eqv]; exact A.all_eq l m
def Em.pair (A : Em α) (B : Em β) : Em (α × β) where
 f := fun p => .tuple [A.f p.1, B.f p.2]
 n := max A.n B.n + 1
 ok := fun p => A.ok p.1 ∧ B.ok p.2
 lay := fun p h => by
  rw [PyData.canLay0, PyData.canLayAll0, PyData.canLayAll0, PyData.canLayAll0, A.lay _ h.1, B.lay _ h.2]; rfl
 dep := fun p => by
  rw [PyData.depth, PyData.depthAll, PyData.depthAll, PyData.depthAll]
  have := A.dep p.1
  have := B.dep p.2
  omega
 eq := fun p q => by
  rw [PyData.eqv, PyData.eqvAll, PyData.eqvAll, PyData.eqvAll, A.eq, B.eq]
  obtain ⟨a, b⟩ := p
  obtain ⟨c, d⟩ := q
  by_cases e : a = c <;> by_cases e2 : b = d <;> simp [e, e2]
def Em.opt (A : Em α) (hn : ∀ a, PyData.eqv .none (A.f a) = false ∧ PyData.eqv (A.f a) .none = false) : Em (Option α) where
 f := fun o => match o with
   | some a => A.f a
   | none => .none
 n := A.n
 ok := fun o => ∀ a, o = some a → A.ok a
 lay := fun o h => by
  cases o with
  | none => rfl
  | some a => exact A.lay a (h a rfl)
 dep := fun o => by
  cases o with
  | none => exact Nat.zero_le _
  | some a => exact A.dep a
 eq := fun o p => by
  cases o with
  | none => cases p with
    | none => rfl
    | some b => simp only [(hn b).1]; simp
  | some a => cases p with
    | none => simp only [(hn a).2]; simp
    | some b => simp only [A.eq]; simp
theorem Em.shaped (A : Em α) {a : α} (h : A.ok a) (hn : A.n ≤ 64) : SeqAt.shaped (A.f a) = true := by
 unfold SeqAt.shaped
 rw [A.lay a h, decide_eq_true (Nat.le_trans (A.dep a) hn)]
 rfl
theorem adY (A : Em α) {h : Hh} {d e : D} {a b : α} (hd : d.toP = some (A.f a)) (he : e.toP = some (A.f b)) (oa : A.ok a) (ob : A.ok b) (hn : A.n ≤ 64) : u5 h d e = some (decide (a = b)) := by
 unfold u5
 rw [hd, he]
 dsimp only
 rw [A.shaped oa hn, A.shaped ob hn, ← A.eq]
 rfl
theorem Sw (A : Em α) {g : α → D} (hg : ∀ a, (g a).toP = some (A.f a)) : ∀ l : List α, D.toPs (l.map g) = some (l.map A.f)
 | [] => by rw [ag7, D.toPs]; rfl
 | a :: l => by
   rw [ag0, D.toPs, hg a, Sw A hg l]
   rfl
theorem adZ (A : Em α) {g : α → D} (hg : ∀ a, (g a).toP = some (A.f a)) (l : List α) : (D.fl (l.map g)).toP = some (A.list.f l) := by
 rw [D.toP, Sw A hg]; rfl
theorem ad0 (A : Em α) {g : α → D} (hg : ∀ a, (g a).toP = some (A.f a)) (l : List α) : (D.nl (l.map g)).toP = some (A.list.f l) := by
 rw [D.toP, Sw A hg]; rfl
theorem Xg (i : Int) : (D.int i).toP = some (Em.int.f i) := by unfold D.toP; rfl
end
section
variable {h : Hh} {l m : List Int} {v : Int}
theorem acB : u5 h (.fl (l.map .int)) (.nl (m.map .int)) = some (decide (l = m)) := adY Em.int.list (adZ Em.int Xg l) (ad0 Em.int Xg m) (fun _ _ => trivial) (fun _ _ => trivial) (by decide)
theorem ZL : u5 h (.fl []) (.nl []) = some true := (acB (l := []) (m := [])).trans rfl
end
theorem kh {i : Nat} : iW i [] = [] := by unfold iW; rfl
theorem gR {i : Nat} {d : D} {l : List D} : iW i (d :: l) = .tup [.int (i : Int), d] :: iW (i + 1) l := by rw [iW]
theorem wk {l : List D} : (D.fl l).lst = some l := by unfold D.lst; rfl
theorem wu {l : List D} : (D.kl l).lst = some l := by unfold D.lst; rfl
theorem qK {l : List D} : (D.tup l).lst = some l := by unfold D.lst; rfl
def psI (d : D) : Option Int := match d with
 | .int i => some i
 | _ => none
theorem qL {i : Int} : psI (.int i) = some i := by unfold psI; rfl
theorem wy {m : M D} {I : Option Int → Fr → Hh → Prop} {E : aP → Fr → Hh → Prop} {fr : Fr} {h : Hh} : Wp (UJ m fr h) I E = Wp (m fr h) (fun d fr h => Op (psI d) fun i => I (some i) fr h) E := by
 rw [aeB]
 congr 1
theorem aa4 {α : Type} {l : List α} {k : Nat} : l.take (min k l.length) = l.take k := by
 by_cases hk : k ≤ l.length
 · rw [Nat.min_eq_left hk]
 · rw [Nat.min_eq_right (by omega), List.take_length, List.take_of_length_le (by omega)]
theorem uI {α : Type} {l : List α} {k : Int} (h0 : 0 ≤ k) : cutD l none (some k) = l.take k.toNat := by
 unfold cutD HT.sIx
 dsimp only
 rw [if_neg (by omega), ahe, Nat.sub_zero, aa4]
theorem wz {α : Type} {l : List α} {k : Int} (h0 : 0 ≤ k) : cutD l (some k) none = l.drop k.toNat := by
 unfold cutD HT.sIx
 dsimp only
 rw [if_neg (by omega)]
 by_cases hk : k.toNat ≤ l.length
 · rw [Nat.min_eq_left hk, List.take_of_length_le (by rw [List.length_drop]; omega)]
 · rw [Nat.min_eq_right (by omega), List.drop_of_length_le (Nat.le_refl _), List.drop_of_length_le (by omega), List.take_nil]
theorem wA {α : Type} {l : List α} : cutD l none (some (-1)) = l.dropLast := by
 unfold cutD HT.sIx
 dsimp only
 rw [if_pos (by decide), ahe, Nat.sub_zero, List.dropLast_eq_take]
 congr 1
 omega
theorem km {h : Hh} {l : List D} {p : Option Int × Option Int} : yc h (.tup l) p = some (.tup (cutD l p.1 p.2)) := by unfold yc; rfl
theorem qM {h : Hh} {l : List D} {p : Option Int × Option Int} : yc h (.fl l) p = some (.nl (cutD l p.1 p.2)) := by unfold yc; rfl
theorem qN {h : Hh} {l : List D} {p : Option Int × Option Int} : yc h (.nl l) p = some (.nl (cutD l p.1 p.2)) := by unfold yc; rfl
theorem qO {h : Hh} {l : List D} {p : Option Int × Option Int} : yc h (.kl l) p = some (.nl (cutD l p.1 p.2)) := by unfold yc; rfl
theorem qP {vs : List Nat} {g : D → M Unit} {t : M Bool} {e : M D} {Q : List D → Fr → Hh → Prop} {E : aP → Fr → Hh → Prop} {fr : Fr} {h : Hh} : Wp (jx vs g t e [] fr h) Q E = Q [] fr h := by rw [Xe, fX]
theorem qQ {vs : List Nat} {g : D → M Unit} {t : M Bool} {e : M D} {Q : List D → Fr → Hh → Prop} {E : aP → Fr → Hh → Prop} {fr : Fr} {h : Hh} {d : D} {ds : List D} : Wp (jx vs g t e (d :: ds) fr h) Q E = Wp (dJ vs g t e d fr h) (fun o fr h => Wp (jx vs g t e ds fr h) (fun r fr h => Q (uB o r) fr h) E) E := by
 rw [jx, wp_bind]
 have : (fun (a : Option D) (fr : Fr) (h : Hh) => Wp ((jx vs g t e ds).bind (fun r => M.ret (uB a r)) fr h) Q E) = fun o fr h => Wp (jx vs g t e ds fr h) (fun r fr h => Q (uB o r) fr h) E := by
  funext a fr h
  rw [wp_bind]
  have : (fun (r : List D) (fr : Fr) (h : Hh) => Wp (M.ret (uB a r) fr h) Q E) = fun r fr h => Q (uB a r) fr h := by
   funext r fr h
   exact nJ
  rw [this]
 rw [this]
theorem gU {α : Type} {y : α} {r : List α} : uB (some y) r = y :: r := by unfold uB; rfl
theorem gY {α : Type} {r : List α} : uB none r = r := by unfold uB; rfl
theorem Rb {i : Int} (h1 : -100000 ≤ i) (h2 : i ≤ 100000) : ue i = true := by
 unfold ue
 rw [decide_eq_true (show -(2 ^ 62) ≤ i by omega), decide_eq_true (show i < 2 ^ 62 by omega)]
 rfl
theorem acC {n : Nat} {N : Int} {b : M Fl} {ns : List Int} (hn : 2 ≤ n) (h1 : 1 ≤ N) (hN : N ≤ 63)
 (hb : ∀ (k : Nat) (xs : Fr) (h : Hh), (k : Int) < N → xs.length = n - 2 → Wp (b (some (.kl (ns.map .int)) :: some (.int k) :: xs) h) (fun f fr _ => (f = .nx ∨ f = .ct) ∧ ∃ x1 ys, fr = some (.kl (ns.map .int)) :: x1 :: ys ∧ ys.length = n - 2) iY) :
 ∃ fr h, du n (aD (jC (z7 (aG Oe (mC (.int 1)) (aG Og (mC (.int N)) (aC cV (az 0))))) (aQ 1) b) (aU (mC (.bl true)))) [.kl (ns.map .int)] [] = .ok (.bl true) fr h := by
 have w : Wp (du n (aD (jC (z7 (aG Oe (mC (.int 1)) (aG Og (mC (.int N)) (aC cV (az 0))))) (aQ 1) b) (aU (mC (.bl true)))) [.kl (ns.map .int)] []) (fun d _ _ => d = .bl true) iY := by
  have es : startF n [.kl (ns.map .int)] = some (.kl (ns.map .int)) :: none :: List.replicate (n - 2) none := by
   unfold startF
   obtain ⟨m, rfl⟩ : ∃ m, n = m + 2 := ⟨n - 2, by omega⟩
   simp [ahk]
  simp only [oE, es, mZ, ↓uF, ↓ou, ↓oh, ↓yP, ↓Ci, ↓yQ, ↓uE, ahi, nZ, oG, iG, uH, yR, true_and, Hn, agZ]
  generalize hz : (if (if (ns.length : Int) < N then (ns.length : Int) else N) > 1 then (if (ns.length : Int) < N then (ns.length : Int) else N) else 1) = z
  have z1 : 1 ≤ z := by rw [← hz]; split <;> omega
  have z2 : z ≤ N := by rw [← hz]; split <;> split at * <;> omega
  rw [Rb (by omega) (by omega)]
  simp only [↓reduceIte, iG]
  refine acz (fun _ fr _ => ∃ x1 ys, fr = some (.kl (ns.map .int)) :: x1 :: ys ∧ ys.length = n - 2) ⟨none, _, rfl, by simp⟩ ?_ ?_
  · rintro j fr h j0 j1 ⟨x1, ys, rfl, hy⟩
    simp only [↓oA, ahl, ahm, mZ]
    have ej : ((j.toNat : Nat) : Int) = j := by omega
    have := hb j.toNat ys h (by omega) hy
    rw [ej] at this
    refine this.mono ?_
    rintro f fr h ⟨rfl | rfl, q⟩
    · rw [oY]; exact q
    · rw [oZ]; exact q
  · rintro fr h ⟨x1, ys, rfl, hy⟩
    simp only [uC, ↓uG, ↓Ci, uD]
 obtain ⟨d, fr, h, e, rfl⟩ := w.ex
 exact ⟨fr, h, e⟩
end Pk
namespace Pk
open PySem PySem.Spec L2
section
variable {Q : D → Fr → Hh → Prop} {E : aP → Fr → Hh → Prop} {fr : Fr} {h : Hh} {ma mb : M D} {mk : M (List D)} {F : Fn} {m : Nat} {mt : Nat → Option Fn}
theorem aa5 : Wq (XJ m F ma mk fr h) Q E = Wq (ma fr h) (fun d fr h => Wq (mk fr h) (fun es fr h => Oq (d.its []) fun ds => ds.length ≤ big ∧ es.length = m ∧ Wq (F (QZ ds es) h) (fun d _ h => Q d fr h) (fun x _ h => E x fr h)) E) E := by
 unfold XJ
 rw [aj]
 congr 1
 funext d fr h
 rw [aj]
 congr 1
 funext es fr h
 cases d.its [] with
 | none => exact (aF (Q := Q) (E := E)).trans (bu (α := List D)).symm
 | some ds =>
   rw [bj]
   dsimp only
   split
   · rename_i hb; rw [yO]; simp only [hb.1, hb.2, true_and]
   · rename_i hb
     rw [aF, eq_iff_iff]
     exact ⟨False.elim, fun z => hb ⟨z.1, z.2.1⟩⟩
theorem qR : Wp (XJ m F ma mk fr h) Q E = Wp (ma fr h) (fun d fr h => Wp (mk fr h) (fun es fr h => Op (d.its []) fun ds => ds.length ≤ big ∧ es.length = m ∧ Wp (F (QZ ds es) h) (fun d _ h => Q d fr h) (fun x _ h => E x fr h)) E) E := aa5
theorem kE {ds es : List D} : QZ ds es = es ++ [.tup ds] := by unfold QZ; rfl
theorem acD : Wq (aad mt ma mb fr h) Q E = Wq (ma fr h) (fun x fr h => Wq (mb fr h) (fun y fr h => Oq (Ow mt h x y) fun F => Wq (F [x, y] h) (fun d _ h => Q d fr h) (fun x _ h => E x fr h)) E) E := by
 unfold aad
 rw [aj]
 congr 1
 funext x fr h
 rw [aj]
 congr 1
 funext y fr h
 cases Ow mt h x y with
 | none => exact (aF (Q := Q) (E := E)).trans (bu (α := Fn)).symm
 | some F => rw [bj]; exact yO
theorem wB : Wp (aad mt ma mb fr h) Q E = Wp (ma fr h) (fun x fr h => Wp (mb fr h) (fun y fr h => Op (Ow mt h x y) fun F => Wp (F [x, y] h) (fun d _ h => Q d fr h) (fun x _ h => E x fr h)) E) E := acD
theorem qT {c : Nat} {fs gs : List D} : Ow mt h (.obj c fs) (.obj c gs) = mt c := by
 unfold Ow HX D.ins D.der
 dsimp only
 rw [if_pos rfl]
end
section
variable {h : Hh} {l m : List Str} {w : Str}
end
section
variable {vs : List Nat} {g : D → M Unit} {t : M Bool} {e : M D}
end
end Pk
namespace Pk
open PySem PySem.Spec L2
def endF (i : Nat) (f : Fl) (fr : Fr) : Fr := match f with
 | .rt _ => fr
 | _ => fr.set i none
section
variable {Q : Fl → Fr → Hh → Prop} {S : D → Fr → Hh → Prop} {E : aP → Fr → Hh → Prop} {fr : Fr} {h : Hh} {i : Nat} {cond : Nat → Option Bool} {mb : M Fl} {ms : aP → M Fl} {ma mc : M D} {mt : Nat → Option Fn}
theorem qU : endF i .nx fr = fr.set i none := rfl
theorem kJ : endF i .brk fr = fr.set i none := rfl
theorem qW : endF i .ct fr = fr.set i none := rfl
theorem qX {d : D} : endF i (.rt d) fr = fr := rfl
theorem Xh {r : R Fl} : Wq (aaj i r) Q E = Wq r (fun f fr h => Q f (endF i f fr) h) E := by
 cases r with
 | ok f fr h => cases f <;> rfl
 | exc x fr h => rfl
 | err => rfl
theorem qY : Wp (XQ i cond mb ms fr h) Q E = Wp (mb fr h) Q (fun x fr1 h1 => Op (cond x.c) fun b => Cd b (i < fr1.length ∧ Bx (fr1.set i none) fun fr2 => Wp (ms x fr2 h1) (fun f fr3 h3 => Q f (endF i f fr3) h3) E) (E x fr1 h1)) := by
 show Wq (XQ i cond mb ms fr h) Q E = Wq (mb fr h) Q (fun x fr1 h1 => Oq (cond x.c) fun b => Dt b (i < fr1.length ∧ Bq (fr1.set i none) fun fr2 => Wq (ms x fr2 h1) (fun f fr3 h3 => Q f (endF i f fr3) h3) E) (E x fr1 h1))
 unfold XQ
 cases e : mb fr h with
 | err => rfl
 | ok f fr1 h1 => cases f <;> rfl
 | exc x fr1 h1 =>
   rw [Fj]
   dsimp only
   cases cond x.c with
   | none => rw [bu]; exact aF
   | some b =>
     rw [bj]
     cases b with
     | false => rw [Ib]; exact Fj
     | true =>
       rw [HY]
       dsimp only
       by_cases hl : i < fr1.length
       · rw [if_pos hl, Xh]
         unfold Bq
         simp only [hl, true_and]
       · rw [if_neg hl, aF]
         simp only [hl, false_and]
theorem qZ : Wp (XR cond mb ms fr h) Q E = Wp (mb fr h) Q (fun x fr1 h1 => Op (cond x.c) fun b => Cd b (Wp (ms x fr1 h1) Q E) (E x fr1 h1)) := by
 show Wq (XR cond mb ms fr h) Q E = Wq (mb fr h) Q (fun x fr1 h1 => Oq (cond x.c) fun b => Dt b (Wq (ms x fr1 h1) Q E) (E x fr1 h1))
 unfold XR
 cases e : mb fr h with
 | err => rfl
 | ok f fr1 h1 => cases f <;> rfl
 | exc x fr1 h1 =>
   rw [Fj]
   dsimp only
   cases cond x.c with
   | none => rw [bu]; exact aF
   | some b =>
     rw [bj]
     cases b with
     | false => rw [Ib]; exact Fj
     | true => rw [HY]
theorem kW {c n : Nat} {chk : List D → Bool} {mas : M (List D)} : Wp (Vh c n chk mas fr h) Q E = Wp (mas fr h) (fun ds fr h => ds.length = n ∧ chk ds = true ∧ E ⟨c, ds⟩ fr h) E := by
 show Wq (Vh c n chk mas fr h) Q E = Wq (mas fr h) (fun ds fr h => ds.length = n ∧ chk ds = true ∧ E ⟨c, ds⟩ fr h) E
 unfold Vh
 rw [aj]
 congr 1
 funext ds fr h
 by_cases hl : ds.length = n ∧ chk ds = true
 · rw [if_pos hl, Fj]
   simp only [hl.1, hl.2, true_and]
 · rw [if_neg hl, aF]
   refine propext ⟨False.elim, fun z => hl ⟨z.1, z.2.1⟩⟩
theorem wC {tab : Tg → Tg → Option Bool} {c : Nat} : Wp (aai tab c mc fr h) S E = Wp (mc fr h) (fun d fr h => Op (aah tab c d) fun b => S (.bl b) fr h) E := by
 show Wq (aai tab c mc fr h) S E = Wq (mc fr h) (fun d fr h => Oq (aah tab c d) fun b => S (.bl b) fr h) E
 unfold aai
 rw [aj]
 congr 1
 funext d fr h
 rw [bf, O6]
theorem Aj {ix : Nat → Option Nat} {x : aP} : Wp (mXF ix x fr h) S E = Op (ix x.c) fun j => Op (x.fs[j]?) fun d => S d fr h := by
 show Wq (mXF ix x fr h) S E = Oq (ix x.c) fun j => Oq (x.fs[j]?) fun d => S d fr h
 unfold mXF
 cases ix x.c with
 | none => exact aF.trans bu.symm
 | some j =>
   rw [bj]
   show Wq (mXf j x fr h) S E = _
   unfold mXf
   cases x.fs[j]? with
   | none => exact aF.trans bu.symm
   | some d => rw [bj]; exact iI
theorem rA : Wp (XS mt ma mc fr h) S E = Wp (ma fr h) (fun x fr h => Wp (mc fr h) (fun y fr h => Op (fnOf mt h x) fun F => Op (y.bty h) fun _ => Wp (F [x, y] h) (fun d _ h => S d fr h) (fun x _ h => E x fr h)) E) E := by
 show Wq (XS mt ma mc fr h) S E = Wq (ma fr h) (fun x fr h => Wq (mc fr h) (fun y fr h => Oq (fnOf mt h x) fun F => Oq (y.bty h) fun _ => Wq (F [x, y] h) (fun d _ h => S d fr h) (fun x _ h => E x fr h)) E) E
 unfold XS
 simp only [aj]
 congr 1
 funext x fr h
 congr 1
 funext y fr h
 cases fnOf mt h x with
 | none => exact aF.trans bu.symm
 | some F =>
   rw [bj]
   cases y.bty h with
   | none => exact aF.trans bu.symm
   | some t => rw [bj]; exact yO
theorem rB : Wp (XX mt ma mc fr h) S E = Wp (ma fr h) (fun x fr h => Wp (mc fr h) (fun y fr h => Op (fnOf mt h y) fun F => x.smp = true ∧ Wp (F [y, x] h) (fun d _ h => S d fr h) (fun x _ h => E x fr h)) E) E := by
 show Wq (XX mt ma mc fr h) S E = Wq (ma fr h) (fun x fr h => Wq (mc fr h) (fun y fr h => Oq (fnOf mt h y) fun F => x.smp = true ∧ Wq (F [y, x] h) (fun d _ h => S d fr h) (fun x _ h => E x fr h)) E) E
 unfold XX
 simp only [aj]
 congr 1
 funext x fr h
 congr 1
 funext y fr h
 cases fnOf mt h y with
 | none => exact aF.trans bu.symm
 | some F =>
   rw [bj]
   cases x.smp with
   | false =>
     refine aF.trans ?_
     simp
   | true =>
     simp only [true_and]
     exact yO
end
section
variable {h : Hh} {i : Int} {b : Bool} {z : Str} {l : List D}
theorem rC : D.smp .non = true := rfl
theorem wD : D.smp (.bl b) = true := rfl
theorem rE : D.smp (.int i) = true := rfl
theorem rF : D.bty h .non = some "NoneType" := rfl
theorem wF : D.bty h (.bl b) = some "bool" := rfl
theorem rG : D.bty h (.int i) = some "int" := rfl
theorem rH : D.bty h (.str z) = some "str" := rfl
theorem rJ : D.bty h (.tup l) = some "tuple" := rfl
theorem wG : D.bty h (.fl l) = some "list" := rfl
theorem wH : D.bty h (.kl l) = some "list" := rfl
end
end Pk
namespace Pk
open PySem PySem.Spec L2
def Ny (d : D) (K : Int → Prop) : Prop := match d with
 | .int i => 0 ≤ i ∧ i < 2 ^ 60 ∧ K i
 | _ => False
section
variable {Q : Bool → Fr → Hh → Prop} {S : D → Fr → Hh → Prop} {E : aP → Fr → Hh → Prop} {fr : Fr} {h : Hh} {ma mb : M D} {mt : Nat → Option Fn}
theorem kY {i : Int} {K : Int → Prop} : Ny (.int i) K = (0 ≤ i ∧ i < 2 ^ 60 ∧ K i) := by unfold Ny; rfl
theorem Il {o : D} {as : List D} : Wq (Nk mt o as fr h) S E = Oq (fnOf mt h o) fun F => Wq (F (o :: as) h) (fun d _ h => S d fr h) iY := by
 unfold Nk
 cases fnOf mt h o with
 | none => exact aF.trans bu.symm
 | some F =>
   rw [bj]
   dsimp only
   cases F (o :: as) h <;> (unfold Wq; rfl)
theorem V5 {o : D} {as : List D} : Wq (Ud mt o as fr h) S E = Oq (fnOf mt h o) fun F => Wq (F (o :: as) h) (fun d _ h => S d fr h) (fun x _ h => E x fr h) := by
 unfold Ud
 cases fnOf mt h o with
 | none => exact aF.trans bu.symm
 | some F =>
   rw [bj]
   dsimp only
   exact yO
theorem rK : Wp (X5 mt ma fr h) S E = Wp (ma fr h) (fun o fr h => Op (fnOf mt h o) fun F => Wp (F [o] h) (fun d _ h => Ny d fun i => S (.int i) fr h) iY) E := by
 show Wq (X5 mt ma fr h) S E = Wq (ma fr h) (fun o fr h => Oq (fnOf mt h o) fun F => Wq (F [o] h) (fun d _ h => Ny d fun i => S (.int i) fr h) iY) E
 unfold X5
 rw [aj]
 congr 1
 funext o fr h
 rw [aj, Il]
 congr 1
 funext F
 congr 1
 funext d fr1 h1
 unfold X4 Ny
 cases d with
 | int i =>
   dsimp only
   by_cases hi : 0 ≤ i ∧ i < 2 ^ 60
   · rw [if_pos hi, iI]
     exact propext ⟨fun z => ⟨hi.1, hi.2, z⟩, fun z => z.2.2⟩
   · rw [if_neg hi, aF]
     exact propext ⟨False.elim, fun z => hi ⟨z.1, z.2.1⟩⟩
 | _ => exact aF
theorem rN : Wp (X6 mt ma mb fr h) S E = Wp (ma fr h) (fun o fr h => Wp (mb fr h) (fun i fr h => Op (fnOf mt h o) fun F => Wp (F [o, i] h) (fun d _ h => S d fr h) (fun x _ h => E x fr h)) E) E := by
 show Wq (X6 mt ma mb fr h) S E = Wq (ma fr h) (fun o fr h => Wq (mb fr h) (fun i fr h => Oq (fnOf mt h o) fun F => Wq (F [o, i] h) (fun d _ h => S d fr h) (fun x _ h => E x fr h)) E) E
 unfold X6
 rw [aj]
 congr 1
 funext o fr h
 rw [aj]
 congr 1
 funext i fr h
 exact V5
theorem wI {α : Type} {P : α → Fr → Hh → Prop} {g : D → D → M α} : Wp (aak g ma mb fr h) P E = Wp (ma fr h) (fun x fr h => Wp (mb fr h) (fun y fr h => Wp (g x y fr h) P E) E) E := by
 show Wq (aak g ma mb fr h) P E = Wq (ma fr h) (fun x fr h => Wq (mb fr h) (fun y fr h => Wq (g x y fr h) P E) E) E
 unfold aak
 simp only [aj]
theorem V6 {d : D} {c : Bool → Bool} : Wq (((Zq d).bind fun b => M.ret (c b)) fr h) Q E = Oq d.tb fun b => Q (c b) fr h := by
 unfold Zq
 rw [aj, bf]
 rfl
theorem wJ {c : Bool → Bool} {x o : D} : Wp (gIn mt c x o fr h) Q E = Op (fnOf mt h o) fun F => Wp (F [o, x] h) (fun d _ h => Op d.tb fun b => Q (c b) fr h) iY := by
 show Wq (gIn mt c x o fr h) Q E = Oq (fnOf mt h o) fun F => Wq (F [o, x] h) (fun d _ h => Oq d.tb fun b => Q (c b) fr h) iY
 unfold gIn
 rw [aj, Il]
 congr 1
 funext F
 congr 1
 funext d fr1 h1
 exact V6
end
end Pk
namespace Pk
open PySem PySem.Spec L2
section
variable {Q : Bool → Fr → Hh → Prop} {E : aP → Fr → Hh → Prop} {fr : Fr} {h : Hh} {mt : Nat → Option Fn} {n m : Nat} {fs gs : List D}
theorem wL {c : Bool → Bool} {x y : D} : Wp (W3 mt c x y fr h) Q E = (((y.bty h).isSome || (HX h x y).isSome) = true ∧ Op (fnOf mt h x) fun F => Wp (F [x, y] h) (fun d _ h => Op d.tb fun b => Q (c b) fr h) iY) := by
 show Wq (W3 mt c x y fr h) Q E = (((y.bty h).isSome || (HX h x y).isSome) = true ∧ Oq (fnOf mt h x) fun F => Wq (F [x, y] h) (fun d _ h => Oq d.tb fun b => Q (c b) fr h) iY)
 unfold W3
 cases hc : ((y.bty h).isSome || (HX h x y).isSome) with
 | false =>
   rw [if_neg (by simp), aF]
   simp
 | true =>
   rw [if_pos rfl, aj, Il]
   simp only [true_and]
   congr 1
   funext F
   congr 1
   funext d fr1 h1
   exact V6
theorem kZ : HX h (.obj n fs) (.obj n gs) = some n := by
 unfold HX D.ins D.der
 dsimp only
 rw [if_pos rfl]
theorem rO : D.bty h (.obj n fs) = none := rfl
theorem wM : D.bty h (.no n fs) = none := rfl
theorem wN : D.bty h (.nl fs) = some "list" := rfl
end
end Pk
namespace Pk
open PySem PySem.Spec L2
def aa6 (l : List D) (d : D) : Option (D × List D) := match d with
 | .int j => if -(2 ^ 63) ≤ j ∧ j < 2 ^ 63 then (match seqIndex? j l.length with
   | some q => (match l[q]? with
     | some y => some (y, l.eraseIdx q)
     | none => none)
   | none => none) else none
 | _ => none
def V7 (x d : D) (K : D → List D → Prop) : Prop := match x with
 | .nl l => Oq (aa6 l d) fun p => K p.1 p.2
 | _ => False
section
variable {S : D → Fr → Hh → Prop} {E : aP → Fr → Hh → Prop} {fr : Fr} {h : Hh} {ma : M D} {mas : M (List D)} {mt : Nat → Option Fn} {i n c : Nat} {d : D} {l : List D}
theorem rP {K : D → List D → Prop} : V7 (.nl l) d K = Op (aa6 l d) fun p => K p.1 p.2 := by unfold V7; rfl
theorem wO : Wp (Ij i d fr h) S E = Sl fr[i]? fun x => V7 x d fun y l' => Bx (fr.set i (some (.nl l'))) fun fr => S y fr h := by
 show Wq (Ij i d fr h) S E = Sq fr[i]? fun x => V7 x d fun y l' => Bq (fr.set i (some (.nl l'))) fun fr => S y fr h
 unfold Ij
 cases fr[i]? with
 | none => exact aF
 | some o =>
   cases o with
   | none => exact aF.trans Jl.symm
   | some x =>
     rw [yN]
     unfold V7
     cases x with
     | nl l =>
       dsimp only
       unfold aa6
       cases d with
       | int j =>
         dsimp only
         by_cases hj : -(2 ^ 63) ≤ j ∧ j < 2 ^ 63
         · rw [if_pos hj, if_pos hj]
           cases seqIndex? j l.length with
           | none => exact aF.trans bu.symm
           | some q =>
             dsimp only
             cases l[q]? with
             | none => exact aF.trans bu.symm
             | some y => exact iI.trans bj.symm
         · rw [if_neg hj, if_neg hj]
           exact aF.trans bu.symm
       | _ => exact aF.trans bu.symm
     | _ => exact aF
theorem rQ : Wp (X7 i ma fr h) S E = Wp (aR i jr fr h) (fun _ fr h => Wp (ma fr h) (fun d fr h => Wp (Ij i d fr h) S E) E) E := by
 show Wq (X7 i ma fr h) S E = Wq (aR i jr fr h) (fun _ fr h => Wq (ma fr h) (fun d fr h => Wq (Ij i d fr h) S E) E) E
 unfold X7
 simp only [aj]
theorem lg : Wp (Vo mt ma fr h) S E = Wp (ma fr h) (fun o fr h => Op (fnOf mt h o) fun F => Wp (F [o] h) (fun d _ h => Ny d fun i => S (.bl (i != 0)) fr h) iY) E := by
 show Wq (Vo mt ma fr h) S E = Wq (ma fr h) (fun o fr h => Oq (fnOf mt h o) fun F => Wq (F [o] h) (fun d _ h => Ny d fun i => S (.bl (i != 0)) fr h) iY) E
 unfold Vo
 rw [aj]
 congr 1
 funext o fr h
 rw [aj, Il]
 congr 1
 funext F
 congr 1
 funext d fr1 h1
 rw [aj]
 unfold X4 Ny
 cases d with
 | int i =>
   dsimp only
   by_cases hi : 0 ≤ i ∧ i < 2 ^ 60
   · rw [if_pos hi, iI, bf, bj]
     exact propext ⟨fun z => ⟨hi.1, hi.2, z⟩, fun z => z.2.2⟩
   · rw [if_neg hi, aF]
     exact propext ⟨False.elim, fun z => hi ⟨z.1, z.2.1⟩⟩
 | _ => exact aF
theorem Ak {F : Fn} : Wp (mCm n c F mas fr h) S E = Wp (mas fr h) (fun ds fr h => ds.length = n ∧ Wp (F (.cls c :: ds) h) (fun d _ h => S d fr h) (fun x _ h => E x fr h)) E := by
 show Wq (mCm n c F mas fr h) S E = Wq (mas fr h) (fun ds fr h => ds.length = n ∧ Wq (F (.cls c :: ds) h) (fun d _ h => S d fr h) (fun x _ h => E x fr h)) E
 unfold mCm
 rw [aj]
 congr 1
 funext ds fr h
 by_cases hl : ds.length = n
 · rw [if_pos hl, yO]
   simp only [hl, true_and]
 · rw [if_neg hl, aF]
   exact propext ⟨False.elim, fun z => hl z.1⟩
end
end Pk
namespace Pk
open PySem PySem.Spec L2
section
variable {Q : Bool → Fr → Hh → Prop} {E : aP → Fr → Hh → Prop} {fr : Fr} {h : Hh} {mb : M D} {i : Nat}
theorem lu {f : Hh → D → D → Option Bool} : Wp (Vp i f mb fr h) Q E = Sl fr[i]? fun _ => Wp (mb fr h) (fun y fr h => Sl fr[i]? fun d => Op (f h d y) fun z => Q z fr h) E := by
 show Wq (Vp i f mb fr h) Q E = Sq fr[i]? fun _ => Wq (mb fr h) (fun y fr h => Sq fr[i]? fun d => Oq (f h d y) fun z => Q z fr h) E
 unfold Vp
 rw [aj]
 unfold fL
 cases e : fr[i]? with
 | none => exact aF
 | some o =>
   cases o with
   | none => exact aF.trans Jl.symm
   | some x =>
     dsimp only
     rw [iI, yN, aj]
     congr 1
     funext y fr1 h1
     rw [aj]
     unfold az
     cases fr1[i]? with
     | none => exact aF
     | some o1 =>
       cases o1 with
       | none => exact aF.trans Jl.symm
       | some d => dsimp only; rw [iI, yN, bf]
end
end Pk
namespace Pk
open PySem PySem.Spec L2
def Xi {α : Type} (o : Option α) (A B : Prop) : Prop := match o with
 | some _ => A
 | none => B
section
variable {Q : Bool → Fr → Hh → Prop} {E : aP → Fr → Hh → Prop} {fr : Fr} {h : Hh} {mt : Nat → Option Fn} {i : Int} {b c : Bool} {z : Str} {l : List D}
theorem iZ {α : Type} {a : α} {A B : Prop} : Xi (some a) A B = A := by unfold Xi; rfl
theorem jc {α : Type} {A B : Prop} : Xi (none : Option α) A B = B := by unfold Xi; rfl
theorem rR {c : Bool → Bool} {x y : D} : Wp (aam mt c x y fr h) Q E = Xi (fnOf mt h x) (Wp (W3 mt c x y fr h) Q E) ((x.bty h).isSome = true ∧ Op (fnOf mt h y) fun F => Wp (F [y, x] h) (fun d _ h => Op d.tb fun b => Q (c b) fr h) iY) := by
 show Wq (aam mt c x y fr h) Q E = Xi (fnOf mt h x) (Wq (W3 mt c x y fr h) Q E) ((x.bty h).isSome = true ∧ Oq (fnOf mt h y) fun F => Wq (F [y, x] h) (fun d _ h => Oq d.tb fun b => Q (c b) fr h) iY)
 unfold aam
 cases fnOf mt h x with
 | some G => rw [iZ]
 | none =>
   rw [jc]
   dsimp only
   cases hc : (x.bty h).isSome with
   | false =>
     rw [if_neg (by simp), aF]
     simp
   | true =>
     rw [if_pos rfl, aj, Il]
     simp only [true_and]
     congr 1
     funext F
     congr 1
     funext d fr1 h1
     exact V6
theorem lA : fnOf mt h .non = none := rfl
theorem rW : fnOf mt h (.bl b) = none := rfl
theorem lB : fnOf mt h (.int i) = none := rfl
theorem lC : fnOf mt h (.str z) = none := rfl
theorem lD : fnOf mt h (.tup l) = none := rfl
theorem rY : fnOf mt h (.fl l) = none := rfl
theorem rZ : ae1 h (.bl b) (.bl c) = some (decide (b = c)) := rfl
theorem lE : aen h (.bl b) (.bl c) = some (!decide (b = c)) := rfl
end
end Pk
namespace Pk
open PySem PySem.Spec L2
section
variable {Q : Bool → Fr → Hh → Prop} {E : aP → Fr → Hh → Prop} {fr : Fr} {h : Hh} {mt : Nat → Option Fn} {nf : Nat → Nat}
theorem sr {x y : D} : Wp (aao mt nf x y fr h) Q E = Op (X8 mt nf h x y) fun b => Q b fr h := by
 show Wq (aao mt nf x y fr h) Q E = Oq (X8 mt nf h x y) fun b => Q b fr h
 unfold aao
 exact bf
theorem lF {l m : List D} : X8 mt nf h (.tup l) (.tup m) = aan mt nf h l m := rfl
end
end Pk
namespace Pk
open PySem PySem.Spec L2
section
variable {Q : Fl → Fr → Hh → Prop} {E : aP → Fr → Hh → Prop} {fr : Fr} {h : Hh} {i : Nat} {cond : Nat → Option Bool} {mb : M Fl} {ms : aP → M Fl} {x : aP} {cs : List Hd}
theorem lG : Wp (u9 [] x fr h) Q E = E x fr h := by
 show Wq (u9 [] x fr h) Q E = _
 unfold u9
 exact Fj
theorem lH : Wp (u9 ((some i, cond, ms) :: cs) x fr h) Q E = Op (cond x.c) fun b => Cd b (i < fr.length ∧ Bx (fr.set i none) fun fr2 => Wp (ms x fr2 h) (fun f fr3 h3 => Q f (endF i f fr3) h3) E) (Wp (u9 cs x fr h) Q E) := by
 show Wq (u9 ((some i, cond, ms) :: cs) x fr h) Q E = Oq (cond x.c) fun b => Dt b (i < fr.length ∧ Bq (fr.set i none) fun fr2 => Wq (ms x fr2 h) (fun f fr3 h3 => Q f (endF i f fr3) h3) E) (Wq (u9 cs x fr h) Q E)
 rw [u9]
 dsimp only
 cases cond x.c with
 | none => rw [bu]; exact aF
 | some b =>
   rw [bj]
   cases b with
   | false => rw [Ib]
   | true =>
     rw [HY]
     dsimp only
     by_cases hl : i < fr.length
     · rw [if_pos hl, Xh]
       unfold Bq
       simp only [hl, true_and]
     · rw [if_neg hl, aF]
       simp only [hl, false_and]
theorem lJ : Wp (u9 ((none, cond, ms) :: cs) x fr h) Q E = Op (cond x.c) fun b => Cd b (Wp (ms x fr h) Q E) (Wp (u9 cs x fr h) Q E) := by
 show Wq (u9 ((none, cond, ms) :: cs) x fr h) Q E = Oq (cond x.c) fun b => Dt b (Wq (ms x fr h) Q E) (Wq (u9 cs x fr h) Q E)
 rw [u9]
 dsimp only
 cases cond x.c with
 | none => rw [bu]; exact aF
 | some b =>
   rw [bj]
   cases b with
   | false => rw [Ib]
   | true => rw [HY]
theorem su : Wp (Yb cs mb fr h) Q E = Wp (mb fr h) Q (fun x fr1 h1 => Wp (u9 cs x fr1 h1) Q E) := by
 show Wq (Yb cs mb fr h) Q E = Wq (mb fr h) Q (fun x fr1 h1 => Wq (u9 cs x fr1 h1) Q E)
 unfold Yb
 cases e : mb fr h with
 | err => rfl
 | ok f fr1 h1 => cases f <;> rfl
 | exc x fr1 h1 => rfl
end
end Pk
namespace Pk
open PySem PySem.Spec L2
theorem lK {h : Hh} {b : Bool} : aeo h (.bl b) = some (.str (if b then "True" else "False")) := rfl
theorem g8 {h : Hh} {b : Bool} : Zr h (.bl b) = some (.bl b) := rfl
theorem fD {h : Hh} {i : Int} : Zr h (.int i) = some (.bl (i != 0)) := rfl
end Pk
namespace Pk
open PySem PySem.Spec L2
section
variable {Q : Fl → Fr → Hh → Prop} {E : aP → Fr → Hh → Prop} {fr : Fr} {h : Hh} {c : Nat} {ma : M D}
theorem ie : Wp (R7 c ma fr h) Q E = Wp (ma fr h) (fun _ fr h => E ⟨c, []⟩ fr h) E := by
 show Wq (R7 c ma fr h) Q E = Wq (ma fr h) (fun _ fr h => E ⟨c, []⟩ fr h) E
 unfold R7
 rw [aj]
 rfl
end
end Pk
namespace Pk
open PySem PySem.Spec L2
section
variable {G : List D → Fr → Hh → Prop} {E : aP → Fr → Hh → Prop} {fr : Fr} {h : Hh} {ma mb : M D} {a b : D} {l m : List D}
theorem wQ : Wp (aap ma mb fr h) G E = Wp (ma fr h) (fun x fr h => Wp (mb fr h) (fun y fr h => Op (Vs x y) fun l => G l fr h) E) E := by
 show Wq (aap ma mb fr h) G E = Wq (ma fr h) (fun x fr h => Wq (mb fr h) (fun y fr h => Oq (Vs x y) fun l => G l fr h) E) E
 unfold aap
 simp only [aj, bf]
theorem sE {n : Nat} {gs : List D → M Unit} {U : Unit → Fr → Hh → Prop} : Wp (Qx n gs (.tup l) fr h) U E = (l.length = n ∧ Wp (gs l fr h) U E) := by
 show Wq (Qx n gs (.tup l) fr h) U E = (l.length = n ∧ Wq (gs l fr h) U E)
 unfold Qx
 dsimp only
 split
 · rename_i hb; simp only [hb, true_and]
 · rename_i hb; rw [bf, bu]; simp only [hb, false_and]
theorem lL {n : Nat} {gs : List D → M Unit} {U : Unit → Fr → Hh → Prop} : Wp (Qx n gs (.fl l) fr h) U E = (l.length = n ∧ Wp (gs l fr h) U E) := by
 show Wq (Qx n gs (.fl l) fr h) U E = (l.length = n ∧ Wq (gs l fr h) U E)
 unfold Qx
 dsimp only
 split
 · rename_i hb; simp only [hb, true_and]
 · rename_i hb; rw [bf, bu]; simp only [hb, false_and]
theorem sG : Vs (.fl l) (.fl m) = some (Ji l m) := rfl
theorem sH : Vs (.tup l) (.tup m) = some (Ji l m) := rfl
end
end Pk
namespace Pk
open PySem PySem.Spec L2
def agB : List Int → Int
 | a :: r => Xy a r
 | [] => 0
end Pk
namespace Pk
open PySem PySem.Spec L2
section
variable {L : Fl → Fr → Hh → Prop} {E : aP → Fr → Hh → Prop} {g : D → M Unit} {b : M Fl} {n : Nat} {l : List D} {fr : Fr} {h : Hh} {G : Nat × List D × List D → Fr → Hh → Prop} {li : M (Nat × List D × List D)} {ma mb : M D}
theorem lM : Wp (Az li g b fr h) L E = Wp (li fr h) (fun x fr h => Wp (vf x.1 x.2.1 g b x.2.2 fr h) L E) E := by
 show Wq (Az li g b fr h) L E = Wq (li fr h) (fun x fr h => Wq (vf x.1 x.2.1 g b x.2.2 fr h) L E) E
 unfold Az
 simp only [aj]
theorem wR : Wp (Jj ma fr h) G E = Wp (ma fr h) (fun d fr h => Op ((uN h d).map fun x => (x.1, x.2, x.2)) fun x => G x fr h) E := by
 show Wq (Jj ma fr h) G E = Wq (ma fr h) (fun d fr h => Oq ((uN h d).map fun x => (x.1, x.2, x.2)) fun x => G x fr h) E
 unfold Jj
 simp only [aj, bf]
theorem sJ : Wp (Yc ma mb fr h) G E = Wp (ma fr h) (fun d fr h => Wp (mb fr h) (fun e fr h => Op (aaq h d e) fun x => G x fr h) E) E := by
 show Wq (Yc ma mb fr h) G E = Wq (ma fr h) (fun d fr h => Wq (mb fr h) (fun e fr h => Oq (aaq h d e) fun x => G x fr h) E) E
 unfold Yc
 simp only [aj, bf]
end
end Pk
namespace Pk
open PySem PySem.Spec L2
def Tw (d : D) (K : Str → Prop) : Prop := match d with
 | .str y => K y
 | _ => False
def Mq (d : D) (K : Int → Prop) : Prop := match d with
 | .int y => K y
 | _ => False
section
variable {α : Type} {Q : α → Fr → Hh → Prop} {S : D → Fr → Hh → Prop} {L : Fl → Fr → Hh → Prop} {G : Str → Fr → Hh → Prop} {E : aP → Fr → Hh → Prop} {fr : Fr} {h : Hh} {m ma mb : M D} {ml mh : M (Option Int)} {mt : Nat → Option Fn} {i : Nat} {ms : List (M D)} {acc : Str}
theorem sO {y : Str} {K : Str → Prop} : Tw (.str y) K = K y := by unfold Tw; rfl
theorem sS {y : Int} {K : Int → Prop} : Mq (.int y) K = K y := by unfold Mq; rfl
theorem lN : Wp (Vt mt ma ml mh fr h) S E = Wp (ma fr h) (fun o fr h => Wp (ml fr h) (fun l fr h => Wp (mh fr h) (fun u fr h => Op (fnOf mt h o) fun F => Wp (F [o, .sl l u] h) (fun d _ h => S d fr h) (fun x _ h => E x fr h)) E) E) E := by
 show Wq (Vt mt ma ml mh fr h) S E = Wq (ma fr h) (fun o fr h => Wq (ml fr h) (fun l fr h => Wq (mh fr h) (fun u fr h => Oq (fnOf mt h o) fun F => Wq (F [o, .sl l u] h) (fun d _ h => S d fr h) (fun x _ h => E x fr h)) E) E) E
 unfold Vt
 simp only [aj, V5]
theorem lO : Wp (Vu ma fr h) S E = Wp (ma fr h) (fun d fr h => Op (W6 (.int 0) d) fun z => S z fr h) E := by
 show Wq (Vu ma fr h) S E = Wq (ma fr h) (fun d fr h => Oq (W6 (.int 0) d) fun z => S z fr h) E
 unfold Vu
 simp only [aj, bf]
theorem lQ : Wp (Vv ma mb fr h) S E = Wp (ma fr h) (fun d fr h => Wp (mb fr h) (fun e fr h => Op (W6 d e) fun z => S z fr h) E) E := by
 show Wq (Vv ma mb fr h) S E = Wq (ma fr h) (fun d fr h => Wq (mb fr h) (fun e fr h => Oq (W6 d e) fun z => S z fr h) E) E
 unfold Vv
 simp only [aj, bf]
theorem wU {f : Int → Int → Int} : Wp (aar i f m fr h) L E = Sl fr[i]? fun x => Mq x fun a => Wp (m fr h) (fun d fr h => Mq d fun b => Bx (fr.set i (some (.int (f a b)))) fun fr => L .nx fr h) E := by
 show Wq (aar i f m fr h) L E = Sq fr[i]? fun x => Mq x fun a => Wq (m fr h) (fun d fr h => Mq d fun b => Bq (fr.set i (some (.int (f a b)))) fun fr => L .nx fr h) E
 unfold aar
 cases fr[i]? with
 | none => exact aF
 | some o =>
   cases o with
   | none => exact aF.trans Jl.symm
   | some x =>
     rw [yN]
     unfold Mq
     cases x with
     | int a =>
       dsimp only
       rw [aj]
       congr 1
       funext d fr h
       cases d <;> first | exact iI | exact aF
     | _ => exact aF
theorem wV : Wp (aat m fr h) S E = Wp (m fr h) (fun d fr h => Op (aas d) fun z => S z fr h) E := by
 show Wq (aat m fr h) S E = Wq (m fr h) (fun d fr h => Oq (aas d) fun z => S z fr h) E
 unfold aat
 simp only [aj, bf]
theorem wW : Wp (Nt [] acc fr h) G E = G acc fr h := nJ
theorem wX : Wp (Nt (m :: ms) acc fr h) G E = Wp (m fr h) (fun d fr h => Tw d fun y => (acc ++ y).length ≤ big ∧ Wp (Nt ms (acc ++ y) fr h) G E) E := by
 show Wq (Nt (m :: ms) acc fr h) G E = Wq (m fr h) (fun d fr h => Tw d fun y => (acc ++ y).length ≤ big ∧ Wq (Nt ms (acc ++ y) fr h) G E) E
 rw [Nt, aj]
 congr 1
 funext d fr h
 unfold Tw
 cases d with
 | str y =>
   dsimp only
   split
   · rename_i hl
     simp only [hl, true_and]
   · rename_i hl
     rw [bf, bu]
     simp only [hl, false_and]
 | _ => exact bf.trans bu
theorem sU : Wp (Yd ms fr h) S E = Wp (Nt ms Str.empty fr h) (fun z fr h => S (.str z) fr h) E := by
 show Wq (Yd ms fr h) S E = Wq (Nt ms Str.empty fr h) (fun z fr h => S (.str z) fr h) E
 unfold Yd
 simp only [aj, cH]
theorem lU {f : Str → M Fl} : Wp (Vw m f fr h) L E = Wp (m fr h) (fun d fr h => Tw d fun z => Wp (f z fr h) L E) E := by
 show Wq (Vw m f fr h) L E = Wq (m fr h) (fun d fr h => Tw d fun z => Wq (f z fr h) L E) E
 unfold Vw
 rw [aj]
 congr 1
 funext d fr h
 unfold Tw
 cases d <;> first | rfl | exact aF
theorem ig {z : Str} : Wp (KR [] z fr h) L E = L .nx fr h := nJ
theorem il {z : Str} {ss : List Str} {b : M Fl} {r : List (List Str × M Fl)} : Wp (KR ((ss, b) :: r) z fr h) L E = Cd (ss.contains z) (Wp (b fr h) L E) (Wp (KR r z fr h) L E) := by
 show Wq ((if ss.contains z then b else KR r z) fr h) L E = Dt (ss.contains z) (Wq (b fr h) L E) (Wq (KR r z fr h) L E)
 exact Fo
theorem lV {l : List D} {lo hi : Option Int} : O2 h (.nl l) (.sl lo hi) = some (.nl (cutD l lo hi)) := by
 unfold O2
 rfl
theorem ir {l : List D} {lo hi : Option Int} : O2 h (.fl l) (.sl lo hi) = some (.nl (cutD l lo hi)) := by
 unfold O2
 rfl
theorem iw {d : D} {k : Int} : O2 h d (.int k) = bh h d (.int k) := by
 unfold O2
 rfl
theorem sV {tab : Tg → Tg → Option Bool} {lo hi : Option Int} : Ue tab h (.sl lo hi) (.ty "int") = some (.bl false) := by
 unfold Ue
 dsimp only
 rw [if_pos (by decide)]
theorem lW {tab : Tg → Tg → Option Bool} {k : Int} {c : D} : Ue tab h (.int k) c = jy tab h (.int k) c := by
 unfold Ue
 rfl
theorem wY {lo hi : Option Int} : (D.sl lo hi).own = false := rfl
theorem Am {lo hi : Option Int} : (D.sl lo hi).fz = .sl lo hi := rfl
end
end Pk
namespace Pk
open PySem PySem.Spec L2
end Pk
namespace Pk
open PySem PySem.Spec L2
section
variable {h : Hh}
theorem wZ {xs : List Int} : JS h (.nl (xs.map .int)) = some (.int xs.sum) := yS
theorem xf {xs : List Int} : JS h (.fl (xs.map .int)) = some (.int xs.sum) := yU
theorem xg {xs : List Int} : JS h (.tup (xs.map .int)) = some (.int xs.sum) := by
 unfold JS
 dsimp only
 rw [Ra]
 rfl
theorem Wp.out {α : Type} {r : R α} {Q : α → Fr → Hh → Prop} (w : Wp r Q iY) : ∃ a fr h, r = .ok a fr h ∧ Q a fr h := by
 cases r with
 | ok a fr h => exact ⟨a, fr, h, rfl, w⟩
 | exc y fr1 h1 => exact (show False from w).elim
 | err => exact (show False from w).elim
end
end Pk
namespace Pk
open PySem PySem.Spec L2
section
variable {S : D → Fr → Hh → Prop} {E : aP → Fr → Hh → Prop} {fr : Fr} {h : Hh} {ma : M D} {mt : Nat → Option Fn}
theorem xj : Wp (aau mt ma fr h) S E = Wp (ma fr h) (fun o fr h => Op (fnOf mt h o) fun F => Wp (F [o] h) (fun d _ h => S d fr h) iY) E := by
 show Wq (aau mt ma fr h) S E = Wq (ma fr h) (fun o fr h => Oq (fnOf mt h o) fun F => Wq (F [o] h) (fun d _ h => S d fr h) iY) E
 unfold aau
 rw [aj]
 congr 1
 funext o fr h
 rw [Il]
end
end Pk
namespace Pk
open PySem PySem.Spec L2
def Oxq (o : Option (Fn × Bool)) (A B : Fn → Prop) : Prop := match o with
 | some (F, false) => A F
 | some (F, true) => B F
 | none => False
def OxK (o : Option (Fn × Bool)) (A B : Fn → Prop) (_ : PP A B := ⟨⟩) : Prop := Oxq o A B
theorem DQ {F : Fn} {A B : Fn → Prop} : OxK (some (F, false)) A B = A F := rfl
theorem DR {F : Fn} {A B : Fn → Prop} : OxK (some (F, true)) A B = B F := rfl
section
variable {S : D → Fr → Hh → Prop} {E : aP → Fr → Hh → Prop} {fr : Fr} {h : Hh} {ma mb : M D} {mtl mtr : Nat → Option Fn}
theorem xm : Wp (aav mtl mtr ma mb fr h) S E = Wp (ma fr h) (fun x fr h => Wp (mb fr h) (fun y fr h => OxK (Ug mtl mtr h x y) (fun F => Wp (F [x, y] h) (fun d _ h => S d fr h) (fun x _ h => E x fr h)) (fun F => Wp (F [y, x] h) (fun d _ h => S d fr h) (fun x _ h => E x fr h))) E) E := by
 show Wq (aav mtl mtr ma mb fr h) S E = Wq (ma fr h) (fun x fr h => Wq (mb fr h) (fun y fr h => Oxq (Ug mtl mtr h x y) (fun F => Wq (F [x, y] h) (fun d _ h => S d fr h) (fun x _ h => E x fr h)) (fun F => Wq (F [y, x] h) (fun d _ h => S d fr h) (fun x _ h => E x fr h))) E) E
 unfold aav
 rw [aj]
 congr 1
 funext x fr h
 rw [aj]
 congr 1
 funext y fr h
 cases Ug mtl mtr h x y with
 | none => exact aF
 | some Fb =>
   obtain ⟨F, b⟩ := Fb
   cases b
   · exact yO
   · exact yO
end
end Pk
namespace Pk
open PySem PySem.Spec L2
section
variable {S : D → Fr → Hh → Prop} {E : aP → Fr → Hh → Prop} {fr : Fr} {h : Hh} {mo ma : M D}
theorem lX : Wp (Vy mo ma fr h) S E = Wp (mo fr h) (fun o fr h => (o.lstP h).isSome = true ∧ Wp (ma fr h) (fun x fr h => Op (Ik h o x) fun z => S z fr h) E) E := by
 show Wq (Vy mo ma fr h) S E = Wq (mo fr h) (fun o fr h => (o.lstP h).isSome = true ∧ Wq (ma fr h) (fun x fr h => Oq (Ik h o x) fun z => S z fr h) E) E
 unfold Vy
 rw [aj]
 congr 1
 funext o fr h
 cases e : (o.lstP h).isSome with
 | true =>
   rw [if_pos rfl, aj]
   simp only [true_and]
   congr 1
   funext x fr h
   exact bf
 | false =>
   rw [if_neg Bool.false_ne_true]
   simp only [Bool.false_eq_true, false_and]
   exact aF
end
section
variable {α : Type} [DecidableEq α] {h : Hh} {x y : D} {a : α} {l : List α}
end
end Pk
namespace Pk
open PySem PySem.Spec L2
section
variable {Q : D → Fr → Hh → Prop} {S : List D → Fr → Hh → Prop} {E : aP → Fr → Hh → Prop} {fr : Fr} {h : Hh} {n : Nat} {l : List D} {vs : List Nat} {g : D → M Unit} {t : M Bool} {e : M D}
theorem xq {li : M (Nat × List D × List D)} : Wp (Lq vs li g t e fr h) Q E = Wp (li fr h) (fun x fr h => x.2.2.length ≤ big ∧ Bx (cX fr vs) fun fr => Wp (nu x.1 x.2.1 vs g t e x.2.2 fr h) (fun r fr h => Q (.nl r) fr h) E) E := by
 show Wq (Lq vs li g t e fr h) Q E = Wq (li fr h) (fun x fr h => x.2.2.length ≤ big ∧ Bq (cX fr vs) fun fr => Wq (nu x.1 x.2.1 vs g t e x.2.2 fr h) (fun r fr h => Q (.nl r) fr h) E) E
 unfold Lq GZ Bq; rw [aj]
 congr 1
 funext ds fr h
 rw [aj, iI]
 split
 · rename_i hb; rw [aj]; simp only [cH, hb, true_and]
 · rename_i hb; rw [bf, bu]; simp only [hb, false_and]
end
end Pk
namespace Pk
open PySem PySem.Spec L2
def aa7 (h : Hh) (ix : Nat → Option Nat) (o d : D) : Option Hh := match o with
 | .ref n => match h[n]? with
   | some (.no c fs) => match ix c with
     | some i => match uw i d fs with
       | some fs' => some (h.set n (.no c fs'))
       | none => none
     | none => none
   | _ => none
 | _ => none
section
variable {Q : D → Fr → Hh → Prop} {L : Fl → Fr → Hh → Prop} {U : Unit → Fr → Hh → Prop} {E : aP → Fr → Hh → Prop} {fr : Fr} {h : Hh} {mo mv : M D} {ms : List (M D)}
theorem sW : Wp (abB fr h) Q E = Q (.ref h.length) fr (h ++ [.dc [] []]) := by
 unfold abB
 exact fX
theorem sX : Wp (Yg mo ms fr h) Q E = Wp (mo fr h) (fun o fr h => Wp (ao ms fr h) (fun ks fr h => Op (Ye h o ks) fun z => Q z fr h) E) E := by
 show Wq (Yg mo ms fr h) Q E = Wq (mo fr h) (fun o fr h => Wq (ao ms fr h) (fun ks fr h => Oq (Ye h o ks) fun z => Q z fr h) E) E
 unfold Yg
 simp only [aj, bf]
theorem sY : Wp (Yh mo ms mv fr h) L E = Wp (mv fr h) (fun d fr h => Wp (mo fr h) (fun o fr h => Wp (ao ms fr h) (fun ks fr h => Op (Uh h o ks d) fun h' => L .nx fr h') E) E) E := by
 show Wq (Yh mo ms mv fr h) L E = Wq (mv fr h) (fun d fr h => Wq (mo fr h) (fun o fr h => Wq (ao ms fr h) (fun ks fr h => Oq (Uh h o ks d) fun h' => L .nx fr h') E) E) E
 unfold Yh
 rw [aj]
 congr 1
 funext d fr h
 rw [aj]
 congr 1
 funext o fr h
 rw [aj]
 congr 1
 funext ks fr h
 cases Uh h o ks d with
 | some h' => dsimp only; rw [iI]; rfl
 | none => dsimp only; rw [aF]; rfl
theorem lY {j : Nat} {ix : Nat → Option Nat} {d : D} : Wp (Yi j ix d fr h) U E = Sl fr[j]? fun o => Op (aa7 h ix o d) fun h' => U () fr h' := by
 show Wq (Yi j ix d fr h) U E = Sq fr[j]? fun o => Oq (aa7 h ix o d) fun h' => U () fr h'
 unfold Yi aa7
 cases fr[j]? with
 | none => exact aF
 | some s =>
   cases s with
   | none => exact aF
   | some o =>
     cases o with
     | ref n =>
       dsimp only [Sq]
       cases h[n]? with
       | none => exact aF
       | some c =>
         cases c with
         | no c fs =>
           dsimp only
           cases ix c with
           | none => exact aF
           | some i =>
             dsimp only
             cases uw i d fs with
             | none => exact aF
             | some fs' => exact iI
         | _ => exact aF
     | _ => exact aF
theorem lZ {c n m : Nat} {F : Fn} {gD : List D → List D → List D} {ma mk : M (List D)} : Wp (VB c n m F gD ma mk fr h) Q E = Wp (ma fr h) (fun ds fr h => Wp (mk fr h) (fun es fr h => ds.length = n ∧ es.length = m ∧ Wp (F (.ref h.length :: gD ds es) (h ++ [.no c []])) (fun d _ h' => d = .non ∧ Q (.ref h.length) fr h') (fun x _ h' => E x fr h')) E) E := by
 show Wq (VB c n m F gD ma mk fr h) Q E = Wq (ma fr h) (fun ds fr h => Wq (mk fr h) (fun es fr h => ds.length = n ∧ es.length = m ∧ Wq (F (.ref h.length :: gD ds es) (h ++ [.no c []])) (fun d _ h' => d = .non ∧ Q (.ref h.length) fr h') (fun x _ h' => E x fr h')) E) E
 unfold VB
 rw [aj]
 congr 1
 funext ds fr h
 rw [aj]
 congr 1
 funext es fr h
 split
 · rename_i hb
   simp only [hb.1, hb.2, true_and]
   cases F (.ref h.length :: gD ds es) (h ++ [.no c []]) with
   | ok d fr' h' => cases d <;> simp [abC, Wq]
   | exc x fr' h' => rfl
   | err => rfl
 · rename_i hb
   rw [aF, eq_iff_iff]
   exact ⟨False.elim, fun z => hb ⟨z.1, z.2.1⟩⟩
end
end Pk
namespace Pk
open PySem PySem.Spec L2
section
variable {E : aP → Fr → Hh → Prop} {fr : Fr} {h : Hh} {G : Nat × List D × List D → Fr → Hh → Prop} {ma : M D}
theorem mD : Wp (Jk ma fr h) G E = Wp (ma fr h) (fun d fr h => Op ((uN h d).map fun x => (x.1, x.2, iW 0 x.2)) fun x => G x fr h) E := by
 show Wq (Jk ma fr h) G E = Wq (ma fr h) (fun d fr h => Oq ((uN h d).map fun x => (x.1, x.2, iW 0 x.2)) fun x => G x fr h) E
 unfold Jk
 simp only [aj, bf]
end
end Pk
namespace Pk
open PySem PySem.Spec L2
def V8 (d : D) (K : Nat → Prop) : Prop := match d with
 | .ref n => K n
 | _ => False
def Qy (d : D) (K : Nat → List D → Prop) : Prop := match d with
 | .no c fs => K c fs
 | _ => False
section
variable {S : D → Fr → Hh → Prop} {L : Fl → Fr → Hh → Prop} {A : List D → Fr → Hh → Prop} {E : aP → Fr → Hh → Prop} {fr : Fr} {h : Hh} {m mo mt : M D} {ma : M (List D)} {t : M Bool} {b : M Fl} {i j n : Nat}
theorem mF {K : Nat → Prop} : V8 (.ref n) K = K n := by unfold V8; rfl
theorem tD {c : Nat} {fs : List D} {K : Nat → List D → Prop} : Qy (.no c fs) K = K c fs := by unfold Qy; rfl
theorem iy {ix : Nat → Option Nat} {f : Int → Int → Int} : Wp (R8 j ix f m fr h) L E = Sl fr[j]? fun x => V8 x fun n => Op h[n]? fun o => Qy o fun c fs => Op (ix c) fun i => Op fs[i]? fun y => Mq y fun a => Wp (m fr h) (fun d fr h => Mq d fun b => Op h[n]? fun o => Qy o fun c' fs' => c' = c ∧ Op (uw i (.int (f a b)) fs') fun fs'' => L .nx fr (h.set n (.no c fs''))) E := by
 show Wq (R8 j ix f m fr h) L E = Sq fr[j]? fun x => V8 x fun n => Oq h[n]? fun o => Qy o fun c fs => Oq (ix c) fun i => Oq fs[i]? fun y => Mq y fun a => Wq (m fr h) (fun d fr h => Mq d fun b => Oq h[n]? fun o => Qy o fun c' fs' => c' = c ∧ Oq (uw i (.int (f a b)) fs') fun fs'' => L .nx fr (h.set n (.no c fs''))) E
 unfold R8
 cases fr[j]? with
 | none => exact aF
 | some o =>
   cases o with
   | none => exact aF.trans Jl.symm
   | some x =>
     rw [yN]
     unfold V8
     cases x with
     | ref n =>
       dsimp only
       cases h[n]? with
       | none => exact aF
       | some o =>
         rw [bj]
         unfold Qy
         cases o with
         | no c fs =>
           dsimp only
           cases ix c with
           | none => exact aF
           | some i =>
             rw [bj]
             dsimp only
             cases fs[i]? with
             | none => exact aF
             | some y =>
               rw [bj]
               unfold Mq
               cases y with
               | int a =>
                 dsimp only
                 rw [aj]
                 congr 1
                 funext d fr h
                 cases d with
                 | int b =>
                   dsimp only
                   cases h[n]? with
                   | none => exact aF
                   | some o =>
                     rw [bj]
                     cases o with
                     | no c' fs' =>
                       dsimp only
                       by_cases hc : c' = c
                       · rw [if_pos hc]
                         cases uw i (.int (f a b)) fs' with
                         | none => exact aF.trans (eq_iff_iff.mpr ⟨False.elim, fun z => z.2⟩)
                         | some fs'' => exact iI.trans (eq_iff_iff.mpr ⟨fun z => ⟨hc, z⟩, fun z => z.2⟩)
                       · rw [if_neg hc]
                         exact aF.trans (eq_iff_iff.mpr ⟨False.elim, fun z => hc z.1⟩)
                     | _ => exact aF
                 | _ => exact aF
               | _ => exact aF
         | _ => exact aF
     | _ => exact aF
theorem tE : Wp (Yj i m fr h) S E = Wp (aR i jr fr h) (fun _ fr h => Wp (m fr h) (fun d fr h => Wp (aR i (aay d) fr h) (fun _ fr h => S .non fr h) E) E) E := by
 show Wq (Yj i m fr h) S E = Wq (aR i jr fr h) (fun _ fr h => Wq (m fr h) (fun d fr h => Wq (aR i (aay d) fr h) (fun _ fr h => S .non fr h) E) E) E
 unfold Yj
 simp only [aj, cH]
theorem mG {mtb : Nat → Option Fn} : Wp (VD mtb mo ma fr h) S E = Wp (mo fr h) (fun o fr h => Op (fnOf mtb h o) fun F => Wp (ma fr h) (fun ds fr h => ds.length ≤ big ∧ Wp (F [o, .tup ds] h) (fun d _ h => S d fr h) (fun x _ h => E x fr h)) E) E := by
 show Wq (VD mtb mo ma fr h) S E = Wq (mo fr h) (fun o fr h => Oq (fnOf mtb h o) fun F => Wq (ma fr h) (fun ds fr h => ds.length ≤ big ∧ Wq (F [o, .tup ds] h) (fun d _ h => S d fr h) (fun x _ h => E x fr h)) E) E
 unfold VD
 rw [aj]
 congr 1
 funext o fr h
 cases fnOf mtb h o with
 | none => exact aF
 | some F =>
   rw [bj]
   dsimp only
   rw [aj]
   congr 1
   funext ds fr h
   by_cases hb : ds.length ≤ big
   · rw [if_pos hb]
     cases F [o, .tup ds] h with
     | ok d fr' h' => exact eq_iff_iff.mpr ⟨fun z => ⟨hb, z⟩, fun z => z.2⟩
     | exc x fr' h' => exact eq_iff_iff.mpr ⟨fun z => ⟨hb, z⟩, fun z => z.2⟩
     | err => exact eq_iff_iff.mpr ⟨fun z => z.elim, fun z => z.2⟩
   · rw [if_neg hb]
     exact aF.trans (eq_iff_iff.mpr ⟨False.elim, fun z => hb z.1⟩)
theorem xr : Wp (aaz m ma fr h) A E = Wp (m fr h) (fun d fr h => Op (d.its h) fun l => Wp (ma fr h) (fun r fr h => A (l ++ r) fr h) E) E := by
 show Wq (aaz m ma fr h) A E = Wq (m fr h) (fun d fr h => Oq (d.its h) fun l => Wq (ma fr h) (fun r fr h => A (l ++ r) fr h) E) E
 unfold aaz
 rw [aj]
 congr 1
 funext d fr h
 cases d.its h with
 | none => exact aF
 | some l =>
   rw [bj]
   dsimp only
   simp only [aj, cH]
theorem mH : Wp (Yk m ma fr h) A E = Wp (m fr h) (fun d fr h => Wp (ma fr h) (fun r fr h => A (d :: r) fr h) E) E := by
 show Wq (Yk m ma fr h) A E = Wq (m fr h) (fun d fr h => Wq (ma fr h) (fun r fr h => A (d :: r) fr h) E) E
 unfold Yk
 simp only [aj, cH]
def WhK (f : Fl) (again : Prop) (out : Fl → Prop) : Prop := match f with
 | .nx => again
 | .ct => again
 | .brk => out .nx
 | .rt d => out (.rt d)
theorem xF {p : Prop} {o : Fl → Prop} : WhK .nx p o = p := rfl
theorem xG {p : Prop} {o : Fl → Prop} : WhK .ct p o = p := rfl
theorem tG {p : Prop} {o : Fl → Prop} : WhK .brk p o = o .nx := rfl
theorem xH {p : Prop} {o : Fl → Prop} {d : D} : WhK (.rt d) p o = o (.rt d) := rfl
end
end Pk
namespace Pk
open PySem PySem.Spec L2
section
variable {S : D → Fr → Hh → Prop} {A : List D → Fr → Hh → Prop} {E : aP → Fr → Hh → Prop} {fr : Fr} {h : Hh} {m mo : M D} {ma li : M (List D)} {ms : M Fl} {ds out : List D} {g : D → M Unit} {b c : List D → M (List D)}
theorem tH : Wp (Yl ma fr h) S E = Wp (ma fr h) (fun ds fr h => ds.length ≤ big ∧ S (.tup ds) fr h) E := by
 show Wq (Yl ma fr h) S E = Wq (ma fr h) (fun ds fr h => ds.length ≤ big ∧ S (.tup ds) fr h) E
 unfold Yl
 rw [aj]
 congr 1
 funext ds fr h
 by_cases hb : ds.length ≤ big
 · rw [if_pos hb]; exact eq_iff_iff.mpr ⟨fun z => ⟨hb, z⟩, fun z => z.2⟩
 · rw [if_neg hb]; exact eq_iff_iff.mpr ⟨fun z => z.elim, fun z => hb z.1⟩
end
end Pk
namespace Pk
open PySem PySem.Spec L2
section
variable {G : Nat × List D × List D → Fr → Hh → Prop} {E : aP → Fr → Hh → Prop} {fr : Fr} {h : Hh} {ma mb : M D} {n : Nat} {l : List D}
theorem mJ : Wp (VG ma mb fr h) G E = Wp (ma fr h) (fun d fr h => Wp (mb fr h) (fun e fr h => Op (Ym h d e) fun x => G x fr h) E) E := by
 show Wq (VG ma mb fr h) G E = Wq (ma fr h) (fun d fr h => Wq (mb fr h) (fun e fr h => Oq (Ym h d e) fun x => G x fr h) E) E
 unfold VG
 rw [aj]
 congr 1
 funext d fr h
 rw [aj]
 congr 1
 funext e fr h
 rw [bf]
end
end Pk
namespace Pk
open PySem PySem.Spec L2 GenP
section
variable {A : List D → Fr → Hh → Prop} {L : Fl → Fr → Hh → Prop} {E : aP → Fr → Hh → Prop} {fr : Fr} {h : Hh} {mo : M D} {mc : M (List D)} {c nN : Nat} {b : Es} {g : D → M Unit} {bm : M Fl}
theorem tK : Wp (Yp c mo fr h) A E = Wp (mo fr h) (fun o fr h => (o.ins h).map (·.1) = some c ∧ A [o] fr h) E := by
 show Wq (Yp c mo fr h) A E = Wq (mo fr h) (fun o fr h => (o.ins h).map (·.1) = some c ∧ A [o] fr h) E
 unfold Yp
 rw [aj]
 congr 1
 funext o fr h
 cases e : o.ins h with
 | none => exact eq_iff_iff.mpr ⟨fun z => z.elim, fun z => by cases z.1⟩
 | some z =>
   obtain ⟨c', fs⟩ := z
   dsimp only
   by_cases hc : c' = c
   · rw [if_pos hc]
     exact eq_iff_iff.mpr ⟨fun z => ⟨congrArg some hc, z⟩, fun z => z.2⟩
   · rw [if_neg hc]
     exact eq_iff_iff.mpr ⟨fun z => z.elim, fun z => absurd (Option.some.inj z.1) hc⟩
theorem tL : Wp (Yo mc nN b g bm fr h) L E = Wp (mc fr h) (fun ds fr h => Wp (Yn nN b (stepF g bm) ds fr h) L E) E := by
 show Wq (Yo mc nN b g bm fr h) L E = Wq (mc fr h) (fun ds fr h => Wq (Yn nN b (stepF g bm) ds fr h) L E) E
 unfold Yo
 cases mc fr h <;> rfl
theorem mK {fs : List D} : ((D.obj c fs).ins h).map (·.1) = some c := rfl
theorem tM {fs : List D} : ((D.no c fs).ins h).map (·.1) = some c := rfl
end
end Pk
namespace Pk
open PySem PySem.Spec L2
section
variable {Q : D → Fr → Hh → Prop} {L : Fl → Fr → Hh → Prop} {E : aP → Fr → Hh → Prop} {fr : Fr} {h : Hh} {mo mk mv mz m : M D}
theorem tO : Wp (abF fr h) Q E = Q (.ref h.length) fr (h ++ [.dk [] []]) := by
 unfold abF
 exact fX
theorem tQ : Wp (Ys mo mk fr h) Q E = Wp (mo fr h) (fun o fr h => Wp (mk fr h) (fun k fr h => Op (Yr h o k) fun z => Q z fr h) E) E := by
 show Wq (Ys mo mk fr h) Q E = Wq (mo fr h) (fun o fr h => Wq (mk fr h) (fun k fr h => Oq (Yr h o k) fun z => Q z fr h) E) E
 unfold Ys
 simp only [aj, bf]
theorem mO : Wp (VP mo fr h) Q E = Wp (mo fr h) (fun o fr h => Op (VM h o) fun z => Q z fr h) E := by
 show Wq (VP mo fr h) Q E = Wq (mo fr h) (fun o fr h => Oq (VM h o) fun z => Q z fr h) E
 unfold VP
 simp only [aj, bf]
theorem mQ : Wp (VN mo mk mz fr h) Q E = Wp (mo fr h) (fun o fr h => (cellE h o).isSome = true ∧ Wp (mk fr h) (fun k fr h => Wp (mz fr h) (fun z fr h => Op (VL h o k z) fun z => Q z fr h) E) E) E := by
 show Wq (VN mo mk mz fr h) Q E = Wq (mo fr h) (fun o fr h => (cellE h o).isSome = true ∧ Wq (mk fr h) (fun k fr h => Wq (mz fr h) (fun z fr h => Oq (VL h o k z) fun z => Q z fr h) E) E) E
 unfold VN
 rw [aj]
 congr 1
 funext o fr h
 by_cases c : (cellE h o).isSome = true
 · rw [if_pos c]
   simp only [aj, bf, c, true_and]
 · rw [if_neg c, aF, eq_iff_iff]
   exact ⟨False.elim, fun z => c z.1⟩
theorem tR : Wp (Yt mo mk mv fr h) L E = Wp (mv fr h) (fun d fr h => Wp (mo fr h) (fun o fr h => Wp (mk fr h) (fun k fr h => Op (Uk h o k d) fun h' => L .nx fr h') E) E) E := by
 show Wq (Yt mo mk mv fr h) L E = Wq (mv fr h) (fun d fr h => Wq (mo fr h) (fun o fr h => Wq (mk fr h) (fun k fr h => Oq (Uk h o k d) fun h' => L .nx fr h') E) E) E
 unfold Yt
 rw [aj]
 congr 1
 funext d fr h
 rw [aj]
 congr 1
 funext o fr h
 rw [aj]
 congr 1
 funext k fr h
 cases Uk h o k d with
 | some h' => dsimp only; rw [iI]; rfl
 | none => dsimp only; rw [aF]; rfl
theorem iz {i : Nat} : Wp (R9 i m fr h) Q E = Wp (az i fr h) (fun o fr h => (o.lstP h).isSome = true ∧ Wp (m fr h) (fun x fr h => Wp (az i fr h) (fun o fr h => Op (Ik h o x) fun z => Q z fr h) E) E) E := by
 show Wq (R9 i m fr h) Q E = Wq (az i fr h) (fun o fr h => (o.lstP h).isSome = true ∧ Wq (m fr h) (fun x fr h => Wq (az i fr h) (fun o fr h => Oq (Ik h o x) fun z => Q z fr h) E) E) E
 unfold R9
 rw [aj]
 congr 1
 funext o fr h
 by_cases c : (o.lstP h).isSome = true
 · rw [if_pos c]
   simp only [aj, bf, c, true_and]
 · rw [if_neg c, aF, eq_iff_iff]
   exact ⟨False.elim, fun z => c z.1⟩
end
end Pk
namespace Pk
open PySem PySem.Spec L2
section
variable {α : Type} {Q : α → Fr → Hh → Prop} {E : aP → Fr → Hh → Prop} {fr : Fr} {h : Hh} {t : Fr → Hh → Bool} {a b : M α}
end
end Pk
namespace L
open PySem PySem.Spec L2 Pk GenP
noncomputable section
def fld : Nat → List Str
 | 0 => ["readings", "start", "counts", "restarts", "tails", "lost"]
 | _ => []
abbrev T (K : PySem.W.Frag) : Tb := Tbo cn fld K
def xR : Nat → Option Nat := fun c => aha c [(0, 0)]
def yV : Nat → Option Nat := fun c => aha c [(0, 1)]
def xJ : Nat → Option Nat := fun c => aha c [(0, 2)]
def xT : Nat → Option Nat := fun c => aha c [(0, 3)]
def Dc : Nat → Option Nat := fun c => aha c [(0, 4)]
def Fp : Nat → Option Nat := fun c => aha c [(0, 5)]
def fG : Tg → Tg → Option Bool := ade []
def afK : Tg → Tg → Option Bool := ae0 []
def yW : M Fl :=
    (aD (bM 3 (Mf (aG cGe (aC Lf (aa 2)) (aG RJ (mC (.int 10)) (mC (.int 18)))) (aC Lf (aa 2)) (mC (.int 0))))
    (aU (dX [(aa 3), (bL (aG cA (bL (aG cA (aG RG (aC xY (aa 2)) (mC (.int 2147483629))) (aG Xv (mC (.int 15485863)) (aa 1)))) (mC (.int 7919)))), (mC (.int 0))])))
def zq : M Fl :=
    (aD (bM 2 (Mf (aG Th (aa 1) (aC cV (az 0))) (aV 0 (aa 1) bh) (mC (.int 0))))
    yW)
def nj : Fn := du 4 zq
def Ft : M Fl :=
    (aD (bM 3 (aG RG (aC xY (aG RJ (bL (aG cA (aa 3) (aG Xv (mC (.int 49979687)) (aV 0 (mC (.int 2)) bh)))) (mC (.int 2)))) (mC (.int 2305843009213693951))))
    (aU (aG RG (aC xY (aG Z0 (aa 3) (mC (.int 4096)))) (aa 1))))
def Fv : M Fl :=
    (aD (bM 3 (aG RG (aC xY (aG RJ (bL (aG cA (aV 0 (mC (.int 1)) bh) (aG Xv (mC (.int 32452843)) (aV 0 (mC (.int 2)) bh)))) (mC (.int 3)))) (mC (.int 2305843009213693921))))
    Ft)
def Fw : M Fl :=
    (aD (Dk 0 (bL (aG cA (aV 0 (mC (.int 2)) bh) (mC (.int 1)))) (mC (.int 2)))
    Fv)
def G5 : M Fl :=
    (aD (bB (aG cGt (aV 0 (mC (.int 0)) bh) (mC (.int 0)))
    (aD (bM 2 (aG RG (aC xY (aV 0 (mC (.int 0)) bh)) (aa 1)))
    (aD (Dk 0 (aG Z0 (aV 0 (mC (.int 0)) bh) (aa 1)) (mC (.int 0)))
    (aU (JF 2))))
    (M.ret .nx))
    Fw)
def dU : Fn := du 4 G5
def Nz : M Fl :=
    (aU (aV 1 (bL (aH 2 0 dU (aK []) (ao [(aa 0), (aC cV (az 1))]) (ao []))) bh))
def JT : Fn := du 2 Nz
def HF : M Fl :=
    (aU (aH 2 0 dU (aK []) (ao [(aa 0), (bL (aH 2 0 JT (aK []) (ao [(aa 0), (bL (dX [(mC (.int 2)), (mC (.int 2)), (mC (.int 3)), (mC (.int 3)), (mC (.int 5)), (mC (.int 100)), (aG RJ (mC (.int 10)) (mC (.int 9))), (aG RJ (mC (.int 10)) (mC (.int 30)))]))]) (ao [])))]) (ao [])))
def tY : Fn := du 1 HF
def Br : M Fl :=
    (bB (aG u5 (bL (aH 2 0 dU (aK []) (ao [(aa 0), (mC (.int 3))]) (ao []))) (mC (.int 0)))
    (aD (iV (yL 4 (aG CP (bL (aG cA (aa 2) (aa 8))) (mC (.int 1)))))
    (iV (yL 7 (bL (aH 1 0 tY (aK []) (ao [(aa 0)]) (ao []))))))
    (iV (yL 7 (bL (aG cA (aV 7 (aC (fun _ => MJ) (mC (.int 1))) bh) (bL (aH 1 0 tY (aK []) (ao [(aa 0)]) (ao []))))))))
def Bt : M Fl :=
    (bB (aG u5 (bL (aH 2 0 dU (aK []) (ao [(aa 0), (mC (.int 2))]) (ao []))) (mC (.int 0)))
    (iV (yL 5 (tW [(aa 10), (bL (aG cA (mC (.int 1)) (bL (aH 1 0 tY (aK []) (ao [(aa 0)]) (ao [])))))])))
    (M.ret .nx))
def Bu : M Fl :=
    (bB (aG u5 (bL (aH 2 0 dU (aK []) (ao [(aa 0), (mC (.int 4))]) (ao []))) (mC (.int 0)))
    (iV (yL 6 (aa 8)))
    (M.ret .nx))
def Bv : M Fl :=
    (aD (jC (Bp (aa 2) (bL (aG cA (aa 2) (aa 3)))) (aQ 8) Bu)
    (aU (tW [(aa 2), (aa 7), (aa 4), (aa 5), (aa 6)])))
def Fy : M Fl :=
    (aD (jC (zY (aa 9)) (aQ 10) Bt)
    Bv)
def yq : M Fl :=
    (aD (bM 9 (Mf (aG Th (bL (aG cA (aa 2) (aa 3))) (aa 1)) (aG cA (aa 4) (bL (dX [(aG CP (bL (aG cA (aa 2) (aa 3))) (mC (.int 1)))]))) (aC cR (az 4))))
    Fy)
def Bw : M Fl :=
    (aD (jC (Bp (mC (.int 1)) (aa 3)) (aQ 8) Br)
    yq)
def BJ : M Fl :=
    (aD (bM 7 (dX [(bL (aH 1 0 tY (aK []) (ao [(aa 0)]) (ao [])))]))
    Bw)
def FJ : M Fl :=
    (aD (bB (aG u5 (bL (aH 2 0 dU (aK []) (ao [(aa 0), (mC (.int 2))]) (ao []))) (mC (.int 1)))
    (aD (bM 2 (aH 2 0 dU (aK []) (ao [(aa 0), (aa 1)]) (ao [])))
    (bM 3 (aG cA (mC (.int 1)) (bL (aH 2 0 dU (aK []) (ao [(aa 0), (aG CP (aa 1) (aa 2))]) (ao []))))))
    (M.ret .nx))
    BJ)
def G6 : M Fl :=
    (aD (Lg [2, 3, 4, 5, 6] (ao [(mC (.int 0)), (aa 1), (dX []), (dX []), (dX [])]))
    FJ)
def xU : Fn := du 11 G6
def eQ : M Fl :=
    (bB (J9 (aG Th (aV 0 (aa 3) bh) (aV 0 (aG CP (aa 3) (mC (.int 1))) bh)) (aG Qm (aG CP (bL (aG cA (aa 1) (aa 3))) (mC (.int 1))) (az 2)))
    (aU (mC (.bl true)))
    (M.ret .nx))
def nA : M Fl :=
    (aD (jC (Bp (mC (.int 1)) (aC cV (az 0))) (aQ 3) eQ)
    (aU (mC (.bl false))))
def nH : Fn := du 4 nA
def Jm : M Fl :=
    (aU (xX (aG (jy fG) (aa 0) (mC (.ty "int"))) (JG (aG (jy fG) (aa 0) (mC (.ty "bool"))))))
def o5 : Fn := du 1 Jm
def DW : D → M Unit :=
    (aQ 2)
def DY : M Bool :=
    (jA (cC (aC D.tru (aH 1 0 o5 (aK []) (ao [(aa 2)]) (ao [])))) (aG Th (aa 2) (mC (.int 0))))
def JV : M D :=
    (aa 2)
def Jo : M Fl :=
    (aD (bB (jA (cC (aC D.tru (aG (jy fG) (aa 0) (tW [(mC (.ty "list")), (mC (.ty "tuple"))])))) (cC (jm QQ QQ (mC (.int 1)) (aC cV (az 0)) (aa 1))))
    (aU (mC (.bl false)))
    (M.ret .nx))
    (aU (aG (fun h x y => (u5 h x y).map .bl) (aC cV (Sd [2] (aa 0) DW DY JV)) (mC (.int 0)))))
def Ea : Fn := du 3 Jo
def ul : M Fl :=
    (bB (jA (cC (aC D.tru (aH 1 0 o5 (aK []) (ao [(aa 2)]) (ao [])))) (J9 (aG cGt (aa 1) (mC (.int 0))) (aG QQ (aa 2) (aV 0 (aG CP (aa 1) (mC (.int 1))) bh))))
    (aU (mC (.bl false)))
    (M.ret .nx))
def HW : M Fl :=
    (aD (Q9 (aa 0) (zX 2 (cI (aQ 1) (cI (aQ 2) yJ))) ul)
    (aU (mC (.bl true))))
def FP : M Fl :=
    (aD (bB (cC (aC D.tru (aG (jy fG) (aa 0) (tW [(mC (.ty "list")), (mC (.ty "tuple"))]))))
    (aU (mC (.bl false)))
    (M.ret .nx))
    HW)
def yr : Fn := du 3 FP
def G7 : M Fl :=
    (aU (xX (bL (aH 1 0 yr (aK []) (ao [(aa 0)]) (ao []))) (Qo (aG (fun h x y => (u5 h x y).map .bl) (aC cV (az 0)) (mC (.int 0))) (xX (aG (fun h x y => (QQ h x y).map .bl) (aa 1) (aV 0 (mC (.int 0)) bh)) (aG (fun h x y => (QQ h x y).map .bl) (aV 0 (aC (fun _ => MJ) (mC (.int 1))) bh) (aa 2))))))
def zG : Fn := du 3 G7
def BK : M Fl :=
    (bB (jA (cC (aC D.tru (aG (jy fG) (aa 2) (tW [(mC (.ty "list")), (mC (.ty "tuple"))])))) (jA (aG MK (aC cV (az 2)) (mC (.int 2))) (jA (cC (aC D.tru (aH 1 0 o5 (aK []) (ao [(aV 2 (mC (.int 1)) bh)]) (ao [])))) (aG Th (aV 2 (mC (.int 1)) bh) (mC (.int 1))))))
    (aU (mC (.bl false)))
    (M.ret .nx))
def FQ : D → M Unit :=
    (aQ 2)
def FT : M Bool :=
    (M.ret true)
def FW : M D :=
    (aV 2 (mC (.int 0)) bh)
def FZ : D → M Unit :=
    (aQ 4)
def Ge : M Bool :=
    (aG Qm (aa 4) (az 1))
def KZ : M D :=
    (aa 4)
def K6 : M Fl :=
    (aD (O5 3 [2] (aa 0) FQ FT FW)
    (aU (xX (bL (aH 1 0 yr (aK []) (ao [(aa 3)]) (ao []))) (aG (fun h x y => (u5 h x y).map .bl) (aC cV (ye [4] (zY (aa 3)) FZ Ge KZ)) (mC (.int 0))))))
def K7 : M Fl :=
    (aD (Ul (aa 0) (aQ 2) BK)
    K6)
def Ko : M Fl :=
    (aD (bB (cC (aC D.tru (aG (jy fG) (aa 0) (tW [(mC (.ty "list")), (mC (.ty "tuple"))]))))
    (aU (mC (.bl false)))
    (M.ret .nx))
    K7)
def G8 : Fn := du 5 Ko
def je : M Fl :=
    (aD (bB (cC (aC D.tru (aH 3 0 zG (aK []) (ao [(aa 5), (aa 2), (aa 6)]) (ao []))))
    (aU (mC (.str "lost")))
    (M.ret .nx))
    (aU (mC .non)))
def jf : M Fl :=
    (aD (bB (cC (aC D.tru (aH 2 0 G8 (aK []) (ao [(aa 4), (aa 7)]) (ao []))))
    (aU (mC (.str "tails")))
    (M.ret .nx))
    je)
def oK : M Fl :=
    (aD (bB (aG Th (aa 6) (aG CP (aa 1) (mC (.int 1))))
    (iV (yL 7 (aa 6)))
    (M.ret .nx))
    jf)
def yX : M Fl :=
    (aD (bM 7 (aC cR (az 3)))
    oK)
def Dd : M Fl :=
    (aD (bB (aC D.tru (aH 3 0 nH (aK []) (ao [(aa 0), (aa 2), (aa 3)]) (ao [])))
    (aU (mC (.str "falls")))
    (M.ret .nx))
    yX)
def yZ : M Fl :=
    (aD (bB (cC (aC D.tru (aH 3 0 zG (aK []) (ao [(aa 3), (aa 2), (aG CP (aa 6) (mC (.int 1)))]) (ao []))))
    (aU (mC (.str "restarts")))
    (M.ret .nx))
    Dd)
def za : M Fl :=
    (aD (bM 6 (aG CP (bL (aG cA (aa 2) (aC cV (az 0)))) (mC (.int 1))))
    yZ)
def zf : M Fl :=
    (aD (bB (cC (aC D.tru (aH 2 0 Ea (aK []) (ao [(aa 0), (aG CP (aa 1) (aa 2))]) (ao []))))
    (aU (mC (.str "counts")))
    (M.ret .nx))
    za)
def zg : M Fl :=
    (aD (bB (jA (cC (aC D.tru (aH 1 0 o5 (aK []) (ao [(aa 2)]) (ao [])))) (cC (jm QQ Th (mC (.int 0)) (aa 2) (aa 1))))
    (aU (mC (.str "start")))
    (M.ret .nx))
    zf)
def CK : M Fl :=
    (aD (bB (jA (cC (aC D.tru (aH 1 0 o5 (aK []) (ao [(aa 1)]) (ao [])))) (cC (jm QQ QQ (mC (.int 2)) (aa 1) (mC (.int 4)))))
    (aU (mC (.str "readings")))
    (M.ret .nx))
    zg)
def HH : Fn := du 8 CK
def uU : D → M Unit :=
    (Yv 2 (cI (aQ 8) (cI (aQ 9) yJ)))
def uV : M Bool :=
    (M.ret true)
def uW : M D :=
    (tW [(aa 8), (aa 9)])
def BR : M Fl :=
    (aD (yg 0 Dc (aC jn (Sd [8, 9] (aa 5) uU uV uW)))
    (yg 0 Fp (aC jn (az 6))))
def BV : M Fl :=
    (aD (yg 0 xT (aC jn (az 4)))
    BR)
def BW : M Fl :=
    (aD (yg 0 xJ (aC jn (az 1)))
    BV)
def BX : M Fl :=
    (aD (yg 0 yV (aa 3))
    BW)
def BZ : M Fl :=
    (aD (yg 0 xR (aa 2))
    BX)
def Ca : M Fl :=
    (aD (bB (aG RK (aa 7) (mC .non))
    (fun _ _ => .err)
    (M.ret .nx))
    BZ)
def zj : M Fl :=
    (aD (bM 7 (aH 6 0 HH (aK []) (ao [(aa 1), (aa 2), (aa 3), (aa 4), (aa 5), (aa 6)]) (ao [])))
    Ca)
def cQ : Fn := runI 0 10 zj
def xK : M Fl :=
    (aU (aG CP (bL (aG cA (aC (tX yV) (az 0)) (aC cV (aC (tX xJ) (az 0))))) (mC (.int 1))))
def tU : Fn := du 1 xK
def uo : M Fl :=
    (aU (xX (aG (jy fG) (aa 0) (mC (.ty "int"))) (JG (aG (jy fG) (aa 0) (mC (.ty "bool"))))))
def ni : Fn := du 1 uo
def iK : D → M Unit :=
    (aQ 3)
def iQ : M Bool :=
    (jA (cC (aC D.tru (aH 1 0 ni (aK []) (ao [(aV 0 (aa 3) bh)]) (ao [])))) (aG MK (aV 0 (aa 3) bh) (aV 1 (aa 3) bh)))
def iT : M D :=
    (aa 3)
def oN : M Fl :=
    (aD (bM 2 (ye [3] (z7 (aC cV (az 1))) iK iQ iT))
    (aU (aG (fun h x y => (u5 h x y).map .bl) (aa 2) (dX []))))
def nO : M Fl :=
    (aD (bB (jA (cC (aC D.tru (aG (jy fG) (aa 0) (mC (.ty "tuple"))))) (aG MK (aC cV (az 0)) (aC cV (az 1))))
    (aU (mC (.bl false)))
    (M.ret .nx))
    oN)
def aZ : Fn := du 4 nO
def nQ : D → M Unit :=
    (aQ 2)
def nR : M Bool :=
    (cC (aC D.tru (aH 2 0 aZ (aK []) (ao [(aV 0 (aa 2) bh), (aV 1 (aa 2) bh)]) (ao []))))
def nU : M D :=
    (aa 2)
def uJ : M Fl :=
    (aD (bB (jA (cC (aC D.tru (aG (jy fG) (aa 0) (mC (.ty "tuple"))))) (aG MK (aC cV (az 0)) (aC cV (az 1))))
    (aU (mC (.bl false)))
    (M.ret .nx))
    (aU (aG (fun h x y => (u5 h x y).map .bl) (bL (ye [2] (z7 (aC cV (az 1))) nQ nR nU)) (dX []))))
def oM : Fn := du 3 uJ
def NB : Nat → Option Fn := fun c => aha c [(0, tU)]
def Ao : M Fl :=
    (aD (bB (jA (cC (aC D.tru (aH 2 0 aZ (aK []) (ao [(aC (tX xJ) (az 0)), (aa 4)]) (ao [])))) (cC (aC D.tru (aH 2 0 aZ (aK []) (ao [(aC (tX xT) (az 0)), (aa 5)]) (ao [])))))
    (aU (mC (.bl false)))
    (M.ret .nx))
    (aU (xX (bL (aH 2 0 oM (aK []) (ao [(aC (tX Dc) (az 0)), (aa 6)]) (ao []))) (bL (aH 2 0 aZ (aK []) (ao [(aC (tX Fp) (az 0)), (aa 7)]) (ao []))))))
def Aq : M Fl :=
    (aD (bB (cC (aC D.tru (aH 2 0 aZ (aK []) (ao [(aC jn (az 8)), (bL (dX [(aa 2), (aa 3), (aG CP (bL (aG cA (aa 3) (aC cV (az 4)))) (mC (.int 1)))]))]) (ao []))))
    (aU (mC (.bl false)))
    (M.ret .nx))
    Ao)
def Ar : M Fl :=
    (aD (bM 8 (dX [(aC (tX xR) (az 0)), (aC (tX yV) (az 0)), (bL (Ot NB (aa 0)))]))
    Aq)
def Be : M Fl :=
    (aD (MP (aa 1) (zX 5 (cI (aQ 3) (cI (aQ 4) (cI (aQ 5) (cI (aQ 6) (cI (aQ 7) yJ)))))))
    Ar)
def iU : Fn := du 9 Be
def Gf : D → M Unit :=
    (aQ 13)
def Gg : M Bool :=
    (M.ret true)
def Gh : M D :=
    (cD (aC cR (az 13)))
def Gi : D → M Unit :=
    (aQ 13)
def Gj : M Bool :=
    (M.ret true)
def Gk : M D :=
    (cD (aC cR (az 13)))
def uK : M Fl :=
    (Dk 13 (bL (aG cA (aV 13 (mC (.int 1)) bh) (mC (.int 1)))) (mC (.int 1)))
def Jp : D → M Unit :=
    (zX 2 (cI (aQ 18) (cI (aQ 19) yJ)))
def Jq : M Bool :=
    (M.ret true)
def Jr : M D :=
    (tW [(aa 18), (aa 19)])
def Jt : D → M Unit :=
    (aQ 20)
def Ju : M Bool :=
    (M.ret true)
def Jv : M D :=
    (aC JS (aV 6 (JH Y8 (UJ (bL (aG cA (aa 20) (mC (.int 1)))))) yc))
def Eb : M Fl :=
    (aD (bB (jA (cC (aC D.tru (aH 3 0 iU (aK []) (ao [(aa 12), (aa 4), (aa 3)]) (ao [])))) (cC (aC D.tru (aH 3 0 iU (aK []) (ao [(aa 15), (aa 4), (aa 3)]) (ao [])))))
    (aU (mC (.bl false)))
    (M.ret .nx))
    (bB (cC (aC D.tru (aH 3 0 iU (aK []) (ao [(aa 17), (tW [(mC (.int 0)), (aa 16), (bL (dX [])), (bL (dX [])), (bL (dX []))]), (aa 3)]) (ao []))))
    (aU (mC (.bl false)))
    (M.ret .nx)))
def Ec : M Fl :=
    (aD (bM 17 (aH 1 1 cQ (nW [0, 1, 2, 3, 4] [.int 0, .tup [], .tup [], .tup []]) (ao [(aa 16)]) (ao [(aa 3)])))
    Eb)
def Ed : M Fl :=
    (aD (bM 16 (ye [20] (z7 (aC cV (az 6))) Jt Ju Jv))
    Ec)
def Ef : M Fl :=
    (aD (bM 15 (aH 1 5 cQ (nW [0, 1, 2, 3, 4] []) (ao [(aC jn (az 6))]) (ao [(aa 3), (aa 5), (aC jn (az 7)), (aa 14), (aC jn (az 9))])))
    Ed)
def yt : M Fl :=
    (aD (bM 14 (aC jn (ye [18, 19] (zY (aa 8)) Jp Jq Jr)))
    Ef)
def Eh : M Fl :=
    (aD (iV (Oo (aV 10 (mC (.int 3)) bh)))
    yt)
def Ei : M Fl :=
    (aD (iV (G3 (aV 10 (mC (.int 2)) bh) (tW [(mC (.int 0)), (mC (.int 1))])))
    Eh)
def Ek : M Fl :=
    (aD (Az (Jj (aV 10 (mC (.int 2)) bh)) (aQ 13) uK)
    Ei)
def G9 : M Fl :=
    (aD (iV (G3 (aV 10 (mC (.int 1)) bh) (mC (.int 0))))
    Ek)
def zH : M Fl :=
    (aD (iV (G3 (aV 10 (mC (.int 0)) bh) (mC (.int 7))))
    G9)
def Cp : M Fl :=
    (aD (bB (aG V1 (aa 10) (aa 11))
    (aU (mC (.bl false)))
    (M.ret .nx))
    zH)
def Cr : M Fl :=
    (aD (bM 12 (aH 1 5 cQ (nW [0, 1, 2, 3, 4] []) (ao [(aV 10 (mC (.int 0)) bh)]) (ao [(aa 3), (aa 5), (aV 10 (mC (.int 1)) bh), (aV 10 (mC (.int 2)) bh), (aV 10 (mC (.int 3)) bh)])))
    Cp)
def Cu : M Fl :=
    (aD (bM 11 (dX [(cD (aC cR (az 6))), (cD (aC cR (az 7))), (cD (ye [13] (zY (aa 8)) Gi Gj Gk)), (cD (aC cR (az 9)))]))
    Cr)
def Cv : M Fl :=
    (aD (bM 10 (dX [(cD (aC cR (az 6))), (cD (aC cR (az 7))), (cD (ye [13] (zY (aa 8)) Gf Gg Gh)), (cD (aC cR (az 9)))]))
    Cu)
def xV : M Fl :=
    (aD (MP (aa 4) (zX 5 (cI (aQ 5) (cI (aQ 6) (cI (aQ 7) (cI (aQ 8) (cI (aQ 9) yJ)))))))
    Cv)
def Hf : M Fl :=
    (aD (bM 4 (aH 2 0 xU (aK []) (ao [(aa 2), (aa 3)]) (ao [])))
    xV)
def Hg : M Fl :=
    (aD (bM 3 (aG cA (mC (.int 2)) (bL (aH 2 0 dU (aK []) (ao [(aa 2), (mC (.int 3))]) (ao [])))))
    Hf)
def Ho : M Fl :=
    (aD (bM 2 (cD (aH 2 0 nj (aK []) (ao [(aa 0), (aa 1)]) (ao []))))
    Hg)
def Rc : M Fl :=
    (aD (jC (z7 (aG Oe (mC (.int 1)) (aG Og (mC (.int 63)) (aC cV (az 0))))) (aQ 1) Ho)
    (aU (mC (.bl true))))
def Yy : Fn := du 21 Rc
end
end L
namespace L
open PySem PySem.Spec L2 Pk GenP
section
variable {P : Program} {w : World} {K : PySem.W.Frag} {mg : Str → Option Value} {base : Heap}
theorem mU (c : aY K) (Y : K.In base) (G : base.Ns mainGlobals mg) : mg "_law_draw" = some (.ref (He.ga K "_law_draw")) := He.glo_ok Y G (c.fact 6 (f := .he (.glo "_law_draw")) rfl)
theorem Yz (c : aY K) (Y : K.In base) (G : base.Ns mainGlobals mg) : mg "_law_of" = some (.ref (He.ga K "_law_of")) := He.glo_ok Y G (c.fact 7 (f := .he (.glo "_law_of")) rfl)
theorem BL (c : aY K) (Y : K.In base) (G : base.Ns mainGlobals mg) : mg "_law_number" = some (.ref (He.ga K "_law_number")) := He.glo_ok Y G (c.fact 8 (f := .he (.glo "_law_number")) rfl)
theorem zr (c : aY K) (Y : K.In base) (G : base.Ns mainGlobals mg) : mg "is_integer" = some (.ref (He.ga K "is_integer")) := He.glo_ok Y G (c.fact 14 (f := .he (.glo "is_integer")) rfl)
theorem JW (c : aY K) (Y : K.In base) (G : base.Ns mainGlobals mg) : mg "is_ascending" = some (.ref (He.ga K "is_ascending")) := He.glo_ok Y G (c.fact 16 (f := .he (.glo "is_ascending")) rfl)
theorem T5 (c : aY K) (Y : K.In base) (G : base.Ns mainGlobals mg) : mg "are_counts" = some (.ref (He.ga K "are_counts")) := He.glo_ok Y G (c.fact 17 (f := .he (.glo "are_counts")) rfl)
theorem NK (c : aY K) (Y : K.In base) (G : base.Ns mainGlobals mg) : mg "is_inside" = some (.ref (He.ga K "is_inside")) := He.glo_ok Y G (c.fact 18 (f := .he (.glo "is_inside")) rfl)
theorem Jw (c : aY K) (Y : K.In base) (G : base.Ns mainGlobals mg) : mg "falls_without_restart" = some (.ref (He.ga K "falls_without_restart")) := He.glo_ok Y G (c.fact 19 (f := .he (.glo "falls_without_restart")) rfl)
theorem V9 (c : aY K) (Y : K.In base) (G : base.Ns mainGlobals mg) : mg "are_tails" = some (.ref (He.ga K "are_tails")) := He.glo_ok Y G (c.fact 20 (f := .he (.glo "are_tails")) rfl)
theorem Sy (c : aY K) (Y : K.In base) (G : base.Ns mainGlobals mg) : mg "first_fault" = some (.ref (He.ga K "first_fault")) := He.glo_ok Y G (c.fact 21 (f := .he (.glo "first_fault")) rfl)
theorem NP (c : aY K) (Y : K.In base) (G : base.Ns mainGlobals mg) : mg "_law_is_integer" = some (.ref (He.ga K "_law_is_integer")) := He.glo_ok Y G (c.fact 22 (f := .he (.glo "_law_is_integer")) rfl)
theorem mV (c : aY K) (Y : K.In base) (G : base.Ns mainGlobals mg) : mg "_law_are_integers" = some (.ref (He.ga K "_law_are_integers")) := He.glo_ok Y G (c.fact 23 (f := .he (.glo "_law_are_integers")) rfl)
theorem Ph (c : aY K) (Y : K.In base) (G : base.Ns mainGlobals mg) : mg "_law_are_pairs" = some (.ref (He.ga K "_law_are_pairs")) := He.glo_ok Y G (c.fact 24 (f := .he (.glo "_law_are_pairs")) rfl)
theorem SJ (c : aY K) (Y : K.In base) (G : base.Ns mainGlobals mg) : mg "_law_source" = some (.ref (He.ga K "_law_source")) := He.glo_ok Y G (c.fact 27 (f := .he (.glo "_law_source")) rfl)
theorem Wb (c : aY K) (Y : K.In base) (G : base.Ns mainGlobals mg) : mg "_law_life" = some (.ref (He.ga K "_law_life")) := He.glo_ok Y G (c.fact 28 (f := .he (.glo "_law_life")) rfl)
theorem Kr (c : aY K) (Y : K.In base) (G : base.Ns mainGlobals mg) : mg "Instance" = some (.ref (He.ga K "Instance")) := He.glo_ok Y G (c.fact 29 (f := .he (.glo "Instance")) rfl)
theorem HJ (c : aY K) (Y : K.In base) (G : base.Ns mainGlobals mg) : mg "_law_right" = some (.ref (He.ga K "_law_right")) := He.glo_ok Y G (c.fact 31 (f := .he (.glo "_law_right")) rfl)
theorem mW (c : aY K) (Y : K.In base) (G : base.Ns mainGlobals mg) : mg "len" = none := He.free_ok Y G (c.fact 3 (f := .he (.free "len")) rfl)
theorem ZM (c : aY K) (Y : K.In base) (G : base.Ns mainGlobals mg) : mg "abs" = none := He.free_ok Y G (c.fact 4 (f := .he (.free "abs")) rfl)
theorem Jx (c : aY K) (Y : K.In base) (G : base.Ns mainGlobals mg) : mg "int" = none := He.free_ok Y G (c.fact 5 (f := .he (.free "int")) rfl)
theorem De (c : aY K) (Y : K.In base) (G : base.Ns mainGlobals mg) : mg "range" = none := He.free_ok Y G (c.fact 9 (f := .he (.free "range")) rfl)
theorem tV (c : aY K) (Y : K.In base) (G : base.Ns mainGlobals mg) : mg "list" = none := He.free_ok Y G (c.fact 10 (f := .he (.free "list")) rfl)
theorem fK (c : aY K) (Y : K.In base) (G : base.Ns mainGlobals mg) : mg "isinstance" = none := He.free_ok Y G (c.fact 11 (f := .he (.free "isinstance")) rfl)
theorem Xj (c : aY K) (Y : K.In base) (G : base.Ns mainGlobals mg) : mg "bool" = none := He.free_ok Y G (c.fact 12 (f := .he (.free "bool")) rfl)
theorem jh (c : aY K) (Y : K.In base) (G : base.Ns mainGlobals mg) : mg "tuple" = none := He.free_ok Y G (c.fact 13 (f := .he (.free "tuple")) rfl)
theorem Wc (c : aY K) (Y : K.In base) (G : base.Ns mainGlobals mg) : mg "enumerate" = none := He.free_ok Y G (c.fact 15 (f := .he (.free "enumerate")) rfl)
theorem ad3 (c : aY K) (Y : K.In base) (G : base.Ns mainGlobals mg) : mg "min" = none := He.free_ok Y G (c.fact 25 (f := .he (.free "min")) rfl)
theorem ad4 (c : aY K) (Y : K.In base) (G : base.Ns mainGlobals mg) : mg "max" = none := He.free_ok Y G (c.fact 26 (f := .he (.free "max")) rfl)
theorem ad5 (c : aY K) (Y : K.In base) (G : base.Ns mainGlobals mg) : mg "sum" = none := He.free_ok Y G (c.fact 30 (f := .he (.free "sum")) rfl)
theorem PQ (c : aY K) {X : Cx} (hK : X.K = K) : M4 X (T K) "readings" xR := by
 subst hK
 exact ⟨d7 (Q := fun c _ => Cls X.K ((T X.K).cad c)) (.cons (He.cls_ok (c.fact 32 (f := .he (.cls "Instance")) rfl)) .nil),
  d7 (Q := fun c _ => NoAttr X.K ((T X.K).cad c) "readings") (.cons (He.noat_ok (c.fact 33 (f := .he (.noat "Instance" "readings")) rfl)) .nil),
  d7 (Q := fun c _ => ((T X.K).fld c).Nodup ∧ ((T X.K).fld c).length < 1000) (.cons ⟨(by show (fld 0).Nodup; decide +kernel), (by show (fld 0).length < 1000; decide)⟩ .nil),
  d7 (Q := fun (c i : Nat) => ((T X.K).fld c)[i]? = some (("readings" : Str))) (.cons rfl .nil)⟩
theorem Qz (c : aY K) {X : Cx} (hK : X.K = K) : M4 X (T K) "start" yV := by
 subst hK
 exact ⟨d7 (Q := fun c _ => Cls X.K ((T X.K).cad c)) (.cons (He.cls_ok (c.fact 32 (f := .he (.cls "Instance")) rfl)) .nil),
  d7 (Q := fun c _ => NoAttr X.K ((T X.K).cad c) "start") (.cons (He.noat_ok (c.fact 34 (f := .he (.noat "Instance" "start")) rfl)) .nil),
  d7 (Q := fun c _ => ((T X.K).fld c).Nodup ∧ ((T X.K).fld c).length < 1000) (.cons ⟨(by show (fld 0).Nodup; decide +kernel), (by show (fld 0).length < 1000; decide)⟩ .nil),
  d7 (Q := fun (c i : Nat) => ((T X.K).fld c)[i]? = some (("start" : Str))) (.cons rfl .nil)⟩
theorem NQ (c : aY K) {X : Cx} (hK : X.K = K) : M4 X (T K) "counts" xJ := by
 subst hK
 exact ⟨d7 (Q := fun c _ => Cls X.K ((T X.K).cad c)) (.cons (He.cls_ok (c.fact 32 (f := .he (.cls "Instance")) rfl)) .nil),
  d7 (Q := fun c _ => NoAttr X.K ((T X.K).cad c) "counts") (.cons (He.noat_ok (c.fact 35 (f := .he (.noat "Instance" "counts")) rfl)) .nil),
  d7 (Q := fun c _ => ((T X.K).fld c).Nodup ∧ ((T X.K).fld c).length < 1000) (.cons ⟨(by show (fld 0).Nodup; decide +kernel), (by show (fld 0).length < 1000; decide)⟩ .nil),
  d7 (Q := fun (c i : Nat) => ((T X.K).fld c)[i]? = some (("counts" : Str))) (.cons rfl .nil)⟩
theorem P0 (c : aY K) {X : Cx} (hK : X.K = K) : M4 X (T K) "restarts" xT := by
 subst hK
 exact ⟨d7 (Q := fun c _ => Cls X.K ((T X.K).cad c)) (.cons (He.cls_ok (c.fact 32 (f := .he (.cls "Instance")) rfl)) .nil),
  d7 (Q := fun c _ => NoAttr X.K ((T X.K).cad c) "restarts") (.cons (He.noat_ok (c.fact 36 (f := .he (.noat "Instance" "restarts")) rfl)) .nil),
  d7 (Q := fun c _ => ((T X.K).fld c).Nodup ∧ ((T X.K).fld c).length < 1000) (.cons ⟨(by show (fld 0).Nodup; decide +kernel), (by show (fld 0).length < 1000; decide)⟩ .nil),
  d7 (Q := fun (c i : Nat) => ((T X.K).fld c)[i]? = some (("restarts" : Str))) (.cons rfl .nil)⟩
theorem We (c : aY K) {X : Cx} (hK : X.K = K) : M4 X (T K) "tails" Dc := by
 subst hK
 exact ⟨d7 (Q := fun c _ => Cls X.K ((T X.K).cad c)) (.cons (He.cls_ok (c.fact 32 (f := .he (.cls "Instance")) rfl)) .nil),
  d7 (Q := fun c _ => NoAttr X.K ((T X.K).cad c) "tails") (.cons (He.noat_ok (c.fact 37 (f := .he (.noat "Instance" "tails")) rfl)) .nil),
  d7 (Q := fun c _ => ((T X.K).fld c).Nodup ∧ ((T X.K).fld c).length < 1000) (.cons ⟨(by show (fld 0).Nodup; decide +kernel), (by show (fld 0).length < 1000; decide)⟩ .nil),
  d7 (Q := fun (c i : Nat) => ((T X.K).fld c)[i]? = some (("tails" : Str))) (.cons rfl .nil)⟩
theorem Xk (c : aY K) {X : Cx} (hK : X.K = K) : M4 X (T K) "lost" Fp := by
 subst hK
 exact ⟨d7 (Q := fun c _ => Cls X.K ((T X.K).cad c)) (.cons (He.cls_ok (c.fact 32 (f := .he (.cls "Instance")) rfl)) .nil),
  d7 (Q := fun c _ => NoAttr X.K ((T X.K).cad c) "lost") (.cons (He.noat_ok (c.fact 38 (f := .he (.noat "Instance" "lost")) rfl)) .nil),
  d7 (Q := fun c _ => ((T X.K).fld c).Nodup ∧ ((T X.K).fld c).length < 1000) (.cons ⟨(by show (fld 0).Nodup; decide +kernel), (by show (fld 0).length < 1000; decide)⟩ .nil),
  d7 (Q := fun (c i : Nat) => ((T X.K).fld c)[i]? = some (("lost" : Str))) (.cons rfl .nil)⟩
theorem Ba (c : aY K) : RQ K (T K) fG := adf .nil
theorem QC (c : aY K) (Y : K.In base) (G : base.Ns mainGlobals mg) : Does P w K mg base (T K) 0 Mi "_law_source" (defScope uX) (defBody uX) zq := by
 intro f cdv A outer s H E C
 exact (aJ (Hk C 2 (s_if (fQ cmp_lt (ak 1) (jB (bQ 0) (mW c Y G))) (cG 0 (ak 1)) aA))
  (aJ (Hk C 3 (s_if (fQ cmp_ge (Za (ak 2) (ZM c Y G)) (MF aA aA)) (Za (ak 2) (ZM c Y G)) aA))
  (aW (s_ret (tZ (aq (ak 3) (aq (cU (jk (cU (jk (Mz (KC (ak 2) (Jx c Y G)) aA) (Us aA (ak 1)))) aA)) (aq aA aN))))))))
theorem SM (c : aY K) (Y : K.In base) (G : base.Ns mainGlobals mg) : ∃ fd : FuncData, u6 P w K mg base (T K) 1 (Ht.adr K) fd Hr nj ∧ Bn K (T K) fd Hr 2 [] (aK []) := by
 obtain ⟨fd, F⟩ := c.def_ 0 (d := Ht) rfl
 exact ⟨fd, ⟨fn_sim F R4 (QC c Y G), F.kp⟩, (uf (FunD.bindsN F fun _ _ _ _ _ _ us hl => match us, hl with | [_, _], _ => (by kernel_rfl)))⟩
theorem SN (c : aY K) (Y : K.In base) (G : base.Ns mainGlobals mg) : Does P w K mg base (T K) 0 Py "_law_draw" (defScope zA) (defBody zA) G5 := by
 intro f cdv A outer s H E C
 exact (aJ (fM (fQ cmp_gt (cG 0 aA) aA)
  (aJ (Hk C 2 (Mz (KC (cG 0 aA) (Jx c Y G)) (ak 1)))
  (aJ (U5 0 (YZ (cG 0 aA) (ak 1)) aA)
  (aW (s_ret (abK 2)))))
  dZ)
  (aJ (U5 0 (cU (jk (cG 0 aA) aA)) aA)
  (aJ (Hk C 3 (Mz (KC (MF (cU (jk (cG 0 aA) (Us aA (cG 0 aA)))) aA) (Jx c Y G)) aA))
  (aJ (Hk C 3 (Mz (KC (MF (cU (jk (ak 3) (Us aA (cG 0 aA)))) aA) (Jx c Y G)) aA))
  (aW (s_ret (dh (Mz (KC (YZ (ak 3) aA) (Jx c Y G)) (ak 1)))))))))
theorem El (c : aY K) (Y : K.In base) (G : base.Ns mainGlobals mg) : ∃ fd : FuncData, u6 P w K mg base (T K) 1 (Kc.adr K) fd Ka dU ∧ Bn K (T K) fd Ka 2 [] (aK []) := by
 obtain ⟨fd, F⟩ := c.def_ 1 (d := Kc) rfl
 exact ⟨fd, ⟨fn_sim F Vi (SN c Y G), F.kp⟩, (uf (FunD.bindsN F fun _ _ _ _ _ _ us hl => match us, hl with | [_, _], _ => (by kernel_rfl)))⟩
theorem Wf (c : aY K) (Y : K.In base) (G : base.Ns mainGlobals mg) : Does P w K mg base (T K) 1 Tt "_law_of" (defScope Dg) (defBody Dg) Nz := by
 obtain ⟨fd__law_draw, F__law_draw, B__law_draw_0⟩ := El (P := P) (w := w) c Y G
 intro f cdv A outer s H E C
 exact (aW (s_ret (dh (cG 1 (cU (bO C F__law_draw (by decide) B__law_draw_0 (mU c Y G) (aq (ak 0) (aq (jB (bQ 1) (mW c Y G)) aN))))))))
theorem YB (c : aY K) (Y : K.In base) (G : base.Ns mainGlobals mg) : ∃ fd : FuncData, u6 P w K mg base (T K) 2 (M8.adr K) fd M7 JT ∧ Bn K (T K) fd M7 2 [] (aK []) := by
 obtain ⟨fd, F⟩ := c.def_ 2 (d := M8) rfl
 exact ⟨fd, ⟨fn_sim F XM (Wf c Y G), F.kp⟩, (uf (FunD.bindsN F fun _ _ _ _ _ _ us hl => match us, hl with | [_, _], _ => (by kernel_rfl)))⟩
theorem QD (c : aY K) (Y : K.In base) (G : base.Ns mainGlobals mg) : Does P w K mg base (T K) 2 Mj "_law_number" (defScope uY) (defBody uY) HF := by
 obtain ⟨fd__law_draw, F__law_draw, B__law_draw_0⟩ := El (P := P) (w := w) c Y G
 obtain ⟨fd__law_of, F__law_of, B__law_of_0⟩ := YB (P := P) (w := w) c Y G
 intro f cdv A outer s H E C
 exact (aW (s_ret (bO C F__law_draw (by decide) B__law_draw_0 (mU c Y G) (aq (ak 0) (aq (cU (bO C F__law_of (by decide) B__law_of_0 (Yz c Y G) (aq (ak 0) (aq (cU (tZ (aq aA (aq aA (aq aA (aq aA (aq aA (aq aA (aq (MF aA aA) (aq (MF aA aA) aN)))))))))) aN)))) aN)))))
theorem SQ (c : aY K) (Y : K.In base) (G : base.Ns mainGlobals mg) : ∃ fd : FuncData, u6 P w K mg base (T K) 3 (Hv.adr K) fd Hu tY ∧ Bn K (T K) fd Hu 1 [] (aK []) := by
 obtain ⟨fd, F⟩ := c.def_ 3 (d := Hv) rfl
 exact ⟨fd, ⟨fn_sim F R5 (QD c Y G), F.kp⟩, (uf (FunD.bindsN F fun _ _ _ _ _ _ us hl => match us, hl with | [_], _ => (by kernel_rfl)))⟩
theorem S7 (c : aY K) (Y : K.In base) (G : base.Ns mainGlobals mg) : Does P w K mg base (T K) 3 PB "_law_life" (defScope zB) (defBody zB) G6 := by
 obtain ⟨fd__law_draw, F__law_draw, B__law_draw_0⟩ := El (P := P) (w := w) c Y G
 obtain ⟨fd__law_number, F__law_number, B__law_number_0⟩ := SQ (P := P) (w := w) c Y G
 intro f cdv A outer s H E C
 exact (aJ (ac1 C (Iz (dh aA) (Iz (dh (ak 1)) (Iz (tZ aN) (Iz (tZ aN) (Iz (tZ aN) abU))))) (IK C 2 (IK C 3 (IK C 4 (IK C 5 (IK C 6 abV))))))
  (aJ (fM (fQ (cmp_eq C) (cU (bO C F__law_draw (by decide) B__law_draw_0 (mU c Y G) (aq (ak 0) (aq aA aN)))) (uL aA))
  (aJ (z8 C 2 (bO C F__law_draw (by decide) B__law_draw_0 (mU c Y G) (aq (ak 0) (aq (ak 1) aN))))
  (aW (z8 C 3 (jk aA (cU (bO C F__law_draw (by decide) B__law_draw_0 (mU c Y G) (aq (ak 0) (aq (zp (ak 1) (ak 2)) aN))))))))
  dZ)
  (aJ (z8 C 7 (tZ (aq (cU (bO C F__law_number (by decide) B__law_number_0 (BL c Y G) (aq (ak 0) aN))) aN)))
  (aJ (Lh C (RL aA (ak 3) (De c Y G)) (cP C 8)
  (aW (fM (fQ (cmp_eq C) (cU (bO C F__law_draw (by decide) B__law_draw_0 (mU c Y G) (aq (ak 0) (aq aA aN)))) (uL aA))
  (aJ (Ck (Ii 4 (zp (cU (jk (ak 2) (ak 8))) aA)))
  (aW (Ck (Ii 7 (cU (bO C F__law_number (by decide) B__law_number_0 (BL c Y G) (aq (ak 0) aN)))))))
  (aW (Ck (Ii 7 (cU (jk (cG 7 (Y0 aA)) (cU (bO C F__law_number (by decide) B__law_number_0 (BL c Y G) (aq (ak 0) aN)))))))))))
  (aJ (z8 C 9 (s_if (fQ cmp_lt (cU (jk (ak 2) (ak 3))) (ak 1)) (jk (ak 4) (cU (tZ (aq (zp (cU (jk (ak 2) (ak 3))) aA) aN)))) (zu (bQ 4) (tV c Y G))))
  (aJ (Lh C (Hj (ak 9)) (cP C 10)
  (aW (fM (fQ (cmp_eq C) (cU (bO C F__law_draw (by decide) B__law_draw_0 (mU c Y G) (aq (ak 0) (aq aA aN)))) (uL aA))
  (aW (Ck (Ii 5 (Cj (aq (ak 10) (aq (cU (jk aA (cU (bO C F__law_number (by decide) B__law_number_0 (BL c Y G) (aq (ak 0) aN))))) aN))))))
  dZ)))
  (aJ (Lh C (RL (ak 2) (cU (jk (ak 2) (ak 3))) (De c Y G)) (cP C 8)
  (aW (fM (fQ (cmp_eq C) (cU (bO C F__law_draw (by decide) B__law_draw_0 (mU c Y G) (aq (ak 0) (aq aA aN)))) (uL aA))
  (aW (Ck (Ii 6 (ak 8))))
  dZ)))
  (aW (s_ret (dh (Cj (aq (ak 2) (aq (ak 7) (aq (ak 4) (aq (ak 5) (aq (ak 6) aN))))))))))))))))
theorem Wg (c : aY K) (Y : K.In base) (G : base.Ns mainGlobals mg) : ∃ fd : FuncData, u6 P w K mg base (T K) 4 (Ke.adr K) fd Kd xU ∧ Bn K (T K) fd Kd 2 [] (aK []) := by
 obtain ⟨fd, F⟩ := c.def_ 4 (d := Ke) rfl
 exact ⟨fd, ⟨fn_sim F Vj (S7 c Y G), F.kp⟩, (uf (FunD.bindsN F fun _ _ _ _ _ _ us hl => match us, hl with | [_, _], _ => (by kernel_rfl)))⟩
theorem HQ (c : aY K) (Y : K.In base) (G : base.Ns mainGlobals mg) : Does P w K mg base (T K) 0 BP "falls_without_restart" (defScope d9) (defBody d9) nA := by
 intro f cdv A outer s H E C
 exact (aJ (Lh C (RL aA (jB (bQ 0) (mW c Y G)) (De c Y G)) (cP C 3)
  (aW (fM (Bm (Y5 (fQ cmp_lt (cG 0 (ak 3)) (cG 0 (zp (ak 3) aA))) (WK (fQ (WD) (zp (cU (jk (ak 1) (ak 3))) aA) (bQ 2)))))
  (aW (s_ret (dh xW)))
  dZ)))
  (aW (s_ret (dh xW))))
theorem Jy (c : aY K) (Y : K.In base) (G : base.Ns mainGlobals mg) : ∃ fd : FuncData, u6 P w K mg base (T K) 1 (uR.adr K) fd uQ nH ∧ Bn K (T K) fd uQ 3 [] (aK []) := by
 obtain ⟨fd, F⟩ := c.def_ 5 (d := uR) rfl
 exact ⟨fd, ⟨fn_sim F Ja (HQ c Y G), F.kp⟩, (uf (FunD.bindsN F fun _ _ _ _ _ _ us hl => match us, hl with | [_, _, _], _ => (by kernel_rfl)))⟩
theorem Rg (c : aY K) (Y : K.In base) (G : base.Ns mainGlobals mg) : Does P w K mg base (T K) 0 M9 "is_integer" (defScope yj) (defBody yj) Jm := by
 intro f cdv A outer s H E C
 exact (aW (s_ret (dh (Ky (Cm (Ba c) (ak 0) (Aa (t := "int") (Jx c Y G)) (fK c Y G)) (Iw (Y6 (Cm (Ba c) (ak 0) (Aa (t := "bool") (Xj c Y G)) (fK c Y G))))))))
theorem CN (c : aY K) (Y : K.In base) (G : base.Ns mainGlobals mg) : ∃ fd : FuncData, u6 P w K mg base (T K) 1 (Jc.adr K) fd Jb o5 ∧ Bn K (T K) fd Jb 1 [] (aK []) := by
 obtain ⟨fd, F⟩ := c.def_ 6 (d := Jc) rfl
 exact ⟨fd, ⟨fn_sim F TV (Rg c Y G), F.kp⟩, (uf (FunD.bindsN F fun _ _ _ _ _ _ us hl => match us, hl with | [_], _ => (by kernel_rfl)))⟩
theorem Rh (c : aY K) (Y : K.In base) (G : base.Ns mainGlobals mg) : Does P w K mg base (T K) 1 Nb "are_counts" (defScope ym) (defBody ym) Jo := by
 obtain ⟨fd_is_integer, F_is_integer, B_is_integer_0⟩ := CN (P := P) (w := w) c Y G
 intro f cdv A outer s H E C
 exact (aJ (fM (Bm (Bo (dY (fB (uL (Cm (Ba c) (ak 0) (Cj (aq (Aa (t := "list") (tV c Y G)) (aq (Aa (t := "tuple") (jh c Y G)) aN))) (fK c Y G))))) (Av (dY (Qn cmp_le cmp_le aA (jB (bQ 0) (mW c Y G)) (ak 1))))))
  (aW (s_ret (dh xW)))
  dZ)
  (aW (s_ret (dh (Iv (cmp_eq C) (jB (eG (Zz C [("value", 2)] (ak 0) (by decide) ((fun _ _ _ _ _ => (cP (Cq.blk C) 2))) ((fun _ _ _ _ _ => (Om (Bm (Bo (dY (fB (eG (bO (Cq.blk C) F_is_integer (by decide) B_is_integer_0 (zr c Y G) (aq (ak 2) aN))))) (Av (fQ cmp_lt (ak 2) aA))))))) ((fun _ _ _ _ _ => (ak 2))) (blkOk_by rfl))) (mW c Y G)) (uL aA))))))
theorem T6 (c : aY K) (Y : K.In base) (G : base.Ns mainGlobals mg) : ∃ fd : FuncData, u6 P w K mg base (T K) 2 (Je.adr K) fd Jd Ea ∧ Bn K (T K) fd Jd 2 [] (aK []) := by
 obtain ⟨fd, F⟩ := c.def_ 7 (d := Je) rfl
 exact ⟨fd, ⟨fn_sim F TX (Rh c Y G), F.kp⟩, (uf (FunD.bindsN F fun _ _ _ _ _ _ us hl => match us, hl with | [_, _], _ => (by kernel_rfl)))⟩
theorem Pj (c : aY K) (Y : K.In base) (G : base.Ns mainGlobals mg) : Does P w K mg base (T K) 1 KN "is_ascending" (defScope ux) (defBody ux) FP := by
 obtain ⟨fd_is_integer, F_is_integer, B_is_integer_0⟩ := CN (P := P) (w := w) c Y G
 intro f cdv A outer s H E C
 exact (aJ (fM (dY (fB (uL (Cm (Ba c) (ak 0) (Cj (aq (Aa (t := "list") (tV c Y G)) (aq (Aa (t := "tuple") (jh c Y G)) aN))) (fK c Y G)))))
  (aW (s_ret (dh xW)))
  dZ)
  (aJ (ace C (ak 0) (Wc c Y G) (QV C (fV (cP C 1) (fV (cP C 2) KH)))
  (aW (fM (Bm (Bo (dY (fB (eG (bO C F_is_integer (by decide) B_is_integer_0 (zr c Y G) (aq (ak 2) aN))))) (Av (Bm (Y5 (fQ cmp_gt (ak 1) aA) (WK (fQ cmp_le (ak 2) (cG 0 (zp (ak 1) aA)))))))))
  (aW (s_ret (dh xW)))
  dZ)))
  (aW (s_ret (dh xW)))))
theorem JX (c : aY K) (Y : K.In base) (G : base.Ns mainGlobals mg) : ∃ fd : FuncData, u6 P w K mg base (T K) 2 (Ff.adr K) fd Fe yr ∧ Bn K (T K) fd Fe 1 [] (aK []) := by
 obtain ⟨fd, F⟩ := c.def_ 8 (d := Ff) rfl
 exact ⟨fd, ⟨fn_sim F Q3 (Pj c Y G), F.kp⟩, (uf (FunD.bindsN F fun _ _ _ _ _ _ us hl => match us, hl with | [_], _ => (by kernel_rfl)))⟩
theorem S8 (c : aY K) (Y : K.In base) (G : base.Ns mainGlobals mg) : Does P w K mg base (T K) 2 PL "is_inside" (defScope zE) (defBody zE) G7 := by
 obtain ⟨fd_is_ascending, F_is_ascending, B_is_ascending_0⟩ := JX (P := P) (w := w) c Y G
 intro f cdv A outer s H E C
 exact (aW (s_ret (dh (Ky (cU (bO C F_is_ascending (by decide) B_is_ascending_0 (JW c Y G) (aq (ak 0) aN))) (Iw (aee (Iv (cmp_eq C) (jB (bQ 0) (mW c Y G)) (uL aA)) (Iw (Ky (Iv cmp_le (ak 1) (cG 0 aA)) (Iw (Iv cmp_le (cG 0 (Y0 aA)) (ak 2)))))))))))
theorem Wh (c : aY K) (Y : K.In base) (G : base.Ns mainGlobals mg) : ∃ fd : FuncData, u6 P w K mg base (T K) 3 (Kh.adr K) fd Kg zG ∧ Bn K (T K) fd Kg 3 [] (aK []) := by
 obtain ⟨fd, F⟩ := c.def_ 9 (d := Kh) rfl
 exact ⟨fd, ⟨fn_sim F Vk (S8 c Y G), F.kp⟩, (uf (FunD.bindsN F fun _ _ _ _ _ _ us hl => match us, hl with | [_, _, _], _ => (by kernel_rfl)))⟩
theorem S9 (c : aY K) (Y : K.In base) (G : base.Ns mainGlobals mg) : Does P w K mg base (T K) 2 PN "are_tails" (defScope zF) (defBody zF) Ko := by
 obtain ⟨fd_is_ascending, F_is_ascending, B_is_ascending_0⟩ := JX (P := P) (w := w) c Y G
 obtain ⟨fd_is_integer, F_is_integer, B_is_integer_0⟩ := CN (P := P) (w := w) c Y G
 intro f cdv A outer s H E C
 exact (aJ (fM (dY (fB (uL (Cm (Ba c) (ak 0) (Cj (aq (Aa (t := "list") (tV c Y G)) (aq (Aa (t := "tuple") (jh c Y G)) aN))) (fK c Y G)))))
  (aW (s_ret (dh xW)))
  dZ)
  (aJ (adI C (ak 0) (cP C 2)
  (aW (fM (Bm (Bo (dY (fB (uL (Cm (Ba c) (ak 2) (Cj (aq (Aa (t := "list") (tV c Y G)) (aq (Aa (t := "tuple") (jh c Y G)) aN))) (fK c Y G))))) (Bo (fQ (QR C) (jB (bQ 2) (mW c Y G)) (uL aA)) (Bo (dY (fB (eG (bO C F_is_integer (by decide) B_is_integer_0 (zr c Y G) (aq (cG 2 aA) aN))))) (Av (fQ cmp_lt (cG 2 aA) aA))))))
  (aW (s_ret (dh xW)))
  dZ)))
  (aJ (aaD C 3 [("pair", 2)] (ak 0) (by decide) ((fun _ _ _ _ _ => (cP (Cq.blk C) 2))) ((fun _ _ _ _ _ => Ih)) ((fun _ _ _ _ _ => (cG 2 aA))) (blkOk_by rfl) (sw_true rfl rfl rfl rfl))
  (aW (s_ret (dh (Ky (cU (bO C F_is_ascending (by decide) B_is_ascending_0 (JW c Y G) (aq (ak 3) aN))) (Iw (Iv (cmp_eq C) (jB (eG (Ol C [("gap", 4)] (Hj (ak 3)) (by decide) (fun _ _ _ _ _ => (cP (Cq.blk C) 4)) (fun _ _ _ _ _ => (Om (fQ (WD) (ak 4) (bQ 1)))) (fun _ _ _ _ _ => (ak 4)) (blkOk_by rfl))) (mW c Y G)) (uL aA))))))))))
theorem Wi (c : aY K) (Y : K.In base) (G : base.Ns mainGlobals mg) : ∃ fd : FuncData, u6 P w K mg base (T K) 3 (Km.adr K) fd Kl G8 ∧ Bn K (T K) fd Kl 2 [] (aK []) := by
 obtain ⟨fd, F⟩ := c.def_ 10 (d := Km) rfl
 exact ⟨fd, ⟨fn_sim F Vl (S9 c Y G), F.kp⟩, (uf (FunD.bindsN F fun _ _ _ _ _ _ us hl => match us, hl with | [_, _], _ => (by kernel_rfl)))⟩
theorem QF (c : aY K) (Y : K.In base) (G : base.Ns mainGlobals mg) : Does P w K mg base (T K) 3 Ml "first_fault" (defScope uZ) (defBody uZ) CK := by
 obtain ⟨fd_are_counts, F_are_counts, B_are_counts_0⟩ := T6 (P := P) (w := w) c Y G
 obtain ⟨fd_are_tails, F_are_tails, B_are_tails_0⟩ := Wi (P := P) (w := w) c Y G
 obtain ⟨fd_falls_without_restart, F_falls_without_restart, B_falls_without_restart_0⟩ := Jy (P := P) (w := w) c Y G
 obtain ⟨fd_is_inside, F_is_inside, B_is_inside_0⟩ := Wh (P := P) (w := w) c Y G
 obtain ⟨fd_is_integer, F_is_integer, B_is_integer_0⟩ := CN (P := P) (w := w) c Y G
 intro f cdv A outer s H E C
 exact (aJ (fM (Bm (Bo (dY (fB (eG (bO C F_is_integer (by decide) B_is_integer_0 (zr c Y G) (aq (ak 1) aN))))) (Av (dY (Qn cmp_le cmp_le aA (ak 1) aA)))))
  (aW (s_ret (dh Ir)))
  dZ)
  (aJ (fM (Bm (Bo (dY (fB (eG (bO C F_is_integer (by decide) B_is_integer_0 (zr c Y G) (aq (ak 2) aN))))) (Av (dY (Qn cmp_le cmp_lt aA (ak 2) (ak 1))))))
  (aW (s_ret (dh Ir)))
  dZ)
  (aJ (fM (dY (fB (eG (bO C F_are_counts (by decide) B_are_counts_0 (T5 c Y G) (aq (ak 0) (aq (zp (ak 1) (ak 2)) aN))))))
  (aW (s_ret (dh Ir)))
  dZ)
  (aJ (Hk C 6 (zp (cU (jk (ak 2) (jB (bQ 0) (mW c Y G)))) aA))
  (aJ (fM (dY (fB (eG (bO C F_is_inside (by decide) B_is_inside_0 (NK c Y G) (aq (ak 3) (aq (ak 2) (aq (zp (ak 6) aA) aN)))))))
  (aW (s_ret (dh Ir)))
  dZ)
  (aJ (fM (fB (eG (bO C F_falls_without_restart (by decide) B_falls_without_restart_0 (Jw c Y G) (aq (ak 0) (aq (ak 2) (aq (ak 3) aN))))))
  (aW (s_ret (dh Ir)))
  dZ)
  (aJ (z8 C 7 (zu (bQ 3) (tV c Y G)))
  (aJ (fM (fQ cmp_lt (ak 6) (zp (ak 1) aA))
  (aW (Ck (Ii 7 (ak 6))))
  dZ)
  (aJ (fM (dY (fB (eG (bO C F_are_tails (by decide) B_are_tails_0 (V9 c Y G) (aq (ak 4) (aq (ak 7) aN))))))
  (aW (s_ret (dh Ir)))
  dZ)
  (aJ (fM (dY (fB (eG (bO C F_is_inside (by decide) B_is_inside_0 (NK c Y G) (aq (ak 5) (aq (ak 2) (aq (ak 6) aN)))))))
  (aW (s_ret (dh Ir)))
  dZ)
  (aW (s_ret (dh YW)))))))))))))
theorem Tc (c : aY K) (Y : K.In base) (G : base.Ns mainGlobals mg) : ∃ fd : FuncData, u6 P w K mg base (T K) 4 (HD.adr K) fd Hz HH ∧ Bn K (T K) fd Hz 6 [] (aK []) := by
 obtain ⟨fd, F⟩ := c.def_ 11 (d := HD) rfl
 exact ⟨fd, ⟨fn_sim F R6 (QF c Y G), F.kp⟩, (uf (FunD.bindsN F fun _ _ _ _ _ _ us hl => match us, hl with | [_, _, _, _, _, _], _ => (by kernel_rfl)))⟩
theorem JD (c : aY K) (Y : K.In base) (G : base.Ns mainGlobals mg) : Does P w K mg base (T K) 4 Dq "Instance.__init__" (defScope fO) (defBody fO) zj := by
 obtain ⟨fd_first_fault, F_first_fault, B_first_fault_0⟩ := Tc (P := P) (w := w) c Y G
 intro f cdv A outer s H E C
 exact (aJ (z8 C 7 (bO C F_first_fault (by decide) B_first_fault_0 (Sy c Y G) (aq (ak 1) (aq (ak 2) (aq (ak 3) (aq (ak 4) (aq (ak 5) (aq (ak 6) aN))))))))
  (aJ (fM (fQ abN (ak 7) YW)
  (aW abX)
  dZ)
  (aJ (Fd 0 (PQ c rfl) (ak 2))
  (aJ (Fd 0 (Qz c rfl) (ak 3))
  (aJ (Fd 0 (NQ c rfl) (yH (bQ 1) (jh c Y G)))
  (aJ (Fd 0 (P0 c rfl) (yH (bQ 4) (jh c Y G)))
  (aJ (Fd 0 (We c rfl) (yH (eG (Zz C [("gap", 8), ("many", 9)] (ak 5) (by decide) ((fun _ _ _ _ _ => (adJ (Cq.blk C) (fV (cP (Cq.blk C) 8) (fV (cP (Cq.blk C) 9) KH))))) ((fun _ _ _ _ _ => Ih)) ((fun _ _ _ _ _ => (Cj (aq (ak 8) (aq (ak 9) aN))))) (blkOk_by rfl))) (jh c Y G)))
  (aW (Fd 0 (Xk c rfl) (yH (bQ 6) (jh c Y G)))))))))))
theorem K9 (c : aY K) (Y : K.In base) (G : base.Ns mainGlobals mg) : ∃ fd : FuncData, FnI P w K mg base (T K) 5 0 (yM.adr K) fd fP cQ ∧ BnI K (T K) fd fP 1 ["readings", "start", "restarts", "tails", "lost"] (nW [0, 1, 2, 3, 4] []) ∧ BnI K (T K) fd fP 1 ["readings"] (nW [0, 1, 2, 3, 4] [.int 0, .tup [], .tup [], .tup []]) := by
 obtain ⟨fd, F⟩ := c.def_ 12 (d := yM) rfl
 obtain ⟨mv0, kb0⟩ := FunD.kbinds0 F (ps := fP) 2 ["readings", "start", "restarts", "tails", "lost"] [] (fun us mv ws => WY [0, 1, 2, 3, 4] us mv ws) (by exact List.cons_ne_nil _ _) (Zo [] rfl) (fun r1 r2 r3 => r1.append (JN _ (r3.append r2))) (by
  intro D doc pm an cdv ct us mv ws l1 l2 l3
  match us, mv, ws, l1, l2, l3 with
  | [u0, u1], [], [w0, w1, w2, w3, w4], _, _, _ => (show bindArgs _ _ = pure _; kernel_rfl))
 obtain ⟨mv1, kb1⟩ := FunD.kbinds0 F (ps := fP) 2 ["readings"] [("start", He.Dv.v K (.int 0)), ("restarts", He.Dv.v K (.adr (IW (fun K => He.ma K (He.ga K "Instance") "__init__") "restarts"))), ("tails", He.Dv.v K (.adr (IW (fun K => He.ma K (He.ga K "Instance") "__init__") "tails"))), ("lost", He.Dv.v K (.adr (IW (fun K => He.ma K (He.ga K "Instance") "__init__") "lost")))] (fun us mv ws => WY [0, 1, 2, 3, 4] us mv ws) (by exact List.cons_ne_nil _ _) (Zo [0, 1, 2, 3] rfl) (fun r1 r2 r3 => r1.append (JN _ (r3.append r2))) (by
  intro D doc pm an cdv ct us mv ws l1 l2 l3
  match us, mv, ws, l1, l2, l3 with
  | [u0, u1], [v0, v1, v2, v3], [w0], _, _, _ => exact ⟨_, _, _, _, _, _, rfl, rfl, ⟨_, _, _, _, _, _, rfl, rfl, ⟨_, _, _, _, _, _, rfl, rfl, ⟨_, _, _, _, _, _, rfl, rfl, rfl⟩⟩⟩⟩)
 exact ⟨fd, ⟨ab0 0 F KQ (JD c Y G), He.mkr_ok (c.fact 40 (f := .he (.mkr "Instance")) rfl)⟩, ⟨_, _, fun vs zs => WY [0, 1, 2, 3, 4] vs (([] : List (Str × V)).map (·.2)) zs, kb0, fun _ _ _ _ _ => rfl, W0 [0, 1, 2, 3, 4] (fun _ => .nil) (by decide) (by decide)⟩, ⟨_, _, fun vs zs => WY [0, 1, 2, 3, 4] vs (([("start", He.Dv.v K (.int 0)), ("restarts", He.Dv.v K (.adr (IW (fun K => He.ma K (He.ga K "Instance") "__init__") "restarts"))), ("tails", He.Dv.v K (.adr (IW (fun K => He.ma K (He.ga K "Instance") "__init__") "tails"))), ("lost", He.Dv.v K (.adr (IW (fun K => He.ma K (He.ga K "Instance") "__init__") "lost")))] : List (Str × V)).map (·.2)) zs, kb1, fun _ _ _ _ _ => rfl, W0 [0, 1, 2, 3, 4] (fun _ => (.cons (.int _) (.cons (.tup (RW (c.fact 0 (f := .tup (IW (fun K => He.ma K (He.ga K "Instance") "__init__") "restarts") []) rfl) _) .nil) (.cons (.tup (RW (c.fact 1 (f := .tup (IW (fun K => He.ma K (He.ga K "Instance") "__init__") "tails") []) rfl) _) .nil) (.cons (.tup (RW (c.fact 2 (f := .tup (IW (fun K => He.ma K (He.ga K "Instance") "__init__") "lost") []) rfl) _) .nil) .nil))))) (by decide) (by decide)⟩⟩
theorem NT (c : aY K) (Y : K.In base) (G : base.Ns mainGlobals mg) : Does P w K mg base (T K) 0 JR "Instance.end" (defScope o7) (defBody o7) xK := by
 intro f cdv A outer s H E C
 exact (aW (s_ret (dh (zp (cU (jk (Hl (Qz c rfl) (bQ 0)) (jB (uL (Hl (NQ c rfl) (bQ 0))) (mW c Y G)))) aA))))
theorem QG (c : aY K) (Y : K.In base) (G : base.Ns mainGlobals mg) : ∃ fd : FuncData, u6 P w K mg base (T K) 1 (Ds.adr K) fd Dr tU ∧ Binds K fd Dr [] := by
 obtain ⟨fd, F⟩ := c.def_ 13 (d := Ds) rfl
 exact ⟨fd, ⟨fn_sim F Qv (NT c Y G), F.kp⟩, (FunD.bindsN F fun _ _ _ _ _ _ us hl => match us, hl with | [_], _ => (by kernel_rfl))⟩
theorem Ls (c : aY K) (Y : K.In base) (G : base.Ns mainGlobals mg) : Does P w K mg base (T K) 0 HR "_law_is_integer" (defScope mY) (defBody mY) uo := by
 intro f cdv A outer s H E C
 exact (aW (s_ret (dh (Ky (Cm (Ba c) (ak 0) (Aa (t := "int") (Jx c Y G)) (fK c Y G)) (Iw (Y6 (Cm (Ba c) (ak 0) (Aa (t := "bool") (Xj c Y G)) (fK c Y G))))))))
theorem NZ (c : aY K) (Y : K.In base) (G : base.Ns mainGlobals mg) : ∃ fd : FuncData, u6 P w K mg base (T K) 1 (Cg.adr K) fd Ce ni ∧ Bn K (T K) fd Ce 1 [] (aK []) := by
 obtain ⟨fd, F⟩ := c.def_ 14 (d := Cg) rfl
 exact ⟨fd, ⟨fn_sim F Nf (Ls c Y G), F.kp⟩, (uf (FunD.bindsN F fun _ _ _ _ _ _ us hl => match us, hl with | [_], _ => (by kernel_rfl)))⟩
theorem Ks (c : aY K) (Y : K.In base) (G : base.Ns mainGlobals mg) : Does P w K mg base (T K) 1 Ep "_law_are_integers" (defScope iD) (defBody iD) nO := by
 obtain ⟨fd__law_is_integer, F__law_is_integer, B__law_is_integer_0⟩ := NZ (P := P) (w := w) c Y G
 intro f cdv A outer s H E C
 exact (aJ (fM (Bm (Bo (dY (fB (uL (Cm (Ba c) (ak 0) (Aa (t := "tuple") (jh c Y G)) (fK c Y G))))) (Av (fQ (QR C) (jB (bQ 0) (mW c Y G)) (uL (jB (bQ 1) (mW c Y G)))))))
  (aW (s_ret (dh xW)))
  dZ)
  (aJ (RM C 2 [("_law_at", 3)] (Oj (jB (bQ 1) (mW c Y G)) (De c Y G)) (by decide) (fun _ _ _ _ _ => (cP (Cq.blk C) 3)) (fun _ _ _ _ _ => (Om (Bm (Bo (dY (fB (eG (bO (Cq.blk C) F__law_is_integer (by decide) B__law_is_integer_0 (NP c Y G) (aq (cG 0 (ak 3)) aN))))) (Av (fQ (QR (Cq.blk C)) (cG 0 (ak 3)) (uL (cG 1 (ak 3))))))))) (fun _ _ _ _ _ => (ak 3)) (blkOk_by rfl) (sw_true rfl rfl rfl rfl))
  (aW (s_ret (dh (Iv (cmp_eq C) (ak 2) (eG (tZ aN))))))))
theorem En (c : aY K) (Y : K.In base) (G : base.Ns mainGlobals mg) : ∃ fd : FuncData, u6 P w K mg base (T K) 2 (zV.adr K) fd zU aZ ∧ Bn K (T K) fd zU 2 [] (aK []) := by
 obtain ⟨fd, F⟩ := c.def_ 15 (d := zV) rfl
 exact ⟨fd, ⟨fn_sim F Lp (Ks c Y G), F.kp⟩, (uf (FunD.bindsN F fun _ _ _ _ _ _ us hl => match us, hl with | [_, _], _ => (by kernel_rfl)))⟩
theorem Ms (c : aY K) (Y : K.In base) (G : base.Ns mainGlobals mg) : Does P w K mg base (T K) 2 Jf "_law_are_pairs" (defScope nY) (defBody nY) uJ := by
 obtain ⟨fd__law_are_integers, F__law_are_integers, B__law_are_integers_0⟩ := En (P := P) (w := w) c Y G
 intro f cdv A outer s H E C
 exact (aJ (fM (Bm (Bo (dY (fB (uL (Cm (Ba c) (ak 0) (Aa (t := "tuple") (jh c Y G)) (fK c Y G))))) (Av (fQ (QR C) (jB (bQ 0) (mW c Y G)) (uL (jB (bQ 1) (mW c Y G)))))))
  (aW (s_ret (dh xW)))
  dZ)
  (aW (s_ret (dh (Iv (cmp_eq C) (cU (Ol C [("_law_at", 2)] (Oj (jB (bQ 1) (mW c Y G)) (De c Y G)) (by decide) (fun _ _ _ _ _ => (cP (Cq.blk C) 2)) (fun _ _ _ _ _ => (Om (dY (fB (eG (bO (Cq.blk C) F__law_are_integers (by decide) B__law_are_integers_0 (mV c Y G) (aq (cG 0 (ak 2)) (aq (cG 1 (ak 2)) aN)))))))) (fun _ _ _ _ _ => (ak 2)) (blkOk_by rfl))) (eG (tZ aN)))))))
theorem Pn (c : aY K) (Y : K.In base) (G : base.Ns mainGlobals mg) : ∃ fd : FuncData, u6 P w K mg base (T K) 3 (CV.adr K) fd CT oM ∧ Bn K (T K) fd CT 2 [] (aK []) := by
 obtain ⟨fd, F⟩ := c.def_ 16 (d := CV) rfl
 exact ⟨fd, ⟨fn_sim F Pg (Ms c Y G), F.kp⟩, (uf (FunD.bindsN F fun _ _ _ _ _ _ us hl => match us, hl with | [_, _], _ => (by kernel_rfl)))⟩
theorem ad6 (c : aY K) (Y : K.In base) (G : base.Ns mainGlobals mg) {X : Cx} {k : Nat} (hk : 2 ≤ k) (hP : X.prog = P) (hw : X.w = w) (hK : X.K = K) (hm : X.mg = mg) (hb : X.base = base) : abp X (T K) k "end" NB := by
 subst hP hw hK hm hb
 exact ⟨d7 (.cons (by
  obtain ⟨fd, F, B⟩ := QG (P := X.prog) (w := X.w) c Y G
  exact ⟨_, _, _, fd, _, He.cls_ok (c.fact 32 (f := .he (.cls "Instance")) rfl), ab4 (c.fact 39 (f := .prop "Instance" "end") rfl), F, B, rfl, Nat.le_trans (by decide) hk⟩) .nil)⟩
theorem Ri (c : aY K) (Y : K.In base) (G : base.Ns mainGlobals mg) : Does P w K mg base (T K) 3 Nh "_law_right" (defScope yo) (defBody yo) Be := by
 obtain ⟨fd__law_are_integers, F__law_are_integers, B__law_are_integers_0⟩ := En (P := P) (w := w) c Y G
 obtain ⟨fd__law_are_pairs, F__law_are_pairs, B__law_are_pairs_0⟩ := Pn (P := P) (w := w) c Y G
 intro f cdv A outer s H E C
 exact (aJ (s_asg (ak 1) (QV C (fV (cP C 3) (fV (cP C 4) (fV (cP C 5) (fV (cP C 6) (fV (cP C 7) KH)))))))
  (aJ (z8 C 8 (tZ (aq (Hl (PQ c rfl) (bQ 0)) (aq (Hl (Qz c rfl) (bQ 0)) (aq (cU (ab2 C (ad6 (P := P) c Y G (by decide) rfl rfl rfl rfl rfl) (ak 0))) aN)))))
  (aJ (fM (dY (fB (eG (bO C F__law_are_integers (by decide) B__law_are_integers_0 (mV c Y G) (aq (yH (bQ 8) (jh c Y G)) (aq (cU (tZ (aq (ak 2) (aq (ak 3) (aq (zp (cU (jk (ak 3) (jB (bQ 4) (mW c Y G)))) aA) aN))))) aN))))))
  (aW (s_ret (dh xW)))
  dZ)
  (aJ (fM (Bm (Bo (dY (fB (eG (bO C F__law_are_integers (by decide) B__law_are_integers_0 (mV c Y G) (aq (Hl (NQ c rfl) (bQ 0)) (aq (ak 4) aN)))))) (Av (dY (fB (eG (bO C F__law_are_integers (by decide) B__law_are_integers_0 (mV c Y G) (aq (Hl (P0 c rfl) (bQ 0)) (aq (ak 5) aN)))))))))
  (aW (s_ret (dh xW)))
  dZ)
  (aW (s_ret (dh (Ky (cU (bO C F__law_are_pairs (by decide) B__law_are_pairs_0 (Ph c Y G) (aq (Hl (We c rfl) (bQ 0)) (aq (ak 6) aN)))) (Iw (cU (bO C F__law_are_integers (by decide) B__law_are_integers_0 (mV c Y G) (aq (Hl (Xk c rfl) (bQ 0)) (aq (ak 7) aN)))))))))))))
theorem T7 (c : aY K) (Y : K.In base) (G : base.Ns mainGlobals mg) : ∃ fd : FuncData, u6 P w K mg base (T K) 4 (Jh.adr K) fd Jg iU ∧ Bn K (T K) fd Jg 3 [] (aK []) := by
 obtain ⟨fd, F⟩ := c.def_ 17 (d := Jh) rfl
 exact ⟨fd, ⟨fn_sim F TY (Ri c Y G), F.kp⟩, (uf (FunD.bindsN F fun _ _ _ _ _ _ us hl => match us, hl with | [_, _, _], _ => (by kernel_rfl)))⟩
theorem aa8 (c : aY K) (Y : K.In base) (G : base.Ns mainGlobals mg) : Does P w K mg base (T K) 6 abq "law" (defScope Oz) (defBody Oz) Rc := by
 obtain ⟨fd_Instance____init__, F_Instance____init__, B_Instance____init___0, B_Instance____init___1⟩ := K9 (P := P) (w := w) c Y G
 obtain ⟨fd__law_draw, F__law_draw, B__law_draw_0⟩ := El (P := P) (w := w) c Y G
 obtain ⟨fd__law_life, F__law_life, B__law_life_0⟩ := Wg (P := P) (w := w) c Y G
 obtain ⟨fd__law_right, F__law_right, B__law_right_0⟩ := T7 (P := P) (w := w) c Y G
 obtain ⟨fd__law_source, F__law_source, B__law_source_0⟩ := SM (P := P) (w := w) c Y G
 intro f cdv A outer s H E C
 exact (aJ (Lh C (Oj (abS C aA (abT C aA (jB (bQ 0) (mW c Y G)) (ad3 c Y G)) (ad4 c Y G)) (De c Y G)) (cP C 1)
  (aJ (Hk C 2 (yf (bO C F__law_source (by decide) B__law_source_0 (SJ c Y G) (aq (ak 0) (aq (ak 1) aN)))))
  (aJ (z8 C 3 (jk aA (cU (bO C F__law_draw (by decide) B__law_draw_0 (mU c Y G) (aq (ak 2) (aq aA aN))))))
  (aJ (z8 C 4 (bO C F__law_life (by decide) B__law_life_0 (Wb c Y G) (aq (ak 2) (aq (ak 3) aN))))
  (aJ (s_asg (ak 4) (QV C (fV (cP C 5) (fV (cP C 6) (fV (cP C 7) (fV (cP C 8) (fV (cP C 9) KH)))))))
  (aJ (z8 C 10 (tZ (aq (yf (zu (bQ 6) (tV c Y G))) (aq (yf (zu (bQ 7) (tV c Y G))) (aq (yf (Ol C [("_law_pair", 13)] (Hj (ak 8)) (by decide) (fun _ _ _ _ _ => (cP (Cq.blk C) 13)) (fun _ _ _ _ _ => Ih) (fun _ _ _ _ _ => (yf (zu (bQ 13) (tV c Y G)))) (blkOk_by rfl))) (aq (yf (zu (bQ 9) (tV c Y G))) aN))))))
  (aJ (z8 C 11 (tZ (aq (yf (zu (bQ 6) (tV c Y G))) (aq (yf (zu (bQ 7) (tV c Y G))) (aq (yf (Ol C [("_law_pair", 13)] (Hj (ak 8)) (by decide) (fun _ _ _ _ _ => (cP (Cq.blk C) 13)) (fun _ _ _ _ _ => Ih) (fun _ _ _ _ _ => (yf (zu (bQ 13) (tV c Y G)))) (blkOk_by rfl))) (aq (yf (zu (bQ 9) (tV c Y G))) aN))))))
  (aJ (z8 C 12 (Qq C F_Instance____init__ (by decide) B_Instance____init___0 (Kr c Y G) (aq (cG 10 aA) aN) (yh (ak 3) (yh (ak 5) (yh (cG 10 aA) (yh (cG 10 aA) (yh (cG 10 aA) U8)))))))
  (aJ (fM (fQ (acf C) (ak 10) (ak 11))
  (aW (s_ret (dh xW)))
  dZ)
  (aJ (Ck (RP (cG 10 aA) aA))
  (aJ (Ck (RP (cG 10 aA) aA))
  (aJ (Zu C (Q7 (cG 10 aA)) (cP C 13)
  (aW (U5 13 (cU (jk (cG 13 aA) aA)) aA)))
  (aJ (Ck (RP (cG 10 aA) (Cj (aq aA (aq aA aN)))))
  (aJ (Ck (abZ (cG 10 aA)))
  (aJ (Hk C 14 (yH (eG (Ol C [("_law_gap", 18), ("_law_many", 19)] (Hj (ak 8)) (by decide) (fun _ _ _ _ _ => (QV (Cq.blk C) (fV (cP (Cq.blk C) 18) (fV (cP (Cq.blk C) 19) KH)))) (fun _ _ _ _ _ => Ih) (fun _ _ _ _ _ => (Cj (aq (ak 18) (aq (ak 19) aN)))) (blkOk_by rfl))) (jh c Y G)))
  (aJ (z8 C 15 (Qq C F_Instance____init__ (by decide) B_Instance____init___0 (Kr c Y G) (aq (yH (bQ 6) (jh c Y G)) aN) (yh (ak 3) (yh (ak 5) (yh (yH (bQ 7) (jh c Y G)) (yh (ak 14) (yh (yH (bQ 9) (jh c Y G)) U8)))))))
  (aJ (RM C 16 [("_law_place", 20)] (Oj (jB (bQ 6) (mW c Y G)) (De c Y G)) (by decide) (fun _ _ _ _ _ => (cP (Cq.blk C) 20)) (fun _ _ _ _ _ => Ih) (fun _ _ _ _ _ => (acd (Cq.blk C) (eG (abR 6 abP (abQ (cU (jk (ak 20) aA))))) (ad5 c Y G))) (blkOk_by rfl) (sw_true rfl rfl rfl rfl))
  (aJ (z8 C 17 (Qq C F_Instance____init__ (by decide) B_Instance____init___1 (Kr c Y G) (aq (ak 16) aN) (yh (ak 3) U8)))
  (aJ (fM (Bm (Bo (dY (fB (eG (bO C F__law_right (by decide) B__law_right_0 (HJ c Y G) (aq (ak 12) (aq (ak 4) (aq (ak 3) aN))))))) (Av (dY (fB (eG (bO C F__law_right (by decide) B__law_right_0 (HJ c Y G) (aq (ak 15) (aq (ak 4) (aq (ak 3) aN))))))))))
  (aW (s_ret (dh xW)))
  dZ)
  (aW (fM (dY (fB (eG (bO C F__law_right (by decide) B__law_right_0 (HJ c Y G) (aq (ak 17) (aq (Cj (aq aA (aq (ak 16) (aq (cU (tZ aN)) (aq (cU (tZ aN)) (aq (cU (tZ aN)) aN)))))) (aq (ak 3) aN)))))))
  (aW (s_ret (dh xW)))
  dZ)))))))))))))))))))))
  (aW (s_ret (dh xW))))
end
end L
namespace L
open PySem PySem.Spec L2 Pk GenP
theorem Rj {fr : Fr} {h : Hh} {Q : Fl → Fr → Hh → Prop} {E : aP → Fr → Hh → Prop} : Wp (xK fr h) Q E = Wp ((
 (aU (aG CP (bL (aG cA (aC (tX yV) (az 0)) (aC cV (aC (tX xJ) (az 0))))) (mC (.int 1))))) fr h) Q E := congrArg (fun m => Wp (m fr h) Q E) xK.eq_1
theorem Pq {fr : Fr} {h : Hh} {Q : Fl → Fr → Hh → Prop} {E : aP → Fr → Hh → Prop} : Wp (uo fr h) Q E = Wp ((
 (aU (xX (aG (jy fG) (aa 0) (mC (.ty "int"))) (JG (aG (jy fG) (aa 0) (mC (.ty "bool"))))))) fr h) Q E := congrArg (fun m => Wp (m fr h) Q E) uo.eq_1
theorem oO {d : D} {fr : Fr} {h : Hh} {Q : Unit → Fr → Hh → Prop} {E : aP → Fr → Hh → Prop} : Wp (iK d fr h) Q E = Wp ((
 (aQ 3)) d fr h) Q E := congrArg (fun m => Wp (m d fr h) Q E) iK.eq_1
theorem oR {fr : Fr} {h : Hh} {Q : Bool → Fr → Hh → Prop} {E : aP → Fr → Hh → Prop} : Wp (iQ fr h) Q E = Wp ((
 (jA (cC (aC D.tru (aH 1 0 ni (aK []) (ao [(aV 0 (aa 3) bh)]) (ao [])))) (aG MK (aV 0 (aa 3) bh) (aV 1 (aa 3) bh)))) fr h) Q E := congrArg (fun m => Wp (m fr h) Q E) iQ.eq_1
theorem oU {fr : Fr} {h : Hh} {Q : D → Fr → Hh → Prop} {E : aP → Fr → Hh → Prop} : Wp (iT fr h) Q E = Wp ((
 (aa 3)) fr h) Q E := congrArg (fun m => Wp (m fr h) Q E) iT.eq_1
theorem oV {fr : Fr} {h : Hh} {Q : Fl → Fr → Hh → Prop} {E : aP → Fr → Hh → Prop} : Wp (oN fr h) Q E = Wp ((
 (aD (bM 2 (ye [3] (z7 (aC cV (az 1))) iK iQ iT))
 (aU (aG (fun h x y => (u5 h x y).map .bl) (aa 2) (dX []))))) fr h) Q E := congrArg (fun m => Wp (m fr h) Q E) oN.eq_1
theorem uP {fr : Fr} {h : Hh} {Q : Fl → Fr → Hh → Prop} {E : aP → Fr → Hh → Prop} : Wp (nO fr h) Q E = Wp ((
 (aD (bB (jA (cC (aC D.tru (aG (jy fG) (aa 0) (mC (.ty "tuple"))))) (aG MK (aC cV (az 0)) (aC cV (az 1))))
 (aU (mC (.bl false)))
 (M.ret .nx))
 oN)) fr h) Q E := congrArg (fun m => Wp (m fr h) Q E) nO.eq_1
theorem Et {d : D} {fr : Fr} {h : Hh} {Q : Unit → Fr → Hh → Prop} {E : aP → Fr → Hh → Prop} : Wp (nQ d fr h) Q E = Wp ((
 (aQ 2)) d fr h) Q E := congrArg (fun m => Wp (m d fr h) Q E) nQ.eq_1
theorem Eu {fr : Fr} {h : Hh} {Q : Bool → Fr → Hh → Prop} {E : aP → Fr → Hh → Prop} : Wp (nR fr h) Q E = Wp ((
 (cC (aC D.tru (aH 2 0 aZ (aK []) (ao [(aV 0 (aa 2) bh), (aV 1 (aa 2) bh)]) (ao []))))) fr h) Q E := congrArg (fun m => Wp (m fr h) Q E) nR.eq_1
theorem Ew {fr : Fr} {h : Hh} {Q : D → Fr → Hh → Prop} {E : aP → Fr → Hh → Prop} : Wp (nU fr h) Q E = Wp ((
 (aa 2)) fr h) Q E := congrArg (fun m => Wp (m fr h) Q E) nU.eq_1
theorem Jz {fr : Fr} {h : Hh} {Q : Fl → Fr → Hh → Prop} {E : aP → Fr → Hh → Prop} : Wp (uJ fr h) Q E = Wp ((
 (aD (bB (jA (cC (aC D.tru (aG (jy fG) (aa 0) (mC (.ty "tuple"))))) (aG MK (aC cV (az 0)) (aC cV (az 1))))
 (aU (mC (.bl false)))
 (M.ret .nx))
 (aU (aG (fun h x y => (u5 h x y).map .bl) (bL (ye [2] (z7 (aC cV (az 1))) nQ nR nU)) (dX []))))) fr h) Q E := congrArg (fun m => Wp (m fr h) Q E) uJ.eq_1
theorem Rk {fr : Fr} {h : Hh} {Q : Fl → Fr → Hh → Prop} {E : aP → Fr → Hh → Prop} : Wp (Ao fr h) Q E = Wp ((
 (aD (bB (jA (cC (aC D.tru (aH 2 0 aZ (aK []) (ao [(aC (tX xJ) (az 0)), (aa 4)]) (ao [])))) (cC (aC D.tru (aH 2 0 aZ (aK []) (ao [(aC (tX xT) (az 0)), (aa 5)]) (ao [])))))
 (aU (mC (.bl false)))
 (M.ret .nx))
 (aU (xX (bL (aH 2 0 oM (aK []) (ao [(aC (tX Dc) (az 0)), (aa 6)]) (ao []))) (bL (aH 2 0 aZ (aK []) (ao [(aC (tX Fp) (az 0)), (aa 7)]) (ao []))))))) fr h) Q E := congrArg (fun m => Wp (m fr h) Q E) Ao.eq_1
theorem Rm {fr : Fr} {h : Hh} {Q : Fl → Fr → Hh → Prop} {E : aP → Fr → Hh → Prop} : Wp (Aq fr h) Q E = Wp ((
 (aD (bB (cC (aC D.tru (aH 2 0 aZ (aK []) (ao [(aC jn (az 8)), (bL (dX [(aa 2), (aa 3), (aG CP (bL (aG cA (aa 3) (aC cV (az 4)))) (mC (.int 1)))]))]) (ao []))))
 (aU (mC (.bl false)))
 (M.ret .nx))
 Ao)) fr h) Q E := congrArg (fun m => Wp (m fr h) Q E) Aq.eq_1
theorem Ro {fr : Fr} {h : Hh} {Q : Fl → Fr → Hh → Prop} {E : aP → Fr → Hh → Prop} : Wp (Ar fr h) Q E = Wp ((
 (aD (bM 8 (dX [(aC (tX xR) (az 0)), (aC (tX yV) (az 0)), (bL (Ot NB (aa 0)))]))
 Aq)) fr h) Q E := congrArg (fun m => Wp (m fr h) Q E) Ar.eq_1
theorem Wj {fr : Fr} {h : Hh} {Q : Fl → Fr → Hh → Prop} {E : aP → Fr → Hh → Prop} : Wp (Be fr h) Q E = Wp ((
 (aD (MP (aa 1) (zX 5 (cI (aQ 3) (cI (aQ 4) (cI (aQ 5) (cI (aQ 6) (cI (aQ 7) yJ)))))))
 Ar)) fr h) Q E := congrArg (fun m => Wp (m fr h) Q E) Be.eq_1
theorem Gm {d : D} {fr : Fr} {h : Hh} {Q : Unit → Fr → Hh → Prop} {E : aP → Fr → Hh → Prop} : Wp (Gf d fr h) Q E = Wp ((
 (aQ 13)) d fr h) Q E := congrArg (fun m => Wp (m d fr h) Q E) Gf.eq_1
theorem Gn {fr : Fr} {h : Hh} {Q : Bool → Fr → Hh → Prop} {E : aP → Fr → Hh → Prop} : Wp (Gg fr h) Q E = Wp ((
 (M.ret true)) fr h) Q E := congrArg (fun m => Wp (m fr h) Q E) Gg.eq_1
theorem Gp {fr : Fr} {h : Hh} {Q : D → Fr → Hh → Prop} {E : aP → Fr → Hh → Prop} : Wp (Gh fr h) Q E = Wp ((
 (cD (aC cR (az 13)))) fr h) Q E := congrArg (fun m => Wp (m fr h) Q E) Gh.eq_1
theorem Gq {d : D} {fr : Fr} {h : Hh} {Q : Unit → Fr → Hh → Prop} {E : aP → Fr → Hh → Prop} : Wp (Gi d fr h) Q E = Wp ((
 (aQ 13)) d fr h) Q E := congrArg (fun m => Wp (m d fr h) Q E) Gi.eq_1
theorem Gr {fr : Fr} {h : Hh} {Q : Bool → Fr → Hh → Prop} {E : aP → Fr → Hh → Prop} : Wp (Gj fr h) Q E = Wp ((
 (M.ret true)) fr h) Q E := congrArg (fun m => Wp (m fr h) Q E) Gj.eq_1
theorem Gu {fr : Fr} {h : Hh} {Q : D → Fr → Hh → Prop} {E : aP → Fr → Hh → Prop} : Wp (Gk fr h) Q E = Wp ((
 (cD (aC cR (az 13)))) fr h) Q E := congrArg (fun m => Wp (m fr h) Q E) Gk.eq_1
theorem JB {fr : Fr} {h : Hh} {Q : Fl → Fr → Hh → Prop} {E : aP → Fr → Hh → Prop} : Wp (uK fr h) Q E = Wp ((
 (Dk 13 (bL (aG cA (aV 13 (mC (.int 1)) bh) (mC (.int 1)))) (mC (.int 1)))) fr h) Q E := congrArg (fun m => Wp (m fr h) Q E) uK.eq_1
theorem Gv {d : D} {fr : Fr} {h : Hh} {Q : Unit → Fr → Hh → Prop} {E : aP → Fr → Hh → Prop} : Wp (Jp d fr h) Q E = Wp ((
 (zX 2 (cI (aQ 18) (cI (aQ 19) yJ)))) d fr h) Q E := congrArg (fun m => Wp (m d fr h) Q E) Jp.eq_1
theorem Gx {fr : Fr} {h : Hh} {Q : Bool → Fr → Hh → Prop} {E : aP → Fr → Hh → Prop} : Wp (Jq fr h) Q E = Wp ((
 (M.ret true)) fr h) Q E := congrArg (fun m => Wp (m fr h) Q E) Jq.eq_1
theorem Gy {fr : Fr} {h : Hh} {Q : D → Fr → Hh → Prop} {E : aP → Fr → Hh → Prop} : Wp (Jr fr h) Q E = Wp ((
 (tW [(aa 18), (aa 19)])) fr h) Q E := congrArg (fun m => Wp (m fr h) Q E) Jr.eq_1
theorem Gz {d : D} {fr : Fr} {h : Hh} {Q : Unit → Fr → Hh → Prop} {E : aP → Fr → Hh → Prop} : Wp (Jt d fr h) Q E = Wp ((
 (aQ 20)) d fr h) Q E := congrArg (fun m => Wp (m d fr h) Q E) Jt.eq_1
theorem GF {fr : Fr} {h : Hh} {Q : Bool → Fr → Hh → Prop} {E : aP → Fr → Hh → Prop} : Wp (Ju fr h) Q E = Wp ((
 (M.ret true)) fr h) Q E := congrArg (fun m => Wp (m fr h) Q E) Ju.eq_1
theorem GJ {fr : Fr} {h : Hh} {Q : D → Fr → Hh → Prop} {E : aP → Fr → Hh → Prop} : Wp (Jv fr h) Q E = Wp ((
 (aC JS (aV 6 (JH Y8 (UJ (bL (aG cA (aa 20) (mC (.int 1)))))) yc))) fr h) Q E := congrArg (fun m => Wp (m fr h) Q E) Jv.eq_1
theorem yu {fr : Fr} {h : Hh} {Q : Fl → Fr → Hh → Prop} {E : aP → Fr → Hh → Prop} : Wp (Eb fr h) Q E = Wp ((
 (aD (bB (jA (cC (aC D.tru (aH 3 0 iU (aK []) (ao [(aa 12), (aa 4), (aa 3)]) (ao [])))) (cC (aC D.tru (aH 3 0 iU (aK []) (ao [(aa 15), (aa 4), (aa 3)]) (ao [])))))
 (aU (mC (.bl false)))
 (M.ret .nx))
 (bB (cC (aC D.tru (aH 3 0 iU (aK []) (ao [(aa 17), (tW [(mC (.int 0)), (aa 16), (bL (dX [])), (bL (dX [])), (bL (dX []))]), (aa 3)]) (ao []))))
 (aU (mC (.bl false)))
 (M.ret .nx)))) fr h) Q E := congrArg (fun m => Wp (m fr h) Q E) Eb.eq_1
theorem yw {fr : Fr} {h : Hh} {Q : Fl → Fr → Hh → Prop} {E : aP → Fr → Hh → Prop} : Wp (Ec fr h) Q E = Wp ((
 (aD (bM 17 (aH 1 1 cQ (nW [0, 1, 2, 3, 4] [.int 0, .tup [], .tup [], .tup []]) (ao [(aa 16)]) (ao [(aa 3)])))
 Eb)) fr h) Q E := congrArg (fun m => Wp (m fr h) Q E) Ec.eq_1
theorem yz {fr : Fr} {h : Hh} {Q : Fl → Fr → Hh → Prop} {E : aP → Fr → Hh → Prop} : Wp (Ed fr h) Q E = Wp ((
 (aD (bM 16 (ye [20] (z7 (aC cV (az 6))) Jt Ju Jv))
 Ec)) fr h) Q E := congrArg (fun m => Wp (m fr h) Q E) Ed.eq_1
theorem yC {fr : Fr} {h : Hh} {Q : Fl → Fr → Hh → Prop} {E : aP → Fr → Hh → Prop} : Wp (Ef fr h) Q E = Wp ((
 (aD (bM 15 (aH 1 5 cQ (nW [0, 1, 2, 3, 4] []) (ao [(aC jn (az 6))]) (ao [(aa 3), (aa 5), (aC jn (az 7)), (aa 14), (aC jn (az 9))])))
 Ed)) fr h) Q E := congrArg (fun m => Wp (m fr h) Q E) Ef.eq_1
theorem Bf {fr : Fr} {h : Hh} {Q : Fl → Fr → Hh → Prop} {E : aP → Fr → Hh → Prop} : Wp (yt fr h) Q E = Wp ((
 (aD (bM 14 (aC jn (ye [18, 19] (zY (aa 8)) Jp Jq Jr)))
 Ef)) fr h) Q E := congrArg (fun m => Wp (m fr h) Q E) yt.eq_1
theorem yD {fr : Fr} {h : Hh} {Q : Fl → Fr → Hh → Prop} {E : aP → Fr → Hh → Prop} : Wp (Eh fr h) Q E = Wp ((
 (aD (iV (Oo (aV 10 (mC (.int 3)) bh)))
 yt)) fr h) Q E := congrArg (fun m => Wp (m fr h) Q E) Eh.eq_1
theorem yE {fr : Fr} {h : Hh} {Q : Fl → Fr → Hh → Prop} {E : aP → Fr → Hh → Prop} : Wp (Ei fr h) Q E = Wp ((
 (aD (iV (G3 (aV 10 (mC (.int 2)) bh) (tW [(mC (.int 0)), (mC (.int 1))])))
 Eh)) fr h) Q E := congrArg (fun m => Wp (m fr h) Q E) Ei.eq_1
theorem yF {fr : Fr} {h : Hh} {Q : Fl → Fr → Hh → Prop} {E : aP → Fr → Hh → Prop} : Wp (Ek fr h) Q E = Wp ((
 (aD (Az (Jj (aV 10 (mC (.int 2)) bh)) (aQ 13) uK)
 Ei)) fr h) Q E := congrArg (fun m => Wp (m fr h) Q E) Ek.eq_1
theorem zJ {fr : Fr} {h : Hh} {Q : Fl → Fr → Hh → Prop} {E : aP → Fr → Hh → Prop} : Wp (G9 fr h) Q E = Wp ((
 (aD (iV (G3 (aV 10 (mC (.int 1)) bh) (mC (.int 0))))
 Ek)) fr h) Q E := congrArg (fun m => Wp (m fr h) Q E) G9.eq_1
theorem zK {fr : Fr} {h : Hh} {Q : Fl → Fr → Hh → Prop} {E : aP → Fr → Hh → Prop} : Wp (zH fr h) Q E = Wp ((
 (aD (iV (G3 (aV 10 (mC (.int 0)) bh) (mC (.int 7))))
 G9)) fr h) Q E := congrArg (fun m => Wp (m fr h) Q E) zH.eq_1
theorem zL {fr : Fr} {h : Hh} {Q : Fl → Fr → Hh → Prop} {E : aP → Fr → Hh → Prop} : Wp (Cp fr h) Q E = Wp ((
 (aD (bB (aG V1 (aa 10) (aa 11))
 (aU (mC (.bl false)))
 (M.ret .nx))
 zH)) fr h) Q E := congrArg (fun m => Wp (m fr h) Q E) Cp.eq_1
theorem zM {fr : Fr} {h : Hh} {Q : Fl → Fr → Hh → Prop} {E : aP → Fr → Hh → Prop} : Wp (Cr fr h) Q E = Wp ((
 (aD (bM 12 (aH 1 5 cQ (nW [0, 1, 2, 3, 4] []) (ao [(aV 10 (mC (.int 0)) bh)]) (ao [(aa 3), (aa 5), (aV 10 (mC (.int 1)) bh), (aV 10 (mC (.int 2)) bh), (aV 10 (mC (.int 3)) bh)])))
 Cp)) fr h) Q E := congrArg (fun m => Wp (m fr h) Q E) Cr.eq_1
theorem zN {fr : Fr} {h : Hh} {Q : Fl → Fr → Hh → Prop} {E : aP → Fr → Hh → Prop} : Wp (Cu fr h) Q E = Wp ((
 (aD (bM 11 (dX [(cD (aC cR (az 6))), (cD (aC cR (az 7))), (cD (ye [13] (zY (aa 8)) Gi Gj Gk)), (cD (aC cR (az 9)))]))
 Cr)) fr h) Q E := congrArg (fun m => Wp (m fr h) Q E) Cu.eq_1
theorem zP {fr : Fr} {h : Hh} {Q : Fl → Fr → Hh → Prop} {E : aP → Fr → Hh → Prop} : Wp (Cv fr h) Q E = Wp ((
 (aD (bM 10 (dX [(cD (aC cR (az 6))), (cD (aC cR (az 7))), (cD (ye [13] (zY (aa 8)) Gf Gg Gh)), (cD (aC cR (az 9)))]))
 Cu)) fr h) Q E := congrArg (fun m => Wp (m fr h) Q E) Cv.eq_1
theorem Cy {fr : Fr} {h : Hh} {Q : Fl → Fr → Hh → Prop} {E : aP → Fr → Hh → Prop} : Wp (xV fr h) Q E = Wp ((
 (aD (MP (aa 4) (zX 5 (cI (aQ 5) (cI (aQ 6) (cI (aQ 7) (cI (aQ 8) (cI (aQ 9) yJ)))))))
 Cv)) fr h) Q E := congrArg (fun m => Wp (m fr h) Q E) xV.eq_1
theorem zQ {fr : Fr} {h : Hh} {Q : Fl → Fr → Hh → Prop} {E : aP → Fr → Hh → Prop} : Wp (Hf fr h) Q E = Wp ((
 (aD (bM 4 (aH 2 0 xU (aK []) (ao [(aa 2), (aa 3)]) (ao [])))
 xV)) fr h) Q E := congrArg (fun m => Wp (m fr h) Q E) Hf.eq_1
theorem zR {fr : Fr} {h : Hh} {Q : Fl → Fr → Hh → Prop} {E : aP → Fr → Hh → Prop} : Wp (Hg fr h) Q E = Wp ((
 (aD (bM 3 (aG cA (mC (.int 2)) (bL (aH 2 0 dU (aK []) (ao [(aa 2), (mC (.int 3))]) (ao [])))))
 Hf)) fr h) Q E := congrArg (fun m => Wp (m fr h) Q E) Hg.eq_1
theorem Dh {fr : Fr} {h : Hh} {Q : Fl → Fr → Hh → Prop} {E : aP → Fr → Hh → Prop} : Wp (Ho fr h) Q E = Wp ((
 (aD (bM 2 (cD (aH 2 0 nj (aK []) (ao [(aa 0), (aa 1)]) (ao []))))
 Hg)) fr h) Q E := congrArg (fun m => Wp (m fr h) Q E) Ho.eq_1
theorem O9 {fr : Fr} {h : Hh} {Q : Fl → Fr → Hh → Prop} {E : aP → Fr → Hh → Prop} : Wp (Rc fr h) Q E = Wp ((
 (aD (jC (z7 (aG Oe (mC (.int 1)) (aG Og (mC (.int 63)) (aC cV (az 0))))) (aQ 1) Ho)
 (aU (mC (.bl true))))) fr h) Q E := congrArg (fun m => Wp (m fr h) Q E) Rc.eq_1
theorem QH {ds : List D} {h : Hh} {Q : D → Fr → Hh → Prop} {E : aP → Fr → Hh → Prop} : Wp (tU ds h) Q E = Wp (du 1 xK ds h) Q E := congrArg (fun m => Wp (m ds h) Q E) tU.eq_1
theorem N5 {ds : List D} {h : Hh} {Q : D → Fr → Hh → Prop} {E : aP → Fr → Hh → Prop} : Wp (ni ds h) Q E = Wp (du 1 uo ds h) Q E := congrArg (fun m => Wp (m ds h) Q E) ni.eq_1
theorem Lw {ds : List D} {h : Hh} {Q : D → Fr → Hh → Prop} {E : aP → Fr → Hh → Prop} : Wp (aZ ds h) Q E = Wp (du 4 nO ds h) Q E := congrArg (fun m => Wp (m ds h) Q E) aZ.eq_1
theorem Pr {ds : List D} {h : Hh} {Q : D → Fr → Hh → Prop} {E : aP → Fr → Hh → Prop} : Wp (oM ds h) Q E = Wp (du 3 uJ ds h) Q E := congrArg (fun m => Wp (m ds h) Q E) oM.eq_1
theorem T8 {ds : List D} {h : Hh} {Q : D → Fr → Hh → Prop} {E : aP → Fr → Hh → Prop} : Wp (iU ds h) Q E = Wp (du 9 Be ds h) Q E := congrArg (fun m => Wp (m ds h) Q E) iU.eq_1
theorem cJ : xR 0 = some 0 := by unfold xR; rfl
theorem dM : yV 0 = some 1 := by unfold yV; rfl
theorem di : xJ 0 = some 2 := by unfold xJ; rfl
theorem cO : xT 0 = some 3 := by unfold xT; rfl
theorem dN : Dc 0 = some 4 := by unfold Dc; rfl
theorem dW : Fp 0 = some 5 := by unfold Fp; rfl
theorem fH : NB 0 = some tU := by unfold NB; rfl
end L
namespace L
open PySem PySem.Spec L2 Pk
def Src (h : Hh) (n : Nat) (C : Int) : Prop := ∃ a b c : Int, h[n]? = some (.nl [.int a, .int b, .int c]) ∧ 0 ≤ b ∧ b < 2 ^ 33 ∧ 0 ≤ c ∧ c ≤ C
theorem log2_lt {i : Int} {k : Nat} (h : i.natAbs < 2 ^ k) (hk : 0 < k) : i.natAbs.log2 < k := by
 by_cases h0 : i.natAbs = 0
 · rw [h0]; simpa using hk
 · exact (Nat.log2_lt h0).mpr h
theorem Ly {i j : Int} (h : 0 < j) : ZZ i j = true := decide_eq_true h
theorem xM {h : Hh} {n : Nat} {C m : Int} (S : Src h n C) (hC : C ≤ 100000) (hm : 0 < m) (hl : m < 2 ^ 200) :
 ∃ r h', dU [.ref n, .int m] h = .ok (.int r) [] h' ∧ Src h' n (C + 1) ∧ 0 ≤ r ∧ r < m := by
 obtain ⟨a, b, c, e, b0, b1, c0, c1⟩ := S
 have hn : n < h.length := (List.getElem?_eq_some_iff.mp e).1
 have hml : m.natAbs.log2 < 9000 := by
  refine Nat.lt_of_lt_of_le (log2_lt (k := 200) ?_ (by decide)) (by decide)
  omega
 by_cases ha : 0 < a
 · refine ⟨a % m, h.set n (.nl [.int (a / m), .int b, .int c]), ?_, ⟨a / m, b, c, by rw [ag8 hn], b0, b1, c0, by omega⟩, Int.emod_nonneg _ (by omega), Int.emod_lt_of_pos _ hm⟩
   simp [dU, du, G5, Fw, Fv, Ft, startF, aD, bB, M.bind, M.ret, M.opt, aG, aV, fL, az, mC, bh, D.its, D.der, e, atI, ixN, cInt, ha, bM, aC, xY, aa, D.own, eO, ZZ, hm, Dk, aR, Dj, Xu, hml, aU, JF]
 · have z1 : (b + 32452843 * (c + 1)).natAbs < 2 ^ 64 := by omega
   generalize hx : (b + 32452843 * (c + 1)) ^ 3 % 2305843009213693921 = x
   have hx0 : 0 ≤ x := by rw [← hx]; exact Int.emod_nonneg _ (by decide)
   have hx1 : x < 2305843009213693921 := by rw [← hx]; exact Int.emod_lt_of_pos _ (by decide)
   have z2 : (x + 49979687 * (c + 1)).natAbs < 2 ^ 64 := by omega
   have l1 : (c + 1).natAbs.log2 < 64 := log2_lt (by omega) (by decide)
   have l2 : ((32452843 : Int)).natAbs.log2 < 64 := log2_lt (by decide) (by decide)
   have l3 : ((49979687 : Int)).natAbs.log2 < 64 := log2_lt (by decide) (by decide)
   have l4 : ((4096 : Int)).natAbs.log2 < 9000 := Nat.lt_trans (log2_lt (k := 64) (by decide) (by decide)) (by decide)
   have c1' : Xr 32452843 (c + 1) = true := decide_eq_true (by omega)
   have c2' : Xr 49979687 (c + 1) = true := decide_eq_true (by omega)
   have c3' : Mx (b + 32452843 * (c + 1)) 3 = true := by
    unfold Mx
    rw [decide_eq_true z1]
    rfl
   have c4' : Mx (x + 49979687 * (c + 1)) 2 = true := by
    unfold Mx
    rw [decide_eq_true z2]
    rfl
   have c5' : Xu ((x + 49979687 * (c + 1)) ^ 2 % 2305843009213693951) 4096 = true := by
    unfold Xu
    rw [decide_eq_true l4]
    rfl
   refine ⟨((x + 49979687 * (c + 1)) ^ 2 % 2305843009213693951) / 4096 % m, h.set n (.nl [.int a, .int b, .int (c + 1)]), ?_, ⟨a, b, c + 1, by rw [ag8 hn], b0, b1, by omega, by omega⟩, Int.emod_nonneg _ (by omega), Int.emod_lt_of_pos _ hm⟩
   have ha' : decide (0 < a) = false := decide_eq_false ha
   have e2 : ∀ v : D, (h.set n v)[n]? = some v := fun v => ag8 hn
   simp [dU, du, G5, Fw, Fv, Ft, startF, aD, bB, M.bind, M.ret, M.opt, aG, aV, fL, az, mC, bh, D.its, D.der, e, atI, ixN, cInt, ha', bM, aC, xY, aa, D.own, eO, Dk, aR, Dj, aU, JF, bL, D.fz, cA, e2, c1', c2', c3', c4', c5', Ly, hm, hx]
end L
namespace L
open PySem PySem.Spec L2 Pk
theorem acE {h : Hh} {n : Nat} {C : Int} {l : List D} (S : Src h n C) (hC : C ≤ 100000) (h0 : 0 < l.length) (hl : l.length ≤ 1000) :
 ∃ i d h', i < l.length ∧ l[i]? = some d ∧ JT [.ref n, .fl l] h = .ok d [] h' ∧ Src h' n (C + 1) := by
 obtain ⟨r, h', e, S', r0, r1⟩ := xM (m := (l.length : Int)) S hC (by omega) (by omega)
 have hi : r.toNat < l.length := by omega
 refine ⟨r.toNat, l[r.toNat], h', hi, ag1 hi, ?_, S'⟩
 have er : ((r.toNat : Nat) : Int) = r := Int.toNat_of_nonneg r0
 simp [JT, du, Nz, startF, aU, aV, fL, az, bL, aH, ao, M.bind, M.ret, M.opt, aa, D.own, D.fz, aC, cV, D.its, D.der, aK, e, bZ, bh, atI, ixN, r0, r1, hi]
theorem Ku {h : Hh} {n : Nat} {C : Int} (S : Src h n C) (hC : C ≤ 90000) : ∃ r h', tY [.ref n] h = .ok (.int r) [] h' ∧ Src h' n (C + 2) ∧ 0 ≤ r ∧ r < 2 ^ 198 := by
 obtain ⟨i, d, h1, hi, ed, e1, S1⟩ := acE (l := [.int 2, .int 2, .int 3, .int 3, .int 5, .int 100, .int (10 ^ 9), .int (10 ^ 30)]) S (by omega) (by decide) (by decide)
 have hd : ∃ m : Int, d = .int m ∧ 0 < m ∧ m < 2 ^ 198 := by
  have hm := ahd ed
  simp only [List.mem_cons, List.not_mem_nil, or_false] at hm
  rcases hm with rfl | rfl | rfl | rfl | rfl | rfl | rfl | rfl <;> exact ⟨_, rfl, by decide, by decide⟩
 obtain ⟨m, rfl, m0, m1⟩ := hd
 obtain ⟨r, h2, e2, S2, r0, r1⟩ := xM S1 (by omega) m0 (by omega)
 refine ⟨r, h2, ?_, by rw [show C + 2 = C + 1 + 1 by omega]; exact S2, r0, by omega⟩
 have p9 : Mx 10 9 = true := by decide
 have p30 : Mx 10 30 = true := by decide
 have bg : 8 ≤ big := by decide
 simp only [Int.reducePow] at e1
 simp [tY, du, HF, startF, aU, bL, aH, ao, M.bind, M.ret, M.opt, aa, D.own, D.fz, dX, mC, aG, eO, p9, p30, bg, aK, bZ, e1, e2]
end L
namespace L
open PySem PySem.Spec L2 Pk
theorem uz (h : Hh) (a b : Int) : u5 h (.int a) (.int b) = some (a == b) := by
 unfold u5
 rfl
structure Lz (N : Nat) (born : Int) (counts cuts : List Int) : Prop where
 pos : ∀ c ∈ counts, 0 ≤ c
 asc : cuts.Pairwise (· < ·)
 cin : ∀ x ∈ cuts, born ≤ x ∧ x + 1 < born + counts.length
 fall : ∀ (i : Nat) (a b : Int), counts[i]? = some a → counts[i + 1]? = some b → b < a → (born + i) ∈ cuts
 cl : cuts.length + 1 ≤ counts.length
 top : ∀ (i : Nat) (c : Int), counts[i]? = some c → c ≤ ((i : Int) + 1) * 2 ^ N
abbrev Grow (born : Int) (counts cuts : List Int) : Prop := Lz 198 born counts cuts
theorem GP {α : Type} {l : List α} {r z : α} {i : Nat} (e : (l ++ [r])[i]? = some z) : l[i]? = some z ∨ (i = l.length ∧ z = r) := by
 by_cases h : i < l.length
 · rw [ahw h] at e
   exact .inl e
 · rw [ahu (by omega)] at e
   cases q : i - l.length with
   | zero =>
     rw [q] at e
     cases e
     exact .inr ⟨by omega, rfl⟩
   | succ k =>
     rw [q] at e
     simp at e
theorem aa9 {born r : Int} {counts cuts : List Int} (g : Grow born counts cuts) (hr : 0 ≤ r) (hz : r < 2 ^ 198) : Grow born (counts ++ [r]) (cuts ++ [born + counts.length - 1]) := by
 have hl := g.cl
 refine ⟨fun c hc => ?_, ?_, fun x hx => ?_, fun i a b ea eb hab => ?_, ?_, fun i c e => ?_⟩
 · rcases List.mem_append.mp hc with z | z
   · exact g.pos c z
   · rw [aht] at z
     omega
 · rw [List.pairwise_append]
   refine ⟨g.asc, List.pairwise_singleton _ _, fun x hx y hy => ?_⟩
   rw [aht] at hy
   have := g.cin x hx
   omega
 · rw [ag4, ahc]
   rcases List.mem_append.mp hx with z | z
   · have := g.cin x z
     omega
   · rw [aht] at z
     omega
 · rw [List.mem_append, aht]
   rcases GP eb with z | ⟨z, _⟩
   · rcases GP ea with y | ⟨y, _⟩
     · exact .inl (g.fall i a b y z hab)
     · have := (List.getElem?_eq_some_iff.mp z).1
       omega
   · right
     omega
 · rw [ag4, ag4, ahc, ahc]
   omega
 · rcases GP e with q | ⟨q, rfl⟩
   · exact g.top i c q
   · omega
theorem acF {born r t : Int} {counts cuts : List Int} (g : Grow born counts cuts) (ht : counts[counts.length - 1]? = some t) (hr : 0 ≤ r) (hz : r < 2 ^ 198) : Grow born (counts ++ [t + r]) cuts := by
 have hl := g.cl
 have t0 := g.pos t (ahd ht)
 refine ⟨fun c hc => ?_, g.asc, fun x hx => ?_, fun i a b ea eb hab => ?_, ?_, fun i c e => ?_⟩
 · rcases List.mem_append.mp hc with z | z
   · exact g.pos c z
   · rw [aht] at z
     omega
 · have := g.cin x hx
   rw [ag4, ahc]
   omega
 · rcases GP eb with z | ⟨z, zb⟩
   · rcases GP ea with y | ⟨y, _⟩
     · exact g.fall i a b y z hab
     · have := (List.getElem?_eq_some_iff.mp z).1
       omega
   · exfalso
     rcases GP ea with y | ⟨y, _⟩
     · have ei : i = counts.length - 1 := by omega
       rw [ei, ht] at y
       cases y
       omega
     · omega
 · rw [ag4, ahc]
   omega
 · rcases GP e with q | ⟨q, rfl⟩
   · exact g.top i c q
   · have := g.top _ _ ht
     omega
theorem Hq (lo : Int) (n : Nat) : jw lo (n + 1) = .int lo :: jw (lo + 1) n := by
 unfold jw
 rw [List.range_succ_eq_map, ag0, List.map_map]
 simp only [Int.natCast_zero, Int.add_zero, List.cons.injEq, true_and]
 congr 1
 funext i
 simp only [Function.comp_apply, Nat.succ_eq_add_one, Int.natCast_add, Int.natCast_one]
 congr 1
 omega
theorem Tz {h : Hh} {l : List Int} {t : Int} (e : l[l.length - 1]? = some t) : bh h (.nl (l.map .int)) (.int (-1)) = some (.int t) := by
 have hl : 0 < l.length := by
  have := (List.getElem?_eq_some_iff.mp e).1
  omega
 show atI (l.map D.int) (-1) = _
 unfold atI
 have : ixN (l.map D.int).length (-1) = some (l.length - 1) := by
  unfold ixN
  rw [agZ, if_neg (by omega), if_pos (by omega)]
  congr 1
  omega
 rw [this]
 simp [e]
theorem yG {n : Nat} (h : n ≤ 1000) : n < big := Nat.lt_of_le_of_lt h (by decide)
theorem YC {n : Nat} {size born many : Int} : ∀ (m : Nat) (C : Int) (h : Hh) (counts cuts : List Int) (x8 : Option D), Src h n C → C + 3 * m ≤ 80000 → Grow born counts cuts → counts.length + m ≤ 100 →
 ∃ counts' cuts' x8' h', iH (aQ 8) Br (jw counts.length m) [some (.ref n), some (.int size), some (.int born), some (.int many), some (.nl (cuts.map .int)), some (.nl []), some (.nl []), some (.nl (counts.map .int)), x8, none, none] h =
   .ok .nx [some (.ref n), some (.int size), some (.int born), some (.int many), some (.nl (cuts'.map .int)), some (.nl []), some (.nl []), some (.nl (counts'.map .int)), x8', none, none] h' ∧ Src h' n (C + 3 * m) ∧ Grow born counts' cuts' ∧ counts'.length = counts.length + m
 | 0, C, h, counts, cuts, x8, S, _, g, _ => ⟨counts, cuts, x8, h, rfl, by rw [show C + 3 * ((0 : Nat) : Int) = C by omega]; exact S, g, rfl⟩
 | m + 1, C, h, counts, cuts, x8, S, hC, g, hl => by
   have hcl := g.cl
   obtain ⟨r, h1, e1, S1, r0, r1⟩ := xM (m := 3) S (by omega) (by decide) (by decide)
   obtain ⟨z, h2, e2, S2, z0, z9⟩ := Ku S1 (by omega)
   have hc : counts.length < big := yG (by omega)
   have hk : cuts.length < big := yG (by omega)
   by_cases hr : r = 0
   · subst hr
     obtain ⟨counts', cuts', x8', h', e3, S3, g3, l3⟩ := YC m (C + 3) h2 (counts ++ [z]) (cuts ++ [born + counts.length - 1]) (some (.int counts.length)) (by rw [show C + 3 = C + 1 + 2 by omega]; exact S2) (by omega) (aa9 g z0 z9) (by rw [ag4, ahc]; omega)
     refine ⟨counts', cuts', x8', h', ?_, by rw [show C + 3 * ((m + 1 : Nat) : Int) = C + 3 + 3 * (m : Int) by omega]; exact S3, g3, by rw [l3, ag4, ahc]; omega⟩
     rw [Hq, ← e3]
     have el : (((counts ++ [z]).length : Nat) : Int) = (counts.length : Int) + 1 := by rw [ag4, ahc]; omega
     rw [el]
     simp [iH, aQ, Br, bB, aD, iV, yL, aR, jr, CQ, aG, bL, aH, ao, M.bind, M.ret, M.opt, aa, D.own, D.fz, mC, aK, bZ, e1, uz, cA, eO, uv, e2, hc, hk]
   · have ht : counts[counts.length - 1]? = some counts[counts.length - 1] := ag1 (by omega)
     generalize counts[counts.length - 1] = t at ht
     have hb : ∀ h : Hh, bh h (.nl (counts.map .int)) (.int (-1)) = some (.int t) := fun h => Tz ht
     have hr' : (r == 0) = false := beq_eq_false_iff_ne.mpr hr
     obtain ⟨counts', cuts', x8', h', e3, S3, g3, l3⟩ := YC m (C + 3) h2 (counts ++ [t + z]) cuts (some (.int counts.length)) (by rw [show C + 3 = C + 1 + 2 by omega]; exact S2) (by omega) (acF g ht z0 z9) (by rw [ag4, ahc]; omega)
     refine ⟨counts', cuts', x8', h', ?_, by rw [show C + 3 * ((m + 1 : Nat) : Int) = C + 3 + 3 * (m : Int) by omega]; exact S3, g3, by rw [l3, ag4, ahc]; omega⟩
     rw [Hq, ← e3]
     have el : (((counts ++ [t + z]).length : Nat) : Int) = (counts.length : Int) + 1 := by rw [ag4, ahc]; omega
     rw [el]
     simp [iH, aQ, Br, bB, aD, iV, yL, aR, jr, CQ, aG, bL, aH, ao, M.bind, M.ret, M.opt, aa, D.own, D.fz, mC, aK, bZ, e1, uz, hr', cA, eO, uv, e2, hc, hk, aV, fL, az, aC, MJ, hb]
def pairD (p : Int × Int) : D := .tup [.int p.1, .int p.2]
theorem YD {n : Nat} {size born many : Int} {a b c d y : Option D} : ∀ (gaps : List Int) (C : Int) (h : Hh) (ends : List (Int × Int)) (x10 : Option D), Src h n C → C + 4 * gaps.length ≤ 80000 → ends.length + gaps.length ≤ 200 →
 ∃ ends' x10' h', iH (aQ 10) Bt (gaps.map .int) [some (.ref n), some (.int size), some (.int born), some (.int many), a, some (.nl (ends.map pairD)), b, c, d, y, x10] h =
   .ok .nx [some (.ref n), some (.int size), some (.int born), some (.int many), a, some (.nl ((ends ++ ends').map pairD)), b, c, d, y, x10'] h' ∧ Src h' n (C + 4 * gaps.length) ∧ (ends'.map (·.1)).Sublist gaps ∧ ∀ p ∈ ends', 1 ≤ p.2 ∧ p.2 ≤ 2 ^ 198
 | [], C, h, ends, x10, S, _, _ => ⟨[], x10, h, by rw [ag5]; rfl, by rw [show C + 4 * (([] : List Int).length : Int) = C by simp]; exact S, List.Sublist.slnil, by simp⟩
 | g :: gaps, C, h, ends, x10, S, hC, hl => by
   rw [ag3] at hC hl
   obtain ⟨r, h1, e1, S1, r0, r1⟩ := xM (m := 2) S (by omega) (by decide) (by decide)
   have hk : ends.length < big := yG (by omega)
   by_cases hr : r = 0
   · subst hr
     obtain ⟨z, h2, e2, S2, z0, z9⟩ := Ku S1 (by omega)
     obtain ⟨ends', x10', h', e3, S3, sub, p3⟩ := YD gaps (C + 4) h2 (ends ++ [(g, 1 + z)]) (some (.int g)) (by obtain ⟨a', b', c', q1, q2, q3, q4, q5⟩ := S2; exact ⟨a', b', c', q1, q2, q3, q4, by omega⟩) (by omega) (by rw [ag4, ahc]; omega)
     refine ⟨(g, 1 + z) :: ends', x10', h', ?_, by rw [ag3, show C + 4 * ((gaps.length + 1 : Nat) : Int) = C + 4 + 4 * (gaps.length : Int) by omega]; exact S3, sub.cons_cons g, fun p hp => ?_⟩
     · have e4 : ends ++ (g, 1 + z) :: ends' = ends ++ [(g, 1 + z)] ++ ends' := by simp
       rw [e4, ← e3]
       have b2 : 2 ≤ big := by decide
       simp [iH, aQ, Bt, bB, aD, iV, yL, aR, jr, CQ, aG, bL, aH, ao, M.bind, M.ret, M.opt, aa, D.own, D.fz, mC, aK, bZ, e1, uz, cA, e2, hk, tW, b2, pairD]
     · rcases List.mem_cons.mp hp with q | q
       · rw [q]
         show 1 ≤ 1 + z ∧ 1 + z ≤ 2 ^ 198
         omega
       · exact p3 p q
   · have hr' : (r == 0) = false := beq_eq_false_iff_ne.mpr hr
     obtain ⟨ends', x10', h', e3, S3, sub, p3⟩ := YD gaps (C + 4) h1 ends (some (.int g)) (by obtain ⟨a', b', c', q1, q2, q3, q4, q5⟩ := S1; exact ⟨a', b', c', q1, q2, q3, q4, by omega⟩) (by omega) (by omega)
     refine ⟨ends', x10', h', ?_, by rw [ag3, show C + 4 * ((gaps.length + 1 : Nat) : Int) = C + 4 + 4 * (gaps.length : Int) by omega]; exact S3, sub.cons g, p3⟩
     rw [← e3]
     simp [iH, aQ, Bt, bB, aD, iV, aG, bL, aH, ao, M.bind, M.ret, M.opt, aa, D.own, D.fz, mC, aK, bZ, e1, uz, hr']
theorem YF {n : Nat} {size born many : Int} {a b c x9 x10 : Option D} : ∀ (m : Nat) (lo : Int) (C : Int) (h : Hh) (gone : List Int) (x8 : Option D), Src h n C → C + m ≤ 80000 → gone.length + m ≤ 200 →
 ∃ gone' x8' h', iH (aQ 8) Bu (jw lo m) [some (.ref n), some (.int size), some (.int born), some (.int many), a, b, some (.nl (gone.map .int)), c, x8, x9, x10] h =
   .ok .nx [some (.ref n), some (.int size), some (.int born), some (.int many), a, b, some (.nl ((gone ++ gone').map .int)), c, x8', x9, x10] h' ∧ Src h' n (C + m) ∧ gone'.Pairwise (· < ·) ∧ ∀ x ∈ gone', lo ≤ x ∧ x < lo + m
 | 0, lo, C, h, gone, x8, S, _, _ => ⟨[], x8, h, by rw [ag5]; rfl, by rw [show C + ((0 : Nat) : Int) = C by omega]; exact S, List.Pairwise.nil, by simp⟩
 | m + 1, lo, C, h, gone, x8, S, hC, hl => by
   obtain ⟨r, h1, e1, S1, r0, r1⟩ := xM (m := 4) S (by omega) (by decide) (by decide)
   have hk : gone.length < big := yG (by omega)
   by_cases hr : r = 0
   · subst hr
     obtain ⟨gone', x8', h', e3, S3, as, p3⟩ := YF m (lo + 1) (C + 1) h1 (gone ++ [lo]) (some (.int lo)) S1 (by omega) (by rw [ag4, ahc]; omega)
     refine ⟨lo :: gone', x8', h', ?_, by rw [show C + ((m + 1 : Nat) : Int) = C + 1 + (m : Int) by omega]; exact S3, List.Pairwise.cons (fun x hx => by have := p3 x hx; omega) as, fun x hx => ?_⟩
     · have e4 : gone ++ lo :: gone' = gone ++ [lo] ++ gone' := by simp
       rw [e4, ← e3, Hq]
       simp [iH, aQ, Bu, bB, aD, iV, yL, aR, jr, CQ, aG, bL, aH, ao, M.bind, M.ret, M.opt, aa, D.own, D.fz, mC, aK, bZ, e1, uz, hk]
     · rcases List.mem_cons.mp hx with q | q
       · omega
       · have := p3 x q
         omega
   · have hr' : (r == 0) = false := beq_eq_false_iff_ne.mpr hr
     obtain ⟨gone', x8', h', e3, S3, as, p3⟩ := YF m (lo + 1) (C + 1) h1 gone (some (.int lo)) S1 (by omega) (by omega)
     refine ⟨gone', x8', h', ?_, by rw [show C + ((m + 1 : Nat) : Int) = C + 1 + (m : Int) by omega]; exact S3, as, fun x hx => by have := p3 x hx; omega⟩
     rw [← e3, Hq]
     simp [iH, aQ, Bu, bB, aD, iV, aG, bL, aH, ao, M.bind, M.ret, M.opt, aa, D.own, D.fz, mC, aK, bZ, e1, uz, hr']
end L
namespace L
open PySem PySem.Spec L2 Pk
theorem Src.up {h : Hh} {n : Nat} {C C' : Int} (S : Src h n C) (hC : C ≤ C') : Src h n C' := by
 obtain ⟨a, b, c, q1, q2, q3, q4, q5⟩ := S
 exact ⟨a, b, c, q1, q2, q3, q4, by omega⟩
structure zm (N : Nat) (size born : Int) (counts cuts : List Int) (ends : List (Int × Int)) (gone : List Int) : Prop where
 b0 : 0 ≤ born
 g : Lz N born counts cuts
 fit : born + counts.length ≤ size
 sub : (ends.map (·.1)).Sublist (cuts ++ if born + counts.length < size then [born + counts.length - 1] else [])
 pos : ∀ p ∈ ends, 1 ≤ p.2 ∧ p.2 ≤ 2 ^ N
 asc : gone.Pairwise (· < ·)
 gin : ∀ x ∈ gone, born ≤ x ∧ x < born + counts.length
theorem Lz.up {N M : Nat} {born : Int} {counts cuts : List Int} (hN : N ≤ M) (g : Lz N born counts cuts) : Lz M born counts cuts :=
 ⟨g.pos, g.asc, g.cin, g.fall, g.cl, fun i c e => Int.le_trans (g.top i c e) (Int.mul_le_mul_of_nonneg_left (by exact_mod_cast Nat.pow_le_pow_right (by decide) hN) (by omega))⟩
theorem zm.up {N M : Nat} {size born : Int} {counts cuts : List Int} {ends : List (Int × Int)} {gone : List Int} (hN : N ≤ M) (l : zm N size born counts cuts ends gone) : zm M size born counts cuts ends gone :=
 ⟨l.b0, l.g.up hN, l.fit, l.sub, fun p hp => ⟨(l.pos p hp).1, Int.le_trans (l.pos p hp).2 (by exact_mod_cast Nat.pow_le_pow_right (by decide) hN)⟩, l.asc, l.gin⟩
abbrev Life (size born : Int) (counts cuts : List Int) (ends : List (Int × Int)) (gone : List Int) : Prop := zm 200 size born counts cuts ends gone
def jt (born : Int) (counts cuts : List Int) (ends : List (Int × Int)) (gone : List Int) : D := .tup [.int born, .fl (counts.map .int), .fl (cuts.map .int), .fl (ends.map pairD), .fl (gone.map .int)]
theorem Di {i : Int} (h1 : -1000 ≤ i) (h2 : i ≤ 1000) : ue i = true := by
 unfold ue
 rw [decide_eq_true (show -(2 ^ 62) ≤ i by omega), decide_eq_true (show i < 2 ^ 62 by omega)]
 rfl
theorem acG {n : Nat} {size born : Int} {counts cuts : List Int} {ends : List (Int × Int)} {q : D} {C : Int} {h : Hh} {x8 x9 x10 : Option D} (hq : q = .nl (cuts.map .int) ∨ q = .fl (cuts.map .int)) (S : Src h n C) (hC : C ≤ 51000) (b0 : 0 ≤ born) (b1 : born ≤ 10) (hl : counts.length ≤ 10) :
 ∃ gone fr' h', Bv [some (.ref n), some (.int size), some (.int born), some (.int counts.length), some q, some (.nl (ends.map pairD)), some (.nl []), some (.nl (counts.map .int)), x8, x9, x10] h = .ok (.rt (jt born counts cuts ends gone)) fr' h' ∧
   Src h' n (C + counts.length) ∧ gone.Pairwise (· < ·) ∧ ∀ x ∈ gone, born ≤ x ∧ x < born + counts.length := by
 obtain ⟨gone, x8', h', e, S', as, p⟩ := YF (n := n) (size := size) (born := born) (many := counts.length) (a := some q) (b := some (.nl (ends.map pairD))) (c := some (.nl (counts.map .int))) (x9 := x9) (x10 := x10) counts.length born C h [] x8 S (by omega) (by simp; omega)
 have s1 : ue born = true := Di (by omega) (by omega)
 have s2 : ue (born + counts.length) = true := Di (by omega) (by omega)
 have e5 : (born + (counts.length : Int) - born).toNat = counts.length := by omega
 simp only [ag7, ahf] at e
 have b5 : 5 ≤ big := by decide
 rcases hq with rfl | rfl
 · refine ⟨gone, [some (.ref n), some (.int size), some (.int born), some (.int counts.length), some (.fl (cuts.map .int)), some (.fl (ends.map pairD)), some (.fl (gone.map .int)), some (.fl (counts.map .int)), x8', x9, x10], h', ?_, S', as, p⟩
   simp [Bv, aD, jC, Bp, aa, M.bind, M.ret, M.opt, bL, aG, cA, D.own, D.fz, s1, s2, e5, e, aU, tW, ao, jt, b5]
 · refine ⟨gone, [some (.ref n), some (.int size), some (.int born), some (.int counts.length), some (.fl (cuts.map .int)), some (.fl (ends.map pairD)), some (.fl (gone.map .int)), some (.fl (counts.map .int)), x8', x9, x10], h', ?_, S', as, p⟩
   simp [Bv, aD, jC, Bp, aa, M.bind, M.ret, M.opt, bL, aG, cA, D.own, D.fz, s1, s2, e5, e, aU, tW, ao, jt, b5]
theorem Xl {n : Nat} {size born : Int} {counts cuts gaps : List Int} {q : D} {C : Int} {h : Hh} {x8 x10 : Option D} (hq : q = .nl (cuts.map .int) ∨ q = .fl (cuts.map .int)) (S : Src h n C) (hC : C ≤ 50500) (b0 : 0 ≤ born) (b1 : born ≤ 10) (hl : counts.length ≤ 10) (hg : gaps.length ≤ 10) :
 ∃ ends gone fr' h', Fy [some (.ref n), some (.int size), some (.int born), some (.int counts.length), some q, some (.nl []), some (.nl []), some (.nl (counts.map .int)), x8, some (.nl (gaps.map .int)), x10] h = .ok (.rt (jt born counts cuts ends gone)) fr' h' ∧
   Src h' n (C + 50) ∧ (ends.map (·.1)).Sublist gaps ∧ (∀ p ∈ ends, 1 ≤ p.2 ∧ p.2 ≤ 2 ^ 198) ∧ gone.Pairwise (· < ·) ∧ ∀ x ∈ gone, born ≤ x ∧ x < born + counts.length := by
 obtain ⟨ends, x10', h1, e1, S1, sub, p1⟩ := YD (n := n) (size := size) (born := born) (many := counts.length) (a := some q) (b := some (.nl [])) (c := some (.nl (counts.map .int))) (d := x8) (y := some (.fl (gaps.map .int))) gaps C h [] x10 S (by omega) (by simp; omega)
 simp only [ag7, ahf] at e1
 obtain ⟨gone, fr', h', e2, S2, as, p2⟩ := acG (n := n) (size := size) (born := born) (counts := counts) (cuts := cuts) (ends := ends) (q := q) (x8 := x8) (x9 := some (.fl (gaps.map .int))) (x10 := x10') hq S1 (by omega) b0 b1 hl
 refine ⟨ends, gone, fr', h', ?_, S2.up (by omega), sub, p1, as, p2⟩
 simp [Fy, aD, jC, zY, aa, M.bind, M.ret, M.opt, D.own, D.fz, D.its, D.der, e1, e2]
theorem acH {n : Nat} {size born : Int} {counts cuts : List Int} {C : Int} {h : Hh} {x8 x9 x10 : Option D} (S : Src h n C) (hC : C ≤ 50500) (b0 : 0 ≤ born) (b1 : born ≤ 10) (hl : counts.length ≤ 9) (hg : cuts.length ≤ 9) :
 ∃ ends gone fr' h', yq [some (.ref n), some (.int size), some (.int born), some (.int counts.length), some (.nl (cuts.map .int)), some (.nl []), some (.nl []), some (.nl (counts.map .int)), x8, x9, x10] h = .ok (.rt (jt born counts cuts ends gone)) fr' h' ∧
   Src h' n (C + 50) ∧ (ends.map (·.1)).Sublist (cuts ++ if born + counts.length < size then [born + counts.length - 1] else []) ∧ (∀ p ∈ ends, 1 ≤ p.2 ∧ p.2 ≤ 2 ^ 198) ∧ gone.Pairwise (· < ·) ∧ ∀ x ∈ gone, born ≤ x ∧ x < born + counts.length := by
 by_cases hs : born + counts.length < size
 · obtain ⟨ends, gone, fr', h', e, z⟩ := Xl (n := n) (size := size) (born := born) (counts := counts) (cuts := cuts) (gaps := cuts ++ [born + counts.length - 1]) (q := .fl (cuts.map .int)) (x8 := x8) (x10 := x10) (.inr rfl) S hC b0 b1 (by omega) (by simp; omega)
   rw [if_pos hs]
   refine ⟨ends, gone, fr', h', ?_, z⟩
   have bg : (cuts.map D.int).length + 1 ≤ big := by
    rw [agZ]
    exact Nat.le_of_lt (yG (by omega))
   have b1' : 1 ≤ big := by decide
   rw [List.map_append, ag0, ag7] at e
   rw [agZ] at bg
   simp [yq, aD, bM, Mf, aG, bL, cA, aa, M.bind, M.ret, M.opt, D.own, D.fz, cInt, hs, dX, ao, eO, uv, mC, b1', bg, e]
 · obtain ⟨ends, gone, fr', h', e, z⟩ := Xl (n := n) (size := size) (born := born) (counts := counts) (cuts := cuts) (gaps := cuts) (q := .nl (cuts.map .int)) (x8 := x8) (x10 := x10) (.inl rfl) S hC b0 b1 (by omega) (by omega)
   rw [if_neg hs, ag5]
   refine ⟨ends, gone, fr', h', ?_, z⟩
   simp [yq, aD, bM, Mf, aG, bL, cA, aa, az, aC, cR, D.its, D.der, M.bind, M.ret, M.opt, D.own, D.fz, cInt, hs, e]
theorem Xm {n : Nat} {size born : Int} {k : Nat} {C : Int} {h : Hh} (S : Src h n C) (hC : C ≤ 50400) (b0 : 0 ≤ born) (b1 : born ≤ 10) (hk : k ≤ 8) (hf : born + (k + 1 : Nat) ≤ size) :
 ∃ counts cuts ends gone fr' h', BJ [some (.ref n), some (.int size), some (.int born), some (.int (k + 1 : Nat)), some (.nl []), some (.nl []), some (.nl []), none, none, none, none] h = .ok (.rt (jt born counts cuts ends gone)) fr' h' ∧ Src h' n (C + 80) ∧ zm 198 size born counts cuts ends gone := by
 obtain ⟨z, h1, e1, S1, z0, z9⟩ := Ku S (by omega)
 have g1 : Grow born [z] [] := ⟨fun c hc => by rw [aht] at hc; omega, List.Pairwise.nil, fun x hx => (by cases hx), fun i a b ea eb => by
  have := (List.getElem?_eq_some_iff.mp eb).1
  simp at this, by simp, fun i c e => by
  have q := (List.getElem?_eq_some_iff.mp e).1
  have q0 : i = 0 := by simpa using q
  subst q0
  have e' : z = c := by simpa using e
  omega⟩
 obtain ⟨counts, cuts, x8, h2, e2, S2, g2, l2⟩ := YC (n := n) (size := size) (born := born) (many := (k + 1 : Nat)) k (C + 2) h1 [z] [] none S1 (by omega) g1 (by simp; omega)
 have lc : counts.length = k + 1 := by rw [l2, ahc]; omega
 have cl := g2.cl
 obtain ⟨ends, gone, fr', h', e3, S3, sub, p1, as, p2⟩ := acH (n := n) (size := size) (born := born) (counts := counts) (cuts := cuts) (x8 := x8) (x9 := none) (x10 := none) S2 (by omega) b0 b1 (by omega) (by omega)
 refine ⟨counts, cuts, ends, gone, fr', h', ?_, S3.up (by omega), ⟨b0, g2, by rw [lc]; exact hf, sub, p1, as, p2⟩⟩
 rw [lc] at e3
 have s1 : ue 1 = true := Di (by omega) (by omega)
 have s2 : ue ((k : Int) + 1) = true := Di (by omega) (by omega)
 have e5 : ((k : Int) + 1 - 1).toNat = k := by omega
 have b1' : 1 ≤ big := by decide
 simp only [ahc, ag0, ag7, Int.natCast_one, Int.natCast_add] at e2 e3
 simp only [Int.natCast_add, Int.natCast_one]
 have st1 : BJ [some (.ref n), some (.int size), some (.int born), some (.int ((k : Int) + 1)), some (.nl []), some (.nl []), some (.nl []), none, none, none, none] h =
  Bw [some (.ref n), some (.int size), some (.int born), some (.int ((k : Int) + 1)), some (.nl []), some (.nl []), some (.nl []), some (.nl [.int z]), none, none, none] h1 := by
  simp [BJ, aD, bM, dX, ao, bL, aH, aa, D.own, D.fz, M.bind, M.ret, M.opt, aK, bZ, e1, b1']
 have st2 : Bw [some (.ref n), some (.int size), some (.int born), some (.int ((k : Int) + 1)), some (.nl []), some (.nl []), some (.nl []), some (.nl [.int z]), none, none, none] h1 =
  yq [some (.ref n), some (.int size), some (.int born), some (.int ((k : Int) + 1)), some (.nl (cuts.map .int)), some (.nl []), some (.nl []), some (.nl (counts.map .int)), x8, none, none] h2 := by
  have r : (Bp (mC (.int 1)) (aa 3)) [some (.ref n), some (.int size), some (.int born), some (.int ((k : Int) + 1)), some (.nl []), some (.nl []), some (.nl []), some (.nl [.int z]), none, none, none] h1 = .ok (jw 1 k) [some (.ref n), some (.int size), some (.int born), some (.int ((k : Int) + 1)), some (.nl []), some (.nl []), some (.nl []), some (.nl [.int z]), none, none, none] h1 := by
   have q : (if ue 1 && ue ((k : Int) + 1) then some (jw 1 ((k : Int) + 1 - 1).toNat) else none) = some (jw 1 k) := by
    rw [s1, s2, e5]
    rfl
   unfold Bp
   rw [M.bind_ok (show mC (.int 1) _ _ = .ok (.int 1) _ h1 from rfl), M.bind_ok (show aa 3 _ _ = .ok (.int ((k : Int) + 1)) _ h1 from rfl)]
   show M.opt (if ue 1 && ue ((k : Int) + 1) then some (jw 1 ((k : Int) + 1 - 1).toNat) else none) _ h1 = _
   rw [q]
   rfl
  unfold Bw aD jC
  rw [M.bind_ok ((M.bind_ok r).trans e2)]
 rw [st1, st2]
 exact e3
theorem Wk {n : Nat} {size : Int} {C : Int} {h : Hh} (S : Src h n C) (hC : C ≤ 50300) (h2 : 2 ≤ size) (h4 : size ≤ 4) :
 ∃ born counts cuts ends gone h', xU [.ref n, .int size] h = .ok (jt born counts cuts ends gone) [] h' ∧ Src h' n (C + 90) ∧ zm 198 size born counts cuts ends gone := by
 have b5 : 5 ≤ big := by decide
 have b0' : 0 ≤ big := by decide
 obtain ⟨r, h1, e1, S1, r0, r1⟩ := xM (m := 2) S (by omega) (by decide) (by decide)
 by_cases hr : r = 1
 · subst hr
   obtain ⟨born, h2', e2, S2, b0, b1⟩ := xM (m := size) S1 (by omega) (by omega) (by omega)
   obtain ⟨mm, h3, e3, S3, m0, m1⟩ := xM (m := size - born) S2 (by omega) (by omega) (by omega)
   obtain ⟨k, rfl⟩ := Int.eq_ofNat_of_zero_le m0
   obtain ⟨counts, cuts, ends, gone, fr', h', e4, S4, L4⟩ := Xm (n := n) (size := size) (born := born) (k := k) S3 (by omega) b0 (by omega) (by omega) (by omega)
   refine ⟨born, counts, cuts, ends, gone, h', ?_, S4.up (by omega), L4⟩
   simp only [Int.natCast_add, Int.natCast_one] at e4
   have ec : (1 : Int) + (k : Int) = (k : Int) + 1 := by omega
   simp [xU, du, G6, FJ, startF, aD, Lg, ao, mC, aa, D.own, D.fz, dX, M.bind, M.ret, M.opt, yK, b5, bB, aG, bL, aH, aK, bZ, e1, uz, bM, e2, eO, uv, e3, cA, ec, e4]
 · have hr' : (r == 1) = false := beq_eq_false_iff_ne.mpr hr
   obtain ⟨k, hk⟩ := Int.eq_ofNat_of_zero_le (show 0 ≤ size - 1 by omega)
   have hz : size = ((k + 1 : Nat) : Int) := by omega
   obtain ⟨counts, cuts, ends, gone, fr', h', e4, S4, L4⟩ := Xm (n := n) (size := size) (born := 0) (k := k) S1 (by omega) (by omega) (by omega) (by omega) (by omega)
   refine ⟨0, counts, cuts, ends, gone, h', ?_, S4.up (by omega), L4⟩
   rw [← hz] at e4
   simp [xU, du, G6, FJ, startF, aD, Lg, ao, mC, aa, D.own, D.fz, dX, M.bind, M.ret, M.opt, yK, b5, bB, aG, bL, aH, aK, bZ, e1, uz, hr', e4]
theorem ZP {n : Nat} {size : Int} {C : Int} {h : Hh} (S : Src h n C) (hC : C ≤ 50300) (h2 : 2 ≤ size) (h4 : size ≤ 4) :
 ∃ born counts cuts ends gone h', xU [.ref n, .int size] h = .ok (jt born counts cuts ends gone) [] h' ∧ Src h' n (C + 90) ∧ Life size born counts cuts ends gone := by
 obtain ⟨born, counts, cuts, ends, gone, h', e, S', l⟩ := Wk S hC h2 h4
 exact ⟨born, counts, cuts, ends, gone, h', e, S', l.up (by decide)⟩
end L
namespace L
open PySem PySem.Spec L2 Pk
inductive fU (h : Hh) (l : List D) : D → Prop where
 | fl : fU h l (.fl l)
 | tup : fU h l (.tup l)
 | ref (n : Nat) (e : h[n]? = some (.nl l)) : fU h l (.ref n)
section
variable {h : Hh} {l : List D} {d : D}
theorem Sv {n : Nat} {c : D} (e : h[n]? = some c) : D.der h (.ref n) = c := by
 unfold D.der
 dsimp only
 rw [e]
 rfl
theorem fU.own (S : fU h l d) : d.own = false := by cases S <;> rfl
theorem fU.fz (S : fU h l d) : d.fz = d := by cases S <;> rfl
theorem fU.its (S : fU h l d) : d.its h = some l := by
 cases S with
 | fl => rfl
 | tup => rfl
 | ref n e => unfold D.its; rw [Sv e]
theorem fU.len (S : fU h l d) : cV h d = some (.int l.length) := by
 have e := S.its
 cases S <;> (unfold cV; dsimp only; rw [e]; rfl)
theorem fU.idx (S : fU h l d) (i : Int) : bh h d (.int i) = atI l i := by
 have e := S.its
 cases S <;> (unfold bh; dsimp only; rw [e])
theorem fU.tuple (S : fU h l d) : jn h d = some (.tup l) := by unfold jn; rw [S.its]; rfl
theorem fU.lst (S : fU h l d) : cR h d = some (.nl l) := by unfold cR; rw [S.its]; rfl
theorem ad7 (h : Hh) (l : List D) : jy fG h (.nl l) (.tup [.ty "list", .ty "tuple"]) = some (.bl true) := by kernel_rfl
theorem acI (h : Hh) (l : List D) : jy fG h (.fl l) (.tup [.ty "list", .ty "tuple"]) = some (.bl true) := by kernel_rfl
theorem aba (h : Hh) (l : List D) : jy fG h (.tup l) (.tup [.ty "list", .ty "tuple"]) = some (.bl true) := by kernel_rfl
theorem fU.isi (S : fU h l d) : jy fG h d (.tup [.ty "list", .ty "tuple"]) = some (.bl true) := by
 cases S with
 | fl => exact acI h l
 | tup => exact aba h l
 | ref n e =>
   have : jy fG h (.ref n) (.tup [.ty "list", .ty "tuple"]) = jy fG h (.nl l) (.tup [.ty "list", .ty "tuple"]) := by
    unfold jy D.tag
    rw [Sv e]
    rfl
   rw [this]
   exact ad7 h l
structure Pa (h : Hh) (g : D → M Unit) (b : M Fl) (L : List D → M Fl) : Prop where
 nil : ∀ fr, L [] fr h = .ok .nx fr h
 cons : ∀ d ds fr fr1 fr2, g d fr h = .ok () fr1 h → b fr1 h = .ok .nx fr2 h → L (d :: ds) fr h = L ds fr2 h
theorem JZ {g : D → M Unit} {b : M Fl} : Pa h g b (iH g b) where
 nil := fun _ => rfl
 cons := fun d ds fr fr1 fr2 e1 e2 => by
  show (match g d fr h with
   | .ok _ fr h => match b fr h with
     | .ok .nx fr h => iH g b ds fr h
     | .ok .ct fr h => iH g b ds fr h
     | .ok .brk fr h => .ok .nx fr h
     | .ok (.rt d) fr h => .ok (.rt d) fr h
     | .exc x fr h => .exc x fr h
     | .err => .err
   | _ => .err) = _
  rw [e1]
  dsimp only
  rw [e2]
theorem Rp {n : Nat} {l : List D} {g : D → M Unit} {b : M Fl} (hc : h[n]? = some (.nl l)) : Pa h g b (vf n l g b) where
 nil := fun _ => by unfold vf; rw [if_pos hc]
 cons := fun d ds fr fr1 fr2 e1 e2 => by
  rw [vf]
  dsimp only
  rw [if_pos hc, e1]
  dsimp only
  rw [e2]
theorem Wl {fr : Fr} {i : Nat} (e : fr[i]? = some (some d)) (o : d.own = false) : aa i fr h = .ok d fr h := by
 unfold aa
 rw [e]
 dsimp only
 rw [o]
 rfl
theorem YG {α : Type} {t : Fr → Hh → Bool} {a b : M α} {fr : Fr} (c : t fr h = true) : Mp t a b fr h = a fr h := by unfold Mp; rw [if_pos c]
theorem QJ {α : Type} {t : Fr → Hh → Bool} {a b : M α} {fr : Fr} (c : t fr h = false) : Mp t a b fr h = b fr h := by unfold Mp; rw [if_neg (by rw [c]; decide)]
theorem Td {m : M D} {fr fr1 : Fr} {h1 : Hh} {n : Nat} (e : m fr h = .ok (.ref n) fr1 h1) : Bb m fr h = true := by unfold Bb; rw [e]
theorem Im {m : M D} {fr fr1 : Fr} {h1 : Hh} (S : d = .fl l ∨ d = .tup l) (e : m fr h = .ok d fr1 h1) : Bb m fr h = false := by
 unfold Bb
 rw [e]
 rcases S with rfl | rfl <;> rfl
theorem ZQ {m : M D} {fr : Fr} {n : Nat} (e : m fr h = .ok (.ref n) fr h) (hc : h[n]? = some (.nl l)) : Jj m fr h = .ok (n, l, l) fr h := by
 unfold Jj
 rw [M.bind_ok e]
 have q : uN h (.ref n) = some (n, l) := by unfold uN; dsimp only; rw [hc]
 rw [q]
 rfl
theorem abb {m : M D} {fr : Fr} {n : Nat} (e : m fr h = .ok (.ref n) fr h) (hc : h[n]? = some (.nl l)) : Jk m fr h = .ok (n, l, iW 0 l) fr h := by
 unfold Jk
 rw [M.bind_ok e]
 have q : uN h (.ref n) = some (n, l) := by unfold uN; dsimp only; rw [hc]
 rw [q]
 rfl
theorem abH {m : M D} {fr fr1 : Fr} {h1 : Hh} (e : m fr h = .ok d fr1 h1) (q : d.its [] = some l) : zY m fr h = .ok l fr1 h1 := by
 unfold zY
 rw [M.bind_ok e, q]
 rfl
theorem Xn {m : M D} {fr fr1 : Fr} {h1 : Hh} (e : m fr h = .ok d fr1 h1) (q : d.lst = some l) : Ln m fr h = .ok (iW 0 l) fr1 h1 := by
 unfold Ln
 rw [M.bind_ok e, q]
 rfl
theorem acJ {g : D → M Unit} {b : M Fl} {fr : Fr} {i : Nat} {r : Pk.R Fl} (S : fU h l d) (e : fr[i]? = some (some d)) (H : ∀ L, Pa h g b L → L l fr h = r) : Ul (aa i) g b fr h = r := by
 have v := Wl (h := h) e S.own
 unfold Ul
 cases S with
 | fl =>
   rw [QJ (Im (l := l) (.inl rfl) v)]
   unfold jC
   rw [M.bind_ok (abH v rfl)]
   exact H _ JZ
 | tup =>
   rw [QJ (Im (l := l) (.inr rfl) v)]
   unfold jC
   rw [M.bind_ok (abH v rfl)]
   exact H _ JZ
 | ref n hc =>
   rw [YG (Td v)]
   unfold Az
   rw [M.bind_ok (ZQ v hc)]
   exact H _ (Rp hc)
theorem abd {g : D → M Unit} {b : M Fl} {fr : Fr} {i : Nat} {r : Pk.R Fl} (S : fU h l d) (e : fr[i]? = some (some d)) (H : ∀ L, Pa h g b L → L (iW 0 l) fr h = r) : Q9 (aa i) g b fr h = r := by
 have v := Wl (h := h) e S.own
 unfold Q9
 cases S with
 | fl =>
   rw [QJ (Im (l := l) (.inl rfl) v)]
   unfold jC
   rw [M.bind_ok (Xn v rfl)]
   exact H _ JZ
 | tup =>
   rw [QJ (Im (l := l) (.inr rfl) v)]
   unfold jC
   rw [M.bind_ok (Xn v rfl)]
   exact H _ JZ
 | ref n hc =>
   rw [YG (Td v)]
   unfold Az
   rw [M.bind_ok (abb v hc)]
   exact H _ (Rp hc)
structure Xo (h : Hh) (vs : List Nat) (g : D → M Unit) (t : M Bool) (e : M D) (L : List D → M (List D)) : Prop where
 nil : ∀ fr, L [] fr h = .ok [] fr h
 cons : ∀ d ds fr o r, dJ vs g t e d fr h = .ok o fr h → L ds fr h = .ok r fr h → L (d :: ds) fr h = .ok (uB o r) fr h
theorem ZR {vs : List Nat} {g : D → M Unit} {t : M Bool} {e : M D} : Xo h vs g t e (jx vs g t e) where
 nil := fun _ => rfl
 cons := fun d ds fr o r e1 e2 => by
  show ((dJ vs g t e d).bind fun o => (jx vs g t e ds).bind fun r => M.ret (uB o r)) fr h = _
  rw [M.bind_ok e1, M.bind_ok e2]
  rfl
theorem abe {n : Nat} {l : List D} {vs : List Nat} {g : D → M Unit} {t : M Bool} {e : M D} (hc : h[n]? = some (.nl l)) : Xo h vs g t e (nu n l vs g t e) where
 nil := fun _ => by unfold nu; rw [if_pos hc]
 cons := fun d ds fr o r e1 e2 => by
  rw [nu]
  dsimp only
  rw [if_pos hc, M.bind_ok e1, M.bind_ok e2]
  rfl
theorem Wm {vs : List Nat} {g : D → M Unit} {t : M Bool} {e' : M D} {fr : Fr} {i : Nat} {r : List D} (S : fU h l d) (e : fr[i]? = some (some d)) (hb : l.length ≤ big) {fr' : Fr} (hw : cX fr vs = fr') (H : ∀ L, Xo h vs g t e' L → L l fr' h = .ok r fr' h) :
 Sd vs (aa i) g t e' fr h = .ok (.nl r) fr' h := by
 have v := Wl (h := h) e S.own
 unfold Sd
 have key : ∀ x, aa i fr h = .ok x fr h → x = .fl l ∨ x = .tup l → ye vs (zY (aa i)) g t e' fr h = .ok (.nl r) fr' h := fun x v hx => by
  unfold ye zY
  have q : x.its [] = some l := by rcases hx with rfl | rfl <;> rfl
  rw [M.bind_ok (show ((aa i).bind fun d => M.opt (d.its [])) fr h = .ok l fr h from by rw [M.bind_ok v, q]; rfl), M.bind_ok (show GZ vs fr h = .ok () fr' h from by unfold GZ; rw [hw]), if_pos hb, M.bind_ok (H _ ZR)]
  rfl
 cases S with
 | fl =>
   rw [QJ (Im (l := l) (.inl rfl) v)]
   exact key _ v (.inl rfl)
 | tup =>
   rw [QJ (Im (l := l) (.inr rfl) v)]
   exact key _ v (.inr rfl)
 | ref n hc =>
   rw [YG (Td v)]
   unfold Lq
   rw [M.bind_ok (ZQ v hc), M.bind_ok (show GZ vs fr h = .ok () fr' h from by unfold GZ; rw [hw])]
   dsimp only
   rw [if_pos hb, M.bind_ok (H _ (abe hc))]
   rfl
theorem ZS {j : Nat} {vs : List Nat} {g : D → M Unit} {t : M Bool} {e' : M D} {fr : Fr} {i : Nat} {r : List D} (S : fU h l d) (e : fr[i]? = some (some d)) (hb : l.length ≤ big) {fr' : Fr} (hw : cX fr vs = fr') (H : ∀ L, Xo h vs g t e' L → L l fr' h = .ok r fr' h) :
 O5 j vs (aa i) g t e' fr h = .ok .nx (fr'.set j (some (.nl r))) h := by
 have a := Wm (t := t) (g := g) (e' := e') S e hb hw H
 unfold Sd at a
 unfold O5
 by_cases c : Bb (aa i) fr h = true
 · rw [YG c] at a ⊢
   unfold bM
   rw [M.bind_ok a]
 · have c : Bb (aa i) fr h = false := by cases q : Bb (aa i) fr h; rfl; exact absurd q c
   rw [QJ c] at a ⊢
   unfold bM
   rw [M.bind_ok a]
end
end L
namespace L
open PySem PySem.Spec L2 Pk
theorem Qa (h : Hh) (v : Int) : jy fG h (.int v) (.ty "int") = some (.bl true) := by kernel_rfl
theorem N6 (h : Hh) (v : Int) : jy fG h (.int v) (.ty "bool") = some (.bl false) := by kernel_rfl
theorem Wn (h : Hh) (l : List D) : jy fG h (.tup l) (.ty "tuple") = some (.bl true) := by kernel_rfl
theorem cZ (h : Hh) (v : Int) : o5 [.int v] h = .ok (.bl true) [] h := by
 simp [o5, du, Jm, startF, aU, xX, aG, aa, bz, bR, bD, bF, bG, bT, bU, bH, bJ, bK, bV, bW, bY, M.bind, M.ret, M.opt, mC, Qa, N6, uO, JG]
section
variable {h : Hh}
theorem QK {vs : List Nat} {g : D → M Unit} {t : M Bool} {e : M D} {fr : Fr} {L : List D → M (List D)} (k : Xo h vs g t e L) : ∀ {ds : List D}, (∀ d ∈ ds, dJ vs g t e d fr h = .ok none fr h) → L ds fr h = .ok [] fr h
 | [], _ => k.nil fr
 | d :: ds, hh => k.cons d ds fr none [] (hh d ag9) (QK k fun x hx => hh x (ahn _ hx))
theorem acK {vs : List Nat} {g : D → M Unit} {t : M Bool} {e : M D} {fr : Fr} {ds : List D} (hh : ∀ d ∈ ds, dJ vs g t e d fr h = .ok none fr h) : jx vs g t e ds fr h = .ok [] fr h := QK ZR hh
theorem Ww {counts : List Int} {d : D} {most : Int} (S : fU h (counts.map .int) d) (h0 : ∀ c ∈ counts, 0 ≤ c) (h1 : 1 ≤ counts.length) (h2 : (counts.length : Int) ≤ most) (h3 : counts.length ≤ 1000) : Ea [d, .int most] h = .ok (.bl true) [] h := by
 have hb : (counts.map D.int).length ≤ big := by rw [agZ]; exact Nat.le_of_lt (yG h3)
 have lc := Wm (vs := [2]) (g := DW) (t := DY) (e' := JV) (fr := [some d, some (.int most), none]) (i := 0) (r := []) S rfl hb rfl (fun L k => QK k fun d hd => by
  obtain ⟨c, hc, rfl⟩ := List.mem_map.mp hd
  have c0 := h0 c hc
  have hn : ¬ c < 0 := by omega
  simp [DW, DY, dJ, aQ, jA, cC, aC, aH, ao, M.bind, M.ret, M.opt, aa, bz, bR, bD, bF, bG, bT, bU, bH, bJ, bK, bV, bW, bY, aK, bZ, cZ, cY, aG, mC, cInt, hn, cX])
 have g1 : (1 : Int) ≤ counts.length := by omega
 have b2 : 2 ≤ big := by decide
 simp [Ea, du, Jo, startF, aD, bB, jA, cC, aC, aG, aa, bz, bR, bD, bF, bG, bT, bU, bH, bJ, bK, bV, bW, bY, S.own, S.len, S.isi, M.bind, M.ret, M.opt, mC, tW, ao, cY, jm, az, cInt, h2, g1, aU, lc, uz, b2, m7, oF]
theorem Io {l : List Int} {i : Nat} {t : Int} {j : Int} (hj : j = (i : Int)) (e : l[i]? = some t) : atI (l.map D.int) j = some (.int t) := by
 subst hj
 have hl := (List.getElem?_eq_some_iff.mp e).1
 unfold atI
 have : ixN (l.map D.int).length (i : Int) = some i := by
  unfold ixN
  rw [agZ, if_pos (by omega), if_pos (by omega)]
  congr 1
 rw [this]
 simp [e]
theorem Wo {l : List Int} {d : D} (S : fU h (l.map .int) d) (hp : l.Pairwise (· < ·)) : ∀ (suf pre : List Int), l = pre ++ suf → ∀ x1 x2 : Option D,
 ∃ y1 y2, ∀ L, Pa h (zX 2 (cI (aQ 1) (cI (aQ 2) yJ))) ul L → L (iW pre.length (suf.map .int)) [some d, x1, x2] h = .ok .nx [some d, y1, y2] h
 | [], pre, _, x1, x2 => ⟨x1, x2, fun L k => k.nil _⟩
 | v :: suf, pre, hl, x1, x2 => by
   obtain ⟨y1, y2, e⟩ := Wo S hp suf (pre ++ [v]) (by rw [hl]; simp) (some (.int pre.length)) (some (.int v))
   refine ⟨y1, y2, fun L k => ?_⟩
   rw [← e L k]
   have ee : iW pre.length ((v :: suf).map D.int) = .tup [.int pre.length, .int v] :: iW (pre ++ [v]).length (suf.map .int) := by
    rw [ag4, ahc]
    rfl
   rw [ee]
   have so := S.own
   refine k.cons _ _ _ [some d, some (.int pre.length), some (.int v)] _ (by simp [zX, cI, aQ, yJ, M.bind, M.ret, M.opt]) ?_
   by_cases h0 : pre.length = 0
   · have hn : ¬ (0 : Int) < (pre.length : Int) := by omega
     have hn' : ¬ 0 < pre.length := by omega
     simp [ul, bB, jA, cC, aC, aH, ao, aa, bz, bR, bD, bF, bG, bT, bU, bH, bJ, bK, bV, bW, bY, aK, bZ, cZ, cY, J9, aG, mC, cInt, hn, hn', M.bind, M.ret, M.opt]
   · have hp0 : (0 : Int) < (pre.length : Int) := by omega
     have hp0' : 0 < pre.length := by omega
     have ht : l[pre.length - 1]? = some (pre.getLast (fun z => h0 (by rw [z]; rfl))) := by
      rw [hl, ahw (by omega), List.getLast_eq_getElem, ag1 (by omega)]
     generalize pre.getLast (fun z => h0 (by rw [z]; rfl)) = t at ht
     have hb : atI (l.map D.int) ((pre.length : Int) - 1) = some (.int t) := Io (by omega) ht
     have hv : l[pre.length]? = some v := by
      rw [hl, ahu (Nat.le_refl _), Nat.sub_self]
      rfl
     have hlt : t < v := by
      obtain ⟨i1, j1⟩ := List.getElem?_eq_some_iff.mp ht
      obtain ⟨i2, j2⟩ := List.getElem?_eq_some_iff.mp hv
      have := List.pairwise_iff_getElem.mp hp (pre.length - 1) pre.length i1 i2 (by omega)
      rw [j1, j2] at this
      exact this
     have hn : ¬ v ≤ t := by omega
     simp [M.bind, M.ret, M.opt, ul, bB, jA, cC, aC, aH, ao, aa, bz, bR, bD, bF, bG, bT, bU, bH, bJ, bK, bV, bW, bY, aK, bZ, cZ, cY, J9, aG, mC, cInt, hp0, hp0', aV, fL, az, eO, uv, S.idx, hb, hn]
theorem Wr {l : List Int} {d : D} (S : fU h (l.map .int) d) (hp : l.Pairwise (· < ·)) : yr [d] h = .ok (.bl true) [] h := by
 have b2 : 2 ≤ big := by decide
 obtain ⟨y1, y2, e0⟩ := Wo S hp l [] (by simp) none none
 have e := abd (g := zX 2 (cI (aQ 1) (cI (aQ 2) yJ))) (b := ul) (fr := [some d, none, none]) (i := 0) S rfl e0
 simp [yr, du, FP, HW, startF, aD, bB, cC, aC, aG, aa, bz, bR, bD, bF, bG, bT, bU, bH, bJ, bK, bV, bW, bY, S.own, S.isi, M.bind, M.ret, M.opt, mC, tW, ao, cY, b2, e, aU]
theorem Qc {l : List Int} {d : D} {lo hi : Int} (S : fU h (l.map .int) d) (hp : l.Pairwise (· < ·)) (hin : ∀ x ∈ l, lo ≤ x ∧ x ≤ hi) : zG [d, .int lo, .int hi] h = .ok (.bl true) [] h := by
 have a := Wr S hp
 have so := S.own
 have sl := S.len
 cases l with
 | nil =>
   simp only [ag7, ahb, Int.natCast_zero] at sl
   simp [zG, du, G7, startF, aU, xX, bL, aH, ao, M.bind, M.ret, M.opt, aa, so, sl, aK, bZ, a, dw, eV, dB, fz_non, dD, eX, eY, dF, dH, dI, eZ, fj, fu, uO, Qo, aG, aC, az, mC, uz, bz, bR, bD, bF, bG, bT, bU, bH, bJ, bK, bV, bW, bY]
 | cons x l =>
   have hl : (x :: l)[(x :: l).length - 1]? = some ((x :: l)[(x :: l).length - 1]'(by simp)) := ag1 _
   have b1 : atI ((x :: l).map D.int) 0 = some (.int x) := Io (i := 0) rfl rfl
   have b2 : atI ((x :: l).map D.int) (-1) = some (.int _) := Tz (h := h) hl
   have i1 := hin x (ag9)
   have i2 := hin _ (ahd hl)
   generalize (x :: l)[(x :: l).length - 1]'(by simp) = t at b2 i2
   have nz : ((l.length : Int) + 1 == 0) = false := beq_eq_false_iff_ne.mpr (by omega)
   have sx := S.idx
   simp only [ag0, ag3, agZ, Int.natCast_add, Int.natCast_one] at a b1 b2 sl sx
   simp [zG, du, G7, startF, aU, xX, bL, aH, ao, M.bind, M.ret, M.opt, aa, so, sl, sx, aK, bZ, a, dw, eV, dB, fz_non, dD, eX, eY, dF, dH, dI, eZ, fj, fu, uO, Qo, aG, aC, az, mC, uz, nz, aV, fL, b1, b2, MJ, cInt, i1.1, i2.2, bz, bR, bD, bF, bG, bT, bU, bH, bJ, bK, bV, bW, bY]
theorem LC : ∀ l : List Int, (l.map D.int).all D.flat = true
 | [] => rfl
 | _ :: l => by
   rw [ag0, List.all_cons, LC l]
   rfl
theorem Pb (v : Int) : ∀ l : List Int, ((l.map D.int).any fun z => D.eqf z (.int v)) = decide (v ∈ l)
 | [] => by simp
 | a :: l => by
   rw [ag0, List.any_cons, Pb v l]
   by_cases h : a = v
   · subst h
     simp [D.eqf]
   · have h2 : ¬ v = a := fun z => h z.symm
     simp [D.eqf, h, h2]
theorem TF {d : D} {l : List Int} (S : fU h (l.map .int) d) (v : Int) : Qm h (.int v) d = some (!decide (v ∈ l)) := by
 have e := S.its
 unfold Qm cIn
 cases S with
 | fl =>
   show Option.map _ (if (D.int v).flat && (l.map D.int).all D.flat then some ((l.map D.int).any fun z => D.eqf z (.int v)) else none) = _
   rw [LC, Pb]
   rfl
 | tup =>
   show Option.map _ (if (D.int v).flat && (l.map D.int).all D.flat then some ((l.map D.int).any fun z => D.eqf z (.int v)) else none) = _
   rw [LC, Pb]
   rfl
 | ref n hc =>
   dsimp only
   rw [e]
   show Option.map _ (if (D.int v).flat && (l.map D.int).all D.flat then some ((l.map D.int).any fun z => D.eqf z (.int v)) else none) = _
   rw [LC, Pb]
   rfl
theorem Tf {n : Nat} {m : M Fl} {ds : List D} {fr0 fr' : Fr} {h h' : Hh} {d : D} (hf : startF n ds = fr0) (e : m fr0 h = .ok (.rt d) fr' h') : du n m ds h = .ok d [] h' := by
 unfold du
 rw [hf, e]
theorem acL {ma mb : M D} {fr fr1 fr2 : Fr} {h h1 h2 : Hh} {i j : Int} (e1 : ma fr h = .ok (.int i) fr1 h1) (e2 : mb fr1 h1 = .ok (.int j) fr2 h2) (s1 : ue i = true) (s2 : ue j = true) : Bp ma mb fr h = .ok (jw i (j - i).toNat) fr2 h2 := by
 unfold Bp
 rw [M.bind_ok e1, M.bind_ok e2]
 show M.opt (if ue i && ue j then some (jw i (j - i).toNat) else none) _ _ = _
 rw [s1, s2]
 rfl
theorem Rr {counts cuts : List Int} {dc dr : D} (SC : fU h (counts.map .int) dc) (SR : fU h (cuts.map .int) dr) {born : Int} {N : Nat} (g : Lz N born counts cuts) : ∀ (m j : Nat), 1 ≤ j → j + m = counts.length → ∀ x3 : Option D,
 ∃ y3, iH (aQ 3) eQ (jw j m) [some dc, some (.int born), some dr, x3] h = .ok .nx [some dc, some (.int born), some dr, y3] h
 | 0, _, _, _, x3 => ⟨x3, rfl⟩
 | m + 1, j, hj, hm, x3 => by
   obtain ⟨y3, e⟩ := Rr SC SR g m (j + 1) (by omega) (by omega) (some (.int j))
   refine ⟨y3, ?_⟩
   rw [Hq]
   have ec : ((j + 1 : Nat) : Int) = (j : Int) + 1 := by omega
   rw [ec] at e
   rw [← e]
   have ha : counts[j - 1]? = some (counts[j - 1]'(by omega)) := ag1 _
   have hb : counts[j]? = some (counts[j]'(by omega)) := ag1 _
   generalize counts[j - 1]'(by omega) = a at ha
   generalize counts[j]'(by omega) = b at hb
   have ba : atI (counts.map D.int) ((j : Int) - 1) = _ := Io (j := (j : Int) - 1) (by omega) ha
   have bb := Io (j := (j : Int)) rfl hb
   by_cases hab : b < a
   · have hin := g.fall (j - 1) a b ha (by rw [show j - 1 + 1 = j by omega]; exact hb) hab
     have e3 : born + ((j - 1 : Nat) : Int) = born + (j : Int) - 1 := by omega
     rw [e3] at hin
     simp [iH, aQ, eQ, bB, J9, aG, aV, fL, az, aa, bz, bR, bD, bF, bG, bT, bU, bH, bJ, bK, bV, bW, bY, M.bind, M.ret, M.opt, SC.idx, bb, ba, eO, uv, mC, cInt, hab, bL, cA, dw, eV, dB, fz_non, dD, eX, eY, dF, dH, dI, eZ, fj, fu, TF SR, hin]
   · simp [iH, aQ, eQ, bB, J9, aG, aV, fL, az, aa, bz, bR, bD, bF, bG, bT, bU, bH, bJ, bK, bV, bW, bY, M.bind, M.ret, M.opt, SC.idx, bb, ba, eO, uv, mC, cInt, hab]
theorem YH {counts cuts : List Int} {dc dr : D} (SC : fU h (counts.map .int) dc) (SR : fU h (cuts.map .int) dr) {born : Int} {N : Nat} (g : Lz N born counts cuts) (hl : counts.length ≤ 100) : nH [dc, .int born, dr] h = .ok (.bl false) [] h := by
 have cl := g.cl
 obtain ⟨y3, e⟩ := Rr SC SR g (counts.length - 1) 1 (Nat.le_refl _) (by omega) none
 have lm : aC cV (az 0) [some dc, some (.int born), some dr, none] h = .ok (.int ((counts.map D.int).length : Int)) [some dc, some (.int born), some dr, none] h := by
  simp [aC, az, M.bind, M.opt, SC.len, M.ret]
 have r0 := acL (fr := [some dc, some (.int born), some dr, none]) (h := h) (ma := mC (.int 1)) (mb := aC cV (az 0)) (i := 1) (j := ((counts.map D.int).length : Int)) rfl lm (Di (by omega) (by omega)) (Di (by omega) (by rw [agZ]; omega))
 have e0 : (((counts.map D.int).length : Int) - 1).toNat = counts.length - 1 := by rw [agZ]; omega
 rw [e0] at r0
 have e' : iH (aQ 3) eQ (jw 1 (counts.length - 1)) [some dc, some (.int born), some dr, none] h = _ := e
 have st : nA [some dc, some (.int born), some dr, none] h = (aU (mC (.bl false))) [some dc, some (.int born), some dr, y3] h := by
  unfold nA aD jC
  rw [M.bind_ok ((M.bind_ok r0).trans e')]
 exact Tf (fr0 := [some dc, some (.int born), some dr, none]) (by simp [startF]) (st.trans rfl)
inductive Mr (h : Hh) : List D → List (Int × Int) → Prop where
 | nil : Mr h [] []
 | cons {d : D} {ds : List D} {p : Int × Int} {ps : List (Int × Int)} : fU h [.int p.1, .int p.2] d → Mr h ds ps → Mr h (d :: ds) (p :: ps)
theorem Mr.length : ∀ {ds : List D} {ps : List (Int × Int)}, Mr h ds ps → ds.length = ps.length
 | _, _, .nil => rfl
 | _, _, .cons _ t => congrArg Nat.succ t.length
theorem Xp : ∀ (ps : List (Int × Int)), Mr h (ps.map pairD) ps
 | [] => .nil
 | p :: ps => .cons (by unfold pairD; exact .tup) (Xp ps)
theorem Ru {a b d e' : Option D} : ∀ {ds : List D} {ends : List (Int × Int)}, Mr h ds ends → (∀ p ∈ ends, 1 ≤ p.2) → ∀ x2 : Option D, ∃ y2, ∀ L, Pa h (aQ 2) BK L → L ds [a, b, x2, d, e'] h = .ok .nx [a, b, y2, d, e'] h
 | _, _, .nil, _, x2 => ⟨x2, fun L k => k.nil _⟩
 | dd :: ds, p :: ends, .cons S t, hp, x2 => by
   obtain ⟨y2, e⟩ := Ru t (fun q hq => hp q (ahn _ hq)) (some dd)
   refine ⟨y2, fun L k => ?_⟩
   rw [← e L k]
   have p1 := hp p (ag9)
   have hn : ¬ p.2 < 1 := by omega
   have b2 : 2 ≤ big := by decide
   have so := S.own
   have i1 : bh h dd (.int 1) = some (.int p.2) := by rw [S.idx]; rfl
   have sl : cV h dd = some (.int 2) := S.len
   have si := S.isi
   exact k.cons _ _ _ [a, b, some dd, d, e'] _ (by simp [aQ]) (by
    simp [BK, bB, jA, cC, aC, aG, aa, so, sl, si, i1, M.bind, M.ret, M.opt, tW, ao, mC, b2, cY, az, MK, uz, aH, aV, fL, aK, bZ, cZ, cInt, hn])
theorem LK {vs : List Nat} {g : D → M Unit} {t : M Bool} {e : M D} {fr : Fr} {L : List D → M (List D)} {F : Int × Int → D} (k : Xo h vs g t e L) : ∀ {ds : List D} {ps : List (Int × Int)}, Mr h ds ps → (∀ d p, fU h [.int p.1, .int p.2] d → dJ vs g t e d fr h = .ok (some (F p)) fr h) → L ds fr h = .ok (ps.map F) fr h
 | _, _, .nil, _ => k.nil fr
 | d :: ds, p :: ps, .cons S r, hh => k.cons d ds fr (some (F p)) (ps.map F) (hh d p S) (LK k r hh)
theorem Rv {ends : List (Int × Int)} {gaps : List Int} {ds : List D} {dt : D} (ST : fU h ds dt) (P : Mr h ds ends) (hg : gaps.Pairwise (· < ·)) (hs : (ends.map (·.1)).Sublist gaps) (hp : ∀ p ∈ ends, 1 ≤ p.2) (hl : gaps.length ≤ 100) : G8 [dt, .fl (gaps.map .int)] h = .ok (.bl true) [] h := by
 have hll := hs.length_le
 rw [agZ] at hll
 have asc := hg.sublist hs
 have hb : ends.length ≤ big := Nat.le_of_lt (yG (by omega))
 have hbd : ds.length ≤ big := by rw [P.length]; exact hb
 have so := ST.own
 obtain ⟨y2, e0⟩ := Ru (a := some dt) (b := some (.fl (gaps.map .int))) (d := none) (e' := none) P hp none
 have e1 := acJ (g := aQ 2) (b := BK) (fr := [some dt, some (.fl (gaps.map .int)), none, none, none]) (i := 0) ST rfl e0
 have c1 := ZS (j := 3) (vs := [2]) (g := FQ) (t := FT) (e' := FW) (fr := [some dt, some (.fl (gaps.map .int)), y2, none, none]) (fr' := [some dt, some (.fl (gaps.map .int)), none, none, none]) (i := 0) (r := ends.map fun p => .int p.1) ST rfl hbd rfl (fun L k => LK k P fun d p S => by
  have i0 : bh h d (.int 0) = some (.int p.1) := by rw [S.idx]; rfl
  simp [dJ, FQ, FT, FW, aQ, M.ret, aV, fL, az, M.bind, M.opt, mC, i0, cX])
 have e2 : (ends.map fun p => D.int p.1) = (ends.map (·.1)).map .int := by rw [List.map_map]; rfl
 rw [e2] at c1
 have c2 := acK (h := h) (vs := [4]) (g := FZ) (t := Ge) (e := KZ) (fr := [some dt, some (.fl (gaps.map .int)), none, some (.fl ((ends.map (·.1)).map .int)), none]) (ds := (ends.map (·.1)).map .int) (fun d hd => by
  obtain ⟨c, hc, rfl⟩ := List.mem_map.mp hd
  have hin := hs.subset hc
  simp [dJ, FZ, Ge, aQ, aG, aa, bz, bR, bD, bF, bG, bT, bU, bH, bJ, bK, bV, bW, bY, M.bind, M.ret, M.opt, az, TF .fl, hin, cX])
 have a1 := Wr (h := h) (d := .fl ((ends.map (·.1)).map .int)) .fl asc
 have b2 : 2 ≤ big := by decide
 have lb : ((ends.map (·.1)).map D.int).length ≤ big := by rw [agZ, agZ]; exact hb
 generalize (ends.map (·.1)).map D.int = fd at c1 c2 a1 lb
 simp [G8, du, Ko, K7, K6, startF, aD, bB, cC, aC, aG, aa, bz, bR, bD, bF, bG, bT, bU, bH, bJ, bK, bV, bW, bY, so, M.bind, M.ret, M.opt, mC, tW, ao, ST.isi, cY, b2, e1, c1, zY, bM, ye, GZ, cX, hb, aU, xX, bL, aH, dw, eV, dB, fz_non, dD, eX, eY, dF, dH, dI, eZ, fj, fu, aK, bZ, a1, uO, nM, m7, lb, c2, uz]
end
end L
namespace L
open PySem PySem.Spec L2 Pk
theorem ad8 {s n : M Fl} {fr fr1 : Fr} {h h1 : Hh} (e : s fr h = .ok .nx fr1 h1) : aD s n fr h = n fr1 h1 := by
 unfold aD
 rw [M.bind_ok e]
theorem ZV {t : M Bool} {m : M Fl} {fr fr1 : Fr} {h h1 : Hh} (e : t fr h = .ok false fr1 h1) : bB t m (M.ret .nx) fr h = .ok .nx fr1 h1 := by
 unfold bB
 rw [M.bind_ok e]
 rfl
theorem abf {n : Nat} {F : Fn} {ma : M (List D)} {fr fr1 : Fr} {h h1 h2 : Hh} {args : List D} {b : Bool} (ea : ma fr h = .ok args fr1 h1) (eF : F args h1 = .ok (.bl b) [] h2) (hn : args.length = n) : aC D.tru (aH n 0 F (aK []) ma (ao [])) fr h = .ok b fr1 h2 := by
 have e1 : aH n 0 F (aK []) ma (ao []) fr h = .ok (.bl b) fr1 h2 := by
  unfold aH
  rw [M.bind_ok ea]
  show (if args.length = n ∧ (0 : Nat) = 0 then bZ fr1 (F (args ++ []) h1) else .err) = _
  rw [if_pos ⟨hn, rfl⟩, ag5, eF]
  rfl
 unfold aC
 rw [M.bind_ok e1]
 rfl
theorem YJ {h : Hh} {size born : Int} {counts cuts : List Int} {ends : List (Int × Int)} {gone : List Int} {dC dR dT dG : D} {ts : List D} (SC : fU h (counts.map .int) dC) (SR : fU h (cuts.map .int) dR) (ST : fU h ts dT) (P : Mr h ts ends) (SG : fU h (gone.map .int) dG) {N : Nat} (l : zm N size born counts cuts ends gone) (h2 : 2 ≤ size) (h4 : size ≤ 4) :
 HH [dC, .int size, .int born, dR, dT, dG] h = .ok .non [] h := by
 have cl := l.g.cl
 have b0 := l.b0
 have fit := l.fit
 have lb : counts.length ≤ big := Nat.le_of_lt (yG (by omega))
 have s1 := Ww SC (counts := counts) (most := size - born) l.g.pos (by omega) (by omega) (by omega)
 have s2 := Qc SR (l := cuts) (lo := born) (hi := born + counts.length - 1 - 1) l.g.asc (fun x hx => by have := l.g.cin x hx; omega)
 have s3 := YH SC SR l.g (by omega)
 have s5 := Qc SG (l := gone) (lo := born) (hi := born + counts.length - 1) l.asc (fun x hx => by have := l.gin x hx; omega)
 have n1 : born < size := by omega
 have o1 := SC.own
 have o2 := SR.own
 have o3 := ST.own
 have o4 := SG.own
 have l1 : cV h dC = some (.int (counts.length : Nat)) := by rw [SC.len, agZ]
 have l2 := SR.lst
 have t0 : CK [some dC, some (.int size), some (.int born), some dR, some dT, some dG, none, none] h = zg [some dC, some (.int size), some (.int born), some dR, some dT, some dG, none, none] h := by
  simp [CK, aD, bB, jA, cC, aC, aH, ao, aa, bz, bR, bD, bF, bG, bT, bU, bH, bJ, bK, bV, bW, bY, M.bind, M.ret, M.opt, aK, bZ, cZ, cY, jm, mC, cInt, h2, h4, b0, n1, aG, eO, uv, bM, bL, cA, o1, o2, o3, o4, l1, l2, az, dw, eV, dB, fz_non, dD, eX, eY, dF, dH, dI, eZ, fj, fu, aU, SC.fz, SR.fz, ST.fz, SG.fz]
 have t1 : zg [some dC, some (.int size), some (.int born), some dR, some dT, some dG, none, none] h = zf [some dC, some (.int size), some (.int born), some dR, some dT, some dG, none, none] h := by
  simp [zg, aD, bB, jA, cC, aC, aH, ao, aa, bz, bR, bD, bF, bG, bT, bU, bH, bJ, bK, bV, bW, bY, M.bind, M.ret, M.opt, aK, bZ, cZ, cY, jm, mC, cInt, h2, h4, b0, n1, aG, eO, uv, bM, bL, cA, o1, o2, o3, o4, l1, l2, az, dw, eV, dB, fz_non, dD, eX, eY, dF, dH, dI, eZ, fj, fu, aU, SC.fz, SR.fz, ST.fz, SG.fz]
 have t2 : zf [some dC, some (.int size), some (.int born), some dR, some dT, some dG, none, none] h = za [some dC, some (.int size), some (.int born), some dR, some dT, some dG, none, none] h := by
  simp [zf, aD, bB, jA, cC, aC, aH, ao, aa, bz, bR, bD, bF, bG, bT, bU, bH, bJ, bK, bV, bW, bY, M.bind, M.ret, M.opt, aK, bZ, cZ, cY, jm, mC, cInt, h2, h4, b0, n1, aG, eO, uv, bM, bL, cA, o1, o2, o3, o4, l1, l2, az, dw, eV, dB, fz_non, dD, eX, eY, dF, dH, dI, eZ, fj, fu, aU, SC.fz, SR.fz, ST.fz, SG.fz, s1]
 have t3 : za [some dC, some (.int size), some (.int born), some dR, some dT, some dG, none, none] h = yZ [some dC, some (.int size), some (.int born), some dR, some dT, some dG, some (.int (born + counts.length - 1)), none] h := by
  simp [za, aD, bB, jA, cC, aC, aH, ao, aa, bz, bR, bD, bF, bG, bT, bU, bH, bJ, bK, bV, bW, bY, M.bind, M.ret, M.opt, aK, bZ, cZ, cY, jm, mC, cInt, h2, h4, b0, n1, aG, eO, uv, bM, bL, cA, o1, o2, o3, o4, l1, l2, az, dw, eV, dB, fz_non, dD, eX, eY, dF, dH, dI, eZ, fj, fu, aU, SC.fz, SR.fz, ST.fz, SG.fz]
 have t4 : yZ [some dC, some (.int size), some (.int born), some dR, some dT, some dG, some (.int (born + counts.length - 1)), none] h = Dd [some dC, some (.int size), some (.int born), some dR, some dT, some dG, some (.int (born + counts.length - 1)), none] h := by
  simp [yZ, aD, bB, jA, cC, aC, aH, ao, aa, bz, bR, bD, bF, bG, bT, bU, bH, bJ, bK, bV, bW, bY, M.bind, M.ret, M.opt, aK, bZ, cZ, cY, jm, mC, cInt, h2, h4, b0, n1, aG, eO, uv, bM, bL, cA, o1, o2, o3, o4, l1, l2, az, dw, eV, dB, fz_non, dD, eX, eY, dF, dH, dI, eZ, fj, fu, aU, SC.fz, SR.fz, ST.fz, SG.fz, s2]
 have t5 : Dd [some dC, some (.int size), some (.int born), some dR, some dT, some dG, some (.int (born + counts.length - 1)), none] h = yX [some dC, some (.int size), some (.int born), some dR, some dT, some dG, some (.int (born + counts.length - 1)), none] h := by
  have tt : (aC D.tru (aH 3 0 nH (aK []) (ao [(aa 0), (aa 2), (aa 3)]) (ao []))) [some dC, some (.int size), some (.int born), some dR, some dT, some dG, some (.int (born + counts.length - 1)), none] h = .ok false [some dC, some (.int size), some (.int born), some dR, some dT, some dG, some (.int (born + counts.length - 1)), none] h := by
   refine abf (args := [dC, .int born, dR]) ?_ s3 rfl
   simp [ao, aa, bz, o1, o2, M.bind, M.ret]
  exact ad8 (ZV tt)
 have t6 : yX [some dC, some (.int size), some (.int born), some dR, some dT, some dG, some (.int (born + counts.length - 1)), none] h = oK [some dC, some (.int size), some (.int born), some dR, some dT, some dG, some (.int (born + counts.length - 1)), some (.nl (cuts.map .int))] h := by
  simp [yX, aD, bB, jA, cC, aC, aH, ao, aa, bz, bR, bD, bF, bG, bT, bU, bH, bJ, bK, bV, bW, bY, M.bind, M.ret, M.opt, aK, bZ, cZ, cY, jm, mC, cInt, h2, h4, b0, n1, aG, eO, uv, bM, bL, cA, o1, o2, o3, o4, l1, l2, az, dw, eV, dB, fz_non, dD, eX, eY, dF, dH, dI, eZ, fj, fu, aU, SC.fz, SR.fz, ST.fz, SG.fz]
 by_cases hs : born + counts.length < size
 · have hsub := l.sub
   rw [if_pos hs] at hsub
   have s4 := Rv ST P (ends := ends) (gaps := cuts ++ [born + counts.length - 1]) (by
    rw [List.pairwise_append]
    refine ⟨l.g.asc, List.pairwise_singleton _ _, fun x hx y hy => ?_⟩
    rw [aht] at hy
    have := l.g.cin x hx
    omega) hsub (fun p hp => (l.pos p hp).1) (by rw [ag4, ahc]; omega)
   rw [List.map_append, ag0, ag7] at s4
   have n2 : born + (counts.length : Int) - 1 < size - 1 := by omega
   have kb : cuts.length < big := yG (by omega)
   have t7 : oK [some dC, some (.int size), some (.int born), some dR, some dT, some dG, some (.int (born + counts.length - 1)), some (.nl (cuts.map .int))] h = jf [some dC, some (.int size), some (.int born), some dR, some dT, some dG, some (.int (born + counts.length - 1)), some (.nl (cuts.map .int ++ [.int (born + counts.length - 1)]))] h := by
    simp [oK, aD, bB, jA, cC, aC, aH, ao, aa, bz, bR, bD, bF, bG, bT, bU, bH, bJ, bK, bV, bW, bY, M.bind, M.ret, M.opt, aK, bZ, cZ, cY, jm, mC, cInt, h2, h4, b0, n1, aG, eO, uv, bM, bL, cA, o1, o2, o3, o4, l1, l2, az, dw, eV, dB, fz_non, dD, eX, eY, dF, dH, dI, eZ, fj, fu, aU, SC.fz, SR.fz, ST.fz, SG.fz, n2, iV, yL, aR, jr, CQ, kb]
   have t8 : jf [some dC, some (.int size), some (.int born), some dR, some dT, some dG, some (.int (born + counts.length - 1)), some (.nl (cuts.map .int ++ [.int (born + counts.length - 1)]))] h = je [some dC, some (.int size), some (.int born), some dR, some dT, some dG, some (.int (born + counts.length - 1)), some (.fl (cuts.map .int ++ [.int (born + counts.length - 1)]))] h := by
    simp [jf, aD, bB, jA, cC, aC, aH, ao, aa, bz, bR, bD, bF, bG, bT, bU, bH, bJ, bK, bV, bW, bY, M.bind, M.ret, M.opt, aK, bZ, cZ, cY, jm, mC, cInt, h2, h4, b0, n1, aG, eO, uv, bM, bL, cA, o1, o2, o3, o4, l1, l2, az, dw, eV, dB, fz_non, dD, eX, eY, dF, dH, dI, eZ, fj, fu, aU, SC.fz, SR.fz, ST.fz, SG.fz, s4]
   have t9 : je [some dC, some (.int size), some (.int born), some dR, some dT, some dG, some (.int (born + counts.length - 1)), some (.fl (cuts.map .int ++ [.int (born + counts.length - 1)]))] h = .ok (.rt .non) [some dC, some (.int size), some (.int born), some dR, some dT, some dG, some (.int (born + counts.length - 1)), some (.fl (cuts.map .int ++ [.int (born + counts.length - 1)]))] h := by
    simp [je, aD, bB, jA, cC, aC, aH, ao, aa, bz, bR, bD, bF, bG, bT, bU, bH, bJ, bK, bV, bW, bY, M.bind, M.ret, M.opt, aK, bZ, cZ, cY, jm, mC, cInt, h2, h4, b0, n1, aG, eO, uv, bM, bL, cA, o1, o2, o3, o4, l1, l2, az, dw, eV, dB, fz_non, dD, eX, eY, dF, dH, dI, eZ, fj, fu, aU, SC.fz, SR.fz, ST.fz, SG.fz, s5]
   exact Tf (by simp [startF]) (t0.trans (t1.trans (t2.trans (t3.trans (t4.trans (t5.trans (t6.trans (t7.trans (t8.trans t9)))))))))
 · have hsub := l.sub
   rw [if_neg hs, ag5] at hsub
   have s4 := Rv ST P (ends := ends) (gaps := cuts) l.g.asc hsub (fun p hp => (l.pos p hp).1) (by omega)
   have n2 : ¬ born + (counts.length : Int) - 1 < size - 1 := by omega
   have t7 : oK [some dC, some (.int size), some (.int born), some dR, some dT, some dG, some (.int (born + counts.length - 1)), some (.nl (cuts.map .int))] h = jf [some dC, some (.int size), some (.int born), some dR, some dT, some dG, some (.int (born + counts.length - 1)), some (.nl (cuts.map .int))] h := by
    simp [oK, aD, bB, jA, cC, aC, aH, ao, aa, bz, bR, bD, bF, bG, bT, bU, bH, bJ, bK, bV, bW, bY, M.bind, M.ret, M.opt, aK, bZ, cZ, cY, jm, mC, cInt, h2, h4, b0, n1, aG, eO, uv, bM, bL, cA, o1, o2, o3, o4, l1, l2, az, dw, eV, dB, fz_non, dD, eX, eY, dF, dH, dI, eZ, fj, fu, aU, SC.fz, SR.fz, ST.fz, SG.fz, n2]
   have t8 : jf [some dC, some (.int size), some (.int born), some dR, some dT, some dG, some (.int (born + counts.length - 1)), some (.nl (cuts.map .int))] h = je [some dC, some (.int size), some (.int born), some dR, some dT, some dG, some (.int (born + counts.length - 1)), some (.fl (cuts.map .int))] h := by
    simp [jf, aD, bB, jA, cC, aC, aH, ao, aa, bz, bR, bD, bF, bG, bT, bU, bH, bJ, bK, bV, bW, bY, M.bind, M.ret, M.opt, aK, bZ, cZ, cY, jm, mC, cInt, h2, h4, b0, n1, aG, eO, uv, bM, bL, cA, o1, o2, o3, o4, l1, l2, az, dw, eV, dB, fz_non, dD, eX, eY, dF, dH, dI, eZ, fj, fu, aU, SC.fz, SR.fz, ST.fz, SG.fz, s4]
   have t9 : je [some dC, some (.int size), some (.int born), some dR, some dT, some dG, some (.int (born + counts.length - 1)), some (.fl (cuts.map .int))] h = .ok (.rt .non) [some dC, some (.int size), some (.int born), some dR, some dT, some dG, some (.int (born + counts.length - 1)), some (.fl (cuts.map .int))] h := by
    simp [je, aD, bB, jA, cC, aC, aH, ao, aa, bz, bR, bD, bF, bG, bT, bU, bH, bJ, bK, bV, bW, bY, M.bind, M.ret, M.opt, aK, bZ, cZ, cY, jm, mC, cInt, h2, h4, b0, n1, aG, eO, uv, bM, bL, cA, o1, o2, o3, o4, l1, l2, az, dw, eV, dB, fz_non, dD, eX, eY, dF, dH, dI, eZ, fj, fu, aU, SC.fz, SR.fz, ST.fz, SG.fz, s5]
   exact Tf (by simp [startF]) (t0.trans (t1.trans (t2.trans (t3.trans (t4.trans (t5.trans (t6.trans (t7.trans (t8.trans t9)))))))))
def xN (size born : Int) (counts cuts : List Int) (ends : List (Int × Int)) (gone : List Int) : List D :=
 [.int size, .int born, .tup (counts.map .int), .tup (cuts.map .int), .tup (ends.map pairD), .tup (gone.map .int)]
theorem ad9 {fr : Fr} {h : Hh} {d : D} {l : List D} {gs : List D → M Unit} (S : fU h l d) : Yv l.length gs d fr h = gs l fr h := by
 cases S with
 | fl => show (if l.length = l.length then gs l else M.opt none) fr h = _; rw [if_pos rfl]
 | tup => show (if l.length = l.length then gs l else M.opt none) fr h = _; rw [if_pos rfl]
 | ref n e =>
   show (match h[n]? with
    | some (.nl l') => if l'.length = l.length then gs l' fr h else .err
    | _ => .err) = _
   rw [e]
   dsimp only
   rw [if_pos rfl]
theorem N7 {h : Hh} {size born : Int} {counts cuts : List Int} {ends : List (Int × Int)} {gone : List Int} {dC dR dT dG : D} {ts : List D} (SC : fU h (counts.map .int) dC) (SR : fU h (cuts.map .int) dR) (ST : fU h ts dT) (P : Mr h ts ends) (SG : fU h (gone.map .int) dG) {N : Nat} (l : zm N size born counts cuts ends gone) (h2 : 2 ≤ size) (h4 : size ≤ 4) :
 cQ [dC, .int size, .int born, dR, dT, dG] h = .ok (.no 0 (xN size born counts cuts ends gone)) [] h := by
 have f0 := YJ SC SR ST P SG l h2 h4
 have cl := l.g.cl
 have fit := l.fit
 have b0 := l.b0
 have el : ts.length ≤ big := by
  have a := l.sub.length_le
  rw [agZ, ag4] at a
  have : (if born + (counts.length : Int) < size then [born + (counts.length : Int) - 1] else []).length ≤ 1 := by split <;> simp
  rw [P.length]
  exact Nat.le_of_lt (yG (by omega))
 have b2 : 2 ≤ big := by decide
 have o1 := SC.own
 have o2 := SR.own
 have o3 := ST.own
 have o4 := SG.own
 have t1 := SC.tuple
 have t2 := SR.tuple
 have t4 := SG.tuple
 have c1 := Wm (vs := [8, 9]) (g := uU) (t := uV) (e' := uW)
  (fr := [some (.no 0 [.int size, .int born, .tup (counts.map .int), .tup (cuts.map .int)]), some dC, some (.int size), some (.int born), some dR, some dT, some dG, some .non, none, none]) (fr' := [some (.no 0 [.int size, .int born, .tup (counts.map .int), .tup (cuts.map .int)]), some dC, some (.int size), some (.int born), some dR, some dT, some dG, some .non, none, none]) (i := 5) (r := ends.map pairD) ST rfl el rfl (fun L k => LK k P fun d p S => by
  have q := fun (gs : List D → M Unit) (fr : Fr) => ad9 (fr := fr) (gs := gs) S
  simp only [ag3, ahb, Nat.zero_add, Nat.reduceAdd] at q
  simp [dJ, uU, uV, uW, q, cI, aQ, yJ, pairD, M.bind, M.ret, M.opt, tW, ao, aa, bz, bR, bD, bF, bG, bT, bU, bH, bJ, bK, bV, bW, bY, b2, cX])
 have tn : jn h (.nl (ends.map pairD)) = some (.tup (ends.map pairD)) := rfl
 simp [cQ, tn, runI, zj, Ca, BZ, BX, BW, BV, BR, startF, aD, bM, aH, ao, aa, bz, bR, bD, bF, bG, bT, bU, bH, bJ, bK, bV, bW, bY, o1, o2, o3, o4, M.bind, M.ret, M.opt, aK, bZ, f0, bB, aG, mC, RK, fJ, yg, Ax, xR, yV, xJ, xT, Dc, Fp, aha, uw, aC, t1, t2, t4, az, c1, xN]
end L
namespace L
open PySem PySem.Spec L2 Pk
theorem LQ (lo : Int) (n : Nat) : jw lo n = ((ahs n).map fun (k : Nat) => lo + (k : Int)).map D.int := by unfold jw; rw [List.map_map]; rfl
theorem YK {h : Hh} {v : Int} : ni [.int v] h = .ok (.bl true) [] h := by
 apply Wp.eq
 simp only [↓fX, ↓nJ, ↓wp_bind, ↓vC, ↓Ci, ↓Ab, ↓vD, ↓o9, ↓uE, ↓vG, ↓yP, ↓yQ, ↓Ac, ↓vH, ↓ph, ↓vK, ↓Ad, ↓pq, ↓pA, ↓vL, ↓jE, ↓Ae, ↓jF, ↓jG, ↓vM, ↓vP, ↓pB, ↓Af, ↓wy, ↓pC, ↓vQ, ↓Ag, ↓oh, ↓pD, ↓pF, ↓uF, ↓vR, ↓pG, ↓uG, ↓vU, ↓vW, ↓pH, ↓ou, ↓Ah, ↓oA, ↓jH, ↓fY, ↓jJ, ↓vX, ↓pK, ↓pM, ↓pN, ↓pO, ↓pP, ↓pQ, ↓pU, ↓fZ, ↓pW, ↓pX, ↓pY, ↓qR, ↓wB, ↓pZ, ↓oE, ↓qb, ↓qJ, ↓qP, ↓qQ, ↓oH, ↓oJ, iG, vh, vm, uH, nZ, CW, CZ, mZ, vo, uC, vp, o8, vq, vz, uD, oY, oZ, m9, uh, jK, qD, wg, pJ, ↓qY, ↓qZ, ↓kW, ↓wC, ↓Aj, ↓rA, ↓rB, ↓vg, ↓rK, ↓rN, ↓wI, ↓wJ, ↓wL, ↓wO, ↓rQ, ↓lg, ↓Ak, ↓lu, ↓rR, ↓sr, ↓su, ↓lG, ↓lH, ↓lJ, ↓ie, ↓wQ, ↓sE, ↓lL, ↓lM, ↓wR, ↓sJ, ↓lN, ↓lO, ↓lQ, ↓wU, ↓wV, ↓wW, ↓wX, ↓sU, ↓lU, ↓ig, ↓il, ↓xj, ↓xm, ↓lX, ↓xq, ↓sW, ↓sX, ↓sY, ↓lY, ↓lZ, ↓mD, ↓iy, ↓tE, ↓mG, ↓xr, ↓mH, ↓mJ, ↓tH, ↓tL, ↓tK, ↓tO, ↓tQ, ↓mQ, ↓tR, ↓mO, ↓iz, bz, dw, bR, eV, bD, dB, bF, fz_non, bG, dD, bT, eX, bU, eY, bH, dF, bJ, dH, bK, dI, bV, eZ, bW, fj, bY, fu, jo, nM, ug, oX, jL, oF, oG, m7, jM, vY, qd, qj, Du, Dy, Dz, DG, DK, DN, DP, Ai, iJ, yR, jN, jO, ql, jP, jQ, gh, jR, jT, gj, jU, vZ, v4, v5, v7, qm, qp, jV, uO, qu, cY, qw, qC, v8, v9, yS, yU, jZ, qF, j5, gK, j6, gM, qG, j7, gQ, j8, j9, qH, qI, nW, Hn, HS, gU, gY, kE, qT, kh, gR, wk, wu, qK, km, qM, qN, qO, wA, qL, uI, wz, ahj, aho, ahp, ahe, Int.reduceToNat, fJ, gq, jW, gA, gG, jX, jY, gH, gJ, kY, kZ, rO, wM, wN, Option.isSome_some, Option.isSome_none, rP, Int.reduceEq, beq_self_eq_true, iZ, jc, lA, rW, lB, lC, lD, rY, rZ, lE, lF, lK, g8, fD, sG, sH, sO, sS, lV, ir, iw, sV, lW, wY, Am, wZ, xf, xg, DQ, DR, mF, tD, xF, xG, tG, xH, mK, tM, qU, qX, kJ, qW, rC, wD, rE, rF, wF, rG, rH, rJ, wG, wH, startF, ag0, ag7, ahh, ahf, ag5, ag3, ahb, ahk, ahq, ahr, ahi, ahl, ahm, Nat.reduceAdd, Nat.reduceSub, Nat.reduceLeDiff, Nat.reduceLT, Nat.zero_add, and_true, true_and, and_self, false_and, and_false, not_true_eq_false, not_false_eq_true, eq_self, decide_true, decide_false, Bool.not_true, Bool.not_false, Bool.true_and, Bool.false_and, Bool.and_true, Bool.and_false, Bool.or_true, Bool.or_false, Bool.true_or, Bool.false_or, Option.map_some, Option.map_none, Int.toNat_natCast, ↓reduceIte, Bool.false_eq_true, reduceCtorEq, Int.cast_ofNat_Int, Int.reduceLT, Int.reduceLE, Int.reduceAdd, Int.reduceSub, Int.reduceNeg, Int.natCast_zero, wj, and_assoc, ↓Pq, cJ, dM, di, cO, dN, dW, fH, ↓N5, Qa, N6]
section
variable {h : Hh}
theorem JC {l : List Int} {dd : D} (S : fU h (l.map .int) dd) (hl : l.length ≤ 1000) : aZ [.tup (l.map .int), dd] h = .ok (.bl true) [] h := by
 have so := S.own
 have sl := S.len
 have lc := V4 (vs := [3]) (g := iK) (t := iQ) (e := iT) (fr := [some (.tup (l.map .int)), some dd, none, none]) (h := h) (F := D.int) (xs := (ahs l.length).map fun (k : Nat) => 0 + (k : Int)) (fun i hi => by
  obtain ⟨k, hk, rfl⟩ := List.mem_map.mp hi
  have hk' := List.mem_range.mp hk
  have hx : l[k]? = some l[k] := ag1 hk'
  have a := Io (j := 0 + (k : Int)) (by omega) hx
  have b := S.idx (0 + (k : Int))
  rw [a] at b
  simp only [↓fX, ↓nJ, ↓wp_bind, ↓vC, ↓Ci, ↓Ab, ↓vD, ↓o9, ↓uE, ↓vG, ↓yP, ↓yQ, ↓Ac, ↓vH, ↓ph, ↓vK, ↓Ad, ↓pq, ↓pA, ↓vL, ↓jE, ↓Ae, ↓jF, ↓jG, ↓vM, ↓vP, ↓pB, ↓Af, ↓wy, ↓pC, ↓vQ, ↓Ag, ↓oh, ↓pD, ↓pF, ↓uF, ↓vR, ↓pG, ↓uG, ↓vU, ↓vW, ↓pH, ↓ou, ↓Ah, ↓oA, ↓jH, ↓fY, ↓jJ, ↓vX, ↓pK, ↓pM, ↓pN, ↓pO, ↓pP, ↓pQ, ↓pU, ↓fZ, ↓pW, ↓pX, ↓pY, ↓qR, ↓wB, ↓pZ, ↓oE, ↓qb, ↓qJ, ↓qP, ↓qQ, ↓oH, ↓oJ, iG, vh, vm, uH, nZ, CW, CZ, mZ, vo, uC, vp, o8, vq, vz, uD, oY, oZ, m9, uh, jK, qD, wg, pJ, ↓qY, ↓qZ, ↓kW, ↓wC, ↓Aj, ↓rA, ↓rB, ↓vg, ↓rK, ↓rN, ↓wI, ↓wJ, ↓wL, ↓wO, ↓rQ, ↓lg, ↓Ak, ↓lu, ↓rR, ↓sr, ↓su, ↓lG, ↓lH, ↓lJ, ↓ie, ↓wQ, ↓sE, ↓lL, ↓lM, ↓wR, ↓sJ, ↓lN, ↓lO, ↓lQ, ↓wU, ↓wV, ↓wW, ↓wX, ↓sU, ↓lU, ↓ig, ↓il, ↓xj, ↓xm, ↓lX, ↓xq, ↓sW, ↓sX, ↓sY, ↓lY, ↓lZ, ↓mD, ↓iy, ↓tE, ↓mG, ↓xr, ↓mH, ↓mJ, ↓tH, ↓tL, ↓tK, ↓tO, ↓tQ, ↓mQ, ↓tR, ↓mO, ↓iz, bz, dw, bR, eV, bD, dB, bF, fz_non, bG, dD, bT, eX, bU, eY, bH, dF, bJ, dH, bK, dI, bV, eZ, bW, fj, bY, fu, jo, nM, ug, oX, jL, oF, oG, m7, jM, vY, qd, qj, Du, Dy, Dz, DG, DK, DN, DP, Ai, iJ, yR, jN, jO, ql, jP, jQ, gh, jR, jT, gj, jU, vZ, v4, v5, v7, qm, qp, jV, uO, qu, cY, qw, qC, v8, v9, yS, yU, jZ, qF, j5, gK, j6, gM, qG, j7, gQ, j8, j9, qH, qI, nW, Hn, HS, gU, gY, kE, qT, kh, gR, wk, wu, qK, km, qM, qN, qO, wA, qL, uI, wz, ahj, aho, ahp, ahe, Int.reduceToNat, fJ, gq, jW, gA, gG, jX, jY, gH, gJ, kY, kZ, rO, wM, wN, Option.isSome_some, Option.isSome_none, rP, Int.reduceEq, beq_self_eq_true, iZ, jc, lA, rW, lB, lC, lD, rY, rZ, lE, lF, lK, g8, fD, sG, sH, sO, sS, lV, ir, iw, sV, lW, wY, Am, wZ, xf, xg, DQ, DR, mF, tD, xF, xG, tG, xH, mK, tM, qU, qX, kJ, qW, rC, wD, rE, rF, wF, rG, rH, rJ, wG, wH, startF, ag0, ag7, ahh, ahf, ag5, ag3, ahb, ahk, ahq, ahr, ahi, ahl, ahm, Nat.reduceAdd, Nat.reduceSub, Nat.reduceLeDiff, Nat.reduceLT, Nat.zero_add, and_true, true_and, and_self, false_and, and_false, not_true_eq_false, not_false_eq_true, eq_self, decide_true, decide_false, Bool.not_true, Bool.not_false, Bool.true_and, Bool.false_and, Bool.and_true, Bool.and_false, Bool.or_true, Bool.or_false, Bool.true_or, Bool.false_or, Option.map_some, Option.map_none, Int.toNat_natCast, ↓reduceIte, Bool.false_eq_true, reduceCtorEq, Int.cast_ofNat_Int, Int.reduceLT, Int.reduceLE, Int.reduceAdd, Int.reduceSub, Int.reduceNeg, Int.natCast_zero, wj, and_assoc, ↓oO, ↓oR, ↓oU, ↓oV, ↓uP, cJ, dM, di, cO, dN, dW, fH, a, b, YK])
 have hm : (jw 0 l.length).length ≤ 100000 := by
  rw [LQ, agZ, agZ, ahv]; omega
 have sm : ue (l.length : Int) = true := Rb (by omega) (by omega)
 rw [← LQ] at lc
 rw [agZ] at sl
 apply Wp.eq
 simp only [↓fX, ↓nJ, ↓wp_bind, ↓vC, ↓Ci, ↓Ab, ↓vD, ↓o9, ↓uE, ↓vG, ↓yP, ↓yQ, ↓Ac, ↓vH, ↓ph, ↓vK, ↓Ad, ↓pq, ↓pA, ↓vL, ↓jE, ↓Ae, ↓jF, ↓jG, ↓vM, ↓vP, ↓pB, ↓Af, ↓wy, ↓pC, ↓vQ, ↓Ag, ↓oh, ↓pD, ↓pF, ↓uF, ↓vR, ↓pG, ↓uG, ↓vU, ↓vW, ↓pH, ↓ou, ↓Ah, ↓oA, ↓jH, ↓fY, ↓jJ, ↓vX, ↓pK, ↓pM, ↓pN, ↓pO, ↓pP, ↓pQ, ↓pU, ↓fZ, ↓pW, ↓pX, ↓pY, ↓qR, ↓wB, ↓pZ, ↓oE, ↓qb, ↓qJ, ↓qP, ↓qQ, ↓oH, ↓oJ, iG, vh, vm, uH, nZ, CW, CZ, mZ, vo, uC, vp, o8, vq, vz, uD, oY, oZ, m9, uh, jK, qD, wg, pJ, ↓qY, ↓qZ, ↓kW, ↓wC, ↓Aj, ↓rA, ↓rB, ↓vg, ↓rK, ↓rN, ↓wI, ↓wJ, ↓wL, ↓wO, ↓rQ, ↓lg, ↓Ak, ↓lu, ↓rR, ↓sr, ↓su, ↓lG, ↓lH, ↓lJ, ↓ie, ↓wQ, ↓sE, ↓lL, ↓lM, ↓wR, ↓sJ, ↓lN, ↓lO, ↓lQ, ↓wU, ↓wV, ↓wW, ↓wX, ↓sU, ↓lU, ↓ig, ↓il, ↓xj, ↓xm, ↓lX, ↓xq, ↓sW, ↓sX, ↓sY, ↓lY, ↓lZ, ↓mD, ↓iy, ↓tE, ↓mG, ↓xr, ↓mH, ↓mJ, ↓tH, ↓tL, ↓tK, ↓tO, ↓tQ, ↓mQ, ↓tR, ↓mO, ↓iz, bz, dw, bR, eV, bD, dB, bF, fz_non, bG, dD, bT, eX, bU, eY, bH, dF, bJ, dH, bK, dI, bV, eZ, bW, fj, bY, fu, jo, nM, ug, oX, jL, oF, oG, m7, jM, vY, qd, qj, Du, Dy, Dz, DG, DK, DN, DP, Ai, iJ, yR, jN, jO, ql, jP, jQ, gh, jR, jT, gj, jU, vZ, v4, v5, v7, qm, qp, jV, uO, qu, cY, qw, qC, v8, v9, yS, yU, jZ, qF, j5, gK, j6, gM, qG, j7, gQ, j8, j9, qH, qI, nW, Hn, HS, gU, gY, kE, qT, kh, gR, wk, wu, qK, km, qM, qN, qO, wA, qL, uI, wz, ahj, aho, ahp, ahe, Int.reduceToNat, fJ, gq, jW, gA, gG, jX, jY, gH, gJ, kY, kZ, rO, wM, wN, Option.isSome_some, Option.isSome_none, rP, Int.reduceEq, beq_self_eq_true, iZ, jc, lA, rW, lB, lC, lD, rY, rZ, lE, lF, lK, g8, fD, sG, sH, sO, sS, lV, ir, iw, sV, lW, wY, Am, wZ, xf, xg, DQ, DR, mF, tD, xF, xG, tG, xH, mK, tM, qU, qX, kJ, qW, rC, wD, rE, rF, wF, rG, rH, rJ, wG, wH, startF, ag0, ag7, ahh, ahf, ag5, ag3, ahb, ahk, ahq, ahr, ahi, ahl, ahm, Nat.reduceAdd, Nat.reduceSub, Nat.reduceLeDiff, Nat.reduceLT, Nat.zero_add, and_true, true_and, and_self, false_and, and_false, not_true_eq_false, not_false_eq_true, eq_self, decide_true, decide_false, Bool.not_true, Bool.not_false, Bool.true_and, Bool.false_and, Bool.and_true, Bool.and_false, Bool.or_true, Bool.or_false, Bool.true_or, Bool.false_or, Option.map_some, Option.map_none, Int.toNat_natCast, ↓reduceIte, Bool.false_eq_true, reduceCtorEq, Int.cast_ofNat_Int, Int.reduceLT, Int.reduceLE, Int.reduceAdd, Int.reduceSub, Int.reduceNeg, Int.natCast_zero, wj, and_assoc, ↓oO, ↓oR, ↓oU, ↓oV, ↓uP, cJ, dM, di, cO, dN, dW, fH, ↓Lw, Wn, agZ, sl, sm, hm, lc, ZL]
theorem YL {l : List (Int × Int)} (hl : l.length ≤ 1000) : oM [.tup (l.map pairD), .fl (l.map pairD)] h = .ok (.bl true) [] h := by
 have lc := V4 (vs := [2]) (g := nQ) (t := nR) (e := nU) (fr := [some (.tup (l.map pairD)), some (.fl (l.map pairD)), none]) (h := h) (F := D.int) (xs := (ahs l.length).map fun (k : Nat) => 0 + (k : Int)) (fun i hi => by
  obtain ⟨k, hk, rfl⟩ := List.mem_map.mp hi
  have hk' := List.mem_range.mp hk
  have hx : (l.map pairD)[k]? = some (pairD l[k]) := by rw [ahx, ag1 hk']; rfl
  have a : atI (l.map pairD) (0 + (k : Int)) = some (pairD l[k]) := by
   unfold atI
   have : ixN (l.map pairD).length (0 + (k : Int)) = some k := by
    unfold ixN
    rw [agZ, if_pos (by omega), if_pos (by omega)]
    congr 1
    omega
   rw [this]
   exact hx
  have b := JC (h := h) (l := [l[k].1, l[k].2]) (dd := pairD l[k]) (by unfold pairD; exact .tup) (by simp)
  have b' : aZ [pairD l[k], pairD l[k]] h = .ok (.bl true) [] h := b
  have ow : (pairD l[k]).own = false := rfl
  simp only [↓fX, ↓nJ, ↓wp_bind, ↓vC, ↓Ci, ↓Ab, ↓vD, ↓o9, ↓uE, ↓vG, ↓yP, ↓yQ, ↓Ac, ↓vH, ↓ph, ↓vK, ↓Ad, ↓pq, ↓pA, ↓vL, ↓jE, ↓Ae, ↓jF, ↓jG, ↓vM, ↓vP, ↓pB, ↓Af, ↓wy, ↓pC, ↓vQ, ↓Ag, ↓oh, ↓pD, ↓pF, ↓uF, ↓vR, ↓pG, ↓uG, ↓vU, ↓vW, ↓pH, ↓ou, ↓Ah, ↓oA, ↓jH, ↓fY, ↓jJ, ↓vX, ↓pK, ↓pM, ↓pN, ↓pO, ↓pP, ↓pQ, ↓pU, ↓fZ, ↓pW, ↓pX, ↓pY, ↓qR, ↓wB, ↓pZ, ↓oE, ↓qb, ↓qJ, ↓qP, ↓qQ, ↓oH, ↓oJ, iG, vh, vm, uH, nZ, CW, CZ, mZ, vo, uC, vp, o8, vq, vz, uD, oY, oZ, m9, uh, jK, qD, wg, pJ, ↓qY, ↓qZ, ↓kW, ↓wC, ↓Aj, ↓rA, ↓rB, ↓vg, ↓rK, ↓rN, ↓wI, ↓wJ, ↓wL, ↓wO, ↓rQ, ↓lg, ↓Ak, ↓lu, ↓rR, ↓sr, ↓su, ↓lG, ↓lH, ↓lJ, ↓ie, ↓wQ, ↓sE, ↓lL, ↓lM, ↓wR, ↓sJ, ↓lN, ↓lO, ↓lQ, ↓wU, ↓wV, ↓wW, ↓wX, ↓sU, ↓lU, ↓ig, ↓il, ↓xj, ↓xm, ↓lX, ↓xq, ↓sW, ↓sX, ↓sY, ↓lY, ↓lZ, ↓mD, ↓iy, ↓tE, ↓mG, ↓xr, ↓mH, ↓mJ, ↓tH, ↓tL, ↓tK, ↓tO, ↓tQ, ↓mQ, ↓tR, ↓mO, ↓iz, bz, dw, bR, eV, bD, dB, bF, fz_non, bG, dD, bT, eX, bU, eY, bH, dF, bJ, dH, bK, dI, bV, eZ, bW, fj, bY, fu, jo, nM, ug, oX, jL, oF, oG, m7, jM, vY, qd, qj, Du, Dy, Dz, DG, DK, DN, DP, Ai, iJ, yR, jN, jO, ql, jP, jQ, gh, jR, jT, gj, jU, vZ, v4, v5, v7, qm, qp, jV, uO, qu, cY, qw, qC, v8, v9, yS, yU, jZ, qF, j5, gK, j6, gM, qG, j7, gQ, j8, j9, qH, qI, nW, Hn, HS, gU, gY, kE, qT, kh, gR, wk, wu, qK, km, qM, qN, qO, wA, qL, uI, wz, ahj, aho, ahp, ahe, Int.reduceToNat, fJ, gq, jW, gA, gG, jX, jY, gH, gJ, kY, kZ, rO, wM, wN, Option.isSome_some, Option.isSome_none, rP, Int.reduceEq, beq_self_eq_true, iZ, jc, lA, rW, lB, lC, lD, rY, rZ, lE, lF, lK, g8, fD, sG, sH, sO, sS, lV, ir, iw, sV, lW, wY, Am, wZ, xf, xg, DQ, DR, mF, tD, xF, xG, tG, xH, mK, tM, qU, qX, kJ, qW, rC, wD, rE, rF, wF, rG, rH, rJ, wG, wH, startF, ag0, ag7, ahh, ahf, ag5, ag3, ahb, ahk, ahq, ahr, ahi, ahl, ahm, Nat.reduceAdd, Nat.reduceSub, Nat.reduceLeDiff, Nat.reduceLT, Nat.zero_add, and_true, true_and, and_self, false_and, and_false, not_true_eq_false, not_false_eq_true, eq_self, decide_true, decide_false, Bool.not_true, Bool.not_false, Bool.true_and, Bool.false_and, Bool.and_true, Bool.and_false, Bool.or_true, Bool.or_false, Bool.true_or, Bool.false_or, Option.map_some, Option.map_none, Int.toNat_natCast, ↓reduceIte, Bool.false_eq_true, reduceCtorEq, Int.cast_ofNat_Int, Int.reduceLT, Int.reduceLE, Int.reduceAdd, Int.reduceSub, Int.reduceNeg, Int.natCast_zero, wj, and_assoc, ↓oO, ↓oR, ↓oU, ↓oV, ↓uP, ↓Et, ↓Eu, ↓Ew, ↓Jz, cJ, dM, di, cO, dN, dW, fH, a, b'])
 have hm : (jw 0 l.length).length ≤ 100000 := by
  rw [LQ, agZ, agZ, ahv]; omega
 have sm : ue (l.length : Int) = true := Rb (by omega) (by omega)
 rw [← LQ] at lc
 apply Wp.eq
 simp only [↓fX, ↓nJ, ↓wp_bind, ↓vC, ↓Ci, ↓Ab, ↓vD, ↓o9, ↓uE, ↓vG, ↓yP, ↓yQ, ↓Ac, ↓vH, ↓ph, ↓vK, ↓Ad, ↓pq, ↓pA, ↓vL, ↓jE, ↓Ae, ↓jF, ↓jG, ↓vM, ↓vP, ↓pB, ↓Af, ↓wy, ↓pC, ↓vQ, ↓Ag, ↓oh, ↓pD, ↓pF, ↓uF, ↓vR, ↓pG, ↓uG, ↓vU, ↓vW, ↓pH, ↓ou, ↓Ah, ↓oA, ↓jH, ↓fY, ↓jJ, ↓vX, ↓pK, ↓pM, ↓pN, ↓pO, ↓pP, ↓pQ, ↓pU, ↓fZ, ↓pW, ↓pX, ↓pY, ↓qR, ↓wB, ↓pZ, ↓oE, ↓qb, ↓qJ, ↓qP, ↓qQ, ↓oH, ↓oJ, iG, vh, vm, uH, nZ, CW, CZ, mZ, vo, uC, vp, o8, vq, vz, uD, oY, oZ, m9, uh, jK, qD, wg, pJ, ↓qY, ↓qZ, ↓kW, ↓wC, ↓Aj, ↓rA, ↓rB, ↓vg, ↓rK, ↓rN, ↓wI, ↓wJ, ↓wL, ↓wO, ↓rQ, ↓lg, ↓Ak, ↓lu, ↓rR, ↓sr, ↓su, ↓lG, ↓lH, ↓lJ, ↓ie, ↓wQ, ↓sE, ↓lL, ↓lM, ↓wR, ↓sJ, ↓lN, ↓lO, ↓lQ, ↓wU, ↓wV, ↓wW, ↓wX, ↓sU, ↓lU, ↓ig, ↓il, ↓xj, ↓xm, ↓lX, ↓xq, ↓sW, ↓sX, ↓sY, ↓lY, ↓lZ, ↓mD, ↓iy, ↓tE, ↓mG, ↓xr, ↓mH, ↓mJ, ↓tH, ↓tL, ↓tK, ↓tO, ↓tQ, ↓mQ, ↓tR, ↓mO, ↓iz, bz, dw, bR, eV, bD, dB, bF, fz_non, bG, dD, bT, eX, bU, eY, bH, dF, bJ, dH, bK, dI, bV, eZ, bW, fj, bY, fu, jo, nM, ug, oX, jL, oF, oG, m7, jM, vY, qd, qj, Du, Dy, Dz, DG, DK, DN, DP, Ai, iJ, yR, jN, jO, ql, jP, jQ, gh, jR, jT, gj, jU, vZ, v4, v5, v7, qm, qp, jV, uO, qu, cY, qw, qC, v8, v9, yS, yU, jZ, qF, j5, gK, j6, gM, qG, j7, gQ, j8, j9, qH, qI, nW, Hn, HS, gU, gY, kE, qT, kh, gR, wk, wu, qK, km, qM, qN, qO, wA, qL, uI, wz, ahj, aho, ahp, ahe, Int.reduceToNat, fJ, gq, jW, gA, gG, jX, jY, gH, gJ, kY, kZ, rO, wM, wN, Option.isSome_some, Option.isSome_none, rP, Int.reduceEq, beq_self_eq_true, iZ, jc, lA, rW, lB, lC, lD, rY, rZ, lE, lF, lK, g8, fD, sG, sH, sO, sS, lV, ir, iw, sV, lW, wY, Am, wZ, xf, xg, DQ, DR, mF, tD, xF, xG, tG, xH, mK, tM, qU, qX, kJ, qW, rC, wD, rE, rF, wF, rG, rH, rJ, wG, wH, startF, ag0, ag7, ahh, ahf, ag5, ag3, ahb, ahk, ahq, ahr, ahi, ahl, ahm, Nat.reduceAdd, Nat.reduceSub, Nat.reduceLeDiff, Nat.reduceLT, Nat.zero_add, and_true, true_and, and_self, false_and, and_false, not_true_eq_false, not_false_eq_true, eq_self, decide_true, decide_false, Bool.not_true, Bool.not_false, Bool.true_and, Bool.false_and, Bool.and_true, Bool.and_false, Bool.or_true, Bool.or_false, Bool.true_or, Bool.false_or, Option.map_some, Option.map_none, Int.toNat_natCast, ↓reduceIte, Bool.false_eq_true, reduceCtorEq, Int.cast_ofNat_Int, Int.reduceLT, Int.reduceLE, Int.reduceAdd, Int.reduceSub, Int.reduceNeg, Int.natCast_zero, wj, and_assoc, ↓oO, ↓oR, ↓oU, ↓oV, ↓uP, ↓Et, ↓Eu, ↓Ew, ↓Jz, cJ, dM, di, cO, dN, dW, fH, ↓Pr, Wn, agZ, sm, hm, lc, ZL]
theorem abg {size born : Int} {counts cuts : List Int} {ends : List (Int × Int)} {gone : List Int} : tU [.obj 0 (xN size born counts cuts ends gone)] h = .ok (.int (born + counts.length - 1)) [] h := by
 unfold xN
 apply Wp.eq
 simp only [↓fX, ↓nJ, ↓wp_bind, ↓vC, ↓Ci, ↓Ab, ↓vD, ↓o9, ↓uE, ↓vG, ↓yP, ↓yQ, ↓Ac, ↓vH, ↓ph, ↓vK, ↓Ad, ↓pq, ↓pA, ↓vL, ↓jE, ↓Ae, ↓jF, ↓jG, ↓vM, ↓vP, ↓pB, ↓Af, ↓wy, ↓pC, ↓vQ, ↓Ag, ↓oh, ↓pD, ↓pF, ↓uF, ↓vR, ↓pG, ↓uG, ↓vU, ↓vW, ↓pH, ↓ou, ↓Ah, ↓oA, ↓jH, ↓fY, ↓jJ, ↓vX, ↓pK, ↓pM, ↓pN, ↓pO, ↓pP, ↓pQ, ↓pU, ↓fZ, ↓pW, ↓pX, ↓pY, ↓qR, ↓wB, ↓pZ, ↓oE, ↓qb, ↓qJ, ↓qP, ↓qQ, ↓oH, ↓oJ, iG, vh, vm, uH, nZ, CW, CZ, mZ, vo, uC, vp, o8, vq, vz, uD, oY, oZ, m9, uh, jK, qD, wg, pJ, ↓qY, ↓qZ, ↓kW, ↓wC, ↓Aj, ↓rA, ↓rB, ↓vg, ↓rK, ↓rN, ↓wI, ↓wJ, ↓wL, ↓wO, ↓rQ, ↓lg, ↓Ak, ↓lu, ↓rR, ↓sr, ↓su, ↓lG, ↓lH, ↓lJ, ↓ie, ↓wQ, ↓sE, ↓lL, ↓lM, ↓wR, ↓sJ, ↓lN, ↓lO, ↓lQ, ↓wU, ↓wV, ↓wW, ↓wX, ↓sU, ↓lU, ↓ig, ↓il, ↓xj, ↓xm, ↓lX, ↓xq, ↓sW, ↓sX, ↓sY, ↓lY, ↓lZ, ↓mD, ↓iy, ↓tE, ↓mG, ↓xr, ↓mH, ↓mJ, ↓tH, ↓tL, ↓tK, ↓tO, ↓tQ, ↓mQ, ↓tR, ↓mO, ↓iz, bz, dw, bR, eV, bD, dB, bF, fz_non, bG, dD, bT, eX, bU, eY, bH, dF, bJ, dH, bK, dI, bV, eZ, bW, fj, bY, fu, jo, nM, ug, oX, jL, oF, oG, m7, jM, vY, qd, qj, Du, Dy, Dz, DG, DK, DN, DP, Ai, iJ, yR, jN, jO, ql, jP, jQ, gh, jR, jT, gj, jU, vZ, v4, v5, v7, qm, qp, jV, uO, qu, cY, qw, qC, v8, v9, yS, yU, jZ, qF, j5, gK, j6, gM, qG, j7, gQ, j8, j9, qH, qI, nW, Hn, HS, gU, gY, kE, qT, kh, gR, wk, wu, qK, km, qM, qN, qO, wA, qL, uI, wz, ahj, aho, ahp, ahe, Int.reduceToNat, fJ, gq, jW, gA, gG, jX, jY, gH, gJ, kY, kZ, rO, wM, wN, Option.isSome_some, Option.isSome_none, rP, Int.reduceEq, beq_self_eq_true, iZ, jc, lA, rW, lB, lC, lD, rY, rZ, lE, lF, lK, g8, fD, sG, sH, sO, sS, lV, ir, iw, sV, lW, wY, Am, wZ, xf, xg, DQ, DR, mF, tD, xF, xG, tG, xH, mK, tM, qU, qX, kJ, qW, rC, wD, rE, rF, wF, rG, rH, rJ, wG, wH, startF, ag0, ag7, ahh, ahf, ag5, ag3, ahb, ahk, ahq, ahr, ahi, ahl, ahm, Nat.reduceAdd, Nat.reduceSub, Nat.reduceLeDiff, Nat.reduceLT, Nat.zero_add, and_true, true_and, and_self, false_and, and_false, not_true_eq_false, not_false_eq_true, eq_self, decide_true, decide_false, Bool.not_true, Bool.not_false, Bool.true_and, Bool.false_and, Bool.and_true, Bool.and_false, Bool.or_true, Bool.or_false, Bool.true_or, Bool.false_or, Option.map_some, Option.map_none, Int.toNat_natCast, ↓reduceIte, Bool.false_eq_true, reduceCtorEq, Int.cast_ofNat_Int, Int.reduceLT, Int.reduceLE, Int.reduceAdd, Int.reduceSub, Int.reduceNeg, Int.natCast_zero, wj, and_assoc, ↓Rj, cJ, dM, di, cO, dN, dW, fH, ↓QH, agZ]
theorem Rx {size born : Int} {counts cuts : List Int} {ends : List (Int × Int)} {gone : List Int} (h1 : counts.length ≤ 100) (h2 : cuts.length ≤ 100) (h3 : ends.length ≤ 100) (h4 : gone.length ≤ 100) :
 iU [.obj 0 (xN size born counts cuts ends gone), jt born counts cuts ends gone, .int size] h = .ok (.bl true) [] h := by
 have e0 := abg (h := h) (size := size) (born := born) (counts := counts) (cuts := cuts) (ends := ends) (gone := gone)
 have a0 := JC (h := h) (l := [size, born, born + counts.length - 1]) .fl (by simp)
 have a1 := JC (h := h) (l := counts) .fl (by omega)
 have a2 := JC (h := h) (l := cuts) .fl (by omega)
 have a3 := YL (h := h) (l := ends) (by omega)
 have a4 := JC (h := h) (l := gone) .fl (by omega)
 simp only [ag0, ag7] at a0
 unfold xN at *
 unfold jt
 apply Wp.eq
 simp only [↓fX, ↓nJ, ↓wp_bind, ↓vC, ↓Ci, ↓Ab, ↓vD, ↓o9, ↓uE, ↓vG, ↓yP, ↓yQ, ↓Ac, ↓vH, ↓ph, ↓vK, ↓Ad, ↓pq, ↓pA, ↓vL, ↓jE, ↓Ae, ↓jF, ↓jG, ↓vM, ↓vP, ↓pB, ↓Af, ↓wy, ↓pC, ↓vQ, ↓Ag, ↓oh, ↓pD, ↓pF, ↓uF, ↓vR, ↓pG, ↓uG, ↓vU, ↓vW, ↓pH, ↓ou, ↓Ah, ↓oA, ↓jH, ↓fY, ↓jJ, ↓vX, ↓pK, ↓pM, ↓pN, ↓pO, ↓pP, ↓pQ, ↓pU, ↓fZ, ↓pW, ↓pX, ↓pY, ↓qR, ↓wB, ↓pZ, ↓oE, ↓qb, ↓qJ, ↓qP, ↓qQ, ↓oH, ↓oJ, iG, vh, vm, uH, nZ, CW, CZ, mZ, vo, uC, vp, o8, vq, vz, uD, oY, oZ, m9, uh, jK, qD, wg, pJ, ↓qY, ↓qZ, ↓kW, ↓wC, ↓Aj, ↓rA, ↓rB, ↓vg, ↓rK, ↓rN, ↓wI, ↓wJ, ↓wL, ↓wO, ↓rQ, ↓lg, ↓Ak, ↓lu, ↓rR, ↓sr, ↓su, ↓lG, ↓lH, ↓lJ, ↓ie, ↓wQ, ↓sE, ↓lL, ↓lM, ↓wR, ↓sJ, ↓lN, ↓lO, ↓lQ, ↓wU, ↓wV, ↓wW, ↓wX, ↓sU, ↓lU, ↓ig, ↓il, ↓xj, ↓xm, ↓lX, ↓xq, ↓sW, ↓sX, ↓sY, ↓lY, ↓lZ, ↓mD, ↓iy, ↓tE, ↓mG, ↓xr, ↓mH, ↓mJ, ↓tH, ↓tL, ↓tK, ↓tO, ↓tQ, ↓mQ, ↓tR, ↓mO, ↓iz, bz, dw, bR, eV, bD, dB, bF, fz_non, bG, dD, bT, eX, bU, eY, bH, dF, bJ, dH, bK, dI, bV, eZ, bW, fj, bY, fu, jo, nM, ug, oX, jL, oF, oG, m7, jM, vY, qd, qj, Du, Dy, Dz, DG, DK, DN, DP, Ai, iJ, yR, jN, jO, ql, jP, jQ, gh, jR, jT, gj, jU, vZ, v4, v5, v7, qm, qp, jV, uO, qu, cY, qw, qC, v8, v9, yS, yU, jZ, qF, j5, gK, j6, gM, qG, j7, gQ, j8, j9, qH, qI, nW, Hn, HS, gU, gY, kE, qT, kh, gR, wk, wu, qK, km, qM, qN, qO, wA, qL, uI, wz, ahj, aho, ahp, ahe, Int.reduceToNat, fJ, gq, jW, gA, gG, jX, jY, gH, gJ, kY, kZ, rO, wM, wN, Option.isSome_some, Option.isSome_none, rP, Int.reduceEq, beq_self_eq_true, iZ, jc, lA, rW, lB, lC, lD, rY, rZ, lE, lF, lK, g8, fD, sG, sH, sO, sS, lV, ir, iw, sV, lW, wY, Am, wZ, xf, xg, DQ, DR, mF, tD, xF, xG, tG, xH, mK, tM, qU, qX, kJ, qW, rC, wD, rE, rF, wF, rG, rH, rJ, wG, wH, startF, ag0, ag7, ahh, ahf, ag5, ag3, ahb, ahk, ahq, ahr, ahi, ahl, ahm, Nat.reduceAdd, Nat.reduceSub, Nat.reduceLeDiff, Nat.reduceLT, Nat.zero_add, and_true, true_and, and_self, false_and, and_false, not_true_eq_false, not_false_eq_true, eq_self, decide_true, decide_false, Bool.not_true, Bool.not_false, Bool.true_and, Bool.false_and, Bool.and_true, Bool.and_false, Bool.or_true, Bool.or_false, Bool.true_or, Bool.false_or, Option.map_some, Option.map_none, Int.toNat_natCast, ↓reduceIte, Bool.false_eq_true, reduceCtorEq, Int.cast_ofNat_Int, Int.reduceLT, Int.reduceLE, Int.reduceAdd, Int.reduceSub, Int.reduceNeg, Int.natCast_zero, wj, and_assoc, ↓Rk, ↓Rm, ↓Ro, ↓Wj, cJ, dM, di, cO, dN, dW, fH, ↓T8, e0, a0, a1, a2, a3, a4, agZ]
end
end L
namespace L
open PySem PySem.Spec L2 Pk
def refsD (b n : Nat) : List D := (ahs n).map fun i => D.ref (b + i)
def GX (p : Int × Int) : D := .nl [.int p.1, .int p.2]
theorem LR (b n : Nat) : refsD b (n + 1) = .ref b :: refsD (b + 1) n := by
 unfold refsD
 rw [List.range_succ_eq_map, ag0, List.map_map]
 congr 1
 refine List.map_congr_left fun i _ => ?_
 show D.ref (b + (i + 1)) = D.ref (b + 1 + i)
 congr 1
 omega
theorem TJ {g : D → M Unit} {t : M Bool} {e : M D} (hg : g = aQ 13) (ht : t = M.ret true) (he : e = cD (aC cR (az 13))) {fr : Fr} (hf : fr[13]? = some none) : ∀ (l : List (Int × Int)) (h : Hh), jx [13] g t e (l.map pairD) fr h = .ok (refsD h.length l.length) fr (h ++ l.map GX)
 | [], h => by
   rw [ag7, ag7, ag5]
   rfl
 | p :: l, h => by
   subst hg ht he
   have ih := TJ (g := aQ 13) (t := M.ret true) (e := cD (aC cR (az 13))) rfl rfl rfl hf l (h ++ [GX p])
   have hl : 13 < fr.length := (List.getElem?_eq_some_iff.mp hf).1
   have q : dJ [13] (aQ 13) (M.ret true) (cD (aC cR (az 13))) (pairD p) fr h = .ok (some (.ref h.length)) fr (h ++ [GX p]) := by
    have s1 : (fr.set 13 (some (pairD p)))[13]? = some (some (pairD p)) := ag8 hl
    have s2 : ((fr.set 13 (some (pairD p))).set 13 none) = fr := by
     rw [List.set_set]
     refine List.ext_getElem? fun j => ?_
     by_cases hj : j = 13
     · subst hj; rw [ag8 hl, hf]
     · rw [ag6 (Ne.symm hj)]
    have m1 : aC cR (az 13) (fr.set 13 (some (pairD p))) h = .ok (GX p) (fr.set 13 (some (pairD p))) h := by
     unfold aC
     rw [M.bind_ok (show az 13 (fr.set 13 (some (pairD p))) h = .ok (pairD p) (fr.set 13 (some (pairD p))) h from by unfold az; rw [s1])]
     rfl
    have m2 : cD (aC cR (az 13)) (fr.set 13 (some (pairD p))) h = .ok (.ref h.length) (fr.set 13 (some (pairD p))) (h ++ [GX p]) := by
     unfold cD
     rw [M.bind_ok m1]
     rfl
    unfold dJ
    show (match (match cD (aC cR (az 13)) (fr.set 13 (some (pairD p))) h with
     | .ok y fr h => Pk.R.ok (some y) (cX fr [13]) h
     | _ => .err) with | r => r) = _
    rw [m2]
    show Pk.R.ok (some (D.ref h.length)) ((fr.set 13 (some (pairD p))).set 13 none) (h ++ [GX p]) = _
    rw [s2]
   rw [ag0]
   show ((dJ [13] (aQ 13) (M.ret true) (cD (aC cR (az 13))) (pairD p)).bind fun o => (jx [13] (aQ 13) (M.ret true) (cD (aC cR (az 13))) (l.map pairD)).bind fun r => M.ret (uB o r)) fr h = _
   rw [M.bind_ok q, M.bind_ok ih]
   show Pk.R.ok (.ref h.length :: refsD (h ++ [GX p]).length l.length) fr _ = _
   rw [ag3, LR, ag4, ahc, ag0, List.append_assoc]
   rfl
def blk (b : Nat) (counts cuts : List Int) (ends : List (Int × Int)) (gone : List Int) : Hh :=
 [.nl (counts.map .int), .nl (cuts.map .int)] ++ ends.map GX ++ [.nl (refsD (b + 2) ends.length), .nl (gone.map .int)]
def N8 (b n : Nat) : List D := [.ref b, .ref (b + 1), .ref (b + 2 + n), .ref (b + 3 + n)]
structure Blk (h : Hh) (b : Nat) (counts cuts : List Int) (ends : List (Int × Int)) (gone : List Int) : Prop where
 c : h[b]? = some (.nl (counts.map .int))
 r : h[b + 1]? = some (.nl (cuts.map .int))
 p : ∀ i p, ends[i]? = some p → h[b + 2 + i]? = some (GX p)
 t : h[b + 2 + ends.length]? = some (.nl (refsD (b + 2) ends.length))
 g : h[b + 3 + ends.length]? = some (.nl (gone.map .int))
theorem ZW {h x : Hh} {counts cuts : List Int} {ends : List (Int × Int)} {gone : List Int} : Blk (h ++ blk h.length counts cuts ends gone ++ x) h.length counts cuts ends gone := by
 have key : ∀ k c, (blk h.length counts cuts ends gone)[k]? = some c → (h ++ blk h.length counts cuts ends gone ++ x)[h.length + k]? = some c := fun k c e => by
  have hk : k < (blk h.length counts cuts ends gone).length := (List.getElem?_eq_some_iff.mp e).1
  rw [List.append_assoc, ahu (by omega), ahw (by omega)]
  rw [show h.length + k - h.length = k by omega]
  exact e
 refine ⟨key 0 _ rfl, key 1 _ rfl, fun i p e => ?_, ?_, ?_⟩
 · rw [Nat.add_assoc]
   refine key (2 + i) _ ?_
   have hi : i < ends.length := (List.getElem?_eq_some_iff.mp e).1
   unfold blk
   rw [ahw (by simp; omega), ahu (by simp)]
   simp only [ag3, ahb, Nat.zero_add, Nat.reduceAdd, Nat.add_sub_cancel_left]
   rw [ahx, e]
   rfl
 · rw [Nat.add_assoc]
   refine key (2 + ends.length) _ ?_
   unfold blk
   rw [ahu (by simp; omega)]
   have : 2 + ends.length - ([D.nl (counts.map .int), .nl (cuts.map .int)] ++ ends.map GX).length = 0 := by simp; omega
   rw [this]
   rfl
 · rw [Nat.add_assoc]
   refine key (3 + ends.length) _ ?_
   unfold blk
   rw [ahu (by simp; omega)]
   have : 3 + ends.length - ([D.nl (counts.map .int), .nl (cuts.map .int)] ++ ends.map GX).length = 1 := by simp; omega
   rw [this]
   rfl
section
variable {h : Hh} {b : Nat} {counts cuts : List Int} {ends : List (Int × Int)} {gone : List Int}
theorem Ws (n : Nat) : ∀ (ps : List (Int × Int)) (b : Nat), (∀ i p, ps[i]? = some p → h[b + i]? = some (GX p)) → Mr h (refsD b ps.length) ps
 | [], b, _ => .nil
 | p :: ps, b, e => by
   rw [ag3, LR]
   refine .cons (.ref b (e 0 p rfl)) (Ws n ps (b + 1) fun i q hq => ?_)
   have := e (i + 1) q (by simpa using hq)
   rw [show b + 1 + i = b + (i + 1) by omega]
   exact this
theorem Blk.init (B : Blk h b counts cuts ends gone) {size born : Int} {N : Nat} (l : zm N size born counts cuts ends gone) (h2 : 2 ≤ size) (h4 : size ≤ 4) :
 cQ [.ref b, .int size, .int born, .ref (b + 1), .ref (b + 2 + ends.length), .ref (b + 3 + ends.length)] h = .ok (.no 0 (xN size born counts cuts ends gone)) [] h :=
 N7 (.ref _ B.c) (.ref _ B.r) (.ref _ B.t) (Ws 0 ends (b + 2) B.p) (.ref _ B.g) l h2 h4
theorem Wt {α : Type} {β : Type} {f : α → Option β} {g : α → β} : ∀ {l : List α}, (∀ a ∈ l, f a = some (g a)) → Bc (l.map f) = some (l.map g)
 | [], _ => rfl
 | a :: l, hh => by
   rw [ag0, hh a ag9]
   show (Bc (l.map f)).map (g a :: ·) = _
   rw [Wt fun x hx => hh x (ahn _ hx)]
   rfl
theorem abh (k : Nat) (i : Int) : (D.int i).toPh h k = some (.int i) := by cases k <;> rfl
theorem J5 {k n : Nat} {l : List Int} (e : h[n]? = some (.nl (l.map .int))) : (D.ref n).toPh h (k + 1) = some (Em.int.list.f l) := by
 show (match h[n]? with
  | some (.nl l) => (Bc (l.map (D.toPh h k))).map PyData.list
  | _ => none) = _
 rw [e]
 dsimp only
 rw [List.map_map, Wt (f := D.toPh h k ∘ D.int) (g := PyData.int) fun i _ => abh k i]
 rfl
def Xq (counts cuts : List Int) (ends : List (Int × Int)) (gone : List Int) : PyData := .list [Em.int.list.f counts, Em.int.list.f cuts, Em.int.list.list.f (ends.map fun p => [p.1, p.2]), Em.int.list.f gone]
theorem Blk.toPh (B : Blk h b counts cuts ends gone) : (D.fl (N8 b ends.length)).toPh h 3 = some (Xq counts cuts ends gone) := by
 have e1 := J5 (k := 1) B.c
 have e2 := J5 (k := 1) B.r
 have e4 := J5 (k := 1) B.g
 have e3 : (D.ref (b + 2 + ends.length)).toPh h 2 = some (Em.int.list.list.f (ends.map fun p => [p.1, p.2])) := by
  show (match h[b + 2 + ends.length]? with
   | some (.nl l) => (Bc (l.map (D.toPh h 1))).map PyData.list
   | _ => none) = _
  rw [B.t]
  dsimp only
  have key : ∀ (ps : List (Int × Int)) (b : Nat), (∀ i p, ps[i]? = some p → h[b + i]? = some (GX p)) → Bc ((refsD b ps.length).map (D.toPh h 1)) = some (ps.map fun p => Em.int.list.f [p.1, p.2]) := by
   intro ps
   induction ps with
   | nil => intro b _; rfl
   | cons p ps ih =>
     intro b e
     have e0 : (D.ref b).toPh h 1 = some (Em.int.list.f [p.1, p.2]) := J5 (k := 0) (l := [p.1, p.2]) (e 0 p rfl)
     rw [ag3, LR, ag0, e0]
     show (Bc ((refsD (b + 1) ps.length).map (D.toPh h 1))).map _ = _
     rw [ih (b + 1) fun i q hq => by
      have := e (i + 1) q (by simpa using hq)
      rw [show b + 1 + i = b + (i + 1) by omega]
      exact this]
     rfl
  rw [key ends (b + 2) B.p]
  show some (PyData.list _) = some (PyData.list _)
  rw [List.map_map]
  rfl
 show (Bc [(D.ref b).toPh h 2, (D.ref (b + 1)).toPh h 2, (D.ref (b + 2 + ends.length)).toPh h 2, (D.ref (b + 3 + ends.length)).toPh h 2]).map PyData.list = _
 rw [e1, e2, e3, e4]
 rfl
theorem YM : SeqAt.shaped (Xq counts cuts ends gone) = true := by
 have i1 := Em.int.list.lay counts (fun _ _ => trivial)
 have i2 := Em.int.list.lay cuts (fun _ _ => trivial)
 have i3 := Em.int.list.list.lay (ends.map fun p => [p.1, p.2]) (fun _ _ _ _ => trivial)
 have i4 := Em.int.list.lay gone (fun _ _ => trivial)
 have d1 := Em.int.list.dep counts
 have d2 := Em.int.list.dep cuts
 have d3 := Em.int.list.list.dep (ends.map fun p => [p.1, p.2])
 have d4 := Em.int.list.dep gone
 have n1 : Em.int.list.n ≤ 5 := by decide
 have n3 : Em.int.list.list.n ≤ 5 := by decide
 unfold Xq SeqAt.shaped
 simp only [PyData.canLayAll0, PyData.canLay0, i1, i2, i3, i4, PyData.depth, PyData.depthAll, Bool.and_self, Bool.true_and]
 exact decide_eq_true (by omega)
theorem aea : PyData.eqv (Xq counts cuts ends gone) (Xq counts cuts ends gone) = true := by
 unfold Xq
 show PyData.eqvAll [_, _, _, _] [_, _, _, _] = _
 simp only [PyData.eqvAll, Em.int.list.eq, Em.int.list.list.eq, decide_true, Bool.and_self]
theorem acM {b' : Nat} (B : Blk h b counts cuts ends gone) (B' : Blk h b' counts cuts ends gone) : V1 h (.fl (N8 b ends.length)) (.fl (N8 b' ends.length)) = some false := by
 unfold V1 Yu
 rw [B.toPh, B'.toPh]
 dsimp only
 rw [YM, aea]
 rfl
end
end L
namespace L
open PySem PySem.Spec L2 Pk
def Df (l : List Int) : List Int := (ahs l.length).map fun k => (l.take (k + 1)).sum
theorem Ma {l : List Int} {i : Nat} {c : Int} (e : (Df l)[i]? = some c) : i < l.length ∧ c = (l.take (i + 1)).sum := by
 unfold Df at e
 rw [ahx] at e
 obtain ⟨j, ej, rfl⟩ := Option.map_eq_some_iff.mp e
 obtain ⟨hl, ej⟩ := List.getElem?_eq_some_iff.mp ej
 rw [ahv] at hl
 rw [List.getElem_range] at ej
 subst ej
 exact ⟨hl, rfl⟩
theorem sum_take_succ : ∀ (l : List Int) (k : Nat) (x : Int), l[k]? = some x → (l.take (k + 1)).sum = (l.take k).sum + x
 | [], k, x, e => by simp at e
 | a :: l, 0, x, e => by
   simp at e
   subst e
   simp
 | a :: l, k + 1, x, e => by
   have := sum_take_succ l k x (by simpa using e)
   rw [ahj, ahj, List.sum_cons, List.sum_cons, this]
   omega
theorem Qe {B : Int} (hB : 0 ≤ B) : ∀ (l : List Int) (k : Nat), (∀ x ∈ l, 0 ≤ x ∧ x ≤ B) → k ≤ l.length → 0 ≤ (l.take k).sum ∧ (l.take k).sum ≤ (k : Int) * B
 | l, 0, _, _ => by simp
 | l, k + 1, h, hk => by
   obtain ⟨a, b⟩ := Qe hB l k h (by omega)
   have e : l[k]? = some l[k] := ag1 (by omega)
   rw [sum_take_succ l k _ e]
   obtain ⟨c, d⟩ := h _ (ahd e)
   have : ((k + 1 : Nat) : Int) * B = (k : Int) * B + B := by push_cast; rw [Int.add_mul, Int.one_mul]
   omega
theorem ZX {N : Nat} {size born : Int} {counts cuts : List Int} {ends : List (Int × Int)} {gone : List Int} (l : zm N size born counts cuts ends gone) (h4 : size ≤ 4) : zm (N + 3) size 0 (Df counts) [] [] [] := by
 have b0 := l.b0
 have fit := l.fit
 have cl := l.g.cl
 have len : (Df counts).length = counts.length := by unfold Df; rw [agZ, ahv]
 have pw : (0 : Int) ≤ 2 ^ N := by exact_mod_cast Nat.zero_le _
 have p3 : (2 : Int) ^ (N + 3) = 8 * 2 ^ N := by rw [Int.pow_succ, Int.pow_succ, Int.pow_succ]; omega
 have top : ∀ x ∈ counts, 0 ≤ x ∧ x ≤ 4 * 2 ^ N := fun x hx => by
  refine ⟨l.g.pos x hx, ?_⟩
  obtain ⟨i, hi, rfl⟩ := List.getElem_of_mem hx
  have a := l.g.top i _ (ag1 hi)
  have c : ((i : Int) + 1) * 2 ^ N ≤ 4 * 2 ^ N := Int.mul_le_mul_of_nonneg_right (by omega) pw
  omega
 have hs := fun k hk => Qe (B := 4 * 2 ^ N) (by omega) counts k top hk
 refine ⟨Int.le_refl _, ⟨fun c hc => ?_, List.Pairwise.nil, fun x hx => (by cases hx), fun i a b ea eb hab => ?_, by rw [len]; simp; omega, fun i c e => ?_⟩, by rw [len]; omega, by simp, fun p hp => (by cases hp), List.Pairwise.nil, fun x hx => (by cases hx)⟩
 · obtain ⟨i, hi, rfl⟩ := List.getElem_of_mem hc
   obtain ⟨hl, e⟩ := Ma (ag1 hi)
   rw [e]
   exact (hs _ (by omega)).1
 · obtain ⟨h1, rfl⟩ := Ma ea
   obtain ⟨h2, rfl⟩ := Ma eb
   exfalso
   have e : counts[i + 1]? = some counts[i + 1] := ag1 h2
   rw [sum_take_succ counts (i + 1) _ e] at hab
   have := (top _ (ahd e)).1
   omega
 · obtain ⟨h1, rfl⟩ := Ma e
   have a := (hs (i + 1) (by omega)).2
   rw [p3]
   have e3 : ((i + 1 : Nat) : Int) * (4 * 2 ^ N) = ((i : Int) + 1) * (4 * 2 ^ N) := by push_cast; rfl
   have e4 : ((i : Int) + 1) * (4 * 2 ^ N) ≤ ((i : Int) + 1) * (8 * 2 ^ N) := Int.mul_le_mul_of_nonneg_left (by omega) (by omega)
   omega
def Um (ns : List Int) (f : Fl) (fr : Fr) : Prop := (f = .nx ∨ f = .ct) ∧ ∃ x1 ys, fr = some (.kl (ns.map .int)) :: x1 :: ys ∧ ys.length = 21 - 2
section
variable {ns : List Int} {h : Hh} {size born : Int} {counts cuts : List Int} {ends : List (Int × Int)} {gone : List Int} {N : Nat}
theorem small (l : zm N size born counts cuts ends gone) (h4 : size ≤ 4) : counts.length ≤ 10 ∧ cuts.length ≤ 10 ∧ ends.length ≤ 20 ∧ gone.length ≤ 10 ∧ 1 ≤ counts.length := by
 have b0 := l.b0
 have fit := l.fit
 have cl := l.g.cl
 have a := l.sub.length_le
 rw [agZ, ag4] at a
 have : (if born + (counts.length : Int) < size then [born + (counts.length : Int) - 1] else []).length ≤ 1 := by split <;> simp
 refine ⟨by omega, by omega, by omega, ?_, by omega⟩
 have key : ∀ (g : List Int) (lo hi : Int), g.Pairwise (· < ·) → (∀ x ∈ g, lo ≤ x ∧ x < hi) → lo ≤ hi → (g.length : Int) ≤ hi - lo := by
  intro g
  induction g with
  | nil => intro lo hi _ _ h; simp; omega
  | cons x g ih =>
    intro lo hi hp hx hlh
    have hx0 := hx x ag9
    have := ih (x + 1) hi (List.pairwise_cons.mp hp).2 (fun y hy => ⟨by have := (List.pairwise_cons.mp hp).1 y hy; omega, (hx y (ahn _ hy)).2⟩) (by omega)
    rw [ag3]
    push_cast
    omega
 have := key gone born (born + counts.length) l.asc l.gin (by omega)
 omega
theorem aeb (l : zm N size born counts cuts ends gone) (h2 : 2 ≤ size) (h4 : size ≤ 4) {x1 x2 x10 x11 x13 x14 x15 x16 x17 x18 x19 x20 : Option D} :
 Wp (yt [some (.kl (ns.map .int)), x1, x2, some (.int size), some (jt born counts cuts ends gone), some (.int born), some (.fl (counts.map .int)), some (.fl (cuts.map .int)), some (.fl (ends.map pairD)), some (.fl (gone.map .int)), x10, x11, some (.no 0 (xN size born counts cuts ends gone)), x13, x14, x15, x16, x17, x18, x19, x20] h) (fun f fr _ => Um ns f fr) iY := by
 obtain ⟨s1, s2, s3, s4, s5⟩ := small l h4
 have lr := ZX l h4
 have len : (Df counts).length = counts.length := by unfold Df; rw [agZ, ahv]
 have r1 := Rx (h := h) (size := size) (born := born) (counts := counts) (cuts := cuts) (ends := ends) (gone := gone) (by omega) (by omega) (by omega) (by omega)
 have r2 := Rx (h := h) (size := size) (born := 0) (counts := Df counts) (cuts := []) (ends := []) (gone := []) (by omega) (by simp) (by simp) (by simp)
 have i1 := N7 (h := h) (dC := .tup (counts.map .int)) (dR := .tup (cuts.map .int)) (dT := .tup (ends.map pairD)) (dG := .tup (gone.map .int)) .tup .tup .tup (Xp ends) .tup l h2 h4
 have i2 := N7 (h := h) (dC := .fl ((Df counts).map .int)) (dR := .tup []) (dT := .tup []) (dG := .tup []) .fl (.tup (l := [])) .tup .nil (.tup (l := [])) lr h2 h4
 have c1 := Xf (vs := [18, 19]) (g := Jp) (t := Jq) (e := Jr) (fr := [some (.kl (ns.map .int)), x1, x2, some (.int size), some (jt born counts cuts ends gone), some (.int born), some (.fl (counts.map .int)), some (.fl (cuts.map .int)), some (.fl (ends.map pairD)), some (.fl (gone.map .int)), x10, x11, some (.no 0 (xN size born counts cuts ends gone)), x13, x14, x15, x16, x17, none, none, x20]) (h := h) (F := pairD) (G := pairD) (xs := ends) (fun p _ => by
  unfold pairD
  simp only [↓fX, ↓nJ, ↓wp_bind, ↓vC, ↓Ci, ↓Ab, ↓vD, ↓o9, ↓uE, ↓vG, ↓yP, ↓yQ, ↓Ac, ↓vH, ↓ph, ↓vK, ↓Ad, ↓pq, ↓pA, ↓vL, ↓jE, ↓Ae, ↓jF, ↓jG, ↓vM, ↓vP, ↓pB, ↓Af, ↓wy, ↓pC, ↓vQ, ↓Ag, ↓oh, ↓pD, ↓pF, ↓uF, ↓vR, ↓pG, ↓uG, ↓vU, ↓vW, ↓pH, ↓ou, ↓Ah, ↓oA, ↓jH, ↓fY, ↓jJ, ↓vX, ↓pK, ↓pM, ↓pN, ↓pO, ↓pP, ↓pQ, ↓pU, ↓fZ, ↓pW, ↓pX, ↓pY, ↓qR, ↓wB, ↓pZ, ↓oE, ↓qb, ↓qJ, ↓qP, ↓qQ, ↓oH, ↓oJ, iG, vh, vm, uH, nZ, CW, CZ, mZ, vo, uC, vp, o8, vq, vz, uD, oY, oZ, m9, uh, jK, qD, wg, pJ, ↓qY, ↓qZ, ↓kW, ↓wC, ↓Aj, ↓rA, ↓rB, ↓vg, ↓rK, ↓rN, ↓wI, ↓wJ, ↓wL, ↓wO, ↓rQ, ↓lg, ↓Ak, ↓lu, ↓rR, ↓sr, ↓su, ↓lG, ↓lH, ↓lJ, ↓ie, ↓wQ, ↓sE, ↓lL, ↓lM, ↓wR, ↓sJ, ↓lN, ↓lO, ↓lQ, ↓wU, ↓wV, ↓wW, ↓wX, ↓sU, ↓lU, ↓ig, ↓il, ↓xj, ↓xm, ↓lX, ↓xq, ↓sW, ↓sX, ↓sY, ↓lY, ↓lZ, ↓mD, ↓iy, ↓tE, ↓mG, ↓xr, ↓mH, ↓mJ, ↓tH, ↓tL, ↓tK, ↓tO, ↓tQ, ↓mQ, ↓tR, ↓mO, ↓iz, bz, dw, bR, eV, bD, dB, bF, fz_non, bG, dD, bT, eX, bU, eY, bH, dF, bJ, dH, bK, dI, bV, eZ, bW, fj, bY, fu, jo, nM, ug, oX, jL, oF, oG, m7, jM, vY, qd, qj, Du, Dy, Dz, DG, DK, DN, DP, Ai, iJ, yR, jN, jO, ql, jP, jQ, gh, jR, jT, gj, jU, vZ, v4, v5, v7, qm, qp, jV, uO, qu, cY, qw, qC, v8, v9, yS, yU, jZ, qF, j5, gK, j6, gM, qG, j7, gQ, j8, j9, qH, qI, nW, Hn, HS, gU, gY, kE, qT, kh, gR, wk, wu, qK, km, qM, qN, qO, wA, qL, uI, wz, ahj, aho, ahp, ahe, Int.reduceToNat, fJ, gq, jW, gA, gG, jX, jY, gH, gJ, kY, kZ, rO, wM, wN, Option.isSome_some, Option.isSome_none, rP, Int.reduceEq, beq_self_eq_true, iZ, jc, lA, rW, lB, lC, lD, rY, rZ, lE, lF, lK, g8, fD, sG, sH, sO, sS, lV, ir, iw, sV, lW, wY, Am, wZ, xf, xg, DQ, DR, mF, tD, xF, xG, tG, xH, mK, tM, qU, qX, kJ, qW, rC, wD, rE, rF, wF, rG, rH, rJ, wG, wH, startF, ag0, ag7, ahh, ahf, ag5, ag3, ahb, ahk, ahq, ahr, ahi, ahl, ahm, Nat.reduceAdd, Nat.reduceSub, Nat.reduceLeDiff, Nat.reduceLT, Nat.zero_add, and_true, true_and, and_self, false_and, and_false, not_true_eq_false, not_false_eq_true, eq_self, decide_true, decide_false, Bool.not_true, Bool.not_false, Bool.true_and, Bool.false_and, Bool.and_true, Bool.and_false, Bool.or_true, Bool.or_false, Bool.true_or, Bool.false_or, Option.map_some, Option.map_none, Int.toNat_natCast, ↓reduceIte, Bool.false_eq_true, reduceCtorEq, Int.cast_ofNat_Int, Int.reduceLT, Int.reduceLE, Int.reduceAdd, Int.reduceSub, Int.reduceNeg, Int.natCast_zero, wj, and_assoc, ↓Gm, ↓Gn, ↓Gp, ↓Gq, ↓Gr, ↓Gu, ↓JB, ↓Gv, ↓Gx, ↓Gy, ↓Gz, ↓GF, ↓GJ, ↓yu, ↓yw, ↓yz, ↓yC, ↓Bf, ↓yD, ↓yE, ↓yF, ↓zJ, ↓zK, ↓zL, ↓zM, ↓zN, ↓zP, ↓Cy, ↓zQ, ↓zR, ↓Dh, ↓O9, cJ, dM, di, cO, dN, dW, fH])
 have c2 := Xf (vs := [20]) (g := Jt) (t := Ju) (e := Jv) (fr := [some (.kl (ns.map .int)), x1, x2, some (.int size), some (jt born counts cuts ends gone), some (.int born), some (.fl (counts.map .int)), some (.fl (cuts.map .int)), some (.fl (ends.map pairD)), some (.fl (gone.map .int)), x10, x11, some (.no 0 (xN size born counts cuts ends gone)), x13, some (.tup (ends.map pairD)), some (.no 0 (xN size born counts cuts ends gone)), x16, x17, none, none, none]) (h := h) (F := fun k : Nat => D.int (0 + (k : Int))) (G := fun k => .int ((counts.take (k + 1)).sum)) (xs := ahs counts.length) (fun k hk => by
  have e : (0 + (k : Int) + 1).toNat = k + 1 := by omega
  have e0 : (0 : Int) ≤ 0 + (k : Int) + 1 := by omega
  have cut : cutD (counts.map D.int) none (some (0 + (k : Int) + 1)) = (counts.take (k + 1)).map .int := by rw [uI e0, e, List.map_take]
  simp only [↓fX, ↓nJ, ↓wp_bind, ↓vC, ↓Ci, ↓Ab, ↓vD, ↓o9, ↓uE, ↓vG, ↓yP, ↓yQ, ↓Ac, ↓vH, ↓ph, ↓vK, ↓Ad, ↓pq, ↓pA, ↓vL, ↓jE, ↓Ae, ↓jF, ↓jG, ↓vM, ↓vP, ↓pB, ↓Af, ↓wy, ↓pC, ↓vQ, ↓Ag, ↓oh, ↓pD, ↓pF, ↓uF, ↓vR, ↓pG, ↓uG, ↓vU, ↓vW, ↓pH, ↓ou, ↓Ah, ↓oA, ↓jH, ↓fY, ↓jJ, ↓vX, ↓pK, ↓pM, ↓pN, ↓pO, ↓pP, ↓pQ, ↓pU, ↓fZ, ↓pW, ↓pX, ↓pY, ↓qR, ↓wB, ↓pZ, ↓oE, ↓qb, ↓qJ, ↓qP, ↓qQ, ↓oH, ↓oJ, iG, vh, vm, uH, nZ, CW, CZ, mZ, vo, uC, vp, o8, vq, vz, uD, oY, oZ, m9, uh, jK, qD, wg, pJ, ↓qY, ↓qZ, ↓kW, ↓wC, ↓Aj, ↓rA, ↓rB, ↓vg, ↓rK, ↓rN, ↓wI, ↓wJ, ↓wL, ↓wO, ↓rQ, ↓lg, ↓Ak, ↓lu, ↓rR, ↓sr, ↓su, ↓lG, ↓lH, ↓lJ, ↓ie, ↓wQ, ↓sE, ↓lL, ↓lM, ↓wR, ↓sJ, ↓lN, ↓lO, ↓lQ, ↓wU, ↓wV, ↓wW, ↓wX, ↓sU, ↓lU, ↓ig, ↓il, ↓xj, ↓xm, ↓lX, ↓xq, ↓sW, ↓sX, ↓sY, ↓lY, ↓lZ, ↓mD, ↓iy, ↓tE, ↓mG, ↓xr, ↓mH, ↓mJ, ↓tH, ↓tL, ↓tK, ↓tO, ↓tQ, ↓mQ, ↓tR, ↓mO, ↓iz, bz, dw, bR, eV, bD, dB, bF, fz_non, bG, dD, bT, eX, bU, eY, bH, dF, bJ, dH, bK, dI, bV, eZ, bW, fj, bY, fu, jo, nM, ug, oX, jL, oF, oG, m7, jM, vY, qd, qj, Du, Dy, Dz, DG, DK, DN, DP, Ai, iJ, yR, jN, jO, ql, jP, jQ, gh, jR, jT, gj, jU, vZ, v4, v5, v7, qm, qp, jV, uO, qu, cY, qw, qC, v8, v9, yS, yU, jZ, qF, j5, gK, j6, gM, qG, j7, gQ, j8, j9, qH, qI, nW, Hn, HS, gU, gY, kE, qT, kh, gR, wk, wu, qK, km, qM, qN, qO, wA, qL, uI, wz, ahj, aho, ahp, ahe, Int.reduceToNat, fJ, gq, jW, gA, gG, jX, jY, gH, gJ, kY, kZ, rO, wM, wN, Option.isSome_some, Option.isSome_none, rP, Int.reduceEq, beq_self_eq_true, iZ, jc, lA, rW, lB, lC, lD, rY, rZ, lE, lF, lK, g8, fD, sG, sH, sO, sS, lV, ir, iw, sV, lW, wY, Am, wZ, xf, xg, DQ, DR, mF, tD, xF, xG, tG, xH, mK, tM, qU, qX, kJ, qW, rC, wD, rE, rF, wF, rG, rH, rJ, wG, wH, startF, ag0, ag7, ahh, ahf, ag5, ag3, ahb, ahk, ahq, ahr, ahi, ahl, ahm, Nat.reduceAdd, Nat.reduceSub, Nat.reduceLeDiff, Nat.reduceLT, Nat.zero_add, and_true, true_and, and_self, false_and, and_false, not_true_eq_false, not_false_eq_true, eq_self, decide_true, decide_false, Bool.not_true, Bool.not_false, Bool.true_and, Bool.false_and, Bool.and_true, Bool.and_false, Bool.or_true, Bool.or_false, Bool.true_or, Bool.false_or, Option.map_some, Option.map_none, Int.toNat_natCast, ↓reduceIte, Bool.false_eq_true, reduceCtorEq, Int.cast_ofNat_Int, Int.reduceLT, Int.reduceLE, Int.reduceAdd, Int.reduceSub, Int.reduceNeg, Int.natCast_zero, wj, and_assoc, ↓Gm, ↓Gn, ↓Gp, ↓Gq, ↓Gr, ↓Gu, ↓JB, ↓Gv, ↓Gx, ↓Gy, ↓Gz, ↓GF, ↓GJ, ↓yu, ↓yw, ↓yz, ↓yC, ↓Bf, ↓yD, ↓yE, ↓yF, ↓zJ, ↓zK, ↓zL, ↓zM, ↓zN, ↓zP, ↓Cy, ↓zQ, ↓zR, ↓Dh, ↓O9, cJ, dM, di, cO, dN, dW, fH, cut])
 have rr : jw 0 counts.length = (ahs counts.length).map (fun k : Nat => D.int (0 + (k : Int))) := rfl
 have rg : (ahs counts.length).map (fun k => D.int ((counts.take (k + 1)).sum)) = (Df counts).map .int := by unfold Df; rw [List.map_map]; rfl
 rw [← rr, rg] at c2
 have hm : (jw 0 counts.length).length ≤ 100000 := by rw [rr, agZ, ahv]; omega
 have hm2 : ends.length ≤ 100000 := by omega
 have sm : ue (counts.length : Int) = true := Rb (by omega) (by omega)
 have oL : (jt born counts cuts ends gone).own = false := rfl
 have e0 : jt 0 (Df counts) [] [] [] = .tup [.int 0, .fl ((Df counts).map .int), .fl [], .fl [], .fl []] := rfl
 rw [e0] at r2
 generalize xN size born counts cuts ends gone = IA at *
 generalize xN size 0 (Df counts) [] [] [] = IR at *
 generalize jt born counts cuts ends gone = LD at *
 generalize (Df counts).map D.int = RD at *
 simp only [↓fX, ↓nJ, ↓wp_bind, ↓vC, ↓Ci, ↓Ab, ↓vD, ↓o9, ↓uE, ↓vG, ↓yP, ↓yQ, ↓Ac, ↓vH, ↓ph, ↓vK, ↓Ad, ↓pq, ↓pA, ↓vL, ↓jE, ↓Ae, ↓jF, ↓jG, ↓vM, ↓vP, ↓pB, ↓Af, ↓wy, ↓pC, ↓vQ, ↓Ag, ↓oh, ↓pD, ↓pF, ↓uF, ↓vR, ↓pG, ↓uG, ↓vU, ↓vW, ↓pH, ↓ou, ↓Ah, ↓oA, ↓jH, ↓fY, ↓jJ, ↓vX, ↓pK, ↓pM, ↓pN, ↓pO, ↓pP, ↓pQ, ↓pU, ↓fZ, ↓pW, ↓pX, ↓pY, ↓qR, ↓wB, ↓pZ, ↓oE, ↓qb, ↓qJ, ↓qP, ↓qQ, ↓oH, ↓oJ, iG, vh, vm, uH, nZ, CW, CZ, mZ, vo, uC, vp, o8, vq, vz, uD, oY, oZ, m9, uh, jK, qD, wg, pJ, ↓qY, ↓qZ, ↓kW, ↓wC, ↓Aj, ↓rA, ↓rB, ↓vg, ↓rK, ↓rN, ↓wI, ↓wJ, ↓wL, ↓wO, ↓rQ, ↓lg, ↓Ak, ↓lu, ↓rR, ↓sr, ↓su, ↓lG, ↓lH, ↓lJ, ↓ie, ↓wQ, ↓sE, ↓lL, ↓lM, ↓wR, ↓sJ, ↓lN, ↓lO, ↓lQ, ↓wU, ↓wV, ↓wW, ↓wX, ↓sU, ↓lU, ↓ig, ↓il, ↓xj, ↓xm, ↓lX, ↓xq, ↓sW, ↓sX, ↓sY, ↓lY, ↓lZ, ↓mD, ↓iy, ↓tE, ↓mG, ↓xr, ↓mH, ↓mJ, ↓tH, ↓tL, ↓tK, ↓tO, ↓tQ, ↓mQ, ↓tR, ↓mO, ↓iz, bz, dw, bR, eV, bD, dB, bF, fz_non, bG, dD, bT, eX, bU, eY, bH, dF, bJ, dH, bK, dI, bV, eZ, bW, fj, bY, fu, jo, nM, ug, oX, jL, oF, oG, m7, jM, vY, qd, qj, Du, Dy, Dz, DG, DK, DN, DP, Ai, iJ, yR, jN, jO, ql, jP, jQ, gh, jR, jT, gj, jU, vZ, v4, v5, v7, qm, qp, jV, uO, qu, cY, qw, qC, v8, v9, yS, yU, jZ, qF, j5, gK, j6, gM, qG, j7, gQ, j8, j9, qH, qI, nW, Hn, HS, gU, gY, kE, qT, kh, gR, wk, wu, qK, km, qM, qN, qO, wA, qL, uI, wz, ahj, aho, ahp, ahe, Int.reduceToNat, fJ, gq, jW, gA, gG, jX, jY, gH, gJ, kY, kZ, rO, wM, wN, Option.isSome_some, Option.isSome_none, rP, Int.reduceEq, beq_self_eq_true, iZ, jc, lA, rW, lB, lC, lD, rY, rZ, lE, lF, lK, g8, fD, sG, sH, sO, sS, lV, ir, iw, sV, lW, wY, Am, wZ, xf, xg, DQ, DR, mF, tD, xF, xG, tG, xH, mK, tM, qU, qX, kJ, qW, rC, wD, rE, rF, wF, rG, rH, rJ, wG, wH, startF, ag0, ag7, ahh, ahf, ag5, ag3, ahb, ahk, ahq, ahr, ahi, ahl, ahm, Nat.reduceAdd, Nat.reduceSub, Nat.reduceLeDiff, Nat.reduceLT, Nat.zero_add, and_true, true_and, and_self, false_and, and_false, not_true_eq_false, not_false_eq_true, eq_self, decide_true, decide_false, Bool.not_true, Bool.not_false, Bool.true_and, Bool.false_and, Bool.and_true, Bool.and_false, Bool.or_true, Bool.or_false, Bool.true_or, Bool.false_or, Option.map_some, Option.map_none, Int.toNat_natCast, ↓reduceIte, Bool.false_eq_true, reduceCtorEq, Int.cast_ofNat_Int, Int.reduceLT, Int.reduceLE, Int.reduceAdd, Int.reduceSub, Int.reduceNeg, Int.natCast_zero, wj, and_assoc, ↓Gm, ↓Gn, ↓Gp, ↓Gq, ↓Gr, ↓Gu, ↓JB, ↓Gv, ↓Gx, ↓Gy, ↓Gz, ↓GF, ↓GJ, ↓yu, ↓yw, ↓yz, ↓yC, ↓Bf, ↓yD, ↓yE, ↓yF, ↓zJ, ↓zK, ↓zL, ↓zM, ↓zN, ↓zP, ↓Cy, ↓zQ, ↓zR, ↓Dh, ↓O9, cJ, dM, di, cO, dN, dW, fH, c1, c2, i1, i2, r1, r2, agZ, sm, hm, hm2, oL]
 exact ⟨.inl rfl, _, _, rfl, rfl⟩
end
end L
namespace L
open PySem PySem.Spec L2 Pk
theorem Wx {h : Hh} {ns : List Int} {k : Nat} (hk : k ≤ 62) : ∃ a b, nj [.kl (ns.map .int), .int k] h = .ok (.nl [.int a, .int b, .int 0]) [] h ∧ 0 ≤ b ∧ b < 2 ^ 33 := by
 have p18 : Mx 10 18 = true := by decide
 have b3 : 3 ≤ big := by decide
 have c1 : Xr 15485863 (k : Int) = true := by
  have l2 : ((15485863 : Int)).natAbs.log2 < 64 := log2_lt (by decide) (by decide)
  have l1 : ((k : Int)).natAbs.log2 < 64 := log2_lt (by omega) (by decide)
  exact decide_eq_true (by omega)
 have main : ∀ v : Int, (if (k : Int) < ns.length then bh h (.kl (ns.map .int)) (.int k) = some (.int v) else v = 0) → ∃ a b, nj [.kl (ns.map .int), .int k] h = .ok (.nl [.int a, .int b, .int 0]) [] h ∧ 0 ≤ b ∧ b < 2 ^ 33 := fun v hv => by
  have hb0 : 0 ≤ v % 2147483629 := Int.emod_nonneg _ (by decide)
  have hb1 : v % 2147483629 < 2147483629 := Int.emod_lt_of_pos _ (by decide)
  refine ⟨if (1000000000000000000 : Int) ≤ (if v < 0 then -v else v) then (if v < 0 then -v else v) else 0, v % 2147483629 + 15485863 * (k : Int) + 7919, ?_, by omega, by omega⟩
  by_cases hl : (k : Int) < ns.length
  · rw [if_pos hl] at hv
    have hl' : k < ns.length := by omega
    by_cases hbig : (1000000000000000000 : Int) ≤ (if v < 0 then -v else v)
    · simp [nj, du, zq, yW, startF, aD, bM, Mf, aG, aa, D.own, M.bind, M.ret, M.opt, aC, cV, az, D.its, D.der, cInt, hl, hl', aV, fL, hv, mC, Lf, eO, p18, hbig, aU, dX, ao, bL, cA, D.fz, xY, Ly, c1, b3]
    · simp [nj, du, zq, yW, startF, aD, bM, Mf, aG, aa, D.own, M.bind, M.ret, M.opt, aC, cV, az, D.its, D.der, cInt, hl, hl', aV, fL, hv, mC, Lf, eO, p18, hbig, aU, dX, ao, bL, cA, D.fz, xY, Ly, c1, b3]
  · rw [if_neg hl] at hv
    subst hv
    have hl' : ¬ k < ns.length := by omega
    simp [nj, du, zq, yW, startF, aD, bM, Mf, aG, aa, D.own, M.bind, M.ret, M.opt, aC, cV, az, D.its, D.der, cInt, hl, hl', mC, Lf, eO, p18, aU, dX, ao, bL, cA, D.fz, xY, Ly, c1, b3]
 by_cases hl : (k : Int) < ns.length
 · have e : ns[k]? = some (ns[k]'(by omega)) := ag1 _
   exact main _ (by rw [if_pos hl]; exact Io rfl e)
 · exact main 0 (by rw [if_neg hl])
theorem set_same {h : Hh} {b : Nat} {v : D} (e : h[b]? = some v) : h.set b v = h := by
 refine List.ext_getElem? fun j => ?_
 by_cases hj : b = j
 · subst hj
   rw [ag8 (List.getElem?_eq_some_iff.mp e).1, e]
 · rw [ag6 hj]
section
variable {ns : List Int} {size born : Int} {counts cuts : List Int} {ends : List (Int × Int)} {gone : List Int} {N : Nat}
theorem abI {m : Nat} {l : List D} {a0 a1 a2 a3 a4 a5 a6 a7 a8 a9 a10 a11 a12 a14 a15 a16 a17 a18 a19 a20 : Option D} : ∀ (rs : List Nat) (h : Hh) (x13 : Option D), h[m]? = some (.nl l) → (∀ r ∈ rs, r ≠ m ∧ ∃ x y : Int, h[r]? = some (.nl [.int x, .int y])) →
 ∃ z h', vf m l (aQ 13) uK (rs.map .ref) [a0, a1, a2, a3, a4, a5, a6, a7, a8, a9, a10, a11, a12, x13, a14, a15, a16, a17, a18, a19, a20] h = .ok .nx [a0, a1, a2, a3, a4, a5, a6, a7, a8, a9, a10, a11, a12, z, a14, a15, a16, a17, a18, a19, a20] h' ∧ h'[m]? = some (.nl l) ∧ ∀ j, j ∉ rs → h'[j]? = h[j]?
 | [], h, x13, hm, _ => ⟨x13, h, by rw [ag7, vf]; exact if_pos hm, hm, fun _ _ => rfl⟩
 | r :: rs, h, x13, hm, hr => by
   obtain ⟨hne, x, y, e⟩ := hr r ag9
   have hl : r < h.length := (List.getElem?_eq_some_iff.mp e).1
   obtain ⟨z, h', e1, m1, k1⟩ := abI (m := m) (l := l) (a0 := a0) (a1 := a1) (a2 := a2) (a3 := a3) (a4 := a4) (a5 := a5) (a6 := a6) (a7 := a7) (a8 := a8) (a9 := a9) (a10 := a10) (a11 := a11) (a12 := a12) (a14 := a14) (a15 := a15) (a16 := a16) (a17 := a17) (a18 := a18) (a19 := a19) (a20 := a20) rs (h.set r (.nl [.int x, .int (y + 1)])) (some (.ref r)) (by rw [ag6 hne]; exact hm) (fun q hq => by
    obtain ⟨n1, u, v, e'⟩ := hr q (ahn _ hq)
    refine ⟨n1, ?_⟩
    by_cases hqr : r = q
    · subst hqr; exact ⟨x, y + 1, ag8 hl⟩
    · exact ⟨u, v, by rw [ag6 hqr]; exact e'⟩)
   refine ⟨z, h', ?_, m1, fun j hj => ?_⟩
   · rw [ag0, vf]
     dsimp only
     rw [if_pos hm]
     have b : uK [a0, a1, a2, a3, a4, a5, a6, a7, a8, a9, a10, a11, a12, some (.ref r), a14, a15, a16, a17, a18, a19, a20] h = .ok .nx [a0, a1, a2, a3, a4, a5, a6, a7, a8, a9, a10, a11, a12, some (.ref r), a14, a15, a16, a17, a18, a19, a20] (h.set r (.nl [.int x, .int (y + 1)])) := by
      simp [uK, Dk, bL, aG, cA, aV, fL, az, mC, M.bind, M.ret, M.opt, bh, D.its, D.der, e, atI, ixN, D.fz, aR, Dj]
     show (match uK [a0, a1, a2, a3, a4, a5, a6, a7, a8, a9, a10, a11, a12, some (.ref r), a14, a15, a16, a17, a18, a19, a20] h with
      | .ok .nx fr h => vf m l (aQ 13) uK (rs.map .ref) fr h
      | .ok .ct fr h => vf m l (aQ 13) uK (rs.map .ref) fr h
      | .ok .brk fr h => .ok .nx fr h
      | .ok (.rt d) fr h => .ok (.rt d) fr h
      | .exc x fr h => .exc x fr h
      | .err => .err) = _
     rw [b]
     exact e1
   · rw [k1 j fun q => hj (ahn _ q), ag6 fun q : r = j => hj (by rw [q]; exact ag9)]
theorem YQ (b n : Nat) : refsD b n = ((ahs n).map (b + ·)).map .ref := by unfold refsD; rw [List.map_map]; rfl
theorem aeC {h : Hh} {b : Nat} (B : Blk h b counts cuts ends gone) (l : zm N size born counts cuts ends gone) (h2 : 2 ≤ size) (h4 : size ≤ 4) {x1 x2 x11 x13 x14 x15 x16 x17 x18 x19 x20 : Option D} :
 Wp (zH [some (.kl (ns.map .int)), x1, x2, some (.int size), some (jt born counts cuts ends gone), some (.int born), some (.fl (counts.map .int)), some (.fl (cuts.map .int)), some (.fl (ends.map pairD)), some (.fl (gone.map .int)), some (.fl (N8 b ends.length)), x11, some (.no 0 (xN size born counts cuts ends gone)), x13, x14, x15, x16, x17, x18, x19, x20] h) (fun f fr _ => Um ns f fr) iY := by
 obtain ⟨s1, s2, s3, s4, s5⟩ := small l h4
 have lb : b < h.length := (List.getElem?_eq_some_iff.mp B.c).1
 have k1 : counts.length < big := yG (by omega)
 have k2 : cuts.length < big := yG (by omega)
 have k3 : ends.length < big := yG (by omega)
 have q2 : (h.set b (.nl (counts.map D.int ++ [.int 7])))[b + 1]? = some (.nl (cuts.map .int)) := by rw [ag6 (by omega)]; exact B.r
 generalize hh1 : h.set b (.nl (counts.map D.int ++ [.int 7])) = h1 at q2
 have lr : b + 1 < h1.length := (List.getElem?_eq_some_iff.mp q2).1
 generalize hh2 : h1.set (b + 1) (.nl (cuts.map D.int ++ [.int 0])) = h2'
 have far : ∀ j, b + 2 ≤ j → h2'[j]? = h[j]? := fun j hj => by rw [← hh2, ag6 (by omega), ← hh1, ag6 (by omega)]
 have q3 : h2'[b + 2 + ends.length]? = some (.nl (refsD (b + 2) ends.length)) := by rw [far _ (by omega)]; exact B.t
 obtain ⟨z, h3, e3, m3, n3⟩ := abI (m := b + 2 + ends.length) (l := refsD (b + 2) ends.length) (a0 := some (.kl (ns.map .int))) (a1 := x1) (a2 := x2) (a3 := some (.int size)) (a4 := some (jt born counts cuts ends gone)) (a5 := some (.int born)) (a6 := some (.fl (counts.map .int))) (a7 := some (.fl (cuts.map .int))) (a8 := some (.fl (ends.map pairD))) (a9 := some (.fl (gone.map .int))) (a10 := some (.fl (N8 b ends.length))) (a11 := x11) (a12 := some (.no 0 (xN size born counts cuts ends gone))) (a14 := x14) (a15 := x15) (a16 := x16) (a17 := x17) (a18 := x18) (a19 := x19) (a20 := x20)
  ((ahs ends.length).map (b + 2 + ·)) h2' x13 q3 (fun r hr => by
    obtain ⟨i, hi, rfl⟩ := List.mem_map.mp hr
    have hi' := List.mem_range.mp hi
    refine ⟨by omega, ends[i].1, ends[i].2, ?_⟩
    rw [far _ (by omega)]
    exact B.p i _ (ag1 hi'))
 rw [← YQ] at e3
 have g3 : h3[b + 3 + ends.length]? = some (.nl (gone.map .int)) := by
  rw [n3 _ fun q => by
   obtain ⟨i, hi, e⟩ := List.mem_map.mp q
   have hi' := List.mem_range.mp hi
   omega, far _ (by omega)]
  exact B.g
 have rl : (refsD (b + 2) ends.length).length = ends.length := by unfold refsD; rw [agZ, ahv]
 generalize hh4 : h3.set (b + 2 + ends.length) (.nl (refsD (b + 2) ends.length ++ [.tup [.int 0, .int 1]])) = h4'
 have g4 : h4'[b + 3 + ends.length]? = some (.nl (gone.map .int)) := by rw [← hh4, ag6 (by omega)]; exact g3
 have fin := aeb (ns := ns) (h := h4'.set (b + 3 + ends.length) (.nl [])) l h2 h4 (x1 := x1) (x2 := x2) (x10 := some (.fl (N8 b ends.length))) (x11 := x11) (x13 := z) (x14 := x14) (x15 := x15) (x16 := x16) (x17 := x17) (x18 := x18) (x19 := x19) (x20 := x20)
 have c3 : uN h2' (.ref (b + 2 + ends.length)) = some (b + 2 + ends.length, refsD (b + 2) ends.length) := by unfold uN; dsimp only; rw [q3]
 generalize jt born counts cuts ends gone = LD at *
 generalize xN size born counts cuts ends gone = IA at *
 generalize refsD (b + 2) ends.length = RF at *
 have hB : ∃ B, B = uK := ⟨_, rfl⟩
 obtain ⟨B7, hB⟩ := hB
 rw [← hB] at e3
 have hK : ∃ B, B = yt := ⟨_, rfl⟩
 obtain ⟨K13, hK⟩ := hK
 rw [← hK] at fin
 unfold N8 at *
 have ss1 := set_same B.c
 have ss2 := set_same q2
 have ss3 := set_same m3
 simp only [↓fX, ↓nJ, ↓wp_bind, ↓vC, ↓Ci, ↓Ab, ↓vD, ↓o9, ↓uE, ↓vG, ↓yP, ↓yQ, ↓Ac, ↓vH, ↓ph, ↓vK, ↓Ad, ↓pq, ↓pA, ↓vL, ↓jE, ↓Ae, ↓jF, ↓jG, ↓vM, ↓vP, ↓pB, ↓Af, ↓wy, ↓pC, ↓vQ, ↓Ag, ↓oh, ↓pD, ↓pF, ↓uF, ↓vR, ↓pG, ↓uG, ↓vU, ↓vW, ↓pH, ↓ou, ↓Ah, ↓oA, ↓jH, ↓fY, ↓jJ, ↓vX, ↓pK, ↓pM, ↓pN, ↓pO, ↓pP, ↓pQ, ↓pU, ↓fZ, ↓pW, ↓pX, ↓pY, ↓qR, ↓wB, ↓pZ, ↓oE, ↓qb, ↓qJ, ↓qP, ↓qQ, ↓oH, ↓oJ, iG, vh, vm, uH, nZ, CW, CZ, mZ, vo, uC, vp, o8, vq, vz, uD, oY, oZ, m9, uh, jK, qD, wg, pJ, ↓qY, ↓qZ, ↓kW, ↓wC, ↓Aj, ↓rA, ↓rB, ↓vg, ↓rK, ↓rN, ↓wI, ↓wJ, ↓wL, ↓wO, ↓rQ, ↓lg, ↓Ak, ↓lu, ↓rR, ↓sr, ↓su, ↓lG, ↓lH, ↓lJ, ↓ie, ↓wQ, ↓sE, ↓lL, ↓lM, ↓wR, ↓sJ, ↓lN, ↓lO, ↓lQ, ↓wU, ↓wV, ↓wW, ↓wX, ↓sU, ↓lU, ↓ig, ↓il, ↓xj, ↓xm, ↓lX, ↓xq, ↓sW, ↓sX, ↓sY, ↓lY, ↓lZ, ↓mD, ↓iy, ↓tE, ↓mG, ↓xr, ↓mH, ↓mJ, ↓tH, ↓tL, ↓tK, ↓tO, ↓tQ, ↓mQ, ↓tR, ↓mO, ↓iz, bz, dw, bR, eV, bD, dB, bF, fz_non, bG, dD, bT, eX, bU, eY, bH, dF, bJ, dH, bK, dI, bV, eZ, bW, fj, bY, fu, jo, nM, ug, oX, jL, oF, oG, m7, jM, vY, qd, qj, Du, Dy, Dz, DG, DK, DN, DP, Ai, iJ, yR, jN, jO, ql, jP, jQ, gh, jR, jT, gj, jU, vZ, v4, v5, v7, qm, qp, jV, uO, qu, cY, qw, qC, v8, v9, yS, yU, jZ, qF, j5, gK, j6, gM, qG, j7, gQ, j8, j9, qH, qI, nW, Hn, HS, gU, gY, kE, qT, kh, gR, wk, wu, qK, km, qM, qN, qO, wA, qL, uI, wz, ahj, aho, ahp, ahe, Int.reduceToNat, fJ, gq, jW, gA, gG, jX, jY, gH, gJ, kY, kZ, rO, wM, wN, Option.isSome_some, Option.isSome_none, rP, Int.reduceEq, beq_self_eq_true, iZ, jc, lA, rW, lB, lC, lD, rY, rZ, lE, lF, lK, g8, fD, sG, sH, sO, sS, lV, ir, iw, sV, lW, wY, Am, wZ, xf, xg, DQ, DR, mF, tD, xF, xG, tG, xH, mK, tM, qU, qX, kJ, qW, rC, wD, rE, rF, wF, rG, rH, rJ, wG, wH, startF, ag0, ag7, ahh, ahf, ag5, ag3, ahb, ahk, ahq, ahr, ahi, ahl, ahm, Nat.reduceAdd, Nat.reduceSub, Nat.reduceLeDiff, Nat.reduceLT, Nat.zero_add, and_true, true_and, and_self, false_and, and_false, not_true_eq_false, not_false_eq_true, eq_self, decide_true, decide_false, Bool.not_true, Bool.not_false, Bool.true_and, Bool.false_and, Bool.and_true, Bool.and_false, Bool.or_true, Bool.or_false, Bool.true_or, Bool.false_or, Option.map_some, Option.map_none, Int.toNat_natCast, ↓reduceIte, Bool.false_eq_true, reduceCtorEq, Int.cast_ofNat_Int, Int.reduceLT, Int.reduceLE, Int.reduceAdd, Int.reduceSub, Int.reduceNeg, Int.natCast_zero, wj, and_assoc, ↓Gm, ↓Gn, ↓Gp, ↓Gq, ↓Gr, ↓Gu, ↓Gv, ↓Gx, ↓Gy, ↓Gz, ↓GF, ↓GJ, ↓yu, ↓yw, ↓yz, ↓yC, ↓yD, ↓yE, ↓yF, ↓zJ, ↓zK, ↓zL, ↓zM, ↓zN, ↓zP, ↓Cy, ↓zQ, ↓zR, ↓Dh, ↓O9, cJ, dM, di, cO, dN, dW, fH, ss1, ss2, ss3, B.c, q2, hh1, hh2, hh4, ← hB, ← hK, e3, c3, m3, g4, g3, k1, k2, k3, rl, agZ]
 exact ⟨by omega, by omega, by omega, fin⟩
theorem TQ {g : D → M Unit} {t : M Bool} {e : M D} (hg : g = aQ 13) (ht : t = M.ret true) (he : e = cD (aC cR (az 13))) {h : Hh} {a0 a1 a2 a3 a4 a5 a10 a11 a12 x13 a14 a15 a16 a17 a18 a19 a20 : Option D} (hE : ends.length ≤ 20) :
 dX [cD (aC cR (az 6)), cD (aC cR (az 7)), cD (ye [13] (zY (aa 8)) g t e), cD (aC cR (az 9))] [a0, a1, a2, a3, a4, a5, some (.fl (counts.map .int)), some (.fl (cuts.map .int)), some (.fl (ends.map pairD)), some (.fl (gone.map .int)), a10, a11, a12, x13, a14, a15, a16, a17, a18, a19, a20] h =
  .ok (.nl (N8 h.length ends.length)) [a0, a1, a2, a3, a4, a5, some (.fl (counts.map .int)), some (.fl (cuts.map .int)), some (.fl (ends.map pairD)), some (.fl (gone.map .int)), a10, a11, a12, none, a14, a15, a16, a17, a18, a19, a20] (h ++ blk h.length counts cuts ends gone) := by
 have lc := TJ hg ht he (fr := [a0, a1, a2, a3, a4, a5, some (.fl (counts.map .int)), some (.fl (cuts.map .int)), some (.fl (ends.map pairD)), some (.fl (gone.map .int)), a10, a11, a12, none, a14, a15, a16, a17, a18, a19, a20]) rfl ends (h ++ [.nl (counts.map .int)] ++ [.nl (cuts.map .int)])
 have hm : ends.length ≤ 100000 := by omega
 have rl : ∀ b, (refsD b ends.length).length = ends.length := fun b => by unfold refsD; rw [agZ, ahv]
 apply Wp.eq
 simp only [↓fX, ↓nJ, ↓wp_bind, ↓vC, ↓Ci, ↓Ab, ↓vD, ↓o9, ↓uE, ↓vG, ↓yP, ↓yQ, ↓Ac, ↓vH, ↓ph, ↓vK, ↓Ad, ↓pq, ↓pA, ↓vL, ↓jE, ↓Ae, ↓jF, ↓jG, ↓vM, ↓vP, ↓pB, ↓Af, ↓wy, ↓pC, ↓vQ, ↓Ag, ↓oh, ↓pD, ↓pF, ↓uF, ↓vR, ↓pG, ↓uG, ↓vU, ↓vW, ↓pH, ↓ou, ↓Ah, ↓oA, ↓jH, ↓fY, ↓jJ, ↓vX, ↓pK, ↓pM, ↓pN, ↓pO, ↓pP, ↓pQ, ↓pU, ↓fZ, ↓pW, ↓pX, ↓pY, ↓qR, ↓wB, ↓pZ, ↓oE, ↓qb, ↓qJ, ↓qP, ↓qQ, ↓oH, ↓oJ, iG, vh, vm, uH, nZ, CW, CZ, mZ, vo, uC, vp, o8, vq, vz, uD, oY, oZ, m9, uh, jK, qD, wg, pJ, ↓qY, ↓qZ, ↓kW, ↓wC, ↓Aj, ↓rA, ↓rB, ↓vg, ↓rK, ↓rN, ↓wI, ↓wJ, ↓wL, ↓wO, ↓rQ, ↓lg, ↓Ak, ↓lu, ↓rR, ↓sr, ↓su, ↓lG, ↓lH, ↓lJ, ↓ie, ↓wQ, ↓sE, ↓lL, ↓lM, ↓wR, ↓sJ, ↓lN, ↓lO, ↓lQ, ↓wU, ↓wV, ↓wW, ↓wX, ↓sU, ↓lU, ↓ig, ↓il, ↓xj, ↓xm, ↓lX, ↓xq, ↓sW, ↓sX, ↓sY, ↓lY, ↓lZ, ↓mD, ↓iy, ↓tE, ↓mG, ↓xr, ↓mH, ↓mJ, ↓tH, ↓tL, ↓tK, ↓tO, ↓tQ, ↓mQ, ↓tR, ↓mO, ↓iz, bz, dw, bR, eV, bD, dB, bF, fz_non, bG, dD, bT, eX, bU, eY, bH, dF, bJ, dH, bK, dI, bV, eZ, bW, fj, bY, fu, jo, nM, ug, oX, jL, oF, oG, m7, jM, vY, qd, qj, Du, Dy, Dz, DG, DK, DN, DP, Ai, iJ, yR, jN, jO, ql, jP, jQ, gh, jR, jT, gj, jU, vZ, v4, v5, v7, qm, qp, jV, uO, qu, cY, qw, qC, v8, v9, yS, yU, jZ, qF, j5, gK, j6, gM, qG, j7, gQ, j8, j9, qH, qI, nW, Hn, HS, gU, gY, kE, qT, kh, gR, wk, wu, qK, km, qM, qN, qO, wA, qL, uI, wz, ahj, aho, ahp, ahe, Int.reduceToNat, fJ, gq, jW, gA, gG, jX, jY, gH, gJ, kY, kZ, rO, wM, wN, Option.isSome_some, Option.isSome_none, rP, Int.reduceEq, beq_self_eq_true, iZ, jc, lA, rW, lB, lC, lD, rY, rZ, lE, lF, lK, g8, fD, sG, sH, sO, sS, lV, ir, iw, sV, lW, wY, Am, wZ, xf, xg, DQ, DR, mF, tD, xF, xG, tG, xH, mK, tM, qU, qX, kJ, qW, rC, wD, rE, rF, wF, rG, rH, rJ, wG, wH, startF, ag0, ag7, ahh, ahf, ag5, ag3, ahb, ahk, ahq, ahr, ahi, ahl, ahm, Nat.reduceAdd, Nat.reduceSub, Nat.reduceLeDiff, Nat.reduceLT, Nat.zero_add, and_true, true_and, and_self, false_and, and_false, not_true_eq_false, not_false_eq_true, eq_self, decide_true, decide_false, Bool.not_true, Bool.not_false, Bool.true_and, Bool.false_and, Bool.and_true, Bool.and_false, Bool.or_true, Bool.or_false, Bool.true_or, Bool.false_or, Option.map_some, Option.map_none, Int.toNat_natCast, ↓reduceIte, Bool.false_eq_true, reduceCtorEq, Int.cast_ofNat_Int, Int.reduceLT, Int.reduceLE, Int.reduceAdd, Int.reduceSub, Int.reduceNeg, Int.natCast_zero, wj, and_assoc, cJ, dM, di, cO, dN, dW, fH, lc, agZ, ag4, rl, hm]
 unfold N8 blk
 refine ⟨?_, ?_⟩
 · simp only [ag4, ag3, ahb, agZ, Nat.zero_add, D.nl.injEq, List.cons.injEq, D.ref.injEq, and_true, true_and]
   omega
 · simp only [List.append_assoc, ahh, ahf]
theorem acN {h : Hh} (l : zm N size born counts cuts ends gone) (h2 : 2 ≤ size) (h4 : size ≤ 4) {x1 x2 x5 x6 x7 x8 x9 x10 x11 x12 x13 x14 x15 x16 x17 x18 x19 x20 : Option D} :
 Wp (xV [some (.kl (ns.map .int)), x1, x2, some (.int size), some (jt born counts cuts ends gone), x5, x6, x7, x8, x9, x10, x11, x12, x13, x14, x15, x16, x17, x18, x19, x20] h) (fun f fr _ => Um ns f fr) iY := by
 obtain ⟨s1, s2, s3, s4, s5⟩ := small l h4
 have B1 := ZW (h := h) (x := blk (h ++ blk h.length counts cuts ends gone).length counts cuts ends gone) (counts := counts) (cuts := cuts) (ends := ends) (gone := gone)
 have B2 := ZW (h := h ++ blk h.length counts cuts ends gone) (x := []) (counts := counts) (cuts := cuts) (ends := ends) (gone := gone)
 rw [ag5] at B2
 have e1 := fun (a10 a11 a12 x13 : Option D) => TQ (g := Gf) (t := Gg) (e := Gh) rfl rfl rfl (h := h) (counts := counts) (cuts := cuts) (ends := ends) (gone := gone) (a0 := some (.kl (ns.map .int))) (a1 := x1) (a2 := x2) (a3 := some (.int size)) (a4 := some (jt born counts cuts ends gone)) (a5 := some (.int born)) (a10 := a10) (a11 := a11) (a12 := a12) (x13 := x13) (a14 := x14) (a15 := x15) (a16 := x16) (a17 := x17) (a18 := x18) (a19 := x19) (a20 := x20) s3
 have e2 := fun (a10 a11 a12 x13 : Option D) => TQ (g := Gi) (t := Gj) (e := Gk) rfl rfl rfl (h := h ++ blk h.length counts cuts ends gone) (counts := counts) (cuts := cuts) (ends := ends) (gone := gone) (a0 := some (.kl (ns.map .int))) (a1 := x1) (a2 := x2) (a3 := some (.int size)) (a4 := some (jt born counts cuts ends gone)) (a5 := some (.int born)) (a10 := a10) (a11 := a11) (a12 := a12) (x13 := x13) (a14 := x14) (a15 := x15) (a16 := x16) (a17 := x17) (a18 := x18) (a19 := x19) (a20 := x20) s3
 generalize hh1 : h ++ blk h.length counts cuts ends gone = h1 at *
 generalize hh2 : h1 ++ blk h1.length counts cuts ends gone = h2' at *
 have i1 := B1.init l h2 h4
 have q := acM B1 B2
 have fin := aeC (ns := ns) B1 l h2 h4 (x1 := x1) (x2 := x2) (x11 := some (.fl (N8 h1.length ends.length))) (x13 := none) (x14 := x14) (x15 := x15) (x16 := x16) (x17 := x17) (x18 := x18) (x19 := x19) (x20 := x20)
 have hK : ∃ B, B = zH := ⟨_, rfl⟩
 obtain ⟨K8, hK⟩ := hK
 rw [← hK] at fin
 have eL : jt born counts cuts ends gone = .tup [.int born, .fl (counts.map .int), .fl (cuts.map .int), .fl (ends.map pairD), .fl (gone.map .int)] := rfl
 generalize xN size born counts cuts ends gone = IA at *
 unfold xV Cv Cu Cr Cp
 rw [← hK]
 have hL1 : ∃ B, B = dX [cD (aC cR (az 6)), cD (aC cR (az 7)), cD (ye [13] (zY (aa 8)) Gf Gg Gh), cD (aC cR (az 9))] := ⟨_, rfl⟩
 obtain ⟨L1, hL1⟩ := hL1
 have hL2 : ∃ B, B = dX [cD (aC cR (az 6)), cD (aC cR (az 7)), cD (ye [13] (zY (aa 8)) Gi Gj Gk), cD (aC cR (az 9))] := ⟨_, rfl⟩
 obtain ⟨L2, hL2⟩ := hL2
 rw [← hL1] at e1
 rw [← hL2] at e2
 rw [← hL1, ← hL2]
 rw [eL] at e1 e2 fin ⊢
 unfold N8 at *
 simp only [↓fX, ↓nJ, ↓wp_bind, ↓vC, ↓Ci, ↓Ab, ↓vD, ↓o9, ↓uE, ↓vG, ↓yP, ↓yQ, ↓Ac, ↓vH, ↓ph, ↓vK, ↓Ad, ↓pq, ↓pA, ↓vL, ↓jE, ↓Ae, ↓jF, ↓jG, ↓vM, ↓vP, ↓pB, ↓Af, ↓wy, ↓pC, ↓vQ, ↓Ag, ↓oh, ↓pD, ↓pF, ↓uF, ↓vR, ↓pG, ↓uG, ↓vU, ↓vW, ↓pH, ↓ou, ↓Ah, ↓oA, ↓jH, ↓fY, ↓jJ, ↓vX, ↓pK, ↓pM, ↓pN, ↓pO, ↓pP, ↓pQ, ↓pU, ↓fZ, ↓pW, ↓pX, ↓pY, ↓qR, ↓wB, ↓pZ, ↓oE, ↓qb, ↓qJ, ↓qP, ↓qQ, ↓oH, ↓oJ, iG, vh, vm, uH, nZ, CW, CZ, mZ, vo, uC, vp, o8, vq, vz, uD, oY, oZ, m9, uh, jK, qD, wg, pJ, ↓qY, ↓qZ, ↓kW, ↓wC, ↓Aj, ↓rA, ↓rB, ↓vg, ↓rK, ↓rN, ↓wI, ↓wJ, ↓wL, ↓wO, ↓rQ, ↓lg, ↓Ak, ↓lu, ↓rR, ↓sr, ↓su, ↓lG, ↓lH, ↓lJ, ↓ie, ↓wQ, ↓sE, ↓lL, ↓lM, ↓wR, ↓sJ, ↓lN, ↓lO, ↓lQ, ↓wU, ↓wV, ↓wW, ↓wX, ↓sU, ↓lU, ↓ig, ↓il, ↓xj, ↓xm, ↓lX, ↓xq, ↓sW, ↓sX, ↓sY, ↓lY, ↓lZ, ↓mD, ↓iy, ↓tE, ↓mG, ↓xr, ↓mH, ↓mJ, ↓tH, ↓tL, ↓tK, ↓tO, ↓tQ, ↓mQ, ↓tR, ↓mO, ↓iz, bz, dw, bR, eV, bD, dB, bF, fz_non, bG, dD, bT, eX, bU, eY, bH, dF, bJ, dH, bK, dI, bV, eZ, bW, fj, bY, fu, jo, nM, ug, oX, jL, oF, oG, m7, jM, vY, qd, qj, Du, Dy, Dz, DG, DK, DN, DP, Ai, iJ, yR, jN, jO, ql, jP, jQ, gh, jR, jT, gj, jU, vZ, v4, v5, v7, qm, qp, jV, uO, qu, cY, qw, qC, v8, v9, yS, yU, jZ, qF, j5, gK, j6, gM, qG, j7, gQ, j8, j9, qH, qI, nW, Hn, HS, gU, gY, kE, qT, kh, gR, wk, wu, qK, km, qM, qN, qO, wA, qL, uI, wz, ahj, aho, ahp, ahe, Int.reduceToNat, fJ, gq, jW, gA, gG, jX, jY, gH, gJ, kY, kZ, rO, wM, wN, Option.isSome_some, Option.isSome_none, rP, Int.reduceEq, beq_self_eq_true, iZ, jc, lA, rW, lB, lC, lD, rY, rZ, lE, lF, lK, g8, fD, sG, sH, sO, sS, lV, ir, iw, sV, lW, wY, Am, wZ, xf, xg, DQ, DR, mF, tD, xF, xG, tG, xH, mK, tM, qU, qX, kJ, qW, rC, wD, rE, rF, wF, rG, rH, rJ, wG, wH, startF, ag0, ag7, ahh, ahf, ag5, ag3, ahb, ahk, ahq, ahr, ahi, ahl, ahm, Nat.reduceAdd, Nat.reduceSub, Nat.reduceLeDiff, Nat.reduceLT, Nat.zero_add, and_true, true_and, and_self, false_and, and_false, not_true_eq_false, not_false_eq_true, eq_self, decide_true, decide_false, Bool.not_true, Bool.not_false, Bool.true_and, Bool.false_and, Bool.and_true, Bool.and_false, Bool.or_true, Bool.or_false, Bool.true_or, Bool.false_or, Option.map_some, Option.map_none, Int.toNat_natCast, ↓reduceIte, Bool.false_eq_true, reduceCtorEq, Int.cast_ofNat_Int, Int.reduceLT, Int.reduceLE, Int.reduceAdd, Int.reduceSub, Int.reduceNeg, Int.natCast_zero, wj, and_assoc, ↓Gm, ↓Gn, ↓Gp, ↓Gq, ↓Gr, ↓Gu, ↓JB, ↓Gv, ↓Gx, ↓Gy, ↓Gz, ↓GF, ↓GJ, ↓yu, ↓yw, ↓yz, ↓yC, ↓Bf, ↓yD, ↓yE, ↓yF, ↓zJ, ↓zK, ↓zL, ↓zM, ↓zN, ↓zP, ↓Cy, ↓zQ, ↓zR, ↓Dh, ↓O9, cJ, dM, di, cO, dN, dW, fH, e1, e2, i1, q]
 exact fin
theorem aec {k : Nat} (hk : k ≤ 62) (h : Hh) (x2 x3 x4 x5 x6 x7 x8 x9 x10 x11 x12 x13 x14 x15 x16 x17 x18 x19 x20 : Option D) : Wp (Ho [some (.kl (ns.map .int)), some (.int (k : Int)), x2, x3, x4, x5, x6, x7, x8, x9, x10, x11, x12, x13, x14, x15, x16, x17, x18, x19, x20] h) (fun f fr _ => Um ns f fr) iY := by
 obtain ⟨a, b, e1, b0, b1⟩ := Wx (h := h) (ns := ns) hk
 have S1 : Src (h ++ [.nl [.int a, .int b, .int 0]]) h.length 0 := ⟨a, b, 0, by rw [ahu (Nat.le_refl _), Nat.sub_self]; rfl, b0, b1, by decide, by decide⟩
 obtain ⟨r, h2, e2, S2, r0, r1⟩ := xM (m := 3) S1 (by omega) (by decide) (by decide)
 obtain ⟨born, counts, cuts, ends, gone, h3, e3, S3, life⟩ := ZP (size := 2 + r) S2 (by decide) (by omega) (by omega)
 have fin := acN (ns := ns) (h := h3) life (by omega) (by omega) (x1 := some (.int (k : Int))) (x2 := some (.ref h.length)) (x5 := x5) (x6 := x6) (x7 := x7) (x8 := x8) (x9 := x9) (x10 := x10) (x11 := x11) (x12 := x12) (x13 := x13) (x14 := x14) (x15 := x15) (x16 := x16) (x17 := x17) (x18 := x18) (x19 := x19) (x20 := x20)
 have hK : ∃ B, B = xV := ⟨_, rfl⟩
 obtain ⟨K3, hK⟩ := hK
 rw [← hK] at fin
 generalize jt born counts cuts ends gone = LD at *
 simp only [↓fX, ↓nJ, ↓wp_bind, ↓vC, ↓Ci, ↓Ab, ↓vD, ↓o9, ↓uE, ↓vG, ↓yP, ↓yQ, ↓Ac, ↓vH, ↓ph, ↓vK, ↓Ad, ↓pq, ↓pA, ↓vL, ↓jE, ↓Ae, ↓jF, ↓jG, ↓vM, ↓vP, ↓pB, ↓Af, ↓wy, ↓pC, ↓vQ, ↓Ag, ↓oh, ↓pD, ↓pF, ↓uF, ↓vR, ↓pG, ↓uG, ↓vU, ↓vW, ↓pH, ↓ou, ↓Ah, ↓oA, ↓jH, ↓fY, ↓jJ, ↓vX, ↓pK, ↓pM, ↓pN, ↓pO, ↓pP, ↓pQ, ↓pU, ↓fZ, ↓pW, ↓pX, ↓pY, ↓qR, ↓wB, ↓pZ, ↓oE, ↓qb, ↓qJ, ↓qP, ↓qQ, ↓oH, ↓oJ, iG, vh, vm, uH, nZ, CW, CZ, mZ, vo, uC, vp, o8, vq, vz, uD, oY, oZ, m9, uh, jK, qD, wg, pJ, ↓qY, ↓qZ, ↓kW, ↓wC, ↓Aj, ↓rA, ↓rB, ↓vg, ↓rK, ↓rN, ↓wI, ↓wJ, ↓wL, ↓wO, ↓rQ, ↓lg, ↓Ak, ↓lu, ↓rR, ↓sr, ↓su, ↓lG, ↓lH, ↓lJ, ↓ie, ↓wQ, ↓sE, ↓lL, ↓lM, ↓wR, ↓sJ, ↓lN, ↓lO, ↓lQ, ↓wU, ↓wV, ↓wW, ↓wX, ↓sU, ↓lU, ↓ig, ↓il, ↓xj, ↓xm, ↓lX, ↓xq, ↓sW, ↓sX, ↓sY, ↓lY, ↓lZ, ↓mD, ↓iy, ↓tE, ↓mG, ↓xr, ↓mH, ↓mJ, ↓tH, ↓tL, ↓tK, ↓tO, ↓tQ, ↓mQ, ↓tR, ↓mO, ↓iz, bz, dw, bR, eV, bD, dB, bF, fz_non, bG, dD, bT, eX, bU, eY, bH, dF, bJ, dH, bK, dI, bV, eZ, bW, fj, bY, fu, jo, nM, ug, oX, jL, oF, oG, m7, jM, vY, qd, qj, Du, Dy, Dz, DG, DK, DN, DP, Ai, iJ, yR, jN, jO, ql, jP, jQ, gh, jR, jT, gj, jU, vZ, v4, v5, v7, qm, qp, jV, uO, qu, cY, qw, qC, v8, v9, yS, yU, jZ, qF, j5, gK, j6, gM, qG, j7, gQ, j8, j9, qH, qI, nW, Hn, HS, gU, gY, kE, qT, kh, gR, wk, wu, qK, km, qM, qN, qO, wA, qL, uI, wz, ahj, aho, ahp, ahe, Int.reduceToNat, fJ, gq, jW, gA, gG, jX, jY, gH, gJ, kY, kZ, rO, wM, wN, Option.isSome_some, Option.isSome_none, rP, Int.reduceEq, beq_self_eq_true, iZ, jc, lA, rW, lB, lC, lD, rY, rZ, lE, lF, lK, g8, fD, sG, sH, sO, sS, lV, ir, iw, sV, lW, wY, Am, wZ, xf, xg, DQ, DR, mF, tD, xF, xG, tG, xH, mK, tM, qU, qX, kJ, qW, rC, wD, rE, rF, wF, rG, rH, rJ, wG, wH, startF, ag0, ag7, ahh, ahf, ag5, ag3, ahb, ahk, ahq, ahr, ahi, ahl, ahm, Nat.reduceAdd, Nat.reduceSub, Nat.reduceLeDiff, Nat.reduceLT, Nat.zero_add, and_true, true_and, and_self, false_and, and_false, not_true_eq_false, not_false_eq_true, eq_self, decide_true, decide_false, Bool.not_true, Bool.not_false, Bool.true_and, Bool.false_and, Bool.and_true, Bool.and_false, Bool.or_true, Bool.or_false, Bool.true_or, Bool.false_or, Option.map_some, Option.map_none, Int.toNat_natCast, ↓reduceIte, Bool.false_eq_true, reduceCtorEq, Int.cast_ofNat_Int, Int.reduceLT, Int.reduceLE, Int.reduceAdd, Int.reduceSub, Int.reduceNeg, Int.natCast_zero, wj, and_assoc, ↓Gm, ↓Gn, ↓Gp, ↓Gq, ↓Gr, ↓Gu, ↓JB, ↓Gv, ↓Gx, ↓Gy, ↓Gz, ↓GF, ↓GJ, ↓yu, ↓yw, ↓yz, ↓yC, ↓Bf, ↓yD, ↓yE, ↓yF, ↓zJ, ↓zK, ↓zL, ↓zM, ↓zN, ↓zP, ↓zQ, ↓zR, ↓Dh, ↓O9, cJ, dM, di, cO, dN, dW, fH, e1, e2, e3, ← hK]
 exact fin
theorem plain (ns : List Int) (hl : ns.length ≤ 63) : ∃ fr h, Yy [.kl (ns.map Pk.D.int)] [] = .ok (.bl true) fr h := by
 unfold Yy Rc
 refine acC (by decide) (by decide) (by decide) fun k xs h hk hx => ?_
 match xs, hx with
 | [x2, x3, x4, x5, x6, x7, x8, x9, x10, x11, x12, x13, x14, x15, x16, x17, x18, x19, x20], _ => exact aec (by omega) h x2 x3 x4 x5 x6 x7 x8 x9 x10 x11 x12 x13 x14 x15 x16 x17 x18 x19 x20
end
end L
namespace L
open PySem PySem.Spec PyProof.Rows L2
theorem facts {P : Program} {w : World} {K : PySem.W.Frag} {h : Heap} {mg : Str → Option Value} {f : Addr} (X : K.In h) (G : h.Ns mainGlobals mg) (hfa : mg ("law" : Str) = some (.ref f)) (c : aY K) :
 ∃ fd : FuncData, (∀ (s : Shared) (v : Value), BindsTo s fd ⟨[v], []⟩ [("_law_script", v)]) ∧ ∀ base : Heap, K.In base → base.Ns mainGlobals mg → FnOk P w K mg base (L2.CX P w) 7 f fd ["_law_script"] (Pk.spF K (T K) 1 Yy) := by
 obtain ⟨fd, F⟩ := c.def_ (fn.length - 1) (d := abr) rfl
 have e := hfa.symm.trans (He.glo_ok X G (c.fact (fa.length - 1) (f := .he (.glo "law")) rfl))
 cases e
 have b := FunD.bindsA (ps := ["_law_script"]) F fun _ _ _ _ _ _ us hl => match us, hl with | [_], _ => rfl
 exact ⟨fd, fun s v => b s [v] rfl, fun base Y Gb => Pk.fn_sim F adg (aa8 c Y Gb)⟩
end L
open PySem PySem.W PySem.Calls PyProof.Rows
theorem PySem.Challenge.cw_countrestarts_k01_instances_made_holds : PySem.Challenge.rw_countrestarts_k01_instances_made.Holds := by
 w_on; o_law
 refine HandSHeadRun.head_any (r := OpenLaw.row PySem.Challenge.rw_countrestarts_k01_instances_made) (q := L.vw) (H := L.hk) (ob := L.ob) (M := 20000) (loose := L.names) (d := HandSHeadRun.topDef (OpenLaw.row PySem.Challenge.rw_countrestarts_k01_instances_made).prog 25) (kwd := []) L.ob_eq
  (by kernel_rfl) (fun s => by kernel_rfl) L.run (by kernel_rfl) (by kernel_rfl) (by kernel_rfl) (by rfl) (by first | assumption | decide +kernel) (by decide +kernel) ⟨rfl, rfl, rfl, rfl, rfl, by decide +kernel⟩ ?hw ?hc
 case hw => w_witness2
 case hc =>
  refine L2.walk_ofE (l := PySem.Challenge.rw_countrestarts_k01_instances_made) (n := 63) (k := 7) (x := "_law_script") (CX := L2.CX0) rfl (by decide) (by kernel_rfl) ⟨rfl, by decide, by decide⟩ ?F (fun _ _ _ _ z => z)
  intro w mg fa h Y G hmg0
  obtain ⟨K, KX, c⟩ := Y
  have hmg : mg ("law" : PySem.Str) = some (.ref fa) := by
   have e : (HandSHeadRun.topDef (OpenLaw.row PySem.Challenge.rw_countrestarts_k01_instances_made).prog 25).name = ("law" : PySem.Str) := by kernel_rfl
   rw [← e]
   exact hmg0
  obtain ⟨fd, hb, hF⟩ := L.facts (P := (PySem.Challenge.rw_countrestarts_k01_instances_made).prog) (w := w) KX G hmg c
  exact ⟨K, fd, _, KX, hb, fun H a ns hl _ hS => (let ⟨fr, h, e⟩ := L.plain ns hl; Pk.law_sp hS e), fun base Y Gb => Pk.fn_cx0 (hF base Y Gb)⟩
