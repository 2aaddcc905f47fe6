import PyProof.Rows.All
import Wide.All
import OpenK.AllK
import Wide.FinOn
import HandS.ForMost
import HandS.Exc
import HandS.IsInst
import HandS.Wide
import HandS.TupAny
import HandS.Conv
import HandS.Deep
import HandS.Property
import HandS.MakeKwOnly
import HandS.SortInts
import HandS.RaiseMore
import HandS.Style
import HandS.Zip
import HandS.CallSlots
import HandS.Defaults
import HandS.HeadHook1
import HandS.HeadHook2
import HandS.HeadHook3
import HandS.HeadHook4
import HandS.HeadEnd
import HandS.ExcIs
import HandS.ExcField
import KE.GoesMore
import PyProof.EnumMake
import PyProof.EnumFor
import HandS.Iter
import HandS.Star
import KE.KExcSuper
import KE.KSuper
import HandS.ExcInit
import KE.KStateDown
import HandS.Head0
import HandS.Head1
import HandS.Head2
import PySem.Challenge.RW_countrestarts_k11_gathered
import KE.KExcIs
import HandS.TryOnly
import HandS.TryMany
import HandS.ClsMeth
import HandS.OwnEq
import PyProof.CallFns
import HandS.FStr
import PyProof.Rows.StrWeight2
import PyProof.Rows.StrSplitJoin
import PyProof.Rows.StrFin3
import HandS.ExcOwn
import KE.GoesSet
import HandS.Strs
import KE.KTupSum
import PyProof.Rows.RuleN_abs
import KE.KOpsOwn
import KE.KMethU
import HandS.Dict
import HandS.Flow
import HandS.MethStar
import HandS.GenList
import HandS.GenYield
import KE.GoesZip
import KE.GoesEnum
import HandS.GenCall
import KE.SortData
import KE.SortLaws
import KE.KDictList
set_option Elab.async false
set_option linter.all false
set_option maxRecDepth 100000
set_option maxHeartbeats 40000000
set_option autoImplicit false
open List renaming map_cons → an1, length_map → an2, getElem?_cons_zero → an3, length_cons → an4, set_cons_zero → an5, set_cons_succ → an6, getElem?_cons_succ → an7, length_nil → an8, length_append → an9, map_nil → aoa, append_nil → aob, getElem?_eq_getElem → aoc, mem_cons_self → aod, range → aoe, nil_append → aof, cons_append → aog, replicate_zero → aoh, lookup → aoi, map_map → aoj, mem_cons_of_mem → aok, map_append → aol, replicate_succ → aom, sum_cons → aon, length_singleton → aoo, mem_of_getElem? → aop, getElem?_set_ne → aoq, getElem?_set_self → aor, getElem?_map → aos, mem_singleton → aot, length_set → aou, length → aov, getElem?_append_right → aow, getElem?_append_left → aox, length_range → aoy, map_congr_left → aoz, append_assoc → aoA, flatMap_cons → aoB, nodup_cons → aoC, mem_map_of_mem → aoD, drop_eq_getElem_cons → aoE
namespace Pk
open PySem PySem.Spec L2
inductive D where
 | non | bl (b : Bool) | int (i : Int) | str (s : Str)
 | tup (l : List D) | fl (l : List D) | nl (l : List D) | kl (l : List D)
 | obj (c : Nat) (fs : List D) | no (c : Nat) (fs : List D) | ref (n : Nat) | cls (c : Nat) | ty (t : String)
 | sl (lo hi : Option Int)
 /-- a dict with tuples for keys, in a cell: its keys, its values -/
 | dc (ks : List (List (Sum Int Str))) (ds : List D)
 /-- a dict with ints and texts for keys, in a cell -/
 | dk (ks : List (Sum Int Str)) (ds : List D)
 deriving Inhabited
def D.own : D → Bool
 | .nl _ => true
 | .no _ _ => true
 | _ => false
def D.fz : D → D
 | .nl l => .fl l
 | .no c fs => .obj c fs
 | d => d
abbrev Fr := List (Option D)
abbrev Hh := List D
structure Tb where
 cad : Nat → Addr
 fld : Nat → List Str
structure Wd where
 F : Hp
 I : List Addr
def Wd.le (w w' : Wd) : Prop := (∀ a o, w.F a = some o → w'.F a = some o) ∧ ∃ r, w'.I = w.I ++ r
theorem Wd.le_refl (w : Wd) : w.le w := ⟨fun _ _ h => h, [], by simp⟩
theorem Wd.le_trans {a b c : Wd} (x : a.le b) (y : b.le c) : a.le c :=
 ⟨fun p o h => y.1 p o (x.1 p o h), by
  obtain ⟨r, e⟩ := x.2
  obtain ⟨q, f⟩ := y.2
  exact ⟨r ++ q, by rw [f, e, aoA]⟩⟩
theorem Wd.le_at {w w' : Wd} (x : w.le w') {n : Nat} {a : Addr} (h : w.I[n]? = some a) : w'.I[n]? = some a := by
 obtain ⟨r, e⟩ := x.2
 rw [e, aox (List.getElem?_eq_some_iff.mp h).1]
 exact h
theorem Wd.le_mem {w w' : Wd} (x : w.le w') {a : Addr} (h : a ∈ w.I) : a ∈ w'.I := by
 obtain ⟨r, e⟩ := x.2
 rw [e]
 exact List.mem_append_left _ h
theorem agv {F F' : Hp} (x : ∀ a o, F a = some o → F' a = some o) {a : Addr} {u : HO} (h : Rd F a u) : Rd F' a u := by
 rcases h with h | ⟨o, h⟩
 · exact .inl (x _ _ h)
 · exact .inr ⟨o, x _ _ h⟩
theorem nU {K : PySem.W.Frag} {F F' : Hp} (x : ∀ a o, F a = some o → F' a = some o) {a : Addr} {vs : List V} (h : SqL K F a vs) : SqL K F' a vs := by
 rcases h with h | h
 · exact .inl (agv x h)
 · exact .inr h
theorem fX {K : PySem.W.Frag} {F F' : Hp} (x : ∀ a o, F a = some o → F' a = some o) {a : Addr} {vs : List V} (h : SqT K F a vs) : SqT K F' a vs := by
 rcases h with h | h
 · exact .inl (agv x h)
 · exact .inr h
def SlO (a : Addr) (lo hi : Option Int) (h : Heap) : Prop := ∃ vl vu, h.IsSliceOf a vl vu .none ∧ IsPart vl lo ∧ IsPart vu hi
mutual
inductive bQ (K : PySem.W.Frag) (T : Tb) (w : Wd) : V → D → Prop where
 | non : bQ K T w .non .non
 | bl (b : Bool) : bQ K T w (.bl b) (.bl b)
 | int (i : Int) : bQ K T w (.int i) (.int i)
 | str (s : Str) : bQ K T w (.str s) (.str s)
 | tup {a : Addr} {vs : List V} {ds : List D} : SqT K w.F a vs → aF K T w vs ds → bQ K T w (.ref a) (.tup ds)
 | fl {a : Addr} {vs : List V} {ds : List D} : w.F a = some (.lst vs) → aF K T w vs ds → bQ K T w (.ref a) (.fl ds)
 | kl {a : Addr} {vs : List V} {ds : List D} : SqL K w.F a vs → aF K T w vs ds → bQ K T w (.ref a) (.kl ds)
 | obj {a dx : Addr} {c : Nat} {vs : List V} {ds : List D} : w.F a = some (.ins (T.cad c) dx ((T.fld c).zip vs)) → aF K T w vs ds → bQ K T w (.ref a) (.obj c ds)
 | ref {a : Addr} {n : Nat} : w.I[n]? = some a → bQ K T w (.ref a) (.ref n)
 | cls (c : Nat) : bQ K T w (.ref (T.cad c)) (.cls c)
 | ty (t : String) : bQ K T w (.ty t) (.ty t)
 | sl {a : Addr} {lo hi : Option Int} : w.F a = some (.ext (SlO a lo hi)) → bQ K T w (.ref a) (.sl lo hi)
inductive aF (K : PySem.W.Frag) (T : Tb) (w : Wd) : List V → List D → Prop where
 | nil : aF K T w [] []
 | cons {v : V} {d : D} {vs : List V} {ds : List D} : bQ K T w v d → aF K T w vs ds → aF K T w (v :: vs) (d :: ds)
end
section
variable {K : PySem.W.Frag} {T : Tb} {w w' : Wd}
mutual
theorem bQ.mono (x : w.le w') : ∀ {v : V} {d : D}, bQ K T w v d → bQ K T w' v d
 | _, _, .non => .non
 | _, _, .bl b => .bl b
 | _, _, .int i => .int i
 | _, _, .str s => .str s
 | _, _, .tup h t => .tup (fX x.1 h) (aF.mono x t)
 | _, _, .fl h t => .fl (x.1 _ _ h) (aF.mono x t)
 | _, _, .kl h t => .kl (nU x.1 h) (aF.mono x t)
 | _, _, .obj h t => .obj (x.1 _ _ h) (aF.mono x t)
 | _, _, .ref h => .ref (Wd.le_at x h)
 | _, _, .cls c => .cls c
 | _, _, .ty t => .ty t
 | _, _, .sl h => .sl (x.1 _ _ h)
theorem aF.mono (x : w.le w') : ∀ {vs : List V} {ds : List D}, aF K T w vs ds → aF K T w' vs ds
 | _, _, .nil => .nil
 | _, _, .cons h t => .cons (bQ.mono x h) (aF.mono x t)
end
theorem aF.length : ∀ {vs : List V} {ds : List D}, aF K T w vs ds → vs.length = ds.length
 | _, _, .nil => rfl
 | _, _, .cons _ t => congrArg Nat.succ (aF.length t)
theorem aF.get : ∀ {vs : List V} {ds : List D} {i : Nat} {d : D}, aF K T w vs ds → ds[i]? = some d → ∃ v, vs[i]? = some v ∧ bQ K T w v d
 | _, _, _, _, .nil, e => by simp at e
 | _, _, 0, _, .cons h _, e => by
   simp at e
   subst e
   exact ⟨_, rfl, h⟩
 | _, _, i + 1, d, .cons _ t, e => by
   obtain ⟨v, h1, h2⟩ := aF.get (i := i) (d := d) t (by simpa using e)
   exact ⟨v, by simpa using h1, h2⟩
theorem aF.append : ∀ {vs us : List V} {ds es : List D}, aF K T w vs ds → aF K T w us es → aF K T w (vs ++ us) (ds ++ es)
 | _, _, _, _, .nil, t => t
 | _, _, _, _, .cons h r, t => .cons h (aF.append r t)
theorem aF.drop : ∀ {vs : List V} {ds : List D} (n : Nat), aF K T w vs ds → aF K T w (vs.drop n) (ds.drop n)
 | _, _, 0, h => h
 | _, _, _ + 1, .nil => .nil
 | _, _, n + 1, .cons _ t => aF.drop n t
theorem aF.take : ∀ {vs : List V} {ds : List D} (n : Nat), aF K T w vs ds → aF K T w (vs.take n) (ds.take n)
 | _, _, 0, _ => .nil
 | _, _, _ + 1, .nil => .nil
 | _, _, n + 1, .cons h t => .cons h (aF.take n t)
theorem aF.set : ∀ {vs : List V} {ds : List D} {v : V} {d : D} (n : Nat), aF K T w vs ds → bQ K T w v d → aF K T w (vs.set n v) (ds.set n d)
 | _, _, _, _, _, .nil, _ => .nil
 | _, _, _, _, 0, .cons _ t, h => .cons h t
 | _, _, _, _, n + 1, .cons h t, k => .cons h (aF.set n t k)
theorem aF.ints : ∀ {vs : List V} {is : List Int}, aF K T w vs (is.map D.int) → vs = is.map V.int
 | _, [], .nil => rfl
 | _, i :: is, .cons h t => by
   cases h
   rw [aF.ints t]
   rfl
end
structure Bs where
 w0 : Wd
 H0 : Hp
 P : List (Addr × HO)
 /-- where an __init__'s own instance is: in slot 0, as long as that holds an object of the body's own -/
 me : Option Addr
abbrev Bs.of (w : Wd) (H : Hp) : Bs := ⟨w, H, [], none⟩
structure Own (B : Bs) (w : Wd) (p : Addr) : Prop where
 f : w.F p = none
 i : p ∉ w.I
 e : B.H0 p = none
 p : ∀ q ∈ B.P, q.1 ≠ p
inductive uW (K : PySem.W.Frag) (T : Tb) (w : Wd) : HO → D → Prop where
 | lst {vs : List V} {ds : List D} : aF K T w vs ds → uW K T w (.lst vs) (.nl ds)
 | obj {dx : Addr} {c : Nat} {vs : List V} {ds : List D} : aF K T w vs ds → uW K T w (.ins (T.cad c) dx ((T.fld c).zip vs)) (.no c ds)
theorem uW.own {K : PySem.W.Frag} {T : Tb} {w : Wd} {o : HO} {d : D} (x : uW K T w o d) : d.own = true := by
 cases x <;> rfl
theorem uW.mono {K : PySem.W.Frag} {T : Tb} {w w' : Wd} {o : HO} {d : D} (l : w.le w') (x : uW K T w o d) : uW K T w' o d := by
 cases x with
 | lst r => exact .lst (r.mono l)
 | obj r => exact .obj (r.mono l)
theorem uW.fz {K : PySem.W.Frag} {T : Tb} {w w' : Wd} {o : HO} {d : D} {p : Addr} (l : w.le w') (e : w'.F p = some o) (x : uW K T w o d) : bQ K T w' (.ref p) d.fz := by
 cases x with
 | lst r => exact .fl e (r.mono l)
 | obj r => exact .obj e (r.mono l)
theorem Ma {K : PySem.W.Frag} {T : Tb} {w : Wd} {v : V} {d : D} (r : bQ K T w v d) : d.own = false := by
 cases r <;> rfl
theorem agP {K : PySem.W.Frag} {T : Tb} {w : Wd} {v : V} {d : D} (r : bQ K T w v d) : d.fz = d := by
 cases r <;> rfl
theorem yr {K : PySem.W.Frag} {T : Tb} {w : Wd} {v : V} {d : D} (o : d.own = true) (r : bQ K T w v d) : False := by
 rw [Ma r] at o
 cases o
theorem adp (d : D) : d.fz.own = false := by
 cases d <;> rfl
inductive Mg (K : PySem.W.Frag) (T : Tb) (B : Bs) (w : Wd) (H : Hp) : Option V → Option D → Prop where
 | none {v : Option V} : Mg K T B w H v none
 | val {v : V} {d : D} : bQ K T w v d → Mg K T B w H (some v) (some d)
 | own {p : Addr} {o : HO} {d : D} : Own B w p → H p = some o → uW K T w o d → Mg K T B w H (some (.ref p)) (some d)
inductive Cr (K : PySem.W.Frag) (T : Tb) (w : Wd) : HO → D → Prop where
 | lst {vs : List V} {ds : List D} : aF K T w vs ds → Cr K T w (.lst vs) (.nl ds)
 | obj {dx : Addr} {c : Nat} {vs : List V} {ds : List D} : aF K T w vs ds → Cr K T w (.ins (T.cad c) dx ((T.fld c).zip vs)) (.no c ds)
 | dct {ks : List (List Key)} {vs : List V} {ds : List D} : ks.length = ds.length → aF K T w vs ds → Cr K T w (.dT (ks.zip vs)) (.dc ks ds)
 | dkt {ks : List Key} {vs : List V} {ds : List D} : ks.length = ds.length → aF K T w vs ds → Cr K T w (.dK (ks.zip vs)) (.dk ks ds)
theorem uW.cel {K : PySem.W.Frag} {T : Tb} {w : Wd} {o : HO} {d : D} (x : uW K T w o d) : Cr K T w o d := by
 cases x with
 | lst r => exact .lst r
 | obj r => exact .obj r
theorem Cr.mono {K : PySem.W.Frag} {T : Tb} {w w' : Wd} {o : HO} {d : D} (l : w.le w') (x : Cr K T w o d) : Cr K T w' o d := by
 cases x with
 | lst r => exact .lst (r.mono l)
 | obj r => exact .obj (r.mono l)
 | dct h r => exact .dct h (r.mono l)
 | dkt h r => exact .dkt h (r.mono l)
def JH (K : PySem.W.Frag) (T : Tb) (w : Wd) (H : Hp) (a : Addr) (d : D) : Prop := ∃ o, H a = some o ∧ Cr K T w o d
def zF (σ : St) (fr : Fr) (i : Nat) (p : Addr) : Prop := σ[i]? = some (some (.ref p)) ∧ ∃ d, fr[i]? = some (some d) ∧ d.own = true
structure Rel (K : PySem.W.Frag) (T : Tb) (B : Bs) (w : Wd) (σ : St) (H : Hp) (fr : Fr) (h : Hh) : Prop where
 le : B.w0.le w
 nF : ∀ a, w.F a ≠ none → B.w0.F a ≠ none ∨ B.H0 a = none
 nI : ∀ a ∈ w.I, a ∈ B.w0.I ∨ B.H0 a = none
 keep : ∀ a o, B.H0 a = some o → a ∉ B.w0.I → H a = some o
 prot : ∀ q ∈ B.P, H q.1 = some q.2 ∧ w.F q.1 = none ∧ q.1 ∉ w.I
 sub : ∀ a o, w.F a = some o → H a = some o
 len : w.I.length = h.length
 nd : w.I.Nodup
 dis : ∀ a ∈ w.I, w.F a = none
 cel : ∀ (n : Nat) a c, w.I[n]? = some a → h[n]? = some c → JH K T w H a c
 fl : fr.length = σ.length
 sl : ∀ (i : Nat) s d, σ[i]? = some s → fr[i]? = some d → Mg K T B w H s d
 sep : ∀ i j p, i ≠ j → zF σ fr i p → zF σ fr j p → False
 me : ∀ x d, B.me = some x → fr[0]? = some (some d) → d.own = true → σ[0]? = some (some (.ref x))
section
variable {K : PySem.W.Frag} {T : Tb} {B : Bs} {w w' : Wd} {σ : St} {H H' : Hp} {fr : Fr} {h : Hh}
theorem Rel.nP (R : Rel K T B w σ H fr h) {p : Addr} (np : H p = none) : w.F p = none ∧ p ∉ w.I ∧ (∀ q ∈ B.P, q.1 ≠ p) := by
 refine ⟨?_, fun hm => ?_, fun q hq e => ?_⟩
 · cases e : w.F p with
   | none => rfl
   | some o =>
     have := R.sub p o e
     rw [np] at this
     cases this
 · obtain ⟨n, hn, e⟩ := List.getElem_of_mem hm
   have hl : n < h.length := by rw [← R.len]; exact hn
   obtain ⟨o, q, _⟩ := R.cel n p h[n] (by rw [aoc hn, e]) (aoc hl)
   rw [np] at q
   cases q
 · have z := (R.prot q hq).1
   rw [e, np] at z
   cases z
theorem Rel.iSome (R : Rel K T B w σ H fr h) {a : Addr} (hm : a ∈ w.I) : H a ≠ none := fun np => (R.nP np).2.1 hm
theorem JH.keep {a : Addr} {c : D} (x : w.le w') (e : H' a = H a) (z : JH K T w H a c) : JH K T w' H' a c := by
 obtain ⟨o, q, r⟩ := z
 exact ⟨o, by rw [e]; exact q, r.mono x⟩
theorem Rel.grow (R : Rel K T B w σ H fr h) (x : w.le w') (eI : w'.I = w.I) (hk : ∀ a o, H a = some o → H' a = some o) (hF : ∀ a o, w'.F a = some o → H' a = some o)
 (hn : ∀ a, w'.F a ≠ none → w.F a ≠ none ∨ H a = none) (he : ∀ a, H a = none → B.H0 a = none ∨ True) : Rel K T B w' σ H' fr h where
 le := Wd.le_trans R.le x
 nF := fun a ha => by
  rcases hn a ha with q | q
  · exact R.nF a q
  · right
    cases e : B.H0 a with
    | none => rfl
    | some o =>
      by_cases hm : a ∈ B.w0.I
      · exact absurd q (R.iSome (Wd.le_mem R.le hm))
      · have := R.keep a o e hm
        rw [q] at this
        cases this
 nI := fun a ha => R.nI a (by rw [← eI]; exact ha)
 keep := fun a o e hm => hk a o (R.keep a o e hm)
 prot := fun q hq => by
  obtain ⟨h1, h2, h3⟩ := R.prot q hq
  refine ⟨hk _ _ h1, ?_, by rw [eI]; exact h3⟩
  cases e : w'.F q.1 with
  | none => rfl
  | some o =>
    rcases hn q.1 (by rw [e]; simp) with z | z
    · exact absurd h2 z
    · rw [h1] at z
      cases z
 sub := hF
 len := by rw [eI]; exact R.len
 nd := by rw [eI]; exact R.nd
 dis := fun a ha => by
  have hm : a ∈ w.I := by rw [← eI]; exact ha
  cases e : w'.F a with
  | none => rfl
  | some o =>
    rcases hn a (by rw [e]; simp) with z | z
    · exact absurd (R.dis a hm) z
    · exact absurd z (R.iSome hm)
 cel := fun n a c e1 e2 => by
  have e1' : w.I[n]? = some a := by rw [← eI]; exact e1
  have z := R.cel n a c e1' e2
  refine JH.keep x ?_ z
  have hs := R.iSome (aop e1')
  cases q : H a with
  | none => exact absurd q hs
  | some o => exact hk a o q
 fl := R.fl
 sl := fun i s d e1 e2 => by
  have z := R.sl i s d e1 e2
  cases z with
  | none => exact .none
  | val r => exact .val (r.mono x)
  | own o e r =>
    refine .own ⟨?_, by rw [eI]; exact o.i, o.e, o.p⟩ (hk _ _ e) (r.mono x)
    cases q : w'.F _ with
    | none => rfl
    | some u =>
      rcases hn _ (by rw [q]; simp) with z | z
      · exact absurd o.f z
      · rw [e] at z
        cases z
 sep := R.sep
 me := R.me
def Wd.add (w : Wd) (p : Addr) (o : HO) : Wd := ⟨upd w.F p o, w.I⟩
theorem Wd.le_add {p : Addr} {o : HO} (e : w.F p = none) : w.le (w.add p o) :=
 ⟨fun a u h => by
  show upd w.F p o a = some u
  rw [upd_ne (ne_of_none h e)]
  exact h, [], by simp [Wd.add]⟩
theorem Rel.laid (R : Rel K T B w σ H fr h) {p : Addr} {o : HO} (np : H p = none) : Rel K T B (w.add p o) σ (upd H p o) fr h := by
 refine R.grow (Wd.le_add (R.nP np).1) rfl (fun a u e => ?_) (fun a u e => ?_) (fun a e => ?_) (fun _ _ => .inr trivial)
 · rw [upd_ne (ne_of_none e np)]
   exact e
 · have e' : upd w.F p o a = some u := e
   by_cases ha : a = p
   · subst ha
     rw [upd_same] at e' ⊢
     exact e'
   · rw [upd_ne ha] at e' ⊢
     exact R.sub a u e'
 · have e' : upd w.F p o a ≠ none := e
   by_cases ha : a = p
   · subst ha
     exact .inr np
   · rw [upd_ne ha] at e'
     exact .inl e'
theorem Rel.temp (R : Rel K T B w σ H fr h) {p : Addr} {o : HO} (np : H p = none) : Rel K T B w σ (upd H p o) fr h :=
 R.grow (Wd.le_refl w) rfl (fun a u e => by rw [upd_ne (ne_of_none e np)]; exact e) (fun a u e => by rw [upd_ne (ne_of_none (R.sub a u e) np)]; exact R.sub a u e) (fun a e => .inl e) (fun _ _ => .inr trivial)
theorem Rel.own_new (R : Rel K T B w σ H fr h) {p : Addr} (np : H p = none) : Own B w p := by
 obtain ⟨h1, h2, h3⟩ := R.nP np
 refine ⟨h1, h2, ?_, h3⟩
 cases e : B.H0 p with
 | none => rfl
 | some o =>
   by_cases hm : p ∈ B.w0.I
   · exact absurd np (R.iSome (Wd.le_mem R.le hm))
   · have := R.keep p o e hm
     rw [np] at this
     cases this
def zG (σ : St) (fr : Fr) (p : Addr) : Prop := ∀ i, ¬ zF σ fr i p
theorem Rel.loose_new (R : Rel K T B w σ H fr h) {p : Addr} (np : H p = none) : zG σ fr p := fun i ⟨e1, d, e2, od⟩ => by
 have z := R.sl i _ _ e1 e2
 cases z with
 | val r => exact yr od r
 | own o e r =>
   rw [np] at e
   cases e
theorem Rel.freeze (R : Rel K T B w σ H fr h) {p : Addr} {o : HO} (O : Own B w p) (l : zG σ fr p) (e : H p = some o) : Rel K T B (w.add p o) σ H fr h where
 le := Wd.le_trans R.le (Wd.le_add O.f)
 nF := fun a ha => by
  have e' : upd w.F p o a ≠ none := ha
  by_cases hp : a = p
  · subst hp
    exact .inr O.e
  · rw [upd_ne hp] at e'
    exact R.nF a e'
 nI := R.nI
 keep := R.keep
 prot := fun q hq => by
  obtain ⟨h1, h2, h3⟩ := R.prot q hq
  refine ⟨h1, ?_, h3⟩
  show upd w.F p o q.1 = none
  rw [upd_ne (O.p q hq)]
  exact h2
 sub := fun a u ha => by
  have e' : upd w.F p o a = some u := ha
  by_cases hp : a = p
  · subst hp
    rw [upd_same] at e'
    rw [← e']
    exact e
  · rw [upd_ne hp] at e'
    exact R.sub a u e'
 len := R.len
 nd := R.nd
 dis := fun a ha => by
  show upd w.F p o a = none
  have hne : a ≠ p := fun z => O.i (by rw [← z]; exact ha)
  rw [upd_ne hne]
  exact R.dis a ha
 cel := fun n a c e1 e2 => JH.keep (Wd.le_add O.f) rfl (R.cel n a c e1 e2)
 fl := R.fl
 sl := fun i s d e1 e2 => by
  have z := R.sl i s d e1 e2
  cases z with
  | none => exact .none
  | val r => exact .val (r.mono (Wd.le_add O.f))
  | @own q _ _ o' e' r =>
    refine .own ⟨?_, o'.i, o'.e, o'.p⟩ e' (r.mono (Wd.le_add O.f))
    show upd w.F p o q = none
    have hne : q ≠ p := fun z => l i ⟨by rw [← z]; exact e1, _, e2, r.own⟩
    rw [upd_ne hne]
    exact o'.f
 sep := R.sep
 me := R.me
theorem O9 {σ : St} {fr : Fr} {i j : Nat} {s : Option V} {d : Option D} {p : Addr} (hi : i ≠ j) (o : zF (σ.set j s) (fr.set j d) i p) : zF σ fr i p := by
 obtain ⟨e1, dd, e2, od⟩ := o
 rw [aoq (Ne.symm hi)] at e1 e2
 exact ⟨e1, dd, e2, od⟩
theorem Rel.set_slot (R : Rel K T B w σ H fr h) {i : Nat} {s : Option V} {d : Option D} (r : Mg K T B w H s d) (hp : ∀ p d', s = some (.ref p) → d = some d' → d'.own = true → zG σ fr p) (hm : i = 0 → ∀ d', d = some d' → d'.own = false) : Rel K T B w (σ.set i s) H (fr.set i d) h :=
 { R with
   me := fun x d' bx e od => by
    by_cases hi : i = 0
    · subst hi
      have l2 : 0 < fr.length := by
       have := (List.getElem?_eq_some_iff.mp e).1
       rwa [aou] at this
      rw [aor l2] at e
      rw [hm rfl d' (Option.some.inj e)] at od
      cases od
    · rw [aoq hi] at e ⊢
      exact R.me x d' bx e od
   fl := by rw [aou, aou]; exact R.fl
   sl := fun j s' d' e1 e2 => by
    by_cases hj : i = j
    · subst hj
      have l1 : i < σ.length := by
       have := (List.getElem?_eq_some_iff.mp e1).1
       rwa [aou] at this
      rw [aor l1] at e1
      rw [aor (by rw [R.fl]; exact l1)] at e2
      cases e1
      cases e2
      exact r
    · rw [aoq hj] at e1 e2
      exact R.sl j s' d' e1 e2
   sep := fun a b p hab o1 o2 => by
    have key : ∀ a b, a ≠ b → a = i → zF (σ.set i s) (fr.set i d) a p → zF (σ.set i s) (fr.set i d) b p → False := fun a b hab ha o1 o2 => by
     subst ha
     have o2' := O9 (Ne.symm hab) o2
     obtain ⟨e1, dd, e2, od⟩ := o1
     have l1 : a < σ.length := by
      have := (List.getElem?_eq_some_iff.mp e1).1
      rwa [aou] at this
     rw [aor l1] at e1
     rw [aor (by rw [R.fl]; exact l1)] at e2
     cases e1
     cases e2
     exact hp p dd rfl rfl od b o2'
    by_cases ha : a = i
    · exact key a b hab ha o1 o2
    · by_cases hb : b = i
      · exact key b a (Ne.symm hab) hb o2 o1
      · exact R.sep a b p hab (O9 ha o1) (O9 hb o2) }
theorem Rel.drop_slot (R : Rel K T B w σ H fr h) (i : Nat) : Rel K T B w σ H (fr.set i none) h :=
 { R with
   me := fun x d' bx e od => by
    by_cases hi : i = 0
    · subst hi
      have l2 : 0 < fr.length := by
       have := (List.getElem?_eq_some_iff.mp e).1
       rwa [aou] at this
      rw [aor l2] at e
      cases e
    · rw [aoq hi] at e
      exact R.me x d' bx e od
   fl := by rw [aou]; exact R.fl
   sl := fun j s' d' e1 e2 => by
    by_cases hj : i = j
    · subst hj
      have l2 : i < fr.length := by
       have := (List.getElem?_eq_some_iff.mp e2).1
       rwa [aou] at this
      rw [aor l2] at e2
      cases e2
      exact .none
    · rw [aoq hj] at e2
      exact R.sl j s' d' e1 e2
   sep := fun a b p hab o1 o2 => by
    have key : ∀ a, zF σ (fr.set i none) a p → zF σ fr a p := fun a o => by
     obtain ⟨e1, dd, e2, od⟩ := o
     by_cases ha : i = a
     · subst ha
       have l2 : i < fr.length := by
        have := (List.getElem?_eq_some_iff.mp e2).1
        rwa [aou] at this
       rw [aor l2] at e2
       cases e2
     · rw [aoq ha] at e2
       exact ⟨e1, dd, e2, od⟩
    exact R.sep a b p hab (key a o1) (key b o2) }
theorem Rel.freeze_slot (R : Rel K T B w σ H fr h) {i : Nat} {d : D} (e : fr[i]? = some (some d)) (od : d.own = true) :
 ∃ p o, σ[i]? = some (some (.ref p)) ∧ H p = some o ∧ uW K T w o d ∧ w.F p = none ∧ Rel K T B (w.add p o) σ H (fr.set i (some d.fz)) h := by
 have l2 : i < fr.length := (List.getElem?_eq_some_iff.mp e).1
 have l1 : i < σ.length := by rw [← R.fl]; exact l2
 have e1 : σ[i]? = some σ[i] := aoc l1
 have z := R.sl i _ _ e1 e
 generalize hs : σ[i] = s at z e1
 cases z with
 | val r => exact (yr od r).elim
 | @own p o _ O eH r =>
   refine ⟨p, o, e1, eH, r, O.f, ?_⟩
   have R1 := R.drop_slot i
   have lo : zG σ (fr.set i none) p := fun j q => by
    obtain ⟨q1, dq, q2, oq⟩ := q
    by_cases hj : i = j
    · subst hj
      rw [aor l2] at q2
      cases q2
    · rw [aoq hj] at q2
      exact R.sep i j p hj ⟨e1, d, e, od⟩ ⟨q1, dq, q2, oq⟩
   have R2 := R1.freeze O lo eH
   have R3 := R2.set_slot (i := i) (s := some (.ref p)) (d := some d.fz) (.val (r.fz (Wd.le_add O.f) (by show upd w.F p _ p = _; rw [upd_same]))) (fun _ _ _ q oq => by
    cases q
    rw [adp] at oq
    cases oq) (fun _ d' q => by
    cases q
    exact adp d)
   rw [List.set_set] at R3
   have es : σ.set i (some (.ref p)) = σ := by
    have := List.set_getElem_self (as := σ) (h := l1)
    rw [hs] at this
    exact this
   rw [es] at R3
   exact R3
theorem Zu {α : Type} : ∀ {l : List α} {i j : Nat} {a : α}, l.Nodup → l[i]? = some a → l[j]? = some a → i = j
 | [], _, _, _, _, e, _ => by simp at e
 | b :: l, 0, 0, _, _, _, _ => rfl
 | b :: l, 0, j + 1, a, n, e1, e2 => by
   simp at e1 e2
   subst e1
   exact absurd (aop e2) (List.nodup_cons.mp n).1
 | b :: l, i + 1, 0, a, n, e1, e2 => by
   simp at e1 e2
   subst e2
   exact absurd (aop e1) (List.nodup_cons.mp n).1
 | b :: l, i + 1, j + 1, a, n, e1, e2 => by
   simp at e1 e2
   rw [Zu (List.nodup_cons.mp n).2 e1 e2]
theorem Rel.change_slot (R : Rel K T B w σ H fr h) {i : Nat} {d d' : D} {p : Addr} {o o' : HO} (e1 : σ[i]? = some (some (.ref p))) (e : fr[i]? = some (some d)) (O : Own B w p) (eH : H p = some o) (od : d.own = true) (r' : uW K T w o' d') :
 Rel K T B w σ (upd H p o') (fr.set i (some d')) h := by
 have l2 : i < fr.length := (List.getElem?_eq_some_iff.mp e).1
 have l1 : i < σ.length := by rw [← R.fl]; exact l2
 refine { R with keep := fun a u ha hm => ?_, prot := fun q hq => ?_, sub := fun a u ha => ?_, cel := fun n a c q1 q2 => ?_, fl := by rw [aou]; exact R.fl, sl := fun j s dj q1 q2 => ?_, sep := fun a b q hab o1 o2 => ?_, me := fun x dx bx q od' => ?_ }
 · rw [upd_ne (fun z => by rw [z, O.e] at ha; cases ha)]
   exact R.keep a u ha hm
 · obtain ⟨h1, h2, h3⟩ := R.prot q hq
   exact ⟨by rw [upd_ne (O.p q hq)]; exact h1, h2, h3⟩
 · rw [upd_ne (fun z => by rw [z, O.f] at ha; cases ha)]
   exact R.sub a u ha
 · refine JH.keep (Wd.le_refl w) ?_ (R.cel n a c q1 q2)
   exact upd_ne (fun z => O.i (z ▸ aop q1))
 · by_cases hj : i = j
   · subst hj
     rw [e1] at q1
     rw [aor l2] at q2
     cases q1
     cases q2
     exact .own O upd_same r'
   · rw [aoq hj] at q2
     have z := R.sl j s dj q1 q2
     cases z with
     | none => exact .none
     | val r => exact .val r
     | @own q u _ O' eH' rr =>
       refine .own O' ?_ rr
       have hne : q ≠ p := fun z => R.sep i j p hj ⟨e1, d, e, od⟩ ⟨by rw [← z]; exact q1, _, q2, rr.own⟩
       rw [upd_ne hne]
       exact eH'
 · have key : ∀ a, zF σ (fr.set i (some d')) a q → zF σ fr a q := fun a ⟨q1, dq, q2, oq⟩ => by
    by_cases ha : i = a
    · subst ha
      exact ⟨q1, d, e, od⟩
    · rw [aoq ha] at q2
      exact ⟨q1, dq, q2, oq⟩
   exact R.sep a b q hab (key a o1) (key b o2)
 · by_cases hi : i = 0
   · subst hi
     exact R.me x d bx e od
   · rw [aoq hi] at q
     exact R.me x dx bx q od'
theorem Rel.change_cell (R : Rel K T B w σ H fr h) {n : Nat} {a : Addr} {d d' : D} {o' : HO} (e1 : w.I[n]? = some a) (e : h[n]? = some d) (r' : Cr K T w o' d') : Rel K T B w σ (upd H a o') fr (h.set n d') := by
 have hm : a ∈ w.I := aop e1
 have lh : n < h.length := (List.getElem?_eq_some_iff.mp e).1
 refine { R with keep := fun b u hb hn => ?_, prot := fun q hq => ?_, sub := fun b u hb => ?_, len := by rw [aou]; exact R.len, cel := fun k b c q1 q2 => ?_, sl := fun j s dj q1 q2 => ?_ }
 · rw [upd_ne (fun z => by
    subst z
    rcases R.nI _ hm with q | q
    · exact hn q
    · rw [q] at hb
      cases hb)]
   exact R.keep b u hb hn
 · obtain ⟨h1, h2, h3⟩ := R.prot q hq
   have hne : q.1 ≠ a := fun z => h3 (by rw [z]; exact hm)
   exact ⟨by rw [upd_ne hne]; exact h1, h2, h3⟩
 · rw [upd_ne (fun z => by rw [z, R.dis a hm] at hb; cases hb)]
   exact R.sub b u hb
 · by_cases hk : n = k
   · subst hk
     rw [e1] at q1
     rw [aor lh] at q2
     cases q1
     cases q2
     exact ⟨o', upd_same, r'⟩
   · rw [aoq hk] at q2
     refine JH.keep (Wd.le_refl w) (upd_ne fun z => ?_) (R.cel k b c q1 q2)
     subst z
     exact hk (Zu R.nd e1 q1)
 · have z := R.sl j s dj q1 q2
   cases z with
   | none => exact .none
   | val r => exact .val r
   | @own q u _ O' eH' rr =>
     have hne : q ≠ a := fun z => O'.i (by rw [z]; exact hm)
     exact .own O' (by rw [upd_ne hne]; exact eH') rr
theorem Rel.to_cellO (R : Rel K T B w σ H fr h) {p : Addr} {o : HO} {d : D} (O : Own B w p) (lo : zG σ fr p) (e : H p = some o) (r : Cr K T w o d) : Rel K T B ⟨w.F, w.I ++ [p]⟩ σ H fr (h ++ [d]) := by
 have le : w.le ⟨w.F, w.I ++ [p]⟩ := ⟨fun _ _ q => q, [p], rfl⟩
 refine ⟨Wd.le_trans R.le le, R.nF, fun a ha => ?_, R.keep, fun q hq => ?_, R.sub, ?_, ?_, fun a ha => ?_, fun n a c q1 q2 => ?_, R.fl, fun j s dj q1 q2 => ?_, R.sep, R.me⟩
 · rcases List.mem_append.mp ha with q | q
   · exact R.nI a q
   · rw [aot] at q
     subst q
     exact .inr O.e
 · obtain ⟨h1, h2, h3⟩ := R.prot q hq
   refine ⟨h1, h2, fun z => ?_⟩
   rcases List.mem_append.mp z with y | y
   · exact h3 y
   · rw [aot] at y
     exact O.p q hq y
 · show (w.I ++ [p]).length = (h ++ [d]).length
   rw [an9, an9, R.len]
   rfl
 · show (w.I ++ [p]).Nodup
   rw [List.nodup_append]
   exact ⟨R.nd, by simp, fun a ha b hb => by
    rw [aot] at hb
    subst hb
    exact fun z => O.i (z ▸ ha)⟩
 · rcases List.mem_append.mp ha with q | q
   · exact R.dis a q
   · rw [aot] at q
     subst q
     exact O.f
 · have q1' : (w.I ++ [p])[n]? = some a := q1
   by_cases hn : n < w.I.length
   · rw [aox hn] at q1'
     rw [aox (by rw [← R.len]; exact hn)] at q2
     exact JH.keep le rfl (R.cel n a c q1' q2)
   · have hn' : w.I.length ≤ n := Nat.le_of_not_lt hn
     rw [aow hn'] at q1'
     rw [aow (by rw [← R.len]; exact hn'), ← R.len] at q2
     cases k : n - w.I.length with
     | zero =>
       rw [k] at q1' q2
       cases q1'
       cases q2
       exact ⟨o, e, r.mono le⟩
     | succ m =>
       rw [k] at q1'
       simp at q1'
 · have z := R.sl j s dj q1 q2
   cases z with
   | none => exact .none
   | val r => exact .val (r.mono le)
   | @own q u _ O' eH' rr =>
     refine .own ⟨O'.f, fun z => ?_, O'.e, O'.p⟩ eH' (rr.mono le)
     rcases List.mem_append.mp z with y | y
     · exact O'.i y
     · rw [aot] at y
       exact lo j ⟨by rw [← y]; exact q1, _, q2, rr.own⟩
theorem Rel.to_cell (R : Rel K T B w σ H fr h) {p : Addr} {o : HO} {d : D} (O : Own B w p) (lo : zG σ fr p) (e : H p = some o) (r : uW K T w o d) : Rel K T B ⟨w.F, w.I ++ [p]⟩ σ H fr (h ++ [d]) := R.to_cellO O lo e r.cel
theorem U8 {i : Nat} {p : Addr} : ¬ zF [] [] i p := fun ⟨q, _⟩ => by simp at q
theorem Rel.enter (R : Rel K T B w σ H fr h) : Rel K T (Bs.of w H) w [] H [] h where
 le := Wd.le_refl w
 nF := fun _ q => .inl q
 nI := fun _ q => .inl q
 keep := fun _ _ q _ => q
 prot := fun _ q => by cases q
 sub := R.sub
 len := R.len
 nd := R.nd
 dis := R.dis
 cel := R.cel
 fl := rfl
 sl := fun _ _ _ q => by simp at q
 sep := fun _ _ _ _ q => (U8 q).elim
 me := fun _ _ _ q _ => by simp at q
theorem Rel.unframe (R : Rel K T B w σ H fr h) : Rel K T B w [] H [] h where
 le := R.le
 nF := R.nF
 nI := R.nI
 keep := R.keep
 prot := R.prot
 sub := R.sub
 len := R.len
 nd := R.nd
 dis := R.dis
 cel := R.cel
 fl := rfl
 sl := fun _ _ _ q => by simp at q
 sep := fun _ _ _ _ q => (U8 q).elim
 me := fun _ _ _ q _ => by simp at q
theorem Rel.back {h' : Hh} (R : Rel K T B w σ H fr h) (x : w.le w') (C : Rel K T (Bs.of w H) w' [] H' [] h') : Rel K T B w' σ H' fr h' where
 le := Wd.le_trans R.le x
 nF := fun a ha => by
  rcases C.nF a ha with q | q
  · exact R.nF a q
  · exact .inr (R.own_new q).e
 nI := fun a ha => by
  rcases C.nI a ha with q | q
  · exact R.nI a q
  · exact .inr (R.own_new q).e
 keep := fun a o e hm => C.keep a o (R.keep a o e hm) fun z => by
  rcases R.nI a z with q | q
  · exact hm q
  · rw [q] at e
    cases e
 prot := fun q hq => by
  obtain ⟨h1, h2, h3⟩ := R.prot q hq
  refine ⟨C.keep _ _ h1 h3, ?_, fun z => ?_⟩
  · cases e : w'.F q.1 with
    | none => rfl
    | some o =>
      rcases C.nF q.1 (by rw [e]; simp) with y | y
      · exact absurd h2 y
      · have y' : H q.1 = none := y
        rw [h1] at y'
        cases y'
  · rcases C.nI _ z with y | y
    · exact h3 y
    · have y' : H q.1 = none := y
      rw [h1] at y'
      cases y'
 sub := C.sub
 len := C.len
 nd := C.nd
 dis := C.dis
 cel := C.cel
 fl := R.fl
 sl := fun i s d e1 e2 => by
  have z := R.sl i s d e1 e2
  cases z with
  | none => exact .none
  | val r => exact .val (r.mono x)
  | @own p o _ O eH rr =>
    refine .own ⟨?_, fun z => ?_, O.e, O.p⟩ (C.keep _ _ eH O.i) (rr.mono x)
    · cases e : w'.F p with
      | none => rfl
      | some o =>
        rcases C.nF p (by rw [e]; simp) with y | y
        · exact absurd O.f y
        · have y' : H p = none := y
          rw [eH] at y'
          cases y'
    · rcases C.nI _ z with y | y
      · exact O.i y
      · have y' : H p = none := y
        rw [eH] at y'
        cases y'
 sep := R.sep
 me := R.me
end
end Pk
namespace Pk
open PySem PySem.Spec L2
structure aP where
 c : Nat
 fs : List D
inductive R (α : Type) where
 | ok (a : α) (fr : Fr) (h : Hh)
 | exc (x : aP) (fr : Fr) (h : Hh)
 | err
abbrev M (α : Type) := Fr → Hh → R α
def M.ret {α : Type} (a : α) : M α := fun fr h => .ok a fr h
def M.bind {α β : Type} (m : M α) (f : α → M β) : M β := fun fr h => match m fr h with
 | .ok a fr h => f a fr h
 | .exc x fr h => .exc x fr h
 | .err => .err
def M.opt {α : Type} (o : Option α) : M α := fun fr h => match o with
 | some a => .ok a fr h
 | none => .err
@[simp] theorem M.bind_ret {α β : Type} (a : α) (f : α → M β) : (M.ret a).bind f = f a := rfl
@[simp] theorem M.ret_ap {α : Type} (a : α) (fr : Fr) (h : Hh) : M.ret a fr h = .ok a fr h := rfl
@[simp] theorem M.opt_some {α : Type} (a : α) (fr : Fr) (h : Hh) : M.opt (some a) fr h = .ok a fr h := rfl
@[simp] theorem M.opt_none {α : Type} (fr : Fr) (h : Hh) : M.opt (none : Option α) fr h = .err := rfl
theorem M.bind_ok {α β : Type} {m : M α} {f : α → M β} {fr fr1 : Fr} {h h1 : Hh} {a : α} (e : m fr h = .ok a fr1 h1) : m.bind f fr h = f a fr1 h1 := by
 unfold M.bind
 rw [e]
theorem M.bind_exc {α β : Type} {m : M α} {f : α → M β} {fr fr1 : Fr} {h h1 : Hh} {x : aP} (e : m fr h = .exc x fr1 h1) : m.bind f fr h = .exc x fr1 h1 := by
 unfold M.bind
 rw [e]
theorem M.bind_err {α β : Type} {m : M α} {f : α → M β} {fr : Fr} {h : Hh} (e : m fr h = .err) : m.bind f fr h = .err := by
 unfold M.bind
 rw [e]
def W3 (K : PySem.W.Frag) (T : Tb) (w : Wd) (x : aP) (cls : Value) (dd : Option Addr) : Prop :=
 cls = .ref (T.cad x.c) ∧ ((x.fs = [] ∧ dd = none) ∨ ∃ d vs, dd = some d ∧ w.F d = some (.xd ((T.fld x.c).zip vs)) ∧ aF K T w vs x.fs)
section
variable {α β : Type}
def aO (K : PySem.W.Frag) (T : Tb) (B : Bs) (W : WX) (VR : Wd → Hp → Fr → β → α → Prop) (w : Wd) (σ : L2.St) (r : R α) (Q : β → Hp → Prop) : Prop :=
 match r with
 | .ok d fr h => ∀ w' H' v, w.le w' → Rel K T B w' σ H' fr h → VR w' H' fr v d → Q v H'
 | .exc x fr h => ∀ w' H' cls dd, w.le w' → Rel K T B w' σ H' fr h → W3 K T w' x cls dd → W cls dd σ H'
 | .err => False
end
abbrev jY (β α : Type) := PySem.W.Frag → Tb → Bs → L2.St → Wd → Hp → Fr → β → α → Prop
def vV : jY V D := fun K T _ _ w _ _ v d => bQ K T w v d
def vE : jY V D := fun K T B σ w H fr v d => bQ K T w v d ∨ ∃ p o, v = .ref p ∧ Own B w p ∧ zG σ fr p ∧ H p = some o ∧ uW K T w o d
def vO : jY V D := fun K T _ _ w H _ v d => bQ K T w v d ∨ ∃ p o, v = .ref p ∧ H p = some o ∧ uW K T w o d
def vB : jY Bool Bool := fun _ _ _ _ _ _ _ b c => b = c
def vA : jY (List V) (List D) := fun K T _ _ w _ _ vs ds => aF K T w vs ds
def iT {α β : Type} (run : L2.St → Hp → (β → Hp → Prop) → Prop) (K : PySem.W.Frag) (T : Tb) (W : WX) (VR : jY β α) (m : M α) : Prop :=
 ∀ (B : Bs) (w : Wd) (σ : L2.St) (H : Hp) (fr : Fr) (h : Hh) (Q : β → Hp → Prop), Rel K T B w σ H fr h → aO K T B W (VR K T B σ) w σ (m fr h) Q → run σ H Q
section
variable {α β γ δ : Type} {K : PySem.W.Frag} {T : Tb} {B : Bs} {W : WX} {w w' : Wd} {σ : L2.St} {H : Hp}
theorem aO.le {VR : Wd → Hp → Fr → β → α → Prop} {r : R α} {Q : β → Hp → Prop} (x : w.le w') (p : aO K T B W VR w σ r Q) : aO K T B W VR w' σ r Q := by
 cases r with
 | ok d fr h => exact fun w2 H2 v y => p w2 H2 v (Wd.le_trans x y)
 | exc e fr h => exact fun w2 H2 c d y => p w2 H2 c d (Wd.le_trans x y)
 | err => exact p
theorem aO.imp {VR : Wd → Hp → Fr → β → α → Prop} {r : R α} {Q Q' : β → Hp → Prop} (p : aO K T B W VR w σ r Q) (hq : ∀ v H, Q v H → Q' v H) : aO K T B W VR w σ r Q' := by
 cases r with
 | ok d fr h => exact fun w2 H2 v y r z => hq _ _ (p w2 H2 v y r z)
 | exc e fr h => exact p
 | err => exact p
theorem aO.bind {VR : Wd → Hp → Fr → γ → δ → Prop} {VR' : Wd → Hp → Fr → β → α → Prop} {m : M δ} {f : δ → M α} {fr : Fr} {h : Hh} {Q : β → Hp → Prop} {Q' : γ → Hp → Prop} (p : aO K T B W VR' w σ (m.bind f fr h) Q)
 (k : ∀ d fr1 h1 w1 H1 v, m fr h = .ok d fr1 h1 → w.le w1 → Rel K T B w1 σ H1 fr1 h1 → VR w1 H1 fr1 v d → aO K T B W VR' w1 σ (f d fr1 h1) Q → Q' v H1) : aO K T B W VR w σ (m fr h) Q' := by
 cases e : m fr h with
 | ok d fr1 h1 =>
   rw [M.bind_ok e] at p
   exact fun w1 H1 v x r z => k d fr1 h1 w1 H1 v e x r z (p.le x)
 | exc y fr1 h1 =>
   rw [M.bind_exc e] at p
   exact p
 | err =>
   rw [M.bind_err e] at p
   exact p
theorem iT.bind {run1 : L2.St → Hp → (γ → Hp → Prop) → Prop} {run2 : γ → L2.St → Hp → (β → Hp → Prop) → Prop} {VR1 : jY γ δ} {VR : jY β α} {m : M δ} {f : δ → M α} (s1 : iT run1 K T W VR1 m)
 (s2 : ∀ B w σ H fr h d v Q, Rel K T B w σ H fr h → VR1 K T B σ w H fr v d → aO K T B W (VR K T B σ) w σ (f d fr h) Q → run2 v σ H Q) :
 iT (fun σ H Q => run1 σ H fun v H1 => run2 v σ H1 Q) K T W VR (m.bind f) := fun B w σ H fr h Q r p =>
 s1 B w σ H fr h _ r (p.bind fun d fr1 h1 w1 H1 v e x r1 z p1 => s2 B w1 σ H1 fr1 h1 d v Q r1 z p1)
end
structure WE (X : Cx) (e : Expr) (σ : L2.St) (H : Hp) (Q : VK) : Prop where
 go : ∀ pins s, Inv X pins σ H s → wpAny (model X.prog X.w) X.A (eval e X.env) (EP X pins σ Q) X.xe s
structure WT (X : Cx) (e : Expr) (σ : L2.St) (H : Hp) (Q : Bool → Hp → Prop) : Prop where
 go : ∀ pins s, Inv X pins σ H s → wpAny (model X.prog X.w) X.A (isTrue e X.env (eval e X.env)) (TP X pins σ Q) X.xe s
structure WW (X : Cx) (e : Expr) (σ : L2.St) (H : Hp) (Q : Bool → Hp → Prop) : Prop where
 go : ∀ whole pins s, Inv X pins σ H s → wpAny (model X.prog X.w) X.A (isTrue e X.env whole) (TP X pins σ Q) X.xe s
structure WA (X : Cx) (es : List Expr) (σ : L2.St) (H : Hp) (Q : List V → Hp → Prop) : Prop where
 go : ∀ pos pins s, Inv X pins σ H s → wpAny (model X.prog X.w) X.A (spliced (backTo pos (starEach es X.env))) (AP X pins σ Q) X.xe s
structure WS (X : Cx) (st : Stmt) (D : Ends) (σ : L2.St) (H : Hp) : Prop where
 go : ∀ pins s, Inv X pins σ H s → wpAny (model X.prog X.w) X.A (exec st X.env) (SP X pins D) X.xe s
structure Zv (X : Cx) (st : List Stmt) (D : Ends) (σ : L2.St) (H : Hp) : Prop where
 go : ∀ pins s, Inv X pins σ H s → wpAny (model X.prog X.w) X.A (execs st X.env) (SP X pins D) X.xe s
def rM (X : Cx) (f : Value → Value → Sem Value) : R2 := fun x y H Q => ∀ pins s σ v u, Inv X pins σ H s → RelV x v → RelV y u → wpAny (model X.prog X.w) X.A (f v u) (EP X pins σ Q) X.xe s
def uM (X : Cx) (f : Value → Sem Value) : V → Hp → VK → Prop := fun x H Q => ∀ pins s σ v, Inv X pins σ H s → RelV x v → wpAny (model X.prog X.w) X.A (f v) (EP X pins σ Q) X.xe s
def cM (X : Cx) (f : Value) : List V → Hp → VK → Prop := fun xs H Q => ∀ pins s σ us, Inv X pins σ H s → Vals xs us → wpAny (model X.prog X.w) X.A (call f us) (EP X pins σ Q) X.xe s
section
variable {X : Cx} {e : Expr} {es : List Expr} {st : Stmt} {sts : List Stmt}
theorem bF : PE X e (WE X e) := ⟨fun pins s σ H Q I h => h.go pins s I⟩
theorem Eu : PT X e (WT X e) := ⟨fun pins s σ H Q I h => h.go pins s I⟩
theorem Zw : PW X e (WW X e) := ⟨fun wh pins s σ H Q I h => h.go wh pins s I⟩
theorem Pa : PA X es (WA X es) := ⟨fun pos pins s σ H Q I h => h.go pos pins s I⟩
theorem adq : PS X st (WS X st) := ⟨fun pins s σ H D I h => h.go pins s I⟩
theorem Ab : PSs X sts (Zv X sts) := ⟨fun pins s σ H D I h => h.go pins s I⟩
theorem eG {t : TE} (p : PE X e t) {σ : L2.St} {H : Hp} {Q : VK} (h : t σ H Q) : WE X e σ H Q := ⟨fun pins s I => p.run pins s σ H Q I h⟩
theorem Rk {t : TT} (p : PT X e t) {σ : L2.St} {H : Hp} {Q : Bool → Hp → Prop} (h : t σ H Q) : WT X e σ H Q := ⟨fun pins s I => p.run pins s σ H Q I h⟩
theorem Zf {t : TT} (p : PW X e t) {σ : L2.St} {H : Hp} {Q : Bool → Hp → Prop} (h : t σ H Q) : WW X e σ H Q := ⟨fun wh pins s I => p.run wh pins s σ H Q I h⟩
theorem Zg {t : TA} (p : PA X es t) {σ : L2.St} {H : Hp} {Q : List V → Hp → Prop} (h : t σ H Q) : WA X es σ H Q := ⟨fun pos pins s I => p.run pos pins s σ H Q I h⟩
theorem wV {t : TS} (p : PS X st t) {D : Ends} {σ : L2.St} {H : Hp} (h : t D σ H) : WS X st D σ H := ⟨fun pins s I => p.run pins s σ H D I h⟩
theorem W4 {t : TS} (p : PSs X sts t) {D : Ends} {σ : L2.St} {H : Hp} (h : t D σ H) : Zv X sts D σ H := ⟨fun pins s I => p.run pins s σ H D I h⟩
theorem yW {f : Value → Value → Sem Value} : OpR X f (rM X f) := fun pins s σ H x y v u Q I rx ry h => h pins s σ v u I rx ry
theorem sE {f : Value → Value → Sem Value} {r : R2} (o : OpR X f r) {x y : V} {H : Hp} {Q : VK} (h : r x y H Q) : rM X f x y H Q := fun pins s σ v u I rx ry => o pins s σ H x y v u Q I rx ry h
theorem aip {f : Value → Sem Value} : UnR X f (uM X f) := fun pins s σ H x v Q I rx h => h pins s σ v I rx
theorem ajW {f : Value → Sem Value} {r : V → Hp → VK → Prop} (o : UnR X f r) {x : V} {H : Hp} {Q : VK} (h : r x H Q) : uM X f x H Q := fun pins s σ v I rx => o pins s σ H x v Q I rx h
theorem Mh {f : Value} : CallR X f (cM X f) := fun pins s σ H xs us Q I r h => h pins s σ us I r
theorem jQ {f : Value} {r : List V → Hp → VK → Prop} (o : CallR X f r) {xs : List V} {H : Hp} {Q : VK} (h : r xs H Q) : cM X f xs H Q := fun pins s σ us I rr => o pins s σ H xs us Q I rr h
end
abbrev ph (X : Cx) (T : Tb) (W : WX) (e : Expr) (m : M D) : Prop := iT (WE X e) X.K T W vE m
abbrev aY (X : Cx) (T : Tb) (W : WX) (e : Expr) (m : M D) : Prop := iT (WE X e) X.K T W vV m
abbrev Ar (X : Cx) (T : Tb) (W : WX) (e : Expr) (m : M Bool) : Prop := iT (WT X e) X.K T W vB m
abbrev Tw (X : Cx) (T : Tb) (W : WX) (e : Expr) (m : M Bool) : Prop := iT (WW X e) X.K T W vB m
abbrev Mi (X : Cx) (T : Tb) (W : WX) (es : List Expr) (m : M (List D)) : Prop := iT (WA X es) X.K T W vA m
abbrev JK (X : Cx) (T : Tb) (W : WX) (e : Expr) (m : M D) : Prop := iT (WE X e) X.K T W vO m
def aX (m : M D) : M D := m.bind fun d => M.ret d.fz
def mC (d : D) : M D := M.ret d
def aa (i : Nat) : M D := fun fr h => match fr[i]? with
 | some (some d) => if d.own then .ok d.fz (fr.set i (some d.fz)) h else .ok d fr h
 | _ => .err
def sG (i : Nat) : M D := fun fr h => match fr[i]? with
 | some (some d) => .ok d (fr.set i none) h
 | _ => .err
def au (i : Nat) : M D := fun fr h => match fr[i]? with
 | some (some d) => .ok d fr h
 | _ => .err
section
variable {X : Cx} {T : Tb} {W : WX} {e a b c : Expr} {es : List Expr} {m ma mb mc : M D} {pos : Pos}
theorem W6 {α β : Type} {run : L2.St → Hp → (β → Hp → Prop) → Prop} {K : PySem.W.Frag} {VR VR' : jY β α} {m : M α} (s : iT run K T W VR m) (h : ∀ B σ w H fr v d, VR K T B σ w H fr v d → VR' K T B σ w H fr v d) : iT run K T W VR' m :=
 fun B w σ H fr hh Q r p => s B w σ H fr hh Q r (by
  cases q : m fr hh with
  | ok d fr1 h1 =>
    rw [q] at p
    exact fun w1 H1 v x r1 z => p w1 H1 v x r1 (h _ _ _ _ _ _ _ z)
  | exc y fr1 h1 => rw [q] at p; exact p
  | err => rw [q] at p; exact p)
theorem dG (s : aY X T W e m) : ph X T W e m := W6 s fun _ _ _ _ _ _ _ z => .inl z
theorem d9 (s : aY X T W e m) : JK X T W e m := W6 s fun _ _ _ _ _ _ _ z => .inl z
theorem gq (s : ph X T W e m) : JK X T W e m := W6 s fun _ _ _ _ _ _ _ z => by
 rcases z with z | ⟨p, o, e1, _, _, e2, r⟩
 · exact .inl z
 · exact .inr ⟨p, o, e1, e2, r⟩
theorem bH (s : ph X T W e m) : aY X T W e (aX m) := fun B w σ H fr h Q r p => s B w σ H fr h Q r (by
 refine aO.bind (VR := vE X.K T B σ) p fun d fr1 h1 w1 H1 v eq x r1 z p1 => ?_
 rcases z with z | ⟨p', o, rfl, O, lo, eH, rd⟩
 · rw [agP z] at p1
   exact p1 w1 H1 v (Wd.le_refl _) r1 z
 · exact p1 (w1.add p' o) H1 (.ref p') (Wd.le_add O.f) (r1.freeze O lo eH) (rd.fz (Wd.le_add O.f) (by show upd w1.F p' _ p' = _; rw [upd_same])))
theorem aH {i : Int} {j : Nat} : aY X T W (.Constant (.int i) j pos) (mC (.int i)) := fun B w σ H fr h Q r p => eG pe_int (p w H _ (Wd.le_refl _) r (.int i))
theorem wW {i : Bool} {j : Nat} : aY X T W (.Constant (.bool i) j pos) (mC (.bl i)) := fun B w σ H fr h Q r p => eG pe_bl (p w H _ (Wd.le_refl _) r (.bl i))
theorem adt {j : Nat} : aY X T W (.Constant .none j pos) (mC .non) := fun B w σ H fr h Q r p => eG pe_non (p w H _ (Wd.le_refl _) r .non)
theorem G6 {i : Str} {j : Nat} : aY X T W (.Constant (.str i) j pos) (mC (.str i)) := fun B w σ H fr h Q r p => eG pe_str (p w H _ (Wd.le_refl _) r (.str i))
theorem iQ {K : PySem.W.Frag} {T : Tb} {B : Bs} {w : Wd} {σ : L2.St} {H : Hp} {fr : Fr} {h : Hh} (R : Rel K T B w σ H fr h) {i : Nat} {d : D} (e : fr[i]? = some (some d)) :
 ∃ v, σ[i]? = some (some v) ∧ Mg K T B w H (some v) (some d) := by
 have l2 : i < fr.length := (List.getElem?_eq_some_iff.mp e).1
 have l1 : i < σ.length := by rw [← R.fl]; exact l2
 have e1 : σ[i]? = some σ[i] := aoc l1
 have z := R.sl i _ _ e1 e
 generalize σ[i] = s at z e1
 cases z with
 | val r => exact ⟨_, e1, .val r⟩
 | own O eH r => exact ⟨_, e1, .own O eH r⟩
theorem aj (i : Nat) {x : Str} (hN : X.N[i]? = some x := by rfl) (hv : Vis X.env.scope x := by first | exact Or.inl rfl | exact Or.inr (Or.inl rfl) | exact Or.inr (Or.inr rfl)) (hd : (x == ("__debug__" : Str)) = false := by decide)
 (hcd : (x == ("__classdict__" : Str)) = false := by decide) : aY X T W (.Name x pos) (aa i) := fun B w σ H fr h Q r p => eG (pe_var hN hv hd hcd) (by
 unfold aa at p
 split at p
 · rename_i d e1
   cases od : d.own with
   | true =>
     rw [od] at p
     obtain ⟨q, o, e2, eH, rd, nf, r1⟩ := r.freeze_slot e1 od
     exact ⟨_, e2, p (w.add q o) H (.ref q) (Wd.le_add nf) r1 (rd.fz (Wd.le_add nf) (by show upd w.F q _ q = _; rw [upd_same]))⟩
   | false =>
     rw [od] at p
     obtain ⟨v, e2, z⟩ := iQ r e1
     cases z with
     | val rd => exact ⟨v, e2, p w H v (Wd.le_refl _) r rd⟩
     | own O eH rd =>
       rw [rd.own] at od
       cases od
 · exact p.elim)
theorem bf (i : Nat) {x : Str} (hN : X.N[i]? = some x := by rfl) (hv : Vis X.env.scope x := by first | exact Or.inl rfl | exact Or.inr (Or.inl rfl) | exact Or.inr (Or.inr rfl)) (hd : (x == ("__debug__" : Str)) = false := by decide)
 (hcd : (x == ("__classdict__" : Str)) = false := by decide) : JK X T W (.Name x pos) (au i) := fun B w σ H fr h Q r p => eG (pe_var hN hv hd hcd) (by
 unfold au at p
 split at p
 · rename_i d e1
   obtain ⟨v, e2, z⟩ := iQ r e1
   refine ⟨v, e2, p w H v (Wd.le_refl _) r ?_⟩
   cases z with
   | val rd => exact .inl rd
   | own O eH rd => exact .inr ⟨_, _, rfl, eH, rd⟩
 · exact p.elim)
theorem Gz (i : Nat) {x : Str} (hN : X.N[i]? = some x := by rfl) (hv : Vis X.env.scope x := by first | exact Or.inl rfl | exact Or.inr (Or.inl rfl) | exact Or.inr (Or.inr rfl)) (hd : (x == ("__debug__" : Str)) = false := by decide)
 (hcd : (x == ("__classdict__" : Str)) = false := by decide) : ph X T W (.Name x pos) (sG i) := fun B w σ H fr h Q r p => eG (pe_var hN hv hd hcd) (by
 unfold sG at p
 split at p
 · rename_i d e1
   obtain ⟨v, e2, z⟩ := iQ r e1
   refine ⟨v, e2, p w H v (Wd.le_refl _) (r.drop_slot i) ?_⟩
   cases z with
   | val rd => exact .inl rd
   | @own q o _ O eH rd =>
     refine .inr ⟨q, o, rfl, O, fun j z => ?_, eH, rd⟩
     obtain ⟨q1, dq, q2, oq⟩ := z
     by_cases hj : i = j
     · subst hj
       rw [aor (List.getElem?_eq_some_iff.mp e1).1] at q2
       cases q2
     · rw [aoq hj] at q2
       exact r.sep i j q hj ⟨e2, d, e1, rd.own⟩ ⟨q1, dq, q2, oq⟩
 · exact p.elim)
def big : Nat := 100000
theorem rA {n : Nat} (h : n ≤ big) : n ≤ sizeLine := Nat.le_trans h (by decide)
def D.der (h : Hh) : D → D
 | .ref n => (h[n]?).getD .non
 | d => d
def D.its (h : Hh) (d : D) : Option (List D) := match d.der h with
 | .tup l => some l
 | .fl l => some l
 | .kl l => some l
 | .nl l => some l
 | _ => none
theorem Cu {K : PySem.W.Frag} {T : Tb} {B : Bs} {w : Wd} {σ : L2.St} {H : Hp} {fr : Fr} {h : Hh} {v : V} {d : D} {ds : List D} (R : Rel K T B w σ H fr h) (z : vO K T B σ w H fr v d) (e : d.its h = some ds) :
 ∃ p vs, v = .ref p ∧ aF K T w vs ds ∧ (SqL K H p vs ∨ SqT K H p vs) := by
 rcases z with z | ⟨p, o, rfl, eH, z⟩
 · cases z with
   | tup s r =>
     have e' : some _ = some ds := e
     cases e'
     exact ⟨_, _, rfl, r, .inr (fX R.sub s)⟩
   | fl s r =>
     have e' : some _ = some ds := e
     cases e'
     exact ⟨_, _, rfl, r, .inl (SqL.of (R.sub _ _ s))⟩
   | kl s r =>
     have e' : some _ = some ds := e
     cases e'
     exact ⟨_, _, rfl, r, .inl (nU R.sub s)⟩
   | @ref a n s =>
     have ln : n < h.length := by
      rw [← R.len]
      exact (List.getElem?_eq_some_iff.mp s).1
     obtain ⟨o, q, rr⟩ := R.cel n a h[n] s (aoc ln)
     have e0 : (h[n]?).getD .non = h[n] := by rw [aoc ln]; rfl
     unfold D.its D.der at e
     dsimp only at e
     rw [e0] at e
     generalize h[n] = c at rr e
     cases rr with
     | lst r =>
       have e' : some _ = some ds := e
       cases e'
       exact ⟨_, _, rfl, r, .inl (SqL.of q)⟩
     | obj r => cases e
     | dct _ r => cases e
     | dkt _ r => cases e
   | non => cases e
   | bl _ => cases e
   | int _ => cases e
   | str _ => cases e
   | obj _ _ => cases e
   | cls _ => cases e
   | ty _ => cases e
   | sl _ => cases e
 · cases z with
   | lst r =>
     have e' : some _ = some ds := e
     cases e'
     exact ⟨_, _, rfl, r, .inl (SqL.of eH)⟩
   | obj r => cases e
def aC {α : Type} (f : Hh → D → D → Option α) (ma mb : M D) : M α := ma.bind fun x => mb.bind fun y fr h => M.opt (f h x y) fr h
theorem W7 {α β : Type} {VR2 : jY V D} {VR : jY β α} {f : Hh → D → D → Option α} {r : V → V → Hp → (β → Hp → Prop) → Prop} (sa : aY X T W a ma) (sb : iT (WE X b) X.K T W VR2 mb)
 (hr : ∀ B w σ H fr h x y d e z Q, Rel X.K T B w σ H fr h → bQ X.K T w x d → VR2 X.K T B σ w H fr y e → f h d e = some z → (∀ w' H' v, w.le w' → Rel X.K T B w' σ H' fr h → VR X.K T B σ w' H' fr v z → Q v H') → r x y H Q) :
 iT (fun σ H Q => WE X a σ H fun x H1 => WE X b σ H1 fun y H2 => r x y H2 Q) X.K T W VR (aC f ma mb) := fun B w σ H fr h Q r1 p =>
 sa B w σ H fr h _ r1 (aO.bind (VR := vV X.K T B σ) p fun d fr1 h1 w1 H1 x e1 l1 r1 rx p1 => sb B w1 σ H1 fr1 h1 _ r1 (aO.bind (VR := VR2 X.K T B σ) p1 fun e fr2 h2 w2 H2 y e2 l2 r2 ry p2 => by
  cases q : f h2 d e with
  | none => rw [q] at p2; exact p2.elim
  | some z =>
    rw [q] at p2
    exact hr B w2 σ H2 fr2 h2 x y d e z Q r2 (rx.mono l2) ry q p2))
end
end Pk
namespace Pk
open PySem PySem.Spec L2
structure Cq (X : Cx) (T : Tb) (W : WX) (k : Nat) : Prop where
 calm : X.calm = true
 nd : X.N.Nodup
 room : Room k X.A
 takes : Takes X W
 po : PassesOwn (model X.prog X.w) X.A X.env X.xe
theorem Cq.u {X : Cx} {T : Tb} {W : WX} {k : Nat} (C : Cq X T W k) : X.A.units + 65 < cLine := by
 have := C.room.un
 omega
section
variable {X : Cx} {T : Tb} {W : WX} {k : Nat} {e a b c : Expr} {es : List Expr} {m ma mb mc : M D} {pos : Pos}
mutual
def D.toP : D → Option PyData
 | .non => some .none
 | .bl b => some (.bool b)
 | .int i => some (.int i)
 | .str s => some (.str s)
 | .tup l => (D.toPs l).map .tuple
 | .fl l => (D.toPs l).map .list
 | .kl l => (D.toPs l).map .list
 | .nl l => (D.toPs l).map .list
 | _ => none
def D.toPs : List D → Option (List PyData)
 | [] => some []
 | d :: ds => match D.toP d, D.toPs ds with
   | some p, some ps => some (p :: ps)
   | _, _ => none
end
section
variable {K : PySem.W.Frag} {w : Wd} {H : Hp}
mutual
theorem Jj (hs : ∀ a o, w.F a = some o → H a = some o) : ∀ {v : V} {d : D} {p : PyData}, bQ K T w v d → d.toP = some p → Dp K H v p
 | _, _, _, .non, e => by cases e; exact .non
 | _, _, _, .bl b, e => by cases e; exact .bl b
 | _, _, _, .int i, e => by cases e; exact .int i
 | _, _, _, .str s, e => by cases e; exact .str s
 | _, _, _, .tup s r, e => by
   unfold D.toP at e
   obtain ⟨ps, e1, e2⟩ := Option.map_eq_some_iff.mp e
   subst e2
   exact .tup (fX hs s) (Av hs r e1)
 | _, _, _, .fl s r, e => by
   unfold D.toP at e
   obtain ⟨ps, e1, e2⟩ := Option.map_eq_some_iff.mp e
   subst e2
   exact .lst (SqL.of (hs _ _ s)) (Av hs r e1)
 | _, _, _, .kl s r, e => by
   unfold D.toP at e
   obtain ⟨ps, e1, e2⟩ := Option.map_eq_some_iff.mp e
   subst e2
   exact .lst (nU hs s) (Av hs r e1)
 | _, _, _, .obj _ _, e => by cases e
 | _, _, _, .ref _, e => by cases e
 | _, _, _, .cls _, e => by cases e
 | _, _, _, .ty _, e => by cases e
 | _, _, _, .sl _, e => by cases e
theorem Av (hs : ∀ a o, w.F a = some o → H a = some o) : ∀ {vs : List V} {ds : List D} {ps : List PyData}, aF K T w vs ds → D.toPs ds = some ps → DpAll K H vs ps
 | _, _, _, .nil, e => by cases e; exact .nil
 | _, _, _, @aF.cons _ _ _ _ d _ ds h t, e => by
   unfold D.toPs at e
   cases e1 : d.toP with
   | none => rw [e1] at e; cases e
   | some p =>
     cases e2 : D.toPs ds with
     | none => rw [e1, e2] at e; cases e
     | some ps =>
       rw [e1, e2] at e
       cases e
       exact .cons (Jj hs h e1) (Av hs t e2)
end
theorem Zx {B : Bs} {σ : L2.St} {fr : Fr} {h : Hh} {v : V} {d : D} {p : PyData} (R : Rel K T B w σ H fr h) (z : vO K T B σ w H fr v d) (e : d.toP = some p) : Dp K H v p := by
 rcases z with z | ⟨q, o, rfl, eH, z⟩
 · exact Jj R.sub z e
 · cases z with
   | lst r =>
     unfold D.toP at e
     obtain ⟨ps, e1, e2⟩ := Option.map_eq_some_iff.mp e
     subst e2
     exact .lst (SqL.of eH) (Av R.sub r e1)
   | obj r => cases e
end
def bR (h : Hh) : D → D → Option D
 | .int i, .int j => some (.int (i + j))
 | .str a, .str b => if a.length + b.length ≤ big then some (.str (a ++ b)) else none
 | .tup a, .tup b => if a.length + b.length ≤ big then some (.tup (a ++ b)) else none
 | .fl a, .fl b => if a.length + b.length ≤ big then some (.nl (a ++ b)) else none
 | _, _ => none
theorem Zy {w : Wd} {K : PySem.W.Frag} {v : V} {ds : List D} (r : bQ K T w v (.fl ds)) : ∃ a vs, v = .ref a ∧ w.F a = some (.lst vs) ∧ aF K T w vs ds := by
 cases r with
 | fl s t => exact ⟨_, _, rfl, s, t⟩
theorem wA {w : Wd} {K : PySem.W.Frag} {v : V} {ds : List D} (r : bQ K T w v (.tup ds)) : ∃ a vs, v = .ref a ∧ SqT K w.F a vs ∧ aF K T w vs ds := by
 cases r with
 | tup s t => exact ⟨_, _, rfl, s, t⟩
theorem lu {w : Wd} {K : PySem.W.Frag} {v : V} {i : Int} (r : bQ K T w v (.int i)) : v = .int i := by
 cases r
 rfl
theorem adu {w : Wd} {K : PySem.W.Frag} {v : V} {i : Bool} (r : bQ K T w v (.bl i)) : v = .bl i := by
 cases r
 rfl
theorem Ac {w : Wd} {K : PySem.W.Frag} {v : V} {i : Str} (r : bQ K T w v (.str i)) : v = .str i := by
 cases r
 rfl
theorem GF {K : PySem.W.Frag} {B : Bs} {w : Wd} {σ : L2.St} {H : Hp} {fr : Fr} {h : Hh} {p : Addr} {vs : List V} {ds : List D} {Q : V → Hp → Prop} (R : Rel K T B w σ H fr h) (r : aF K T w vs ds) (np : H p = none)
 (q : ∀ w' H' v, w.le w' → Rel K T B w' σ H' fr h → bQ K T w' v (.tup ds) → Q v H') : Q (.ref p) (upd H p (.tup vs)) :=
 q (w.add p (.tup vs)) _ _ (Wd.le_add (R.nP np).1) (R.laid np) (.tup (SqT.of (by show upd w.F p _ p = _; rw [upd_same])) (r.mono (Wd.le_add (R.nP np).1)))
theorem GJ {K : PySem.W.Frag} {B : Bs} {w : Wd} {σ : L2.St} {H : Hp} {fr : Fr} {h : Hh} {p : Addr} {vs : List V} {ds : List D} {Q : V → Hp → Prop} (R : Rel K T B w σ H fr h) (r : aF K T w vs ds) (np : H p = none)
 (q : ∀ w' H' v, w.le w' → Rel K T B w' σ H' fr h → vE K T B σ w' H' fr v (.nl ds) → Q v H') : Q (.ref p) (upd H p (.lst vs)) :=
 q w _ _ (Wd.le_refl w) (R.temp np) (.inr ⟨p, _, rfl, R.own_new np, R.loose_new np, upd_same, .lst r⟩)
theorem gA (sa : aY X T W a ma) (sb : aY X T W b mb) : ph X T W (.BinOp a .Add b pos) (aC bR ma mb) := fun B w σ H fr h Q r1 p =>
 eG (pe_op yW bF bF) (W7 (VR := vE) sa sb (fun B w σ H fr h x y d e z Q R rx ry q k => by
  unfold bR at q
  split at q
  · cases q
    rw [lu rx, lu ry]
    exact sE op_add ⟨_, _, rfl, rfl, k w H _ (Wd.le_refl _) R (.inl (.int _))⟩
  · split at q
    · rename_i hl
      cases q
      rw [Ac rx, Ac ry]
      exact sE op_add_str ⟨_, _, rfl, rfl, rA hl, k w H _ (Wd.le_refl _) R (.inl (.str _))⟩
    · cases q
  · split at q
    · rename_i ds es hl
      cases q
      obtain ⟨p1, vs, rfl, s1, r1⟩ := wA rx
      obtain ⟨p2, us, rfl, s2, r2⟩ := wA ry
      refine sE op_catA ⟨p1, p2, vs, us, rfl, rfl, fX R.sub s1, fX R.sub s2, by rw [r1.length, r2.length]; exact rA hl, fun e0 => ?_, fun _ e0 => ?_, fun _ _ p np => ?_⟩
      · subst e0
        cases r1
        exact k w H _ (Wd.le_refl _) R (.inl ry)
      · subst e0
        cases r2
        rw [aob] at k
        exact k w H _ (Wd.le_refl _) R (.inl rx)
      · exact GF R (r1.append r2) np fun w' H' v l R' r' => k w' H' v l R' (.inl r')
    · cases q
  · split at q
    · rename_i ds es hl
      cases q
      obtain ⟨p1, vs, rfl, s1, r1⟩ := Zy rx
      obtain ⟨p2, us, rfl, s2, r2⟩ := Zy ry
      refine sE op_cat ⟨p1, p2, vs, us, rfl, rfl, R.sub _ _ s1, R.sub _ _ s2, by rw [r1.length, r2.length]; exact rA hl, fun p np => ?_⟩
      exact GJ R (r1.append r2) np k
    · cases q
  · cases q) B w σ H fr h Q r1 p)
def dU (C : Int → Int → Bool) (g : Int → Int → Int) (_ : Hh) : D → D → Option D
 | .int i, .int j => if C i j then some (.int (g i j)) else none
 | _, _ => none
theorem G7 {op : Operator} {P : Int → Int → Prop} {C : Int → Int → Bool} {g : Int → Int → Int} (o : OpR X (binaryOp op) (rI P fun i j => .int (g i j))) (hC : ∀ i j, C i j = true → P i j) (sa : aY X T W a ma) (sb : aY X T W b mb) :
 aY X T W (.BinOp a op b pos) (aC (dU C g) ma mb) := fun B w σ H fr h Q r1 p =>
 eG (pe_op yW bF bF) (W7 (VR := vV) sa sb (fun B w σ H fr h x y d e z Q R rx ry q k => by
  unfold dU at q
  split at q
  · split at q
    · rename_i hc
      cases q
      rw [lu rx, lu ry]
      exact sE o ⟨_, _, rfl, rfl, hC _ _ hc, k w H _ (Wd.le_refl _) R (.int _)⟩
    · cases q
  · cases q) B w σ H fr h Q r1 p)
def ie (_ _ : Int) : Bool := true
def Tz (i j : Int) : Bool := decide (i.natAbs.log2 + j.natAbs.log2 < 1000000)
def ae2 (_ j : Int) : Bool := decide (0 < j)
def acG (_ j : Int) : Bool := decide (0 < j) && decide (j.natAbs.log2 < 9000)
def Pb (i j : Int) : Bool := decide (0 ≤ j) && decide (j ≤ 1000000) && decide (i.natAbs < 2 ^ 64)
abbrev qp := dU ie (fun i j => i - j)
abbrev Pg := dU Tz (fun i j => i * j)
abbrev W8 := dU ae2 (fun i j => i % j)
abbrev ae3 := dU acG (fun i j => i / j)
abbrev W9 := dU Pb (fun i j => i ^ j.toNat)
theorem agQ : OpR X (binaryOp .Sub) (rI (fun _ _ => True) fun i j => .int (i - j)) := fun pins s σ H x y v u Q I rx ry ⟨i, j, e1, e2, _, q⟩ => op_sub pins s σ H x y v u Q I rx ry ⟨i, j, e1, e2, q⟩
theorem pq (sa : aY X T W a ma) (sb : aY X T W b mb) : aY X T W (.BinOp a .Sub b pos) (aC qp ma mb) := G7 agQ (fun _ _ _ => trivial) sa sb
theorem Ph (sa : aY X T W a ma) (sb : aY X T W b mb) : aY X T W (.BinOp a .Mult b pos) (aC Pg ma mb) := G7 op_mulW (fun i j h => by
 have h' : decide (i.natAbs.log2 + j.natAbs.log2 < 1000000) = true := h
 have h2 : i.natAbs.log2 + j.natAbs.log2 < 1000000 := of_decide_eq_true h'
 exact h2) sa sb
theorem Pj (sa : aY X T W a ma) (sb : aY X T W b mb) : aY X T W (.BinOp a .Mod b pos) (aC W8 ma mb) := G7 op_mod (fun _ j h => by
 have h' : decide (0 < j) = true := h
 exact of_decide_eq_true h') sa sb
theorem adw (sa : aY X T W a ma) (sb : aY X T W b mb) : aY X T W (.BinOp a .FloorDiv b pos) (aC ae3 ma mb) := G7 op_fdivW (fun _ _ h => by
 obtain ⟨h1, h2⟩ := Bool.and_eq_true_iff.mp h
 exact ⟨of_decide_eq_true h1, of_decide_eq_true h2⟩) sa sb
theorem Pn (sa : aY X T W a ma) (sb : aY X T W b mb) : aY X T W (.BinOp a .Pow b pos) (aC W9 ma mb) := G7 op_pow (fun _ _ h => by
 obtain ⟨h1, h3⟩ := Bool.and_eq_true_iff.mp h
 obtain ⟨h1, h2⟩ := Bool.and_eq_true_iff.mp h1
 exact ⟨of_decide_eq_true h1, of_decide_eq_true h2, of_decide_eq_true h3⟩) sa sb
def Cv : D → Option D
 | .int i => some (.int (-i))
 | _ => none
def aA {α : Type} (f : Hh → D → Option α) (ma : M D) : M α := ma.bind fun x fr h => M.opt (f h x) fr h
theorem acH {α β : Type} {VR1 : jY V D} {VR : jY β α} {f : Hh → D → Option α} {r : V → Hp → (β → Hp → Prop) → Prop} (sa : iT (WE X a) X.K T W VR1 ma)
 (hr : ∀ B w σ H fr h x d z Q, Rel X.K T B w σ H fr h → VR1 X.K T B σ w H fr x d → f h d = some z → (∀ w' H' v, w.le w' → Rel X.K T B w' σ H' fr h → VR X.K T B σ w' H' fr v z → Q v H') → r x H Q) :
 iT (fun σ H Q => WE X a σ H fun x H1 => r x H1 Q) X.K T W VR (aA f ma) := fun B w σ H fr h Q r1 p =>
 sa B w σ H fr h _ r1 (aO.bind (VR := VR1 X.K T B σ) p fun d fr1 h1 w1 H1 x e1 l1 r1 rx p1 => by
  cases q : f h1 d with
  | none => rw [q] at p1; exact p1.elim
  | some z =>
    rw [q] at p1
    exact hr B w1 σ H1 fr1 h1 x d z Q r1 rx q p1)
theorem U9 (sa : aY X T W a ma) : aY X T W (.UnaryOp .USub a pos) (aA (fun _ => Cv) ma) := fun B w σ H fr h Q r1 p =>
 eG (pe_un aip bF) (acH (VR := vV) sa (fun B w σ H fr h x d z Q R rx q k => by
  unfold Cv at q
  split at q
  · cases q
    rw [lu rx]
    exact ajW un_neg ⟨_, rfl, k w H _ (Wd.le_refl _) R (.int _)⟩
  · cases q) B w σ H fr h Q r1 p)
def qK (X : Cx) (T : Tb) (VR2 : jY V D) (op : CmpOp) (f : Hh → D → D → Option Bool) : Prop :=
 ∀ B w σ H fr h x y d e c Q, Rel X.K T B w σ H fr h → bQ X.K T w x d → VR2 X.K T B σ w H fr y e → f h d e = some c → Q (.bl c) H → rM X (compareOp op) x y H Q
def cInt (p : Int → Int → Bool) (_ : Hh) : D → D → Option Bool
 | .int i, .int j => some (p i j)
 | _, _ => none
theorem Rm {op : CmpOp} {p : Int → Int → Bool} (o : OpR X (compareOp op) (rI0 fun i j => .bl (p i j))) : qK X T vV op (cInt p) := fun B w σ H fr h x y d e c Q R rx ry q k => by
 unfold cInt at q
 split at q
 · cases q
   rw [lu rx, lu ry]
   exact sE o ⟨_, _, rfl, rfl, k⟩
 · cases q
abbrev NZ := cInt fun i j => decide (i < j)
abbrev Ax := cInt fun i j => decide (i ≤ j)
abbrev Va := cInt fun i j => decide (j < i)
abbrev cGe := cInt fun i j => decide (j ≤ i)
theorem cmp_lt : qK X T vV .Lt NZ := Rm op_lt
theorem cmp_le : qK X T vV .LtE Ax := Rm op_le
theorem cmp_gt : qK X T vV .Gt Va := Rm op_gt
theorem cmp_ge : qK X T vV .GtE cGe := Rm op_ge
def fL (_ : Hh) (d e : D) : Option Bool := match d.toP, e.toP with
 | some p, some q => if SeqAt.shaped p && SeqAt.shaped q then some (PyData.eqv p q) else none
 | _, _ => none
def G8 (h : Hh) (d e : D) : Option Bool := (fL h d e).map (!·)
theorem Zz {h : Hh} {d e : D} {c : Bool} (q : fL h d e = some c) : ∃ p p', d.toP = some p ∧ e.toP = some p' ∧ SeqAt.shaped p = true ∧ SeqAt.shaped p' = true ∧ c = PyData.eqv p p' := by
 unfold fL at q
 split at q
 · rename_i p p' e1 e2
   split at q
   · rename_i hs
     obtain ⟨h1, h2⟩ := Bool.and_eq_true_iff.mp hs
     cases q
     exact ⟨p, p', e1, e2, h1, h2, rfl⟩
   · cases q
 · cases q
theorem cmp_eq (C : Cq X T W k) : qK X T vO .Eq fL := fun B w σ H fr h x y d e c Q R rx ry q kk => by
 obtain ⟨p, p', e1, e2, s1, s2, rfl⟩ := Zz q
 exact sE (op_eqD (by have := C.u; omega)) ⟨p, p', Jj R.sub rx e1, Zx R ry e2, s1, s2, kk⟩
theorem KD (C : Cq X T W k) : qK X T vO .NotEq G8 := fun B w σ H fr h x y d e c Q R rx ry q kk => by
 obtain ⟨c', q', rfl⟩ := Option.map_eq_some_iff.mp q
 obtain ⟨p, p', e1, e2, s1, s2, rfl⟩ := Zz q'
 exact sE (op_neD (by have := C.u; omega)) ⟨p, p', Jj R.sub rx e1, Zx R ry e2, s1, s2, kk⟩
def D.flat : D → Bool
 | .non => true
 | .bl _ => true
 | .int _ => true
 | .str _ => true
 | _ => false
def D.eqf : D → D → Bool
 | .non, .non => true
 | .bl a, .bl b => a == b
 | .bl a, .int b => (if a then 1 else 0) == b
 | .int a, .bl b => a == (if b then 1 else 0)
 | .int a, .int b => a == b
 | .str a, .str b => a == b
 | _, _ => false
theorem TF {K : PySem.W.Frag} {w : Wd} {v : V} {d : D} (r : bQ K T w v d) (f : d.flat = true) : flatV v = true := by
 cases r <;> first | rfl | cases f
theorem Pq {K : PySem.W.Frag} {w : Wd} : ∀ {vs : List V} {ds : List D}, aF K T w vs ds → ds.all D.flat = true → vs.all flatV = true
 | _, _, .nil, _ => rfl
 | _, _, .cons h t, f => by
   rw [List.all_cons, Bool.and_eq_true] at f ⊢
   exact ⟨TF h f.1, Pq t f.2⟩
theorem agR {K : PySem.W.Frag} {w : Wd} {v u : V} {d e : D} (r : bQ K T w v d) (s : bQ K T w u e) : eqV v u = D.eqf d e := by
 cases r <;> cases s <;> rfl
theorem Xa {K : PySem.W.Frag} {w : Wd} {u : V} {e : D} (s : bQ K T w u e) : ∀ {vs : List V} {ds : List D}, aF K T w vs ds → inV u vs = ds.any fun z => D.eqf z e
 | _, _, .nil => rfl
 | _, _, @aF.cons _ _ _ v d vs ds h t => by
   have q := Xa s t
   unfold inV at q ⊢
   rw [List.any_cons, List.any_cons, agR h s, q]
def Pr (h : Hh) (x y : D) : Option Bool := match x, y with
 | .str c, .str z => if c.length = 1 then some (decide (c.cps.toList.headD 0 ∈ z.cps.toList)) else some (!(Builtin.Str.occurrences z c 0 z.length 1).isEmpty)
 | x, y => match y.its h with
   | some l => if x.flat && l.all D.flat then some (l.any fun z => D.eqf z x) else none
   | none => none
def TJ (h : Hh) (x y : D) : Option Bool := (Pr h x y).map (!·)
theorem str1 {c : Str} (h : c.length = 1) : c = ⟨#[c.cps.toList.headD 0]⟩ := by
 obtain ⟨⟨l⟩⟩ := c
 have h' : l.length = 1 := h
 match l, h' with
 | [x], _ => rfl
theorem aiq : qK X T vO .In Pr := fun B w σ H fr h x y d e c Q R rx ry q kk => by
 unfold Pr at q
 split at q
 · rename_i cc z
   have ey : y = .str z := by
    rcases ry with ry | ⟨_, _, _, _, r⟩
    · exact Ac ry
    · cases r
   rw [Ac rx, ey]
   split at q
   · rename_i h1
     cases q
     exact sE op_in_sign ⟨_, z, by rw [← str1 h1], rfl, kk⟩
   · cases q
     exact sE op_in_str ⟨cc, z, rfl, rfl, kk⟩
 · split at q
   · rename_i l el
     split at q
     · rename_i hf
       obtain ⟨f1, f2⟩ := Bool.and_eq_true_iff.mp hf
       cases q
       obtain ⟨p, vs, rfl, rl, sq⟩ := Cu R ry el
       refine sE op_in_seq ⟨p, vs, rfl, sq, TF rx f1, Pq rl f2, ?_⟩
       rw [if_neg Bool.false_ne_true, Xa rx rl]
       exact kk
     · cases q
   · cases q
theorem abV : qK X T vO .NotIn TJ := fun B w σ H fr h x y d e c Q R rx ry q kk => by
 obtain ⟨c', q', rfl⟩ := Option.map_eq_some_iff.mp q
 clear q
 have q := q'
 clear q'
 unfold Pr at q
 split at q
 · rename_i cc z
   have ey : y = .str z := by
    rcases ry with ry | ⟨_, _, _, _, r⟩
    · exact Ac ry
    · cases r
   rw [Ac rx, ey]
   split at q
   · rename_i h1
     cases q
     exact sE op_notIn_sign ⟨_, z, by rw [← str1 h1], rfl, kk⟩
   · cases q
     exact sE op_notin_str ⟨cc, z, rfl, rfl, kk⟩
 · split at q
   · rename_i l el
     split at q
     · rename_i hf
       obtain ⟨f1, f2⟩ := Bool.and_eq_true_iff.mp hf
       cases q
       obtain ⟨p, vs, rfl, rl, sq⟩ := Cu R ry el
       refine sE op_notIn_seq ⟨p, vs, rfl, sq, TF rx f1, Pq rl f2, ?_⟩
       rw [if_pos rfl, Xa rx rl]
       exact kk
     · cases q
   · cases q
def D.isNon : D → Bool
 | .non => true
 | _ => false
theorem adx {K : PySem.W.Frag} {w : Wd} {v : V} {d : D} (r : bQ K T w v d) : decide (v = .non) = d.isNon := by
 cases r <;> rfl
def cIs (_ : Hh) (d e : D) : Option Bool := if e.isNon then some d.isNon else none
def ZC (_ : Hh) (d e : D) : Option Bool := if e.isNon then some (!d.isNon) else none
theorem ais {K : PySem.W.Frag} {w : Wd} {v : V} {d : D} (r : bQ K T w v d) (h : d.isNon = true) : v = .non := by
 cases r <;> first | rfl | cases h
theorem agS : qK X T vV .IsNot ZC := fun B w σ H fr h x y d e c Q R rx ry q kk => by
 unfold ZC at q
 split at q
 · rename_i he
   cases q
   refine sE op_notN ⟨ais ry he, ?_⟩
   rw [adx rx]
   exact kk
 · cases q
theorem dD {op : CmpOp} {VR2 : jY V D} {f : Hh → D → D → Option Bool} (o : qK X T VR2 op f) (sa : aY X T W a ma) (sb : iT (WE X b) X.K T W VR2 mb) (hm : behindInMarks op b = false := by with_unfolding_all rfl) :
 Ar X T W (.Compare a [op] [b] pos) (aC f ma mb) := fun B w σ H fr h Q r1 p =>
 Rk (pt_cmpR yW bF bF hm) (W7 (VR := vB) (r := fun x y H Q => rM X (compareOp op) x y H fun z H' => ∃ k, z = .bl k ∧ Q k H') sa sb (fun B w σ H fr h x y d e z Q R rx ry q k =>
  o B w σ H fr h x y d e z _ R rx ry q ⟨z, rfl, k w H z (Wd.le_refl _) R rfl⟩) B w σ H fr h Q r1 p)
def Vb (m : M Bool) : M D := m.bind fun b => M.ret (.bl b)
theorem rB {op : CmpOp} {VR2 : jY V D} {f : Hh → D → D → Option Bool} (o : qK X T VR2 op f) (sa : aY X T W a ma) (sb : iT (WE X b) X.K T W VR2 mb) (hm : behindInMarks op b = false := by with_unfolding_all rfl) :
 aY X T W (.Compare a [op] [b] pos) (aC (fun h x y => (f h x y).map .bl) ma mb) := fun B w σ H fr h Q r1 p =>
 eG (pe_cmpR yW bF bF hm) (W7 (VR := vV) sa sb (fun B w σ H fr h x y d e z Q R rx ry q k => by
  obtain ⟨c, q', rfl⟩ := Option.map_eq_some_iff.mp q
  exact o B w σ H fr h x y d e c _ R rx ry q' (k w H _ (Wd.le_refl _) R (.bl c))) B w σ H fr h Q r1 p)
def dB (f g : Hh → D → D → Option Bool) (ma mb mc : M D) : M Bool := ma.bind fun x => mb.bind fun y fr h => match f h x y with
 | some true => (mc.bind fun z fr h => M.opt (g h y z) fr h) fr h
 | some false => .ok false fr h
 | none => .err
theorem G9 {op op' : CmpOp} {f g : Hh → D → D → Option Bool} (o : qK X T vV op f) (o' : qK X T vV op' g) (sa : aY X T W a ma) (sb : aY X T W b mb) (sc : aY X T W c mc) (hm : lastMarks [op, op'] [b, c] = false := by with_unfolding_all rfl) :
 Ar X T W (.Compare a [op, op'] [b, c] pos) (dB f g ma mb mc) := fun B w σ H fr h Q r1 p =>
 Rk (pt_chain yW yW bF bF bF hm) (sa B w σ H fr h _ r1 (aO.bind (VR := vV X.K T B σ) p fun d fr1 h1 w1 H1 x e1 l1 r1 rx p1 => sb B w1 σ H1 fr1 h1 _ r1 (aO.bind (VR := vV X.K T B σ) p1 fun e fr2 h2 w2 H2 y e2 l2 r2 ry p2 => by
  cases q : f h2 d e with
  | none => rw [q] at p2; exact p2.elim
  | some k =>
    rw [q] at p2
    cases k with
    | false => exact o B w2 σ H2 fr2 h2 x y d e false _ r2 (rx.mono l2) ry q ⟨false, rfl, ⟨false, rfl, p2 w2 H2 false (Wd.le_refl _) r2 rfl⟩⟩
    | true => exact o B w2 σ H2 fr2 h2 x y d e true _ r2 (rx.mono l2) ry q ⟨true, rfl, by
     show WE X c σ H2 _
     exact sc B w2 σ H2 fr2 h2 _ r2 (aO.bind (VR := vV X.K T B σ) p2 fun z fr3 h3 w3 H3 zv e3 l3 r3 rz p3 => by
      cases q' : g h3 e z with
      | none => rw [q'] at p3; exact p3.elim
      | some k' =>
        rw [q'] at p3
        exact o' B w3 σ H3 fr3 h3 y zv e z k' _ r3 (ry.mono l3) rz q' ⟨k', rfl, p3 w3 H3 k' (Wd.le_refl _) r3 rfl⟩)⟩)))
theorem ae4 {op op' : CmpOp} {f g : Hh → D → D → Option Bool} (o : qK X T vV op f) (o' : qK X T vV op' g) (sa : aY X T W a ma) (sb : aY X T W b mb) (sc : aY X T W c mc) (hm : lastMarks [op, op'] [b, c] = false := by with_unfolding_all rfl) :
 aY X T W (.Compare a [op, op'] [b, c] pos) (Vb (dB f g ma mb mc)) := fun B w σ H fr h Q r1 p => by
 have p0 : aO X.K T B W (vB X.K T B σ) w σ (dB f g ma mb mc fr h) (fun b H => Q (.bl b) H) := aO.bind p fun d fr1 h1 w1 H1 v e x r1 z p1 => by
  have z' : v = d := z
  subst z'
  exact p1 w1 H1 _ (Wd.le_refl _) r1 (.bl _)
 exact eG (pe_chain yW yW bF bF bF hm) (sa B w σ H fr h _ r1 (aO.bind (VR := vV X.K T B σ) p0 fun d fr1 h1 w1 H1 x e1 l1 r1 rx p1 => sb B w1 σ H1 fr1 h1 _ r1 (aO.bind (VR := vV X.K T B σ) p1 fun e fr2 h2 w2 H2 y e2 l2 r2 ry p2 => by
  cases q : f h2 d e with
  | none => rw [q] at p2; exact p2.elim
  | some k =>
    rw [q] at p2
    cases k with
    | false => exact o B w2 σ H2 fr2 h2 x y d e false _ r2 (rx.mono l2) ry q ⟨false, rfl, p2 w2 H2 false (Wd.le_refl _) r2 rfl⟩
    | true => exact o B w2 σ H2 fr2 h2 x y d e true _ r2 (rx.mono l2) ry q ⟨true, rfl, by
     show WE X c σ H2 _
     exact sc B w2 σ H2 fr2 h2 _ r2 (aO.bind (VR := vV X.K T B σ) p2 fun z fr3 h3 w3 H3 zv e3 l3 r3 rz p3 => by
      cases q' : g h3 e z with
      | none => rw [q'] at p3; exact p3.elim
      | some k' =>
        rw [q'] at p3
        exact o' B w3 σ H3 fr3 h3 y zv e z k' _ r3 (ry.mono l3) rz q' (p3 w3 H3 k' (Wd.le_refl _) r3 rfl))⟩)))
def D.tb : D → Option Bool
 | .bl b => some b
 | _ => none
theorem ZD {K : PySem.W.Frag} {B : Bs} {σ : L2.St} {w : Wd} {H : Hp} {fr : Fr} {v : V} {d : D} {b : Bool} (r : vO K T B σ w H fr v d) (e : d.tb = some b) : v = .bl b := by
 rcases r with r | ⟨_, _, _, _, r⟩
 · cases r <;> first | (cases e; rfl) | cases e
 · cases r <;> cases e
def D.tru (h : Hh) (d : D) : Option Bool := match d with
 | .non => some false
 | .bl b => some b
 | .int i => some (i != 0)
 | .str z => if z.length ≤ big then some ((z.length : Int) != 0) else none
 | d => (d.its h).map fun l => !l.isEmpty
theorem Yb {K : PySem.W.Frag} {w : Wd} {vs : List V} {ds : List D} (r : aF K T w vs ds) : vs.isEmpty = ds.isEmpty := by
 cases r <;> rfl
theorem jZ (s : JK X T W e m) (he : ∀ whole, isTrue e X.env whole = (do let v ← whole; standAt e.pos; holding [v] (truthy v)) := by intro _; rfl) : Ar X T W e (aA D.tru m) := fun B w σ H fr h Q r1 p =>
 Rk (pt_truth bF he) (acH (VR := vB) (r := fun x H Q => ∃ k, TruV X.K x H k ∧ Q k H) s (fun B w σ H fr h x d z Q R rx q k => by
  refine ⟨z, ?_, k w H z (Wd.le_refl _) R rfl⟩
  have viaIts : ∀ {l : List D}, d.its h = some l → (!l.isEmpty) = z → TruV X.K x H z := fun {l} el ez => by
   obtain ⟨p, vs, rfl, rl, sq⟩ := Cu R rx el
   rcases sq with sq | sq
   · exact .inl ⟨vs, sq, by rw [← ez, Yb rl]⟩
   · exact .inr (.inl ⟨vs, sq, by rw [← ez, Yb rl]⟩)
  unfold D.tru at q
  split at q
  · rcases rx with rx | ⟨_, _, _, _, rx⟩
    · cases rx
      cases q
      rfl
    · cases rx
  · rcases rx with rx | ⟨_, _, _, _, rx⟩
    · cases rx
      cases q
      rfl
    · cases rx
  · rcases rx with rx | ⟨_, _, _, _, rx⟩
    · cases rx
      cases q
      rfl
    · cases rx
  · split at q
    · rename_i hl
      rcases rx with rx | ⟨_, _, _, _, rx⟩
      · cases rx
        cases q
        exact ⟨rA hl, rfl⟩
      · cases rx
    · cases q
  · obtain ⟨l, e1, e2⟩ := Option.map_eq_some_iff.mp q
    exact viaIts e1 e2) B w σ H fr h Q r1 p)
def cD (m : M Bool) : M Bool := m.bind fun b => M.ret !b
def Hf (m n : M Bool) : M Bool := m.bind fun b => if b then n else M.ret false
def fY (m n : M Bool) : M Bool := m.bind fun b => if b then M.ret true else n
variable {n ta tb tc : M Bool} {rest : List Expr}
theorem gG (s : Ar X T W a n) : Ar X T W (.UnaryOp .Not a pos) (cD n) := fun B w σ H fr h Q r1 p =>
 Rk (pt_not Eu) (s B w σ H fr h _ r1 (aO.bind (VR := vB X.K T B σ) p fun d fr1 h1 w1 H1 x e1 l1 r1 rx p1 => by
  have rx' : x = d := rx
  subst rx'
  exact p1 w1 H1 _ (Wd.le_refl _) r1 rfl))
theorem wX (s : Tw X T W e n) : Ar X T W e n := fun B w σ H fr h Q r1 p => Rk Zw.pt (s B w σ H fr h Q r1 p)
theorem abW (s : Ar X T W a ta) : Tw X T W (.BoolOp .And [a] pos) ta := fun B w σ H fr h Q r1 p => Zf (pw_and1 Eu) (s B w σ H fr h Q r1 p)
theorem v9 (s : Ar X T W a ta) : Tw X T W (.BoolOp .Or [a] pos) ta := fun B w σ H fr h Q r1 p => Zf (pw_or1 Eu) (s B w σ H fr h Q r1 p)
theorem ady (s : Ar X T W a ta) (t : Tw X T W (.BoolOp .And (b :: rest) pos) tb) : Tw X T W (.BoolOp .And (a :: b :: rest) pos) (Hf ta tb) := fun B w σ H fr h Q r1 p =>
 Zf (pw_and Eu Zw) (s B w σ H fr h _ r1 (aO.bind (VR := vB X.K T B σ) p fun d fr1 h1 w1 H1 x e1 l1 r1 rx p1 => by
  have rx' : x = d := rx
  subst rx'
  cases x with
  | true => exact t B w1 σ H1 fr1 h1 Q r1 p1
  | false => exact p1 w1 H1 false (Wd.le_refl _) r1 rfl))
theorem vQ (s : Ar X T W a ta) (t : Tw X T W (.BoolOp .Or (b :: rest) pos) tb) : Tw X T W (.BoolOp .Or (a :: b :: rest) pos) (fY ta tb) := fun B w σ H fr h Q r1 p =>
 Zf (pw_or Eu Zw) (s B w σ H fr h _ r1 (aO.bind (VR := vB X.K T B σ) p fun d fr1 h1 w1 H1 x e1 l1 r1 rx p1 => by
  have rx' : x = d := rx
  subst rx'
  cases x with
  | false => exact t B w1 σ H1 fr1 h1 Q r1 p1
  | true => exact p1 w1 H1 true (Wd.le_refl _) r1 rfl))
def acI (m : M D) : M D := m.bind fun d => M.opt (d.tb.map fun b => .bl (!b))
def jN (m n : M D) : M D := m.bind fun d => match d.tb with
 | some true => n
 | some false => M.ret (.bl false)
 | none => M.opt none
def Xb (m n : M D) : M D := m.bind fun d => match d.tb with
 | some true => M.ret (.bl true)
 | some false => n
 | none => M.opt none
theorem Ew {op : BoolOp} (s : aY X T W a ma) : aY X T W (.BoolOp op [a] pos) ma := fun B w σ H fr h Q r1 p => eG (pe_one bF) (s B w σ H fr h Q r1 p)
theorem ait (s : aY X T W a ma) : aY X T W (.UnaryOp .Not a pos) (acI ma) := fun B w σ H fr h Q r1 p =>
 eG (pe_not bF) (s B w σ H fr h _ r1 (aO.bind (VR := vV X.K T B σ) p fun d fr1 h1 w1 H1 x e1 l1 r1 rx p1 => by
  cases q : d.tb with
  | none => rw [q] at p1; exact p1.elim
  | some c =>
    rw [q] at p1
    exact ⟨c, ZD (fr := fr1) (B := B) (σ := σ) (H := H1) (.inl rx) q, p1 w1 H1 _ (Wd.le_refl _) r1 (.bl _)⟩))
theorem yX (s : aY X T W a ma) (t : aY X T W (.BoolOp .And (b :: rest) pos) mb) : aY X T W (.BoolOp .And (a :: b :: rest) pos) (jN ma mb) := fun B w σ H fr h Q r1 p =>
 eG (pe_and bF bF) (s B w σ H fr h _ r1 (aO.bind (VR := vV X.K T B σ) p fun d fr1 h1 w1 H1 x e1 l1 r1 rx p1 => by
  cases q : d.tb with
  | none => rw [q] at p1; exact p1.elim
  | some c =>
    rw [q] at p1
    refine ⟨c, ZD (fr := fr1) (B := B) (σ := σ) (H := H1) (.inl rx) q, ?_⟩
    cases c with
    | true => exact t B w1 σ H1 fr1 h1 Q r1 p1
    | false => exact p1 w1 H1 _ (Wd.le_refl _) r1 (.bl _)))
theorem ajX (s : aY X T W a ma) (t : aY X T W (.BoolOp .Or (b :: rest) pos) mb) : aY X T W (.BoolOp .Or (a :: b :: rest) pos) (Xb ma mb) := fun B w σ H fr h Q r1 p =>
 eG (pe_or bF bF) (s B w σ H fr h _ r1 (aO.bind (VR := vV X.K T B σ) p fun d fr1 h1 w1 H1 x e1 l1 r1 rx p1 => by
  cases q : d.tb with
  | none => rw [q] at p1; exact p1.elim
  | some c =>
    rw [q] at p1
    refine ⟨c, ZD (fr := fr1) (B := B) (σ := σ) (H := H1) (.inl rx) q, ?_⟩
    cases c with
    | false => exact t B w1 σ H1 fr1 h1 Q r1 p1
    | true => exact p1 w1 H1 _ (Wd.le_refl _) r1 (.bl _)))
def Ad {α : Type} (t : M Bool) (m n : M α) : M α := t.bind fun b => if b then m else n
theorem s_if {VR : jY V D} (st : Ar X T W c tc) (sa : iT (WE X a) X.K T W VR ma) (sb : iT (WE X b) X.K T W VR mb) : iT (WE X (.IfExp c a b pos)) X.K T W VR (Ad tc ma mb) := fun B w σ H fr h Q r1 p =>
 eG (pe_ifExp Eu bF bF) (st B w σ H fr h _ r1 (aO.bind (VR := vB X.K T B σ) p fun d fr1 h1 w1 H1 x e1 l1 r1 rx p1 => by
  have rx' : x = d := rx
  subst rx'
  cases x with
  | true => exact sa B w1 σ H1 fr1 h1 Q r1 p1
  | false => exact sb B w1 σ H1 fr1 h1 Q r1 p1))
def ajY : Expr → Bool
 | .Starred .. => true
 | _ => false
theorem eY {e : Expr} {es : List Expr} {env : Env} (h : ajY e = false) : starEach (e :: es) env = (false, eval e env) :: starEach es env := by
 cases e <;> first | (cases h; done) | rfl
def ak : List (M D) → M (List D)
 | [] => M.ret []
 | m :: ms => m.bind fun d => (ak ms).bind fun ds => M.ret (d :: ds)
variable {ms : List (M D)}
theorem aU : Mi X T W [] (ak []) := fun B w σ H fr h Q r1 p => Zg pa_nil (p w H _ (Wd.le_refl _) r1 .nil)
theorem aq (s : aY X T W e m) (t : Mi X T W es (ak ms)) (hs : starEach (e :: es) X.env = (false, eval e X.env) :: starEach es X.env := by exact eY rfl) : Mi X T W (e :: es) (ak (m :: ms)) := fun B w σ H fr h Q r1 p =>
 Zg (pa_cons bF Pa hs) (s B w σ H fr h _ r1 (aO.bind (VR := vV X.K T B σ) p fun d fr1 h1 w1 H1 x e1 l1 r1 rx p1 =>
  t B w1 σ H1 fr1 h1 _ r1 (aO.bind (VR := vA X.K T B σ) p1 fun ds fr2 h2 w2 H2 vs e2 l2 r2 rs p2 => p2 w2 H2 _ (Wd.le_refl _) r2 (.cons (rx.mono l2) rs))))
def ig (ms : List (M D)) : M D := (ak ms).bind fun ds => M.opt (if ds.length ≤ big then some (.tup ds) else none)
def fJ (ms : List (M D)) : M D := (ak ms).bind fun ds => M.opt (if ds.length ≤ big then some (.nl ds) else none)
theorem qC {x1 : Nat} (s : Mi X T W es (ak ms)) : aY X T W (.Tuple es x1 pos) (ig ms) := fun B w σ H fr h Q r1 p =>
 eG (pe_tup Pa) (s B w σ H fr h _ r1 (aO.bind (VR := vA X.K T B σ) p fun ds fr1 h1 w1 H1 vs e1 l1 r1 rs p1 => by
  by_cases hl : ds.length ≤ big
  · rw [if_pos hl] at p1
    exact ⟨by rw [aF.length rs]; exact rA hl, fun q nq => GF r1 rs nq p1⟩
  · rw [if_neg hl] at p1
    exact p1.elim))
theorem lA (s : Mi X T W es (ak ms)) : ph X T W (.List es pos) (fJ ms) := fun B w σ H fr h Q r1 p =>
 eG (pe_lst Pa) (s B w σ H fr h _ r1 (aO.bind (VR := vA X.K T B σ) p fun ds fr1 h1 w1 H1 vs e1 l1 r1 rs p1 => by
  by_cases hl : ds.length ≤ big
  · rw [if_pos hl] at p1
    exact ⟨by rw [aF.length rs]; exact rA hl, fun q nq => GJ r1 rs nq p1⟩
  · rw [if_neg hl] at p1
    exact p1.elim))
end
end Pk
namespace Pk
open PySem PySem.Spec L2
section
variable {X : Cx} {T : Tb} {W : WX} {k : Nat} {e a b c o : Expr} {es : List Expr} {m ma mb mc : M D} {pos p2 pf : Pos}
def bT (h : Hh) (d i : D) : Option D := match d, i with
 | .str z, .int i => if z.length ≤ big then (atI z.cps.toList i).map fun c => .str ⟨#[c]⟩ else none
 | d, .int i => match d.its h with
   | some l => atI l i
   | none => none
 | _, _ => none
def ixM (X : Cx) : R2 := fun x y H Q => ∀ value slice pins s σ v u, Inv X pins σ H s → RelV x v → RelV y u → subscripted slice false v u = operate [v, u] (getItem v u) → wpAny (model X.prog X.w) X.A (PyProof.Rows.subscriptTail value slice v u) (EP X pins σ Q) X.xe s
theorem adz : IxR X (ixM X) := fun value slice pins s σ H x y v u Q I rx ry h hs => h value slice pins s σ v u I rx ry hs
theorem ZF {r : R2} (o : IxR X r) {x y : V} {H : Hp} {Q : VK} (h : r x y H Q) : ixM X x y H Q := fun value slice pins s σ v u I rx ry hs => o value slice pins s σ H x y v u Q I rx ry h hs
theorem agT {K : PySem.W.Frag} {w : Wd} {vs : List V} {ds : List D} {i : Int} {d : D} (r : aF K T w vs ds) (e : atI ds i = some d) : ∃ v, atI vs i = some v ∧ bQ K T w v d := by
 unfold atI at e ⊢
 rw [r.length]
 cases q : ixN ds.length i with
 | none => rw [q] at e; cases e
 | some j =>
   rw [q] at e
   exact r.get (show ds[j]? = some d from e)
theorem ZG {K : PySem.W.Frag} {B : Bs} {σ : L2.St} {w : Wd} {H : Hp} {fr : Fr} {v : V} {z : Str} (r : vO K T B σ w H fr v (.str z)) : v = .str z := by
 rcases r with r | ⟨_, _, _, _, r⟩
 · exact Ac r
 · cases r
theorem adA {B : Bs} {w : Wd} {σ : L2.St} {H : Hp} {fr : Fr} {h : Hh} {x y : V} {d i z : D} {Q : VK} (R : Rel X.K T B w σ H fr h) (rx : vO X.K T B σ w H fr x d) (ry : bQ X.K T w y i) (q : bT h d i = some z)
 (k : ∀ v, bQ X.K T w v z → Q v H) : ixM X x y H Q := by
 unfold bT at q
 split at q
 · rename_i z' i'
   split at q
   · rename_i hl
     obtain ⟨c, ec, rfl⟩ := Option.map_eq_some_iff.mp q
     rw [ZG rx, lu ry]
     exact ZF ix_str ⟨z', i', c, rfl, rfl, rA hl, ec, k _ (.str _)⟩
   · cases q
 · rename_i i' _
   split at q
   · rename_i l el
     obtain ⟨p, vs, rfl, rl, sq⟩ := Cu R rx el
     obtain ⟨v, ev, rv⟩ := agT rl q
     rw [lu ry]
     rcases sq with sq | sq
     · exact ZF ix_list ⟨p, vs, i', v, rfl, rfl, sq, ev, k v rv⟩
     · exact ZF ix_tup ⟨p, vs, i', v, rfl, rfl, sq, ev, k v rv⟩
   · cases q
 · cases q
theorem Pu (sa : aY X T W a ma) (sb : aY X T W b mb) (hs : PlainIx b := by intro _ _; rfl) : aY X T W (.Subscript a b pos) (aC bT ma mb) := fun B w σ H fr h Q r1 p =>
 eG (pe_ix adz bF bF hs) (W7 (VR := vV) sa sb (fun B w σ H fr h x y d e z Q R rx ry q k => adA R (.inl rx) ry q fun v rv => k w H v (Wd.le_refl _) R rv) B w σ H fr h Q r1 p)
def iY (i : Nat) : M Unit := fun fr h => match fr[i]? with
 | some (some _) => .ok () fr h
 | _ => .err
def bM {α : Type} (i : Nat) (m : M α) (f : Hh → D → α → Option D) : M D := (iY i).bind fun _ => m.bind fun y => (au i).bind fun d fr h => M.opt (f h d y) fr h
theorem ZJ {K : PySem.W.Frag} {B : Bs} {w : Wd} {σ : L2.St} {H : Hp} {fr : Fr} {h : Hh} {i : Nat} {α β : Type} {VR : Wd → Hp → Fr → β → α → Prop} {m : M α} {Q : β → Hp → Prop} (R : Rel K T B w σ H fr h) (p : aO K T B W VR w σ ((iY i).bind (fun _ => m) fr h) Q) :
 (∃ v, σ[i]? = some (some v)) ∧ aO K T B W VR w σ (m fr h) Q := by
 cases e1 : fr[i]? with
 | none =>
   have q : iY i fr h = .err := by unfold iY; rw [e1]
   rw [M.bind_err q] at p
   exact p.elim
 | some o =>
   cases o with
   | none =>
     have q : iY i fr h = .err := by unfold iY; rw [e1]
     rw [M.bind_err q] at p
     exact p.elim
   | some d =>
     have q : iY i fr h = .ok () fr h := by unfold iY; rw [e1]
     rw [M.bind_ok q] at p
     obtain ⟨v, e2, z⟩ := iQ R e1
     exact ⟨⟨v, e2⟩, p⟩
theorem TQ {K : PySem.W.Frag} {B : Bs} {w : Wd} {σ : L2.St} {H : Hp} {fr : Fr} {h : Hh} {i : Nat} {v : V} {α β : Type} {VR : Wd → Hp → Fr → β → α → Prop} {f : D → M α} {Q : β → Hp → Prop} (R : Rel K T B w σ H fr h) (ev : σ[i]? = some (some v))
 (p : aO K T B W VR w σ ((au i).bind f fr h) Q) : ∃ d, vO K T B σ w H fr v d ∧ aO K T B W VR w σ (f d fr h) Q := by
 cases e1 : fr[i]? with
 | none =>
   have q : au i fr h = .err := by unfold au; rw [e1]
   rw [M.bind_err q] at p
   exact p.elim
 | some o =>
   cases o with
   | none =>
     have q : au i fr h = .err := by unfold au; rw [e1]
     rw [M.bind_err q] at p
     exact p.elim
   | some d =>
     have q : au i fr h = .ok d fr h := by unfold au; rw [e1]
     rw [M.bind_ok q] at p
     obtain ⟨v', e2, z⟩ := iQ R e1
     rw [ev] at e2
     cases e2
     refine ⟨d, ?_, p⟩
     cases z with
     | val rd => exact .inl rd
     | own O eH rd => exact .inr ⟨_, _, rfl, eH, rd⟩
theorem dN (i : Nat) {x : Str} {px : Pos} (sb : aY X T W b mb) (hs : PlainIx b := by intro _ _; rfl) (hN : X.N[i]? = some x := by rfl) (hv : Vis X.env.scope x := by first | exact Or.inl rfl | exact Or.inr (Or.inl rfl) | exact Or.inr (Or.inr rfl)) (hd : (x == ("__debug__" : Str)) = false := by decide)
 (hcd : (x == ("__classdict__" : Str)) = false := by decide) : aY X T W (.Subscript (.Name x px) b pos) (bM i mb bT) := fun B w σ H fr h Q r1 p => by
 obtain ⟨⟨v, ev⟩, p⟩ := ZJ r1 p
 refine eG (pe_ix adz (pe_var hN hv hd hcd) bF hs) ⟨v, ev, sb B w σ H fr h _ r1 (aO.bind (VR := vV X.K T B σ) p fun y fr1 h1 w1 H1 u e1 l1 r2 ru p1 => ?_)⟩
 obtain ⟨d, rd, p2⟩ := TQ r2 ev p1
 cases q : bT h1 d y with
 | none => rw [q] at p2; exact p2.elim
 | some z =>
   rw [q] at p2
   exact adA r2 rd ru q fun v' rv => p2 w1 H1 v' (Wd.le_refl _) r2 rv
def slM (X : Cx) : V → Option Int → Option Int → Hp → VK → Prop := fun x lo hi H Q => ∀ pins s σ v vl vu sl, Inv X pins σ H s → RelV x v → s.heap.IsSliceOf sl vl vu .none → IsPart vl lo → IsPart vu hi →
    ∃ T id, typeLookup (.type T) "__getitem__" = pure (some (.builtin id)) ∧ s.TypeIs v T ∧ wpAny (model X.prog X.w) X.A (getItem v (.ref sl)) (EP X pins σ Q) X.xe s
theorem aiv : SlR X (slM X) := fun pins s σ H x v vl vu lo hi sl Q I rx hs pl pu h => h pins s σ v vl vu sl I rx hs pl pu
theorem ZK {r : V → Option Int → Option Int → Hp → VK → Prop} (o : SlR X r) {x : V} {lo hi : Option Int} {H : Hp} {Q : VK} (h : r x lo hi H Q) : slM X x lo hi H Q := fun pins s σ v vl vu sl I rx hs pl pu => o pins s σ H x v vl vu lo hi sl Q I rx hs pl pu h
def WO (X : Cx) (e : Option Expr) : TO := fun σ H Q => ∀ pins s, Inv X pins σ H s → wpAny (model X.prog X.w) X.A (evalPart e X.env) (fun u s' => ∃ o H', Inv X pins σ H' s' ∧ IsPart u o ∧ Q o H') X.xe s
theorem adB {e : Option Expr} : PO X e (WO X e) := ⟨fun pins s σ H Q I h => h pins s I⟩
theorem agx {e : Option Expr} {t : TO} (p : PO X e t) {σ : L2.St} {H : Hp} {Q : Option Int → Hp → Prop} (h : t σ H Q) : WO X e σ H Q := fun pins s I => p.run pins s σ H Q I h
def vI : jY (Option Int) (Option Int) := fun _ _ _ _ _ _ _ b c => b = c
abbrev acJ (X : Cx) (T : Tb) (W : WX) (e : Option Expr) (m : M (Option Int)) : Prop := iT (WO X e) X.K T W vI m
def Px : M (Option Int) := M.ret none
def KH (m : M D) : M (Option Int) := m.bind fun d => M.opt (match d with | .int i => some (some i) | _ => none)
theorem Ro : acJ X T W none Px := fun B w σ H fr h Q r p => agx po_none (p w H _ (Wd.le_refl _) r rfl)
theorem Rp (s : aY X T W e m) : acJ X T W (some e) (KH m) := fun B w σ H fr h Q r p =>
 agx (po_some bF) (s B w σ H fr h _ r (aO.bind (VR := vV X.K T B σ) p fun d fr1 h1 w1 H1 x e1 l1 r1 rx p1 => by
  cases rx with
  | int i => exact ⟨i, rfl, p1 w1 H1 _ (Wd.le_refl _) r1 rfl⟩
  | _ => exact (show False from p1).elim))
def cutD {α : Type} (xs : List α) (lo hi : Option Int) : List α := (xs.drop (HT.sIx xs.length 0 lo)).take (HT.sIx xs.length xs.length hi - HT.sIx xs.length 0 lo)
theorem abX {K : PySem.W.Frag} {w : Wd} {vs : List V} {ds : List D} {lo hi : Option Int} (r : aF K T w vs ds) : aF K T w (cutV vs lo hi) (cutD ds lo hi) := by
 unfold cutV cutD
 rw [r.length]
 exact (r.drop _).take _
def uX (h : Hh) (d : D) (p : Option Int × Option Int) : Option D := match d with
 | .str z => if z.length ≤ big then some (.str (cutS z p.1 p.2)) else none
 | .tup l => some (.tup (cutD l p.1 p.2))
 | d => match d.der h with
   | .fl l => some (.nl (cutD l p.1 p.2))
   | .nl l => some (.nl (cutD l p.1 p.2))
   | .kl l => some (.nl (cutD l p.1 p.2))
   | _ => none
theorem adC {α : Type} {xs : List α} {lo hi : Option Int} (h1 : HT.sIx xs.length 0 lo = 0) (h2 : HT.sIx xs.length xs.length hi = xs.length) : cutD xs lo hi = xs := by
 unfold cutD
 rw [h1, h2, List.drop_zero, Nat.sub_zero, List.take_length]
theorem KJ {K : PySem.W.Frag} {B : Bs} {w : Wd} {σ : L2.St} {H : Hp} {fr : Fr} {h : Hh} {v : V} {d : D} {l : List D} (R : Rel K T B w σ H fr h) (z : vO K T B σ w H fr v d) (e : d.der h = .fl l ∨ d.der h = .nl l ∨ d.der h = .kl l) :
 ∃ p vs, v = .ref p ∧ aF K T w vs l ∧ SqL K H p vs := by
 rcases z with z | ⟨p, o, rfl, eH, z⟩
 · cases z with
   | fl s r =>
     rcases e with e | e | e <;> cases e
     exact ⟨_, _, rfl, r, SqL.of (R.sub _ _ s)⟩
   | kl s r =>
     rcases e with e | e | e <;> cases e
     exact ⟨_, _, rfl, r, nU R.sub s⟩
   | @ref a n s =>
     have ln : n < h.length := by
      rw [← R.len]
      exact (List.getElem?_eq_some_iff.mp s).1
     obtain ⟨o, q, rr⟩ := R.cel n a h[n] s (aoc ln)
     have e0 : D.der h (.ref n) = h[n] := by
      unfold D.der
      dsimp only
      rw [aoc ln]
      rfl
     rw [e0] at e
     generalize h[n] = c at rr e
     cases rr with
     | lst r =>
       rcases e with e | e | e <;> cases e
       exact ⟨_, _, rfl, r, SqL.of q⟩
     | obj r => rcases e with e | e | e <;> cases e
     | dct _ r => rcases e with e | e | e <;> cases e
     | dkt _ r => rcases e with e | e | e <;> cases e
   | _ => rcases e with e | e | e <;> cases e
 · cases z with
   | lst r =>
     rcases e with e | e | e <;> cases e
     exact ⟨_, _, rfl, r, SqL.of eH⟩
   | obj r => rcases e with e | e | e <;> cases e
theorem aiw {B : Bs} {w : Wd} {σ : L2.St} {H : Hp} {fr : Fr} {h : Hh} {x : V} {d z : D} {lo hi : Option Int} {Q : VK} (R : Rel X.K T B w σ H fr h) (rx : vO X.K T B σ w H fr x d) (q : uX h d (lo, hi) = some z)
 (k : ∀ w' H' v, w.le w' → Rel X.K T B w' σ H' fr h → vE X.K T B σ w' H' fr v z → Q v H') : slM X x lo hi H Q := by
 have fin : ∀ {l : List D}, (d.der h = .fl l ∨ d.der h = .nl l ∨ d.der h = .kl l) → z = .nl (cutD l lo hi) → slM X x lo hi H Q := fun {l} el ez => by
  obtain ⟨p, vs, rfl, rl, sq⟩ := KJ R rx el
  subst ez
  exact ZK sl_list ⟨p, vs, rfl, sq, fun q nq => GJ R (abX rl) nq k⟩
 unfold uX at q
 split at q
 · split at q
   · rename_i hl
     cases q
     rw [ZG rx]
     exact ZK sl_str ⟨_, rfl, rA hl, k w H _ (Wd.le_refl _) R (.inl (.str _))⟩
   · cases q
 · cases q
   rcases rx with rx | ⟨_, _, _, _, r⟩
   · obtain ⟨p, vs, rfl, s, rl⟩ := wA rx
     refine ZK sl_tupA ⟨p, vs, rfl, fX R.sub s, fun hw => ?_, fun _ q nq => GF R (abX rl) nq fun w' H' v l R' r' => k w' H' v l R' (.inl r')⟩
     rw [rl.length] at hw
     refine k w H _ (Wd.le_refl _) R (.inl ?_)
     rw [adC hw.1 hw.2]
     exact rx
   · cases r
 · split at q
   · rename_i l el
     exact fin (.inl el) (by cases q; rfl)
   · rename_i l el
     exact fin (.inr (.inl el)) (by cases q; rfl)
   · rename_i l el
     exact fin (.inr (.inr el)) (by cases q; rfl)
   · cases q
def wY (ml mh : M (Option Int)) : M (Option Int × Option Int) := ml.bind fun l => mh.bind fun u => M.ret (l, u)
variable {lo hi : Option Expr} {ml mh : M (Option Int)}
theorem Rr (i : Nat) {x : Str} {px : Pos} (sl : acJ X T W lo ml) (sh : acJ X T W hi mh) (hN : X.N[i]? = some x := by rfl) (hv : Vis X.env.scope x := by first | exact Or.inl rfl | exact Or.inr (Or.inl rfl) | exact Or.inr (Or.inr rfl)) (hd : (x == ("__debug__" : Str)) = false := by decide)
 (hcd : (x == ("__classdict__" : Str)) = false := by decide) : ph X T W (.Subscript (.Name x px) (.Slice lo hi none p2) pos) (bM i (wY ml mh) uX) := fun B w σ H fr h Q r1 p => by
 obtain ⟨⟨v, ev⟩, p⟩ := ZJ r1 p
 have p0 : aO X.K T B W (vE X.K T B σ) w σ ((ml.bind fun l => mh.bind fun u => (au i).bind fun d fr h => M.opt (uX h d (l, u)) fr h) fr h) Q := by
  have e : (wY ml mh).bind (fun y => (au i).bind fun d fr h => M.opt (uX h d y) fr h) fr h = (ml.bind fun l => mh.bind fun u => (au i).bind fun d fr h => M.opt (uX h d (l, u)) fr h) fr h := by
   unfold wY M.bind
   cases ml fr h with
   | ok l fr1 h1 => dsimp only; cases mh fr1 h1 <;> rfl
   | exc _ _ _ => rfl
   | err => rfl
  rw [← e]
  exact p
 refine eG (pe_slice aiv (pe_var hN hv hd hcd) adB adB) ⟨v, ev, sl B w σ H fr h _ r1 (aO.bind (VR := vI X.K T B σ) p0 fun l fr1 h1 w1 H1 l' e1 l1 r2 rl p1 => sh B w1 σ H1 fr1 h1 _ r2 (aO.bind (VR := vI X.K T B σ) p1 fun u fr2 h2 w2 H2 u' e2 l2 r3 ru p2 => ?_))⟩
 have rl' : l' = l := rl
 have ru' : u' = u := ru
 subst rl' ru'
 obtain ⟨d, rd, p3⟩ := TQ r3 ev p2
 cases q : uX h2 d (l', u') with
 | none => rw [q] at p3; exact p3.elim
 | some z =>
   rw [q] at p3
   exact aiw r3 rd q p3
def amP (ma : M D) (ml mh : M (Option Int)) : M D := ma.bind fun d => ml.bind fun l => mh.bind fun u fr h => M.opt (uX h d (l, u)) fr h
variable {x : Str}
theorem acK {VR1 VR : jY V D} {id : String} {f : Hh → D → Option D} (sa : iT (WE X a) X.K T W VR1 ma) (hr : ∀ B w σ H fr h x d z Q, Rel X.K T B w σ H fr h → VR1 X.K T B σ w H fr x d → f h d = some z → (∀ w' H' v, w.le w' → Rel X.K T B w' σ H' fr h → VR X.K T B σ w' H' fr v z → Q v H') → cM X (.builtin id) [x] H Q)
 (hm : X.mg x = none) (hg : Gl X x := by rfl) (hv : bootBuiltins x = some (.builtin id) := by decide +kernel) (hn : x ≠ "__name__" := by decide) (hdb : (x == ("__debug__" : Str)) = false := by decide)
 (he : starEach (a :: []) X.env = (false, eval a X.env) :: starEach [] X.env := by exact eY rfl) (hpl : (backTo pos (starEach [] X.env)).any (·.1) = false := by rfl) : iT (WE X (.Call (.Name x pf) [a] [] pos)) X.K T W VR (aA f ma) := fun B w σ H fr h Q r1 p =>
 eG (pe_callB Mh hg hm hv (pa_cons bF pa_nil he) hn hdb he hpl) (acH (r := fun x H Q => cM X (.builtin id) [x] H Q) sa hr B w σ H fr h Q r1 p)
theorem ae5 {VR1 VR : jY V D} {id : String} {f : Hh → D → Option D} (sa : iT (WE X a) X.K T W VR1 ma) (hr : ∀ B w σ H fr h x d z Q, Rel X.K T B w σ H fr h → VR1 X.K T B σ w H fr x d → f h d = some z → (∀ w' H' v, w.le w' → Rel X.K T B w' σ H' fr h → VR X.K T B σ w' H' fr v z → Q v H') → cM X (.type id) [x] H Q)
 (hm : X.mg x = none) (hg : Gl X x := by rfl) (hv : bootBuiltins x = some (.type id) := by decide +kernel) (hn : x ≠ "__name__" := by decide) (hdb : (x == ("__debug__" : Str)) = false := by decide)
 (he : starEach (a :: []) X.env = (false, eval a X.env) :: starEach [] X.env := by exact eY rfl) (hpl : (backTo pos (starEach [] X.env)).any (·.1) = false := by rfl) : iT (WE X (.Call (.Name x pf) [a] [] pos)) X.K T W VR (aA f ma) := fun B w σ H fr h Q r1 p =>
 eG (pe_callTy Mh hg hm hv (pa_cons bF pa_nil he) hn hdb he hpl) (acH (r := fun x H Q => cM X (.type id) [x] H Q) sa hr B w σ H fr h Q r1 p)
def bW (h : Hh) (d : D) : Option D := match d with
 | .str z => if z.length ≤ big then some (.int z.length) else none
 | d => (d.its h).map fun l => .int l.length
theorem lX (sa : JK X T W a ma) (hm : X.mg "len" = none) (hg : Gl X "len" := by rfl) (he : starEach (a :: []) X.env = (false, eval a X.env) :: starEach [] X.env := by exact eY rfl) : aY X T W (.Call (.Name "len" pf) [a] [] pos) (aA bW ma) :=
 acK (id := "len") sa (fun B w σ H fr h x d z Q R rx q k => by
  unfold bW at q
  split at q
  · split at q
    · rename_i hl
      cases q
      rw [ZG rx]
      exact jQ call_len_str ⟨_, rfl, rA hl, k w H _ (Wd.le_refl _) R (.int _)⟩
    · cases q
  · obtain ⟨l, el, rfl⟩ := Option.map_eq_some_iff.mp q
    obtain ⟨p, vs, rfl, rl, sq⟩ := Cu R rx el
    refine jQ call_len_seq ⟨p, vs, rfl, sq, ?_⟩
    rw [rl.length]
    exact k w H _ (Wd.le_refl _) R (.int _)) hm hg (by decide +kernel) (by decide) (by decide) he
def sH (_ : Hh) (d : D) : Option D := match d with
 | .int i => some (.int i)
 | .bl b => some (.int (if b then 1 else 0))
 | .str z => if z.length ≤ 640 then (PySem.intText? z).map .int else none
 | _ => none
theorem Cy (sa : aY X T W a ma) (hm : X.mg "int" = none) (hg : Gl X "int" := by rfl) (he : starEach (a :: []) X.env = (false, eval a X.env) :: starEach [] X.env := by exact eY rfl) : aY X T W (.Call (.Name "int" pf) [a] [] pos) (aA sH ma) :=
 ae5 (id := "int") sa (fun B w σ H fr h x d z Q R rx q k => by
  unfold sH at q
  split at q
  · cases q
    rw [lu rx]
    exact jQ call_int1 (.inl ⟨_, rfl, k w H _ (Wd.le_refl _) R (.int _)⟩)
  · cases q
    rw [adu rx]
    exact jQ call_int1 (.inr ⟨_, rfl, k w H _ (Wd.le_refl _) R (.int _)⟩)
  · split at q
    · rename_i hl
      obtain ⟨n, en, rfl⟩ := Option.map_eq_some_iff.mp q
      rw [Ac rx]
      exact jQ call_int_str ⟨_, n, rfl, en, hl, k w H _ (Wd.le_refl _) R (.int _)⟩
    · cases q
  · cases q) hm hg (by decide +kernel) (by decide) (by decide) he
def TV (_ : Hh) (d : D) : Option D := match d with
 | .int i => some (.int (if i < 0 then -i else i))
 | _ => none
theorem adD (sa : aY X T W a ma) (hm : X.mg "abs" = none) (hg : Gl X "abs" := by rfl) (he : starEach (a :: []) X.env = (false, eval a X.env) :: starEach [] X.env := by exact eY rfl) : aY X T W (.Call (.Name "abs" pf) [a] [] pos) (aA TV ma) :=
 acK (id := "abs") sa (fun B w σ H fr h x d z Q R rx q k => by
  unfold TV at q
  split at q
  · cases q
    rw [lu rx]
    exact jQ call_abs ⟨_, rfl, k w H _ (Wd.le_refl _) R (.int _)⟩
  · cases q) hm hg (by decide +kernel) (by decide) (by decide) he
def gh (h : Hh) (d : D) : Option D := (d.its h).map .nl
theorem GP (sa : JK X T W a ma) (hm : X.mg "list" = none) (hg : Gl X "list" := by rfl) (he : starEach (a :: []) X.env = (false, eval a X.env) :: starEach [] X.env := by exact eY rfl) : ph X T W (.Call (.Name "list" pf) [a] [] pos) (aA gh ma) :=
 ae5 (id := "list") sa (fun B w σ H fr h x d z Q R rx q k => by
  obtain ⟨l, el, rfl⟩ := Option.map_eq_some_iff.mp q
  obtain ⟨p, vs, rfl, rl, sq⟩ := Cu R rx el
  exact jQ call_list_of ⟨p, vs, rfl, sq, fun q nq => GJ R rl nq k⟩) hm hg (by decide +kernel) (by decide) (by decide) he
def rC (h : Hh) (d : D) : Option D := (d.its h).map .tup
theorem zY (sa : JK X T W a ma) (hm : X.mg "tuple" = none) (hg : Gl X "tuple" := by rfl) (he : starEach (a :: []) X.env = (false, eval a X.env) :: starEach [] X.env := by exact eY rfl) : aY X T W (.Call (.Name "tuple" pf) [a] [] pos) (aA rC ma) :=
 ae5 (id := "tuple") sa (fun B w σ H fr h x d z Q R rx q k => by
  obtain ⟨l, el, rfl⟩ := Option.map_eq_some_iff.mp q
  cases hd : d.der h with
  | tup l' =>
    have ed : d = .tup l' := by
     rcases rx with rx | ⟨_, _, _, _, rr⟩
     · cases rx with
       | tup s r => exact hd
       | @ref a n s =>
         have ln : n < h.length := by
          rw [← R.len]
          exact (List.getElem?_eq_some_iff.mp s).1
         obtain ⟨o, q, rr⟩ := R.cel n a h[n] s (aoc ln)
         have e0 : D.der h (.ref n) = h[n] := by
          unfold D.der
          dsimp only
          rw [aoc ln]
          rfl
         rw [e0] at hd
         rw [hd] at rr
         cases rr
       | _ => cases hd
     · cases rr <;> cases hd
    subst ed
    cases el
    rcases rx with rx | ⟨_, _, _, _, rr⟩
    · obtain ⟨p, vs, rfl, s, rl⟩ := wA rx
      exact jQ call_tuple_of ⟨p, vs, rfl, .inr ⟨fX R.sub s, k w H _ (Wd.le_refl _) R rx⟩⟩
    · cases rr
  | _ =>
    have el' := el
    unfold D.its at el'
    rw [hd] at el'
    first
     | (cases el'; done)
     | (cases el'
        obtain ⟨p, vs, rfl, rl, sq⟩ := KJ R rx (by first | exact .inl hd | exact .inr (.inl hd) | exact .inr (.inr hd))
        exact jQ call_tuple_of ⟨p, vs, rfl, .inl ⟨sq, fun q nq => GF R rl nq k⟩⟩)) hm hg (by decide +kernel) (by decide) (by decide) he
def D.ints : List D → Option (List Int)
 | [] => some []
 | .int i :: r => (D.ints r).map (i :: ·)
 | _ :: _ => none
theorem ints_map : ∀ {l : List D} {is : List Int}, D.ints l = some is → l = is.map D.int
 | [], is, e => by cases e; rfl
 | d :: r, is, e => by
   cases d with
   | int i =>
     unfold D.ints at e
     obtain ⟨js, ej, rfl⟩ := Option.map_eq_some_iff.mp e
     rw [ints_map ej]
     rfl
   | _ => cases e
def D.lints (h : Hh) (d : D) : Option (List Int) := match d.der h with
 | .fl l => D.ints l
 | .nl l => D.ints l
 | .kl l => D.ints l
 | _ => none
theorem Yc {K : PySem.W.Frag} {B : Bs} {w : Wd} {σ : L2.St} {H : Hp} {fr : Fr} {h : Hh} {v : V} {d : D} {is : List Int} (R : Rel K T B w σ H fr h) (z : vO K T B σ w H fr v d) (e : d.lints h = some is) : ∃ p, v = .ref p ∧ SqL K H p (is.map V.int) := by
 unfold D.lints at e
 split at e
 · rename_i l el
   obtain ⟨p, vs, rfl, rl, sq⟩ := KJ R z (.inl el)
   rw [ints_map e] at rl
   rw [rl.ints] at sq
   exact ⟨p, rfl, sq⟩
 · rename_i l el
   obtain ⟨p, vs, rfl, rl, sq⟩ := KJ R z (.inr (.inl el))
   rw [ints_map e] at rl
   rw [rl.ints] at sq
   exact ⟨p, rfl, sq⟩
 · rename_i l el
   obtain ⟨p, vs, rfl, rl, sq⟩ := KJ R z (.inr (.inr el))
   rw [ints_map e] at rl
   rw [rl.ints] at sq
   exact ⟨p, rfl, sq⟩
 · cases e
def ae6 (h : Hh) (d : D) : Option D := (d.lints h).map fun l => .int l.sum
def acL : Int → List Int → Int
 | a, [] => a
 | a, b :: r => acL (if b > a then b else a) r
def aix : Int → List Int → Int
 | a, [] => a
 | a, b :: r => aix (if b < a then b else a) r
def ajZ (h : Hh) (d : D) : Option D := match d.lints h with
 | some (a :: r) => some (.int (acL a r))
 | _ => none
def al5 (h : Hh) (d : D) : Option D := match d.lints h with
 | some (a :: r) => some (.int (aix a r))
 | _ => none
theorem ae7 {VR2 VR : jY V D} {id : String} {f : Hh → D → D → Option D} (sa : aY X T W a ma) (sb : iT (WE X b) X.K T W VR2 mb)
 (hr : ∀ B w σ H fr h x y d e z Q, Rel X.K T B w σ H fr h → bQ X.K T w x d → VR2 X.K T B σ w H fr y e → f h d e = some z → (∀ w' H' v, w.le w' → Rel X.K T B w' σ H' fr h → VR X.K T B σ w' H' fr v z → Q v H') → cM X (.builtin id) [x, y] H Q)
 (hm : X.mg x = none) (hg : Gl X x := by rfl) (hv : bootBuiltins x = some (.builtin id) := by decide +kernel) (hn : x ≠ "__name__" := by decide) (hdb : (x == ("__debug__" : Str)) = false := by decide)
 (he : starEach (a :: b :: []) X.env = (false, eval a X.env) :: starEach (b :: []) X.env := by exact eY rfl) (he2 : starEach (b :: []) X.env = (false, eval b X.env) :: starEach [] X.env := by exact eY rfl)
 (hpl : (backTo pos (starEach (b :: []) X.env)).any (·.1) = false := by rfl) : iT (WE X (.Call (.Name x pf) [a, b] [] pos)) X.K T W VR (aC f ma mb) := fun B w σ H fr h Q r1 p =>
 eG (pe_callB Mh hg hm hv (pa_cons bF (pa_cons bF pa_nil he2) he) hn hdb he hpl) (W7 (r := fun x y H Q => cM X (.builtin id) [x, y] H Q) sa sb hr B w σ H fr h Q r1 p)
abbrev Vc := dU ie fun i j => if j > i then j else i
abbrev Vd := dU ie fun i j => if j < i then j else i
theorem agU (C : Cq X T W k) (sa : aY X T W a ma) (sb : aY X T W b mb) (hm : X.mg "max" = none) (hg : Gl X "max" := by rfl) (he : starEach (a :: b :: []) X.env = (false, eval a X.env) :: starEach (b :: []) X.env := by exact eY rfl) (he2 : starEach (b :: []) X.env = (false, eval b X.env) :: starEach [] X.env := by exact eY rfl)
 (hpl : (backTo pos (starEach (b :: []) X.env)).any (·.1) = false := by rfl) : aY X T W (.Call (.Name "max" pf) [a, b] [] pos) (aC Vc ma mb) :=
 ae7 (id := "max") sa sb (fun B w σ H fr h x y d e z Q R rx ry q kk => by
  unfold Vc dU at q
  split at q
  · cases q
    rw [lu rx, lu ry]
    exact jQ (call_max2 C.calm) ⟨_, _, rfl, kk w H _ (Wd.le_refl _) R (.int _)⟩
  · cases q) hm hg (by decide +kernel) (by decide) (by decide) he he2 hpl
theorem agV (C : Cq X T W k) (sa : aY X T W a ma) (sb : aY X T W b mb) (hm : X.mg "min" = none) (hg : Gl X "min" := by rfl) (he : starEach (a :: b :: []) X.env = (false, eval a X.env) :: starEach (b :: []) X.env := by exact eY rfl) (he2 : starEach (b :: []) X.env = (false, eval b X.env) :: starEach [] X.env := by exact eY rfl)
 (hpl : (backTo pos (starEach (b :: []) X.env)).any (·.1) = false := by rfl) : aY X T W (.Call (.Name "min" pf) [a, b] [] pos) (aC Vd ma mb) :=
 ae7 (id := "min") sa sb (fun B w σ H fr h x y d e z Q R rx ry q kk => by
  unfold Vd dU at q
  split at q
  · cases q
    rw [lu rx, lu ry]
    exact jQ (call_min2 C.calm) ⟨_, _, rfl, kk w H _ (Wd.le_refl _) R (.int _)⟩
  · cases q) hm hg (by decide +kernel) (by decide) (by decide) he he2 hpl
end
end Pk
namespace Pk
open PySem PySem.Spec L2
def Bs.pr (B : Bs) (p : Addr) (o : HO) : Bs := ⟨B.w0, B.H0, (p, o) :: B.P, B.me⟩
section
variable {K : PySem.W.Frag} {T : Tb} {B : Bs} {w w' : Wd} {σ : L2.St} {H H' : Hp} {fr : Fr} {h : Hh} {p : Addr} {o : HO}
theorem Own.pr (O : Own B w p) {q : Addr} {u : HO} (hq : q ≠ p) : Own (B.pr q u) w p := ⟨O.f, O.i, O.e, fun z hz => by
 rcases List.mem_cons.mp hz with e | hz
 · rw [e]
   exact hq
 · exact O.p z hz⟩
theorem Own.unpr {q : Addr} {u : HO} (O : Own (B.pr q u) w p) : Own B w p := ⟨O.f, O.i, O.e, fun z hz => O.p z (aok _ hz)⟩
theorem Rel.protect (R : Rel K T B w σ H fr h) (O : Own B w p) (lo : zG σ fr p) (e : H p = some o) : Rel K T (B.pr p o) w σ H fr h :=
 { R with
   prot := fun q hq => by
    rcases List.mem_cons.mp hq with z | hq
    · rw [z]
      exact ⟨e, O.f, O.i⟩
    · exact R.prot q hq
   sl := fun i s d e1 e2 => by
    have z := R.sl i s d e1 e2
    cases z with
    | none => exact .none
    | val r => exact .val r
    | @own q u _ O' eH' rr =>
      have hne : p ≠ q := fun z => lo i ⟨by rw [z]; exact e1, _, e2, rr.own⟩
      exact .own (O'.pr hne) eH' rr }
theorem Rel.unprotect (R : Rel K T (B.pr p o) w σ H fr h) (e0 : B.H0 p = none) (hP : ∀ q ∈ B.P, q.1 ≠ p) : Rel K T B w σ H fr h ∧ Own B w p ∧ zG σ fr p ∧ H p = some o := by
 obtain ⟨h1, h2, h3⟩ := R.prot (p, o) (aod)
 refine ⟨{ R with prot := fun q hq => R.prot q (aok _ hq), sl := fun i s d e1 e2 => ?_ }, ⟨h2, h3, e0, hP⟩, fun i ⟨q1, d, q2, od⟩ => ?_, h1⟩
 · have z := R.sl i s d e1 e2
   cases z with
   | none => exact .none
   | val r => exact .val r
   | own O' eH' rr => exact .own O'.unpr eH' rr
 · have z := R.sl i _ _ q1 q2
   cases z with
   | val r => exact yr od r
   | own O' eH' rr => exact O'.p (p, o) (aod) rfl
theorem Rel.repr {o' : HO} (R : Rel K T (B.pr p o) w σ H fr h) (e0 : B.H0 p = none) (hP : ∀ q ∈ B.P, q.1 ≠ p) : Rel K T (B.pr p o') w σ (upd H p o') fr h := by
 obtain ⟨R1, O, lo, e⟩ := R.unprotect e0 hP
 refine Rel.protect { R1 with keep := fun a u ha hm => ?_, prot := fun q hq => ?_, sub := fun a u ha => ?_, cel := fun n a c q1 q2 => ?_, sl := fun j s dj q1 q2 => ?_ } O lo upd_same
 · rw [upd_ne (fun z => by rw [z, e0] at ha; cases ha)]
   exact R1.keep a u ha hm
 · obtain ⟨h1, h2, h3⟩ := R1.prot q hq
   exact ⟨by rw [upd_ne (hP q hq)]; exact h1, h2, h3⟩
 · rw [upd_ne (fun z => by rw [z, O.f] at ha; cases ha)]
   exact R1.sub a u ha
 · have hne : a ≠ p := fun z => O.i (by rw [← z]; exact aop q1)
   exact JH.keep (Wd.le_refl w) (upd_ne hne) (R1.cel n a c q1 q2)
 · have z := R1.sl j s dj q1 q2
   cases z with
   | none => exact .none
   | val r => exact .val r
   | @own q u _ O' eH' rr =>
     have hne : q ≠ p := fun z => lo j ⟨by rw [← z]; exact q1, _, q2, rr.own⟩
     exact .own O' (by rw [upd_ne hne]; exact eH') rr
end
def WG (X : Cx) (tg : Expr) : TG := fun v σ H Q => ∀ pins s u, Inv X pins σ H s → RelV v u → wpAny (model X.prog X.w) X.A (assign tg X.env u) (fun _ s' => ∃ σ' H', Inv X pins σ' H' s' ∧ Q σ' H') X.xe s
structure WI (X : Cx) (tg iter : Expr) (σ : L2.St) (H : Hp) (R : It → Hp → Prop) : Prop where
 go : ∀ pins s, Inv X pins σ H s → wpAny (model X.prog X.w) X.A (eval iter X.env) (fun v s1 => wpAny (model X.prog X.w) X.A (pyIter v) (PIE X pins σ tg R) X.xe s1) X.xe s
def Ve (X : Cx) (ifs : List Expr) : TT := fun σ H Q => ∀ pins s, Inv X pins σ H s →
    wpAny (model X.prog X.w) X.A (forIn ifs true fun c r => if r = true then do let ok ← isTrue c X.env (eval c X.env); pure (ForInStep.yield ok) else pure (ForInStep.yield r)) (TP X pins σ Q) X.xe s
section
variable {X : Cx} {tg iter : Expr} {ifs : List Expr}
theorem Vf : PG X tg (WG X tg) := ⟨fun pins s σ H v u Q I r h => h pins s u I r⟩
theorem Py : PI X tg iter (WI X tg iter) := ⟨fun pins s σ H R I h => h.go pins s I⟩
theorem agy {t : TG} (p : PG X tg t) {v : V} {σ : L2.St} {H : Hp} {Q : L2.St → Hp → Prop} (h : t v σ H Q) : WG X tg v σ H Q := fun pins s u I r => p.run pins s σ H v u Q I r h
theorem Vg {t : TI} (p : PI X tg iter t) {σ : L2.St} {H : Hp} {R : It → Hp → Prop} (h : t σ H R) : WI X tg iter σ H R := ⟨fun pins s I => p.run pins s σ H R I h⟩
theorem abY {t : TT} (p : PTs X ifs t) {σ : L2.St} {H : Hp} {Q : Bool → Hp → Prop} (h : t σ H Q) : Ve X ifs σ H Q := fun pins s I => p.run pins s σ H Q I h
end
inductive Cg (K : PySem.W.Frag) (T : Tb) (B : Bs) (σ : L2.St) (w : Wd) (H : Hp) (fr : Fr) : List V → List D → List Addr → Prop where
 | nil : Cg K T B σ w H fr [] [] []
 | val {v : V} {d : D} {vs : List V} {ds : List D} {ps : List Addr} : bQ K T w v d → Cg K T B σ w H fr vs ds ps → Cg K T B σ w H fr (v :: vs) (d :: ds) ps
 | own {p : Addr} {o : HO} {d : D} {vs : List V} {ds : List D} {ps : List Addr} : Own B w p → zG σ fr p → H p = some o → uW K T w o d → p ∉ ps → Cg K T B σ w H fr vs ds ps → Cg K T B σ w H fr (.ref p :: vs) (d :: ds) (p :: ps)
def vEs : jY (List V) (List D) := fun K T B σ w H fr vs ds => ∃ ps, Cg K T B σ w H fr vs ds ps
abbrev Zh (X : Cx) (T : Tb) (W : WX) (es : List Expr) (m : M (List D)) : Prop := iT (WA X es) X.K T W vEs m
theorem Cg.unpr {K : PySem.W.Frag} {T : Tb} {B : Bs} {σ : L2.St} {w : Wd} {H : Hp} {fr : Fr} {p : Addr} {o : HO} {vs : List V} {ds : List D} {ps : List Addr} (x : Cg K T (B.pr p o) σ w H fr vs ds ps) : Cg K T B σ w H fr vs ds ps ∧ p ∉ ps := by
 induction x with
 | nil => exact ⟨.nil, by simp⟩
 | val r _ ih => exact ⟨.val r ih.1, ih.2⟩
 | @own q u d vs ds ps O lo e r nq _ ih =>
   refine ⟨.own O.unpr lo e r nq ih.1, fun z => ?_⟩
   rcases List.mem_cons.mp z with z | z
   · exact O.p (p, o) (aod) z
   · exact ih.2 z
theorem Cg.length {K : PySem.W.Frag} {T : Tb} {B : Bs} {σ : L2.St} {w : Wd} {H : Hp} {fr : Fr} {vs : List V} {ds : List D} {ps : List Addr} (x : Cg K T B σ w H fr vs ds ps) : vs.length = ds.length := by
 induction x with
 | nil => rfl
 | val _ _ ih => exact congrArg Nat.succ ih
 | own _ _ _ _ _ _ ih => exact congrArg Nat.succ ih
theorem aO.pr {α β : Type} {K : PySem.W.Frag} {T : Tb} {B : Bs} {W : WX} {VR VR' : Wd → Hp → Fr → β → α → Prop} {w : Wd} {σ : L2.St} {p : Addr} {o : HO} {r : R α} {Q Q' : β → Hp → Prop} (e0 : B.H0 p = none) (hP : ∀ q ∈ B.P, q.1 ≠ p) (x : aO K T B W VR w σ r Q)
 (k : ∀ d fr h w' H' v, r = .ok d fr h → w.le w' → Rel K T (B.pr p o) w' σ H' fr h → VR' w' H' fr v d → (∀ w2 H2 v2, w.le w2 → Rel K T B w2 σ H2 fr h → VR w2 H2 fr v2 d → Q v2 H2) → Q' v H') : aO K T (B.pr p o) W VR' w σ r Q' := by
 cases r with
 | ok d fr h => exact fun w' H' v l R z => k d fr h w' H' v rfl l R z x
 | exc e fr h => exact fun w' H' c dd l R z => x w' H' c dd l (R.unprotect e0 hP).1 z
 | err => exact x
section
variable {X : Cx} {T : Tb} {W : WX} {e : Expr} {es : List Expr} {m : M D} {ms : List (M D)}
theorem agW : Zh X T W [] (ak []) := fun B w σ H fr h Q r1 p => Zg pa_nil (p w H _ (Wd.le_refl _) r1 ⟨[], .nil⟩)
theorem Hg (s : ph X T W e m) (t : Zh X T W es (ak ms)) (hs : starEach (e :: es) X.env = (false, eval e X.env) :: starEach es X.env := by exact eY rfl) : Zh X T W (e :: es) (ak (m :: ms)) := fun B w σ H fr h Q r1 p =>
 Zg (pa_cons bF Pa hs) (s B w σ H fr h _ r1 (aO.bind (VR := vE X.K T B σ) p fun d fr1 h1 w1 H1 x e1 l1 r1 rx p1 => by
  rcases rx with rx | ⟨q, o, rfl, O, lo, eH, rd⟩
  · exact t B w1 σ H1 fr1 h1 _ r1 (aO.bind (VR := vEs X.K T B σ) p1 fun ds fr2 h2 w2 H2 vs e2 l2 r2 ⟨ps, rs⟩ p2 => p2 w2 H2 _ (Wd.le_refl _) r2 ⟨ps, .val (rx.mono l2) rs⟩)
  · refine t (B.pr q o) w1 σ H1 fr1 h1 _ (r1.protect O lo eH) ?_
    have p1' : aO X.K T B W (vEs X.K T B σ) w1 σ ((ak ms).bind (fun ds => M.ret (d :: ds)) fr1 h1) Q := p1
    cases e2 : ak ms fr1 h1 with
    | ok ds fr2 h2 =>
      rw [M.bind_ok e2] at p1'
      intro w2 H2 vs l2 r2 ⟨ps, rs⟩
      obtain ⟨r3, O3, lo3, eH3⟩ := r2.unprotect O.e O.p
      obtain ⟨rs', np⟩ := rs.unpr
      exact p1' w2 H2 (.ref q :: vs) l2 r3 ⟨q :: ps, .own O3 lo3 eH3 (rd.mono l2) np rs'⟩
    | exc y fr2 h2 =>
      rw [M.bind_exc e2] at p1'
      exact fun w' H' c dd l R z => p1' w' H' c dd l (R.unprotect O.e O.p).1 z
    | err =>
      rw [M.bind_err e2] at p1'
      exact p1'))
end
def Ru (is : List Nat) (σ' σ : L2.St) : Prop := σ'.length = σ.length ∧ ∀ j : Nat, j ∉ is → σ'[j]? = σ[j]?
def Fv (X : Cx) (T : Tb) (is : List Nat) (tg : Expr) (mg : D → M Unit) : Prop := ∀ B w σ H fr h x d (Q : L2.St → Hp → Prop), Rel X.K T B w σ H fr h → bQ X.K T w x d →
 (match mg d fr h with
  | .ok _ fr' h' => ∀ w' σ' H', w.le w' → Rel X.K T B w' σ' H' fr' h' → Ru is σ' σ → Q σ' H'
  | _ => False) → WG X tg x σ H Q
def Zi (X : Cx) (T : Tb) (is : List Nat) (tgs : List Expr) (mg : List D → M Unit) : Prop := ∃ t, PGs X tgs t ∧ ∀ B w σ H fr h xs ds (Q : L2.St → Hp → Prop), Rel X.K T B w σ H fr h → aF X.K T w xs ds →
 (match mg ds fr h with
  | .ok _ fr' h' => ∀ w' σ' H', w.le w' → Rel X.K T B w' σ' H' fr' h' → Ru is σ' σ → Q σ' H'
  | _ => False) → t xs σ H Q
def aK (i : Nat) (d : D) : M Unit := fun fr h => .ok () (fr.set i (some d)) h
def il : List D → M Unit
 | [] => M.ret ()
 | _ => M.opt none
def bu (g : D → M Unit) (gs : List D → M Unit) : List D → M Unit
 | [] => M.opt none
 | d :: ds => (g d).bind fun _ => gs ds
def gM (n : Nat) (gs : List D → M Unit) (d : D) : M Unit := match d with
 | .tup l => if l.length = n then gs l else M.opt none
 | _ => M.opt none
section
variable {X : Cx} {T : Tb} {W : WX} {k : Nat} {pos : Pos} {tg : Expr} {tgs : List Expr} {g : D → M Unit} {gs : List D → M Unit} {is js : List Nat}
theorem bh (C : Cq X T W k) (i : Nat) {x : Str} (hi : X.N[i]? = some x := by rfl) (hx : Loc X.env.scope x := by first | exact Or.inl rfl | exact Or.inr rfl) (hf : X.fn x = true ∨ X.env.scope.names.lookup x = some .local := by first | exact .inl rfl | exact .inr rfl) :
 Fv X T [i] (.Name x pos) (aK i) := fun B w σ H fr h v d Q R rd p => agy (pg_name C.nd hi hx hf) (p w _ H (Wd.le_refl _) (R.set_slot (.val rd) (fun _ _ _ e od => by
 cases e
 exact (yr od rd).elim) fun _ _ e => by
 cases e
 exact Ma rd) ⟨aou, fun j hj => by
  rw [aoq]
  intro e
  exact hj (by simp [e])⟩)
theorem uY : Zi X T [] [] il := ⟨_, pgs_nil, fun B w σ H fr h vs ds Q R rd p => by
 cases rd with
 | nil => exact ⟨rfl, p w σ H (Wd.le_refl _) R ⟨rfl, fun _ _ => rfl⟩⟩
 | cons _ _ => exact p.elim⟩
theorem cQ (s : Fv X T is tg g) (t : Zi X T js tgs gs) (hs : (assignEach (tg :: tgs) X.env).map (·.2) = assign tg X.env :: (assignEach tgs X.env).map (·.2) := by rfl) : Zi X T (is ++ js) (tg :: tgs) (bu g gs) := by
 obtain ⟨u, pu, t⟩ := t
 refine ⟨_, pgs_cons Vf pu hs, fun B w σ H fr h vs ds Q R rd p => ?_⟩
 cases rd with
 | nil => exact p.elim
 | @cons v d vr dr r rr =>
   refine ⟨v, vr, rfl, s B w σ H fr h v d _ R r ?_⟩
   have p' : (match (g d).bind (fun _ => gs dr) fr h with
    | .ok _ fr' h' => ∀ w' σ' H', w.le w' → Rel X.K T B w' σ' H' fr' h' → Ru (is ++ js) σ' σ → Q σ' H'
    | _ => False) := p
   cases e : g d fr h with
   | ok _ fr1 h1 =>
     rw [M.bind_ok e] at p'
     intro w1 σ1 H1 l1 R1 k1
     refine t B w1 σ1 H1 fr1 h1 vr dr Q R1 (rr.mono l1) ?_
     cases e2 : gs dr fr1 h1 with
     | ok _ fr2 h2 =>
       rw [e2] at p'
       exact fun w2 σ2 H2 l2 R2 k2 => p' w2 σ2 H2 (Wd.le_trans l1 l2) R2 ⟨k2.1.trans k1.1, fun j hj => by
        rw [List.mem_append, not_or] at hj
        rw [k2.2 j hj.2, k1.2 j hj.1]⟩
     | exc _ _ _ => rw [e2] at p'; exact p'
     | err => rw [e2] at p'; exact p'
   | exc y fr1 h1 =>
     rw [M.bind_exc e] at p'
     exact p'.elim
   | err =>
     rw [M.bind_err e] at p'
     exact p'.elim
theorem xG (C : Cq X T W k) {kk : Nat} {n : Nat} (t : Zi X T is tgs gs) (hn : (assignEach tgs X.env).length = n := by rfl) (hst : (assignEach tgs X.env).findIdx? (·.1) = none := by rfl) : Fv X T is (.Tuple tgs kk pos) (gM n gs) := by
 obtain ⟨u, pu, t⟩ := t
 refine fun B w σ H fr h x d Q R rd p => agy (pg_tup C.calm pu hn hst) ?_
 cases d with
 | tup l =>
   have p' : (match (if l.length = n then gs l else M.opt none) fr h with
    | .ok _ fr' h' => ∀ w' σ' H', w.le w' → Rel X.K T B w' σ' H' fr' h' → Ru is σ' σ → Q σ' H'
    | _ => False) := p
   by_cases hl : l.length = n
   · rw [if_pos hl] at p'
     obtain ⟨a, vs, rfl, sq, rl⟩ := wA rd
     exact ⟨a, vs, rfl, fX R.sub sq, rl.length.trans hl, t B w σ H fr h vs l Q R rl p'⟩
   · rw [if_neg hl] at p'
     exact p'.elim
 | _ => exact (show False from p).elim
def Mj : List Nat → List D → Fr → Option Fr
 | [], [], fr => some fr
 | i :: is, d :: ds, fr => Mj is ds (fr.set i (some d))
 | _, _, _ => none
theorem Rel.putV {K : PySem.W.Frag} {B : Bs} {w : Wd} {σ : L2.St} {H : Hp} {fr : Fr} {h : Hh} {v : V} {d : D} (R : Rel K T B w σ H fr h) (i : Nat) (r : bQ K T w v d) : Rel K T B w (σ.set i (some v)) H (fr.set i (some d)) h :=
 R.set_slot (.val r) (fun _ _ _ e od => by
  cases e
  exact (yr od r).elim) fun _ _ e => by
  cases e
  exact Ma r
theorem Rel.put {K : PySem.W.Frag} {B : Bs} {w : Wd} {σ : L2.St} {H : Hp} {fr : Fr} {h : Hh} {v : V} {d : D} (R : Rel K T B w σ H fr h) (i : Nat) (hi : i ≠ 0) (x : vE K T B σ w H fr v d) : Rel K T B w (σ.set i (some v)) H (fr.set i (some d)) h := by
 rcases x with r | ⟨p, o, rfl, O, lo, e, r⟩
 · exact R.putV i r
 · exact R.set_slot (.own O e r) (fun q d' e1 e2 od => by
    cases e1
    cases e2
    exact lo) fun z => (hi z).elim
theorem adE {σ : L2.St} {fr : Fr} {i : Nat} {v : V} {d : D} {p : Addr} (lo : zG σ fr p) (hv : d.own = true → v ≠ .ref p) : zG (σ.set i (some v)) (fr.set i (some d)) p := fun j z => by
 obtain ⟨e1, dd, e2, od⟩ := z
 by_cases hj : i = j
 · subst hj
   have l1 : i < σ.length := by
    have := (List.getElem?_eq_some_iff.mp e1).1
    rwa [aou] at this
   have l2 : i < fr.length := by
    have := (List.getElem?_eq_some_iff.mp e2).1
    rwa [aou] at this
   rw [aor l1] at e1
   rw [aor l2] at e2
   cases e1
   cases e2
   exact hv od rfl
 · rw [aoq hj] at e1 e2
   exact lo j ⟨e1, dd, e2, od⟩
theorem Cg.set {K : PySem.W.Frag} {B : Bs} {w : Wd} {σ : L2.St} {H : Hp} {fr : Fr} {vs : List V} {ds : List D} {ps : List Addr} {i : Nat} {v : V} {d : D} (x : Cg K T B σ w H fr vs ds ps) (hv : ∀ p ∈ ps, d.own = true → v ≠ .ref p) :
 Cg K T B (σ.set i (some v)) w H (fr.set i (some d)) vs ds ps := by
 induction x with
 | nil => exact .nil
 | val r _ ih => exact .val r (ih hv)
 | own O lo e r nq _ ih => exact .own O (adE lo (hv _ (aod))) e r nq (ih fun q hq => hv q (aok _ hq))
def Zj (X : Cx) (T : Tb) (is : List Nat) (tgs : List Expr) : Prop := ∃ t, PGs X tgs t ∧ ∀ B w σ H fr fr' h xs ds ps (Q : L2.St → Hp → Prop), Rel X.K T B w σ H fr h → Cg X.K T B σ w H fr xs ds ps → Mj is ds fr = some fr' →
 (∀ σ', Rel X.K T B w σ' H fr' h → Q σ' H) → t xs σ H Q
theorem agX : Zj X T [] [] := ⟨_, pgs_nil, fun B w σ H fr fr' h xs ds ps Q R rs e q => by
 cases rs with
 | nil =>
   cases e
   exact ⟨rfl, q σ R⟩
 | val _ _ => cases e
 | own _ _ _ _ _ _ => cases e⟩
theorem Hi (C : Cq X T W k) (i : Nat) {x : Str} (t : Zj X T is tgs) (hs : (assignEach (.Name x pos :: tgs) X.env).map (·.2) = assign (.Name x pos) X.env :: (assignEach tgs X.env).map (·.2) := by rfl)
 (hi : X.N[i]? = some x := by rfl) (hx : Loc X.env.scope x := by first | exact Or.inl rfl | exact Or.inr rfl) (hf : X.fn x = true ∨ X.env.scope.names.lookup x = some .local := by first | exact .inl rfl | exact .inr rfl) (h0 : i ≠ 0 := by decide) : Zj X T (i :: is) (.Name x pos :: tgs) := by
 obtain ⟨u, pu, t⟩ := t
 refine ⟨_, pgs_cons (pg_name C.nd hi hx hf) pu hs, fun B w σ H fr fr' h xs ds ps Q R rs e q => ?_⟩
 cases rs with
 | nil => cases e
 | val r rr => exact ⟨_, _, rfl, t B w _ H _ fr' h _ _ _ Q (R.put i h0 (.inl r)) (rr.set fun p _ od => (yr od r).elim) e q⟩
 | own O lo eH r nq rr => exact ⟨_, _, rfl, t B w _ H _ fr' h _ _ _ Q (R.put i h0 (.inr ⟨_, _, rfl, O, lo, eH, r⟩)) (rr.set fun p hp _ z => by
  cases z
  exact nq hp) e q⟩
end
def vJ : jY It (List D) := fun K T _ _ w _ _ J ds => ∀ i w1 H1, w.le w1 → (∀ a o, w1.F a = some o → H1 a = some o) →
 (ds.length ≤ i → J.stop i H1) ∧ ∀ d, ds[i]? = some d → J.go i H1 ∧ ∀ x H2, J.yld i H1 x H2 → ∀ B σ fr h, Rel K T B w1 σ H1 fr h → ∃ w2, w1.le w2 ∧ Rel K T B w2 σ H2 fr h ∧ bQ K T w2 x d
abbrev PB (X : Cx) (T : Tb) (W : WX) (tg iter : Expr) (m : M (List D)) : Prop := iT (WI X tg iter) X.K T W vJ m
section
variable {X : Cx} {T : Tb} {W : WX} {k : Nat} {pos p pf tpos : Pos} {tg e a b : Expr} {m ma mb : M D}
def iU (m : M D) : M (List D) := m.bind fun d => M.opt (d.its [])
theorem agY {K : PySem.W.Frag} {w : Wd} {v : V} {d : D} {l : List D} (r : bQ K T w v d) (e : d.its [] = some l) : ∃ p vs, v = .ref p ∧ aF K T w vs l ∧ (SqT K w.F p vs ∨ SqL K w.F p vs) := by
 cases r with
 | tup s r =>
   have e' : some _ = some l := e
   cases e'
   exact ⟨_, _, rfl, r, .inl s⟩
 | fl s r =>
   have e' : some _ = some l := e
   cases e'
   exact ⟨_, _, rfl, r, .inr (SqL.of s)⟩
 | kl s r =>
   have e' : some _ = some l := e
   cases e'
   exact ⟨_, _, rfl, r, .inr s⟩
 | ref s => cases e
 | _ => cases e
def akM (K : PySem.W.Frag) (tl : TE) : TI := fun σ H R => tl σ H fun x H1 => ∃ a, x = .ref a ∧ (((∃ xs, SqT K H1 a xs) ∧ R (Itt K a) H1) ∨ ((∃ xs, SqL K H1 a xs) ∧ R (Itl K a) H1))
open PyProof.Rows in
theorem adF {l : Expr} {tl : TE} (hl : PE X l tl) : PI X tg l (akM X.K tl) := by
 refine ⟨fun pins s σ H R I h => ?_⟩
 refine thn (hl.run pins s σ H _ I h) fun v s1 ⟨x, H1, I1, r1, q1⟩ => ?_
 obtain ⟨a, e, ⟨⟨xs, hq⟩, q⟩ | ⟨⟨xs, hq⟩, q⟩⟩ := q1
 · subst e
   cases r1
   obtain ⟨its, rv, p, hz⟩ := I1.tuple hq
   refine wpAny_pyIter_tuple (show s1.heap.IsTuple a its.toArray from p) ?_
   refine ⟨s1.heap.objs.size, [s1.heap.objs.size], _, _, H1, rfl, I1.kept (t' := s1.toks) fun b o e => Heap.get?_push_of_some _ e, turn_tuple a _, ⟨_, Heap.get?_push_size _ rfl, rfl, rfl⟩, fun b hb => ?_, q⟩
   have e : b = s1.heap.objs.size := by simpa using hb
   subst e
   exact I1.fpOk (Nat.le_refl _) (I1.hok.fresh (Nat.le_refl _))
 · subst e
   cases r1
   obtain ⟨its, rv, p, hz⟩ := I1.list hq
   refine wpAny_pyIter_list p.isList ?_
   refine ⟨s1.heap.objs.size, [s1.heap.objs.size], _, _, H1, rfl, I1.kept (t' := s1.toks) fun b o e => Heap.get?_push_of_some _ e, turn_list a _, ⟨_, Heap.get?_push_size _ rfl, rfl, rfl⟩, fun b hb => ?_, q⟩
   have e : b = s1.heap.objs.size := by simpa using hb
   subst e
   exact I1.fpOk (Nat.le_refl _) (I1.hok.fresh (Nat.le_refl _))
theorem aiy {K : PySem.W.Frag} {B : Bs} {σ : L2.St} {w : Wd} {H : Hp} {fr : Fr} {a : Addr} {vs : List V} {l : List D} (sq : SqT K w.F a vs) (rl : aF K T w vs l) : vJ K T B σ w H fr (Itt K a) l := fun i w2 H2 l2 hs => ⟨fun hi => ⟨vs, fX hs (fX l2.1 sq), by rw [rl.length]; exact hi⟩, fun d' hd => by
 obtain ⟨v, hv, rv⟩ := rl.get hd
 refine ⟨⟨vs, v, fX hs (fX l2.1 sq), hv⟩, fun y H3 hy B' σ' fr' h' R' => ?_⟩
 obtain ⟨rfl, hy⟩ := hy
 have z := hy vs (fX hs (fX l2.1 sq))
 rw [hv] at z
 cases z
 exact ⟨w2, Wd.le_refl _, R', rv.mono l2⟩⟩
theorem aiz {K : PySem.W.Frag} {B : Bs} {σ : L2.St} {w : Wd} {H : Hp} {fr : Fr} {a : Addr} {vs : List V} {l : List D} (sq : SqL K w.F a vs) (rl : aF K T w vs l) : vJ K T B σ w H fr (Itl K a) l := fun i w2 H2 l2 hs => ⟨fun hi => ⟨vs, nU hs (nU l2.1 sq), by rw [rl.length]; exact hi⟩, fun d' hd => by
 obtain ⟨v, hv, rv⟩ := rl.get hd
 refine ⟨⟨vs, v, nU hs (nU l2.1 sq), hv⟩, fun y H3 hy B' σ' fr' h' R' => ?_⟩
 obtain ⟨rfl, hy⟩ := hy
 have z := hy vs (nU hs (nU l2.1 sq))
 rw [hv] at z
 cases z
 exact ⟨w2, Wd.le_refl _, R', rv.mono l2⟩⟩
theorem jh (s : aY X T W e m) : PB X T W tg e (iU m) := fun B w σ H fr h Q r p => Vg (adF bF) (s B w σ H fr h _ r (aO.bind (VR := vV X.K T B σ) p fun d fr1 h1 w1 H1 x e1 l1 r1 rx p1 => by
 cases q : d.its [] with
 | none => rw [q] at p1; exact p1.elim
 | some l =>
   rw [q] at p1
   obtain ⟨a, vs, rfl, rl, sq⟩ := agY rx q
   refine ⟨a, rfl, ?_⟩
   rcases sq with sq | sq
   · exact .inl ⟨⟨vs, fX r1.sub sq⟩, p1 w1 H1 (Itt X.K a) (Wd.le_refl _) r1 (aiy sq rl)⟩
   · exact .inr ⟨⟨vs, nU r1.sub sq⟩, p1 w1 H1 (Itl X.K a) (Wd.le_refl _) r1 (aiz sq rl)⟩))
def gH (lo : Int) (n : Nat) : List D := (aoe n).map fun (i : Nat) => D.int (lo + (i : Int))
def nW (i : Int) : Bool := decide (-(2 ^ 62) ≤ i) && decide (i < 2 ^ 62)
theorem ZL {i : Int} (h : nW i = true) : -(2 ^ 62) ≤ i ∧ i < 2 ^ 62 := by
 obtain ⟨h1, h2⟩ := Bool.and_eq_true_iff.mp h
 exact ⟨of_decide_eq_true h1, of_decide_eq_true h2⟩
def oK (m : M D) : M (List D) := m.bind fun d => M.opt (match d with
 | .int j => if nW j then some (gH 0 j.toNat) else none
 | _ => none)
def DK (ma mb : M D) : M (List D) := ma.bind fun x => mb.bind fun y => M.opt (match x, y with
 | .int i, .int j => if nW i && nW j then some (gH i (j - i).toNat) else none
 | _, _ => none)
theorem adG {K : PySem.W.Frag} {B : Bs} {σ : L2.St} {w : Wd} {H : Hp} {fr : Fr} (lo : Int) (n : Nat) : vJ K T B σ w H fr (Itr lo n) (gH lo n) := fun i w2 H2 l2 hs => ⟨fun hi => by
 have hi' : (gH lo n).length ≤ i := hi
 unfold gH at hi'
 rw [an2, aoy] at hi'
 exact hi', fun d' hd => by
 unfold gH at hd
 rw [aos] at hd
 obtain ⟨j, hj, rfl⟩ := Option.map_eq_some_iff.mp hd
 obtain ⟨hl, ej⟩ := List.getElem?_eq_some_iff.mp hj
 rw [aoy] at hl
 rw [List.getElem_range] at ej
 subst ej
 refine ⟨hl, fun y H3 hy B' σ' fr' h' R' => ?_⟩
 obtain ⟨rfl, rfl⟩ := hy
 exact ⟨w2, Wd.le_refl _, R', .int _⟩⟩
theorem Ae (s : aY X T W a ma) (hm : X.mg "range" = none) (hg : Gl X "range" := by rfl) (hs : starEach [a] X.env = [(false, eval a X.env)] := by rfl) : PB X T W tg (.Call (.Name "range" p) [a] [] pos) (oK ma) := fun B w σ H fr h Q r p =>
 Vg (pi_range1 hg hm (pa_cons bF pa_nil (hs.trans (by rfl))) hs) (s B w σ H fr h _ r (aO.bind (VR := vV X.K T B σ) p fun d fr1 h1 w1 H1 x e1 l1 r1 rx p1 => by
  cases rx with
  | int j =>
    dsimp only at p1
    cases hj : nW j with
    | false => rw [hj] at p1; exact (show False from p1).elim
    | true =>
      rw [hj] at p1
      obtain ⟨h1', h2'⟩ := ZL hj
      exact ⟨j, rfl, h1', h2', p1 w1 H1 (Itr 0 j.toNat) (Wd.le_refl _) r1 (adG 0 _)⟩
  | _ => exact (show False from p1).elim))
theorem Xc (sa : aY X T W a ma) (sb : aY X T W b mb) (hm : X.mg "range" = none) (hg : Gl X "range" := by rfl) (hs : starEach [a, b] X.env = [(false, eval a X.env), (false, eval b X.env)] := by rfl) (hs2 : starEach [b] X.env = [(false, eval b X.env)] := by rfl) :
 PB X T W tg (.Call (.Name "range" p) [a, b] [] pos) (DK ma mb) := fun B w σ H fr h Q r p =>
 Vg (pi_range2 hg hm (pa_cons bF (pa_cons bF pa_nil (hs2.trans (by rfl))) (hs.trans (by rw [hs2]))) hs hs2) (sa B w σ H fr h _ r (aO.bind (VR := vV X.K T B σ) p fun d fr1 h1 w1 H1 x e1 l1 r1 rx p => sb B w1 σ H1 fr1 h1 _ r1 (aO.bind (VR := vV X.K T B σ) p fun d2 fr2 h2 w2 H2 y e2 l2 r2 ry p1 => by
  have bad : ¬ (∃ i j, d = .int i ∧ d2 = .int j ∧ (nW i && nW j) = true) → False := fun hn => by
   revert p1
   split
   · rename_i i j
     cases hc : nW i && nW j with
     | false => exact fun p1 => p1
     | true => exact fun _ => hn ⟨i, j, rfl, rfl, hc⟩
   · exact fun p1 => p1
  by_cases hh : ∃ i j, d = .int i ∧ d2 = .int j ∧ (nW i && nW j) = true
  · obtain ⟨i, j, rfl, rfl, hc⟩ := hh
    cases rx
    cases ry
    dsimp only at p1
    rw [hc] at p1
    obtain ⟨hi, hj⟩ := Bool.and_eq_true_iff.mp hc
    obtain ⟨h1', h2'⟩ := ZL hi
    obtain ⟨h3', h4'⟩ := ZL hj
    exact ⟨i, j, rfl, ⟨h1', h2', h3', h4'⟩, p1 w2 H2 (Itr i (j - i).toNat) (Wd.le_refl _) r2 (adG i _)⟩
  · exact (bad hh).elim)))
end
end Pk
namespace Pk
open PySem PySem.Spec L2
inductive Fl where
 | nx | brk | ct | rt (d : D)
def dI (K : PySem.W.Frag) (T : Tb) (B : Bs) (W : WX) (w : Wd) (r : R Fl) (D : Ends) : Prop :=
 match r with
 | .ok .nx fr h => ∀ w' σ' H', w.le w' → Rel K T B w' σ' H' fr h → D.nx σ' H'
 | .ok .brk fr h => ∀ w' σ' H', w.le w' → Rel K T B w' σ' H' fr h → D.bk σ' H'
 | .ok .ct fr h => ∀ w' σ' H', w.le w' → Rel K T B w' σ' H' fr h → D.ct σ' H'
 | .ok (.rt d) fr h => ∀ w' σ' H' v, w.le w' → Rel K T B w' σ' H' fr h → vE K T B σ' w' H' fr v d → D.rt v H'
 | .exc x fr h => ∀ w' σ' H' cls dd, w.le w' → Rel K T B w' σ' H' fr h → W3 K T w' x cls dd → W cls dd σ' H'
 | .err => False
def wO (X : Cx) (T : Tb) (W : WX) (st : Stmt) (m : M Fl) : Prop := ∀ (B : Bs) (w : Wd) (σ : L2.St) (H : Hp) (fr : Fr) (h : Hh) (D : Ends), Rel X.K T B w σ H fr h → dI X.K T B W w (m fr h) D → WS X st D σ H
def DN (X : Cx) (T : Tb) (W : WX) (sts : List Stmt) (m : M Fl) : Prop := ∀ (B : Bs) (w : Wd) (σ : L2.St) (H : Hp) (fr : Fr) (h : Hh) (D : Ends), Rel X.K T B w σ H fr h → dI X.K T B W w (m fr h) D → Zv X sts D σ H
section
variable {K : PySem.W.Frag} {T : Tb} {B : Bs} {W : WX} {w w' : Wd} {σ : L2.St} {H : Hp}
theorem dI.le {r : R Fl} {D : Ends} (x : w.le w') (p : dI K T B W w r D) : dI K T B W w' r D := by
 cases r with
 | ok f fr h =>
   cases f with
   | rt d => exact fun w2 σ2 H2 v y => p w2 σ2 H2 v (Wd.le_trans x y)
   | _ => exact fun w2 σ2 H2 y => p w2 σ2 H2 (Wd.le_trans x y)
 | exc e fr h => exact fun w2 σ2 H2 c d y => p w2 σ2 H2 c d (Wd.le_trans x y)
 | err => exact p
theorem dI.bind {α β : Type} {VR : Wd → Hp → Fr → β → α → Prop} {m : M α} {f : α → M Fl} {fr : Fr} {h : Hh} {D : Ends} {Q : β → Hp → Prop} (p : dI K T B W w (m.bind f fr h) D)
 (k : ∀ d fr1 h1 w1 H1 v, m fr h = .ok d fr1 h1 → w.le w1 → Rel K T B w1 σ H1 fr1 h1 → VR w1 H1 fr1 v d → dI K T B W w1 (f d fr1 h1) D → Q v H1) : aO K T B W VR w σ (m fr h) Q := by
 cases e : m fr h with
 | ok d fr1 h1 =>
   rw [M.bind_ok e] at p
   exact fun w1 H1 v x r z => k d fr1 h1 w1 H1 v e x r z (p.le x)
 | exc y fr1 h1 =>
   rw [M.bind_exc e] at p
   exact fun w1 H1 c dd x r z => p w1 σ H1 c dd x r z
 | err =>
   rw [M.bind_err e] at p
   exact p
end
def az (m n : M Fl) : M Fl := m.bind fun f => match f with
 | .nx => n
 | f => M.ret f
def bD (t : M Bool) (m n : M Fl) : M Fl := t.bind fun b => if b then m else n
def eE {α : Type} (m : M α) : M Fl := m.bind fun _ => M.ret .nx
def aV (m : M D) : M Fl := m.bind fun d => M.ret (.rt d)
def bA (i : Nat) (m : M D) : M Fl := m.bind fun d fr h => .ok .nx (fr.set i (some d)) h
def Fw (m : M D) (g : D → M Unit) : M Fl := m.bind fun d fr h => match g d fr h with
 | .ok _ fr h => .ok .nx fr h
 | _ => .err
def Zk (is : List Nat) (m : M (List D)) : M Fl := m.bind fun ds fr h => match Mj is ds fr with
 | some fr' => if ds.length ≤ big then .ok .nx fr' h else .err
 | none => .err
section
variable {X : Cx} {T : Tb} {W : WX} {k : Nat} {pos pos' p2 : Pos} {e a b c : Expr} {st : Stmt} {sts as bs : List Stmt} {m : M D} {s n : M Fl} {t : M Bool} {es : List Expr}
theorem dW : DN X T W [] (M.ret .nx) := fun B w σ H fr h D R p => W4 pss_nil (p w σ H (Wd.le_refl _) R)
theorem aJ (s1 : wO X T W st s) (s2 : DN X T W sts n) : DN X T W (st :: sts) (az s n) := fun B w σ H fr h D R p =>
 W4 (pss_cons adq Ab) (s1 B w σ H fr h _ R (by
  unfold az at p
  cases e : s fr h with
  | ok f fr1 h1 =>
    rw [M.bind_ok e] at p
    cases f with
    | nx => exact fun w1 σ1 H1 l R1 => s2 B w1 σ1 H1 fr1 h1 D R1 (p.le l)
    | _ => exact p
  | exc y fr1 h1 => rw [M.bind_exc e] at p; exact p
  | err => rw [M.bind_err e] at p; exact p))
theorem aR (s1 : wO X T W st s) : DN X T W [st] s := fun B w σ H fr h D R p => W4 (pss_one adq) (s1 B w σ H fr h _ R p)
theorem pA {VR : jY V D} (s : iT (WE X e) X.K T W VR m) (hs : swapsWith e none pos.line X.env = pure false := by rfl) : wO X T W (.Expr e pos) (eE m) := fun B w σ H fr h D R p =>
 wV (ps_expr bF hs) (s B w σ H fr h _ R (dI.bind (VR := VR X.K T B σ) p fun d fr1 h1 w1 H1 v e1 l1 r1 rx p1 => p1 w1 σ H1 (Wd.le_refl _) r1))
theorem s_ret (s : ph X T W e m) : wO X T W (.Return (some e) pos) (aV m) := fun B w σ H fr h D R p =>
 wV (ps_ret bF) (s B w σ H fr h _ R (dI.bind (VR := vE X.K T B σ) p fun d fr1 h1 w1 H1 v e1 l1 r1 rx p1 => p1 w1 σ H1 v (Wd.le_refl _) r1 rx))
theorem fu (st : Ar X T W c t) (sa : DN X T W as s) (sb : DN X T W bs n) : wO X T W (.If c as bs pos) (bD t s n) := fun B w σ H fr h D R p =>
 wV (ps_if Eu Ab Ab) (st B w σ H fr h _ R (dI.bind (VR := vB X.K T B σ) p fun d fr1 h1 w1 H1 x e1 l1 r1 rx p1 => by
  have rx' : x = d := rx
  subst rx'
  cases x with
  | true => exact sa B w1 σ H1 fr1 h1 D r1 p1
  | false => exact sb B w1 σ H1 fr1 h1 D r1 p1))
theorem abZ : wO X T W st (fun _ _ => .err) := fun B w σ H fr h D R p => p.elim
theorem lW (C : Cq X T W k) (i : Nat) {x : Str} (s : ph X T W e m) (hs : swapsWith e (some (.Name x pos')) pos.line X.env = pure false := by rfl) (hi : X.N[i]? = some x := by rfl) (hx : Loc X.env.scope x := by first | exact Or.inl rfl | exact Or.inr rfl)
 (hf : X.fn x = true ∨ X.env.scope.names.lookup x = some .local := by first | exact .inl rfl | exact .inr rfl) (h0 : i ≠ 0 := by decide) : wO X T W (.Assign [.Name x pos'] e pos) (bA i m) := fun B w σ H fr h D R p =>
 wV (ps_set C.nd hi hx bF hs hf) (s B w σ H fr h _ R (dI.bind (VR := vE X.K T B σ) p fun d fr1 h1 w1 H1 v e1 l1 r1 rx p1 => p1 w1 _ H1 (Wd.le_refl _) (r1.put i h0 rx)))
theorem rE (C : Cq X T W k) (i : Nat) {x : Str} (s : aY X T W e m) (hs : swapsWith e (some (.Name x pos')) pos.line X.env = pure false := by rfl) (hi : X.N[i]? = some x := by rfl) (hx : Loc X.env.scope x := by first | exact Or.inl rfl | exact Or.inr rfl)
 (hf : X.fn x = true ∨ X.env.scope.names.lookup x = some .local := by first | exact .inl rfl | exact .inr rfl) : wO X T W (.Assign [.Name x pos'] e pos) (bA i m) := fun B w σ H fr h D R p =>
 wV (ps_set C.nd hi hx bF hs hf) (s B w σ H fr h _ R (dI.bind (VR := vV X.K T B σ) p fun d fr1 h1 w1 H1 v e1 l1 r1 rx p1 => p1 w1 _ H1 (Wd.le_refl _) (r1.putV i rx)))
theorem s_asg {tg : Expr} {is : List Nat} {g : D → M Unit} (s : aY X T W e m) (sg : Fv X T is tg g) (hs : swapsWithSole [tg] e pos.line X.env = pure false := by rfl) (hw : swappedStores [tg] e X.env = pure none := by rfl)
 (h1 : (assignEach [tg] X.env).map (·.2) = [assign tg X.env] := by rfl) : wO X T W (.Assign [tg] e pos) (Fw m g) := fun B w σ H fr h D R p =>
 wV (ps_asg bF Vf hs hw h1) (s B w σ H fr h _ R (dI.bind (VR := vV X.K T B σ) p fun d fr1 h1 w1 H1 v e1 l1 r1 rx p1 => sg B w1 σ H1 fr1 h1 v d _ r1 rx (by
  cases e2 : g d fr1 h1 with
  | ok u fr2 h2 =>
    rw [e2] at p1
    exact fun w2 σ2 H2 l2 r2 _ => p1 w2 σ2 H2 l2 r2
  | exc y fr2 h2 =>
    rw [e2] at p1
    exact p1.elim
  | err =>
    rw [e2] at p1
    exact p1.elim)))
theorem Cg.temp {K : PySem.W.Frag} {B : Bs} {σ : L2.St} {w : Wd} {H : Hp} {fr : Fr} {vs : List V} {ds : List D} {ps : List Addr} {p : Addr} {o : HO} (x : Cg K T B σ w H fr vs ds ps) (np : H p = none) : Cg K T B σ w (upd H p o) fr vs ds ps := by
 induction x with
 | nil => exact .nil
 | val r _ ih => exact .val r ih
 | own O lo e r nq _ ih => exact .own O lo (by rw [upd_ne (ne_of_none e np)]; exact e) r nq ih
theorem ZM : ∀ (is : List Nat) (ds : List D) (fr fr' : Fr), Mj is ds fr = some fr' → ds.length = is.length
 | [], [], _, _, _ => rfl
 | [], _ :: _, _, _, q => by cases q
 | _ :: _, [], _, _, q => by cases q
 | _ :: is, _ :: ds, _, fr', q => congrArg Nat.succ (ZM is ds _ fr' q)
theorem aiA (C : Cq X T W k) {tgs : List Expr} {is : List Nat} {kk x1 : Nat} {n : Nat} {ms : M (List D)} (se : Zh X T W es ms) (g : Zj X T is tgs) (hn : (assignEach tgs X.env).length = n := by rfl) (hl : is.length = n := by rfl) (hst : (assignEach tgs X.env).findIdx? (·.1) = none := by rfl)
 (hs : swapsWithSole [.Tuple tgs kk pos'] (.Tuple es x1 p2) pos.line X.env = pure false := by rfl) (hw : swappedStores [.Tuple tgs kk pos'] (.Tuple es x1 p2) X.env = pure none := by rfl)
 (h1 : (assignEach [.Tuple tgs kk pos'] X.env).map (·.2) = [assign (.Tuple tgs kk pos') X.env] := by rfl) : wO X T W (.Assign [.Tuple tgs kk pos'] (.Tuple es x1 p2) pos) (Zk is ms) := by
 obtain ⟨u, pu, g⟩ := g
 refine fun B w σ H fr h D R p => wV (ps_asg (pe_tup Pa) (pg_tup C.calm pu hn hst) hs hw h1) (se B w σ H fr h _ R (dI.bind (VR := vEs X.K T B σ) p fun ds fr1 h1 w1 H1 vs e1 l1 r1 ⟨ps, rs⟩ p1 => ?_))
 cases q : Mj is ds fr1 with
 | none => rw [q] at p1; exact p1.elim
 | some fr' =>
   rw [q] at p1
   dsimp only at p1
   by_cases hb : ds.length ≤ big
   · rw [if_pos hb] at p1
     refine ⟨by rw [rs.length]; exact rA hb, fun a na => ⟨a, vs, rfl, SqT.of upd_same, ?_, ?_⟩⟩
     · rw [rs.length, ZM _ _ _ _ q, hl]
     · exact g B w1 σ (upd H1 a (.tup vs)) fr1 fr' h1 vs ds ps _ (r1.temp na) (rs.temp na) q fun σ' R' => p1 w1 σ' _ (Wd.le_refl _) R'
   · rw [if_neg hb] at p1
     exact p1.elim
end
end Pk
namespace Pk
open PySem PySem.Spec L2
def fB (g : D → M Unit) (b : M Fl) : List D → M Fl
 | [] => M.ret .nx
 | d :: ds => fun fr h => match g d fr h with
   | .ok _ fr h => match b fr h with
     | .ok .nx fr h => fB g b ds fr h
     | .ok .ct fr h => fB g b ds fr h
     | .ok .brk fr h => .ok .nx fr h
     | .ok (.rt d) fr h => .ok (.rt d) fr h
     | .exc x fr h => .exc x fr h
     | .err => .err
   | _ => .err
def dJ (l : M (List D)) (g : D → M Unit) (b : M Fl) : M Fl := l.bind fun ds => fB g b ds
def adH (t : M Bool) (b : M Fl) : Nat → M Fl
 | 0 => fun _ _ => .err
 | n + 1 => fun fr h => match t fr h with
   | .ok true fr h => match b fr h with
     | .ok .nx fr h => adH t b n fr h
     | .ok .ct fr h => adH t b n fr h
     | .ok .brk fr h => .ok .nx fr h
     | .ok (.rt d) fr h => .ok (.rt d) fr h
     | .exc x fr h => .exc x fr h
     | .err => .err
   | .ok false fr h => .ok .nx fr h
   | .exc x fr h => .exc x fr h
   | .err => .err
section
variable {X : Cx} {T : Tb} {W : WX} {k : Nat} {pos pos' : Pos} {tg iter c : Expr} {body : List Stmt} {li : M (List D)} {g : D → M Unit} {b : M Fl} {is : List Nat} {t : M Bool}
theorem sJ (C : Cq X T W k) (si : PB X T W tg iter li) (sg : Fv X T is tg g) (sb : DN X T W body b) (hs : ∀ x, foldedSetIterable iter X.env x = pure x := by intro _; rfl) : wO X T W (.For tg iter body [] pos) (dJ li g b) := fun B w σ H fr h D R p =>
 wV (ps_for C.po C.calm Py Vf Ab hs) (si B w σ H fr h _ R (dI.bind (VR := vJ X.K T B σ) p fun ds fr1 h1 w1 H1 J e1 l1 r1 vj p1 => by
  refine ⟨fun i m σ H => m = ds.length - i ∧ i ≤ ds.length ∧ ∃ w' fr' h', w1.le w' ∧ Rel X.K T B w' σ H fr' h' ∧ dI X.K T B W w' (fB g b (ds.drop i) fr' h') D, ⟨ds.length, by simp, Nat.zero_le _, w1, fr1, h1, Wd.le_refl _, r1, p1⟩, ?_⟩
  rintro i m σ2 H2 ⟨rfl, hi, w2, fr2, h2, l2, r2, p2⟩
  obtain ⟨js, jg⟩ := vj i w2 H2 l2 r2.sub
  by_cases hlt : i < ds.length
  · obtain ⟨go, y⟩ := jg ds[i] (aoc hlt)
    refine .inr ⟨go, fun σ' H' => ∃ w' fr' h', w1.le w' ∧ Rel X.K T B w' σ' H' fr' h' ∧ dI X.K T B W w' (fB g b (ds.drop (i + 1)) fr' h') D, fun σ' H' q => ⟨ds.length - (i + 1), by omega, rfl, hlt, q⟩, fun x H3 yx => ?_⟩
    obtain ⟨w3, l3, r3, rx⟩ := y x H3 yx B σ2 fr2 h2 r2
    have ed : ds.drop i = ds[i] :: ds.drop (i + 1) := aoE hlt
    rw [ed] at p2
    refine sg B w3 σ2 H3 fr2 h2 x ds[i] _ r3 rx ?_
    unfold fB at p2
    cases e2 : g ds[i] fr2 h2 with
    | ok u fr3 h3 =>
      rw [e2] at p2
      intro w4 σ4 H4 l4 r4 _
      refine sb B w4 σ4 H4 fr3 h3 _ r4 ?_
      have l34 : w1.le w4 := Wd.le_trans l2 (Wd.le_trans l3 l4)
      dsimp only at p2
      cases e3 : b fr3 h3 with
      | ok f fr4 h4 =>
        rw [e3] at p2
        cases f with
        | nx => exact fun w5 σ5 H5 l5 r5 => ⟨w5, fr4, h4, Wd.le_trans l34 l5, r5, p2.le (Wd.le_trans (Wd.le_trans l3 l4) l5)⟩
        | ct => exact fun w5 σ5 H5 l5 r5 => ⟨w5, fr4, h4, Wd.le_trans l34 l5, r5, p2.le (Wd.le_trans (Wd.le_trans l3 l4) l5)⟩
        | brk => exact fun w5 σ5 H5 l5 r5 => p2 w5 σ5 H5 (Wd.le_trans (Wd.le_trans l3 l4) l5) r5
        | rt d => exact fun w5 σ5 H5 v l5 r5 rv => p2 w5 σ5 H5 v (Wd.le_trans (Wd.le_trans l3 l4) l5) r5 rv
      | exc y fr4 h4 =>
        rw [e3] at p2
        exact fun w5 σ5 H5 cc dd l5 r5 z => p2 w5 σ5 H5 cc dd (Wd.le_trans (Wd.le_trans l3 l4) l5) r5 z
      | err => rw [e3] at p2; exact p2
    | exc y fr3 h3 => rw [e2] at p2; exact p2
    | err => rw [e2] at p2; exact p2
  · have e : i = ds.length := by omega
    subst e
    rw [List.drop_length] at p2
    exact .inl ⟨js (Nat.le_refl _), p2 w2 σ2 H2 (Wd.le_refl _) r2⟩))
end
def WF : WX := fun _ _ _ _ => False
def dZ (fr : Fr) : List Nat → Fr
 | [] => fr
 | v :: vs => (dZ fr vs).set v none
theorem PL (fr : Fr) : ∀ vs : List Nat, (dZ fr vs).length = fr.length
 | [] => rfl
 | v :: vs => by unfold dZ; rw [aou, PL fr vs]
theorem Jk {fr : Fr} {i : Nat} : ∀ {vs : List Nat}, i ∉ vs → (dZ fr vs)[i]? = fr[i]?
 | [], _ => rfl
 | v :: vs, h => by
   unfold dZ
   rw [List.mem_cons, not_or] at h
   rw [aoq (Ne.symm h.1), Jk h.2]
theorem uH {fr : Fr} {i : Nat} {d : D} : ∀ {vs : List Nat}, i ∈ vs → (dZ fr vs)[i]? ≠ some (some d)
 | [], h => by cases h
 | v :: vs, h => by
   unfold dZ
   by_cases e : v = i
   · subst e
     by_cases l : v < (dZ fr vs).length
     · rw [aor l]
       exact fun z => by cases z
     · rw [List.getElem?_eq_none (by rw [aou]; omega)]
       exact fun z => by cases z
   · rw [aoq e]
     rcases List.mem_cons.mp h with z | z
     · exact absurd z.symm e
     · exact uH z
theorem wipe_out {σ : L2.St} {i : Nat} : ∀ {vs : List Nat}, i ∉ vs → (wipe σ vs)[i]? = σ[i]?
 | [], _ => rfl
 | v :: vs, h => by
   unfold wipe
   rw [List.mem_cons, not_or] at h
   rw [aoq (Ne.symm h.1), wipe_out h.2]
theorem agZ {σ : L2.St} {i : Nat} {v : V} {vs : List Nat} (h : i ∈ vs) : (wipe σ vs)[i]? ≠ some (some v) := fun z => (wipe_some z).2 h
section
variable {K : PySem.W.Frag} {T : Tb} {B : Bs} {w w' : Wd} {σ σ' : L2.St} {H H' : Hp} {fr fr' : Fr} {h : Hh}
theorem Rel.refr (R : Rel K T B w σ H fr h) (fl : fr'.length = σ'.length) (hs : ∀ (i : Nat) (d : D), fr'[i]? = some (some d) → fr[i]? = some (some d) ∧ σ'[i]? = σ[i]?) : Rel K T B w σ' H fr' h :=
 { R with
   me := fun x d bx e od => by
    obtain ⟨h1, h2⟩ := hs 0 d e
    rw [h2]
    exact R.me x d bx h1 od
   fl := fl
   sl := fun i s d e1 e2 => by
    cases d with
    | none => exact .none
    | some d =>
      obtain ⟨h1, h2⟩ := hs i d e2
      rw [h2] at e1
      exact R.sl i s (some d) e1 h1
   sep := fun i j p hij ⟨a1, d1, a2, a3⟩ ⟨b1, d2, b2, b3⟩ => by
    obtain ⟨h1, h2⟩ := hs i d1 a2
    obtain ⟨h3, h4⟩ := hs j d2 b2
    rw [h2] at a1
    rw [h4] at b1
    exact R.sep i j p hij ⟨a1, d1, h1, a3⟩ ⟨b1, d2, h3, b3⟩ }
theorem Rel.wipe (R : Rel K T B w σ H fr h) (vs : List Nat) : Rel K T B w (wipe σ vs) H (dZ fr vs) h := by
 refine R.refr (by rw [PL, wipe_length]; exact R.fl) fun i d e => ?_
 by_cases hi : i ∈ vs
 · exact absurd e (uH hi)
 · rw [Jk hi] at e
   exact ⟨e, wipe_out hi⟩
end
def fP (vs : List Nat) (g : D → M Unit) (t : M Bool) (e : M D) (d : D) : M (Option D) := fun fr h => match g d fr h with
 | .ok _ fr h => match t fr h with
   | .ok true fr h => match e fr h with
     | .ok y fr h => .ok (some y) (dZ fr vs) h
     | _ => .err
   | .ok false fr h => .ok none (dZ fr vs) h
   | _ => .err
 | _ => .err
def Cz {α : Type} : Option α → List α → List α
 | some y, r => y :: r
 | none, r => r
def jA (vs : List Nat) (g : D → M Unit) (t : M Bool) (e : M D) : List D → M (List D)
 | [] => M.ret []
 | d :: ds => (fP vs g t e d).bind fun o => (jA vs g t e ds).bind fun r => M.ret (Cz o r)
def Gp (vs : List Nat) : M Unit := fun fr h => .ok () (dZ fr vs) h
def km (vs : List Nat) (l : M (List D)) (g : D → M Unit) (t : M Bool) (e : M D) : M D := l.bind fun ds => (Gp vs).bind fun _ => if ds.length ≤ big then (jA vs g t e ds).bind fun r => M.ret (.nl r) else M.opt none
section
variable {X : Cx} {T : Tb} {W : WX} {k : Nat} {pos pos' : Pos} {tg iter elt c : Expr} {ifs : List Expr} {li : M (List D)} {g : D → M Unit} {b : M Fl} {is : List Nat} {t : M Bool} {me : M D} {scope : Scope} {own : List (Str × Nat)}
theorem ZP {σ σ2 : L2.St} {vs is : List Nat} (hl : σ2.length = σ.length) (hi : ∀ i ∈ is, i ∈ vs) (hk : ∀ (j : Nat), j ∉ is → σ2[j]? = (wipe σ vs)[j]?) : wipe σ2 vs = wipe σ vs := by
 refine List.ext_getElem? fun j => ?_
 by_cases hj : j ∈ vs
 · have key : ∀ τ : L2.St, τ.length = σ.length → (wipe τ vs)[j]? = if j < σ.length then some none else none := fun τ hτ => by
    by_cases hjl : j < σ.length
    · rw [if_pos hjl]
      have hjl' : j < (wipe τ vs).length := by rw [wipe_length, hτ]; exact hjl
      rw [aoc hjl']
      cases e : (wipe τ vs)[j] with
      | none => rfl
      | some v => exact absurd (by rw [aoc hjl', e]) (agZ (σ := τ) (v := v) hj)
    · rw [if_neg hjl]
      exact List.getElem?_eq_none (by rw [wipe_length, hτ]; omega)
   rw [key σ2 hl, key σ rfl]
 · rw [wipe_out hj, hk j fun z => hj (hi j z), wipe_out hj]
def GB (X : Cx) (scope : Scope) (tg : Expr) : TG := fun v σ H Q => ∀ (s : Shared) (H0 : Hp) (C : Addr) (cl : List (Str × Addr)) (fp : List Addr), WG (X.blk s H0 scope (compEnvC scope cl C X.env) fp) tg v σ H Q
def TB (X : Cx) (scope : Scope) (ifs : List Expr) : TT := fun σ H Q => ∀ (s : Shared) (H0 : Hp) (C : Addr) (cl : List (Str × Addr)) (fp : List Addr), Ve (X.blk s H0 scope (compEnvC scope cl C X.env) fp) ifs σ H Q
def EB (X : Cx) (scope : Scope) (e : Expr) : TE := fun σ H Q => ∀ (s : Shared) (H0 : Hp) (C : Addr) (cl : List (Str × Addr)) (fp : List Addr), WE (X.blk s H0 scope (compEnvC scope cl C X.env) fp) e σ H Q
theorem adI {B : Bs} {w : Wd} {σ : L2.St} {H : Hp} {fr : Fr} {h : Hh} {Q : VK} (si : PB X T W tg iter li) (hi : ∀ i ∈ is, i ∈ own.map (·.2))
 (sg : ∀ (s : Shared) (H0 : Hp) (C : Addr) (cl : List (Str × Addr)) (fp : List Addr), Fv (X.blk s H0 scope (compEnvC scope cl C X.env) fp) T is tg g)
 (st : ∀ (s : Shared) (H0 : Hp) (C : Addr) (cl : List (Str × Addr)) (fp : List Addr), iT (Ve (X.blk s H0 scope (compEnvC scope cl C X.env) fp) ifs) X.K T WF vB t)
 (se : ∀ (s : Shared) (H0 : Hp) (C : Addr) (cl : List (Str × Addr)) (fp : List Addr), aY (X.blk s H0 scope (compEnvC scope cl C X.env) fp) T WF elt me)
 (R : Rel X.K T B w σ H fr h) (p : aO X.K T B W (vE X.K T B σ) w σ (km (own.map (·.2)) li g t me fr h) Q) : tLc (WI X tg iter) (GB X scope tg) (TB X scope ifs) (EB X scope elt) (own.map (·.2)) σ H Q := by
 refine si B w σ H fr h _ R (aO.bind (VR := vJ X.K T B σ) p fun ds fr0 h0 w1 H1 J e1 l1 r0 vj p0 => ?_)
 generalize hvs : own.map (·.2) = vs at hi p0 ⊢
 intro A0 nD
 have p1 : aO X.K T B W (vE X.K T B σ) w1 σ ((if ds.length ≤ big then (jA vs g t me ds).bind fun r => M.ret (.nl r) else M.opt none) (dZ fr0 vs) h0) Q := p0
 by_cases hb : ds.length ≤ big
 · rw [if_pos hb] at p1
   have rD := r0.temp (o := .lst []) nD
   have OD : Own B w1 A0 := r0.own_new nD
   refine ⟨fun i m H => m = ds.length - i ∧ i ≤ ds.length ∧ ∃ w' fr' h' acc vs', w1.le w' ∧ aF X.K T w' vs' acc ∧ acc.length ≤ i ∧ Rel X.K T (B.pr A0 (.lst vs')) w' (wipe σ vs) H fr' h' ∧ (∀ j ∈ vs, ∀ d, fr'[j]? ≠ some (some d)) ∧
    aO X.K T B W (vE X.K T B σ) w' σ (((jA vs g t me (ds.drop i)).bind fun r => M.ret (D.nl (acc ++ r))) fr' h') Q, ⟨ds.length, by simp, Nat.zero_le _, w1, dZ fr0 vs, h0, [], [], Wd.le_refl _, .nil, Nat.zero_le _,
     (rD.wipe vs).protect OD (fun i ⟨z1, dd, z2, z3⟩ => r0.loose_new nD i (by
      by_cases hj : i ∈ vs
      · exact absurd z2 (uH hj)
      · rw [Jk hj] at z2
        rw [wipe_out hj] at z1
        exact ⟨z1, dd, z2, z3⟩)) upd_same, fun j hj d => uH hj, p1⟩, ?_⟩
   rintro i m H2 ⟨rfl, hil, w2, fr2, h2, acc, us, l2, ra, la, r2, hw2, p2⟩
   have hP := OD.p
   obtain ⟨js, jg⟩ := vj i w2 H2 l2 r2.sub
   by_cases hlt : i < ds.length
   · obtain ⟨go, y⟩ := jg ds[i] (aoc hlt)
     have ed : ds.drop i = ds[i] :: ds.drop (i + 1) := aoE hlt
     rw [ed] at p2
     refine .inr ⟨go, fun H' => ∃ w' fr' h' acc vs', w1.le w' ∧ aF X.K T w' vs' acc ∧ acc.length ≤ i + 1 ∧ Rel X.K T (B.pr A0 (.lst vs')) w' (wipe σ vs) H' fr' h' ∧ (∀ j ∈ vs, ∀ d, fr'[j]? ≠ some (some d)) ∧
      aO X.K T B W (vE X.K T B σ) w' σ (((jA vs g t me (ds.drop (i + 1))).bind fun r => M.ret (D.nl (acc ++ r))) fr' h') Q, fun H' q => ⟨ds.length - (i + 1), by omega, rfl, hlt, q⟩, fun x H3 yx => ?_⟩
     obtain ⟨w3, l3, r3, rx⟩ := y x H3 yx (B.pr A0 (.lst us)) (wipe σ vs) fr2 h2 r2
     have turn : ∃ o fr' h', fP vs g t me ds[i] fr2 h2 = .ok o fr' h' ∧ aO X.K T B W (vE X.K T B σ) w2 σ (((jA vs g t me (ds.drop (i + 1))).bind fun r => M.ret (D.nl (acc ++ Cz o r))) fr' h') Q := by
      have p2' : aO X.K T B W (vE X.K T B σ) w2 σ (((fP vs g t me ds[i]).bind fun o => (jA vs g t me (ds.drop (i + 1))).bind fun r => M.ret (D.nl (acc ++ Cz o r))) fr2 h2) Q := by
       have ee : ((jA vs g t me (ds[i] :: ds.drop (i + 1))).bind fun r => M.ret (D.nl (acc ++ r))) fr2 h2 = ((fP vs g t me ds[i]).bind fun o => (jA vs g t me (ds.drop (i + 1))).bind fun r => M.ret (D.nl (acc ++ Cz o r))) fr2 h2 := by
        show M.bind (M.bind _ _) _ fr2 h2 = _
        unfold M.bind
        cases fP vs g t me ds[i] fr2 h2 with
        | ok o fr' h' => dsimp only; cases jA vs g t me (ds.drop (i + 1)) fr' h' <;> rfl
        | exc _ _ _ => rfl
        | err => rfl
       rw [← ee]
       exact p2
      cases q : fP vs g t me ds[i] fr2 h2 with
      | ok o fr' h' =>
        rw [M.bind_ok q] at p2'
        exact ⟨o, fr', h', rfl, p2'⟩
      | exc y fr' h' =>
        exfalso
        unfold fP at q
        split at q
        · split at q
          · split at q <;> cases q
          · cases q
          · cases q
        · cases q
      | err =>
        rw [M.bind_err q] at p2'
        exact p2'.elim
     obtain ⟨o, fro, ho, qt, p3⟩ := turn
     have upw : ∀ {u2 : L2.St} {w' : Wd} {H' : Hp} {fr' : Fr} {h' : Hh} {B' : Bs}, wipe u2 vs = wipe σ vs → Rel X.K T B' w' u2 H' fr' h' → Rel X.K T B' w' (wipe σ vs) H' (dZ fr' vs) h' := fun {u2 w' H' fr' h' B'} e R' => by
      rw [← e]
      exact R'.wipe vs
     intro s0 H0 C cl fp
     refine sg s0 H0 C cl fp (B.pr A0 (.lst us)) w3 (wipe σ vs) H3 fr2 h2 x ds[i] _ r3 rx ?_
     unfold fP at qt
     cases q1 : g ds[i] fr2 h2 with
     | exc _ _ _ => rw [q1] at qt; cases qt
     | err => rw [q1] at qt; cases qt
     | ok _ fr3 h3 =>
       rw [q1] at qt
       dsimp only at qt
       intro w4 σ4 H4 l4 r4 k4
       have ew : wipe σ4 vs = wipe σ vs := ZP (k4.1.trans (wipe_length σ vs)) hi k4.2
       refine ⟨ew, fun s0 H0 C cl fp => st s0 H0 C cl fp (B.pr A0 (.lst us)) w4 σ4 H4 fr3 h3 _ r4 ?_⟩
       cases q2 : t fr3 h3 with
       | exc _ _ _ => rw [q2] at qt; cases qt
       | err => rw [q2] at qt; cases qt
       | ok b fr4 h4 =>
         rw [q2] at qt
         intro w5 H5 v l5 r5 rv
         have rv' : v = b := rv
         subst rv'
         cases v with
         | false =>
           dsimp only at qt
           cases qt
           simp only [Bool.false_eq_true, if_false]
           exact ⟨w5, _, _, acc, us, Wd.le_trans l2 (Wd.le_trans l3 (Wd.le_trans l4 l5)), ra.mono (Wd.le_trans l3 (Wd.le_trans l4 l5)), Nat.le_succ_of_le la, upw ew r5, fun j hj d => uH hj, p3.le (Wd.le_trans l3 (Wd.le_trans l4 l5))⟩
         | true =>
           dsimp only at qt
           simp only [if_true]
           intro s0 H0 C cl fp
           refine se s0 H0 C cl fp (B.pr A0 (.lst us)) w5 σ4 H5 fr4 h4 _ r5 ?_
           cases q3 : me fr4 h4 with
           | exc _ _ _ => rw [q3] at qt; cases qt
           | err => rw [q3] at qt; cases qt
           | ok yd fr5 h5 =>
             rw [q3] at qt
             cases qt
             intro w6 H6 yv l6 r6 ry
             have hD6 : H6 A0 = some (.lst us) := (r6.prot (A0, .lst us) (aod)).1
             have lall : w2.le w6 := Wd.le_trans l3 (Wd.le_trans l4 (Wd.le_trans l5 l6))
             refine ⟨us, hD6, ?_, w6, _, _, acc ++ [yd], us ++ [yv], Wd.le_trans l2 lall, (ra.mono lall).append (.cons ry .nil), ?_, (upw ew r6).repr OD.e OD.p, fun j hj d => uH hj, ?_⟩
             · rw [ra.length]
               have : big < sizeLine := by decide
               omega
             · rw [an9]
               show acc.length + 1 ≤ i + 1
               omega
             · have e9 : ∀ r : List _, acc ++ Cz (some yd) r = acc ++ [yd] ++ r := fun r => by
                show acc ++ yd :: r = _
                rw [aoA]
                rfl
               simp only [e9] at p3
               exact p3.le lall
   · have e : i = ds.length := by omega
     subst e
     rw [List.drop_length] at p2
     obtain ⟨r3, O3, lo3, eD⟩ := r2.unprotect OD.e OD.p
     refine .inl ⟨js (Nat.le_refl _), ?_⟩
     have p3 : aO X.K T B W (vE X.K T B σ) w2 σ (.ok (D.nl (acc ++ [])) fr2 h2) Q := p2
     rw [aob] at p3
     have r4 : Rel X.K T B w2 σ H2 fr2 h2 := r3.refr (by rw [← wipe_length σ vs]; exact r3.fl) fun j d ej => ⟨ej, by
      by_cases hj : j ∈ vs
      · exact absurd ej (hw2 j hj d)
      · exact (wipe_out hj).symm⟩
     refine p3 w2 H2 (.ref A0) (Wd.le_refl _) r4 (.inr ⟨A0, _, rfl, O3, fun j ⟨z1, dd, z2, z3⟩ => lo3 j ⟨?_, dd, z2, z3⟩, eD, .lst ra⟩)
     by_cases hj : j ∈ vs
     · exact absurd z2 (hw2 j hj dd)
     · rw [wipe_out hj]
       exact z1
 · rw [if_neg hb] at p1
   exact p1.elim
theorem wZ (C : Cq X T W k) (own : List (Str × Nat)) (si : PB X T W tg iter li) (hi : ∀ i ∈ is, i ∈ own.map (·.2))
 (sg : ∀ (s : Shared) (H0 : Hp) (C : Addr) (cl : List (Str × Addr)) (fp : List Addr), Fv (X.blk s H0 scope (compEnvC scope cl C X.env) fp) T is tg g)
 (st : ∀ (s : Shared) (H0 : Hp) (C : Addr) (cl : List (Str × Addr)) (fp : List Addr), iT (Ve (X.blk s H0 scope (compEnvC scope cl C X.env) fp) ifs) X.K T WF vB t)
 (se : ∀ (s : Shared) (H0 : Hp) (C : Addr) (cl : List (Str × Addr)) (fp : List Addr), aY (X.blk s H0 scope (compEnvC scope cl C X.env) fp) T WF elt me)
 (ok : BlkOk X.N X.env.scope scope own) (hs : ∀ x, foldedSetIterable iter X.env x = pure x := by intro _; rfl) : ph X T W (.ListComp elt [⟨tg, iter, ifs, 0⟩] scope pos) (km (own.map (·.2)) li g t me) := fun B w σ H fr h Q R p =>
 eG (pe_lc C.calm C.nd Py ok (fun s H C cl fp => ⟨fun pins s' σ H v u Q I r hh => hh s _ C cl fp pins s' u I r⟩) (fun s H C cl fp => ⟨fun pins s' σ H Q I hh => hh s _ C cl fp pins s' I⟩) (fun s H C cl fp => ⟨fun pins s' σ H Q I hh => (hh s _ C cl fp).go pins s' I⟩) hs) (adI si hi sg st se R p)
theorem Rv (C : Cq X T W k) (j : Nat) {y : Str} {py spos : Pos} (own : List (Str × Nat)) (si : PB X T W tg iter li) (hi : ∀ i ∈ is, i ∈ own.map (·.2))
 (sg : ∀ (s : Shared) (H0 : Hp) (C : Addr) (cl : List (Str × Addr)) (fp : List Addr), Fv (X.blk s H0 scope (compEnvC scope cl C X.env) fp) T is tg g)
 (st : ∀ (s : Shared) (H0 : Hp) (C : Addr) (cl : List (Str × Addr)) (fp : List Addr), iT (Ve (X.blk s H0 scope (compEnvC scope cl C X.env) fp) ifs) X.K T WF vB t)
 (se : ∀ (s : Shared) (H0 : Hp) (C : Addr) (cl : List (Str × Addr)) (fp : List Addr), aY (X.blk s H0 scope (compEnvC scope cl C X.env) fp) T WF elt me)
 (ok : BlkOk X.N X.env.scope scope own) (hsw : swapsWith (.ListComp elt [⟨tg, iter, ifs, 0⟩] scope pos) (some (.Name y py)) spos.line X.env = pure true) (hy : X.N[j]? = some y := by rfl) (j0 : j ≠ 0 := by decide) (hyl : X.env.scope.names.lookup y = some .local := by rfl)
 (hs : ∀ x, foldedSetIterable iter X.env x = pure x := by intro _; rfl) : wO X T W (.Assign [.Name y py] (.ListComp elt [⟨tg, iter, ifs, 0⟩] scope pos) spos) (bA j (km (own.map (·.2)) li g t me)) := fun B w σ H fr h D R p =>
 wV (ps_setLc C.calm C.nd hy hyl hsw Py ok (fun s H C cl fp => ⟨fun pins s' σ H v u Q I r hh => hh s _ C cl fp pins s' u I r⟩) (fun s H C cl fp => ⟨fun pins s' σ H Q I hh => hh s _ C cl fp pins s' I⟩) (fun s H C cl fp => ⟨fun pins s' σ H Q I hh => (hh s _ C cl fp).go pins s' I⟩) hs)
  (adI si hi sg st se R (dI.bind (VR := vE X.K T B σ) p fun d fr1 h1 w1 H1 v e1 l1 r1 rx p1 => p1 w1 _ H1 (Wd.le_refl _) (r1.put j j0 rx)))
theorem pP : iT (Ve X []) X.K T W vB (M.ret true) := fun B w σ H fr h Q R p => abY pts_nil (p w H true (Wd.le_refl _) R rfl)
theorem GX (s : Ar X T W c t) : iT (Ve X [c]) X.K T W vB t := fun B w σ H fr h Q R p => abY (pts_one Eu) (s B w σ H fr h Q R p)
theorem Cq.blk (C : Cq X T W k) {s : Shared} {H0 : Hp} {A0 : Addr} {cl : List (Str × Addr)} {fp : List Addr} : Cq (X.blk s H0 scope (compEnvC scope cl A0 X.env) fp) T WF k :=
 ⟨C.calm, C.nd, C.room, fun u s' ⟨_, _, _, _, _, _, _, _, _, _, _, _, _, _, _, _, w⟩ => w.elim, fun _ _ z => z.elim⟩
end
def cR (i : Nat) (f : List D → Option (List D)) : M Unit := fun fr h => match fr[i]? with
 | some (some (.nl l)) => match f l with
   | some l' => .ok () (fr.set i (some (.nl l'))) h
   | none => .err
 | some (some (.ref n)) => match h[n]? with
   | some (.nl l) => match f l with
     | some l' => .ok () fr (h.set n (.nl l'))
     | none => .err
   | _ => .err
 | _ => .err
def rF (d : D) (f : List D → Option (List D)) : M Unit := fun fr h => match d with
 | .ref n => match h[n]? with
   | some (.nl l) => match f l with
     | some l' => .ok () fr (h.set n (.nl l'))
     | none => .err
   | _ => .err
 | _ => .err
def oM (l : List D) : Option (List D) := some l
def uZ (d : D) (l : List D) : Option (List D) := if l.length < big then some (l ++ [d]) else none
def Ml (j : D) (d : D) (l : List D) : Option (List D) := match j with
 | .int j => (ixN l.length j).map fun n => l.set n d
 | _ => none
def aiB (_ : List D) : Option (List D) := some []
def Jl (K : PySem.W.Frag) (T : Tb) (B : Bs) (w : Wd) (σ : L2.St) (H : Hp) (v : V) (f : List D → Option (List D)) (fr' : Fr) (h' : Hh) : Prop :=
 ∃ p vs l l', v = .ref p ∧ H p = some (.lst vs) ∧ aF K T w vs l ∧ f l = some l' ∧ ∀ vs', aF K T w vs' l' → Rel K T B w σ (upd H p (.lst vs')) fr' h'
section
variable {K : PySem.W.Frag} {T : Tb} {B : Bs} {w : Wd} {σ : L2.St} {H : Hp} {fr : Fr} {h : Hh}
theorem TY (R : Rel K T B w σ H fr h) {n : Nat} {v : V} (rv : bQ K T w v (.ref n)) {f : List D → Option (List D)} {l l' : List D} (e : h[n]? = some (.nl l)) (ef : f l = some l') : Jl K T B w σ H v f fr (h.set n (.nl l')) := by
 cases rv with
 | @ref a n s =>
   obtain ⟨o, q, rr⟩ := R.cel n a _ s e
   cases rr with
   | lst r => exact ⟨a, _, l, l', rfl, q, r, ef, fun vs' rs => R.change_cell s e (.lst rs)⟩
theorem ab0 {α β : Type} {VR : Wd → Hp → Fr → β → α → Prop} {W : WX} {d : D} {v : V} {f : List D → Option (List D)} {m : M α} {Q : β → Hp → Prop} (R : Rel K T B w σ H fr h) (rv : bQ K T w v d) (p : aO K T B W VR w σ ((rF d f).bind (fun _ => m) fr h) Q) :
 ∃ fr' h', Jl K T B w σ H v f fr' h' ∧ aO K T B W VR w σ (m fr' h') Q := by
 cases q : rF d f fr h with
 | ok u fr' h' =>
   rw [M.bind_ok q] at p
   refine ⟨fr', h', ?_, p⟩
   unfold rF at q
   split at q
   · split at q
     · split at q
       · cases q
         exact TY R rv (by assumption) (by assumption)
       · cases q
     · cases q
   · cases q
 | exc y fr' h' =>
   exfalso
   unfold rF at q
   split at q
   · split at q
     · split at q <;> cases q
     · cases q
   · cases q
 | err =>
   rw [M.bind_err q] at p
   exact p.elim
theorem ZQ {α β : Type} {VR : Wd → Hp → Fr → β → α → Prop} {W : WX} {i : Nat} {v : V} {f : List D → Option (List D)} {m : M α} {Q : β → Hp → Prop} (R : Rel K T B w σ H fr h) (ev : σ[i]? = some (some v)) (p : aO K T B W VR w σ ((cR i f).bind (fun _ => m) fr h) Q) :
 ∃ fr' h', Jl K T B w σ H v f fr' h' ∧ aO K T B W VR w σ (m fr' h') Q := by
 cases q : cR i f fr h with
 | ok u fr' h' =>
   rw [M.bind_ok q] at p
   refine ⟨fr', h', ?_, p⟩
   unfold cR at q
   split at q
   · rename_i l e1
     split at q
     · rename_i l' ef
       cases q
       obtain ⟨v', e2, z⟩ := iQ R e1
       rw [ev] at e2
       cases e2
       cases z with
       | val r => cases r
       | own O eH r =>
         cases r with
         | lst r => exact ⟨_, _, l, l', rfl, eH, r, ef, fun vs' rs => R.change_slot ev e1 O eH rfl (.lst rs)⟩
     · cases q
   · rename_i n e1
     split at q
     · split at q
       · cases q
         obtain ⟨v', e2, z⟩ := iQ R e1
         rw [ev] at e2
         cases e2
         cases z with
         | val r => exact TY R r (by assumption) (by assumption)
         | own O eH r => cases r
       · cases q
     · cases q
   · cases q
 | exc y fr' h' =>
   exfalso
   unfold cR at q
   split at q
   · split at q <;> cases q
   · split at q
     · split at q <;> cases q
     · cases q
   · cases q
 | err =>
   rw [M.bind_err q] at p
   exact p.elim
end
def fH (i : Nat) (m : M D) : M D := (cR i oM).bind fun _ => m.bind fun d => (cR i (uZ d)).bind fun _ => M.ret .non
def al6 (i : Nat) : M D := (cR i aiB).bind fun _ => M.ret .non
def Rx (mo m : M D) : M D := mo.bind fun o => (rF o oM).bind fun _ => m.bind fun d => (rF o (uZ d)).bind fun _ => M.ret .non
def al7 (mo : M D) : M D := mo.bind fun o => (rF o aiB).bind fun _ => M.ret .non
section
variable {X : Cx} {T : Tb} {W : WX} {k : Nat} {apos cpos px : Pos} {e o : Expr} {m mo : M D}
theorem adJ {K : PySem.W.Frag} {B : Bs} {w : Wd} {σ : L2.St} {H : Hp} {v : V} {f : List D → Option (List D)} {fr' : Fr} {h' : Hh} (z : Jl K T B w σ H v f fr' h') : tyV K "list" v H := by
 obtain ⟨p, vs, l, l', rfl, e, _⟩ := z
 exact .inl ⟨rfl, vs, SqL.of e⟩
theorem ZR {K : PySem.W.Frag} {B : Bs} {w : Wd} {σ : L2.St} {H : Hp} {v : V} {fr' : Fr} {h' : Hh} (z : Jl K T B w σ H v oM fr' h') : Rel K T B w σ H fr' h' := by
 obtain ⟨p, vs, l, l', rfl, e, r, ef, k⟩ := z
 have e1 : l = l' := Option.some.inj ef
 subst e1
 have z := k vs r
 have : upd H p (.lst vs) = H := by
  funext a
  unfold upd
  split
  · rename_i h
    rw [h, e]
  · rfl
 rw [this] at z
 exact z
theorem ab1 {K : PySem.W.Frag} {B : Bs} {w : Wd} {σ : L2.St} {H : Hp} {v y : V} {d : D} {fr' : Fr} {h' : Hh} {Q : VK} (z : Jl K T B w σ H v (uZ d) fr' h') (ry : bQ K T w y d) (q : ∀ H', Rel K T B w σ H' fr' h' → Q .non H') : rAppend v [y] H Q := by
 obtain ⟨p, vs, l, l', rfl, e, r, ef, k⟩ := z
 unfold uZ at ef
 by_cases hl : l.length < big
 · rw [if_pos hl] at ef
   cases ef
   exact ⟨p, vs, y, rfl, rfl, e, by rw [r.length]; exact Nat.lt_of_lt_of_le hl (by decide), q _ (k _ (r.append (.cons ry .nil)))⟩
 · rw [if_neg hl] at ef
   cases ef
theorem nj (i : Nat) {x : Str} (s : aY X T W e m) (hN : X.N[i]? = some x := by rfl) (hv : Vis X.env.scope x := by first | exact Or.inl rfl | exact Or.inr (Or.inl rfl) | exact Or.inr (Or.inr rfl)) (hd : (x == ("__debug__" : Str)) = false := by decide)
 (hcd : (x == ("__classdict__" : Str)) = false := by decide)
 (hbase : attributeBase (.Name x px) "append" X.env (eval (.Name x px) X.env) = eval (.Name x px) X.env := by rfl)
 (hfew : ((backTo cpos (starEach (e :: []) X.env)).all (fun x => !x.1) && (backToKw cpos (keywordEach [] X.env)).all (fun x => x.1.isSome)
  && decide ((e :: []).length + ([] : List Keyword).length + (if ([] : List Keyword).isEmpty then 0 else 1) < 30)) = true := by rfl)
 (hline : (apos.endLine == cpos.line) = true := by rfl) (hs : starEach (e :: []) X.env = (false, eval e X.env) :: starEach [] X.env := by exact eY rfl) (hplain : (backTo cpos (starEach [] X.env)).any (·.1) = false := by rfl) :
 aY X T W (.Call (.Attribute (.Name x px) "append" apos) [e] [] cpos) (fH i m) := fun B w σ H fr h Q R p => by
 have hh : ∃ v, σ[i]? = some (some v) := by
  cases e1 : fr[i]? with
  | none =>
    have q : cR i oM fr h = .err := by unfold cR; rw [e1]
    have p' : aO X.K T B W (vV X.K T B σ) w σ ((cR i oM).bind _ fr h) Q := p
    rw [M.bind_err q] at p'
    exact p'.elim
  | some o =>
    cases o with
    | none =>
      have q : cR i oM fr h = .err := by unfold cR; rw [e1]
      have p' : aO X.K T B W (vV X.K T B σ) w σ ((cR i oM).bind _ fr h) Q := p
      rw [M.bind_err q] at p'
      exact p'.elim
    | some d =>
      obtain ⟨v, e2, _⟩ := iQ R e1
      exact ⟨v, e2⟩
 obtain ⟨v, ev⟩ := hh
 obtain ⟨fr1, h1, z1, p1⟩ := ZQ (VR := vV X.K T B σ) R ev p
 have R1 := ZR z1
 refine eG (pe_bm PySem.F.plainAttrs_list PySem.F.slot_list_append PySem.F.type_list_append mt_append (pe_var hN hv hd hcd) (pa_cons bF pa_nil hs) hbase hfew hline hs hplain) ⟨v, ev, adJ z1, s B w σ H fr1 h1 _ R1 (aO.bind (VR := vV X.K T B σ) p1 fun d fr2 h2 w2 H2 y e2 l2 r2 ry p2 => ?_)⟩
 obtain ⟨fr3, h3, z3, p3⟩ := ZQ (VR := vV X.K T B σ) r2 ev p2
 exact ab1 z3 ry fun H' R' => p3 w2 H' .non (Wd.le_refl _) R' .non
theorem ag0 (so : aY X T W o mo) (s : aY X T W e m)
 (hbase : attributeBase o "append" X.env (eval o X.env) = eval o X.env := by rfl)
 (hfew : ((backTo cpos (starEach (e :: []) X.env)).all (fun x => !x.1) && (backToKw cpos (keywordEach [] X.env)).all (fun x => x.1.isSome)
  && decide ((e :: []).length + ([] : List Keyword).length + (if ([] : List Keyword).isEmpty then 0 else 1) < 30)) = true := by rfl)
 (hline : (apos.endLine == cpos.line) = true := by rfl) (hs : starEach (e :: []) X.env = (false, eval e X.env) :: starEach [] X.env := by exact eY rfl) (hplain : (backTo cpos (starEach [] X.env)).any (·.1) = false := by rfl) :
 aY X T W (.Call (.Attribute o "append" apos) [e] [] cpos) (Rx mo m) := fun B w σ H fr h Q R p => by
 refine eG (pe_bm PySem.F.plainAttrs_list PySem.F.slot_list_append PySem.F.type_list_append mt_append bF (pa_cons bF pa_nil hs) hbase hfew hline hs hplain) (so B w σ H fr h _ R (aO.bind (VR := vV X.K T B σ) p fun od fr0 h0 w0 H0 ov e0 l0 r0 ro p0 => ?_))
 obtain ⟨fr1, h1, z1, p1⟩ := ab0 (VR := vV X.K T B σ) r0 ro p0
 have R1 := ZR z1
 refine ⟨adJ z1, s B w0 σ H0 fr1 h1 _ R1 (aO.bind (VR := vV X.K T B σ) p1 fun d fr2 h2 w2 H2 y e2 l2 r2 ry p2 => ?_)⟩
 obtain ⟨fr3, h3, z3, p3⟩ := ab0 (VR := vV X.K T B σ) r2 (ro.mono l2) p2
 exact ab1 z3 ry fun H' R' => p3 w2 H' .non (Wd.le_refl _) R' .non
def Vh (i : Nat) (m mi : M D) : M Fl := m.bind fun d => (iY i).bind fun _ => mi.bind fun j => (cR i (Ml j d)).bind fun _ => M.ret .nx
def al8 (mo m mi : M D) : M Fl := m.bind fun d => mo.bind fun o => mi.bind fun j => (rF o (Ml j d)).bind fun _ => M.ret .nx
end
end Pk
namespace Pk
open PySem PySem.Spec L2
section
variable {K : PySem.W.Frag} {T : Tb} {B : Bs} {w : Wd} {σ : L2.St} {H : Hp} {fr : Fr} {h : Hh}
theorem adK {i : Nat} {v : V} {f : List D → Option (List D)} (R : Rel K T B w σ H fr h) (ev : σ[i]? = some (some v)) : cR i f fr h = .err ∨ ∃ fr' h', cR i f fr h = .ok () fr' h' ∧ Jl K T B w σ H v f fr' h' := by
 cases q : cR i f fr h with
 | ok u fr' h' =>
   right
   refine ⟨fr', h', rfl, ?_⟩
   unfold cR at q
   split at q
   · rename_i l e1
     split at q
     · rename_i l' ef
       cases q
       obtain ⟨v', e2, z⟩ := iQ R e1
       rw [ev] at e2
       cases e2
       cases z with
       | val r => cases r
       | own O eH r =>
         cases r with
         | lst r => exact ⟨_, _, l, l', rfl, eH, r, ef, fun vs' rs => R.change_slot ev e1 O eH rfl (.lst rs)⟩
     · cases q
   · rename_i n e1
     split at q
     · split at q
       · cases q
         obtain ⟨v', e2, z⟩ := iQ R e1
         rw [ev] at e2
         cases e2
         cases z with
         | val r => exact TY R r (by assumption) (by assumption)
         | own O eH r => cases r
       · cases q
     · cases q
   · cases q
 | exc y fr' h' =>
   exfalso
   unfold cR at q
   split at q
   · split at q <;> cases q
   · split at q
     · split at q <;> cases q
     · cases q
   · cases q
 | err => exact .inl rfl
end
section
variable {X : Cx} {T : Tb} {W : WX} {k : Nat} {pos px tpos : Pos} {e o j : Expr} {m mo mj : M D}
theorem aiC {K : PySem.W.Frag} {B : Bs} {w : Wd} {σ : L2.St} {H : Hp} {v y u : V} {d jd : D} {fr' : Fr} {h' : Hh} {Q : Hp → Prop} (z : Jl K T B w σ H v (Ml jd d) fr' h') (ry : bQ K T w y d) (rj : bQ K T w u jd) (q : ∀ H', Rel K T B w σ H' fr' h' → Q H') : rSetL v u y H Q := by
 obtain ⟨p, vs, l, l', rfl, e, r, ef, k⟩ := z
 unfold Ml at ef
 split at ef
 · rename_i i
   obtain ⟨n, en, rfl⟩ := Option.map_eq_some_iff.mp ef
   rw [lu rj]
   exact ⟨p, vs, i, n, rfl, rfl, e, by rw [r.length]; exact en, q _ (k _ (r.set n ry))⟩
 · cases ef
theorem adL (i : Nat) {x : Str} (s : aY X T W e m) (sj : aY X T W j mj) (hN : X.N[i]? = some x := by rfl) (hv : Vis X.env.scope x := by first | exact Or.inl rfl | exact Or.inr (Or.inl rfl) | exact Or.inr (Or.inr rfl)) (hd : (x == ("__debug__" : Str)) = false := by decide)
 (hcd : (x == ("__classdict__" : Str)) = false := by decide)
 (ha : ∀ v, assign (.Subscript (.Name x px) j tpos) X.env v = (do
  let ov ← holding [v] (eval (.Name x px) X.env)
  let iv ← holding [v, ov] (eval j X.env)
  standAt tpos
  holding [v, ov, iv] (setItem ov iv v)
  release [v, ov, iv] []) := by intro _; rfl)
 (hs : swapsWithSole [.Subscript (.Name x px) j tpos] e pos.line X.env = pure false := by rfl) (hw : swappedStores [.Subscript (.Name x px) j tpos] e X.env = pure none := by rfl)
 (h1 : (assignEach [.Subscript (.Name x px) j tpos] X.env).map (·.2) = [assign (.Subscript (.Name x px) j tpos) X.env] := by rfl) : wO X T W (.Assign [.Subscript (.Name x px) j tpos] e pos) (Vh i m mj) := fun B w σ H fr h D R p =>
 wV (ps_asg bF (pg_sub (pe_var hN hv hd hcd) bF set_list ha) hs hw h1) (s B w σ H fr h _ R (dI.bind (VR := vV X.K T B σ) p fun d fr1 h1 w1 H1 v e1 l1 r1 rx p1 => by
  have p1' : dI X.K T B W w1 ((iY i).bind (fun _ => mj.bind fun j => (cR i (Ml j d)).bind fun _ => M.ret .nx) fr1 h1) D := p1
  cases es : fr1[i]? with
  | none =>
    have q : iY i fr1 h1 = .err := by unfold iY; rw [es]
    rw [M.bind_err q] at p1'
    exact p1'.elim
  | some os =>
    cases os with
    | none =>
      have q : iY i fr1 h1 = .err := by unfold iY; rw [es]
      rw [M.bind_err q] at p1'
      exact p1'.elim
    | some ds =>
      have q : iY i fr1 h1 = .ok () fr1 h1 := by unfold iY; rw [es]
      rw [M.bind_ok q] at p1'
      obtain ⟨ov, ev, _⟩ := iQ r1 es
      refine ⟨ov, ev, sj B w1 σ H1 fr1 h1 _ r1 (dI.bind (VR := vV X.K T B σ) p1' fun jd fr2 h2 w2 H2 jv e2 l2 r2 rj p2 => ?_)⟩
      have p2' : dI X.K T B W w2 ((cR i (Ml jd d)).bind (fun _ => M.ret .nx) fr2 h2) D := p2
      rcases adK (f := Ml jd d) r2 ev with q | ⟨fr3, h3, q, z⟩
      · rw [M.bind_err q] at p2'
        exact p2'.elim
      · rw [M.bind_ok q] at p2'
        exact aiC z (rx.mono l2) rj fun H' R' => p2' w2 σ H' (Wd.le_refl _) R'))
def DP (m : M D) : M D := m.bind fun d fr h => if d.own then .ok (.ref h.length) fr (h ++ [d]) else .err
theorem Xd (s : ph X T W e m) : aY X T W e (DP m) := fun B w σ H fr h Q R p => s B w σ H fr h Q R (aO.bind (VR := vE X.K T B σ) p fun d fr1 h1 w1 H1 v e1 l1 r1 rx p1 => by
 rcases rx with rx | ⟨q, o, rfl, O, lo, eH, rd⟩
 · have p1' : aO X.K T B W (vV X.K T B σ) w1 σ (if d.own then .ok (.ref h1.length) fr1 (h1 ++ [d]) else .err) Q := p1
   rw [Ma rx] at p1'
   exact (show False from p1').elim
 · have p1' : aO X.K T B W (vV X.K T B σ) w1 σ (if d.own then .ok (.ref h1.length) fr1 (h1 ++ [d]) else .err) Q := p1
   rw [rd.own] at p1'
   have R2 := r1.to_cell O lo eH rd
   exact p1' ⟨w1.F, w1.I ++ [q]⟩ H1 (.ref q) ⟨fun _ _ z => z, [q], rfl⟩ R2 (.ref (by
    rw [← r1.len]
    show (w1.I ++ [q])[w1.I.length]? = some q
    rw [aow (Nat.le_refl _), Nat.sub_self]
    rfl)))
theorem Vi {α : Type} {f : Str} : ∀ {fs : List Str} {vs : List α} {i : Nat}, fs.Nodup → fs[i]? = some f → (fs.zip vs).lookup f = vs[i]?
 | [], _, _, _, e => by simp at e
 | g :: fs, [], i, _, _ => by simp
 | g :: fs, v :: vs, 0, _, e => by
   simp at e
   subst e
   simp [aoi]
 | g :: fs, v :: vs, i + 1, n, e => by
   have hf : f ∈ fs := aop (by simpa using e)
   have hne : (f == g) = false := by
    rw [beq_eq_false_iff_ne]
    rintro rfl
    exact (List.nodup_cons.mp n).1 hf
   show aoi f ((g, v) :: fs.zip vs) = (v :: vs)[i + 1]?
   rw [List.lookup_cons, hne]
   show (fs.zip vs).lookup f = _
   rw [Vi (List.nodup_cons.mp n).2 (by simpa using e)]
   simp
theorem ZS {f : Str} {y : V} : ∀ {fs : List Str} {vs : List V} {i : Nat}, fs.Nodup → fs[i]? = some f → i ≤ vs.length → putF f y (fs.zip vs) = fs.zip (if i < vs.length then vs.set i y else vs ++ [y])
 | [], _, _, _, e, _ => by simp at e
 | g :: fs, [], i, _, e, hl => by
   have h0 : i = 0 := by simpa using hl
   subst h0
   simp at e
   subst e
   simp [putF]
 | g :: fs, v :: vs, 0, _, e, _ => by
   simp at e
   subst e
   show putF g y ((g, v) :: fs.zip vs) = _
   unfold putF
   rw [if_pos rfl, if_pos (show 0 < (v :: vs).length from Nat.succ_pos _)]
   rfl
 | g :: fs, v :: vs, i + 1, n, e, hl => by
   have hf : f ∈ fs := aop (by simpa using e)
   have hne : ¬ g = f := by
    rintro rfl
    exact (List.nodup_cons.mp n).1 hf
   show putF f y ((g, v) :: fs.zip vs) = _
   unfold putF
   rw [if_neg hne, ZS (List.nodup_cons.mp n).2 (i := i) (by simpa using e) (by simpa using hl)]
   by_cases h : i < vs.length
   · rw [if_pos h, if_pos (by simpa using h)]
     rfl
   · rw [if_neg h, if_neg (by simpa using h)]
     rfl
structure Mp (X : Cx) (T : Tb) (f : Str) (ix : Nat → Option Nat) : Prop where
 cls : ∀ c i, ix c = some i → Cls X.K (T.cad c)
 na : ∀ c i, ix c = some i → NoAttr X.K (T.cad c) f
 nd : ∀ c i, ix c = some i → (T.fld c).Nodup ∧ (T.fld c).length < 1000
 at_ : ∀ c i, ix c = some i → (T.fld c)[i]? = some f
def D.ins (h : Hh) (d : D) : Option (Nat × List D) := match d.der h with
 | .obj c fs => some (c, fs)
 | .no c fs => some (c, fs)
 | _ => none
def bB (ix : Nat → Option Nat) (h : Hh) (d : D) : Option D := match d.ins h with
 | some (c, fs) => match ix c with
   | some i => fs[i]?
   | none => none
 | none => none
theorem CG {K : PySem.W.Frag} {B : Bs} {w : Wd} {σ : L2.St} {H : Hp} {fr : Fr} {h : Hh} {v : V} {d : D} {c : Nat} {fs : List D} (R : Rel K T B w σ H fr h) (z : vO K T B σ w H fr v d) (e : d.ins h = some (c, fs)) :
 ∃ a dx vs, v = .ref a ∧ H a = some (.ins (T.cad c) dx ((T.fld c).zip vs)) ∧ aF K T w vs fs := by
 rcases z with z | ⟨p, o, rfl, eH, z⟩
 · cases z with
   | obj s r =>
     cases e
     exact ⟨_, _, _, rfl, R.sub _ _ s, r⟩
   | @ref a n s =>
     have ln : n < h.length := by
      rw [← R.len]
      exact (List.getElem?_eq_some_iff.mp s).1
     obtain ⟨o, q, rr⟩ := R.cel n a h[n] s (aoc ln)
     have e0 : D.der h (.ref n) = h[n] := by
      unfold D.der
      dsimp only
      rw [aoc ln]
      rfl
     unfold D.ins at e
     rw [e0] at e
     generalize h[n] = cc at rr e
     cases rr with
     | lst r => cases e
     | dct _ r => cases e
     | dkt _ r => cases e
     | obj r =>
       cases e
       exact ⟨_, _, _, rfl, q, r⟩
   | _ => cases e
 · cases z with
   | lst r => cases e
   | obj r =>
     cases e
     exact ⟨_, _, _, rfl, eH, r⟩
theorem bY {f : Str} {ix : Nat → Option Nat} (F : Mp X T f ix) (s : JK X T W o mo) (hb : attributeBase o f X.env (eval o X.env) = eval o X.env := by rfl) : aY X T W (.Attribute o f pos) (aA (bB ix) mo) := fun B w σ H fr h Q R p =>
 eG (pe_fld bF hb) (s B w σ H fr h _ R (aO.bind (VR := vO X.K T B σ) p fun d fr1 h1 w1 H1 v e1 l1 r1 rx p1 => by
  have p1' : aO X.K T B W (vV X.K T B σ) w1 σ (M.opt (bB ix h1 d) fr1 h1) Q := p1
  cases q : bB ix h1 d with
  | none => rw [q] at p1'; exact p1'.elim
  | some z =>
    rw [q] at p1'
    unfold bB at q
    split at q
    · rename_i c fs ei
      split at q
      · rename_i i ec
        obtain ⟨a, dx, vs, rfl, eH, rs⟩ := CG r1 rx ei
        obtain ⟨v, ev, rv⟩ := rs.get q
        exact ⟨a, _, dx, _, v, rfl, eH, F.cls c i ec, F.na c i ec, by rw [Vi (F.nd c i ec).1 (F.at_ c i ec)]; exact ev, p1' w1 H1 v (Wd.le_refl _) r1 rv⟩
      · cases q
    · cases q))
def sO (i : Nat) (d : D) (fs : List D) : Option (List D) := if i ≤ fs.length then some (if i < fs.length then fs.set i d else fs ++ [d]) else none
def wg (j : Nat) (ix : Nat → Option Nat) (d : D) : M Unit := fun fr h => match fr[j]? with
 | some (some (.no c fs)) => match ix c with
   | some i => match sO i d fs with
     | some fs' => .ok () (fr.set j (some (.no c fs'))) h
     | none => .err
   | none => .err
 | some (some (.ref n)) => match h[n]? with
   | some (.no c fs) => match ix c with
     | some i => match sO i d fs with
       | some fs' => .ok () fr (h.set n (.no c fs'))
       | none => .err
     | none => .err
   | _ => .err
 | _ => .err
def nu (j : Nat) (ix : Nat → Option Nat) (m : M D) : M Fl := m.bind fun d => (wg j ix d).bind fun _ => M.ret .nx
theorem adM {K : PySem.W.Frag} {w : Wd} {f : Str} {c i : Nat} {fs fs' : List D} {vs : List V} {y : V} {d : D} (nd : (T.fld c).Nodup) (at_ : (T.fld c)[i]? = some f) (rs : aF K T w vs fs) (ry : bQ K T w y d) (e : sO i d fs = some fs') :
 ∃ vs', putF f y ((T.fld c).zip vs) = (T.fld c).zip vs' ∧ aF K T w vs' fs' := by
 unfold sO at e
 by_cases hi : i ≤ fs.length
 · rw [if_pos hi] at e
   cases e
   refine ⟨_, ZS nd at_ (by rw [rs.length]; exact hi), ?_⟩
   rw [rs.length]
   by_cases hl : i < fs.length
   · rw [if_pos hl, if_pos hl]
     exact rs.set i ry
   · rw [if_neg hl, if_neg hl]
     exact rs.append (.cons ry .nil)
 · rw [if_neg hi] at e
   cases e
theorem xH (j : Nat) {x f : Str} {ix : Nat → Option Nat} (F : Mp X T f ix) (s : aY X T W e m) (hs : swapsWith e (some (.Attribute (.Name x px) f tpos)) pos.line X.env = pure false := by rfl)
 (hN : X.N[j]? = some x := by rfl) (hv : Vis X.env.scope x := by first | exact Or.inl rfl | exact Or.inr (Or.inl rfl) | exact Or.inr (Or.inr rfl)) (hd : (x == ("__debug__" : Str)) = false := by decide)
 (hcd : (x == ("__classdict__" : Str)) = false := by decide) : wO X T W (.Assign [.Attribute (.Name x px) f tpos] e pos) (nu j ix m) := fun B w σ H fr h D R p =>
 wV (ps_fld (pe_var hN hv hd hcd) bF hs) (s B w σ H fr h _ R (dI.bind (VR := vV X.K T B σ) p fun d fr1 h1 w1 H1 y e1 l1 r1 ry p1 => by
  have p1' : dI X.K T B W w1 ((wg j ix d).bind (fun _ => M.ret .nx) fr1 h1) D := p1
  have fin : ∀ {c i : Nat} {a dx : Addr} {vs : List V} {fs fs' : List Pk.D}, ix c = some i → H1 a = some (.ins (T.cad c) dx ((T.fld c).zip vs)) → aF X.K T w1 vs fs → sO i d fs = some fs' → (∀ vs', aF X.K T w1 vs' fs' → D.nx σ (upd H1 a (.ins (T.cad c) dx ((T.fld c).zip vs')))) → σ[j]? = some (some (.ref a)) →
   ∃ v, σ[j]? = some (some v) ∧ ∃ a C dx fs, v = .ref a ∧ H1 a = some (.ins C dx fs) ∧ Cls X.K C ∧ NoAttr X.K C f ∧ fs.length < 1000 ∧ D.nx σ (upd H1 a (.ins C dx (putF f y fs))) := fun {c i a dx vs fs fs'} ec eH rs ep kk es => by
   obtain ⟨vs', e1, rs'⟩ := adM (F.nd c i ec).1 (F.at_ c i ec) rs ry ep
   refine ⟨_, es, a, _, dx, _, rfl, eH, F.cls c i ec, F.na c i ec, ?_, ?_⟩
   · rw [List.length_zip]
     have := (F.nd c i ec).2
     omega
   · rw [e1]
     exact kk vs' rs'
  cases q : wg j ix d fr1 h1 with
  | err => rw [M.bind_err q] at p1'; exact p1'.elim
  | exc z fr2 h2 =>
    exfalso
    unfold wg at q
    repeat' (first | (split at q) | (cases q))
  | ok u fr2 h2 =>
    rw [M.bind_ok q] at p1'
    have p2 : ∀ w' σ' H', w1.le w' → Rel X.K T B w' σ' H' fr2 h2 → D.nx σ' H' := p1'
    unfold wg at q
    split at q
    · rename_i c fs es
      split at q
      · rename_i i ec
        split at q
        · rename_i fs' ep
          cases q
          obtain ⟨v, e2, z⟩ := iQ r1 es
          cases z with
          | val r => cases r
          | own O eH r =>
            cases r with
            | obj r => exact fin ec eH r ep (fun vs' rs' => p2 w1 σ _ (Wd.le_refl _) (r1.change_slot e2 es O eH rfl (.obj rs'))) e2
        · cases q
      · cases q
    · rename_i n es
      split at q
      · rename_i c fs en
        split at q
        · rename_i i ec
          split at q
          · rename_i fs' ep
            cases q
            obtain ⟨v, e2, z⟩ := iQ r1 es
            cases z with
            | val r =>
              cases r with
              | ref sI =>
                obtain ⟨o, qo, rr⟩ := r1.cel n _ _ sI en
                cases rr with
                | obj r => exact fin ec qo r ep (fun vs' rs' => p2 w1 σ _ (Wd.le_refl _) (r1.change_cell sI en (.obj rs'))) e2
            | own O eH r => cases r
          · cases q
        · cases q
      · cases q
    · cases q))
end
end Pk
namespace Pk
open PySem PySem.Spec L2
abbrev Fn := List D → Hh → R D
def startF (n : Nat) (ds : List D) : Fr := ds.map some ++ List.replicate (n - ds.length) none
def bO (n : Nat) (m : M Fl) : Fn := fun ds h => match m (startF n ds) h with
 | .ok (.rt d) _ h => .ok d [] h
 | .ok .nx _ h => .ok .non [] h
 | .ok _ _ _ => .err
 | .exc x _ h => .exc x [] h
 | .err => .err
def runI (c n : Nat) (m : M Fl) : Fn := fun ds h => match m (startF n (.no c [] :: ds)) h with
 | .ok .nx fr h => match (fr : Fr)[0]? with
   | some (some (D.no c' fs)) => if c' = c then .ok (.no c fs) [] h else .err
   | _ => .err
 | .ok _ _ _ => .err
 | .exc x _ h => .exc x [] h
 | .err => .err
def spF (K : PySem.W.Frag) (T : Tb) (n : Nat) (F : Fn) : Sp := fun vs H Q E => ∃ w h ds, Rel K T (Bs.of w H) w [] H [] h ∧ aF K T w vs ds ∧ ds.length = n ∧ aO K T (Bs.of w H) (fun c d _ H' => E c d H') (vE K T (Bs.of w H) []) w [] (F ds h) Q
def vN (K : PySem.W.Frag) (T : Tb) (w : Wd) (G : Hp) (x : Addr) (w' : Wd) (H' : Hp) (_ : Fr) (v : V) (d : D) : Prop := v = .non ∧ Own (Bs.of w G) w' x ∧ ∃ o, H' x = some o ∧ uW K T w' o d
def spI (K : PySem.W.Frag) (T : Tb) (c n : Nat) (F : Fn) : Sp := fun vs H Q E => ∃ w h ds G x dx us, vs = .ref x :: us ∧ G x = none ∧ H = upd G x (.ins (T.cad c) dx []) ∧ Rel K T (Bs.of w G) w [] G [] h ∧ aF K T w us ds ∧ ds.length + 1 = n ∧
 aO K T (Bs.of w G) (fun c d _ H' => E c d H') (vN K T w G x) w [] (F ds h) Q
section
variable {K : PySem.W.Frag} {T : Tb} {B : Bs} {w w' : Wd} {σ : L2.St} {H H' : Hp} {fr : Fr} {h : Hh}
theorem N5 {n : Nat} {ds : List D} (hl : ds.length ≤ n) : (startF n ds).length = n := by
 unfold startF
 rw [an9, an2, List.length_replicate]
 omega
theorem Ey {n i : Nat} {ds : List D} {d : D} (e : (startF n ds)[i]? = some (some d)) : ds[i]? = some d := by
 unfold startF at e
 by_cases hi : i < ds.length
 · rw [aox (by simpa using hi), aos] at e
   cases q : ds[i]? with
   | none => rw [q] at e; cases e
   | some a => rw [q] at e; cases e; rfl
 · rw [aow (by simpa using hi), List.getElem?_replicate] at e
   split at e <;> cases e
theorem ZV {N : List Str} {vs : List V} {i : Nat} {v : V} (e : vs[i]? = some v) : (L2.start N vs)[i]? = some (some v) := by
 unfold L2.start
 have hi : i < vs.length := (List.getElem?_eq_some_iff.mp e).1
 rw [aox (by simpa using hi), aos, e]
 rfl
theorem Yd {N : List Str} {vs : List V} (hl : vs.length ≤ N.length) : (L2.start N vs).length = N.length := by
 unfold L2.start
 rw [an9, an2, List.length_replicate]
 omega
theorem Rel.start (R : Rel K T B w [] H [] h) {N : List Str} {vs : List V} {ds : List D} (rs : aF K T w vs ds) (hl : ds.length ≤ N.length) : Rel K T B w (L2.start N vs) H (startF N.length ds) h :=
 { R with
   me := fun x d bx e od => by
    obtain ⟨v, ev, rv⟩ := rs.get (Ey e)
    exact (yr od rv).elim
   fl := by rw [N5 hl, Yd (by rw [rs.length]; exact hl)]
   sl := fun i s d e1 e2 => by
    cases d with
    | none => exact .none
    | some d =>
      obtain ⟨v, ev, rv⟩ := rs.get (Ey e2)
      rw [ZV ev] at e1
      cases e1
      exact .val rv
   sep := fun i j p hij ⟨_, d, e, od⟩ _ => by
    obtain ⟨v, ev, rv⟩ := rs.get (Ey e)
    exact yr od rv }
theorem Rel.startI (R : Rel K T B w [] H [] h) {N : List Str} {x dx : Addr} {c : Nat} {vs : List V} {ds : List D} (hB : B.me = some x) (nx : H x = none) (rs : aF K T w vs ds) (hl : ds.length + 1 ≤ N.length) :
 Rel K T B w (L2.start N (.ref x :: vs)) (upd H x (.ins (T.cad c) dx [])) (startF N.length (.no c [] :: ds)) h := by
 have R1 : Rel K T B w [] (upd H x (.ins (T.cad c) dx [])) [] h := R.temp nx
 have O : Own B w x := R.own_new nx
 have sl : ∀ (i : Nat) s d, (L2.start N (.ref x :: vs))[i]? = some s → (startF N.length (.no c [] :: ds))[i]? = some d → Mg K T B w (upd H x (.ins (T.cad c) dx [])) s d := fun i s d e1 e2 => by
  cases d with
  | none => exact .none
  | some d =>
    have q := Ey e2
    cases i with
    | zero =>
      cases q
      cases e1
      exact .own O upd_same (by
       have z : uW K T w (.ins (T.cad c) dx ((T.fld c).zip [])) (.no c []) := .obj .nil
       rw [List.zip_nil_right] at z
       exact z)
    | succ i =>
      obtain ⟨v, ev, rv⟩ := rs.get (show ds[i]? = some d from q)
      have e3 : (L2.start N (.ref x :: vs))[i + 1]? = some (some v) := ZV (show (V.ref x :: vs)[i + 1]? = some v from ev)
      rw [e3] at e1
      cases e1
      exact .val rv
 have hown : ∀ (i : Nat) d, (startF N.length (.no c [] :: ds))[i]? = some (some d) → d.own = true → i = 0 := fun i d e od => by
  cases i with
  | zero => rfl
  | succ i =>
    have q := Ey e
    obtain ⟨v, ev, rv⟩ := rs.get (show ds[i]? = some d from q)
    exact (yr od rv).elim
 refine { R1 with fl := ?_, sl := sl, sep := fun i j p hij ⟨_, d, e, od⟩ ⟨_, d', e', od'⟩ => hij ((hown i d e od).trans (hown j d' e' od').symm), me := fun y d bx e od => ?_ }
 · rw [N5 (by simpa using hl), Yd (by rw [an4, rs.length]; exact hl)]
 · have bx' : some x = some y := hB.symm.trans bx
   cases bx'
   rfl
theorem Rel.unme {m : Option Addr} {w0 : Wd} {G : Hp} (R : Rel K T ⟨w0, G, [], m⟩ w [] H [] h) : Rel K T (Bs.of w0 G) w [] H [] h := { R with me := (fun _ _ _ q _ => by simp at q), sl := fun _ _ _ q => by simp at q }
theorem Rel.ofme {x : Addr} {w0 : Wd} {G : Hp} (R : Rel K T (Bs.of w0 G) w [] H [] h) : Rel K T ⟨w0, G, [], some x⟩ w [] H [] h := { R with me := (fun _ _ _ q _ => by simp at q), sl := fun _ _ _ q => by simp at q }
end
section
variable {P : Program} {w : World} {K : PySem.W.Frag} {mg : Str → Option Value} {base : Heap} {T : Tb} {k : Nat} {x qual : Str} {params : Arguments} {body : List Stmt} {scope : Scope} {dvs : List V} {kws : List (Str × V)} {f : Addr} {fd : FuncData} {N ps : List Str}
abbrev Cxd (P : Program) (w : World) (K : PySem.W.Frag) (mg : Str → Option Value) (base : Heap) (N : List Str) (qual : Str) (scope : Scope) (f : Addr) (cdv : Value) (A : Around) (outer : List Env) (s : Shared) (H : Hp) (E : XK) : Cx := cxOf (L2.CX P w) P w K mg base N qual scope f cdv A outer s H E
def WX.up (E : XK) : WX := fun c d _ H' => E c d H'
def Does (P : Program) (w : World) (K : PySem.W.Frag) (mg : Str → Option Value) (base : Heap) (T : Tb) (k : Nat) (N : List Str) (qual : Str) (scope : Scope) (body : List Stmt) (m : M Fl) : Prop :=
 ∀ (f : Addr) (cdv : Value) (A : Around) (outer : List Env) (s : Shared) (H : Hp) (E : XK), Cq (Cxd P w K mg base N qual scope f cdv A outer s H E) T (WX.up E) k → DN (Cxd P w K mg base N qual scope f cdv A outer s H E) T (WX.up E) body m
theorem acM (S : FnScope N ps scope) {cdv : Value} {A : Around} {outer : List Env} {s : Shared} {H : Hp} {E : XK} (hr : Room k (A.deeper (PyProof.Rows.envOfC qual scope s.heap.objs.size f cdv))) : Cq (Cxd P w K mg base N qual scope f cdv A outer s H E) T (WX.up E) k :=
 ⟨rfl, S.nd, hr, takes_of rfl rfl rfl rfl, passes_of rfl⟩
theorem fn_sim (F : FunD K x qual params body scope dvs kws f fd) (S : FnScope N ps scope) {m : M Fl} (dm : Does P w K mg base T k N qual scope body m) : FnOk P w K mg base (L2.CX P w) (k + 1) f fd ps (spF K T ps.length (bO N.length m)) := by
 refine F.ok S (fun vs H Q E ⟨w, h, ds, _, rs, hl, _⟩ => rs.length.trans hl) fun cdv A outer s H vs Q E hr ⟨w, h, ds, R, rs, hl, post⟩ => ⟨Zv _ body, Ab, ?_⟩
 have hpl : ps.length ≤ N.length := by
  have := congrArg aov S.pre
  rw [List.length_take] at this
  omega
 refine dm f cdv A outer s H E (acM S hr) (Bs.of w H) w _ H (startF N.length ds) h _ (R.start rs (by rw [hl]; exact hpl)) ?_
 unfold bO at post
 cases e : m (startF N.length ds) h with
 | ok fl fr h' =>
   rw [e] at post
   cases fl with
   | nx => exact fun w' σ' H' l R' => post w' H' .non l R'.unframe (.inl .non)
   | rt d => exact fun w' σ' H' v l R' rv => post w' H' v l R'.unframe (by
    rcases rv with rv | ⟨p, o, rfl, O, lo, eH, rd⟩
    · exact .inl rv
    · exact .inr ⟨p, o, rfl, O, fun i => U8, eH, rd⟩)
   | brk => exact post.elim
   | ct => exact post.elim
 | exc y fr h' =>
   rw [e] at post
   exact fun w' σ' H' c dd l R' z => post w' H' c dd l R'.unframe z
 | err => rw [e] at post; exact post
theorem ag1 (c : Nat) (F : FunD K x qual params body scope dvs kws f fd) (S : FnScope N ps scope) {m : M Fl} (dm : Does P w K mg base T k N qual scope body m) : FnOk P w K mg base (L2.CX P w) (k + 1) f fd ps (spI K T c ps.length (runI c N.length m)) := by
 refine F.ok S (fun vs H Q E ⟨w, h, ds, G, x, dx, us, ev, _, _, _, rs, hl, _⟩ => by rw [ev, an4, rs.length]; exact hl) fun cdv A outer s H vs Q E hr ⟨w, h, ds, G, x, dx, us, ev, nx, eH, R, rs, hl, post⟩ => ⟨Zv _ body, Ab, ?_⟩
 have hpl : ps.length ≤ N.length := by
  have := congrArg aov S.pre
  rw [List.length_take] at this
  omega
 subst ev eH
 refine dm f cdv A outer s _ E (acM S hr) ⟨w, G, [], some x⟩ w _ _ (startF N.length (.no c [] :: ds)) h _ (R.ofme.startI rfl nx rs (by rw [hl]; exact hpl)) ?_
 unfold runI at post
 cases e : m (startF N.length (.no c [] :: ds)) h with
 | ok fl fr h' =>
   rw [e] at post
   cases fl with
   | nx =>
     intro w' σ' H' l R'
     dsimp only at post
     cases e0 : (fr : Fr)[0]? with
     | none => rw [e0] at post; exact post.elim
     | some od =>
       rw [e0] at post
       cases od with
       | none => exact post.elim
       | some d =>
         cases d with
         | no c' fs =>
           dsimp only at post
           by_cases hc : c' = c
           · rw [if_pos hc] at post
             subst hc
             have s0 := R'.me x _ rfl e0 rfl
             obtain ⟨v, ev, z⟩ := iQ R' e0
             rw [s0] at ev
             cases ev
             cases z with
             | val r => cases r
             | own O eH r => exact post w' H' .non l R'.unframe.unme ⟨rfl, ⟨O.f, O.i, O.e, fun q hq => by cases hq⟩, _, eH, r⟩
           · rw [if_neg hc] at post
             exact post.elim
         | _ => exact post.elim
   | rt d => exact post.elim
   | brk => exact post.elim
   | ct => exact post.elim
 | exc y fr h' =>
   rw [e] at post
   exact fun w' σ' H' c dd l R' z => post w' H' c dd l R'.unframe.unme z
 | err => rw [e] at post; exact post
end
end Pk
namespace Pk
open PySem PySem.Spec L2
structure WKw (X : Cx) (kws : List Keyword) (σ : L2.St) (H : Hp) (Q : List V → Hp → Prop) : Prop where
 go : ∀ pos pins s, Inv X pins σ H s → wpAny (model X.prog X.w) X.A (evalAll ((backToKw pos (keywordEach kws X.env)).map (·.2))) (AP X pins σ Q) X.xe s
theorem aiE {X : Cx} {kws : List Keyword} : PK X kws (WKw X kws) := ⟨fun pos pins s σ H Q I h => h.go pos pins s I⟩
theorem agB {X : Cx} {kws : List Keyword} {t : TA} (p : PK X kws t) {σ : L2.St} {H : Hp} {Q : List V → Hp → Prop} (h : t σ H Q) : WKw X kws σ H Q := ⟨fun pos pins s I => p.run pos pins s σ H Q I h⟩
abbrev T5 (X : Cx) (T : Tb) (W : WX) (kws : List Keyword) (m : M (List D)) : Prop := iT (WKw X kws) X.K T W vA m
section
variable {X : Cx} {T : Tb} {W : WX} {e : Expr} {kws : List Keyword} {m : M D} {ms : List (M D)} {nm : Option Str} {kpos : Pos}
theorem KN : T5 X T W [] (ak []) := fun B w σ H fr h Q r1 p => agB pk_nil (p w H _ (Wd.le_refl _) r1 .nil)
theorem pQ (s : aY X T W e m) (t : T5 X T W kws (ak ms)) : T5 X T W (⟨nm, e, kpos⟩ :: kws) (ak (m :: ms)) := fun B w σ H fr h Q r1 p =>
 agB (pk_cons bF aiE) (s B w σ H fr h _ r1 (aO.bind (VR := vV X.K T B σ) p fun d fr1 h1 w1 H1 x e1 l1 r1 rx p1 =>
  t B w1 σ H1 fr1 h1 _ r1 (aO.bind (VR := vA X.K T B σ) p1 fun ds fr2 h2 w2 H2 vs e2 l2 r2 rs p2 => p2 w2 H2 _ (Wd.le_refl _) r2 (.cons (rx.mono l2) rs))))
end
def bJ (fr : Fr) : R D → R D
 | .ok d _ h => .ok d fr h
 | .exc x _ h => .exc x fr h
 | .err => .err
theorem ab2 {K : PySem.W.Frag} {T : Tb} {B : Bs} {W : WX} {w : Wd} {σ : L2.St} {H : Hp} {fr : Fr} {h : Hh} {n : Nat} {F : Fn} {vs : List V} {ds : List D} {Q : VK} (R : Rel K T B w σ H fr h) (rs : aF K T w vs ds) (hl : ds.length = n)
 (p : aO K T B W (vE K T B σ) w σ (bJ fr (F ds h)) Q) : spF K T n F vs H Q (fun c d H' => W c d σ H') := by
 refine ⟨w, h, ds, R.enter, rs, hl, ?_⟩
 cases e : F ds h with
 | ok d fr' h' =>
   rw [e] at p
   intro w' H' v l R' rv
   have ef : fr' = [] := by
    have := R'.fl
    exact List.length_eq_zero_iff.mp this
   subst ef
   have R2 := R.back l R'
   refine p w' H' v l R2 ?_
   rcases rv with rv | ⟨q, o, rfl, O, lo, eH, rd⟩
   · exact .inl rv
   · have nq : H q = none := O.e
     refine .inr ⟨q, o, rfl, ⟨O.f, O.i, (R.own_new nq).e, (R.own_new nq).p⟩, fun i z => R.loose_new nq i z, eH, rd⟩
 | exc y fr' h' =>
   rw [e] at p
   intro w' H' c dd l R' z
   have ef : fr' = [] := by
    have := R'.fl
    exact List.length_eq_zero_iff.mp this
   subst ef
   exact p w' H' c dd l (R.back l R') z
 | err => rw [e] at p; exact p
theorem ZW {K : PySem.W.Frag} {T : Tb} {B : Bs} {W : WX} {w : Wd} {σ : L2.St} {H : Hp} {fr : Fr} {h : Hh} {n c : Nat} {F : Fn} {vs : List V} {ds : List D} {Q : VK} {x dx : Addr} (R : Rel K T B w σ H fr h) (rs : aF K T w vs ds) (hl : ds.length + 1 = n)
 (nx : H x = none) (nd : H dx = none) (ne : dx ≠ x)
 (p : aO K T B W (vE K T B σ) w σ (bJ fr (F ds h)) Q) : spI K T c n F (.ref x :: vs) (upd (upd H dx (.own x)) x (.ins (T.cad c) dx [])) (fun v H2 => v = .non ∧ Q (.ref x) H2) (fun c d H' => W c d σ H') := by
 have R1 : Rel K T B w σ (upd H dx (.own x)) fr h := R.temp nd
 have nx1 : (upd H dx (.own x)) x = none := by rw [upd_ne (Ne.symm ne)]; exact nx
 refine ⟨w, h, ds, upd H dx (.own x), x, dx, vs, rfl, nx1, rfl, R1.enter, rs, hl, ?_⟩
 cases e : F ds h with
 | ok d fr' h' =>
   rw [e] at p
   intro w' H' v l R' ⟨ev, O, o, eH, rd⟩
   have ef : fr' = [] := by
    have := R'.fl
    exact List.length_eq_zero_iff.mp this
   subst ef
   exact ⟨ev, p w' H' (.ref x) l (R1.back l R') (.inr ⟨x, o, rfl, ⟨O.f, O.i, (R1.own_new nx1).e, (R1.own_new nx1).p⟩, fun i z => R1.loose_new nx1 i z, eH, rd⟩)⟩
 | exc y fr' h' =>
   rw [e] at p
   intro w' H' c dd l R' z
   have ef : fr' = [] := by
    have := R'.fl
    exact List.length_eq_zero_iff.mp this
   subst ef
   exact p w' H' c dd l (R1.back l R') z
 | err => rw [e] at p; exact p
structure Bn (K : PySem.W.Frag) (T : Tb) (fd : FuncData) (ps : List Str) (n : Nat) (ks : List Str) (gD : List D → List D → List D) : Prop where
 ex : ∃ (g : List Value → List Value → List Value) (gV : List V → List V → List V), KBn K fd ps n ks g gV ∧
  ∀ (w : Wd) (vs zs : List V) (ds es : List D), aF K T w vs ds → aF K T w zs es → ds.length = n → es.length = ks.length → aF K T w (gV vs zs) (gD ds es) ∧ (gD ds es).length = ps.length
def aD (dfl : List D) (ds _ : List D) : List D := ds ++ dfl
structure iw (P : Program) (w : World) (K : PySem.W.Frag) (mg : Str → Option Value) (base : Heap) (T : Tb) (k : Nat) (f : Addr) (fd : FuncData) (ps : List Str) (F : Fn) : Prop where
 ok : FnOk P w K mg base (L2.CX P w) k f fd ps (spF K T ps.length F)
 kp : PySem.W.keepIn K (.ref f) = true
structure FnI (P : Program) (w : World) (K : PySem.W.Frag) (mg : Str → Option Value) (base : Heap) (T : Tb) (k c : Nat) (f : Addr) (fd : FuncData) (ps : List Str) (F : Fn) : Prop where
 ok : FnOk P w K mg base (L2.CX P w) k f fd ps (spI K T c ps.length F)
 made : Mk K (T.cad c) f
def aG (n m : Nat) (F : Fn) (gD : List D → List D → List D) (ma mk : M (List D)) : M D := ma.bind fun ds => mk.bind fun es fr h => if ds.length = n ∧ es.length = m then bJ fr (F (gD ds es) h) else .err
theorem eU {K : PySem.W.Frag} {T : Tb} {fd : FuncData} {ps : List Str} (h : Binds K fd ps []) : Bn K T fd ps ps.length [] (aD []) :=
 ⟨fun us _ => us, fun vs _ => vs, ⟨fun s us ws X l1 _ => by
  have b := h s us X (by rw [aob]; exact l1)
  rw [aob] at b
  exact b, fun r _ => r⟩, fun w vs zs ds es rs _ hl _ => ⟨by
   show aF K T w vs (ds ++ [])
   rw [aob]
   exact rs, by
   show (ds ++ []).length = _
   rw [aob]
   exact hl⟩⟩
section
variable {X : Cx} {T : Tb} {W : WX} {k kk n : Nat} {f C : Addr} {fd : FuncData} {ps ks : List Str} {F : Fn} {x m : Str} {p pos apos : Pos} {e o : Expr} {es : List Expr} {kws : List Keyword} {mo : M D} {ma mk : M (List D)} {gD : List D → List D → List D}
theorem Ry {pins : List (Addr × Obj)} {σ : L2.St} {H : Hp} {s : Shared} {Q : VK} {us ws : List Value} {vs zs : List V} {g : List Value → List Value → List Value} {gV : List V → List V → List V} {sp : Sp} (F : FnOk X.prog X.w X.K X.mg X.base (L2.CX X.prog X.w) kk f fd ps sp) (hr : Room kk X.A) (hb : KBn X.K fd ps n ks g gV) (tk : Takes X W)
 (I : Inv X pins σ H s) (r : Vals vs us) (rz : Vals zs ws) (l1 : vs.length = n) (l2 : zs.length = ks.length) (h : sp (gV vs zs) H Q (fun c d H' => W c d σ H')) : wpAny (model X.prog X.w) X.A (call (.ref f) us (ks.zip ws)) (EP X pins σ Q) X.xe s := by
 have r2 := hb.rel r rz
 refine wpAny_call (codeAny_mono (F.run X.A X.stack s H ⟨us, ks.zip ws⟩ (g us ws) (gV vs zs) Q _ hr I.env0 (hb.to s us ws I.kIn (r.length.symm.trans l1) (rz.length.symm.trans l2)) r2 h) fun r s' hq => ?_)
 cases r with
 | error e => exact passAt tk σ pins H s e s' I hq
 | ok fl =>
   cases fl with
   | ret u => exact I.after hq
   | next => exact False.elim hq
   | brk => exact False.elim hq
   | cont => exact False.elim hq
theorem run_mk {pins : List (Addr × Obj)} {σ : L2.St} {H : Hp} {s : Shared} {Q : VK} {us ws : List Value} {vs zs : List V} {g : List Value → List Value → List Value} {gV : List V → List V → List V} {sp : Sp} (M : Mk X.K C f) (F : FnOk X.prog X.w X.K X.mg X.base (L2.CX X.prog X.w) kk f fd ps sp) (hr : Room (kk + 1) X.A) (hb : KBn X.K fd ps (n + 1) ks g gV) (tk : Takes X W)
 (I : Inv X pins σ H s) (r : Vals vs us) (rz : Vals zs ws) (l1 : vs.length = n) (l2 : zs.length = ks.length)
 (h : ∀ x dx, H x = none → H dx = none → dx ≠ x → sp (gV (.ref x :: vs) zs) (upd (upd H dx (.own x)) x (.ins C dx [])) (fun v H2 => v = .non ∧ Q (.ref x) H2) (fun c d H' => W c d σ H')) :
 wpAny (model X.prog X.w) X.A (call (.ref C) us (ks.zip ws)) (EP X pins σ Q) X.xe s := by
 have hq := h (s.heap.objs.size + 1) s.heap.objs.size (I.hok.fresh (Nat.le_succ _)) (I.hok.fresh (Nat.le_refl _)) (Nat.ne_of_lt (Nat.lt_succ_self _))
 have I2 := Inv.made (C := C) I
 have r1 : Vals (V.ref (s.heap.objs.size + 1) :: vs) (Value.ref (s.heap.objs.size + 1) :: us) := .cons rfl r
 have r2 := hb.rel r1 rz
 have n1 : (Value.ref (s.heap.objs.size + 1) :: us).length = n + 1 := by
  rw [an4, ← r.length, l1]
 refine wpAny_call (make_map (f := f) I.kIn M.makes M.init (beq_iff_eq.mp M.fn) (codeAny_mono (F.run _ X.stack _ _ ⟨Value.ref (s.heap.objs.size + 1) :: us, ks.zip ws⟩ (g (Value.ref (s.heap.objs.size + 1) :: us) ws) _ _ _ (hr.make C us (ks.zip ws))
  (I2.env0.make C us (ks.zip ws)) (hb.to _ (Value.ref (s.heap.objs.size + 1) :: us) ws I2.kIn n1 (rz.length.symm.trans l2)) r2 hq) fun r s' hq' => ?_))
 cases r with
 | error e => exact passAt tk σ pins _ _ e s' I2 hq'
 | ok fl =>
   cases fl with
   | ret u =>
     obtain ⟨v, H', I3, rv, ev, q3⟩ := I2.after hq'
     subst ev
     exact ⟨rv, ⟨V.ref (s.heap.objs.size + 1), H', I3, rfl, q3⟩⟩
   | next => exact False.elim hq'
   | brk => exact False.elim hq'
   | cont => exact False.elim hq'
theorem Hj {B : Bs} {w : Wd} {σ : L2.St} {H : Hp} {fr : Fr} {h : Hh} {m : Nat} {vs zs : List V} {ds es : List D} {Q : VK} {gV : List V → List V → List V} (hg : ∀ (w : Wd) (vs zs : List V) (ds es : List D), aF X.K T w vs ds → aF X.K T w zs es → ds.length = n → es.length = m → aF X.K T w (gV vs zs) (gD ds es) ∧ (gD ds es).length = ps.length)
 (R : Rel X.K T B w σ H fr h) (rs : aF X.K T w vs ds) (rz : aF X.K T w zs es) (p : aO X.K T B W (vE X.K T B σ) w σ (if ds.length = n ∧ es.length = m then bJ fr (F (gD ds es) h) else .err) Q) :
 vs.length = n ∧ zs.length = m ∧ spF X.K T ps.length F (gV vs zs) H Q (fun c d H' => W c d σ H') := by
 by_cases hl : ds.length = n ∧ es.length = m
 · rw [if_pos hl] at p
   obtain ⟨r2, l2⟩ := hg w vs zs ds es rs rz hl.1 hl.2
   exact ⟨rs.length.trans hl.1, rz.length.trans hl.2, ab2 R r2 l2 p⟩
 · rw [if_neg hl] at p
   exact p.elim
theorem bL (C : Cq X T W k) (F0 : iw X.prog X.w X.K X.mg X.base T kk f fd ps F) (hk : kk ≤ k) (bn : Bn X.K T fd ps n [] gD) (hm : X.mg x = some (.ref f)) (sa : Mi X T W (e :: es) ma) (hg : Gl X x := by rfl) (hdb : (x == ("__debug__" : Str)) = false := by decide)
 (he : starEach (e :: es) X.env = (false, eval e X.env) :: starEach es X.env := by exact eY rfl) (hpl : (backTo pos (starEach es X.env)).any (·.1) = false := by rfl) : ph X T W (.Call (.Name x p) (e :: es) [] pos) (aG n 0 F gD ma (ak [])) := fun B w σ H fr h Q R pp => WE.mk <| fun pins s I => by
 obtain ⟨g, gV, hb, hgD⟩ := bn.ex
 refine wpAny_Call_Name_kw (ld_glob I hg hm ?_ hdb)
 refine PySem.W.callWith_K (h₀ := X.base) I.ok.mod.kin F0.kp (thn ((sa B w σ H fr h _ R (aO.bind (VR := vA X.K T B σ) pp fun ds fr1 h1 w1 H1 vs e1 l1 r1 rs p1 => Hj hgD r1 rs .nil p1)).go pos pins s I) fun us s1 ⟨vs, H1, I1, r, q⟩ => ⟨I1.kIn, ?_⟩) he hpl
 exact Ry (ws := []) F0.ok (C.room.mono hk) hb C.takes I1 r .nil q.1 rfl q.2.2
end
end Pk
namespace Pk
open PySem PySem.Spec L2
structure BnI (K : PySem.W.Frag) (T : Tb) (fd : FuncData) (ps : List Str) (n : Nat) (ks : List Str) (gD : List D → List D → List D) : Prop where
 ex : ∃ (g : List Value → List Value → List Value) (gV gW : List V → List V → List V), KBn K fd ps (n + 1) ks g gV ∧ (∀ x vs zs, vs.length = n → zs.length = ks.length → gV (x :: vs) zs = x :: gW vs zs) ∧
  ∀ (w : Wd) (vs zs : List V) (ds es : List D), aF K T w vs ds → aF K T w zs es → ds.length = n → es.length = ks.length → aF K T w (gW vs zs) (gD ds es) ∧ (gD ds es).length + 1 = ps.length
section
variable {X : Cx} {T : Tb} {W : WX} {k kk n c : Nat} {f : Addr} {fd : FuncData} {ps ks : List Str} {F : Fn} {x m : Str} {p pos apos : Pos} {e o : Expr} {es : List Expr} {kws : List Keyword} {mo : M D} {ma mk : M (List D)} {gD : List D → List D → List D}
theorem ae8 {B : Bs} {w : Wd} {σ : L2.St} {H : Hp} {fr : Fr} {h : Hh} {m : Nat} {vs zs : List V} {ds es : List D} {Q : VK} {gV gW : List V → List V → List V} (hv : ∀ x vs zs, vs.length = n → zs.length = m → gV (x :: vs) zs = x :: gW vs zs)
 (hg : ∀ (w : Wd) (vs zs : List V) (ds es : List D), aF X.K T w vs ds → aF X.K T w zs es → ds.length = n → es.length = m → aF X.K T w (gW vs zs) (gD ds es) ∧ (gD ds es).length + 1 = ps.length)
 (R : Rel X.K T B w σ H fr h) (rs : aF X.K T w vs ds) (rz : aF X.K T w zs es) (p : aO X.K T B W (vE X.K T B σ) w σ (if ds.length = n ∧ es.length = m then bJ fr (F (gD ds es) h) else .err) Q) :
 vs.length = n ∧ zs.length = m ∧ ∀ x dx, H x = none → H dx = none → dx ≠ x → spI X.K T c ps.length F (gV (.ref x :: vs) zs) (upd (upd H dx (.own x)) x (.ins (T.cad c) dx [])) (fun v H2 => v = .non ∧ Q (.ref x) H2) (fun c d H' => W c d σ H') := by
 by_cases hl : ds.length = n ∧ es.length = m
 · rw [if_pos hl] at p
   obtain ⟨r2, l2⟩ := hg w vs zs ds es rs rz hl.1 hl.2
   refine ⟨rs.length.trans hl.1, rz.length.trans hl.2, fun x dx nx nd ne => ?_⟩
   rw [hv _ _ _ (rs.length.trans hl.1) (rz.length.trans hl.2)]
   exact ZW R r2 l2 nx nd ne p
 · rw [if_neg hl] at p
   exact p.elim
theorem ZX (C : Cq X T W k) (F0 : FnI X.prog X.w X.K X.mg X.base T kk c f fd ps F) (hk : kk + 1 ≤ k) (bn : BnI X.K T fd ps n ks gD) (hm : X.mg x = some (.ref (T.cad c))) (sa : Mi X T W (e :: es) ma) (sk : T5 X T W kws mk) (hg : Gl X x := by rfl) (hdb : (x == ("__debug__" : Str)) = false := by decide)
 (hall : (backToKw pos (keywordEach kws X.env)).all (·.1.isSome) = true := by rfl) (hks : (backToKw pos (keywordEach kws X.env)).filterMap (·.1) = ks := by rfl)
 (he : starEach (e :: es) X.env = (false, eval e X.env) :: starEach es X.env := by exact eY rfl) (hpl : ((backTo pos (starEach (e :: es) X.env)).any (·.1) || (backToKw pos (keywordEach kws X.env)).any (·.1.isNone)) = false := by rfl) :
 ph X T W (.Call (.Name x p) (e :: es) kws pos) (aG n ks.length F gD ma mk) := fun B w σ H fr h Q R pp => WE.mk <| fun pins s I => by
 obtain ⟨g, gV, gW, hb, hv, hgD⟩ := bn.ex
 refine wpAny_Call_Name_kw (ld_glob I hg hm ?_ hdb)
 refine PySem.W.callWith_KW (h₀ := X.base) I.ok.mod.kin F0.made.kp hall (thn ((sa B w σ H fr h _ R (aO.bind (VR := vA X.K T B σ) pp fun ds fr1 h1 w1 H1 vs e1 l1 r1 rs p1 =>
  sk B w1 σ H1 fr1 h1 _ r1 (aO.bind (VR := vA X.K T B σ) p1 fun es fr2 h2 w2 H2 zs e2 l2 r2 rz p2 => ae8 (c := c) hv hgD r2 (rs.mono l2) rz p2))).go pos pins s I) fun us s1 ⟨vs, H1, I1, r, q⟩ => ?_) hpl he
 refine thn (q.go pos pins s1 I1) fun ws s2 ⟨zs, H2, I2, rz, q2⟩ => ⟨I2.kIn, ?_⟩
 rw [hks]
 exact run_mk F0.made F0.ok (C.room.mono hk) hb C.takes I2 r rz q2.1 q2.2.1 q2.2.2
theorem Jm {α : Type} {f : Str} : ∀ {fs : List Str} {vs : List α}, f ∉ fs → (fs.zip vs).lookup f = none
 | [], _, _ => rfl
 | g :: fs, [], _ => by simp
 | g :: fs, v :: vs, h => by
   rw [List.mem_cons, not_or] at h
   show aoi f ((g, v) :: fs.zip vs) = none
   rw [List.lookup_cons, beq_eq_false_iff_ne.mpr h.1]
   exact Jm h.2
structure tU (X : Cx) (T : Tb) (k : Nat) (m : Str) (mt : Nat → Option Fn) (n : Nat) (ks : List Str) (gD : List D → List D → List D) : Prop where
 ex : ∀ c F, mt c = some F → ∃ (kk : Nat) (f : Addr) (fd : FuncData) (ps : List Str), Cls X.K (T.cad c) ∧ Meth X.K (T.cad c) m f ∧ iw X.prog X.w X.K X.mg X.base T kk f fd ps F ∧ Bn X.K T fd ps (n + 1) ks gD ∧ m ∉ T.fld c ∧ kk ≤ k
def fnOf (mt : Nat → Option Fn) (h : Hh) (o : D) : Option Fn := match o.ins h with
 | some (c, _) => mt c
 | none => none
def yt (n m : Nat) (mt : Nat → Option Fn) (gD : List D → List D → List D) (mo : M D) (ma mk : M (List D)) : M D := mo.bind fun o fr h => match fnOf mt h o with
 | some F => (aG (n + 1) m F gD (ma.bind fun ds => M.ret (o :: ds)) mk) fr h
 | none => .err
theorem PN {B : Bs} {w : Wd} {σ : L2.St} {H : Hp} {fr : Fr} {h : Hh} {mt : Nat → Option Fn} {v : V} {d : D} {G : Fn} (M : tU X T k m mt n ks gD) (R : Rel X.K T B w σ H fr h) (rv : bQ X.K T w v d) (e : fnOf mt h d = some G) :
 ∃ (kk : Nat) (f : Addr) (fd : FuncData) (ps : List Str) (a C dx : Addr) (fs : List (Str × V)), v = .ref a ∧ H a = some (.ins C dx fs) ∧ fs.lookup m = none ∧ Cls X.K C ∧ Meth X.K C m f ∧ iw X.prog X.w X.K X.mg X.base T kk f fd ps G ∧ Bn X.K T fd ps (n + 1) ks gD ∧ kk ≤ k := by
 unfold fnOf at e
 split at e
 · rename_i c fs ei
   obtain ⟨kk, f, fd, ps, c1, c2, c3, c4, c5, c6⟩ := M.ex c G e
   obtain ⟨a, dx, vs, rfl, eH, rs⟩ := CG R (.inl rv) ei
   exact ⟨kk, f, fd, ps, a, T.cad c, dx, _, rfl, eH, Jm c5, c1, c2, c3, c4, c6⟩
 · cases e
theorem ab3 {pl : Sem Bool} {mt : Nat → Option Fn} (C : Cq X T W k) (Mf : tU X T k m mt n [] gD) (so : aY X T W o mo) (sa : Mi X T W (e :: es) ma)
 (hst : starEach (e :: es) X.env = (false, eval e X.env) :: starEach es X.env := by exact eY rfl) (hpl : (backTo pos (starEach es X.env)).any (·.1) = false := by rfl)
 (ht : eval (.Call (.Attribute o m apos) (e :: es) [] pos) X.env = (do
  let ov ← eval o X.env
  standAt apos.atName
  let (f, first) ← holding [ov] (getMethod ov m pl)
  callWith pos f first (backTo pos (starEach (e :: es) X.env)) (backToKw pos (keywordEach [] X.env))) := by rfl) :
 ph X T W (.Call (.Attribute o m apos) (e :: es) [] pos) (yt n 0 mt gD mo ma (ak [])) := fun B w σ H fr h Q R pp => WE.mk <| fun pins s I => by
 refine PySem.W.methodCall_KW (pl := pl) (thn ((so B w σ H fr h (fun v H1 => ∃ (kk : Nat) (f : Addr) (fd : FuncData) (ps : List Str) (a C dx : Addr) (fs : List (Str × V)) (G : Fn), v = .ref a ∧ H1 a = some (.ins C dx fs) ∧ fs.lookup m = none ∧ Cls X.K C ∧ Meth X.K C m f ∧ iw X.prog X.w X.K X.mg X.base T kk f fd ps G ∧ Bn X.K T fd ps (n + 1) [] gD ∧ kk ≤ k ∧
  ∀ g gV, KBn X.K fd ps (n + 1) [] g gV → (∀ (w : Wd) (vs zs : List V) (ds es : List D), aF X.K T w vs ds → aF X.K T w zs es → ds.length = n + 1 → es.length = ([] : List Str).length → aF X.K T w (gV vs zs) (gD ds es) ∧ (gD ds es).length = ps.length) →
    WA X (e :: es) σ H1 fun vs H2 => (.ref a :: vs).length = n + 1 ∧ spF X.K T ps.length G (gV (.ref a :: vs) []) H2 Q (fun c d H' => W c d σ H')) R (aO.bind (VR := vV X.K T B σ) pp fun d fr1 h1 w1 H1 v e1 l1 r1 rv p1 => ?_)).go pins s I) fun u s1 ⟨x, H1, I1, rx, kk, f, fd, ps, a, Cl, dx, fs, G, ex, ea, l, c1, c2, c3, c4, c5, q⟩ => ?_) ht
 · have p1' : aO X.K T B W (vE X.K T B σ) w1 σ (match fnOf mt h1 d with | some F => (aG (n + 1) 0 F gD (ma.bind fun ds => M.ret (d :: ds)) (ak [])) fr1 h1 | none => .err) Q := p1
   cases ef : fnOf mt h1 d with
   | none => rw [ef] at p1'; exact p1'.elim
   | some G =>
     rw [ef] at p1'
     obtain ⟨kk, f, fd, ps, a, Cl, dx, fs, rfl, eH, l, c1, c2, c3, c4, c5⟩ := PN Mf r1 rv ef
     refine ⟨kk, f, fd, ps, a, Cl, dx, fs, G, rfl, eH, l, c1, c2, c3, c4, c5, fun g gV hb hgD => ?_⟩
     have p2 : aO X.K T B W (vE X.K T B σ) w1 σ ((ma.bind fun ds fr h => if (d :: ds).length = n + 1 ∧ ([] : List D).length = 0 then bJ fr (G (gD (d :: ds) []) h) else .err) fr1 h1) Q := by
      have ee : (aG (n + 1) 0 G gD (ma.bind fun ds => M.ret (d :: ds)) (ak [])) fr1 h1 = (ma.bind fun ds fr h => if (d :: ds).length = n + 1 ∧ ([] : List D).length = 0 then bJ fr (G (gD (d :: ds) []) h) else .err) fr1 h1 := by
       unfold aG M.bind
       cases ma fr1 h1 <;> rfl
      rw [← ee]
      exact p1'
     refine sa B w1 σ H1 fr1 h1 _ r1 (aO.bind (VR := vA X.K T B σ) p2 fun ds fr2 h2 w2 H2 vs e2 l2 r2 rs p3 => ?_)
     have q := Hj (n := n + 1) (m := 0) (zs := []) (es := []) hgD r2 (.cons (rv.mono l2) rs) .nil p3
     exact ⟨q.1, q.2.2⟩
 · subst ex
   obtain rfl : u = Value.ref a := rx
   obtain ⟨g, gV, hb, hgD⟩ := c4.ex
   refine getmeth_ok I1 ea c1 c2 l ?_
   refine PySem.W.callWith_K (first := [.ref a]) (h₀ := X.base) I.ok.mod.kin c2.kp (thn ((q g gV hb hgD).go pos pins s1 I1) fun us s2 ⟨vs, H2, I2, r, q2⟩ => ⟨I2.kIn, ?_⟩) hst hpl
   exact Ry (us := .ref a :: us) (ws := []) (vs := .ref a :: vs) c3.ok (C.room.mono c5) hb C.takes I2 (.cons rfl r) .nil q2.1 rfl q2.2
theorem ZZ {pl : Sem Bool} {mt : Nat → Option Fn} (C : Cq X T W k) (Mf : tU X T k m mt 0 [] gD) (so : aY X T W o mo)
 (ht : eval (.Call (.Attribute o m apos) [] [] pos) X.env = (do
  let ov ← eval o X.env
  standAt apos.atName
  let (f, first) ← holding [ov] (getMethod ov m pl)
  callWith pos f first (backTo pos (starEach [] X.env)) (backToKw pos (keywordEach [] X.env))) := by rfl) :
 ph X T W (.Call (.Attribute o m apos) [] [] pos) (yt 0 0 mt gD mo (ak []) (ak [])) := fun B w σ H fr h Q R pp => WE.mk <| fun pins s I => by
 refine PySem.W.methodCall_KW (pl := pl) (thn ((so B w σ H fr h (fun v H1 => ∃ (kk : Nat) (f : Addr) (fd : FuncData) (ps : List Str) (a C dx : Addr) (fs : List (Str × V)) (G : Fn), v = .ref a ∧ H1 a = some (.ins C dx fs) ∧ fs.lookup m = none ∧ Cls X.K C ∧ Meth X.K C m f ∧ iw X.prog X.w X.K X.mg X.base T kk f fd ps G ∧ Bn X.K T fd ps (0 + 1) [] gD ∧ kk ≤ k ∧
  ∀ g gV, KBn X.K fd ps (0 + 1) [] g gV → (∀ (w : Wd) (vs zs : List V) (ds es : List D), aF X.K T w vs ds → aF X.K T w zs es → ds.length = 0 + 1 → es.length = ([] : List Str).length → aF X.K T w (gV vs zs) (gD ds es) ∧ (gD ds es).length = ps.length) →
    spF X.K T ps.length G (gV [.ref a] []) H1 Q (fun c d H' => W c d σ H')) R (aO.bind (VR := vV X.K T B σ) pp fun d fr1 h1 w1 H1 v e1 l1 r1 rv p1 => ?_)).go pins s I) fun u s1 ⟨x, H1, I1, rx, kk, f, fd, ps, a, Cl, dx, fs, G, ex, ea, l, c1, c2, c3, c4, c5, q⟩ => ?_) ht
 · have p1' : aO X.K T B W (vE X.K T B σ) w1 σ (match fnOf mt h1 d with | some F => (aG (0 + 1) 0 F gD ((ak []).bind fun ds => M.ret (d :: ds)) (ak [])) fr1 h1 | none => .err) Q := p1
   cases ef : fnOf mt h1 d with
   | none => rw [ef] at p1'; exact p1'.elim
   | some G =>
     rw [ef] at p1'
     obtain ⟨kk, f, fd, ps, a, Cl, dx, fs, rfl, eH, l, c1, c2, c3, c4, c5⟩ := PN Mf r1 rv ef
     refine ⟨kk, f, fd, ps, a, Cl, dx, fs, G, rfl, eH, l, c1, c2, c3, c4, c5, fun g gV hb hgD => ?_⟩
     exact (Hj (n := 0 + 1) (m := 0) (zs := []) (es := []) (ds := [d]) hgD r1 (.cons rv .nil) .nil p1').2.2
 · subst ex
   obtain rfl : u = Value.ref a := rx
   obtain ⟨g, gV, hb, hgD⟩ := c4.ex
   refine getmeth_ok I1 ea c1 c2 l ?_
   exact PySem.W.callWith_K0 (first := [.ref a]) I1.kIn c2.kp (Ry (us := [.ref a]) (ws := []) (vs := [.ref a]) c3.ok (C.room.mono c5) hb C.takes I1 (.cons rfl .nil) .nil rfl rfl (q g gV hb hgD))
structure Zm (X : Cx) (T : Tb) (k : Nat) (m : Str) (mt : Nat → Option Fn) : Prop where
 ex : ∀ c F, mt c = some F → ∃ (kk : Nat) (pa f : Addr) (fd : FuncData) (ps : List Str), Cls X.K (T.cad c) ∧ PropOf X.K (T.cad c) m pa f ∧ iw X.prog X.w X.K X.mg X.base T kk f fd ps F ∧ Binds X.K fd ps [] ∧ ps.length = 1 ∧ kk + 1 ≤ k
def xf (mt : Nat → Option Fn) (mo : M D) : M D := mo.bind fun o fr h => match fnOf mt h o with
 | some F => match F [o] h with
   | .ok d _ h => .ok d fr h
   | _ => .err
 | none => .err
theorem abi {X : Cx} : Passes (L2.CX X.prog X.w) X.nox (fun _ _ _ => False) := fun pins σ H s e s' I c => by
 obtain ⟨a, B, H', cls, d, rfl, fl, hok, ub, na, os, ag, hE⟩ := c
 exact hE.elim
theorem KQ {mt : Nat → Option Fn} (C : Cq X T W k) (M : Zm X T k m mt) (so : aY X T W o mo) (hab : attributeBase o m X.env (eval o X.env) = eval o X.env := by rfl) : ph X T W (.Attribute o m pos) (xf mt mo) := fun B w σ H fr h Q R pp => WE.mk <| fun pins s I => by
 refine attr_of hab (thn ((so B w σ H fr h (fun v H1 => ∃ (kk : Nat) (pa f : Addr) (fd : FuncData) (ps : List Str) (a C dx : Addr) (fs : List (Str × V)) (G : Fn), v = .ref a ∧ H1 a = some (.ins C dx fs) ∧ Cls X.K C ∧ PropOf X.K C m pa f ∧ iw X.prog X.w X.K X.mg X.base T kk f fd ps G ∧ Binds X.K fd ps [] ∧ kk + 1 ≤ k ∧ spF X.K T ps.length G [.ref a] H1 Q (fun _ _ _ => False))
  R (aO.bind (VR := vV X.K T B σ) pp fun d fr1 h1 w1 H1 v e1 l1 r1 rv p1 => ?_)).go pins s I) fun u s1 ⟨x, H1, I1, rx, kk, pa, f, fd, ps, a, Cl, dx, fs, G, ex, ea, c1, c2, c3, c4, c5, q⟩ => ?_)
 · have p1' : aO X.K T B W (vE X.K T B σ) w1 σ (match fnOf mt h1 d with | some F => (match F [d] h1 with | .ok d _ h => .ok d fr1 h | _ => .err) | none => .err) Q := p1
   cases ef : fnOf mt h1 d with
   | none => rw [ef] at p1'; exact p1'.elim
   | some G =>
     rw [ef] at p1'
     have ei : ∃ c fs, d.ins h1 = some (c, fs) ∧ mt c = some G := by
      unfold fnOf at ef
      split at ef
      · rename_i c fs ei
        exact ⟨c, fs, ei, ef⟩
      · cases ef
     obtain ⟨c, fs, ei, em⟩ := ei
     obtain ⟨kk, pa, f, fd, ps, c1, c2, c3, c4, c5, c6⟩ := M.ex c G em
     obtain ⟨a, dx, vs, rfl, eH, rs⟩ := CG r1 (.inl rv) ei
     refine ⟨kk, pa, f, fd, ps, a, T.cad c, dx, _, G, rfl, eH, c1, c2, c3, c4, c6, ?_⟩
     have z := ab2 (W := WF) (n := ps.length) (F := G) (Q := Q) r1 (.cons rv .nil) (show [d].length = ps.length from c5.symm) (by
      dsimp only at p1'
      cases e : G [d] h1 with
      | ok d' fr' h' => rw [e] at p1'; exact p1'
      | exc _ _ _ => rw [e] at p1'; exact p1'.elim
      | err => rw [e] at p1'; exact p1'.elim)
     exact z
 · subst ex
   obtain rfl : u = Value.ref a := rx
   exact getprop_ok (dvs := []) I1 ea c1 c2 c3.ok (C.room.mono c5) c4 .nil abi q
end
end Pk
namespace Pk
open PySem PySem.Spec L2
section
variable {X : Cx} {T : Tb} {W : WX} {k c : Nat} {x : Str} {pos : Pos}
theorem Z0 (hm : X.mg x = some (.ref (T.cad c))) (hg : Gl X x := by rfl) (hd : (x == ("__debug__" : Str)) = false := by decide) : aY X T W (.Name x pos) (mC (.cls c)) := fun B w σ H fr h Q r p =>
 eG (pe_glob (v := .ref (T.cad c)) hg hm rfl hd) (p w H _ (Wd.le_refl _) r (.cls c))
theorem DQ {t : String} (hm : X.mg x = none) (hg : Gl X x := by rfl) (hv : bootBuiltins x = some (.type t) := by decide +kernel) (hn : x ≠ "__name__" := by decide) (hd : (x == ("__debug__" : Str)) = false := by decide) : aY X T W (.Name x pos) (mC (.ty t)) := fun B w σ H fr h Q r p =>
 eG (pe_bltn (v := .ty t) hg hm hv rfl hn hd) (p w H _ (Wd.le_refl _) r (.ty t))
structure amQ (X : Cx) (T : Tb) (x : Str) (d : D) : Prop where
 ex : ∃ (u : Value) (v : V), X.mg x = some u ∧ RelV v u ∧ bQ X.K T ⟨fun _ => none, []⟩ v d
end
inductive Tg where
 | b (t : String) | o (c : Nat)
 deriving DecidableEq
def Tg.v (T : Tb) : Tg → Value
 | .b t => .type t
 | .o c => .ref (T.cad c)
def D.tag (h : Hh) (d : D) : Option Tg := match d.der h with
 | .non => some (.b "NoneType")
 | .bl _ => some (.b "bool")
 | .int _ => some (.b "int")
 | .str _ => some (.b "str")
 | .tup _ => some (.b "tuple")
 | .fl _ => some (.b "list")
 | .nl _ => some (.b "list")
 | .kl _ => some (.b "list")
 | .obj c _ => some (.o c)
 | .no c _ => some (.o c)
 | _ => none
def D.ctag : D → Option Tg
 | .ty t => some (.b t)
 | .cls c => some (.o c)
 | _ => none
structure acN (K : PySem.W.Frag) (C : Addr) : Prop where
 cls : Cls K C
 ha : PySem.W.findIn K (.ref C) "__class__" = some (some (.builtin "object.__class__"))
 hn : PySem.W.specialIn K (.builtin "object.__class__") "__get__" = some (some (.builtin "getset_descriptor.__get__"))
 htk : PySem.W.takesIn K (.builtin "object.__class__") = some true
 hm : PySem.W.mroIn K C (.type "object") = some true
structure Xe (K : PySem.W.Frag) (T : Tb) (tab : Tg → Tg → Option Bool) : Prop where
 kit : ∀ t u b, tab t u = some b → PySem.W.kitOne K (t.v T) (u.v T) = some b
 ins : ∀ c u b, tab (.o c) u = some b → acN K (T.cad c)
def Fy : List String := ["NoneType", "bool", "int", "str", "tuple", "list"]
def Z3 (a b : String) : Option Bool := if Fy.contains a && Fy.contains b then some (a == b || (a == "bool" && b == "int")) else none
theorem ag3 : ∀ a b r, Z3 a b = some r → kitB a b = some r := by
 have key : ∀ a ∈ Fy, ∀ b ∈ Fy, kitB a b = Z3 a b := by decide +kernel
 intro a b r h
 unfold Z3 at h
 split at h
 · rename_i hh
   obtain ⟨h1, h2⟩ := Bool.and_eq_true_iff.mp hh
   rw [key a (List.contains_iff_mem.mp h1) b (List.contains_iff_mem.mp h2)]
   unfold Z3
   rw [if_pos hh]
   exact h
 · cases h
def Jo : List D → Option (List Tg)
 | [] => some []
 | d :: ds => match d.ctag, Jo ds with
   | some u, some us => some (u :: us)
   | _, _ => none
def Hk (tab : Tg → Tg → Option Bool) (t : Tg) : List Tg → Option Bool
 | [] => some false
 | u :: us => match tab t u with
   | some true => some true
   | some false => Hk tab t us
   | none => none
def rG (tab : Tg → Tg → Option Bool) (h : Hh) (d c : D) : Option D := match d.tag h with
 | some t => match c with
   | .tup l => match Jo l with
     | some (u :: us) => (Hk tab t (u :: us)).map .bl
     | _ => none
   | c => match c.ctag with
     | some u => (tab t u).map .bl
     | none => none
 | none => none
section
variable {X : Cx} {T : Tb} {W : WX} {k : Nat} {pos pf : Pos} {a b : Expr} {ma mb : M D} {tab : Tg → Tg → Option Bool}
theorem T6 {K : PySem.W.Frag} {w : Wd} {v : V} {d : D} {u : Tg} (r : bQ K T w v d) (e : d.ctag = some u) : ClsV v (u.v T) := by
 cases r <;> cases e
 · exact .own _
 · exact .ty _
theorem KR {K : PySem.W.Frag} {B : Bs} {w : Wd} {σ : L2.St} {H : Hp} {fr : Fr} {h : Hh} {v : V} {d : D} {t u : Tg} {bb : Bool} (F : Xe K T tab) (R : Rel K T B w σ H fr h) (rv : vO K T B σ w H fr v d) (e : d.tag h = some t) (e2 : tab t u = some bb) : TyX K H v (t.v T) := by
 have sqT : ∀ {a : Addr} {vs : List V}, SqT K H a vs → TyX K H (.ref a) (.type "tuple") := fun {a vs} q => by
  rcases q with (q | ⟨o, q⟩) | ⟨o, its, n, q1, q2, _⟩
  · exact .base (.tup q)
  · exact .fTuple q
  · exact .kTuple q1 q2
 have sqL : ∀ {a : Addr} {vs : List V}, SqL K H a vs → TyX K H (.ref a) (.type "list") := fun {a vs} q => by
  rcases q with (q | ⟨o, q⟩) | ⟨o, its, n, q1, q2, _⟩
  · exact .base (.lst q)
  · exact .base (.frz q)
  · exact .kList q1 q2
 have ins : ∀ {c : Nat} {a dx : Addr} {fs : List (Str × V)}, tab (.o c) u = some bb → H a = some (.ins (T.cad c) dx fs) → TyX K H (.ref a) (.ref (T.cad c)) := fun {c a dx fs} q eH => by
  have i := F.ins c u bb q
  exact .base (.ins eH i.cls i.ha i.hn i.htk i.hm)
 rcases rv with rv | ⟨p, o, rfl, eH, rv⟩
 · cases rv with
   | non => cases e; exact .base .non
   | bl b => cases e; exact .base (.bl b)
   | int i => cases e; exact .base (.int i)
   | str s => cases e; exact .base (.str s)
   | tup s r => cases e; exact sqT (fX R.sub s)
   | fl s r => cases e; exact .base (.lst (R.sub _ _ s))
   | kl s r => cases e; exact sqL (nU R.sub s)
   | obj s r => cases e; exact ins e2 (R.sub _ _ s)
   | @ref a n s =>
     have ln : n < h.length := by
      rw [← R.len]
      exact (List.getElem?_eq_some_iff.mp s).1
     obtain ⟨o, q, rr⟩ := R.cel n a h[n] s (aoc ln)
     have e0 : D.der h (.ref n) = h[n] := by
      unfold D.der
      dsimp only
      rw [aoc ln]
      rfl
     unfold D.tag at e
     rw [e0] at e
     generalize h[n] = cc at rr e
     cases rr with
     | lst r => cases e; exact .base (.lst q)
     | obj r => cases e; exact ins e2 q
     | dct _ r => cases e
     | dkt _ r => cases e
   | cls _ => cases e
   | ty _ => cases e
   | sl _ => cases e
 · cases rv with
   | lst r => cases e; exact .base (.lst eH)
   | obj r => cases e; exact ins e2 eH
theorem PP {K : PySem.W.Frag} {w : Wd} : ∀ {vs : List V} {ds : List D} {us : List Tg}, aF K T w vs ds → Jo ds = some us → Paired ClsV vs (us.map (Tg.v T))
 | _, _, _, .nil, e => by cases e; exact .nil
 | _, _, _, @aF.cons _ _ _ v d vs ds r rr, e => by
   unfold Jo at e
   cases e1 : d.ctag with
   | none => rw [e1] at e; cases e
   | some u =>
     cases e2 : Jo ds with
     | none => rw [e1, e2] at e; cases e
     | some us =>
       rw [e1, e2] at e
       cases e
       exact .cons (T6 r e1) (PP rr e2)
theorem Mq {K : PySem.W.Frag} {t : Tg} {bb : Bool} (F : Xe K T tab) : ∀ {us : List Tg}, Hk tab t us = some bb → PySem.W.kitAny K (t.v T) (us.map (Tg.v T)) = some bb
 | [], e => by cases e; exact kitAny_nil
 | u :: us, e => by
   unfold Hk at e
   cases et : tab t u with
   | none => rw [et] at e; cases e
   | some b1 =>
     rw [et] at e
     cases b1 with
     | false => exact kitAny_cons (F.kit t u false et) (fun _ => Mq F e) (fun z => by cases z)
     | true =>
       cases e
       exact kitAny_cons (F.kit t u true et) (fun z => by cases z) (fun _ => rfl)
theorem S8 {t : Tg} {bb : Bool} {us : List Tg} (e : Hk tab t us = some bb) : us = [] ∨ ∃ u b, tab t u = some b := by
 cases us with
 | nil => exact .inl rfl
 | cons u us =>
   right
   unfold Hk at e
   cases et : tab t u with
   | none => rw [et] at e; cases e
   | some b => exact ⟨u, b, et⟩
theorem Ye : CallR X (.builtin "isinstance") (fun xs H Q => ∃ (x : V) (tp : Addr) (cs : List V) (t : Value) (us : List Value) (b : Bool), xs = [x, .ref tp] ∧ SqT X.K H tp cs ∧ Paired ClsV cs us ∧ TyX X.K H x t ∧ PySem.W.kitAny X.K t us = some b ∧ Q (.bl b) H) := by
 intro pins s σ H xs us Q I r h
 obtain ⟨x, tp, cs, t, ws, b, rfl, hT, k, ty, e, q⟩ := h
 obtain ⟨u1, u2, rfl, r1, r2⟩ := vals2 r
 cases (show u2 = Value.ref tp from r2)
 obtain ⟨P, Z, p, hx⟩ := kit_of I r1 ty
 obtain ⟨its, rv, pl, _⟩ := I.tuple hT
 obtain ⟨o, h1, h2, n, h3⟩ := pl
 have e3 := ClsV.all k rv
 subst e3
 obtain ⟨oc, od, dt, sl⟩ := o
 simp only at h2 h3
 subst h2 h3
 exact PySem.W.kia_tup Z I.kIn p h1 e hx fun tk => ⟨.bl b, H, I.tok tk, rfl, q⟩
theorem Ay (F : Xe X.K T tab) (sa : aY X T W a ma) (sb : aY X T W b mb) (hm : X.mg "isinstance" = none) (hg : Gl X "isinstance" := by rfl) (he : starEach (a :: b :: []) X.env = (false, eval a X.env) :: starEach (b :: []) X.env := by exact eY rfl) (he2 : starEach (b :: []) X.env = (false, eval b X.env) :: starEach [] X.env := by exact eY rfl)
 (hpl : (backTo pos (starEach (b :: []) X.env)).any (·.1) = false := by rfl) : aY X T W (.Call (.Name "isinstance" pf) [a, b] [] pos) (aC (rG tab) ma mb) :=
 ae7 (id := "isinstance") sa sb (fun B w σ H fr h x y d e z Q R rx ry q kk => by
  have ry : bQ X.K T w y e := ry
  unfold rG at q
  cases et : d.tag h with
  | none => rw [et] at q; cases q
  | some t =>
    rw [et] at q
    have one : ∀ u, e.ctag = some u → (tab t u).map D.bl = some z → cM X (.builtin "isinstance") [x, y] H Q := fun u ec eq => by
     obtain ⟨bb, eb, rfl⟩ := Option.map_eq_some_iff.mp eq
     exact jQ call_isi ⟨x, y, t.v T, u.v T, bb, rfl, T6 ry ec, KR F R (.inl rx) et eb, F.kit t u bb eb, kk w H _ (Wd.le_refl _) R (.bl bb)⟩
    cases e with
    | tup l =>
      dsimp only at q
      cases ec : Jo l with
      | none => rw [ec] at q; cases q
      | some us =>
        rw [ec] at q
        cases us with
        | nil => cases q
        | cons u us =>
          obtain ⟨bb, eb, rfl⟩ := Option.map_eq_some_iff.mp q
          obtain ⟨p, vs, rfl, sq, rs⟩ := wA ry
          have ty : TyX X.K H x (t.v T) := by
           rcases S8 eb with z | ⟨u', b', z⟩
           · cases z
           · exact KR F R (.inl rx) et z
          exact jQ Ye ⟨x, p, vs, t.v T, (u :: us).map (Tg.v T), bb, rfl, fX R.sub sq, PP rs ec, ty, Mq F eb, kk w H _ (Wd.le_refl _) R (.bl bb)⟩
    | cls c => exact one _ rfl q
    | ty t => exact one _ rfl q
    | _ => cases q) hm hg (by decide +kernel) (by decide) (by decide) he he2 hpl
end
end Pk
namespace Pk
open PySem PySem.Spec L2
structure PD where
 adr : PySem.W.Frag → Addr
 name : Str
 qual : Str
 params : Arguments
 body : List Stmt
 scope : Scope
 dfl : List He.Dv
 kwd : List (Str × He.Dv)
 /-- an __init__ that says super() -/
 clo : Bool
def fnWa (K : PySem.W.Frag) (a : Addr) : He.FnW := match K.lookup a with
 | some ⟨_, _, .func fd, _⟩ => some (fd.name, fd.qualname, fd.params, fd.body, fd.scope, fd.globals, fd.closure.map (fun q => (q.1, 0)), fd.builtins)
 | _ => none
def PD.val (d : PD) : He.FnW := some (d.name, d.qual, d.params, .stmts d.body, d.scope, mainGlobals, if d.clo then [("__class__", 0)] else [], builtinsNs)
def PD.dvs (K : PySem.W.Frag) (d : PD) : List V := d.dfl.map (He.Dv.v K)
def PD.kws (K : PySem.W.Frag) (d : PD) : List (Str × V) := d.kwd.map fun q => (q.1, q.2.v K)
def PD.ok (K : PySem.W.Frag) (d : PD) : Bool := PySem.W.keepIn K (.ref (d.adr K)) && (match K.lookup (d.adr K) with
 | some ⟨_, _, .func fd, _⟩ => PySem.W.codeIn K fd.code d.qual && (He.dflB K fd.defaults (d.dvs K) && He.kwdB K fd.kwdefaults (d.kws K))
 | _ => false)
theorem PD.funD {K : PySem.W.Frag} {d : PD} (hc : d.clo = false) (e : fnWa K (d.adr K) = d.val) (c : d.ok K = true) : ∃ fd, FunD K d.name d.qual d.params d.body d.scope (d.dvs K) (d.kws K) (d.adr K) fd := by
 obtain ⟨kp, c2⟩ := He.ba c
 unfold fnWa at e
 cases q : K.lookup (d.adr K) with
 | none =>
   rw [q] at c2
   cases c2
 | some o =>
   obtain ⟨oc, od, dt, osl⟩ := o
   rw [q] at c2 e
   cases dt with
   | func fd =>
     obtain ⟨n1, n2, n3, n4, n5, n6, n7, n8, n9, n10, n11, n12, n13, n14, n15⟩ := fd
     unfold PD.val at e
     rw [hc] at e
     have e2 : (some (n1, n2, n3, n4, n5, n6, n7.map (fun q => (q.1, 0)), n15) : He.FnW) = some (d.name, d.qual, d.params, .stmts d.body, d.scope, mainGlobals, [], builtinsNs) := e
     simp only [Option.some.injEq, Prod.mk.injEq, List.map_eq_nil_iff] at e2
     obtain ⟨h1, h2, h3, h4, h5, h6, h7, h8⟩ := e2
     subst h1 h2 h3 h4 h5 h6 h7 h8
     have c3 : (PySem.W.codeIn K n13 d.qual && (He.dflB K n8 (d.dvs K) && He.kwdB K n9 (d.kws K))) = true := c2
     obtain ⟨k1, k2⟩ := He.ba c3
     obtain ⟨k3, k4⟩ := He.ba k2
     exact ⟨_, ⟨oc, od, n8, n9, n10, n11, n12, n13, n14, osl, rfl, q, k1, He.dflB_ok k3, He.kwdB_ok k4⟩, kp⟩
   | _ => cases c2
def pgA (K : PySem.W.Frag) (C : Addr) (f : Str) : Addr := match PySem.W.findIn K (.ref C) f with
 | some (some (.ref p)) => (match PySem.W.recIn K p "property" with
   | some (.ref g :: _) => g
   | _ => 0)
 | _ => 0
def kwA (a : PySem.W.Frag → Addr) (x : Str) (K : PySem.W.Frag) : Addr := match K.lookup (a K) with
 | some ⟨_, _, .func fd, _⟩ => (match fd.kwdefaults with
   | .ref d => (match PySem.W.nsIn K d x with
     | some (some (.ref b)) => b
     | _ => 0)
   | _ => 0)
 | _ => 0
def dfA (a : PySem.W.Frag → Addr) (i : Nat) (K : PySem.W.Frag) : Addr := match K.lookup (a K) with
 | some ⟨_, _, .func fd, _⟩ => (match fd.defaults with
   | .ref T => (match K.lookup T with
     | some ⟨_, _, .seq its _, _⟩ => (match its.toList[i]? with
       | some (.ref b) => b
       | _ => 0)
     | _ => 0)
   | _ => 0)
 | _ => 0
def aiF (K : PySem.W.Frag) (a : Addr) (vs : List He.Dv) : Bool := match K.lookup a with
 | some ⟨.type c, _, .seq its _, _⟩ => decide (c = "tuple") && (decide (its.size ≤ sizeLine) && He.relAll (vs.map (He.Dv.v K)) its.toList)
 | _ => false
inductive Fx where
 | he (f : He.Fa)
 | prop (x f : Str)
 | ins (x : Str)
 | kit (t u : Tg) (b : Bool)
 | tup (a : PySem.W.Frag → Addr) (vs : List He.Dv)
 | slf (x : Str)
 /-- an own error class whose __init__ says super(): its fields, the file -/
 | own (x file : Str) (fs : List Str)
 /-- an error class as isinstance wants it -/
 | exi (x : Str)
 /-- a class that is no kind of number -/
 | nsb (x : Str)
 /-- anything else that is to be seen -/
 | raw (p : PySem.W.Frag → Bool)
def Tbo (cn : Nat → Str) (fld : Nat → List Str) (K : PySem.W.Frag) : Tb := ⟨fun c => He.ga K (cn c), fld⟩
def clsX (K : PySem.W.Frag) (C : Addr) : Bool := match K.lookup C with
 | some ⟨.type "type", _, .cls cd, sl⟩ => (match cd.mro, sl.toList with
   | .ref C' :: bm, [_, _, _, _, some (.builtin n), _] => C' == C && (n == "ValueError.__new__" && (!cd.hasDel && (cd.hasDict && (PySem.HandSPX.refsVE bm && He.eqO (PySem.W.alongIn K "__init__" bm) (some (some (.builtin "ValueError.__init__")))))))
   | _, _ => false)
 | _ => false
def iniX (K : PySem.W.Frag) (C f : Addr) (file : Str) : Bool := match K.lookup f with
 | some ⟨_, _, .func fd, _⟩ => (match fd.closure, fd.defaults, fd.code with
   | [(_, cc)], .none, .ref cda => (match K.lookup cc with
       | some ⟨_, _, .cell (some (.ref a)), _⟩ => decide (a = C)
       | _ => false) && (PySem.W.codeIn K (.ref cda) fd.qualname && (match K.lookup cda with
       | some ⟨_, _, Data.fields vs, _⟩ => (match (vs[2]? : Option Value) with
         | some (.str fi _) => decide (fi = file)
         | _ => false)
       | _ => false))
   | _, _, _ => false)
 | _ => false
def aiG (K : PySem.W.Frag) (C f : Addr) (file : Str) (fs : List Str) : Bool :=
 clsX K C && (He.eqO (PySem.W.findIn K (.ref C) "__setattr__") (some (some (.builtin "object.__setattr__"))) && (He.eqO (PySem.W.findIn K (.ref C) "__init__") (some (some (.ref f))) && (decide (PySem.W.typeIn K (.ref f) = some (.type "function")) &&
  (decide (PySem.W.subIn K (.ref C) (.type "ValueError") = some true) && (decide (PySem.W.mroIn K C (.ref C) = some true) && (He.eqO (PySem.W.nsIn K cStatics "thirdparty.any") (some none) && (iniX K C f file && (fs.all (fun y => He.eqO (PySem.W.findIn K (.ref C) y) (some none)) &&
  (PySem.W.keepIn K (.ref C) && (decide (PySem.W.subIn K (.ref C) (.type "BaseException") = some true) && (decide (PySem.W.typeIn K (.ref C) = some (.type "type")) && (He.eqO (PySem.W.findIn K (.ref C) "__getattribute__") (some (some (.builtin "BaseException.__getattribute__"))) &&
  (He.eqO (PySem.W.findIn K (.ref C) "__getattr__") (some none) && PySem.W.hasDictIn K C)))))))))))))
def akN (K : PySem.W.Frag) (C : Addr) : Bool :=
 He.eqO (PySem.W.findIn K (.ref C) "__getattribute__") (some (some (.builtin "BaseException.__getattribute__"))) && (He.eqO (PySem.W.findIn K (.ref C) "__getattr__") (some none) && (decide (PySem.W.subIn K (.ref C) (.type "BaseException") = some true) && (PySem.W.hasDictIn K C &&
  (He.eqO (PySem.W.findIn K (.ref C) "__class__") (some (some (.builtin "object.__class__"))) && (He.eqO (PySem.W.specialIn K (.builtin "object.__class__") "__get__") (some (some (.builtin "getset_descriptor.__get__"))) && (decide (PySem.W.takesIn K (.builtin "object.__class__") = some true) && decide (PySem.W.mroIn K C (.type "object") = some true)))))))
def Fx.ok (cn : Nat → Str) (K : PySem.W.Frag) : Fx → Bool
 | .he f => f.ok K
 | .prop x f => He.eqO (PySem.W.findIn K (.ref (He.ga K x)) f) (some (some (.ref (He.ma K (He.ga K x) f)))) && (He.eqO (PySem.W.specialIn K (.ref (He.ma K (He.ga K x) f)) "__get__") (some (some (.builtin "property.__get__"))) &&
  (decide (PySem.W.takesIn K (.ref (He.ma K (He.ga K x) f)) = some true) && (match PySem.W.recIn K (He.ma K (He.ga K x) f) "property" with
   | some (.ref g :: _) => decide (g = pgA K (He.ga K x) f)
   | _ => false)))
 | .ins x => (He.Fa.cls x).ok K && (He.eqO (PySem.W.findIn K (.ref (He.ga K x)) "__class__") (some (some (.builtin "object.__class__"))) && (He.eqO (PySem.W.specialIn K (.builtin "object.__class__") "__get__") (some (some (.builtin "getset_descriptor.__get__"))) &&
  (decide (PySem.W.takesIn K (.builtin "object.__class__") = some true) && decide (PySem.W.mroIn K (He.ga K x) (.type "object") = some true))))
 | .kit t u b => decide (PySem.W.kitOne K (t.v (Tbo cn (fun _ => []) K)) (u.v (Tbo cn (fun _ => []) K)) = some b)
 | .tup a vs => aiF K (a K) vs
 | .slf x => PySem.W.selfFirst K (He.ga K x)
 | .nsb x => decide (PySem.W.subIn K (.ref (He.ga K x)) (.type "int") = some false) && decide (PySem.W.subIn K (.ref (He.ga K x)) (.type "bool") = some false)
 | .exi x => akN K (He.ga K x)
 | .raw p => p K
 | .own x file fs => aiG K (He.ga K x) (He.ma K (He.ga K x) "__init__") file fs
section
variable {K : PySem.W.Frag} {cn : Nat → Str} {fld : Nat → List Str}
theorem adQ {p : PySem.W.Frag → Bool} (c : (Fx.raw p).ok cn K = true) : p K = true := c
theorem Xf {x f : Str} (c : (Fx.prop x f).ok cn K = true) : PropOf K (He.ga K x) f (He.ma K (He.ga K x) f) (pgA K (He.ga K x) f) := by
 obtain ⟨c1, c⟩ := He.ba c
 obtain ⟨c2, c⟩ := He.ba c
 obtain ⟨c3, c4⟩ := He.ba c
 refine ⟨He.eqO_ok c1, He.eqO_ok c2, of_decide_eq_true c3, ?_⟩
 split at c4
 · rename_i g rest e
   rw [e, of_decide_eq_true c4]
   exact ⟨rest, rfl⟩
 · cases c4
theorem tV {x : Str} (c : (Fx.ins x).ok cn K = true) : acN K (He.ga K x) := by
 obtain ⟨c1, c⟩ := He.ba c
 obtain ⟨c2, c⟩ := He.ba c
 obtain ⟨c3, c⟩ := He.ba c
 obtain ⟨c4, c5⟩ := He.ba c
 exact ⟨He.cls_ok c1, He.eqO_ok c2, He.eqO_ok c3, of_decide_eq_true c4, of_decide_eq_true c5⟩
theorem gR {t u : Tg} {b : Bool} (c : (Fx.kit t u b).ok cn K = true) : PySem.W.kitOne K (t.v (Tbo cn fld K)) (u.v (Tbo cn fld K)) = some b := by
 have h := of_decide_eq_true c
 cases t <;> cases u <;> exact h
end
abbrev AlP : Type := Bool × List He.FnW
def aiH (cn : Nat → Str) (fa : List Fx) (fn : List PD) (K : PySem.W.Frag) : AlP := ((fa.all fun f => f.ok cn K) && fn.all fun d => d.ok K, fn.map fun d => fnWa K (d.adr K))
def aiI (fn : List PD) : AlP := (true, fn.map PD.val)
def Jp (cn : Nat → Str) (fa : List Fx) (fn : List PD) (K : PySem.W.Frag) : Prop := aiH cn fa fn K = aiI fn
def aj0 (o : Obj) : List Addr := (match o.dict with
 | some d => [d]
 | none => []) ++ match o.data with
 | .seq its _ => its.toList.flatMap He.refV
 | .dict es _ => es.toList.flatMap fun e => He.refV e.val
 | .func fd => He.refV fd.code ++ (He.refV fd.defaults ++ (He.refV fd.kwdefaults ++ fd.closure.map (·.2)))
 | .cls cd => cd.ns :: (cd.mro.drop 1).flatMap He.refV
 | .fields vs => vs.toList.flatMap He.refV
 | .cell (some v) => He.refV v
 | _ => []
def asF (g : Addr → Option Obj) : Nat → List Addr → List Addr
 | 0, l => l
 | n + 1, l => l ++ asF g n (l.flatMap fun a => match g a with
   | some o => aj0 o
   | none => [])
def asP (g : Addr → Option Obj) (n : Nat) : List Addr := asF g n [mainGlobals] ++ [cStatics]
def obsPG (n : Nat) (cn : Nat → Str) (fa : List Fx) (fn : List PD) (g : Addr → Option Obj) : AlP := aiH cn fa fn (He.frG g (asP g n))
def hookP (n : Nat) (cn : Nat → Str) (fa : List Fx) (fn : List PD) : PySem.W.Hook where
 α := AlP
 obs := fun s => obsPG n cn fa fn s.heap.get?
 val := fun _ => aiI fn
 says := fun _ h => ∃ K : PySem.W.Frag, K.In h ∧ Jp cn fa fn K
 of := fun _ _ e => ⟨_, He.frG_in, e⟩
 keeps := fun _ _ _ ⟨K, hK, c⟩ k => ⟨K, PySem.W.Frag.In.keeps hK k, c⟩
theorem obsPG_eq {n : Nat} {cn : Nat → Str} {fa : List Fx} {fn : List PD} {g : Addr → Option Obj} {s : Shared} (h : ∀ a, g a = s.heap.get? a) : obsPG n cn fa fn g = (hookP n cn fa fn).obs s := by
 have e : g = s.heap.get? := funext h
 rw [e] <;> rfl
section
variable {cn : Nat → Str} {fa : List Fx} {fn : List PD} {K : PySem.W.Frag}
theorem Jp.fact (c : Jp cn fa fn K) (i : Nat) {f : Fx} (h : fa[i]? = some f := by rfl) : f.ok cn K = true := by
 have c1 := (He.ba (show ((fa.all fun f => f.ok cn K) && fn.all fun d => d.ok K) = true from congrArg (fun z : AlP => z.1) c)).1
 exact List.all_eq_true.mp c1 f (aop h)
theorem Jp.def_ (c : Jp cn fa fn K) (i : Nat) {d : PD} (h : fn[i]? = some d := by rfl) (hc : d.clo = false := by rfl) : ∃ fd, FunD K d.name d.qual d.params d.body d.scope (d.dvs K) (d.kws K) (d.adr K) fd := by
 have c2 := (He.ba (show ((fa.all fun f => f.ok cn K) && fn.all fun d => d.ok K) = true from congrArg (fun z : AlP => z.1) c)).2
 have e : fn.map (fun d => fnWa K (d.adr K)) = fn.map PD.val := congrArg (fun z : AlP => z.2) c
 have e2 : (fn.map fun d => fnWa K (d.adr K))[i]? = (fn.map PD.val)[i]? := by rw [e]
 rw [aos, aos, h] at e2
 exact PD.funD hc (Option.some.inj e2) (List.all_eq_true.mp c2 d (aop h))
theorem Jp.wrote (c : Jp cn fa fn K) (i : Nat) {d : PD} (h : fn[i]? = some d := by rfl) : fnWa K (d.adr K) = d.val := by
 have e : fn.map (fun d => fnWa K (d.adr K)) = fn.map PD.val := congrArg (fun z : AlP => z.2) c
 have e2 : (fn.map fun d => fnWa K (d.adr K))[i]? = (fn.map PD.val)[i]? := by rw [e]
 rw [aos, aos, h] at e2
 exact Option.some.inj e2
end
theorem Mr {K : PySem.W.Frag} {T : Tb} {w : Wd} : ∀ ns : List Int, aF K T w (ns.map V.int) (ns.map D.int)
 | [] => .nil
 | i :: r => .cons (.int i) (Mr r)
theorem law_sp {K : PySem.W.Frag} {T : Tb} {F : Fn} {H : Hp} {a : Addr} {ns : List Int} (hq : SqL K H a (ns.map V.int)) {fr : Fr} {h : Hh} (e : F [.kl (ns.map D.int)] [] = .ok (.bl true) fr h) : spF K T 1 F [.ref a] H (fun v _ => v = .bl true) (fun _ _ _ => False) := by
 refine ⟨⟨H, []⟩, [], [.kl (ns.map D.int)], ⟨Wd.le_refl _, fun _ q => .inl q, fun _ q => (by cases q), fun _ _ q _ => q, fun _ q => (by cases q), fun _ _ q => q, rfl, List.nodup_nil, fun _ q => (by cases q), fun _ _ _ q => (by simp at q), rfl, fun _ _ _ q => (by simp at q), fun _ _ _ _ q => (U8 q).elim, fun _ _ _ q _ => (by simp at q)⟩, .cons (.kl hq (Mr ns)) .nil, rfl, ?_⟩
 rw [e]
 intro w' H' v l R rv
 rcases rv with rv | ⟨p, o, _, _, _, _, r⟩
 · cases rv
   rfl
 · cases r
def pick {α : Type} (is : List Nat) (l : List α) : List α := is.filterMap fun i => l[i]?
theorem PQ : ∀ (is : List Nat) {vs : List V} {us : List Value}, Vals vs us → Vals (pick is vs) (pick is us)
 | [], _, _, _ => .nil
 | i :: is, vs, us, r => by
   unfold pick
   rw [List.filterMap_cons, List.filterMap_cons]
   cases e : vs[i]? with
   | none =>
     have e2 : us[i]? = none := by
      rw [List.getElem?_eq_none_iff] at e ⊢
      rw [← r.length]
      exact e
     rw [e2]
     exact PQ is r
   | some v =>
     obtain ⟨u, hu, ru⟩ := r.get e
     rw [hu]
     exact .cons ru (PQ is r)
theorem T7 {K : PySem.W.Frag} {T : Tb} {w : Wd} : ∀ (is : List Nat) {vs : List V} {ds : List D}, aF K T w vs ds → aF K T w (pick is vs) (pick is ds)
 | [], _, _, _ => .nil
 | i :: is, vs, ds, r => by
   unfold pick
   rw [List.filterMap_cons, List.filterMap_cons]
   cases e : ds[i]? with
   | none =>
     have e2 : vs[i]? = none := by
      rw [List.getElem?_eq_none_iff] at e ⊢
      rw [r.length]
      exact e
     rw [e2]
     exact T7 is r
   | some d =>
     obtain ⟨v, hv, rv⟩ := r.get e
     rw [hv]
     exact .cons rv (T7 is r)
def gKw {α : Type} (is : List Nat) (us mv ws : List α) : List α := us ++ pick is (ws ++ mv)
end Pk
namespace PySem
namespace EnT
abbrev Z4 (l : Addr) : Obj := { cls := .type "tuple_iterator", data := .fields #[.ref l, .int 0 0] }
abbrev enO (it : Addr) : Obj := { cls := .type "enumerate", data := .fields #[.none, .bool false, .ref it, rawInt 0, .none, .none] }
theorem GF (l : Addr) (items : Array Value) (n : Nat) (dct : Option Addr) (sl : Array (Option Value)) :
 Meets (Builtin.«enumerate.__new__» ⟨[.type "enumerate", .ref l], []⟩) (fun _ R s => s.heap.get? l = some { cls := .type "tuple", dict := dct, data := .seq items n, slots := sl } ∧
  R (.ok (.ret (.ref (s.heap.push (Z4 l)).objs.size))) { s with heap := (s.heap.push (Z4 l)).push (enO s.heap.objs.size) }) := by
 refine .of_wp fun prog w A R s h => ?_
 obtain ⟨hp, g, d, tk, os⟩ := s
 obtain ⟨hl, h⟩ := h
 have hsub := sub_enumerate
 have hT : Heap.IsTuple (Shared.heap ⟨hp, g, d, tk, os⟩) l items := ⟨_, hl, rfl, n, rfl⟩
 wp_walk using AutoSeq1.wpAny_loadPart' hl
 refine wpAny_stack_any fun st => wpAny_pure ?_
 split
 · rename_i c _ _ _ _ _
   cases (c == Value.type "enumerate") <;> (wp_walk using AutoSeq1.wpAny_loadPart' hl, wpAny_pyIter_tuple hT; exact ⟨_, rfl, h⟩)
 · wp_walk using AutoSeq1.wpAny_loadPart' hl, wpAny_pyIter_tuple hT
   exact ⟨_, rfl, h⟩
section
variable {prog : Program} {w : World} {A : Around} {E : Value → Shared → Prop} {s : Shared}
theorem call_tup {l : Addr} {items : Array Value} {Q : Value → Shared → Prop} (hT : s.heap.IsTuple l items)
 (h : ∀ h', IsEnum h' (s.heap.objs.size + 1) s.heap.objs.size 0 .none → h'.IsTupleIter s.heap.objs.size l 0 → (∀ b o, s.heap.get? b = some o → h'.get? b = some o) → Q (.ref (s.heap.objs.size + 1)) { s with heap := h' }) :
 wpAny (model prog w) A (call (.type "enumerate") [.ref l]) Q E s := by
 obtain ⟨⟨c, dct, dt, sl⟩, hl, hc, n, hd⟩ := hT
 obtain rfl : c = .type "tuple" := hc
 obtain rfl : dt = .seq items n := hd
 have hz : (s.heap.push (Z4 l)).objs.size = s.heap.objs.size + 1 := Heap.size_push ..
 have he : ((s.heap.push (Z4 l)).push (enO s.heap.objs.size)).get? (s.heap.objs.size + 1) = some (enO s.heap.objs.size) := by
  have z := Heap.get?_push_size (s.heap.push (Z4 l)) (o := enO s.heap.objs.size) rfl
  rw [hz] at z
  exact z
 have hi : ((s.heap.push (Z4 l)).push (enO s.heap.objs.size)).get? s.heap.objs.size = some (Z4 l) := Heap.get?_push_of_some _ (Heap.get?_push_size _ rfl)
 refine callType_new F.called_enumerate (by decide) (F.typeCall_enumerate_1 _) (F.newCall_enumerate_1 _) (fun obj => F.args_object_init_2 obj _) F.entry_enumerate_new (GF l items n dct sl) ⟨hl, ?_⟩
 show _ ∧ _
 rw [hz]
 exact ⟨⟨_, he, rfl⟩, h _ he ⟨_, hi, rfl, rfl⟩ fun b o x => Heap.get?_push_of_some _ (Heap.get?_push_of_some _ x)⟩
end
end EnT
end PySem
namespace L2
open PySem PySem.Spec PyProof.Rows
def ItE (K : PySem.W.Frag) (a : Addr) : It :=
 ⟨fun i H => ∃ (xs : List V) (x : V), SqT K H a xs ∧ xs[i]? = some x, fun i H v H' => ∃ T x, v = .ref T ∧ H T = none ∧ H' = upd H T (.tup [.int (i : Nat), x]) ∧ ∀ xs, SqT K H a xs → xs[i]? = some x, fun i H => ∃ xs : List V, SqT K H a xs ∧ xs.length ≤ i⟩
theorem Xg {h : Heap} {a b : Addr} {its : Array Value} {n : String} {o : Obj} (p : h.IsTuple a its) (e : h.get? b = some o) (c : o.cls = .type n) (hn : n ≠ "tuple") : a ≠ b := fun z => by
 obtain ⟨oa, ea, ca, _⟩ := p
 rw [z, e] at ea
 cases ea
 rw [c] at ca
 exact hn (by injection ca)
theorem ae9 {P : Program} {w : World} {K : PySem.W.Frag} {elts : List Expr} {kk : Nat} {tpos : Pos} (a e it : Addr) :
 Turn P w K (.Tuple elts kk tpos) (ItE K a) [e, it] e (fun i h => (∃ old, IsEnum h e it ((i : Nat) : Int) old) ∧ h.IsTupleIter it a i ∧ e ≠ it) where
 mem := by simp
 obj := fun i h st b hb => by
  obtain ⟨⟨old, he⟩, ⟨o, ho, _, hd⟩, _⟩ := st
  rcases (show b = e ∨ b = it by simpa using hb) with rfl | rfl
  · exact ⟨_, he, fun v q => nomatch q⟩
  · exact ⟨o, ho, fun v q => by rw [hd] at q; cases q⟩
 keep := fun i h h' st k => by
  obtain ⟨⟨old, he⟩, hi, hne⟩ := st
  exact ⟨⟨old, k e (by simp) _ he⟩, hi.at fun o q => k it (by simp) o q, hne⟩
 item := by
  intro X hP hw hK hc i pins s σ H E I hf st hg
  subst hP hw hK
  obtain ⟨⟨old, he⟩, hit, hne⟩ := st
  obtain ⟨xs, x, hq, hx⟩ := hg
  obtain ⟨its, rv, p, _⟩ := I.tuple hq
  obtain ⟨u, hu, ru⟩ := rv.get hx
  have pt : s.heap.IsTuple a its.toArray := p
  have hai : a ≠ it := by
   obtain ⟨o, ho, c, _⟩ := id hit
   exact Xg pt ho c (by decide)
  have hae : a ≠ e := Xg pt he rfl (by decide)
  have hlt : i < its.toArray.size := by
   have := (List.getElem?_eq_some_iff.mp hu).1
   simpa using this
  have hel : e < s.heap.objs.size := Heap.lt_size he
  have hil : it < s.heap.objs.size := by
   obtain ⟨_, q, _⟩ := hit
   exact Heap.lt_size q
  refine wpAny_pyNext_enum_itemD (Draws.tuple (show X.A.in1.handled = none from I.ok.hd hc) it a hai its.toArray) he ⟨hit, pt⟩ hlt hne (by simp [hne, Ne.symm hae]) fun y h' tk hy ho hst hT hsz hk => ?_
  obtain rfl : u = y := by
   have e1 : its[i]? = some y := by simpa using hy
   rw [hu] at e1
   exact Option.some.inj e1
  refine ⟨_, rfl, wpAny_letOwnedTupleGo_enum (s := { s with heap := h', toks := tk + 1 }) ho fun h'' he' sb => ?_⟩
  have ne : s.heap.objs.size ≠ e := Nat.ne_of_gt hel
  have new : ObjOk X.prog X.w (upd H s.heap.objs.size (.tup [.int (i : Nat), x])) h'' s.heap.objs.size (.tup [.int (i : Nat), x]) :=
   ⟨by show 2 ≤ sizeLine; decide, [.int i tk, u], .cons ⟨_, rfl⟩ (.cons ru .nil), ⟨_, (sb.2 _ ne).trans hT, rfl, _, rfl⟩⟩
  have I1 : Inv X pins σ (upd H s.heap.objs.size (.tup [.int (i : Nat), x])) { s with heap := h'', toks := tk + 1 } :=
   I.turnedNew (ch := [e, it]) (fun b ob hb q => (sb.2 b (fun z => hb (by simp [z]))).trans (hk b ob (fun z => hb (by simp [z])) (fun z => hb (by simp [z])) q)) hf (Nat.le_refl _) new
  refine ⟨.ref s.heap.objs.size, _, I1, rfl, ⟨_, x, rfl, I.hok.fresh (Nat.le_refl _), rfl, fun ys hy => by rw [I.tuple_inj hy hq]; exact hx⟩, ⟨⟨u, ?_⟩, hst.1.at fun o q => (sb.2 it (Ne.symm hne)).trans q, hne⟩, fun b hb => ?_⟩
  · rw [show ((i + 1 : Nat) : Int) = (i : Int) + 1 by omega]
    exact he'
  · have hb' : b < s.heap.objs.size := by
     rcases (show b = e ∨ b = it by simpa using hb) with rfl | rfl
     · exact hel
     · exact hil
    rw [upd_ne (Nat.ne_of_lt hb')]
    exact (hf b hb).1
 done := by
  intro X hP hw hK hc i pins s σ H E I hf st hg
  subst hP hw hK
  obtain ⟨⟨old, he⟩, hit, hne⟩ := st
  obtain ⟨xs, hq, hx⟩ := hg
  obtain ⟨its, rv, p, _⟩ := I.tuple hq
  have pt : s.heap.IsTuple a its.toArray := p
  obtain ⟨f0, f1, f2, f3, f4, f5⟩ := hf it (by simp)
  have hai : a ≠ it := by
   obtain ⟨o, ho, c, _⟩ := id hit
   exact Xg pt ho c (by decide)
  have hi : its.toArray[i]? = none := by
   have hl := rv.length
   simp
   omega
  have D : Draws X.prog X.w X.A.in1 it [it, a] i (fun _ _ => True) (fun j h => j = i ∧ h.IsTupleIter it a j ∧ h.IsTuple a its.toArray) :=
   { live := fun _ _ st => by
      obtain ⟨_, ⟨o, ho, _⟩, _⟩ := st
      exact ⟨o, ho⟩
     frame := fun _ _ _ st hk => ⟨st.1, st.2.1.at fun o e => hk it (by simp) o e, st.2.2.at fun o e => hk a (by simp) o e⟩
     item := fun j s Q E hj st _ => absurd st.1 (Nat.ne_of_lt hj)
     done := fun s Q E st hE => PySem.wpAny_nextOf_tuple_end (show X.A.in1.handled = none from I.ok.hd hc) st.2.1 st.2.2 hi hE }
  exact wpAny_pyNext_enum_endD D he ⟨rfl, hit, pt⟩ fun h' eb => ⟨rfl, I.turned (t' := s.toks) (fun b o hb q => eb b o hb q) f0 f1 f3 f4 f5⟩
 self := fun A i s Q E st h => by
  obtain ⟨⟨_, he⟩, _⟩ := st
  exact wpAny_pyIter_enum he h
def akO (K : PySem.W.Frag) (ta : TA) : TI := fun σ H R => ta σ H fun vs H1 => ∃ a xs, vs = [.ref a] ∧ ((SqL K H1 a xs ∧ R (Ite K a) H1) ∨ (SqT K H1 a xs ∧ R (ItE K a) H1))
theorem aiJ {X : Cx} {e : Expr} {ta : TA} {p pos tpos : Pos} {elts : List Expr} {kk : Nat} (hg : Gl X "enumerate") (hm : X.mg "enumerate" = none) (ha : PA X [e] ta) (hs : starEach [e] X.env = [(false, eval e X.env)] := by rfl) :
 PI X (.Tuple elts kk tpos) (.Call (.Name "enumerate" p) [e] [] pos) (akO X.K ta) := by
 refine ⟨fun pins s σ H R I h => ?_⟩
 refine Call_ (ld_blt I hg hm boot_enumerate (PyProof.Rows.callWith_type1 (thn (ha.run pos pins s σ H _ I h) fun us s1 hh => ?_) hs rfl))
 obtain ⟨vs, H1, I1, r1, a, xs, rfl, q⟩ := hh
 cases r1 with
 | cons r rr =>
   cases rr
   cases r
   have two : ∀ b ∈ [s1.heap.objs.size + 1, s1.heap.objs.size], FpOk X pins H1 b := fun b hb => by
    have hle : s1.heap.objs.size ≤ b := by
     rcases (show b = s1.heap.objs.size + 1 ∨ b = s1.heap.objs.size by simpa using hb) with rfl | rfl
     · exact Nat.le_succ _
     · exact Nat.le_refl _
    exact I1.fpOk hle (I1.hok.fresh hle)
   rcases q with ⟨hq, q⟩ | ⟨hq, q⟩
   · obtain ⟨its, rv, pl, _⟩ := I1.list hq
     refine call_enumerate_list pl.isList fun h' he hit _ hk => wpAny_pyIter_enum he ?_
     exact ⟨s1.heap.objs.size + 1, [s1.heap.objs.size + 1, s1.heap.objs.size], _, _, H1, rfl, I1.kept (t' := s1.toks) hk, turn_enum a (s1.heap.objs.size + 1) s1.heap.objs.size, ⟨⟨.none, he⟩, hit, Nat.succ_ne_self _⟩, two, q⟩
   · obtain ⟨its, rv, pl, _⟩ := I1.tuple hq
     refine PySem.EnT.call_tup (show s1.heap.IsTuple a its.toArray from pl) fun h' he hit hk => wpAny_pyIter_enum he ?_
     exact ⟨s1.heap.objs.size + 1, [s1.heap.objs.size + 1, s1.heap.objs.size], _, _, H1, rfl, I1.kept (t' := s1.toks) hk, ae9 a (s1.heap.objs.size + 1) s1.heap.objs.size, ⟨⟨.none, he⟩, hit, Nat.succ_ne_self _⟩, two, q⟩
end L2
namespace Pk
open PySem PySem.Spec L2
def nR : Nat → List D → List D
 | _, [] => []
 | i, d :: ds => .tup [.int (i : Int), d] :: nR (i + 1) ds
theorem Hl : ∀ (i : Nat) (l : List D), (nR i l).length = l.length
 | _, [] => rfl
 | i, _ :: l => congrArg Nat.succ (Hl (i + 1) l)
theorem P0 : ∀ (i : Nat) (l : List D) (j : Nat) (z : D), (nR i l)[j]? = some z → ∃ d, l[j]? = some d ∧ z = .tup [.int ((i + j : Nat) : Int), d]
 | _, [], j, z, e => by simp [nR] at e
 | i, d :: l, 0, z, e => by
   simp [nR] at e
   exact ⟨d, rfl, e.symm⟩
 | i, d :: l, j + 1, z, e => by
   obtain ⟨d', h1, h2⟩ := P0 (i + 1) l j z (by simpa [nR] using e)
   exact ⟨d', by simpa using h1, by rw [h2]; congr 3; omega⟩
def D.lst : D → Option (List D)
 | .fl l => some l
 | .kl l => some l
 | .tup l => some l
 | _ => none
def Gq (m : M D) : M (List D) := m.bind fun d => M.opt (d.lst.map (nR 0))
section
variable {X : Cx} {T : Tb} {W : WX} {k kk : Nat} {pos p tpos : Pos} {elts : List Expr} {a : Expr} {ma : M D}
theorem ag4 {K : PySem.W.Frag} {B : Bs} {σ : L2.St} {w : Wd} {H : Hp} {fr : Fr} {a : Addr} {vs : List V} {l : List D} (sq : SqL K w.F a vs) (rl : aF K T w vs l) : vJ K T B σ w H fr (Ite K a) (nR 0 l) := fun i w2 H2 l2 hs => ⟨fun hi => ⟨vs, nU hs (nU l2.1 sq), by rw [rl.length, ← Hl 0 l]; exact hi⟩, fun d' hd => by
 obtain ⟨d, hd1, rfl⟩ := P0 0 l i d' hd
 obtain ⟨v, hv, rv⟩ := rl.get hd1
 have sq2 : SqL K H2 a vs := nU hs (nU l2.1 sq)
 refine ⟨⟨vs, v, sq2, hv⟩, fun y H3 hy B' σ' fr' h' R' => ?_⟩
 obtain ⟨Tp, x, rfl, nT, rfl, hx⟩ := hy
 have z := hx vs sq2
 rw [hv] at z
 cases z
 have nf : w2.F Tp = none := (R'.nP nT).1
 have lw := Wd.le_add (o := .tup [.int (i : Nat), v]) nf
 rw [Nat.zero_add]
 exact ⟨w2.add Tp (.tup [.int (i : Nat), v]), lw, R'.laid nT, .tup (SqT.of (by show upd w2.F Tp _ Tp = _; rw [upd_same])) (.cons (.int _) (.cons ((rv.mono l2).mono lw) .nil))⟩⟩
theorem aiK {K : PySem.W.Frag} {B : Bs} {σ : L2.St} {w : Wd} {H : Hp} {fr : Fr} {a : Addr} {vs : List V} {l : List D} (sq : SqT K w.F a vs) (rl : aF K T w vs l) : vJ K T B σ w H fr (ItE K a) (nR 0 l) := fun i w2 H2 l2 hs => ⟨fun hi => ⟨vs, fX hs (fX l2.1 sq), by rw [rl.length, ← Hl 0 l]; exact hi⟩, fun d' hd => by
 obtain ⟨d, hd1, rfl⟩ := P0 0 l i d' hd
 obtain ⟨v, hv, rv⟩ := rl.get hd1
 have sq2 : SqT K H2 a vs := fX hs (fX l2.1 sq)
 refine ⟨⟨vs, v, sq2, hv⟩, fun y H3 hy B' σ' fr' h' R' => ?_⟩
 obtain ⟨Tp, x, rfl, nT, rfl, hx⟩ := hy
 have z := hx vs sq2
 rw [hv] at z
 cases z
 have lw := Wd.le_add (o := .tup [.int (i : Nat), v]) (R'.nP nT).1
 rw [Nat.zero_add]
 exact ⟨w2.add Tp (.tup [.int (i : Nat), v]), lw, R'.laid nT, .tup (SqT.of (by show upd w2.F Tp _ Tp = _; rw [upd_same])) (.cons (.int _) (.cons ((rv.mono l2).mono lw) .nil))⟩⟩
theorem aiL {K : PySem.W.Frag} {w : Wd} {v : V} {d : D} {l : List D} (r : bQ K T w v d) (e : d.lst = some l) : ∃ p vs, v = .ref p ∧ aF K T w vs l ∧ (SqL K w.F p vs ∨ SqT K w.F p vs) := by
 cases r with
 | fl s r =>
   cases e
   exact ⟨_, _, rfl, r, .inl (SqL.of s)⟩
 | kl s r =>
   cases e
   exact ⟨_, _, rfl, r, .inl s⟩
 | tup s r =>
   cases e
   exact ⟨_, _, rfl, r, .inr s⟩
 | _ => cases e
theorem ab5 (s : aY X T W a ma) (hm : X.mg "enumerate" = none) (hg : Gl X "enumerate" := by rfl) (hs : starEach [a] X.env = [(false, eval a X.env)] := by rfl) : PB X T W (.Tuple elts kk tpos) (.Call (.Name "enumerate" p) [a] [] pos) (Gq ma) := fun B w σ H fr h Q r p =>
 Vg (aiJ hg hm (pa_cons bF pa_nil (hs.trans (by rfl))) hs) (s B w σ H fr h _ r (aO.bind (VR := vV X.K T B σ) p fun d fr1 h1 w1 H1 x e1 l1 r1 rx p1 => by
  cases q : d.lst with
  | none => rw [q] at p1; exact p1.elim
  | some l =>
    rw [q] at p1
    obtain ⟨a, vs, rfl, rl, sq | sq⟩ := aiL rx q
    · exact ⟨a, vs, rfl, .inl ⟨nU r1.sub sq, p1 w1 H1 (Ite X.K a) (Wd.le_refl _) r1 (ag4 sq rl)⟩⟩
    · exact ⟨a, vs, rfl, .inr ⟨fX r1.sub sq, p1 w1 H1 (ItE X.K a) (Wd.le_refl _) r1 (aiK sq rl)⟩⟩))
end
end Pk
namespace Pk
open PySem PySem.Spec L2
inductive AllL {β : Type} (Q : Nat → β → Prop) : List (Nat × β) → Prop where
 | nil : AllL Q []
 | cons {a : Nat} {b : β} {l : List (Nat × β)} : Q a b → AllL Q l → AllL Q ((a, b) :: l)
theorem cX {β : Type} {Q : Nat → β → Prop} : ∀ {l : List (Nat × β)}, AllL Q l → ∀ c i, aoi c l = some i → Q c i
 | _, .nil, _, _, e => by cases e
 | _, @AllL.cons _ _ a b l q r, c, i, e => by
   rw [List.lookup_cons] at e
   cases h : c == a with
   | true =>
     rw [h] at e
     cases e
     rw [beq_iff_eq.mp h]
     exact q
   | false =>
     rw [h] at e
     exact cX r c i e
theorem aiM {α : Type} {ms kws : List α} (idx : List Nat) (h : ms = pick idx kws) : ∀ q ∈ ms, q ∈ kws := fun q hq => by
 rw [h] at hq
 obtain ⟨i, _, e⟩ := List.mem_filterMap.mp hq
 exact aop e
def acO (rows : List ((Tg × Tg) × Bool)) (t u : Tg) : Option Bool := match t, u with
 | .b a, .b b => Z3 a b
 | t, u => aoi (t, u) rows
inductive Az (K : PySem.W.Frag) (T : Tb) : List ((Tg × Tg) × Bool) → Prop where
 | nil : Az K T []
 | b {a : String} {c : Nat} {r : Bool} {l : List ((Tg × Tg) × Bool)} : PySem.W.kitOne K (Tg.v T (.b a)) (Tg.v T (.o c)) = some r → Az K T l → Az K T (((.b a, .o c), r) :: l)
 | o {c : Nat} {u : Tg} {r : Bool} {l : List ((Tg × Tg) × Bool)} : PySem.W.kitOne K (Tg.v T (.o c)) (u.v T) = some r → acN K (T.cad c) → Az K T l → Az K T (((.o c, u), r) :: l)
theorem KY {K : PySem.W.Frag} {T : Tb} : ∀ {l : List ((Tg × Tg) × Bool)}, Az K T l → ∀ t u b, aoi (t, u) l = some b → PySem.W.kitOne K (t.v T) (u.v T) = some b ∧ ∀ c, t = .o c → acN K (T.cad c)
 | _, .nil, _, _, _, e => by cases e
 | _, @Az.b _ _ a c r l q rr, t, u, b, e => by
   rw [List.lookup_cons] at e
   cases h : (t, u) == (Tg.b a, Tg.o c) with
   | true =>
     rw [h] at e
     cases e
     cases beq_iff_eq.mp h
     exact ⟨q, fun c' z => by cases z⟩
   | false =>
     rw [h] at e
     exact KY rr t u b e
 | _, @Az.o _ _ c u' r l q i rr, t, u, b, e => by
   rw [List.lookup_cons] at e
   cases h : (t, u) == (Tg.o c, u') with
   | true =>
     rw [h] at e
     cases e
     cases beq_iff_eq.mp h
     exact ⟨q, fun c' z => by cases z; exact i⟩
   | false =>
     rw [h] at e
     exact KY rr t u b e
theorem adS {K : PySem.W.Frag} {T : Tb} {l : List ((Tg × Tg) × Bool)} (h : Az K T l) : Xe K T (acO l) := by
 refine ⟨fun t u b e => ?_, fun c u b e => ?_⟩
 · cases t with
   | b a =>
     cases u with
     | b a' => exact kit_ty (ag3 _ _ _ e)
     | o c => exact (KY h _ _ _ e).1
   | o c => exact (KY h _ _ _ e).1
 · exact (KY h _ _ _ e).2 c rfl
def Hm (is : List Nat) (md : List D) (ds es : List D) : List D := ds ++ pick is (es ++ md)
theorem Z5 {α : Type} {l : List α} : ∀ {is : List Nat}, (is.all fun i => decide (i < l.length)) = true → (pick is l).length = is.length
 | [], _ => rfl
 | i :: is, h => by
   rw [List.all_cons, Bool.and_eq_true] at h
   have hi : i < l.length := of_decide_eq_true h.1
   unfold pick
   rw [List.filterMap_cons, aoc hi]
   exact congrArg Nat.succ (Z5 h.2)
theorem afa {K : PySem.W.Frag} {T : Tb} {mv : List V} {md : List D} (is : List Nat) (hm : ∀ w, aF K T w mv md) {n m : Nat} (h1 : (is.all fun i => decide (i < m + md.length)) = true) (w : Wd) (vs zs : List V) (ds es : List D) (r : aF K T w vs ds) (z : aF K T w zs es) (l1 : ds.length = n) (l2 : es.length = m) :
 aF K T w (gKw is vs mv zs) (Hm is md ds es) ∧ (Hm is md ds es).length = n + is.length :=
 ⟨r.append (T7 is (z.append (hm w))), by
  unfold Hm
  rw [an9, l1, Z5 (by rw [an9, l2]; exact h1)]⟩
theorem ag5 {K : PySem.W.Frag} {T : Tb} {mv : List V} {md : List D} {ps ks : List Str} (is : List Nat) (hm : ∀ w, aF K T w mv md) {n : Nat} (h1 : (is.all fun i => decide (i < ks.length + md.length)) = true) (h2 : n + is.length + 1 = ps.length) : ∀ (w : Wd) (vs zs : List V) (ds es : List D), aF K T w vs ds → aF K T w zs es → ds.length = n → es.length = ks.length →
 aF K T w (gKw is vs mv zs) (Hm is md ds es) ∧ (Hm is md ds es).length + 1 = ps.length := fun w vs zs ds es r z l1 l2 => by
 obtain ⟨a, b⟩ := afa is hm h1 w vs zs ds es r z l1 l2
 exact ⟨a, by rw [b]; exact h2⟩
theorem fn_cx0 {P : Program} {w : World} {K : PySem.W.Frag} {mg : Str → Option Value} {base : Heap} {k : Nat} {f : Addr} {fd : FuncData} {ps : List Str} {sp : Sp} (F : FnOk P w K mg base (L2.CX P w) k f fd ps sp) :
 FnOk P w K mg base CX0 k f fd ps (fun vs H Q _ => sp vs H Q fun _ _ _ => False) := by
 refine ⟨fun vs H Q _ q => F.len vs H Q _ q, fun A outer s H args us vs Q E hr e0 hb r hsp => codeAny_mono (F.run A outer s H args us vs Q _ hr e0 hb r hsp) fun r s' hq => ?_⟩
 cases r with
 | error e =>
   obtain ⟨a, B, H', cls, d, rfl, fl, hok, ub, na, os, ag, hE⟩ := (show L2.CX P w outer H s (fun _ _ _ => False) e s' from hq)
   exact hE.elim
 | ok fl => cases fl <;> exact hq
end Pk
namespace Pk
open PySem PySem.Spec L2
section
variable {P : Program} {w : World} {K : PySem.W.Frag} {mg : Str → Option Value} {base : Heap} {T : Tb} {k : Nat} {x qual : Str} {params : Arguments} {body : List Stmt} {scope : Scope} {dvs : List V} {kws : List (Str × V)} {f : Addr} {fd : FuncData} {N ps : List Str}
theorem adT (c : Nat) (S : FnScope N ps scope) {m : M Fl} (dm : Does P w K mg base T k N qual scope body m) (cdv : Value) (A : Around) (outer : List Env) (s : Shared) (H : Hp) (vs : List V) (Q : VK) (E : XK)
 (hr : Room k (A.deeper (PyProof.Rows.envOfC qual scope s.heap.objs.size f cdv))) (sp : spI K T c ps.length (runI c N.length m) vs H Q E) :
 ∃ t, PSs (Cxd P w K mg base N qual scope f cdv A outer s H E) body t ∧ t { nx := fun _ H' => Q .non H', rt := Q } (L2.start N vs) H := by
 obtain ⟨w, h, ds, G, x, dx, us, ev, nx, eH, R, rs, hl, post⟩ := sp
 refine ⟨Zv _ body, Ab, ?_⟩
 have hpl : ps.length ≤ N.length := by
  have := congrArg aov S.pre
  rw [List.length_take] at this
  omega
 subst ev eH
 refine dm f cdv A outer s _ E (acM S hr) ⟨w, G, [], some x⟩ w _ _ (startF N.length (.no c [] :: ds)) h _ (R.ofme.startI rfl nx rs (by rw [hl]; exact hpl)) ?_
 unfold runI at post
 cases e : m (startF N.length (.no c [] :: ds)) h with
 | ok fl fr h' =>
   rw [e] at post
   cases fl with
   | nx =>
     intro w' σ' H' l R'
     dsimp only at post
     cases e0 : (fr : Fr)[0]? with
     | none => rw [e0] at post; exact post.elim
     | some od =>
       rw [e0] at post
       cases od with
       | none => exact post.elim
       | some d =>
         cases d with
         | no c' fs =>
           dsimp only at post
           by_cases hc : c' = c
           · rw [if_pos hc] at post
             subst hc
             have s0 := R'.me x _ rfl e0 rfl
             obtain ⟨v, ev, z⟩ := iQ R' e0
             rw [s0] at ev
             cases ev
             cases z with
             | val r => cases r
             | own O eH r => exact post w' H' .non l R'.unframe.unme ⟨rfl, ⟨O.f, O.i, O.e, fun q hq => by cases hq⟩, _, eH, r⟩
           · rw [if_neg hc] at post
             exact post.elim
         | _ => exact post.elim
   | rt d => exact post.elim
   | brk => exact post.elim
   | ct => exact post.elim
 | exc y fr h' =>
   rw [e] at post
   exact fun w' σ' H' c dd l R' z => post w' H' c dd l R'.unframe.unme z
 | err => rw [e] at post; exact post
end
structure FnS (P : Program) (w : World) (K : PySem.W.Frag) (mg : Str → Option Value) (base : Heap) (T : Tb) (k c : Nat) (f : Addr) (n : Nat) (ks : List Str) (F : Fn) : Prop where
 run : ∀ (A : Around) (outer : List Env) (s : Shared) (H : Hp) (u0 : Value) (ur ws : List Value) (v0 : V) (vr zs : List V) (Q : VK) (E : XK), Room k A → Env0 P w K mg base A outer s H → RelV v0 u0 → Vals vr ur → Vals zs ws → zs.length = ks.length → vr.length ≤ sizeLine →
  (∀ p, H p = none → spI K T c n F (v0 :: (zs ++ [.ref p])) (upd H p (.tup vr)) Q E) → codeAny (model P w) A (.call (.ref f) ⟨u0 :: ur, ks.zip ws⟩) (CR (L2.CX P w) outer P w H s Q E) s
 made : Mk K (T.cad c) f
section
variable {P : Program} {w : World} {K : PySem.W.Frag} {mg : Str → Option Value} {base : Heap} {T : Tb} {k : Nat} {x qual : Str} {params : Arguments} {body : List Stmt} {scope : Scope} {f : Addr} {fd : FuncData} {N : List Str} {p0 pv : Str} {ks : List Str}
theorem ag6 (c : Nat) (F : FunD K x qual params body scope [] [] f fd) (Mf : Mk K (T.cad c) f) (S : FnScope N (p0 :: ks ++ [pv]) scope) {m : M Fl} (dm : Does P w K mg base T k N qual scope body m)
 (hb : ∀ (kV doc pm : Value) (an : Option Addr) (cdv ct u0 : Value) (ur ws : List Value), ws.length = ks.length → bindArgs (PySem.W.fnOf x qual params body scope .none kV doc pm an cdv ct) ⟨u0 :: ur, ks.zip ws⟩ = (newTuple ur >>= fun t => pure ((p0 :: ks).zip (u0 :: ws) ++ [(pv, t)]))) :
 FnS P w K mg base T (k + 1) c f (p0 :: ks ++ [pv]).length ks (runI c N.length m) := by
 refine ⟨fun A outer s H u0 ur ws v0 vr zs Q E hr e0 r0 rr rz hz hbig hq => ?_, Mf⟩
 obtain ⟨oc, od, dV, kV, doc, pm, an, cdv, ct, osl, rfl, lk, hcd, hD, hK⟩ := F.ex
 have edV : dV = .none := by
  rcases hD with ⟨_, e⟩ | ⟨e, _⟩
  · exact e
  · exact absurd rfl e
 subst edV
 have hn : H s.heap.objs.size = none := e0.hok.fresh (Nat.le_refl _)
 have hl2 : ur.length ≤ sizeLine := by rw [← rr.length]; exact hbig
 have hws : ws.length = ks.length := by rw [← rz.length]; exact hz
 refine StX.run_bnd lk hcd S hr e0 (G := fun xs H2 => ∃ p, H p = none ∧ xs = v0 :: (zs ++ [V.ref p]) ∧ H2 = upd H p (.tup vr)) (fun A' Ex Q' h => ?_) fun s2 H2 xs ⟨p, hp, ex, eH⟩ hr' => ?_
 · rw [hb kV doc pm an cdv ct u0 ur ws hws]
   refine wpAny_bind (wpAny_newTuple (wpAny_pure ?_) hl2)
   have new : ObjOk P w (upd H s.heap.objs.size (.tup vr)) (s.heap.push ({ cls := .type "tuple", data := .seq ur.toArray } : Obj)) s.heap.objs.size (.tup vr) := ⟨hbig, ur, rr, ⟨_, Heap.get?_push_size _ rfl, rfl, _, rfl⟩⟩
   have un := StX.un_laid (fs := frs outer) (s := s) (o := ({ cls := .type "tuple", data := .seq ur.toArray } : Obj)) (u := .tup vr) hn
   have z := h _ _ (v0 :: (zs ++ [V.ref s.heap.objs.size])) (u0 :: (ws ++ [Value.ref s.heap.objs.size])) (StX.env0_laid e0 new) un rfl (fun e s' => StX.cxUp outer s H _ _ E e s' un (fun b o q => Heap.get?_push_of_some _ q) rfl) (.cons r0 (rz.append (.cons rfl .nil)))
    (by simp [hz]) ⟨_, hn, rfl, rfl⟩
   have ez : (p0 :: ks ++ [pv]).zip (u0 :: (ws ++ [Value.ref s.heap.objs.size])) = (p0 :: ks).zip (u0 :: ws) ++ [(pv, Value.ref s.heap.objs.size)] := by
    show ((p0 :: ks) ++ [pv]).zip ((u0 :: ws) ++ [Value.ref s.heap.objs.size]) = _
    rw [List.zip_append (by simp [hws])]
    rfl
   rw [ez] at z
   exact z
 · subst ex eH
   exact adT c S dm _ A outer s2 _ _ Q E hr' (hq p hp)
end
def tW (ds es : List D) : List D := es ++ [.tup ds]
def Jq (m : Nat) (F : Fn) (ma : M D) (mk : M (List D)) : M D := ma.bind fun d => mk.bind fun es fr h => match d.its [] with
 | some ds => if ds.length ≤ big ∧ es.length = m then bJ fr (F (tW ds es) h) else .err
 | none => .err
section
variable {X : Cx} {T : Tb} {W : WX} {k kk n c : Nat} {f : Addr} {ks : List Str} {F : Fn} {x : Str} {p pos apos : Pos} {e : Expr} {es : List Expr} {kws : List Keyword} {ma : M (List D)} {mo : M D} {mk : M (List D)}
theorem Qa {B : Bs} {w : Wd} {σ : L2.St} {H : Hp} {fr : Fr} {h : Hh} {vs zs : List V} {ds es : List D} {Q : VK} (hn : n = ks.length + 2)
 (R : Rel X.K T B w σ H fr h) (rs : aF X.K T w vs ds) (rz : aF X.K T w zs es) (hb : ds.length ≤ big) (hm : es.length = ks.length) (pp : aO X.K T B W (vE X.K T B σ) w σ (bJ fr (F (tW ds es) h)) Q) :
 zs.length = ks.length ∧ vs.length ≤ sizeLine ∧ ∀ x dx, H x = none → H dx = none → dx ≠ x → ∀ p, (upd (upd H dx (.own x)) x (.ins (T.cad c) dx [])) p = none →
  spI X.K T c n F (.ref x :: (zs ++ [.ref p])) (upd (upd (upd H dx (.own x)) x (.ins (T.cad c) dx [])) p (.tup vs)) (fun v H2 => v = .non ∧ Q (.ref x) H2) (fun c d H' => W c d σ H') := by
 refine ⟨rz.length.trans hm, by rw [rs.length]; exact rA hb, fun x dx nx nd ne p np => ?_⟩
 have px : p ≠ x := fun z => by rw [z, upd_same] at np; cases np
 rw [upd_ne px] at np
 have pd : p ≠ dx := fun z => by rw [z, upd_same] at np; cases np
 rw [upd_ne pd] at np
 have R1 := R.laid (o := .tup vs) np
 have le := Wd.le_add (p := p) (o := .tup vs) (R.nP np).1
 have eH : upd (upd (upd H dx (.own x)) x (.ins (T.cad c) dx [])) p (.tup vs) = upd (upd (upd H p (.tup vs)) dx (.own x)) x (.ins (T.cad c) dx []) := by
  funext b
  by_cases hp : b = p
  · subst hp
    rw [upd_same, upd_ne px, upd_ne pd, upd_same]
  · rw [upd_ne hp]
    by_cases hx : b = x
    · subst hx; rw [upd_same, upd_same]
    · rw [upd_ne hx, upd_ne hx]
      by_cases hd : b = dx
      · subst hd; rw [upd_same, upd_same]
      · rw [upd_ne hd, upd_ne hd, upd_ne hp]
 rw [eH]
 refine ZW R1 (ds := tW ds es) ((rz.mono le).append (.cons (.tup (.inl (.inl (by show upd w.F p _ p = _; rw [upd_same]))) (rs.mono le)) .nil)) ?_ ?_ ?_ ne (pp.le le)
 · unfold tW
   rw [an9, hm, aoo, hn]
 · rw [upd_ne (Ne.symm px)]; exact nx
 · rw [upd_ne (Ne.symm pd)]; exact nd
theorem Xh {pins : List (Addr × Obj)} {σ : L2.St} {H : Hp} {s : Shared} {Q : VK} {us ws : List Value} {vs zs : List V} (F0 : FnS X.prog X.w X.K X.mg X.base T kk c f n ks F) (hr : Room (kk + 1) X.A) (tk : Takes X W)
 (I : Inv X pins σ H s) (r : Vals vs us) (rz : Vals zs ws) (l2 : zs.length = ks.length) (lb : vs.length ≤ sizeLine)
 (h : ∀ x dx, H x = none → H dx = none → dx ≠ x → ∀ p, (upd (upd H dx (.own x)) x (.ins (T.cad c) dx [])) p = none →
  spI X.K T c n F (.ref x :: (zs ++ [.ref p])) (upd (upd (upd H dx (.own x)) x (.ins (T.cad c) dx [])) p (.tup vs)) (fun v H2 => v = .non ∧ Q (.ref x) H2) (fun c d H' => W c d σ H')) :
 wpAny (model X.prog X.w) X.A (call (.ref (T.cad c)) us (ks.zip ws)) (EP X pins σ Q) X.xe s := by
 have hq := h (s.heap.objs.size + 1) s.heap.objs.size (I.hok.fresh (Nat.le_succ _)) (I.hok.fresh (Nat.le_refl _)) (Nat.ne_of_lt (Nat.lt_succ_self _))
 have I2 := Inv.made (C := T.cad c) I
 refine wpAny_call (make_map (f := f) I.kIn F0.made.makes F0.made.init (beq_iff_eq.mp F0.made.fn) (codeAny_mono (F0.run _ X.stack _ _ (Value.ref (s.heap.objs.size + 1)) us ws (V.ref (s.heap.objs.size + 1)) vs zs _ _ (hr.make (T.cad c) us (ks.zip ws))
  (I2.env0.make (T.cad c) us (ks.zip ws)) rfl r rz l2 lb hq) fun r s' hq' => ?_))
 cases r with
 | error e => exact passAt tk σ pins _ _ e s' I2 hq'
 | ok fl =>
   cases fl with
   | ret u =>
     obtain ⟨v, H', I3, rv, ev, q3⟩ := I2.after hq'
     subst ev
     exact ⟨rv, ⟨V.ref (s.heap.objs.size + 1), H', I3, rfl, q3⟩⟩
   | next => exact False.elim hq'
   | brk => exact False.elim hq'
   | cont => exact False.elim hq'
theorem adU (C : Cq X T W k) (F0 : FnS X.prog X.w X.K X.mg X.base T kk c f n ks F) (hn : n = ks.length + 2) (hk : kk + 1 ≤ k) (hm : X.mg x = some (.ref (T.cad c))) (sk : T5 X T W kws mk) (hg : Gl X x := by rfl) (hdb : (x == ("__debug__" : Str)) = false := by decide)
 (hall : (backToKw pos (keywordEach kws X.env)).all (·.1.isSome) = true := by rfl) (hks : (backToKw pos (keywordEach kws X.env)).filterMap (·.1) = ks := by rfl)
 (hpl : ((backTo pos (starEach [] X.env)).any (·.1) || (backToKw pos (keywordEach kws X.env)).any (·.1.isNone)) = false := by rfl) :
 ph X T W (.Call (.Name x p) [] kws pos) (aG 0 ks.length F tW (ak []) mk) := fun B w σ H fr h Q R pp => WE.mk <| fun pins s I => by
 refine wpAny_Call_Name_kw (ld_glob I hg hm ?_ hdb)
 refine PySem.W.callWith_KW0 (h₀ := X.base) I.ok.mod.kin F0.made.kp hall ?_ hpl
 have fin : ∀ {w2 : Wd} {H2 : Hp} {fr2 : Fr} {h2 : Hh} {zs : List V} {es : List D}, Rel X.K T B w2 σ H2 fr2 h2 → aF X.K T w2 zs es → aO X.K T B W (vE X.K T B σ) w2 σ (if ([] : List D).length = 0 ∧ es.length = ks.length then bJ fr2 (F (tW [] es) h2) else .err) Q →
  zs.length = ks.length ∧ ([] : List V).length ≤ sizeLine ∧ ∀ x dx, H2 x = none → H2 dx = none → dx ≠ x → ∀ p, (upd (upd H2 dx (.own x)) x (.ins (T.cad c) dx [])) p = none →
  spI X.K T c n F (.ref x :: (zs ++ [.ref p])) (upd (upd (upd H2 dx (.own x)) x (.ins (T.cad c) dx [])) p (.tup [])) (fun v H2 => v = .non ∧ Q (.ref x) H2) (fun c d H' => W c d σ H') := fun {w2 H2 fr2 h2 zs es} r2 rz p2 => by
  by_cases hl : es.length = ks.length
  · rw [if_pos ⟨rfl, hl⟩] at p2
    exact Qa hn r2 .nil rz (Nat.zero_le _) hl p2
  · rw [if_neg fun z => hl z.2] at p2
    exact p2.elim
 refine thn ((sk B w σ H fr h _ R (aO.bind (VR := vA X.K T B σ) pp fun es fr2 h2 w2 H2 zs e2 l2 r2 rz p2 => fin r2 rz p2)).go pos pins s I) fun ws s2 ⟨zs, H2, I2, rz, q2⟩ => ⟨I2.kIn, ?_⟩
 rw [hks]
 exact Xh (us := []) F0 (C.room.mono hk) C.takes I2 .nil rz q2.1 q2.2.1 q2.2.2
theorem adV (C : Cq X T W k) (F0 : FnS X.prog X.w X.K X.mg X.base T kk c f n ks F) (hn : n = ks.length + 2) (hk : kk + 1 ≤ k) {j : Nat} (hj : j ≤ big) (hm : X.mg x = some (.ref (T.cad c))) (sa : Mi X T W (e :: es) ma) (sk : T5 X T W kws mk) (hg : Gl X x := by rfl) (hdb : (x == ("__debug__" : Str)) = false := by decide)
 (hall : (backToKw pos (keywordEach kws X.env)).all (·.1.isSome) = true := by rfl) (hks : (backToKw pos (keywordEach kws X.env)).filterMap (·.1) = ks := by rfl)
 (he : starEach (e :: es) X.env = (false, eval e X.env) :: starEach es X.env := by exact eY rfl) (hpl : ((backTo pos (starEach (e :: es) X.env)).any (·.1) || (backToKw pos (keywordEach kws X.env)).any (·.1.isNone)) = false := by rfl) :
 ph X T W (.Call (.Name x p) (e :: es) kws pos) (aG j ks.length F tW ma mk) := fun B w σ H fr h Q R pp => WE.mk <| fun pins s I => by
 refine wpAny_Call_Name_kw (ld_glob I hg hm ?_ hdb)
 have fin : ∀ {w2 : Wd} {H2 : Hp} {fr2 : Fr} {h2 : Hh} {vs zs : List V} {ds es : List D}, Rel X.K T B w2 σ H2 fr2 h2 → aF X.K T w2 vs ds → aF X.K T w2 zs es → aO X.K T B W (vE X.K T B σ) w2 σ (if ds.length = j ∧ es.length = ks.length then bJ fr2 (F (tW ds es) h2) else .err) Q →
  zs.length = ks.length ∧ vs.length ≤ sizeLine ∧ ∀ x dx, H2 x = none → H2 dx = none → dx ≠ x → ∀ p, (upd (upd H2 dx (.own x)) x (.ins (T.cad c) dx [])) p = none →
  spI X.K T c n F (.ref x :: (zs ++ [.ref p])) (upd (upd (upd H2 dx (.own x)) x (.ins (T.cad c) dx [])) p (.tup vs)) (fun v H2 => v = .non ∧ Q (.ref x) H2) (fun c d H' => W c d σ H') := fun {w2 H2 fr2 h2 vs zs ds es} r2 rs rz p2 => by
  by_cases hl : ds.length = j ∧ es.length = ks.length
  · rw [if_pos hl] at p2
    exact Qa hn r2 rs rz (by rw [hl.1]; exact hj) hl.2 p2
  · rw [if_neg hl] at p2
    exact p2.elim
 refine PySem.W.callWith_KW (h₀ := X.base) I.ok.mod.kin F0.made.kp hall (thn ((sa B w σ H fr h _ R (aO.bind (VR := vA X.K T B σ) pp fun ds fr1 h1 w1 H1 vs e1 l1 r1 rs p1 =>
  sk B w1 σ H1 fr1 h1 _ r1 (aO.bind (VR := vA X.K T B σ) p1 fun es fr2 h2 w2 H2 zs e2 l2 r2 rz p2 => fin r2 (rs.mono l2) rz p2))).go pos pins s I) fun us s1 ⟨vs, H1, I1, r, q⟩ => ?_) hpl he
 refine thn (q.go pos pins s1 I1) fun ws s2 ⟨zs, H2, I2, rz, q2⟩ => ⟨I2.kIn, ?_⟩
 rw [hks]
 exact Xh F0 (C.room.mono hk) C.takes I2 r rz q2.1 q2.2.1 q2.2.2
end
section
open PySem.W
variable {M' : Model} {A : Around} {E : Value → Shared → Prop} {s : Shared}
theorem ag7 {f : Value} {x : Sem Value} {pos : Pos} {keywords : List (Option Str × Sem Value)} {Q : Args → Shared → Prop} (hall : keywords.all (·.1.isSome) = true)
 (h : wpAny M' A x (fun v s₁ => wpAny M' A (evalAll (keywords.map (·.2))) (fun ks s₂ => StarOf M' A E v (fun vs s₃ => Q ⟨vs, (keywords.filterMap (·.1)).zip ks⟩ s₃) s₂) E s₁) E s) :
 wpAny M' A (evalArgs f true [(true, (do let v ← x; standAt pos; pure v))] keywords) Q E s := by
 unfold evalArgs
 refine wpAny_bind (wpAny_bind (wpAny_mono h (fun v s₁ h₁ => wpAny_bind (wpAny_standAt (wpAny_pure ?_))) fun _ _ x => x))
 refine wpAny_holding ?_
 simp only [hall, if_true]
 refine wpAny_bind (wpAny_mono h₁ (fun ks s₂ h₂ => ?_) fun _ _ x => x)
 unfold StarOf at h₂
 refine wpAny_bind (wpAny_bind (wpAny_mono h₂ (fun b s₃ h₃ => ?_) fun _ _ x => x))
 obtain ⟨rfl, h₃⟩ := h₃
 simp only [Bool.false_eq_true, if_false]
 exact wpAny_holding (wpAny_mono h₃ (fun vs s₄ h₄ => wpAny_pure h₄) fun _ _ x => x)
theorem acP {f : Value} {first : List Value} {pos : Pos} {Q : Value → Shared → Prop} {P : Heap → Prop} {args : List (Bool × Sem Value)} {keywords : List (Option Str × Sem Value)} (hst : args.any (·.1) = true)
 (hk : ∀ h, P h → ∃ k, (k = Keeper.frame ∨ k = Keeper.machine ∨ k = Keeper.boundFrame) ∧ Looks M' h (keeperOf f) k)
 (h : wpAny M' A (evalArgs f true args keywords) (fun a s₁ => P s₁.heap ∧ wpAny M' A (call f (first ++ a.pos) a.kw) Q E s₁) E s) : wpAny M' A (callWith pos f first args keywords) Q E s := by
 unfold callWith
 refine wpAny_bind (wpAny_holding (wpAny_mono h (fun a s₁ h₁ => wpAny_bind (wpAny_standAt ?_)) fun _ _ x => x))
 obtain ⟨k, hk', L⟩ := hk _ h₁.1
 simp only [hst, Bool.true_or]
 refine wpAny_bind (L.here ?_)
 have tail : ∀ {t : Sem Value}, wpAny M' A t Q E s₁ → wpAny M' A (t >>= fun r => holding [r] point >>= fun _ => pure r) Q E s₁ :=
  fun ht => wpAny_bind (wpAny_mono ht (fun r s₂ hr => wpAny_bind (wpAny_holding (wpAny_point (wpAny_pure hr)))) fun _ _ x => x)
 have marked (mk : Value) : wpAny M' A (callMarked mk f (first ++ a.pos) a.kw) Q E s₁ := by unfold callMarked; exact Calls.wpAny_keep h₁.2
 rcases hk' with rfl | rfl | rfl <;> dsimp only <;> first | exact tail (marked _) | exact tail (wpAny_operating h₁.2)
end
theorem ag8 {d : D} {ds : List D} (e : d.its [] = some ds) (h : Hh) : d.its h = some ds := by
 cases d <;> first | exact e | (unfold D.its D.der at e; simp at e)
section
variable {X : Cx} {T : Tb} {W : WX} {k kk n c : Nat} {f : Addr} {ks : List Str} {F : Fn} {x : Str} {p sp_ pos apos : Pos} {e : Expr} {kws : List Keyword} {mo : M D} {mk : M (List D)}
theorem S9 (C : Cq X T W k) (F0 : FnS X.prog X.w X.K X.mg X.base T kk c f n ks F) (hn : n = ks.length + 2) (hk : kk + 1 ≤ k) (hm : X.mg x = some (.ref (T.cad c))) (so : aY X T W e mo) (sk : T5 X T W kws mk) (hg : Gl X x := by rfl) (hdb : (x == ("__debug__" : Str)) = false := by decide)
 (hall : (backToKw pos (keywordEach kws X.env)).all (·.1.isSome) = true := by rfl) (hks : (backToKw pos (keywordEach kws X.env)).filterMap (·.1) = ks := by rfl)
 (hst : starEach [.Starred e sp_] X.env = [(true, eval e X.env)] := by rfl) :
 ph X T W (.Call (.Name x p) [.Starred e sp_] kws pos) (Jq ks.length F mo mk) := fun B w σ H fr h Q R pp => WE.mk <| fun pins s I => by
 refine wpAny_Call_Name_kw (ld_glob I hg hm ?_ hdb)
 rw [hst]
 refine acP rfl (PySem.W.keeps_K F0.made.kp) (ag7 hall ?_)
 have fin : ∀ {w2 : Wd} {H2 : Hp} {fr2 : Fr} {h2 : Hh} {y : V} {zs : List V} {d : D} {es : List D}, Rel X.K T B w2 σ H2 fr2 h2 → bQ X.K T w2 y d → aF X.K T w2 zs es → aO X.K T B W (vE X.K T B σ) w2 σ (match d.its [] with
  | some ds => if ds.length ≤ big ∧ es.length = ks.length then bJ fr2 (F (tW ds es) h2) else .err
  | none => .err) Q →
  ∃ a vs, y = .ref a ∧ (SqT X.K H2 a vs ∨ SqL X.K H2 a vs) ∧ zs.length = ks.length ∧ vs.length ≤ sizeLine ∧ ∀ x dx, H2 x = none → H2 dx = none → dx ≠ x → ∀ p, (upd (upd H2 dx (.own x)) x (.ins (T.cad c) dx [])) p = none →
  spI X.K T c n F (.ref x :: (zs ++ [.ref p])) (upd (upd (upd H2 dx (.own x)) x (.ins (T.cad c) dx [])) p (.tup vs)) (fun v H2 => v = .non ∧ Q (.ref x) H2) (fun c d H' => W c d σ H') := fun {w2 H2 fr2 h2 y zs d es} r2 rd rz p2 => by
  cases ed : d.its [] with
  | none => rw [ed] at p2; exact p2.elim
  | some ds =>
    rw [ed] at p2
    dsimp only at p2
    obtain ⟨a, vs, ey, rs, sq⟩ := Cu (h := h2) r2 (.inl rd) (ag8 ed h2)
    by_cases hl : ds.length ≤ big ∧ es.length = ks.length
    · rw [if_pos hl] at p2
      exact ⟨a, vs, ey, sq.symm, Qa hn r2 rs rz hl.1 hl.2 p2⟩
    · rw [if_neg hl] at p2
      exact p2.elim
 refine thn ((so B w σ H fr h _ R (aO.bind (VR := vV X.K T B σ) pp fun d fr1 h1 w1 H1 y e1 l1 r1 rd p1 =>
  sk B w1 σ H1 fr1 h1 _ r1 (aO.bind (VR := vA X.K T B σ) p1 fun es fr2 h2 w2 H2 zs e2 l2 r2 rz p2 => fin r2 (rd.mono l2) rz p2))).go pins s I) fun v s1 ⟨y, H1, I1, ry, q⟩ => ?_
 refine thn (q.go pos pins s1 I1) fun ws s2 ⟨zs, H2, I2, rz, a, vs, ey, sq, hz, hb, q2⟩ => ?_
 subst ey
 obtain rfl : v = Value.ref a := ry
 refine StX.star_any I2 sq fun us s3 I3 rv => ⟨I3.kIn, ?_⟩
 rw [hks]
 exact Xh F0 (C.room.mono hk) C.takes I3 rv rz hz hb q2
end
end Pk
namespace Pk
open PySem PySem.Spec L2
structure aiN (X : Cx) (T : Tb) (k : Nat) (op : Operator) (mt : Nat → Option Fn) : Prop where
 ex : ∀ c F, mt c = some F → ∃ (kk : Nat) (f : Addr) (fd : FuncData) (ps : List Str), Cls X.K (T.cad c) ∧ Meth X.K (T.cad c) (PySem.dunder op.info.2) f ∧ PySem.W.selfFirst X.K (T.cad c) = true ∧ iw X.prog X.w X.K X.mg X.base T kk f fd ps F ∧ Bn X.K T fd ps 2 [] (aD []) ∧ kk ≤ k
def uN (h : Hh) (x y : D) : Option Nat := match x.ins h, y.ins h with
 | some (c, _), some (c', _) => if c = c' then some c else none
 | _, _ => none
def Gr (mt : Nat → Option Fn) (h : Hh) (x y : D) : Option Fn := match uN h x y with
 | some c => mt c
 | none => none
def Xi (mt : Nat → Option Fn) (ma mb : M D) : M D := ma.bind fun x => mb.bind fun y fr h => match Gr mt h x y with
 | some F => bJ fr (F [x, y] h)
 | none => .err
section
variable {X : Cx} {T : Tb} {W : WX} {k : Nat} {a b : Expr} {ma mb : M D} {pos : Pos} {op : Operator}
theorem Vj {pins : List (Addr × Obj)} {σ : L2.St} {Q : VK} {v : Value} {s : Shared} (h : EP X pins σ Q v s) : PySem.W.CmpBack (EP X pins σ Q) v s := by
 obtain ⟨y, H', I', r, q⟩ := id h
 cases y <;> first | (obtain rfl := (r : v = _); exact h) | (obtain ⟨t, rfl⟩ := r; exact h)
theorem Z6 {h : Hh} {x y : D} {c : Nat} (e : uN h x y = some c) : (∃ fs, x.ins h = some (c, fs)) ∧ ∃ gs, y.ins h = some (c, gs) := by
 unfold uN at e
 split at e
 · rename_i c1 fs c2 gs e1 e2
   by_cases hc : c1 = c2
   · rw [if_pos hc] at e
     cases e
     subst hc
     exact ⟨⟨fs, e1⟩, gs, e2⟩
   · rw [if_neg hc] at e
     cases e
 · cases e
theorem aiO {mt : Nat → Option Fn} (C : Cq X T W k) (Mf : aiN X T k op mt) (sa : aY X T W a ma) (sb : aY X T W b mb) : ph X T W (.BinOp a op b pos) (Xi mt ma mb) := fun B w σ H fr h Q R pp => WE.mk <| fun pins s I => by
 refine wpAny_BinOp (binT (R := fun x y H2 => ∃ (kk : Nat) (f : Addr) (fd : FuncData) (ps : List Str) (p1 p2 C dx dy : Addr) (fs gs : List (Str × V)) (G : Fn), x = .ref p1 ∧ y = .ref p2 ∧ H2 p1 = some (.ins C dx fs) ∧ H2 p2 = some (.ins C dy gs) ∧ Meth X.K C (PySem.dunder op.info.2) f ∧ PySem.W.selfFirst X.K C = true ∧
  iw X.prog X.w X.K X.mg X.base T kk f fd ps G ∧ Bn X.K T fd ps 2 [] (aD []) ∧ kk ≤ k ∧
  ∀ g gV, KBn X.K fd ps 2 [] g gV → (∀ (w : Wd) (vs zs : List V) (ds es : List D), aF X.K T w vs ds → aF X.K T w zs es → ds.length = 2 → es.length = ([] : List Str).length → aF X.K T w (gV vs zs) (aD [] ds es) ∧ (aD [] ds es).length = ps.length) →
    spF X.K T ps.length G (gV [.ref p1, .ref p2] []) H2 Q (fun c d H' => W c d σ H')) bF bF I (sa B w σ H fr h _ R (aO.bind (VR := vV X.K T B σ) pp fun d fr1 h1 w1 H1 v e1 l1 r1 rd p1 =>
  sb B w1 σ H1 fr1 h1 _ r1 (aO.bind (VR := vV X.K T B σ) p1 fun e fr2 h2 w2 H2 u e2 l2 r2 re p2 => ?_))) fun v u s2 x y H2 I2 rx ry ⟨kk, f, fd, ps, p1, p2, Cl, dx, dy, fs, gs, G, ex, ey, ea, eb, c2, c3, c4, c5, c6, q⟩ => ?_)
 · have p3 : aO X.K T B W (vE X.K T B σ) w2 σ (match Gr mt h2 d e with | some F => bJ fr2 (F [d, e] h2) | none => .err) Q := p2
   cases ef : Gr mt h2 d e with
   | none => rw [ef] at p3; exact p3.elim
   | some G =>
     rw [ef] at p3
     dsimp only at p3
     have : ∃ c, uN h2 d e = some c ∧ mt c = some G := by
      unfold Gr at ef
      split at ef
      · rename_i c ec
        exact ⟨c, ec, ef⟩
      · cases ef
     obtain ⟨c, ec, em⟩ := this
     obtain ⟨⟨fs, i1⟩, gs, i2⟩ := Z6 ec
     obtain ⟨kk, f, fd, ps, c1, c2, c3, c4, c5, c6⟩ := Mf.ex c G em
     obtain ⟨p1', dx, vs, rfl, eH, rs⟩ := CG r2 (.inl (rd.mono l2)) i1
     obtain ⟨p2', dy, us, rfl, eH2, rs2⟩ := CG r2 (.inl re) i2
     refine ⟨kk, f, fd, ps, p1', p2', T.cad c, dx, dy, _, _, G, rfl, rfl, eH, eH2, c2, c3, c4, c5, c6, fun g gV hb hgD => ?_⟩
     have p4 : aO X.K T B W (vE X.K T B σ) w2 σ (if ([d, e] : List D).length = 2 ∧ ([] : List D).length = 0 then bJ fr2 (G (aD [] [d, e] []) h2) else .err) Q := by
      rw [if_pos ⟨rfl, rfl⟩]
      exact p3
     exact (Hj (n := 2) (m := 0) (zs := []) (es := []) (ds := [d, e]) hgD r2 (.cons (rd.mono l2) (.cons re .nil)) .nil p4).2.2
 · subst ex ey
   obtain rfl : v = Value.ref p1 := rx
   obtain rfl : u = Value.ref p2 := ry
   obtain ⟨mA, J, _⟩ := ins_get I2.hok ea
   obtain ⟨mB, J', _⟩ := ins_get I2.hok eb
   obtain ⟨od, J, _⟩ := J.look
   obtain ⟨od', J', _⟩ := J'.look
   obtain ⟨m, hF⟩ := I2.fr
   refine PySem.W.binop_K hF I2.ok.mod.kin J J'.type c3 c2.at_ c2.fn (wpAny_mono (Q := EP X pins σ Q) ?_ (fun _ _ z => Vj z) fun _ _ z => z)
   obtain ⟨g, gV, hb, hgD⟩ := c5.ex
   exact Ry (us := [.ref p1, .ref p2]) (ws := []) (vs := [.ref p1, .ref p2]) c4.ok (C.room.mono c6) hb C.takes I2 (.cons rfl (.cons rfl .nil)) .nil rfl rfl (q g gV hb hgD)
end
end Pk
namespace PySem
namespace ExS
open PySem.W PySem.Calls PyProof.Rows PySem.HandSPX
abbrev asg (f : Str) (q1 q2 q3 q4 : Pos) : Stmt := .Assign [.Attribute (.Name "self" q1) f q2] (.Name f q3) q4
abbrev sup (e : Expr) (p0 p1 p2 p3 p4 : Pos) : Stmt := .Expr (.Call (.Attribute (.Call (.Name "super" p0) [] [] p1) "__init__" p2) [e] [] p3) p4
structure Rz (prog : Program) (K : Frag) (C fI : Addr) (params : Arguments) (body : List Stmt) (scope : Scope) (qual : Str) : Prop where
 cls : ∃ nm q N bs bm sn sub ab col dd k0 k1 k2 k3 k5, K.lookup C = some (excClassObj nm q C N bs bm true sn sub ab col dd k0 k1 k2 k3 k5 "ValueError.__new__") ∧ refsVE bm = true ∧ alongIn K "__init__" bm = some (some (.builtin "ValueError.__init__"))
 sa : findIn K (.ref C) "__setattr__" = some (some (.builtin "object.__setattr__"))
 iC : findIn K (.ref C) "__init__" = some (some (.ref fI))
 tC : typeIn K (.ref fI) = some (.type "function")
 subB : subIn K (.ref C) (.type "ValueError") = some true
 subC : mroIn K C (.ref C) = some true
 opq : nsIn K cStatics "thirdparty.any" = some none
 top : (prog.main.scope.names.lookup ("super" : Str)).isSome = false
 fn : ∃ (oc : Value) (od : Option Addr) (kV doc pm : Value) (an : Option Addr) (cda : Addr) (ct : Value) (osl : Array (Option Value)) (cc : Addr),
  K.lookup fI = some ⟨oc, od, .func (ksFn "__init__" qual params body scope .none kV doc pm an (.ref cda) ct cc), osl⟩ ∧ codeIn K (.ref cda) qual = true ∧
  (∃ (ccl : Value) (cdd : Option Addr) (vs : Array Value) (ccs : Array (Option Value)) (file : Str) (tf : Tok), K.lookup cda = some ⟨ccl, cdd, .fields vs, ccs⟩ ∧ vs[2]? = some (.str file tf) ∧ ((prog.main.file : Str) == file) = true) ∧
  ∃ (cl : Value) (cld : Option Addr) (csl : Array (Option Value)), K.lookup cc = some ⟨cl, cld, .cell (some (.ref C)), csl⟩
section
variable {prog : Program} {w : World} {M : Model} {A : Around} {E : Value → Shared → Prop} {s : Shared}
theorem afb {t : Sem Value} {Q : List Value → Shared → Prop} (h : wpAny M A t (fun v s => Q [v] s) E s) : wpAny M A (spliced [(false, t)]) Q E s := by
 unfold spliced
 refine wpAny_bind (wpAny_mono h (fun v s' h' => ?_) fun _ _ x => x)
 refine wpAny_bind (wpAny_pure ?_)
 refine wpAny_bind (wpAny_holding ?_)
 exact Calls.spliced_nil (wpAny_pure h')
theorem ag9 {h : Heap} {g : Array GenState} {d : Drawn} {t : Nat} {os : OsState} {nm q : Str} {C N : Addr} {bs bm : List Value} {hdct : Bool} {sn : List Str} {sub : List Value} {ab : Bool} {col : Option Bool} {dd : Option Addr} {k0 k1 k2 k3 k5 : Option Value} {u x t0 : Addr} {rest : List Value} {Q : Value → Shared → Prop}
 (hC : h.get? C = some (excClassObj nm q C N bs bm hdct sn sub ab col dd k0 k1 k2 k3 k5 "ValueError.__new__")) (he : h.get? x = some (excO C t0)) (hu : h.get? u = some (kxs_mw "ValueError.__init__" x)) (hz : rest.length ≤ sizeLine)
 (hq : ∀ h' t1, (∀ b o, b ≠ x → h.get? b = some o → h'.get? b = some o) → h'.get? x = some (excO C t1) → Q .none ⟨h', g, d, t, os⟩) :
 wpAny (model prog w) A (call (.ref u) rest) Q E ⟨h, g, d, t, os⟩ := by
 refine wpAny_call (codeAny_of_tree ?_)
 show wpAny _ A.in1 (callAny (.ref u) ⟨rest, []⟩) _ _ _
 simp only [callAny]
 refine wpAny_bind (wpAny_load hu ?_)
 simp only [kxs_mw, show (Value.type "method-wrapper" == Value.type "method" || Value.type "method-wrapper" == Value.type "builtin_function_or_method" || Value.type "method-wrapper" == Value.type "method-wrapper") = true by decide, if_true]
 refine KFB.if_so (by decide) ?_
 refine wpAny_bind (check_bound_init F.excBase_ValueError.toExcCallFacts hC he rfl ?_)
 refine wpAny_bind (wpAny_pure (wpAny_pure ?_))
 refine ⟨plainId_quiet F.excBase_ValueError.init.plain _, codeAny_builtin F.excBase_ValueError.initEntry ?_⟩
 exact exc_init_tree (cls := .ref C) (t0 := t0) (dv := none) (c2 := .none) (c3 := .none) (b4 := .bool false) he hz fun h' k e' _ => hq h' _ k e'
end
theorem aha {K : Frag} {h : Heap} {b : Addr} (X : K.In h) (hb : h.objs.size ≤ b) : K.lookup b = none := by
 cases e : K.lookup b with
 | none => rfl
 | some o => exact absurd (Heap.lt_size (X _ _ e)) (Nat.not_lt.mpr hb)
theorem Z7 {K : Frag} {h h' : Heap} {x : Addr} (X : K.In h) (hx : K.lookup x = none) (k : ∀ b o, b ≠ x → h.get? b = some o → h'.get? b = some o) : K.In h' := fun a o e =>
 k a o (fun z => by rw [z, hx] at e; cases e) (X a o e)
section
variable {prog : Program} {w : World} {A : Around} {R : Result → Shared → Prop} {s : Shared} {K : Frag} {C fI : Addr} {params : Arguments} {scope : Scope} {qual : Str} {ex : Expr} {p0 p1 p2 p3 p4 : Pos} {rest : List Stmt} {mg mb : Str → Option Value}
theorem enter (T : Rz prog K C fI params (sup ex p0 p1 p2 p3 p4 :: rest) scope qual) {x t0 : Addr} {us : List Value} {binds : List (Str × Value)} (X : K.In s.heap) (hlim : s.heap.NoLimit) (hx : s.heap.get? x = some (excO C t0)) (hnx : K.lookup x = none) (hroom : A.depth < recursionLimit)
 (hG : s.heap.Ns mainGlobals mg) (hg : mg "super" = none) (hB : s.heap.Ns builtinsNs mb) (hb : mb "super" = some (.type "super"))
 (hbind : ∀ (kV doc pm : Value) (an : Option Addr) (cdv ct : Value) (cc : Addr), bindArgs (ksFn "__init__" qual params (sup ex p0 p1 p2 p3 p4 :: rest) scope .none kV doc pm an cdv ct cc) ⟨.ref x :: us, []⟩ = pure binds)
 (hself : binds.reverse.lookup ("self" : Str) = some (.ref x)) (hloc : ∀ y ∈ binds, scope.names.lookup y.1 = some .local)
 (hcell : ∀ y ∈ scope.names, y.2 ≠ .cell) (hp : ∃ ar : Arg, (params.posonlyargs ++ params.args).head? = some ar ∧ ar.arg = "self") (hks : scope.names.lookup ("super" : Str) = some .globalImplicit) (hkc : scope.names.lookup ("__class__" : Str) = some .free) (hka : scope.names.lookup ("self" : Str) = some .local)
 (hco : scope.isCoroutine = false) (hgen : scope.isGenerator = false) (hk : scope.kind = .function)
 (hE : ∀ (cda cc : Addr) (L : Addr) (A' : Around) (h : Heap) (g : Array GenState) (d : Drawn) (t : Nat) (os : OsState) (E' : Value → Shared → Prop) (Q : Value → Shared → Prop), (∀ b o, s.heap.get? b = some o → h.get? b = some o) → h.Ns L (fun y => binds.reverse.lookup y) → (∀ v t', Q v ⟨h, g, d, t', os⟩) → wpAny (model prog w) A' (eval ex (ksEnv qual scope L fI (.ref cda) cc)) Q E' ⟨h, g, d, t, os⟩)
 (hin : ∀ (cda cc L : Addr), interactive (ksEnv qual scope L fI (.ref cda) cc) = false)
 (hev : ∀ (cda cc L : Addr), ∃ pl : Sem Bool, eval (.Call (.Attribute (.Call (.Name "super" p0) [] [] p1) "__init__" p2) [ex] [] p3) (ksEnv qual scope L fI (.ref cda) cc) = (do
  let ov ← attributeBase (.Call (.Name "super" p0) [] [] p1) "__init__" (ksEnv qual scope L fI (.ref cda) cc) (eval (.Call (.Name "super" p0) [] [] p1) (ksEnv qual scope L fI (.ref cda) cc))
  standAt p2.atName
  let (f, first) ← holding [ov] (getMethod ov "__init__" pl)
  callWith p3 f first (backTo p3 (starEach [ex] (ksEnv qual scope L fI (.ref cda) cc))) []))
 (hsw : ∀ (cda cc L : Addr), swapsWith (.Call (.Attribute (.Call (.Name "super" p0) [] [] p1) "__init__" p2) [ex] [] p3) none p4.line (ksEnv qual scope L fI (.ref cda) cc) = pure false)
 (hst : ∀ env : Env, starEach [ex] env = [(false, eval ex env)])
 (hq : ∀ (cda cc : Addr) h' tk t1, (∀ b o, b ≠ x → s.heap.get? b = some o → h'.get? b = some o) → h'.get? x = some (excO C t1) → h'.Ns s.heap.objs.size (fun y => binds.reverse.lookup y) →
  wpAny (model prog w) (A.deeper (ksEnv qual scope s.heap.objs.size fI (.ref cda) cc)) (execs rest (ksEnv qual scope s.heap.objs.size fI (.ref cda) cc)) (fun f s' => R (.ok (.ret (match f with | .ret v => v | _ => .none))) s')
   (fun _ _ => False) { s with heap := h', toks := tk }) : codeAny (model prog w) A (.call (.ref fI) ⟨.ref x :: us, []⟩) R s := by
 obtain ⟨oc, od, kV, doc, pm, an, cda, ct, osl, cc, ho, hcd, ⟨ccl, cdd, vs, ccs, file, tf, hcode, hvs, hfile⟩, cl, cld, csl, hcel⟩ := T.fn
 obtain ⟨nm, q, N, bs, bm, sn, sub, ab, col, dd, k0, k1, k2, k3, k5, hC, hbm, hal⟩ := T.cls
 obtain ⟨ar, hp, har⟩ := hp
 have hcl : clsIn K C = some { name := nm, bases := bs, mro := .ref C :: bm, ns := N, qualname := q, hasDict := true, slotNames := sn, subclasses := sub, abstract := ab, collection := col, hasDel := false } := by unfold clsIn; rw [hC] <;> rfl
 refine ks_codeAny_call_defAt (fd := ksFn "__init__" qual params (sup ex p0 p1 p2 p3 p4 :: rest) scope .none kV doc pm an (.ref cda) ct cc) (body := sup ex p0 p1 p2 p3 p4 :: rest) (binds := binds) hroom (X _ _ ho) rfl hlim (codeRec_of X hcd) rfl (BindsTo.of_eq (hbind kV doc pm an (.ref cda) ct cc)) hcell hloc (fun h₁ hns hk₁ => ?_) hco hgen hk
 obtain ⟨hp0, g, d, t, os⟩ := s
 show wpAt (model prog w) (A.deeper (ksEnv qual scope hp0.objs.size fI (.ref cda) cc)) (.func (sup ex p0 p1 p2 p3 p4 :: rest) (ksEnv qual scope hp0.objs.size fI (.ref cda) cc)) (execs (sup ex p0 p1 p2 p3 p4 :: rest) (ksEnv qual scope hp0.objs.size fI (.ref cda) cc)) _ _ _
 have X₁ : K.In h₁ := X.keeps hk₁
 have hx₁ := hk₁ _ _ hx
 have hC₁ := X₁ _ _ hC
 have hxC : x ≠ C := fun z => by
  rw [z, hC₁] at hx₁
  cases hx₁
 obtain ⟨pl, hev⟩ := hev cda cc hp0.objs.size
 refine ks_wpAt_execs_cons (ks_wpAt_Expr_any (ks_wpAt_MethodCall (pl := pl) ?_ hev) (hin _ _ _) (hsw _ _ _))
 refine ks_wpAt_super_base (fd := ksFn "__init__" qual params (sup ex p0 p1 p2 p3 p4 :: rest) scope .none kV doc pm an (.ref cda) ct cc) hks hkc (by decide) rfl (X₁ _ _ ho) rfl hp rfl (X₁ _ _ hcode) rfl hvs hfile T.top ?_
 refine ks_loadName_global hk hks (Calls.loadGlobal_builtin (hG.keeps hk₁) hg (hB.keeps hk₁) hb ⟨rfl, ?_⟩)
 refine wpAny_loadName_free hk hkc rfl ⟨_, X₁ _ _ hcel, rfl⟩ ?_
 rw [har]
 refine wpAny_loadName_local hk hka hns hself ?_
 refine ks_wpAny_isType_cls hC₁ rfl ⟨rfl, ?_⟩
 refine ks_wpAny_call_super hC₁ rfl hx₁ rfl (fun c e => by cases e) (looks_mroIn X₁ T.subC) (fun h₂ hso k₂ => ?_)
 have X₂ : K.In h₂ := X₁.keeps k₂
 have hx₂ := k₂ _ _ hx₁
 have I₂ : InstAt h₂ x (excO C t0) C none := ⟨hx₂, rfl, rfl, trivial⟩
 refine kxs_getMethod kxs_ValueError hso (looks_opaque X₂ T.opq) (l₀ := .ref C :: bm) ((looks_clsIn X₂ hcl).andThen .now) (by simp [List.dropWhile_cons]) X₂ hal (I₂.type.andThen (looks_subIn X₂ T.subB)) hxC rfl ?_
 have k₃ : ∀ b o, h₂.get? b = some o → (h₂.push (kxs_mw "ValueError.__init__" x)).get? b = some o := fun b o e => Heap.get?_push_of_some _ e
 have hu : (h₂.push (kxs_mw "ValueError.__init__" x)).get? h₂.objs.size = some (kxs_mw "ValueError.__init__" x) := Heap.get?_push_at rfl rfl
 refine kxs_callWith (i := "ValueError.__init__") (x := x) (by rw [hst]; rfl) ?_
 rw [hst]
 refine evalArgs_plain ?_
 show wpAny _ _ (spliced [(false, eval ex (ksEnv qual scope hp0.objs.size fI (.ref cda) cc))]) _ _ _
 refine afb (hE cda cc hp0.objs.size _ _ _ _ _ _ _ _ (fun b o e => k₃ _ _ (k₂ _ _ (hk₁ _ _ e))) ((hns.keeps k₂).keeps k₃) fun v t' => ⟨hu, ?_⟩)
 refine ag9 (k₃ _ _ (k₂ _ _ hC₁)) (k₃ _ _ hx₂) hu (by show 1 ≤ sizeLine; decide) fun h₄ t1 k₄ hx₄ => ?_
 have hxL : hp0.objs.size ≠ x := Nat.ne_of_gt (Heap.lt_size hx)
 refine wpAt_of_wpAny (wpAny_mono (hq cda cc h₄ _ t1 (fun b o hb e => k₄ b o hb (k₃ _ _ (k₂ _ _ (hk₁ _ _ e)))) hx₄ ?_) (fun _ _ z => z) fun _ _ z => z.elim)
 obtain ⟨o, es, ep, eo, r⟩ := (hns.keeps k₂).keeps k₃
 exact ⟨o, es, ep, k₄ _ _ hxL eo, r⟩
end
abbrev Asg : Type := Str × Pos × Pos × Pos × Pos
abbrev asgs (gs : List Asg) : List Stmt := gs.map fun g => asg g.1 g.2.1 g.2.2.1 g.2.2.2.1 g.2.2.2.2
theorem look_put {α : Type} (f g : Str) (y : α) (fs : List (Str × α)) : ((f, y) :: fs).lookup g = if g = f then some y else fs.lookup g := by
 by_cases h : g = f
 · subst h
   simp [aoi]
 · have e : (g == f) = false := by simpa using h
   rw [if_neg h]
   simp [aoi, e]
theorem T8 {α : Type} {y : Str} : ∀ {l : List (Str × α)} {v : α}, l.lookup y = some v → y ∈ l.map (·.1)
 | [], v, h => by cases h
 | (f, z) :: l, v, h => by
   rw [look_put] at h
   by_cases e : y = f
   · rw [e]; exact aod ..
   · rw [if_neg e] at h
     exact aok _ (T8 h)
theorem Z8 {α : Type} {y : Str} : ∀ (l r : List (Str × α)), (l ++ r).lookup y = match l.lookup y with | some v => some v | none => r.lookup y
 | [], r => rfl
 | (f, z) :: l, r => by
   rw [aog, look_put, look_put]
   by_cases e : y = f
   · rw [if_pos e, if_pos e]
   · rw [if_neg e, if_neg e]; exact Z8 l r
theorem look_none {α : Type} {y : Str} {l : List (Str × α)} (h : y ∉ l.map (·.1)) : l.lookup y = none := by
 cases e : l.lookup y with
 | none => rfl
 | some v => exact absurd (T8 e) h
theorem look_rev {α : Type} {y : Str} : ∀ {l : List (Str × α)}, (l.map (·.1)).Nodup → l.reverse.lookup y = l.lookup y
 | [], _ => rfl
 | (f, z) :: l, h => by
   rw [an1, aoC] at h
   have e1 : ((f, z) :: l).lookup y = if y = f then some z else l.lookup y := look_put f y z l
   have e2 : [(f, z)].lookup y = if y = f then some z else none := look_put f y z []
   rw [List.reverse_cons, Z8, look_rev h.2, e1, e2]
   by_cases e : y = f
   · subst e
     rw [look_none h.1, if_pos rfl]
   · rw [if_neg e, if_neg e]
     cases l.lookup y <;> rfl
structure StX (h0 h : Heap) (x C : Addr) (done : List (Str × Value)) : Prop where
 keep : ∀ b o, b ≠ x → h0.get? b = some o → h.get? b = some o
 big : h0.objs.size ≤ h.objs.size
 at_ : ∃ (t1 : Addr) (dv : Option Addr), h.get? x = some { cls := .ref C, dict := dv, data := .fields #[.ref t1, .none, .none, .none, .bool false, .none] } ∧
  ((done = [] ∧ dv = none) ∨ ∃ (dx : Addr) (m : Str → Option Value), dv = some dx ∧ h0.objs.size ≤ dx ∧ dx ≠ x ∧ h.Ns1 dx m ∧ ∀ y, m y = done.lookup y)
section
variable {prog : Program} {w : World} {A : Around} {E : Value → Shared → Prop} {K : Frag} {C fI L x : Addr} {scope : Scope} {qual : Str} {cda cc : Addr} {m : Str → Option Value} {h0 : Heap} {g : Array GenState} {d : Drawn} {os : OsState} {Q : Flow → Shared → Prop} {cd : ClassData}
theorem stores (X0 : K.In h0) (hnx : K.lookup x = none) (hLx : L ≠ x) (hL0 : L < h0.objs.size) (hcl : clsIn K C = some cd) (hm : refsVE cd.mro = true) (hh : cd.hasDict = true) (sa : findIn K (.ref C) "__setattr__" = some (some (.builtin "object.__setattr__"))) (hk : scope.kind = .function) (hself : m "self" = some (.ref x)) (ls : scope.names.lookup ("self" : Str) = some .local)
 (hsw : ∀ g : Asg, swapsWith (.Name g.1 g.2.2.2.1) (some (.Attribute (.Name "self" g.2.1) g.1 g.2.2.1)) g.2.2.2.2.line (ksEnv qual scope L fI (.ref cda) cc) = pure false) (hns0 : h0.Ns L m) :
 ∀ (gs : List Asg) (vs : List Value) (done : List (Str × Value)) (h : Heap) (t : Nat), (∀ g ∈ gs, (g.1 == ("__debug__" : Str)) = false ∧ scope.names.lookup g.1 = some .local ∧ findIn K (.ref C) g.1 = some none) → gs.length = vs.length → (∀ (i : Nat) (f : Str) (v : Value), (gs.map (·.1))[i]? = some f → vs[i]? = some v → m f = some v) → done.length + gs.length ≤ 500 → StX h0 h x C done →
   (∀ h' t', StX h0 h' x C (((gs.map (·.1)).zip vs).reverse ++ done) → Q .next ⟨h', g, d, t', os⟩) → wpAny (model prog w) A (execs (asgs gs) (ksEnv qual scope L fI (.ref cda) cc)) Q E ⟨h, g, d, t, os⟩
 | [], vs, done, h, t, _, hl, _, _, S, hq => by
   cases vs with
   | nil => exact wpAny_execs_nil (hq h t S)
   | cons v vs => cases hl
 | a :: gs, vs, done, h, t, hg, hl, hv, agf, S, hq => by
   cases vs with
   | nil => cases hl
   | cons v vs =>
     obtain ⟨n1, n2, n3⟩ := hg a aod
     have hva : m a.1 = some v := hv 0 a.1 v rfl rfl
     obtain ⟨t1, dv, hx, hd⟩ := S.at_
     have X : K.In h := Z7 X0 hnx S.keep
     have hns : h.Ns L m := by
      obtain ⟨o, es, ep, eo, r⟩ := hns0
      exact ⟨o, es, ep, S.keep _ _ hLx eo, r⟩
     have go : ∀ h' t', StX h0 h' x C ((a.1, v) :: done) → wpAny (model prog w) A (execs (asgs gs) (ksEnv qual scope L fI (.ref cda) cc)) Q E ⟨h', g, d, t', os⟩ := fun h' t' S' => by
      refine stores X0 hnx hLx hL0 hcl hm hh sa hk hself ls hsw hns0 gs vs ((a.1, v) :: done) h' t' (fun b hb => hg b (aok _ hb)) (Nat.succ.inj hl) (fun i f u e1 e2 => hv (i + 1) f u e1 e2) (by simp only [an4] at agf ⊢; omega) S' fun h2 t2 S2 => hq h2 t2 ?_
      have e : ((List.map (·.1) (a :: gs)).zip (v :: vs)).reverse ++ done = ((gs.map (·.1)).zip vs).reverse ++ (a.1, v) :: done := by
       simp
      rw [e]
      exact S2
     refine wpAny_execs_cons (plainObj_wpAny_Assign_Attribute ?_ (hsw a))
     refine wpAny_Name (wpAny_loadName_local hk (show (ksEnv qual scope L fI (.ref cda) cc).kindOf a.1 = some .local from n2) hns hva ?_) n1
     refine wpAny_Name (wpAny_loadName_local hk (show (ksEnv qual scope L fI (.ref cda) cc).kindOf "self" = some .local from ls) hns hself ?_) (by decide)
     rcases hd with ⟨rfl, rfl⟩ | ⟨dx, m0, rfl, dn, dne, hn1, hmm⟩
     · refine set_plain X (ox := { cls := .ref C, dict := none, data := .fields #[.ref t1, .none, .none, .none, .bool false, .none] }) (od := none) ⟨hx, rfl, rfl, trivial⟩ sa ?_
       refine exc_osa X hx hcl hm hh n3 (fun h₃ tk₃ dx k₃ dn dne hx₃ hn₃ => ?_)
       have zz : dx < h₃.objs.size := by
        obtain ⟨o, es, ep, eo, _⟩ := hn₃
        exact Heap.lt_size eo
       refine go h₃ _ ⟨fun b o hb e => k₃ b o hb (S.keep b o hb e), Nat.le_of_lt (Nat.lt_of_le_of_lt (Nat.le_trans S.big dn) zz), t1, some dx, hx₃, .inr ⟨dx, _, rfl, Nat.le_trans S.big dn, dne, hn₃, fun y => ?_⟩⟩
       · rw [look_put]
         rfl
     · obtain ⟨oD, es, ep, hoD, r⟩ := id hn1
       have hw : Within m0 (done.map (·.1)) := fun y hy => by
        rw [hmm y] at hy
        cases e : done.lookup y with
        | none => exact absurd e hy
        | some u => exact T8 e
       refine set_plain X (ox := { cls := .ref C, dict := some dx, data := .fields #[.ref t1, .none, .none, .none, .bool false, .none] }) (od := some oD) ⟨hx, rfl, rfl, hoD⟩ sa ?_
       refine OEX.osa_old X hx hn1 hw (by rw [an2]; omega) hcl hm hh n3 (fun h₃ tk₃ k₃ hn₃ => ?_)
       have zz : dx < h₃.objs.size := by
        obtain ⟨o, es, ep, eo, _⟩ := hn₃
        exact Heap.lt_size eo
       refine go h₃ _ ⟨fun b o hb e => k₃ b o (fun z => ?_) (S.keep b o hb e), Nat.le_of_lt (Nat.lt_of_le_of_lt dn zz), t1, some dx, k₃ _ _ (Ne.symm dne) hx, .inr ⟨dx, _, rfl, dn, dne, hn₃, fun y => ?_⟩⟩
       · rw [z] at e
         exact absurd (Heap.lt_size e) (Nat.not_lt.mpr dn)
       · rw [look_put, hmm y]
end
structure ExSt (K : Frag) (params : Arguments) (scope : Scope) (qual : Str) (ex : Expr) (p0 p1 p2 p3 p4 : Pos) (gs : List Asg) (Ok : L2.Hp → List L2.V → Prop) : Prop where
 bind : ∀ (kV doc pm : Value) (an : Option Addr) (cdv ct : Value) (cc x : Addr) (us : List Value), us.length = gs.length → bindArgs (ksFn "__init__" qual params (sup ex p0 p1 p2 p3 p4 :: asgs gs) scope .none kV doc pm an cdv ct cc) ⟨.ref x :: us, []⟩ = pure ((("self" : Str) :: gs.map (·.1)).zip (.ref x :: us))
 nd : (("self" : Str) :: gs.map (·.1)).Nodup
 len : gs.length ≤ 100
 loc : ∀ y ∈ ("self" : Str) :: gs.map (·.1), scope.names.lookup y = some .local
 dbg : ∀ g ∈ gs, (g.1 == ("__debug__" : Str)) = false
 cell : ∀ y ∈ scope.names, y.2 ≠ .cell
 hp : ∃ ar : Arg, (params.posonlyargs ++ params.args).head? = some ar ∧ ar.arg = "self"
 ks : scope.names.lookup ("super" : Str) = some .globalImplicit
 kc : scope.names.lookup ("__class__" : Str) = some .free
 co : scope.isCoroutine = false
 gen : scope.isGenerator = false
 k : scope.kind = .function
 hE : ∀ (H0 : L2.Hp) (vs : List L2.V) (us : List Value), Ok H0 vs → L2.Vals vs us → vs.length = gs.length → ∀ (cda cc L x fI : Addr) (prog : Program) (w : World) (A' : Around) (h0 h : Heap) (g : Array GenState) (d : Drawn) (t : Nat) (os : OsState) (E' : Value → Shared → Prop) (Q : Value → Shared → Prop), K.In h → L2.HOk prog w H0 h0 → (∀ b o, h0.get? b = some o → h.get? b = some o) →
  h.Ns L (fun y => ((("self" : Str) :: gs.map (·.1)).zip (Value.ref x :: us)).reverse.lookup y) → (∀ v t', Q v ⟨h, g, d, t', os⟩) → wpAny (model prog w) A' (eval ex (ksEnv qual scope L fI (.ref cda) cc)) Q E' ⟨h, g, d, t, os⟩
 hin : ∀ (fI cda cc L : Addr), interactive (ksEnv qual scope L fI (.ref cda) cc) = false
 hev : ∀ (fI cda cc L : Addr), ∃ pl : Sem Bool, eval (.Call (.Attribute (.Call (.Name "super" p0) [] [] p1) "__init__" p2) [ex] [] p3) (ksEnv qual scope L fI (.ref cda) cc) = (do
     let ov ← attributeBase (.Call (.Name "super" p0) [] [] p1) "__init__" (ksEnv qual scope L fI (.ref cda) cc) (eval (.Call (.Name "super" p0) [] [] p1) (ksEnv qual scope L fI (.ref cda) cc))
     standAt p2.atName
     let (f, first) ← holding [ov] (getMethod ov "__init__" pl)
     callWith p3 f first (backTo p3 (starEach [ex] (ksEnv qual scope L fI (.ref cda) cc))) [])
 hsw : ∀ (fI cda cc L : Addr), swapsWith (.Call (.Attribute (.Call (.Name "super" p0) [] [] p1) "__init__" p2) [ex] [] p3) none p4.line (ksEnv qual scope L fI (.ref cda) cc) = pure false
 hst : ∀ env : Env, starEach [ex] env = [(false, eval ex env)]
 hsw2 : ∀ (fI cda cc L : Addr) (g : Asg), swapsWith (.Name g.1 g.2.2.2.1) (some (.Attribute (.Name "self" g.2.1) g.1 g.2.2.1)) g.2.2.2.2.line (ksEnv qual scope L fI (.ref cda) cc) = pure false
theorem zip_get {α : Type} : ∀ {ps : List Str} {us : List α} {i : Nat} {f : Str} {v : α}, ps.Nodup → ps[i]? = some f → us[i]? = some v → (ps.zip us).lookup f = some v
 | [], _, i, f, v, _, e, _ => by simp at e
 | _ :: _, [], i, f, v, _, _, e => by simp at e
 | p :: ps, u :: us, 0, f, v, _, e1, e2 => by
   simp at e1 e2
   subst e1 e2
   simp [aoi]
 | p :: ps, u :: us, i + 1, f, v, nd, e1, e2 => by
   rw [aoC] at nd
   have e1' : ps[i]? = some f := by simpa using e1
   have e2' : us[i]? = some v := by simpa using e2
   rw [List.zip_cons_cons, look_put, if_neg (fun z => nd.1 (by rw [← z]; exact aop e1'))]
   exact zip_get nd.2 e1' e2'
theorem zip_keys {α : Type} {ps : List Str} {us : List α} (hl : ps.length = us.length) : (ps.zip us).map (·.1) = ps := by
 rw [List.map_fst_zip]
 omega
section
variable {prog : Program} {w : World} {A : Around} {R : Result → Shared → Prop} {s : Shared} {K : Frag} {C fI : Addr} {params : Arguments} {scope : Scope} {qual : Str} {ex : Expr} {p0 p1 p2 p3 p4 : Pos} {gs : List Asg} {Ok : L2.Hp → List L2.V → Prop} {H0 : L2.Hp} {h00 : Heap} {mg mb : Str → Option Value}
theorem afc (T : Rz prog K C fI params (sup ex p0 p1 p2 p3 p4 :: asgs gs) scope qual) (S : ExSt K params scope qual ex p0 p1 p2 p3 p4 gs Ok) (hno : ∀ g ∈ gs, findIn K (.ref C) g.1 = some none) {x t0 : Addr} {vs : List L2.V} {us : List Value} (X : K.In s.heap) (hlim : s.heap.NoLimit) (hx : s.heap.get? x = some (excO C t0)) (hnx : K.lookup x = none) (hroom : A.depth < recursionLimit)
 (hG : s.heap.Ns mainGlobals mg) (hg : mg "super" = none) (hB : s.heap.Ns builtinsNs mb) (hb : mb "super" = some (.type "super")) (hH : L2.HOk prog w H0 h00) (kp0 : ∀ b o, h00.get? b = some o → s.heap.get? b = some o) (ok : Ok H0 vs) (rv : L2.Vals vs us) (hl : vs.length = gs.length)
 (hq : ∀ h' tk, StX s.heap h' x C ((gs.map (·.1)).zip us).reverse → R (.ok (.ret .none)) { s with heap := h', toks := tk }) : codeAny (model prog w) A (.call (.ref fI) ⟨.ref x :: us, []⟩) R s := by
 have hlu : us.length = gs.length := by rw [← rv.length]; exact hl
 have keys : (((("self" : Str) :: gs.map (·.1)).zip (Value.ref x :: us)).map (·.1)) = ("self" : Str) :: gs.map (·.1) := zip_keys (by simp [hlu])
 have hrev : ∀ y, ((("self" : Str) :: gs.map (·.1)).zip (Value.ref x :: us)).reverse.lookup y = ((("self" : Str) :: gs.map (·.1)).zip (Value.ref x :: us)).lookup y := fun y => look_rev (by rw [keys]; exact S.nd)
 have hself : ((("self" : Str) :: gs.map (·.1)).zip (Value.ref x :: us)).reverse.lookup ("self" : Str) = some (.ref x) := by
  rw [hrev]
  exact zip_get S.nd (i := 0) rfl rfl
 refine enter T (mg := mg) (mb := mb) (binds := (("self" : Str) :: gs.map (·.1)).zip (.ref x :: us)) X hlim hx hnx hroom hG hg hB hb (fun kV doc pm an cdv ct cc => S.bind kV doc pm an cdv ct cc x us hlu) hself (fun y hy => S.loc y.1 (List.of_mem_zip hy).1) S.cell S.hp S.ks S.kc (S.loc _ aod) S.co S.gen S.k
  (fun cda cc L A' h g d t os E' Q hk hn hq' => S.hE H0 vs us ok rv hl cda cc L x fI prog w A' h00 h g d t os E' Q (X.keeps hk) hH (fun b o e => hk b o (kp0 b o e)) hn hq') (S.hin fI) (S.hev fI) (S.hsw fI) S.hst fun cda cc h' tk t1 k hx' hns => ?_
 obtain ⟨nm, q, N, bs, bm, sn, sub, ab, col, dd, k0, k1, k2, k3, k5, hC, hbm, hal⟩ := T.cls
 have hcl : clsIn K C = some { name := nm, bases := bs, mro := .ref C :: bm, ns := N, qualname := q, hasDict := true, slotNames := sn, subclasses := sub, abstract := ab, collection := col, hasDel := false } := by unfold clsIn; rw [hC] <;> rfl
 have X' : K.In h' := Z7 X hnx k
 have hsz : s.heap.objs.size < h'.objs.size := by
  obtain ⟨o, es, ep, eo, _⟩ := hns
  exact Heap.lt_size eo
 obtain ⟨hp0, g, d, t, os⟩ := s
 refine stores (C := C) (x := x) (L := hp0.objs.size) (h0 := h') (m := fun y => ((("self" : Str) :: gs.map (·.1)).zip (Value.ref x :: us)).reverse.lookup y) X' hnx (Nat.ne_of_gt (Heap.lt_size hx)) hsz hcl (show refsVE (.ref C :: bm) = true from hbm) rfl T.sa S.k hself (S.loc _ aod) (S.hsw2 fI cda cc _) hns gs us [] h' tk
  (fun b hb' => ⟨S.dbg b hb', S.loc b.1 (aok _ (aoD hb')), hno b hb'⟩) hlu.symm (fun i f v e1 e2 => by
   show aoi f _ = _
   rw [hrev]
   exact zip_get S.nd (i := i + 1) (by simpa using e1) (by simpa using e2)) (by have := S.len; simp only [an8]; omega) ⟨fun b o hb' e => e, Nat.le_refl _, t1, none, hx', .inl ⟨rfl, rfl⟩⟩ fun h2 t2 S2 => ?_
 rw [aob] at S2
 refine hq h2 t2 ⟨fun b o hb' e => S2.keep b o hb' (k b o hb' e), Nat.le_trans (Nat.le_of_lt hsz) S2.big, ?_⟩
 obtain ⟨t3, dv, e1, e2⟩ := S2.at_
 refine ⟨t3, dv, e1, ?_⟩
 rcases e2 with e2 | ⟨dx, m, q1, q2, q3, q4, q5⟩
 · exact .inl e2
 · exact .inr ⟨dx, m, q1, Nat.le_trans (Nat.le_of_lt hsz) q2, q3, q4, q5⟩
end
end ExS
end PySem
namespace PySem
namespace ExS
open PySem.W PySem.Calls PyProof.Rows PySem.HandSPX
structure MadeX (h h' : Heap) (e C : Addr) (fs : List (Str × Value)) : Prop where
 keep : ∀ b o, h.get? b = some o → h'.get? b = some o
 new : h.objs.size ≤ e
 at_ : ∃ (t1 : Addr) (dv : Option Addr), h'.get? e = some { cls := .ref C, dict := dv, data := .fields #[.ref t1, .none, .none, .none, .bool false, .none] } ∧
  ((fs = [] ∧ dv = none) ∨ ∃ (dx : Addr) (m : Str → Option Value), dv = some dx ∧ h.objs.size ≤ dx ∧ dx ≠ e ∧ h'.Ns1 dx m ∧ ∀ y, m y = fs.lookup y)
section
variable {prog : Program} {w : World} {A : Around} {R : Result → Shared → Prop} {s : Shared} {K : Frag} {C fI : Addr} {params : Arguments} {scope : Scope} {qual : Str} {ex : Expr} {p0 p1 p2 p3 p4 : Pos} {gs : List Asg} {Ok : L2.Hp → List L2.V → Prop} {H0 : L2.Hp} {mg mb : Str → Option Value}
theorem small {l : List Value} {n : Nat} (e : l.length = n) (h : n ≤ 100) : l.length ≤ sizeLine := by
 have : (100 : Nat) ≤ sizeLine := by decide
 omega
theorem made (T : Rz prog K C fI params (sup ex p0 p1 p2 p3 p4 :: asgs gs) scope qual) (S : ExSt K params scope qual ex p0 p1 p2 p3 p4 gs Ok) (hno : ∀ g ∈ gs, findIn K (.ref C) g.1 = some none) {vs : List L2.V} {us : List Value} (X : K.In s.heap) (hlim : s.heap.NoLimit) (hroom : A.depth + 1 < recursionLimit)
 (hG : s.heap.Ns mainGlobals mg) (hg : mg "super" = none) (hB : s.heap.Ns builtinsNs mb) (hb : mb "super" = some (.type "super")) (hH : L2.HOk prog w H0 s.heap) (ok : Ok H0 vs) (rv : L2.Vals vs us) (hl : vs.length = gs.length)
 (hq : ∀ h' tk e, MadeX s.heap h' e C ((gs.map (·.1)).zip us).reverse → R (.ok (.ret (.ref e))) { s with heap := h', toks := tk }) : codeAny (model prog w) A (.call (.ref C) ⟨us, []⟩) R s := by
 have hlu : us.length = gs.length := by rw [← rv.length]; exact hl
 obtain ⟨nm, q, N, bs, bm, sn, sub, ab, col, dd, k0, k1, k2, k3, k5, hC, hbm, hal⟩ := T.cls
 obtain ⟨hp, g, dr, tk, os⟩ := s
 have k : ∀ b o, hp.get? b = some o → ((hp.push (kdv_tup us)).push (excO C hp.objs.size)).get? b = some o := fun b o e => Heap.get?_push_of_some _ (Heap.get?_push_of_some _ e)
 have agg : ((hp.push (kdv_tup us)).push (excO C hp.objs.size)).get? (hp.objs.size + 1) = some (excO C hp.objs.size) := by heap_get
 have hnx : K.lookup (hp.objs.size + 1) = none := aha X (Nat.le_succ _)
 refine call_own F.excBase_ValueError (fun X => refsVE_contains X bm hbm) (X _ _ hC) (looks_findIn X T.iC) (fun self => bind_fn X self T.tC) (small hlu S.len) ?_
 refine afc (s := ⟨(hp.push (kdv_tup us)).push (excO C hp.objs.size), g, dr, tk, os⟩) T S hno (X.keeps k) (hlim.keeps k) agg hnx ?_ (hG.keeps k) hg (hB.keeps k) hb hH k ok rv hl fun h' tk' S' => ?_
 · show A.depth + 1 < recursionLimit
   exact hroom
 · have old : ∀ b o, hp.get? b = some o → h'.get? b = some o := fun b o e => S'.keep b o (Nat.ne_of_lt (Nat.lt_succ_of_lt (Heap.lt_size e))) (k b o e)
   refine ⟨rfl, hq h' tk' (hp.objs.size + 1) ⟨old, Nat.le_succ _, ?_⟩⟩
   obtain ⟨t1, dv, e1, e2⟩ := S'.at_
   refine ⟨t1, dv, e1, ?_⟩
   rcases e2 with ⟨e2, e3⟩ | ⟨dx, m, q1, q2, q3, q4, q5⟩
   · exact .inl ⟨e2, e3⟩
   · refine .inr ⟨dx, m, q1, ?_, q3, q4, q5⟩
     have z : hp.objs.size + 1 + 1 ≤ dx := by
      first
       | (simpa only [Heap.size_push] using q2)
       | exact q2
       | (have q := q2; rw [Heap.size_push, Heap.size_push] at q; exact q)
     exact Nat.le_trans (Nat.le_trans (Nat.le_succ _) (Nat.le_succ _)) z
end
end ExS
end PySem
namespace Pk
open PySem PySem.Spec PyProof.Rows L2
open PySem.ExS (Rz ExSt sup asgs Asg)
structure ExC (P : Program) (K : PySem.W.Frag) (T : Tb) (c : Nat) (Ok : Hp → List V → Prop) : Prop where
 tx : ∃ (fI : Addr) (params : Arguments) (scope : Scope) (qual : Str) (ex : Expr) (p0 p1 p2 p3 p4 : Pos) (gs : List Asg),
  Rz P K (T.cad c) fI params (sup ex p0 p1 p2 p3 p4 :: asgs gs) scope qual ∧ ExSt K params scope qual ex p0 p1 p2 p3 p4 gs Ok ∧ (∀ g ∈ gs, PySem.W.findIn K (.ref (T.cad c)) g.1 = some none) ∧ T.fld c = gs.map (·.1) ∧ (T.fld c).Nodup
 kC : PySem.W.keepIn K (.ref (T.cad c)) = true
 exC : PySem.W.subIn K (.ref (T.cad c)) (.type "BaseException") = some true
 tyC : PySem.W.typeIn K (.ref (T.cad c)) = some (.type "type")
section
variable {X : Cx} {T : Tb} {W : WX} {k c : Nat} {x : Str} {a : Expr} {es : List Expr} {ma : M (List D)} {p pos pos2 : Pos} {Ok : Hp → List V → Prop}
theorem Z9 {f : Str} : ∀ {ns : List Str} {vs : List V} {us : List Value}, Vals vs us → RelO ((ns.zip vs).lookup f) ((ns.zip us).lookup f)
 | [], _, _, _ => trivial
 | _ :: _, _, _, .nil => trivial
 | n :: ns, v :: vs, u :: us, .cons rv r => by
   rw [List.zip_cons_cons, List.zip_cons_cons, PySem.ExS.look_put, PySem.ExS.look_put]
   by_cases e : f = n
   · rw [if_pos e, if_pos e]
     exact rv
   · rw [if_neg e, if_neg e]
     exact Z9 r
def akP (T : Tb) (c : Nat) (Ok : Hp → List V → Prop) (ta : TA) : L2.St → Hp → XK → Prop := fun σ H Q => ta σ H fun vs H1 => Ok H1 vs ∧ vs.length = (T.fld c).length ∧
 (T.fld c = [] → Q (.ref (T.cad c)) none H1) ∧ (∀ d, H1 d = none → Q (.ref (T.cad c)) (some d) (upd H1 d (.xd ((T.fld c).zip vs))))
theorem mk_end {pins : List (Addr × Obj)} {σ : L2.St} {H1 : Hp} {Q : XK} {s1 : Shared} {vs : List V} {us : List Value} (E : ExC X.prog X.K T c Ok) (hr : Room k X.A) (I1 : Inv X pins σ H1 s1) (hsg : X.mg "super" = none) (rv : Vals vs us) (ok : Ok H1 vs) (hl : vs.length = (T.fld c).length)
 (q1 : T.fld c = [] → Q (.ref (T.cad c)) none H1) (q2 : ∀ d, H1 d = none → Q (.ref (T.cad c)) (some d) (upd H1 d (.xd ((T.fld c).zip vs)))) :
 wpAny (model X.prog X.w) X.A (call (.ref (T.cad c)) us) (MkP X pins σ Q) X.xe s1 := by
 obtain ⟨fI, params, scope, qual, ex, p0, p1, p2, p3, p4, gs, TX, S, hno, hf, nd⟩ := E.tx
 have hl' : vs.length = gs.length := by rw [hl, hf, an2]
 have hlu : us.length = gs.length := by rw [← rv.length]; exact hl'
 have hlim := I1.nolimit
 have X1 := I1.kIn
 obtain ⟨mb, hB, hmb⟩ := I1.mod.blt
 have hB' : s1.heap.Ns builtinsNs mb := hB.keeps I1.bk
 have hG' : s1.heap.Ns mainGlobals X.mg := I1.mod.glob.keeps I1.bk
 have hsu : mb "super" = some (.type "super") := (hmb "super" (by decide)).trans (by first | rfl | decide | with_unfolding_all rfl)
 have hok := I1.hok
 obtain ⟨hp, g, dr, tk, os⟩ := s1
 refine wpAny_call (PySem.ExS.made TX S hno X1 hlim (by have := hr.dp; omega) hG' hsg hB' hsu hok ok rv hl' fun h' tk' e M => ?_)
 show MkP X pins σ Q (.ref e) ⟨h', g, dr, tk', os⟩
 obtain ⟨t1, dv, he, hd⟩ := M.at_
 obtain ⟨G', g1, g2⟩ := restrict h' fun b => decide (b ≠ e)
 have gk : ∀ b, b ≠ e → G'.get? b = h'.get? b := fun b hb => g1 b (decide_eq_true hb)
 have ge : G'.get? e = none := g2 e (by simp)
 have old : ∀ b o, hp.get? b = some o → G'.get? b = some o := fun b o q => (gk b (Nat.ne_of_lt (Nat.lt_of_lt_of_le (Heap.lt_size q) M.new))).trans (M.keep b o q)
 have back : ∀ b o, G'.get? b = some o → h'.get? b = some o := fun b o q => by
  by_cases hb : b = e
  · rw [hb, ge] at q; cases q
  · exact (gk b hb).symm.trans q
 have kz : (gs.map (·.1)).zip us = [] ↔ gs = [] := by
  cases gs with
  | nil => simp
  | cons a l => cases us with
    | nil => cases hlu
    | cons u l => simp
 rcases hd with ⟨hz, rfl⟩ | ⟨dx, m, rfl, dn, dne, hns, hm⟩
 · have hg0 : gs = [] := kz.mp (by simpa using hz)
   have hf0 : T.fld c = [] := by rw [hf, hg0]; rfl
   exact ⟨e, _, _, ⟨G', g, dr, tk', os⟩, H1, _, none, rfl, I1.kept (t' := tk') old, back, ge, he, ⟨rfl, rfl⟩, rfl, rfl, I1.hok.fresh M.new, rfl, I1.bare, raises_own E.exC E.tyC, q1 hf0⟩
 · have ob : ObjOk X.prog X.w (upd H1 dx (.xd ((T.fld c).zip vs))) G' dx (.xd ((T.fld c).zip vs)) :=
    ⟨m, hns.at (fun o q => (gk dx dne).trans q), fun f => by
      rw [hm f, ← hf, PySem.ExS.look_rev (by rw [PySem.ExS.zip_keys (by rw [hf, an2, hlu])]; exact nd)]
      exact Z9 rv⟩
   have J : Inv X pins σ (upd H1 dx (.xd ((T.fld c).zip vs))) ⟨G', g, dr, tk', os⟩ := I1.laid (t' := tk') old dn ob
   exact ⟨e, _, _, ⟨G', g, dr, tk', os⟩, _, _, some dx, rfl, J, back, ge, he, ⟨rfl, rfl⟩, rfl, rfl, by rw [upd_ne (Ne.symm dne)]; exact I1.hok.fresh M.new, rfl, I1.bare, raises_own E.exC E.tyC, q2 dx (I1.hok.fresh dn)⟩
end
end Pk
namespace PySem
namespace ExS
open PySem.W PySem.Calls PyProof.Rows PySem.HandSPX
theorem clsX_ok {K : Frag} {C : Addr} (h : Pk.clsX K C = true) : ∃ nm q N bs bm sn sub ab col dd k0 k1 k2 k3 k5, K.lookup C = some (excClassObj nm q C N bs bm true sn sub ab col dd k0 k1 k2 k3 k5 "ValueError.__new__") ∧ refsVE bm = true ∧ alongIn K "__init__" bm = some (some (.builtin "ValueError.__init__")) := by
 unfold Pk.clsX at h
 split at h
 · rename_i dd cd sl ho
   split at h
   · rename_i C' bm k0 k1 k2 k3 n k5 hm hs
     obtain ⟨c1, h⟩ := He.ba h
     obtain ⟨c2, h⟩ := He.ba h
     obtain ⟨c3, h⟩ := He.ba h
     obtain ⟨c4, h⟩ := He.ba h
     obtain ⟨c5, c6⟩ := He.ba h
     obtain ⟨nm, bs, mro, ns, qn, hd, sn, sub, ab, col, del⟩ := cd
     have e1 : C' = C := beq_iff_eq.mp c1
     have e2 : n = "ValueError.__new__" := beq_iff_eq.mp c2
     have e3 : del = false := by simpa using c3
     have e4 : hd = true := c4
     have em : mro = .ref C' :: bm := hm
     subst e1 e2 e3 e4 em
     have hsl : sl = #[k0, k1, k2, k3, some (.builtin "ValueError.__new__"), k5] := by
      obtain ⟨l⟩ := sl
      have z : l = [k0, k1, k2, k3, some (.builtin "ValueError.__new__"), k5] := hs
      rw [z]
     subst hsl
     exact ⟨nm, qn, ns, bs, bm, sn, sub, ab, col, dd, k0, k1, k2, k3, k5, ho, c5, He.eqO_ok c6⟩
   · cases h
 · cases h
theorem iniX_ok {K : Frag} {C f : Addr} {file name qual : Str} {params : Arguments} {body : List Stmt} {scope : Scope} (h : Pk.iniX K C f file = true) (e : Pk.fnWa K f = some (name, qual, params, FuncBody.stmts body, scope, mainGlobals, [(("__class__" : Str), (0 : Addr))], builtinsNs)) :
 ∃ (oc : Value) (od : Option Addr) (kV doc pm : Value) (an : Option Addr) (cda : Addr) (ct : Value) (osl : Array (Option Value)) (cc : Addr),
 K.lookup f = some ⟨oc, od, .func (ksFn name qual params body scope .none kV doc pm an (.ref cda) ct cc), osl⟩ ∧ codeIn K (.ref cda) qual = true ∧
 (∃ (ccl : Value) (cdd : Option Addr) (vs : Array Value) (ccs : Array (Option Value)) (fi : Str) (tf : Tok), K.lookup cda = some ⟨ccl, cdd, .fields vs, ccs⟩ ∧ vs[2]? = some (.str fi tf) ∧ fi = file) ∧
 ∃ (cl : Value) (cld : Option Addr) (csl : Array (Option Value)), K.lookup cc = some ⟨cl, cld, .cell (some (.ref C)), csl⟩ := by
 unfold Pk.iniX at h
 unfold Pk.fnWa at e
 cases q : K.lookup f with
 | none => rw [q] at h; cases h
 | some o =>
   obtain ⟨oc, od, dt, osl⟩ := o
   rw [q] at h e
   cases dt with
   | func fd =>
     obtain ⟨n1, n2, n3, n4, n5, n6, n7, n8, n9, n10, n11, n12, n13, n14, n15⟩ := fd
     have e2 : (some (n1, n2, n3, n4, n5, n6, n7.map (fun q => (q.1, 0)), n15) : He.FnW) = some (name, qual, params, FuncBody.stmts body, scope, mainGlobals, [(("__class__" : Str), (0 : Addr))], builtinsNs) := e
     simp only [Option.some.injEq, Prod.mk.injEq] at e2
     obtain ⟨h1, h2, h3, h4, h5, h6, h7, h8⟩ := e2
     subst h1 h2 h3 h4 h5 h6 h8
     dsimp only at h
     split at h
     · rename_i nm cc cda
       obtain ⟨c1, h⟩ := He.ba h
       obtain ⟨c2, c3⟩ := He.ba h
       have en : nm = "__class__" := by
        simp only [an1, aoa, List.cons.injEq, Prod.mk.injEq, and_true] at h7
        exact h7
       subst en
       refine ⟨oc, od, n9, n10, n11, n12, cda, n14, osl, cc, rfl, c2, ?_, ?_⟩
       · split at c3
         · rename_i ccl cdd vs ccs e3
           split at c3
           · rename_i fi tf e4
             exact ⟨ccl, cdd, vs, ccs, fi, tf, e3, e4, of_decide_eq_true c3⟩
           · cases c3
         · cases c3
       · split at c1
         · rename_i cl cld a csl e3
           have ea : a = C := of_decide_eq_true c1
           subst ea
           exact ⟨cl, cld, csl, e3⟩
         · cases c1
     · cases h
   | _ => cases h
end ExS
end PySem
namespace Pk
open PySem PySem.Spec PyProof.Rows L2
open PySem.ExS (Rz ExSt sup asgs Asg)
theorem aiP {P : Program} {K : PySem.W.Frag} {T : Tb} {c : Nat} {x file : Str} {fs : List Str} {d : PD} {ex : Expr} {p0 p1 p2 p3 p4 : Pos} {gs : List Asg} {Ok : Hp → List V → Prop} {cn : Nat → Str} (own : (Fx.own x file fs).ok cn K = true) (hx : T.cad c = He.ga K x) (ha : d.adr K = He.ma K (He.ga K x) "__init__")
 (wr : fnWa K (d.adr K) = d.val) (hc : d.clo = true) (hn : d.name = "__init__") (hb : d.body = sup ex p0 p1 p2 p3 p4 :: asgs gs) (S : ExSt K d.params d.scope d.qual ex p0 p1 p2 p3 p4 gs Ok) (hfs : fs = gs.map (·.1)) (hT : T.fld c = fs) (nd : fs.Nodup) (hfile : ((P.main.file : Str) == file) = true)
 (htop : (P.main.scope.names.lookup ("super" : Str)).isSome = false) : ExC P K T c Ok := by
 obtain ⟨o1, q⟩ := He.ba (show aiG K (He.ga K x) (He.ma K (He.ga K x) "__init__") file fs = true from own)
 obtain ⟨o2, q⟩ := He.ba q
 obtain ⟨o3, q⟩ := He.ba q
 obtain ⟨o4, q⟩ := He.ba q
 obtain ⟨o5, q⟩ := He.ba q
 obtain ⟨o6, q⟩ := He.ba q
 obtain ⟨o7, q⟩ := He.ba q
 obtain ⟨o8, q⟩ := He.ba q
 obtain ⟨o9, q⟩ := He.ba q
 obtain ⟨o10, q⟩ := He.ba q
 obtain ⟨o11, q⟩ := He.ba q
 obtain ⟨o12, q⟩ := He.ba q
 have wr2 : fnWa K (He.ma K (He.ga K x) "__init__") = some (("__init__" : Str), d.qual, d.params, FuncBody.stmts (sup ex p0 p1 p2 p3 p4 :: asgs gs), d.scope, mainGlobals, [(("__class__" : Str), (0 : Addr))], builtinsNs) := by
  rw [← ha, wr]
  unfold PD.val
  rw [hc, hn, hb]
  rfl
 obtain ⟨oc, od, kV, doc, pm, an, cda, ct, osl, cc, e1, e2, ⟨ccl, cdd, vs, ccs, fi, tf, e3, e4, e5⟩, e6⟩ := PySem.ExS.iniX_ok o8 wr2
 subst e5
 rw [← hx] at o1 o2 o3 o4 o5 o6 o9 o10 o11 o12 e1 e6
 refine ⟨⟨_, d.params, d.scope, d.qual, ex, p0, p1, p2, p3, p4, gs, ⟨PySem.ExS.clsX_ok o1, He.eqO_ok o2, He.eqO_ok o3, of_decide_eq_true o4, of_decide_eq_true o5, of_decide_eq_true o6, He.eqO_ok o7, htop, ⟨oc, od, kV, doc, pm, an, cda, ct, osl, cc, e1, e2, ⟨ccl, cdd, vs, ccs, fi, tf, e3, e4, hfile⟩, e6⟩⟩, S, ?_, by rw [hT, hfs], by rw [hT]; exact nd⟩, o10, of_decide_eq_true o11, of_decide_eq_true o12⟩
 intro g hg
 have z := List.all_eq_true.mp o9 g.1 (by rw [hfs]; exact aoD hg)
 exact He.eqO_ok z
section
variable {params : Arguments} {scope : Scope} {qual : Str}
theorem aiQ {z : Str} {j : Nat} {pos : Pos} {env : Env} {prog : Program} {w : World} {A' : Around} {h : Heap} {g : Array GenState} {d : Drawn} {t : Nat} {os : OsState} {E' : Value → Shared → Prop} {Q : Value → Shared → Prop} (hq : ∀ v t', Q v ⟨h, g, d, t', os⟩) :
 wpAny (model prog w) A' (eval (.Constant (.str z) j pos) env) Q E' ⟨h, g, d, t, os⟩ := wpAny_Constant_str (hq _ _)
end
section
variable {X : Cx} {T : Tb} {W : WX} {k c n : Nat} {x : Str} {a : Expr} {es : List Expr} {ma : M (List D)} {p pos pos2 : Pos} {Ok : Hp → List V → Prop} {chk : List D → Bool}
def aln (c n : Nat) (chk : List D → Bool) (ma : M (List D)) : M Fl := ma.bind fun ds fr h => if ds.length = n ∧ chk ds = true then .exc ⟨c, ds⟩ fr h else .err
theorem adW {B : Bs} {w1 : Wd} {σ : L2.St} {H1 : Hp} {fr1 : Fr} {h1 : Hh} {D : Ends} {vs : List V} {ds : List Pk.D} (hn : (T.fld c).length = n) (hok : chk ds = true → Ok H1 vs) (r1 : Rel X.K T B w1 σ H1 fr1 h1) (rs : aF X.K T w1 vs ds)
 (p1 : dI X.K T B W w1 (if ds.length = n ∧ chk ds = true then .exc ⟨c, ds⟩ fr1 h1 else .err) D) : Ok H1 vs ∧ vs.length = (T.fld c).length ∧ (T.fld c = [] → W (.ref (T.cad c)) none σ H1) ∧ (∀ d, H1 d = none → W (.ref (T.cad c)) (some d) σ (upd H1 d (.xd ((T.fld c).zip vs)))) := by
 by_cases hl : ds.length = n ∧ chk ds = true
 · rw [if_pos hl] at p1
   have e0 : vs.length = (T.fld c).length := rs.length.trans (hl.1.trans hn.symm)
   refine ⟨hok hl.2, e0, fun hf => p1 w1 σ H1 _ _ (Wd.le_refl _) r1 ⟨rfl, .inl ⟨?_, rfl⟩⟩, fun d nd => p1 (w1.add d (.xd ((T.fld c).zip vs))) σ _ _ _ (Wd.le_add (r1.nP nd).1) (r1.laid nd) ⟨rfl, .inr ⟨d, vs, rfl, by show upd w1.F d _ d = _; rw [upd_same], rs.mono (Wd.le_add (r1.nP nd).1)⟩⟩⟩
   rw [hf] at hn
   have z : ds.length = 0 := hl.1.trans hn.symm
   exact List.length_eq_zero_iff.mp z
 · rw [if_neg hl] at p1
   exact p1.elim
theorem aj1 (E : ExC X.prog X.K T c Ok) (hr : Room k X.A) (hsg : X.mg "super" = none) (hm : X.mg x = some (.ref (T.cad c))) (hg : Gl X x := by rfl) (hdb : (x == ("__debug__" : Str)) = false := by decide) :
 PMk X (.Call (.Name x p) [] [] pos) (akP T c Ok tNil) := by
 intro pins s σ H Q I h
 refine wpAny_Call_Name_kw (ld_glob I hg hm ?_ hdb)
 obtain ⟨ok, hl, q1, q2⟩ := h
 exact PySem.W.callWith_K0 I.kIn E.kC (mk_end E hr I hsg .nil ok hl q1 q2)
theorem aaa (C : Cq X T W k) (E : ExC X.prog X.K T c Ok) (hn : (T.fld c).length = 0) (ok : ∀ H, Ok H []) (hsg : X.mg "super" = none) (hm : X.mg x = some (.ref (T.cad c))) (hg : Gl X x := by rfl) (hdb : (x == ("__debug__" : Str)) = false := by decide) :
 wO X T W (.Raise (some (.Call (.Name x p) [] [] pos)) none pos2) (fun fr h => .exc ⟨c, []⟩ fr h) := fun B w σ H fr h D R pp =>
 wV (ps_raise C.calm C.takes (aj1 E C.room hsg hm hg hdb)) (adW (Ok := Ok) (chk := fun _ => true) (vs := []) (ds := []) (n := 0) hn (fun _ => ok _) R .nil pp)
end
end Pk
namespace Pk
open PySem PySem.Spec PyProof.Rows L2
def eqX (K : PySem.W.Frag) (C : Addr) : Bool := He.eqO (PySem.W.findIn K (.ref C) "__ne__") (some (some (.builtin "object.__ne__"))) && (decide (PySem.W.mroIn K C (.type "object") = some true) && (Fy.all (fun t => PySem.W.notFirst K C (.type t)) && Fy.all fun t => decide (PySem.W.subIn K (.ref C) (.type t) = some false)))
end Pk
namespace L
open PySem PySem.Spec L2 Pk
def cn : Nat → Str
 | 0 => "Instance"
 | 1 => "History"
 | 2 => "Unlike"
 | _ => "?"
def aj2 : List D → Bool := fun _ => true
def top (i : Nat) : Stmt := PySem.Challenge.pw_countrestarts_k11_gathered.main.body.getD i (.Pass ⟨0, 0, 0, 0⟩)
abbrev tH : Stmt := top 23
abbrev N6 : List Str := ["_law_script", "_law_at", "_law_cell", "_law_large"]
abbrev FJ : List Str := ["_law_script", "_law_at"]
theorem Xj : FnScope N6 FJ (defScope tH) := ⟨rfl, rfl, rfl, by decide +kernel, rfl, by decide +kernel, by decide +kernel⟩
def FP : PD := ⟨fun K => He.ga K "_law_source", "_law_source", "_law_source", defArgs tH, defBody tH, defScope tH, [], [], false⟩
abbrev jR : Stmt := inClass (top 21) 0
abbrev Ci : List Str := ["self", "readings", "instances", "instance"]
abbrev Oj : List Str := ["self", "readings", "instances"]
theorem Ms : FnScope Ci Oj (defScope jR) := ⟨rfl, rfl, rfl, by decide +kernel, rfl, by decide +kernel, by decide +kernel⟩
def wQ : PD := ⟨fun K => He.ma K (He.ga K "History") "__init__", "__init__", "History.__init__", defArgs jR, defBody jR, defScope jR, [], [], false⟩
abbrev lB : Stmt := inClass (top 21) 11
abbrev Ez : List Str := ["self", "other", "found"]
abbrev xJ : List Str := ["self", "other"]
theorem Ol : FnScope Ez xJ (defScope lB) := ⟨rfl, rfl, rfl, by decide +kernel, rfl, by decide +kernel, by decide +kernel⟩
def xK : PD := ⟨fun K => He.ma K (He.ga K "History") "__add__", "__add__", "History.__add__", defArgs lB, defBody lB, defScope lB, [], [], false⟩
abbrev gU : Stmt := top 13
abbrev yO : List Str := ["counts", "start", "restarts", "at"]
abbrev sU : List Str := ["counts", "start", "restarts"]
theorem Hn : FnScope yO sU (defScope gU) := ⟨rfl, rfl, rfl, by decide +kernel, rfl, by decide +kernel, by decide +kernel⟩
def sV : PD := ⟨fun K => He.ga K "falls_without_restart", "falls_without_restart", "falls_without_restart", defArgs gU, defBody gU, defScope gU, [], [], false⟩
abbrev u5 : Stmt := top 8
abbrev Qc : List Str := ["value"]
abbrev Ho : List Str := ["value"]
theorem Yx : FnScope Qc Ho (defScope u5) := ⟨rfl, rfl, rfl, by decide +kernel, rfl, by decide +kernel, by decide +kernel⟩
def Hq : PD := ⟨fun K => He.ga K "is_integer", "is_integer", "is_integer", defArgs u5, defBody u5, defScope u5, [], [], false⟩
abbrev u6 : Stmt := top 11
abbrev Qe : List Str := ["values", "most", "value"]
abbrev Hr : List Str := ["values", "most"]
theorem Yy : FnScope Qe Hr (defScope u6) := ⟨rfl, rfl, rfl, by decide +kernel, rfl, by decide +kernel, by decide +kernel⟩
def Ht : PD := ⟨fun K => He.ga K "are_counts", "are_counts", "are_counts", defArgs u6, defBody u6, defScope u6, [], [], false⟩
abbrev qT : Stmt := top 9
abbrev KZ : List Str := ["values", "at", "value"]
abbrev CJ : List Str := ["values"]
theorem Vk : FnScope KZ CJ (defScope qT) := ⟨rfl, rfl, rfl, by decide +kernel, rfl, by decide +kernel, by decide +kernel⟩
def CK : PD := ⟨fun K => He.ga K "is_ascending", "is_ascending", "is_ascending", defArgs qT, defBody qT, defScope qT, [], [], false⟩
abbrev wB : Stmt := top 10
abbrev Tc : List Str := ["values", "low", "high"]
abbrev JL : List Str := ["values", "low", "high"]
theorem aab : FnScope Tc JL (defScope wB) := ⟨rfl, rfl, rfl, by decide +kernel, rfl, by decide +kernel, by decide +kernel⟩
def JM : PD := ⟨fun K => He.ga K "is_inside", "is_inside", "is_inside", defArgs wB, defBody wB, defScope wB, [], [], false⟩
abbrev wC : Stmt := top 12
abbrev Td : List Str := ["tails", "gaps", "pair", "found", "gap"]
abbrev JN : List Str := ["tails", "gaps"]
theorem aac : FnScope Td JN (defScope wC) := ⟨rfl, rfl, rfl, by decide +kernel, rfl, by decide +kernel, by decide +kernel⟩
def JQ : PD := ⟨fun K => He.ga K "are_tails", "are_tails", "are_tails", defArgs wC, defBody wC, defScope wC, [], [], false⟩
abbrev tK : Stmt := top 14
abbrev N7 : List Str := ["counts", "readings", "start", "restarts", "tails", "lost", "end", "gaps"]
abbrev FQ : List Str := ["counts", "readings", "start", "restarts", "tails", "lost"]
theorem Xk : FnScope N7 FQ (defScope tK) := ⟨rfl, rfl, rfl, by decide +kernel, rfl, by decide +kernel, by decide +kernel⟩
def FW : PD := ⟨fun K => He.ga K "first_fault", "first_fault", "first_fault", defArgs tK, defBody tK, defScope tK, [], [], false⟩
abbrev jB : Stmt := inClass (top 15) 0
abbrev Ba : List Str := ["self", "counts", "readings", "start", "restarts", "tails", "lost", "what", "gap", "many"]
abbrev qL : List Str := ["self", "counts", "readings", "start", "restarts", "tails", "lost"]
theorem K6 : FnScope Ba qL (defScope jB) := ⟨rfl, rfl, rfl, by decide +kernel, rfl, by decide +kernel, by decide +kernel⟩
def vR : PD := ⟨fun K => He.ma K (He.ga K "Instance") "__init__", "__init__", "Instance.__init__", defArgs jB, defBody jB, defScope jB, [], [("start", .int 0), ("restarts", .adr (kwA (fun K => He.ma K (He.ga K "Instance") "__init__") "restarts")), ("tails", .adr (kwA (fun K => He.ma K (He.ga K "Instance") "__init__") "tails")), ("lost", .adr (kwA (fun K => He.ma K (He.ga K "Instance") "__init__") "lost"))], false⟩
abbrev wD : Stmt := top 28
abbrev Tf : List Str := ["_law_life_here", "_law_size"]
abbrev JR : List Str := ["_law_life_here", "_law_size"]
theorem aad : FnScope Tf JR (defScope wD) := ⟨rfl, rfl, rfl, by decide +kernel, rfl, by decide +kernel, by decide +kernel⟩
def JS : PD := ⟨fun K => He.ga K "_law_made", "_law_made", "_law_made", defArgs wD, defBody wD, defScope wD, [], [], false⟩
abbrev qU : Stmt := top 29
abbrev K7 : List Str := ["_law_lives", "_law_size", "_law_found", "_law_life_here"]
abbrev CN : List Str := ["_law_lives", "_law_size"]
theorem Vl : FnScope K7 CN (defScope qU) := ⟨rfl, rfl, rfl, by decide +kernel, rfl, by decide +kernel, by decide +kernel⟩
def CP : PD := ⟨fun K => He.ga K "_law_history", "_law_history", "_law_history", defArgs qU, defBody qU, defScope qU, [], [], false⟩
abbrev wF : Stmt := top 24
abbrev Th : List Str := ["_law_source_here", "_law_many", "_law_digit", "_law_mixed"]
abbrev JT : List Str := ["_law_source_here", "_law_many"]
theorem aae : FnScope Th JT (defScope wF) := ⟨rfl, rfl, rfl, by decide +kernel, rfl, by decide +kernel, by decide +kernel⟩
def JV : PD := ⟨fun K => He.ga K "_law_draw", "_law_draw", "_law_draw", defArgs wF, defBody wF, defScope wF, [], [], false⟩
abbrev yu : Stmt := top 17
abbrev Vm : List Str := ["counts", "found", "at", "count", "other"]
abbrev Mu : List Str := ["counts"]
theorem abj : FnScope Vm Mu (defScope yu) := ⟨rfl, rfl, rfl, by decide +kernel, rfl, by decide +kernel, by decide +kernel⟩
def Mv : PD := ⟨fun K => He.ga K "order_of", "order_of", "order_of", defArgs yu, defBody yu, defScope yu, [], [], false⟩
abbrev CQ : Stmt := top 18
abbrev aaf : List Str := ["instance"]
abbrev T9 : List Str := ["instance"]
theorem adY : FnScope aaf T9 (defScope CQ) := ⟨rfl, rfl, rfl, by decide +kernel, rfl, by decide +kernel, by decide +kernel⟩
def Ua : PD := ⟨fun K => He.ga K "way_of", "way_of", "way_of", defArgs CQ, defBody CQ, defScope CQ, [], [], false⟩
abbrev qW : Stmt := top 19
abbrev K8 : List Str := ["instances", "found", "instance", "gap", "many"]
abbrev CT : List Str := ["instances"]
theorem Vn : FnScope K8 CT (defScope qW) := ⟨rfl, rfl, rfl, by decide +kernel, rfl, by decide +kernel, by decide +kernel⟩
def CV : PD := ⟨fun K => He.ga K "summed_tails", "summed_tails", "summed_tails", defArgs qW, defBody qW, defScope qW, [], [], false⟩
abbrev CW : Stmt := top 20
abbrev aag : List Str := ["instances", "first", "counts", "at", "instance"]
abbrev Ub : List Str := ["instances"]
theorem adZ : FnScope aag Ub (defScope CW) := ⟨rfl, rfl, rfl, by decide +kernel, rfl, by decide +kernel, by decide +kernel⟩
def Uc : PD := ⟨fun K => He.ga K "joined", "joined", "joined", defArgs CW, defBody CW, defScope CW, [], [], false⟩
abbrev jT : Stmt := inClass (top 21) 10
abbrev Cj : List Str := ["self", "ways", "groups", "instance", "way", "found", "group"]
abbrev wR : List Str := ["self"]
theorem Mw : FnScope Cj wR (defScope jT) := ⟨rfl, rfl, rfl, by decide +kernel, rfl, by decide +kernel, by decide +kernel⟩
def wU : PD := ⟨fun K => He.ma K (He.ga K "History") "gathered", "gathered", "History.gathered", defArgs jT, defBody jT, defScope jT, [], [], false⟩
abbrev lC : Stmt := inClass (top 21) 1
abbrev EY : List Str := ["self"]
abbrev xM : List Str := ["self"]
theorem Om : FnScope EY xM (defScope lC) := ⟨rfl, rfl, rfl, by decide +kernel, rfl, by decide +kernel, by decide +kernel⟩
def xN : PD := ⟨fun K => He.ma K (He.ga K "History") "__len__", "__len__", "History.__len__", defArgs lC, defBody lC, defScope lC, [], [], false⟩
abbrev lD : Stmt := inClass (top 15) 8
abbrev Fb : List Str := ["self", "other", "same"]
abbrev xO : List Str := ["self", "other"]
theorem Oo : FnScope Fb xO (defScope lD) := ⟨rfl, rfl, rfl, by decide +kernel, rfl, by decide +kernel, by decide +kernel⟩
def xP : PD := ⟨fun K => He.ma K (He.ga K "Instance") "__eq__", "__eq__", "Instance.__eq__", defArgs lD, defBody lD, defScope lD, [], [], false⟩
abbrev oE : Stmt := inClass (top 21) 4
abbrev Hu : List Str := ["self", "at"]
abbrev z7 : List Str := ["self", "at"]
theorem R6 : FnScope Hu z7 (defScope oE) := ⟨rfl, rfl, rfl, by decide +kernel, rfl, by decide +kernel, by decide +kernel⟩
def z8 : PD := ⟨fun K => He.ma K (He.ga K "History") "place", "place", "History.place", defArgs oE, defBody oE, defScope oE, [], [], false⟩
abbrev iz : Stmt := inClass (top 21) 5
abbrev yZ : List Str := ["self", "at"]
abbrev uI : List Str := ["self", "at"]
theorem Jb : FnScope yZ uI (defScope iz) := ⟨rfl, rfl, rfl, by decide +kernel, rfl, by decide +kernel, by decide +kernel⟩
def uJ : PD := ⟨fun K => He.ma K (He.ga K "History") "__getitem__", "__getitem__", "History.__getitem__", defArgs iz, defBody iz, defScope iz, [], [], false⟩
abbrev pU : Stmt := top 35
abbrev Jr : List Str := ["_law_history_here", "_law_lives", "_law_size", "_law_at"]
abbrev Bb : List Str := ["_law_history_here", "_law_lives", "_law_size"]
theorem Ud : FnScope Jr Bb (defScope pU) := ⟨rfl, rfl, rfl, by decide +kernel, rfl, by decide +kernel, by decide +kernel⟩
def Bc : PD := ⟨fun K => He.ga K "_law_as_lives", "_law_as_lives", "_law_as_lives", defArgs pU, defBody pU, defScope pU, [], [], false⟩
abbrev nA : Stmt := inClass (top 21) 14
abbrev Gk : List Str := ["self", "other"]
abbrev yQ : List Str := ["self", "other"]
theorem Qg : FnScope Gk yQ (defScope nA) := ⟨rfl, rfl, rfl, by decide +kernel, rfl, by decide +kernel, by decide +kernel⟩
def yR : PD := ⟨fun K => He.ma K (He.ga K "History") "__eq__", "__eq__", "History.__eq__", defArgs nA, defBody nA, defScope nA, [], [], false⟩
abbrev pW : Stmt := inClass (top 15) 1
abbrev Jt : List Str := ["self"]
abbrev Be : List Str := ["self"]
theorem Ue : FnScope Jt Be (defScope pW) := ⟨rfl, rfl, rfl, by decide +kernel, rfl, by decide +kernel, by decide +kernel⟩
def Bf : PD := ⟨fun K => pgA K (He.ga K "Instance") "end", "end", "Instance.end", defArgs pW, defBody pW, defScope pW, [], [], false⟩
abbrev iZ : Stmt := inClass (top 15) 2
abbrev Af : List Str := ["self", "gap", "before", "lives", "count", "where", "many"]
abbrev u9 : List Str := ["self", "gap"]
theorem JW : FnScope Af u9 (defScope iZ) := ⟨rfl, rfl, rfl, by decide +kernel, rfl, by decide +kernel, by decide +kernel⟩
def vf : PD := ⟨fun K => He.ma K (He.ga K "Instance") "events_in", "events_in", "Instance.events_in", defArgs iZ, defBody iZ, defScope iZ, [], [], false⟩
abbrev lE : Stmt := inClass (top 15) 3
abbrev Fd : List Str := ["self", "gap"]
abbrev xQ : List Str := ["self"]
theorem Ot : FnScope Fd xQ (defScope lE) := ⟨rfl, rfl, rfl, by decide +kernel, rfl, by decide +kernel, by decide +kernel⟩
def xR : PD := ⟨fun K => pgA K (He.ga K "Instance") "events", "events", "Instance.events", defArgs lE, defBody lE, defScope lE, [], [], false⟩
abbrev nH : Stmt := inClass (top 21) 7
abbrev Gm : List Str := ["self", "rows", "instance", "gap", "row"]
abbrev yS : List Str := ["self"]
theorem Qh : FnScope Gm yS (defScope nH) := ⟨rfl, rfl, rfl, by decide +kernel, rfl, by decide +kernel, by decide +kernel⟩
def yU : PD := ⟨fun K => pgA K (He.ga K "History") "events", "events", "History.events", defArgs nH, defBody nH, defScope nH, [], [], false⟩
abbrev Ag : Stmt := top 25
abbrev Yg : List Str := ["_law_source_here", "_law_some"]
abbrev Qi : List Str := ["_law_source_here", "_law_some"]
theorem acQ : FnScope Yg Qi (defScope Ag) := ⟨rfl, rfl, rfl, by decide +kernel, rfl, by decide +kernel, by decide +kernel⟩
def Ql : PD := ⟨fun K => He.ga K "_law_of", "_law_of", "_law_of", defArgs Ag, defBody Ag, defScope Ag, [], [], false⟩
abbrev tL : Stmt := top 26
abbrev N8 : List Str := ["_law_source_here"]
abbrev FZ : List Str := ["_law_source_here"]
theorem Xl : FnScope N8 FZ (defScope tL) := ⟨rfl, rfl, rfl, by decide +kernel, rfl, by decide +kernel, by decide +kernel⟩
def Ge : PD := ⟨fun K => He.ga K "_law_number", "_law_number", "_law_number", defArgs tL, defBody tL, defScope tL, [], [], false⟩
abbrev wG : Stmt := top 27
abbrev Tj : List Str := ["_law_source_here", "_law_size", "_law_born", "_law_many", "_law_cuts", "_law_ends", "_law_gone", "_law_counts", "_law_at", "_law_gaps", "_law_gap"]
abbrev JX : List Str := ["_law_source_here", "_law_size"]
theorem aah : FnScope Tj JX (defScope wG) := ⟨rfl, rfl, rfl, by decide +kernel, rfl, by decide +kernel, by decide +kernel⟩
def JZ : PD := ⟨fun K => He.ga K "_law_life", "_law_life", "_law_life", defArgs wG, defBody wG, defScope wG, [], [], false⟩
abbrev vg : Stmt := top 30
abbrev Qm : List Str := ["_law_life_here", "_law_by", "_law_born", "_law_counts", "_law_cuts", "_law_ends", "_law_gone", "_law_count", "_law_gap", "_law_many"]
abbrev Hv : List Str := ["_law_life_here", "_law_by"]
theorem Yz : FnScope Qm Hv (defScope vg) := ⟨rfl, rfl, rfl, by decide +kernel, rfl, by decide +kernel, by decide +kernel⟩
def Hz : PD := ⟨fun K => He.ga K "_law_times", "_law_times", "_law_times", defArgs vg, defBody vg, defScope vg, [], [], false⟩
abbrev vh : Stmt := top 31
abbrev Qn : List Str := ["_law_source_here", "_law_life_here", "_law_born", "_law_counts", "_law_cuts", "_law_ends", "_law_gone", "_law_road"]
abbrev HD : List Str := ["_law_source_here", "_law_life_here"]
theorem YB : FnScope Qn HD (defScope vh) := ⟨rfl, rfl, rfl, by decide +kernel, rfl, by decide +kernel, by decide +kernel⟩
def HF : PD := ⟨fun K => He.ga K "_law_moved", "_law_moved", "_law_moved", defArgs vh, defBody vh, defScope vh, [], [], false⟩
abbrev yw : Stmt := top 32
abbrev Vo : List Str := ["_law_life_here", "_law_born", "_law_counts", "_law_cuts", "_law_ends", "_law_gone", "_law_order", "_law_one", "_law_other"]
abbrev Mx : List Str := ["_law_life_here"]
theorem abk : FnScope Vo Mx (defScope yw) := ⟨rfl, rfl, rfl, by decide +kernel, rfl, by decide +kernel, by decide +kernel⟩
def Mz : PD := ⟨fun K => He.ga K "_law_way", "_law_way", "_law_way", defArgs yw, defBody yw, defScope yw, [], [], false⟩
abbrev vm : Stmt := top 33
abbrev Qo : List Str := ["_law_lives", "_law_size", "_law_born", "_law_counts", "_law_cuts", "_law_ends", "_law_gone", "_law_sums", "_law_pairs", "_law_gap", "_law_many", "_law_life_here", "_law_at", "_law_place", "_law_number_here"]
abbrev HJ : List Str := ["_law_lives", "_law_size"]
theorem YC : FnScope Qo HJ (defScope vm) := ⟨rfl, rfl, rfl, by decide +kernel, rfl, by decide +kernel, by decide +kernel⟩
def HQ : PD := ⟨fun K => He.ga K "_law_added", "_law_added", "_law_added", defArgs vm, defBody vm, defScope vm, [], [], false⟩
abbrev yz : Stmt := top 34
abbrev Vp : List Str := ["_law_lives", "_law_size", "_law_ways", "_law_life_here", "_law_found", "_law_way_here"]
abbrev MF : List Str := ["_law_lives", "_law_size"]
theorem abl : FnScope Vp MF (defScope yz) := ⟨rfl, rfl, rfl, by decide +kernel, rfl, by decide +kernel, by decide +kernel⟩
def MJ : PD := ⟨fun K => He.ga K "_law_due", "_law_due", "_law_due", defArgs yz, defBody yz, defScope yz, [], [], false⟩
abbrev RB : Stmt := top 36
abbrev agD : List Str := ["_law_script", "_law_at", "_law_source_here", "_law_size", "_law_lives", "_law_turn", "_law_road", "_law_history_here", "_law_found"]
abbrev aj3 : List Str := ["_law_script"]
theorem aiR : FnScope agD aj3 (defScope RB) := ⟨rfl, rfl, rfl, by decide +kernel, rfl, by decide +kernel, by decide +kernel⟩
def agE : PD := ⟨fun K => He.ga K "law", "law", "law", defArgs RB, defBody RB, defScope RB, [], [], false⟩
abbrev pB : Stmt := inClass (top 4) 0
def xT : PD := ⟨fun K => He.ma K (He.ga K "Unlike") "__init__", "__init__", "Unlike.__init__", defArgs pB, defBody pB, defScope pB, [], [], true⟩
abbrev Yh : List PySem.ExS.Asg := []
def Yi (K : PySem.W.Frag) (H : Hp) (vs : List V) : Prop := True
theorem ad0 {K : PySem.W.Frag} : PySem.ExS.ExSt K (defArgs pB) (defScope pB) "Unlike.__init__" (.Constant (.str "the windows have different numbers of moments") 0 ⟨15, 25, 15, 72⟩) ⟨15, 8, 15, 13⟩ ⟨15, 8, 15, 15⟩ ⟨15, 8, 15, 24⟩ ⟨15, 8, 15, 73⟩ ⟨15, 8, 15, 73⟩ Yh (Yi K) where
 bind := fun _ _ _ _ _ _ _ _ us hl => match us, hl with | [], _ => (by kernel_rfl)
 nd := by decide +kernel
 len := by decide
 loc := by decide +kernel
 dbg := by decide +kernel
 cell := by decide +kernel
 hp := ⟨_, rfl, rfl⟩
 ks := rfl
 kc := rfl
 co := rfl
 gen := rfl
 k := rfl
 hE := fun _ _ _ _ _ _ _ _ _ _ _ _ _ _ _ _ _ _ _ _ _ _ _ _ _ _ hq => aiQ hq
 hin := fun _ _ _ _ => rfl
 hev := fun _ _ _ _ => ⟨_, rfl⟩
 hsw := fun _ _ _ _ => rfl
 hst := fun _ => rfl
 hsw2 := fun _ _ _ _ _ => rfl
theorem ad1 : (xT).body = PySem.ExS.sup (.Constant (.str "the windows have different numbers of moments") 0 ⟨15, 25, 15, 72⟩) ⟨15, 8, 15, 13⟩ ⟨15, 8, 15, 15⟩ ⟨15, 8, 15, 24⟩ ⟨15, 8, 15, 73⟩ ⟨15, 8, 15, 73⟩ :: PySem.ExS.asgs Yh := rfl
def fa : List Fx := [.tup (kwA (fun K => He.ma K (He.ga K "Instance") "__init__") "restarts") [],
 .tup (kwA (fun K => He.ma K (He.ga K "Instance") "__init__") "tails") [],
 .tup (kwA (fun K => He.ma K (He.ga K "Instance") "__init__") "lost") [],
 .he (.free "len"),
 .he (.free "abs"),
 .he (.free "int"),
 .he (.free "super"),
 .he (.glo "Unlike"),
 .he (.free "tuple"),
 .he (.glo "History"),
 .he (.free "range"),
 .he (.free "isinstance"),
 .he (.free "bool"),
 .he (.free "list"),
 .he (.glo "is_integer"),
 .he (.free "enumerate"),
 .he (.glo "is_ascending"),
 .he (.glo "are_counts"),
 .he (.glo "is_inside"),
 .he (.glo "falls_without_restart"),
 .he (.glo "are_tails"),
 .he (.glo "first_fault"),
 .he (.glo "Instance"),
 .he (.glo "_law_made"),
 .he (.glo "order_of"),
 .he (.free "sorted"),
 .he (.free "sum"),
 .he (.glo "summed_tails"),
 .he (.glo "way_of"),
 .he (.glo "joined"),
 .he (.glo "_law_draw"),
 .he (.glo "_law_of"),
 .he (.glo "_law_number"),
 .he (.glo "_law_way"),
 .he (.glo "_law_added"),
 .he (.free "min"),
 .he (.free "max"),
 .he (.glo "_law_source"),
 .he (.glo "_law_life"),
 .he (.glo "_law_times"),
 .he (.glo "_law_moved"),
 .he (.glo "_law_history"),
 .he (.glo "_law_due"),
 .he (.glo "_law_as_lives"),
 .he (.cls "Instance"),
 .he (.noat "Instance" "readings"),
 .he (.cls "History"),
 .he (.noat "History" "readings"),
 .he (.noat "History" "instances"),
 .he (.noat "Instance" "start"),
 .he (.noat "Instance" "counts"),
 .he (.noat "Instance" "restarts"),
 .he (.noat "Instance" "tails"),
 .he (.noat "Instance" "lost"),
 .prop "Instance" "end",
 .prop "Instance" "events",
 .prop "History" "events",
 .he (.meth "History" "place"),
 .he (.meth "History" "__len__"),
 .he (.meth "Instance" "__eq__"),
 .he (.meth "History" "__getitem__"),
 .he (.meth "Instance" "events_in"),
 .he (.meth "History" "gathered"),
 .he (.meth "History" "__eq__"),
 .he (.meth "History" "__add__"),
 .slf "History",
 .own "Unlike" (PySem.Str.ofString "/claim/cut.py") [],
 .raw (fun K => eqX K (He.ga K "Instance")),
 .raw (fun K => eqX K (He.ga K "History")),
 .he (.mkr "History"),
 .he (.mkr "Instance"),
 .ins "Instance",
 .ins "History",
 .kit (.b "NoneType") (.o 0) false,
 .kit (.b "bool") (.o 0) false,
 .kit (.b "int") (.o 0) false,
 .kit (.b "str") (.o 0) false,
 .kit (.b "tuple") (.o 0) false,
 .kit (.b "list") (.o 0) false,
 .kit (.b "NoneType") (.o 1) false,
 .kit (.b "bool") (.o 1) false,
 .kit (.b "int") (.o 1) false,
 .kit (.b "str") (.o 1) false,
 .kit (.b "tuple") (.o 1) false,
 .kit (.b "list") (.o 1) false,
 .kit (.o 0) (.b "bool") false,
 .kit (.o 0) (.b "int") false,
 .kit (.o 0) (.b "str") false,
 .kit (.o 0) (.b "tuple") false,
 .kit (.o 0) (.b "list") false,
 .kit (.o 0) (.o 0) true,
 .kit (.o 0) (.o 1) false,
 .kit (.o 1) (.b "bool") false,
 .kit (.o 1) (.b "int") false,
 .kit (.o 1) (.b "str") false,
 .kit (.o 1) (.b "tuple") false,
 .kit (.o 1) (.b "list") false,
 .kit (.o 1) (.o 0) false,
 .kit (.o 1) (.o 1) true,
 .he (.glo "law")]
def fn : List PD := [xT, FP, wQ, xK, sV, Hq, Ht, CK, JM, JQ, FW, vR, JS, CP, JV, Mv, Ua, CV, Uc, wU, xN, xP, z8, uJ, Bc, yR, Bf, vf, xR, yU, Ql, Ge, JZ, Hz, HF, Mz, HQ, MJ, agE]
class PF (P : Program) : Prop where
 f : ((P.main.file : Str) == (PySem.Str.ofString "/claim/cut.py")) = true
 t : (P.main.scope.names.lookup ("super" : Str)).isSome = false
abbrev aW (K : PySem.W.Frag) : Prop := Jp cn fa fn K
section
open PySem PySem.Spec PyProof.Rows L2
abbrev Rw : PySem.W.OpenRow := PySem.W.OpenLaw.row PySem.Challenge.rw_countrestarts_k11_gathered
abbrev hk : PySem.W.Hook := Pk.hookP 7 cn fa fn
def ob (s : PySem.W.SharedT) : Pk.AlP := Pk.obsPG 7 cn fa fn (HandSHeadRun.getT s)
theorem ob_eq (s : PySem.W.SharedT) : ob s = hk.obs s.abs := Pk.obsPG_eq (HandSHeadRun.getT_eq s)
def names : List PySem.Str := "_wall" :: "CountError" :: "BadInstance" :: "Unlike" :: "BadFactor" :: "NoInstance" :: "is_integer" :: "is_ascending" :: "is_inside" :: "are_counts" :: "are_tails" :: "falls_without_restart" :: "first_fault" :: "Instance" :: "order_of" :: "way_of" :: "summed_tails" :: "joined" :: "History" :: "_law_source" :: "_law_draw" :: "_law_of" :: "_law_number" :: "_law_life" :: "_law_made" :: "_law_history" :: "_law_times" :: "_law_moved" :: "_law_way" :: "_law_added" :: "_law_due" :: "_law_as_lives" :: []
theorem akQ {α β γ δ : Type} {o : Option α} {f : α → β} {g : α → γ} {k : α → δ} {a : β} {b : γ} {c : δ} (h1 : o.map f = some a) (h2 : o.map g = some b) (h3 : o.map k = some c) : o.map (fun s => (f s, g s, k s)) = some (a, b, c) := by
 cases o with
 | none => cases h1
 | some s =>
   cases h1
   cases h2
   cases h3
   rfl
abbrev vw : Program := PySem.W.view Rw.prog [36]
noncomputable abbrev ends (w : World) (os : PySem.OsState) : Option PySem.W.SharedT := HandSHeadRun.endF (HandSHeadRun.stepQ (HandSHeadRun.denQ HandSHeadRun.tabQ) Rw.prog w) 20000 Rw.prog w os
open PySem.W PySem.Calls HandSHeadRun in
set_option maxHeartbeats 0 in
theorem aj4 (w : World) (os : PySem.OsState) : (ends w os).map (fun s => looksF Rw.prog (boot_heap w.params) s.abs) = some true := by
 kernel_rfl
open PySem.W PySem.Calls HandSHeadRun in
set_option maxHeartbeats 0 in
theorem aj5 (w : World) (os : PySem.OsState) : (ends w os).map (fun s => seenQ vw names (importedModules Rw.prog.main.body) (fun s => xlAt vw [] s && recOk Rw.toRowW.records s) s.abs) = some (openGood vw names) := by
 kernel_rfl
abbrev fr0 (s : PySem.W.SharedT) : PySem.W.Frag := He.frG (HandSHeadRun.getT s) (Pk.asP (HandSHeadRun.getT s) 7)
abbrev nh : Nat := fn.length / 2
set_option maxHeartbeats 0 in
theorem aiS (w : World) (os : PySem.OsState) : (ends w os).map (fun s => fa.all fun f => f.ok cn (fr0 s)) = some true := by
 kernel_rfl
set_option maxHeartbeats 0 in
theorem aiT (w : World) (os : PySem.OsState) : (ends w os).map (fun s => (fn.take nh).all fun d => d.ok (fr0 s)) = some true := by
 kernel_rfl
set_option maxHeartbeats 0 in
theorem aiU (w : World) (os : PySem.OsState) : (ends w os).map (fun s => (fn.drop nh).all fun d => d.ok (fr0 s)) = some true := by
 kernel_rfl
theorem all2 {α : Type} {l : List α} {p : α → Bool} {m : Nat} (h1 : (l.take m).all p = true) (h2 : (l.drop m).all p = true) : l.all p = true := by
 rw [← List.take_append_drop m l, List.all_append, h1, h2]
 rfl
theorem akR {α : Type} {o : Option α} {f g k b : α → Bool} (h1 : o.map f = some true) (h2 : o.map g = some true) (h3 : o.map k = some true) (h : ∀ s, f s = true → g s = true → k s = true → b s = true) : o.map b = some true := by
 cases o with
 | none => cases h1
 | some s => exact congrArg some (h s (Option.some.inj h1) (Option.some.inj h2) (Option.some.inj h3))
theorem aj6 (w : World) (os : PySem.OsState) : (ends w os).map (fun s => (ob s).1) = some true :=
 akR (aiS w os) (aiT w os) (aiU w os) fun s h1 h2 h3 => (show ((fa.all fun f => f.ok cn (fr0 s)) && fn.all fun d => d.ok (fr0 s)) = true by rw [h1, all2 h2 h3]; rfl)
abbrev nq : Nat := fn.length / 3
set_option maxHeartbeats 0 in
theorem aiV (w : World) (os : PySem.OsState) : (ends w os).map (fun s => (ob s).2.take nq) = some ((fn.map Pk.PD.val).take nq) := by
 kernel_rfl
set_option maxHeartbeats 0 in
theorem aiW (w : World) (os : PySem.OsState) : (ends w os).map (fun s => ((ob s).2.drop nq).take nq) = some (((fn.map Pk.PD.val).drop nq).take nq) := by
 kernel_rfl
set_option maxHeartbeats 0 in
theorem aiX (w : World) (os : PySem.OsState) : (ends w os).map (fun s => ((ob s).2.drop nq).drop nq) = some (((fn.map Pk.PD.val).drop nq).drop nq) := by
 kernel_rfl
theorem aiY {α : Type} {l x : List α} {m : Nat} (h1 : l.take m = x.take m) (h2 : l.drop m = x.drop m) : l = x := by
 rw [← List.take_append_drop m l, h1, h2, List.take_append_drop]
theorem akS {α β : Type} {o : Option α} {f : α → List β} {x : List β} {m : Nat} (h1 : o.map (fun s => (f s).take m) = some (x.take m)) (h2 : o.map (fun s => ((f s).drop m).take m) = some ((x.drop m).take m)) (h3 : o.map (fun s => ((f s).drop m).drop m) = some ((x.drop m).drop m)) : o.map f = some x := by
 cases o with
 | none => cases h1
 | some s => exact congrArg some (aiY (Option.some.inj h1) (aiY (Option.some.inj h2) (Option.some.inj h3)))
theorem aj7 (w : World) (os : PySem.OsState) : (ends w os).map (fun s => (ob s).2) = some (fn.map Pk.PD.val) := akS (aiV w os) (aiW w os) (aiX w os)
theorem akT {α β γ : Type} {o : Option α} {f : α → β × γ} {a : β} {b : γ} (h1 : o.map (fun s => (f s).1) = some a) (h2 : o.map (fun s => (f s).2) = some b) : o.map f = some (a, b) := by
 cases o with
 | none => cases h1
 | some s =>
   have e1 := Option.some.inj h1
   have e2 := Option.some.inj h2
   exact congrArg some (Prod.ext e1 e2)
theorem run (w : World) : HandSHeadRun.RunEq Rw vw hk ob 20000 names w := fun os => akQ (aj4 w os) (aj5 w os) (akT (aj6 w os) (aj7 w os))
end
end L
namespace Pk
open PySem PySem.Spec L2
def aai {α β : Type} (P : Wd → L2.St → Prop) (run : L2.St → Hp → (β → Hp → Prop) → Prop) (K : PySem.W.Frag) (T : Tb) (W : WX) (VR : jY β α) (m : M α) : Prop :=
 ∀ (B : Bs) (w : Wd) (σ : L2.St) (H : Hp) (fr : Fr) (h : Hh) (Q : β → Hp → Prop), P w σ → Rel K T B w σ H fr h → aO K T B W (VR K T B σ) w σ (m fr h) Q → run σ H Q
def amR (P : Wd → L2.St → Prop) : Prop := ∀ w w' σ, w.le w' → P w σ → P w' σ
abbrev SqE (P : Wd → L2.St → Prop) (X : Cx) (T : Tb) (W : WX) (e : Expr) (m : M D) : Prop := aai P (WE X e) X.K T W vE m
abbrev SqV (P : Wd → L2.St → Prop) (X : Cx) (T : Tb) (W : WX) (e : Expr) (m : M D) : Prop := aai P (WE X e) X.K T W vV m
abbrev amS (P : Wd → L2.St → Prop) (X : Cx) (T : Tb) (W : WX) (e : Expr) (m : M Bool) : Prop := aai P (WT X e) X.K T W vB m
abbrev SqW (P : Wd → L2.St → Prop) (X : Cx) (T : Tb) (W : WX) (e : Expr) (m : M Bool) : Prop := aai P (WW X e) X.K T W vB m
abbrev SqA (P : Wd → L2.St → Prop) (X : Cx) (T : Tb) (W : WX) (es : List Expr) (m : M (List D)) : Prop := aai P (WA X es) X.K T W vA m
section
variable {P : Wd → L2.St → Prop} {X : Cx} {T : Tb} {W : WX} {a b c e : Expr} {es rest : List Expr} {m ma mb : M D} {n ta tb tc : M Bool} {ms : List (M D)} {pos : Pos}
end
def DR (P : Wd → L2.St → Prop) (K : PySem.W.Frag) (T : Tb) (B : Bs) (W : WX) (w : Wd) (r : R Fl) (D : Ends) : Prop :=
 match r with
 | .ok .nx fr h => ∀ w' σ' H', w.le w' → P w' σ' → Rel K T B w' σ' H' fr h → D.nx σ' H'
 | r => dI K T B W w r D
def SqS (P : Wd → L2.St → Prop) (X : Cx) (T : Tb) (W : WX) (st : Stmt) (m : M Fl) : Prop := ∀ (B : Bs) (w : Wd) (σ : L2.St) (H : Hp) (fr : Fr) (h : Hh) (D : Ends), P w σ → Rel X.K T B w σ H fr h → DR P X.K T B W w (m fr h) D → WS X st D σ H
def acR (P : Wd → L2.St → Prop) (X : Cx) (T : Tb) (W : WX) (sts : List Stmt) (m : M Fl) : Prop := ∀ (B : Bs) (w : Wd) (σ : L2.St) (H : Hp) (fr : Fr) (h : Hh) (D : Ends), P w σ → Rel X.K T B w σ H fr h → DR P X.K T B W w (m fr h) D → Zv X sts D σ H
section
variable {P : Wd → L2.St → Prop} {K : PySem.W.Frag} {T : Tb} {B : Bs} {W : WX} {w w' : Wd} {σ : L2.St} {H : Hp}
theorem DR.of {r : R Fl} {D : Ends} (p : dI K T B W w r D) : DR P K T B W w r D := by
 cases r with
 | ok f fr h =>
   cases f with
   | nx => exact fun w' σ' H' l _ r => p w' σ' H' l r
   | _ => exact p
 | exc e fr h => exact p
 | err => exact p
theorem DR.le {r : R Fl} {D : Ends} (x : w.le w') (p : DR P K T B W w r D) : DR P K T B W w' r D := by
 cases r with
 | ok f fr h =>
   cases f with
   | nx => exact fun w2 σ2 H2 y => p w2 σ2 H2 (Wd.le_trans x y)
   | brk => exact dI.le x (show dI K T B W w (.ok .brk fr h) D from p)
   | ct => exact dI.le x (show dI K T B W w (.ok .ct fr h) D from p)
   | rt d => exact dI.le x (show dI K T B W w (.ok (.rt d) fr h) D from p)
 | exc e fr h => exact dI.le (D := D) (r := .exc e fr h) x p
 | err => exact p
theorem DR.bind {α β : Type} {VR : Wd → Hp → Fr → β → α → Prop} {m : M α} {f : α → M Fl} {fr : Fr} {h : Hh} {D : Ends} {Q : β → Hp → Prop} (p : DR P K T B W w (m.bind f fr h) D)
 (k : ∀ d fr1 h1 w1 H1 v, m fr h = .ok d fr1 h1 → w.le w1 → Rel K T B w1 σ H1 fr1 h1 → VR w1 H1 fr1 v d → DR P K T B W w1 (f d fr1 h1) D → Q v H1) : aO K T B W VR w σ (m fr h) Q := by
 cases e : m fr h with
 | ok d fr1 h1 =>
   rw [M.bind_ok e] at p
   exact fun w1 H1 v x r z => k d fr1 h1 w1 H1 v e x r z (p.le x)
 | exc y fr1 h1 =>
   rw [M.bind_exc e] at p
   exact fun w1 H1 c dd x r z => p w1 σ H1 c dd x r z
 | err =>
   rw [M.bind_err e] at p
   exact p.elim
end
section
variable {P : Wd → L2.St → Prop} {X : Cx} {T : Tb} {W : WX} {k : Nat} {pos pos' p2 : Pos} {e a b c : Expr} {st : Stmt} {sts as bs : List Stmt} {m : M D} {s n : M Fl} {t : M Bool}
end
def PX (K : PySem.W.Frag) (T : Tb) (i : Nat) (a : Addr) (x : aP) (cls : Value) (dd : Option Addr) : Wd → L2.St → Prop := fun w σ => σ[i]? = some (some (.ref a)) ∧ W3 K T w x cls dd
theorem W3.mono {K : PySem.W.Frag} {T : Tb} {w w' : Wd} {x : aP} {cls : Value} {dd : Option Addr} (l : w.le w') (h : W3 K T w x cls dd) : W3 K T w' x cls dd :=
 ⟨h.1, h.2.imp id fun ⟨d, vs, e1, e2, e3⟩ => ⟨d, vs, e1, l.1 _ _ e2, e3.mono l⟩⟩
section
variable {K : PySem.W.Frag} {T : Tb} {i j : Nat} {a : Addr} {x : aP} {cls : Value} {dd : Option Addr}
theorem aiZ (h : j ≠ i := by decide) : ∀ w σ v, PX K T i a x cls dd w σ → PX K T i a x cls dd w (σ.set j v) := fun w σ v h' => ⟨by rw [aoq h]; exact h'.1, h'.2⟩
end
structure Su (X : Cx) (T : Tb) (i : Nat) (a : Addr) (oe : Obj) (cls : Value) (dd : Option Addr) (pn : List (Addr × Obj)) (y : aP) : Prop where
 hz : Zc cls dd oe
 hf : ∃ vs, oe.data = .fields vs
theorem Su.st {X : Cx} {T : Tb} {i j : Nat} {a : Addr} {oe : Obj} {cls : Value} {dd : Option Addr} {pn : List (Addr × Obj)} {y : aP} (_ : Su X T i a oe cls dd pn y) (h : j ≠ i := by decide) : ∀ w σ v, PX X.K T i a y cls dd w σ → PX X.K T i a y cls dd w (σ.set j v) := aiZ h
structure amT (K : PySem.W.Frag) (T : Tb) (tab : Tg → Tg → Option Bool) : Prop where
 kit : ∀ t u b, tab t u = some b → PySem.W.kitOne K (t.v T) (u.v T) = some b
 exc : ∀ c u b, tab (.o c) u = some b → L2.ExcC K (T.cad c)
def akU (tab : Tg → Tg → Option Bool) (c : Nat) (d : D) : Option Bool := match d with
 | .tup l => match Jo l with
   | some (u :: us) => Hk tab (.o c) (u :: us)
   | _ => none
 | d => match d.ctag with
   | some u => tab (.o c) u
   | none => none
def amU (tab : Tg → Tg → Option Bool) (c : Nat) (mb : M D) : M D := mb.bind fun d => M.opt ((akU tab c d).map .bl)
def DkX (H : Hp) (dd : Option Addr) : Prop := dd = none ∨ ∃ d0 fs, dd = some d0 ∧ H d0 = some (.xd fs)
def amV (K : PySem.W.Frag) (C a : Addr) (dd : Option Addr) : List V → Hp → VK → Prop := fun xs H Q => ∃ (y : V) (b : Bool), xs = [.ref a, y] ∧ L2.ExcC K C ∧ DkX H dd ∧
 ((∃ cv, ClsV y cv ∧ PySem.W.kitOne K (.ref C) cv = some b) ∨ ∃ tp cs us, y = .ref tp ∧ L2.SqT K H tp cs ∧ Paired ClsV cs us ∧ PySem.W.kitAny K (.ref C) us = some b) ∧ Q (.bl b) H
section
variable {X : Cx} {T : Tb} {W : WX} {k i : Nat} {a : Addr} {oe : Obj} {cls : Value} {dd : Option Addr} {x : aP} {pn : List (Addr × Obj)} {tab : Tg → Tg → Option Bool} {b : Expr} {mb : M D} {n : Str} {np pf pos : Pos}
def mXf (j : Nat) (x : aP) : M D := fun fr h => match x.fs[j]? with
 | some d => .ok d fr h
 | none => .err
structure XfF (K : PySem.W.Frag) (T : Tb) (f : Str) (ix : Nat → Option Nat) : Prop where
 at_ : ∀ c j, ix c = some j → (T.fld c)[j]? = some f ∧ (T.fld c).Nodup ∧ XfC K (T.cad c) ∧ PySem.W.findIn K (.ref (T.cad c)) f = some none
def mXF (ix : Nat → Option Nat) (x : aP) : M D := match ix x.c with
 | some j => mXf j x
 | none => fun _ _ => .err
end
def ai0 (i : Nat) (r : R Fl) : R Fl := match r with
 | .ok .nx fr h => .ok .nx (fr.set i none) h
 | .ok .brk fr h => .ok .brk (fr.set i none) h
 | .ok .ct fr h => .ok .ct (fr.set i none) h
 | r => r
def al9 (i : Nat) (cond : Nat → Option Bool) (mb : M Fl) (ms : aP → M Fl) : M Fl := fun fr h => match mb fr h with
 | .exc x fr1 h1 => match cond x.c with
   | some true => if i < fr1.length then ai0 i (ms x (fr1.set i none) h1) else .err
   | some false => .exc x fr1 h1
   | none => .err
 | r => r
def ama (cond : Nat → Option Bool) (mb : M Fl) (ms : aP → M Fl) : M Fl := fun fr h => match mb fr h with
 | .exc x fr1 h1 => match cond x.c with
   | some true => ms x fr1 h1
   | some false => .exc x fr1 h1
   | none => .err
 | r => r
section
variable {X : Cx} {T : Tb} {W : WX} {k : Nat} {x n : Str} {c : Value} {cond : Nat → Option Bool} {body suite : List Stmt} {b₀ : Stmt} {np pos pos' : Pos} {mb : M Fl} {ms : aP → M Fl}
end
end Pk
namespace PySem
namespace OwO
open PySem.W PySem.Calls PyProof.Rows
section
variable {prog : Program} {w : World} {A : Around} {E : Value → Shared → Prop} {s : Shared} {K : Frag} {x C L f : Addr} {h₀ : Heap} {m : Str → Option Value} {ox : Obj} {od : Option Obj} {t : String} {b : Value} {op : Operator} {Q : Value → Shared → Prop}
def amW (Q : Option Value → Shared → Prop) (v : Value) (s : Shared) : Prop := v ≠ .notImplemented ∧ Q (some v) s
end
section
variable {prog : Program} {w : World} {A : Around} {E : Value → Shared → Prop} {s : Shared} {x C dx : Addr}
end
end OwO
end PySem
namespace Pk
open PySem PySem.Spec L2
structure amX (X : Cx) (T : Tb) (k : Nat) (mt : Nat → Option Fn) : Prop where
 ex : ∀ c F, mt c = some F → ∃ (kk : Nat) (f : Addr) (fd : FuncData) (ps : List Str), Cls X.K (T.cad c) ∧ Meth X.K (T.cad c) (PySem.dunder "mul") f ∧ PySem.W.selfFirst X.K (T.cad c) = true ∧ iw X.prog X.w X.K X.mg X.base T kk f fd ps F ∧ Bn X.K T fd ps 2 [] (aD []) ∧ kk ≤ k ∧
  ∃ g, PySem.W.findIn X.K (.ref (T.cad c)) (PySem.dunderR "mul") = some (some (.ref g))
structure amb (X : Cx) (T : Tb) (k : Nat) (mt : Nat → Option Fn) : Prop where
 ex : ∀ c F, mt c = some F → ∃ (kk : Nat) (f : Addr) (fd : FuncData) (ps : List Str), Cls X.K (T.cad c) ∧ Meth X.K (T.cad c) (PySem.dunderR "mul") f ∧ PySem.W.selfFirst X.K (T.cad c) = true ∧ iw X.prog X.w X.K X.mg X.base T kk f fd ps F ∧ Bn X.K T fd ps 2 [] (aD []) ∧ kk ≤ k ∧
  (∃ g, PySem.W.findIn X.K (.ref (T.cad c)) (PySem.dunder "mul") = some (some (.ref g))) ∧ PySem.W.subIn X.K (.ref (T.cad c)) (.type "int") = some false ∧ PySem.W.subIn X.K (.ref (T.cad c)) (.type "bool") = some false
def D.bty (h : Hh) (d : D) : Option String := match d.tag h with
 | some (.b t) => some t
 | _ => none
def amc (mt : Nat → Option Fn) (ma mb : M D) : M D := ma.bind fun x => mb.bind fun y fr h => match fnOf mt h x, y.bty h with
 | some F, some _ => bJ fr (F [x, y] h)
 | _, _ => .err
def D.smp : D → Bool
 | .non => true
 | .bl _ => true
 | .int _ => true
 | _ => false
def amd (mt : Nat → Option Fn) (ma mb : M D) : M D := ma.bind fun x => mb.bind fun y fr h => match fnOf mt h y, x.smp with
 | some F, true => bJ fr (F [y, x] h)
 | _, _ => .err
section
variable {X : Cx} {T : Tb} {W : WX} {k : Nat} {a b : Expr} {ma mb : M D} {pos : Pos}
theorem ahb {K : PySem.W.Frag} {B : Bs} {w : Wd} {σ : L2.St} {H : Hp} {fr : Fr} {h : Hh} {v : V} {d : D} {t : String} (R : Rel K T B w σ H fr h) (rv : bQ K T w v d) (e : d.bty h = some t) : TyX K H v (.type t) ∧ t ∈ Fy := by
 unfold D.bty at e
 split at e
 · rename_i t' et
   cases e
   have mem : t ∈ Fy := by
    unfold D.tag at et
    split at et <;> first | (cases et; decide) | cases et
   have e2 : acO [] (.b t) (.b t) = some true := by
    have : ∀ t ∈ Fy, acO [] (.b t) (.b t) = some true := by decide +kernel
    exact this t mem
   exact ⟨KR (u := .b t) (bb := true) (adS (K := K) (T := T) (l := []) .nil) R (.inl rv) et e2, mem⟩
 · cases e
end
end Pk
namespace Pk
open PySem PySem.Spec L2
def akV (l : List ((Tg × Tg) × Bool)) : Tg → Tg → Option Bool := fun t u => aoi (t, u) l
inductive acS (K : PySem.W.Frag) (T : Tb) : List ((Tg × Tg) × Bool) → Prop where
 | nil : acS K T []
 | cons {c : Nat} {u : Tg} {b : Bool} {l : List ((Tg × Tg) × Bool)} (q : PySem.W.kitOne K (.ref (T.cad c)) (u.v T) = some b) (i : L2.ExcC K (T.cad c)) (r : acS K T l) : acS K T (((.o c, u), b) :: l)
end Pk
namespace Pk
open PySem PySem.Spec L2
def xU (mt : Nat → Option Fn) (o : D) (as : List D) : M D := fun fr h => match fnOf mt h o with
 | some F => match F (o :: as) h with
   | .ok d _ h => .ok d fr h
   | _ => .err
 | none => .err
def MK (mt : Nat → Option Fn) (o : D) (as : List D) : M D := fun fr h => match fnOf mt h o with
 | some F => bJ fr (F (o :: as) h)
 | none => .err
theorem ahc {K : PySem.W.Frag} {f : Addr} (h1 : PySem.W.isFn K (.ref f) = true) (h2 : PySem.W.keepIn K (.ref f) = true) : PySem.W.fnIn K f = true := by
 have h1' : PySem.W.typeIn K (.ref f) = some (.type "function") := beq_iff_eq.mp h1
 unfold PySem.W.fnIn
 unfold PySem.W.keepIn at h2
 dsimp only at h2
 have sp : PySem.W.specialIn K (.ref f) "__call__" = PySem.W.findIn K (.type "function") "__call__" := by
  unfold PySem.W.specialIn
  rw [h1']
  rfl
 have no : (PySem.W.findIn K (.type "function") "__call__" == some (some (.builtin "type.__call__"))) = false := by kernel_rfl
 cases e : K.lookup f with
 | none => rw [e] at h2; cases h2
 | some o =>
   obtain ⟨c, d, dt, sl⟩ := o
   rw [e] at h2
   cases dt with
   | func fd => rfl
   | cls cd =>
     dsimp only at h2
     rw [sp, no] at h2
     cases h2
   | _ => cases h2
section
variable {X : Cx} {T : Tb} {W : WX} {k kk j n : Nat} {f C : Addr} {fd : FuncData} {ps ks : List Str} {F : Fn} {m : Str} {pos pf : Pos} {a b : Expr} {ma mb : M D}
theorem Vq {A : Around} {pins : List (Addr × Obj)} {σ : L2.St} {H : Hp} {s : Shared} {Q : VK} {us : List Value} {vs : List V} {g : List Value → List Value → List Value} {gV : List V → List V → List V} {sp : Sp} {E : XK} (F : FnOk X.prog X.w X.K X.mg X.base (L2.CX X.prog X.w) kk f fd ps sp) (hr : Room kk A) (e0 : Env0 X.prog X.w X.K X.mg X.base A X.stack s H) (hb : KBn X.K fd ps n [] g gV)
 (hx : ∀ e s', L2.CX X.prog X.w X.stack H s E e s' → X.xe e s') (I : Inv X pins σ H s) (r : Vals vs us) (l1 : vs.length = n) (h : sp (gV vs []) H Q E) : wpAny (model X.prog X.w) A (call (.ref f) us) (EP X pins σ Q) X.xe s := by
 have r2 := hb.rel r (.nil : Vals [] [])
 refine wpAny_call (codeAny_mono (F.run A X.stack s H ⟨us, []⟩ (g us []) (gV vs []) Q _ hr e0 (hb.to s us [] I.kIn (r.length.symm.trans l1) rfl) r2 h) fun r s' hq => ?_)
 cases r with
 | error e => exact hx e s' hq
 | ok fl =>
   cases fl with
   | ret u => exact I.after hq
   | next => exact False.elim hq
   | brk => exact False.elim hq
   | cont => exact False.elim hq
theorem Xm {H : Hp} {s : Shared} (e : Value) (s' : Shared) : L2.CX X.prog X.w X.stack H s (fun _ _ _ => False) e s' → X.xe e s' := fun c => by
 obtain ⟨a, B, H', cls, d, rfl, fl, hok, ub, na, os, ag, hE⟩ := c
 exact hE.elim
structure OwnRun (X : Cx) (T : Tb) (k n : Nat) (m : Str) (v : V) (H : Hp) (vs : List V) (Q : VK) (E : XK) : Prop where
 ex : ∃ (kk : Nat) (f : Addr) (fd : FuncData) (ps : List Str) (a C dx : Addr) (fs : List (Str × V)) (G : Fn), v = .ref a ∧ H a = some (.ins C dx fs) ∧ Cls X.K C ∧ Meth X.K C m f ∧ iw X.prog X.w X.K X.mg X.base T kk f fd ps G ∧ kk ≤ k ∧
  ∃ g gV, KBn X.K fd ps (n + 1) [] g gV ∧ spF X.K T ps.length G (gV (.ref a :: vs) []) H Q E
theorem ab7 {mt : Nat → Option Fn} {B : Bs} {w : Wd} {σ : L2.St} {H : Hp} {fr : Fr} {h : Hh} {v : V} {d : D} {vs : List V} {as : List D} {Q : VK} (Mf : tU X T j m mt n [] (aD [])) (R : Rel X.K T B w σ H fr h) (rv : bQ X.K T w v d) (rs : aF X.K T w vs as) (hl : as.length = n)
 (p : aO X.K T B W (vE X.K T B σ) w σ (MK mt d as fr h) Q) : OwnRun X T j n m v H vs Q (fun c d H' => W c d σ H') := by
 unfold MK at p
 cases ef : fnOf mt h d with
 | none => rw [ef] at p; exact p.elim
 | some G =>
   rw [ef] at p
   obtain ⟨kk, f, fd, ps, a, Cl, dx, fs, rfl, eH, l, c1, c2, c3, c4, c5⟩ := PN Mf R rv ef
   obtain ⟨g, gV, hb, hgD⟩ := c4.ex
   refine ⟨kk, f, fd, ps, a, Cl, dx, fs, G, rfl, eH, c1, c2, c3, c5, g, gV, hb, ?_⟩
   have p4 : aO X.K T B W (vE X.K T B σ) w σ (if (d :: as).length = n + 1 ∧ ([] : List D).length = 0 then bJ fr (G (aD [] (d :: as) []) h) else .err) Q := by
    rw [if_pos ⟨by rw [an4, hl], rfl⟩]
    show aO X.K T B W (vE X.K T B σ) w σ (bJ fr (G (d :: as ++ []) h)) Q
    rw [aob]
    exact p
   exact (Hj (n := n + 1) (m := 0) (zs := []) (es := []) (ds := d :: as) hgD R (.cons rv rs) .nil p4).2.2
theorem aaj {mt : Nat → Option Fn} {B : Bs} {w : Wd} {σ : L2.St} {H : Hp} {fr : Fr} {h : Hh} {v : V} {d : D} {vs : List V} {as : List D} {Q : VK} (Mf : tU X T j m mt n [] (aD [])) (R : Rel X.K T B w σ H fr h) (rv : bQ X.K T w v d) (rs : aF X.K T w vs as) (hl : as.length = n)
 (p : aO X.K T B W (vE X.K T B σ) w σ (xU mt d as fr h) Q) : OwnRun X T j n m v H vs Q (fun _ _ _ => False) := by
 refine ab7 (W := WF) Mf R rv rs hl ?_
 unfold xU at p
 unfold MK
 cases ef : fnOf mt h d with
 | none => rw [ef] at p; exact p.elim
 | some G =>
   rw [ef] at p
   dsimp only at p ⊢
   cases e : G (d :: as) h with
   | ok d' fr' h' => rw [e] at p; exact p
   | exc _ _ _ => rw [e] at p; exact p.elim
   | err => rw [e] at p; exact p.elim
def acT (d : D) : M D := fun fr h => match d with
 | .int i => if 0 ≤ i ∧ i < 2 ^ 60 then .ok (.int i) fr h else .err
 | _ => .err
def RD (mt : Nat → Option Fn) (ma : M D) : M D := ma.bind fun o => (xU mt o []).bind acT
theorem ai1 {K : PySem.W.Frag} {B : Bs} {σ : L2.St} {w : Wd} {H : Hp} {fr : Fr} {v : V} {i : Int} (r : vE K T B σ w H fr v (.int i)) : v = .int i := by
 rcases r with r | ⟨_, _, _, _, _, _, r⟩
 · exact lu r
 · cases r
theorem agF {K : PySem.W.Frag} {B : Bs} {σ : L2.St} {w : Wd} {H : Hp} {fr : Fr} {v : V} {i : Bool} (r : vE K T B σ w H fr v (.bl i)) : v = .bl i := by
 rcases r with r | ⟨_, _, _, _, _, _, r⟩
 · exact adu r
 · cases r
theorem ahd {mt : Nat → Option Fn} (C : Cq X T W k) (hk : j + 1 ≤ k) (Mf : tU X T j "__len__" mt 0 [] (aD [])) (sa : aY X T W a ma) (hm : X.mg "len" = none) (hg : Gl X "len" := by rfl) (he : starEach (a :: []) X.env = (false, eval a X.env) :: starEach [] X.env := by exact eY rfl)
 (hpl : (backTo pos (starEach [] X.env)).any (·.1) = false := by rfl) : aY X T W (.Call (.Name "len" pf) [a] [] pos) (RD mt ma) := fun B w σ H fr h Q r1 p =>
 eG (pe_callB (id := "len") Mh hg hm (by decide +kernel) (pa_cons bF pa_nil he) (by decide) (by decide) he hpl) (sa B w σ H fr h (fun x H1 => cM X (.builtin "len") [x] H1 Q) r1 (aO.bind (VR := vV X.K T B σ) p fun d fr1 h1 w1 H1 v e1 l1 r1 rv p1 => by
  have p2 : aO X.K T B W (vE X.K T B σ) w1 σ (xU mt d [] fr1 h1) (fun v H' => ∃ i : Int, v = .int i ∧ (0 ≤ i ∧ i < 2 ^ 60) ∧ Q (.int i) H') := aO.bind p1 fun d fr2 h2 w2 H2 v e2 l2 r2 rv2 p3 => by
   unfold acT at p3
   split at p3
   · rename_i i
     split at p3
     · rename_i hi
       exact ⟨i, ai1 rv2, hi, p3 w2 H2 _ (Wd.le_refl _) r2 (.int i)⟩
     · exact p3.elim
   · exact p3.elim
  obtain ⟨kk, f, fd, ps, a, Cl, dx, fs, G, rfl, eH, c1, c2, c3, c5, g, gV, hb, q⟩ := (aaj Mf r1 rv .nil rfl p2).ex
  intro pins s σ' us I rus
  obtain ⟨u, rfl, ru⟩ := rus.one
  obtain rfl : u = Value.ref a := ru
  obtain ⟨mA, J, _⟩ := ins_get I.hok eH
  obtain ⟨od, J, _⟩ := J.look
  obtain ⟨m, hF⟩ := I.fr
  refine PySem.W.len_K hF I.ok.mod.kin J c2.at_ c2.fn (wpAny_mono (Vq (n := 0 + 1) (us := [.ref a]) (vs := [.ref a]) c3.ok ((C.room.mono hk).in1.mono c5) I.env0.in1 hb Xm I (.cons rfl .nil) rfl q) (fun v s' z => ?_) fun _ _ z => z)
  obtain ⟨z', H', I', rz, i, ei, hi, qz⟩ := z
  subst ei
  obtain ⟨t, rfl⟩ := (show ∃ t, v = Value.int i t from rz)
  exact ⟨⟨hi.1, Int.lt_trans hi.2 (by decide)⟩, .int i, H', I'.tok (s'.toks + 1), ⟨_, rfl⟩, qz⟩))
def RG (mt : Nat → Option Fn) (ma mb : M D) : M D := ma.bind fun o => mb.bind fun i => MK mt o [i]
theorem ahe {mt : Nat → Option Fn} (C : Cq X T W k) (hk : j + 1 ≤ k) (Mf : tU X T j "__getitem__" mt 1 [] (aD [])) (sa : aY X T W a ma) (sb : aY X T W b mb)
 (hs : ∀ o i, subscripted b true o i = runValue (.builtin "lifetime.subscript" ⟨[o, i], []⟩) := by intro _ _; with_unfolding_all rfl) : ph X T W (.Subscript a b pos) (RG mt ma mb) := fun B w σ H fr h Q R pp => WE.mk <| fun pins s I => by
 refine PyProof.Rows.Subscript_ (binT (R := fun x y H2 => OwnRun X T j 1 "__getitem__" x H2 [y] Q (fun c d H' => W c d σ H')) bF bF I (sa B w σ H fr h _ R (aO.bind (VR := vV X.K T B σ) pp fun d fr1 h1 w1 H1 v e1 l1 r1 rd p1 =>
  sb B w1 σ H1 fr1 h1 _ r1 (aO.bind (VR := vV X.K T B σ) p1 fun e fr2 h2 w2 H2 u e2 l2 r2 re p2 => ab7 Mf r2 (rd.mono l2) (.cons re .nil) rfl p2))) fun v u s2 x y H2 I2 rx ry q => ?_)
 obtain ⟨kk, f, fd, ps, a', Cl, dx, fs, G, rfl, eH, c1, c2, c3, c5, g, gV, hb, q⟩ := q.ex
 obtain rfl : v = Value.ref a' := rx
 obtain ⟨mA, J, _⟩ := ins_get I2.hok eH
 obtain ⟨od, J, _⟩ := J.look
 obtain ⟨m, hF⟩ := I2.fr
 have cx : ∀ e s', L2.CX X.prog X.w X.stack H2 s2 (fun c d H' => W c d σ H') e s' → X.xe e s' := fun e s' z => passAt C.takes σ pins H2 s2 e s' I2 z
 refine PySem.W.sub_K hF I2.ok.mod.kin J c2.at_ (ahc c2.fn c2.kp) c2.fn ?_ (hs _ _)
 exact Vq (n := 1 + 1) (us := [.ref a', u]) (vs := [.ref a', y]) c3.ok ((C.room.mono hk).in1.mono c5) I2.env0.in1 hb cx I2 (.cons rfl (.cons ry .nil)) rfl q
def acU (X : Cx) (T : Tb) (W : WX) (VR2 : jY V D) (op : CmpOp) (g : D → D → M Bool) : Prop :=
 ∀ B w σ H fr h x y d e Q, Rel X.K T B w σ H fr h → bQ X.K T w x d → VR2 X.K T B σ w H fr y e → aO X.K T B W (vB X.K T B σ) w σ (g d e fr h) Q → rM X (compareOp op) x y H (fun z H' => ∃ c, z = .bl c ∧ Q c H')
def Gf {α : Type} (g : D → D → M α) (ma mb : M D) : M α := ma.bind fun x => mb.bind fun y => g x y
theorem ab8 {op : CmpOp} {VR2 : jY V D} {g : D → D → M Bool} (o : acU X T W VR2 op g) (sa : aY X T W a ma) (sb : iT (WE X b) X.K T W VR2 mb) (hm : behindInMarks op b = false := by with_unfolding_all rfl) :
 Ar X T W (.Compare a [op] [b] pos) (Gf g ma mb) := fun B w σ H fr h Q r1 p =>
 Rk (pt_cmpR yW bF bF hm) (sa B w σ H fr h (fun x H1 => WE X b σ H1 fun y H2 => rM X (compareOp op) x y H2 fun z H' => ∃ k, z = .bl k ∧ Q k H') r1 (aO.bind (VR := vV X.K T B σ) p fun d fr1 h1 w1 H1 x e1 l1 r1 rx p1 =>
  sb B w1 σ H1 fr1 h1 _ r1 (aO.bind (VR := VR2 X.K T B σ) p1 fun e fr2 h2 w2 H2 y e2 l2 r2 ry p2 => o B w2 σ H2 fr2 h2 x y d e Q r2 (rx.mono l2) ry p2)))
theorem ahf {op : CmpOp} {VR2 : jY V D} {g : D → D → M Bool} (o : acU X T W VR2 op g) (sa : aY X T W a ma) (sb : iT (WE X b) X.K T W VR2 mb) (hm : behindInMarks op b = false := by with_unfolding_all rfl) :
 aY X T W (.Compare a [op] [b] pos) (Vb (Gf g ma mb)) := fun B w σ H fr h Q r1 p => by
 have p0 : aO X.K T B W (vB X.K T B σ) w σ (Gf g ma mb fr h) (fun b H => Q (.bl b) H) := aO.bind p fun d fr1 h1 w1 H1 v e x r1 z p1 => by
  have z' : v = d := z
  subst z'
  exact p1 w1 H1 _ (Wd.le_refl _) r1 (.bl _)
 refine eG (pe_cmpR yW bF bF hm) (sa B w σ H fr h (fun x H1 => WE X b σ H1 fun y H2 => rM X (compareOp op) x y H2 Q) r1 (aO.bind (VR := vV X.K T B σ) p0 fun d fr1 h1 w1 H1 x e1 l1 r1 rx p1 =>
  sb B w1 σ H1 fr1 h1 _ r1 (aO.bind (VR := VR2 X.K T B σ) p1 fun e fr2 h2 w2 H2 y e2 l2 r2 ry p2 => ?_)))
 intro pins s σ' v u I rx' ry'
 refine thn (o B w2 σ H2 fr2 h2 x y d e _ r2 (rx.mono l2) ry p2 pins s σ' v u I rx' ry') fun v s' z => ?_
 obtain ⟨z', H', I', rz, c, ec, q⟩ := z
 subst ec
 exact ⟨_, H', I', rz, q⟩
def tbM (d : D) : M Bool := M.opt d.tb
theorem ahg {B : Bs} {w : Wd} {σ : L2.St} {m : M D} {fr : Fr} {h : Hh} {Q : Bool → Hp → Prop} {c : Bool → Bool} (p : aO X.K T B W (vB X.K T B σ) w σ ((m.bind fun d => (tbM d).bind fun b => M.ret (c b)) fr h) Q) : aO X.K T B W (vE X.K T B σ) w σ (m fr h) (fun v H' => ∃ b, v = .bl b ∧ Q (c b) H') :=
 aO.bind p fun d fr2 h2 w2 H2 v e2 l2 r2 rv2 p3 => by
  unfold tbM M.bind at p3
  cases d with
  | bl b => exact ⟨b, agF rv2, p3 w2 H2 _ (Wd.le_refl _) r2 rfl⟩
  | _ => exact p3.elim
def gIn (mt : Nat → Option Fn) (c : Bool → Bool) (x o : D) : M Bool := (xU mt o [x]).bind fun d => (tbM d).bind fun b => M.ret (c b)
end
end Pk
namespace PySem
namespace OwE
open PySem.W PySem.Calls PyProof.Rows
section
variable {prog : Program} {w : World} {M : Model} {A : Around} {E : Value → Shared → Prop} {s : Shared} {K : Frag} {x C f : Addr} {ox : Obj} {od : Option Obj} {b tb : Value}
end
end OwE
end PySem
namespace Pk
open PySem PySem.Spec L2
structure EqX (K : PySem.W.Frag) (C : Addr) : Prop where
 ne : PySem.W.findIn K (.ref C) "__ne__" = some (some (.builtin "object.__ne__"))
 ob : PySem.W.mroIn K C (.type "object") = some true
 nf : ∀ t ∈ Fy, PySem.W.notFirst K C (.type t) = true
 nb : ∀ t ∈ Fy, PySem.W.subIn K (.ref C) (.type t) = some false
theorem ad2 {K : PySem.W.Frag} {C : Addr} (h : eqX K C = true) : EqX K C := by
 obtain ⟨c1, h⟩ := He.ba h
 obtain ⟨c2, h⟩ := He.ba h
 obtain ⟨c3, c4⟩ := He.ba h
 exact ⟨He.eqO_ok c1, of_decide_eq_true c2, fun t ht => List.all_eq_true.mp c3 t ht, fun t ht => of_decide_eq_true (List.all_eq_true.mp c4 t ht)⟩
structure EqF (K : PySem.W.Frag) (T : Tb) (mt : Nat → Option Fn) : Prop where
 ex : ∀ c F, mt c = some F → EqX K (T.cad c)
def Qp (mt : Nat → Option Fn) (c : Bool → Bool) (x y : D) : M Bool := fun fr h => if (y.bty h).isSome || (uN h x y).isSome then ((xU mt x [y]).bind fun d => (tbM d).bind fun b => M.ret (c b)) fr h else .err
section
variable {X : Cx} {T : Tb} {W : WX} {k j : Nat}
theorem afd {mt : Nat → Option Fn} {h : Hh} {d : D} {G : Fn} (e : fnOf mt h d = some G) : ∃ c fs, d.ins h = some (c, fs) ∧ mt c = some G := by
 unfold fnOf at e
 split at e
 · rename_i c fs ei
   exact ⟨c, fs, ei, e⟩
 · cases e
theorem aal {mt : Nat → Option Fn} {B : Bs} {w : Wd} {σ σ' : L2.St} {H : Hp} {fr : Fr} {h : Hh} {x y : V} {d e : D} {u : Value} {pins : List (Addr × Obj)} {s : Shared} {a' Cl dx : Addr} {fs : List (Str × V)} (Ef : EqF X.K T mt) (R : Rel X.K T B w σ H fr h) (rx : bQ X.K T w x d) (ry : bQ X.K T w y e)
 (hc : ((e.bty h).isSome || (uN h d e).isSome) = true) (hG : fnOf mt h d ≠ none) (I : Inv X pins σ' H s) (ru : RelV y u) (ex : x = .ref a') (eH : H a' = some (.ins Cl dx fs)) : EqX X.K Cl ∧ ∃ tb, PySem.W.Looks (model X.prog X.w) s.heap (typeOf u) tb ∧ PySem.W.notFirst X.K Cl tb = true := by
 obtain ⟨c, gs, ei, em⟩ : ∃ c gs, d.ins h = some (c, gs) ∧ ∃ G, mt c = some G := by
  cases q : fnOf mt h d with
  | none => exact absurd q hG
  | some G =>
    obtain ⟨c, gs, e1, e2⟩ := afd q
    exact ⟨c, gs, e1, G, e2⟩
 obtain ⟨G, em⟩ := em
 obtain ⟨p1, dx1, vs1, e1, eH1, _⟩ := CG R (.inl rx) ei
 have ep : p1 = a' := V.ref.inj (e1.symm.trans ex)
 subst ep
 have eo := Option.some.inj (eH1.symm.trans eH)
 injection eo with eC _ _
 subst eC
 have Eq := Ef.ex c G em
 refine ⟨Eq, ?_⟩
 rcases Bool.or_eq_true_iff.mp hc with z | z
 · obtain ⟨t, et⟩ := Option.isSome_iff_exists.mp z
   obtain ⟨ty, ht⟩ := ahb R ry et
   obtain ⟨P, Z, p, _⟩ := kit_of I ru ty
   exact ⟨.type t, Z.ty (model X.prog X.w) s.heap I.kIn p, Eq.nf t ht⟩
 · obtain ⟨c', ec⟩ := Option.isSome_iff_exists.mp z
   obtain ⟨⟨fs1, i1⟩, gs2, i2⟩ := Z6 ec
   have : c' = c := by
    rw [ei] at i1
    cases i1
    rfl
   subst this
   obtain ⟨p2, dy, vs2, rfl, eH2, _⟩ := CG R (.inl ry) i2
   obtain rfl : u = Value.ref p2 := ru
   obtain ⟨mB, J', _⟩ := ins_get I.hok eH2
   obtain ⟨od', J', _⟩ := J'.look
   exact ⟨_, J'.type, by unfold PySem.W.notFirst; simp⟩
theorem afe {mt : Nat → Option Fn} {c : Bool → Bool} {B : Bs} {w : Wd} {σ : L2.St} {fr : Fr} {h : Hh} {d e : D} {Q : Bool → Hp → Prop} (p : aO X.K T B W (vB X.K T B σ) w σ (Qp mt c d e fr h) Q) :
 ((e.bty h).isSome || (uN h d e).isSome) = true ∧ fnOf mt h d ≠ none ∧ aO X.K T B W (vE X.K T B σ) w σ (xU mt d [e] fr h) (fun v H' => ∃ b, v = .bl b ∧ Q (c b) H') := by
 unfold Qp at p
 cases hc : ((e.bty h).isSome || (uN h d e).isSome) with
 | false => rw [hc] at p; exact p.elim
 | true =>
   rw [hc, if_pos rfl] at p
   have p' := ahg p
   refine ⟨rfl, fun z => ?_, p'⟩
   have q : xU mt d [e] fr h = .err := by unfold xU; rw [z]
   rw [q] at p'
   exact p'
theorem aca {mt : Nat → Option Fn} (C : Cq X T W k) (hk : j + 1 ≤ k) (Mf : tU X T j "__eq__" mt 1 [] (aD [])) (Ef : EqF X.K T mt) : acU X T W vV .Eq (Qp mt fun b => b) := fun B w σ H fr h x y d e Q R rx ry p => by
 obtain ⟨hc, hG, p'⟩ := afe p
 obtain ⟨kk, f, fd, ps, a', Cl, dx, fs, G, ex, eH, c1, c2, c3, c5, g, gV, hb, q⟩ := (aaj Mf R rx (.cons ry .nil) rfl p').ex
 intro pins s σ' v u I rv ru
 obtain ⟨Eq, tb, lk, nf⟩ := aal Ef R rx ry hc hG I ru ex eH
 subst ex
 obtain rfl : v = Value.ref a' := rv
 obtain ⟨mA, J, _⟩ := ins_get I.hok eH
 obtain ⟨od, J, _⟩ := J.look
 obtain ⟨m, hF⟩ := I.fr
 show wpAny _ _ (richCompare .Eq _ _) _ _ _
 have hu : X.A.units < cLine := by
  have := C.u
  omega
 refine PySem.W.cmp_K (op := .Eq) hu hF I.ok.mod.kin J lk nf c2.at_ c2.fn (wpAny_mono (Vq (n := 1 + 1) (us := [.ref a', u]) (vs := [.ref a', y]) c3.ok (C.room.mono (Nat.le_trans c5 (Nat.le_of_succ_le hk))) I.env0 hb Xm I (.cons rfl (.cons ru .nil)) rfl q) (fun r s' z => ?_) fun _ _ z => z)
 obtain ⟨z', H', I', rz, b, eb, qz⟩ := z
 subst eb
 exact Vj ⟨.bl b, H', I', rz, b, rfl, qz⟩
end
end Pk
namespace Pk
open PySem PySem.Spec L2
def aam (K : PySem.W.Frag) (C : Addr) : Bool := PySem.W.readsIn K C (.type "type") && He.eqO (PySem.W.specialIn K (.ref C) "__getattribute__") (some (some (.builtin "type.__getattribute__")))
def ccA (K : PySem.W.Frag) (C : Addr) (f : Str) : Addr := match PySem.W.findCls K (.ref C) (.type "type") f with
 | some (.val (.ref a)) => a
 | _ => 0
def ame (K : PySem.W.Frag) (C : Addr) (f : Str) (vs : List He.Dv) : Bool := aam K C && ((match PySem.W.findCls K (.ref C) (.type "type") f with
 | some (.val (.ref a)) => decide (a = ccA K C f)
 | _ => false) && aiF K (ccA K C f) vs)
structure amf (X : Cx) (T : Tb) (c : Nat) (f : Str) (d : D) : Prop where
 ex : ∃ (u : Value) (v : V), ClX.CRead X.K (T.cad c) (.type "type") ∧ ClX.CVal X.K (T.cad c) (.type "type") f v u ∧ bQ X.K T ⟨fun _ => none, []⟩ v d
section
variable {X : Cx} {T : Tb} {W : WX} {k c : Nat} {x f : Str} {p pos : Pos} {d : D}
end
end Pk
namespace PySem
namespace OwB
open PySem.W PySem.Calls PyProof.Rows
section
variable {prog : Program} {w : World} {A : Around} {E : Value → Shared → Prop} {s : Shared} {K : Frag} {x C f : Addr} {ox : Obj} {od : Option Obj}
def alf (Q : Bool → Shared → Prop) (v : Value) (s' : Shared) : Prop := match v with
 | .int n _ => (0 ≤ n ∧ n < 2 ^ 63) ∧ Q (n != 0) { s' with toks := s'.toks + 1 }
 | _ => False
end
end OwB
end PySem
namespace Pk
open PySem PySem.Spec L2
section
variable {X : Cx} {T : Tb} {W : WX} {k kk j n c : Nat} {pos pf px apos cpos p : Pos} {a b e : Expr} {es : List Expr} {ma mb m : M D} {m1 : M (List D)} {x f : Str}
structure NoB (K : PySem.W.Frag) (T : Tb) (mt : Nat → Option Fn) : Prop where
 ex : ∀ c F, mt c = some F → PySem.W.findIn K (.ref (T.cad c)) "__bool__" = some none
def amY (K : PySem.W.Frag) (C : Addr) : Bool := He.eqO (PySem.W.findIn K (.ref C) "__bool__") (some none)
def alq (mt : Nat → Option Fn) (ma : M D) : M D := ma.bind fun o => (xU mt o []).bind fun d => (acT d).bind fun d => M.opt (match d with
 | .int i => some (.bl (i != 0))
 | _ => none)
theorem aF.eraseIdx {K : PySem.W.Frag} {w : Wd} : ∀ {vs : List V} {ds : List D} (n : Nat), aF K T w vs ds → aF K T w (vs.eraseIdx n) (ds.eraseIdx n)
 | _, _, _, .nil => .nil
 | _, _, 0, .cons _ t => t
 | _, _, n + 1, .cons h t => .cons h (aF.eraseIdx n t)
def ahh (i : Nat) (d : D) : M D := fun fr h => match fr[i]?, d with
 | some (some (.nl l)), .int j => if -(2 ^ 63) ≤ j ∧ j < 2 ^ 63 then (match seqIndex? j l.length with
   | some q => (match l[q]? with
     | some y => .ok y (fr.set i (some (.nl (l.eraseIdx q)))) h
     | none => .err)
   | none => .err) else .err
 | _, _ => .err
def amg (i : Nat) (m : M D) : M D := (cR i oM).bind fun _ => m.bind fun d => ahh i d
structure CmF (X : Cx) (T : Tb) (k c : Nat) (m : Str) (n : Nat) (F : Fn) : Prop where
 ex : ∃ (kk : Nat) (p f : Addr) (fd : FuncData) (ps : List Str), ClX.CRead X.K (T.cad c) (.type "type") ∧ ClX.CMet X.K (T.cad c) (.type "type") m p f ∧ iw X.prog X.w X.K X.mg X.base T kk f fd ps F ∧ Bn X.K T fd ps (n + 1) [] (aD []) ∧ kk ≤ k
def cmA (K : PySem.W.Frag) (C : Addr) (m : Str) : Addr := match PySem.W.findCls K (.ref C) (.type "type") m with
 | some (.get _ (.ref p) _ _) => (match PySem.W.recIn K p "classmethod" with
   | some (.ref g :: _) => g
   | _ => 0)
 | _ => 0
def cmX (K : PySem.W.Frag) (C : Addr) (m : Str) : Bool := aam K C && (match PySem.W.findCls K (.ref C) (.type "type") m with
 | some (.get (.builtin i) (.ref p) .none (.ref C')) => decide (i = "classmethod.__get__") && (decide (C' = C) && ((match PySem.W.recIn K p "classmethod" with
   | some (.ref g :: _) => decide (g = cmA K C m)
   | _ => false) && PySem.W.fnIn K (cmA K C m)))
 | _ => false)
def mCm (n c : Nat) (F : Fn) (ma : M (List D)) : M D := ma.bind fun ds fr h => if ds.length = n then bJ fr (F (.cls c :: ds) h) else .err
end
end Pk
namespace Pk
open PySem PySem.Spec L2
section
variable {X : Cx} {T : Tb} {W : WX} {k : Nat} {b : Expr} {mb : M D} {pos px : Pos}
def amh (X : Cx) (T : Tb) (op : CmpOp) (f : Hh → D → D → Option Bool) : Prop :=
 ∀ B w σ H fr h x y d e c Q, Rel X.K T B w σ H fr h → vO X.K T B σ w H fr x d → vO X.K T B σ w H fr y e → f h d e = some c → Q (.bl c) H → rM X (compareOp op) x y H Q
def alr (i : Nat) (f : Hh → D → D → Option Bool) (mb : M D) : M Bool := (iY i).bind fun _ => mb.bind fun y => (au i).bind fun d fr h => M.opt (f h d y) fr h
end
end Pk
namespace PySem
namespace OwR
open PySem.W PySem.Calls PyProof.Rows
open PySem.AutoSeq1 (wpAny_loadPart')
section
variable {K : Frag} {x C : Addr} {ox : Obj} {od : Option Obj}
end
section
variable {prog : Program} {w : World} {A : Around} {E : Value → Shared → Prop} {s : Shared} {K : Frag} {x C f : Addr} {ox : Obj} {od : Option Obj} {a : Value} {t : String}
def afg (prog : Program) (w : World) (A : Around) (E : Value → Shared → Prop) (s : Shared) (a : Value) (nm : Str) (x : Addr) : Prop := ∀ P' : Option Value → Shared → Prop, P' none s → wpAny (model prog w) A (tryCompare a nm (.ref x)) P' E s
theorem right (op : CmpOp) {Q : Value → Shared → Prop} (hu : A.units < cLine) (X : K.In s.heap) (I : InstAt s.heap x ox C od) (h1 : oneThing? op a (.ref x) = none) (ha : Looks (model prog w) s.heap (typeOf a) (.type t)) (hn : subIn K (.ref C) (.type t) = some false)
 (hd : afg prog w A E s a (cmpInfo op).2.1 x) (h : wpAny (model prog w) A (tryCompare (.ref x) (cmpInfo op).2.2 a) (fun r s' => ∃ v, r = some v ∧ Q v s') E s) : wpAny (model prog w) A (richCompare op a (.ref x)) Q E s := by
 unfold richCompare
 simp only [h1]
 refine wpAny_holding (wpAny_bind (wpAny_cRoomFor hu ?_))
 refine wpAny_bind (ha.here (wpAny_bind (I.type.here ?_)))
 rw [if_pos (show ((Value.type t != Value.ref C) = true) from rfl)]
 refine wpAny_bind ((looks_subIn X hn).here ?_)
 simp only [Bool.false_eq_true, if_false]
 refine wpAny_bind (hd _ ?_)
 simp only [Bool.not_false, if_true]
 refine wpAny_bind (wpAny_mono h (fun r s' z => ?_) fun _ _ e => e)
 obtain ⟨v, rfl, q⟩ := z
 exact wpAny_pure q
end
end OwR
end PySem
namespace Pk
open PySem PySem.Spec L2
def amZ (mt : Nat → Option Fn) (c : Bool → Bool) (x y : D) : M Bool := fun fr h => match fnOf mt h x with
 | some _ => Qp mt c x y fr h
 | none => if (x.bty h).isSome then ((xU mt y [x]).bind fun d => (tbM d).bind fun b => M.ret (c b)) fr h else .err
section
variable {X : Cx} {T : Tb} {W : WX} {k j : Nat}
end
end Pk
namespace Pk
open PySem PySem.Spec L2
def am0 (_ : Hh) : D → D → Option Bool
 | .bl a, .bl b => some (decide (a = b))
 | _, _ => none
def ami (_ : Hh) : D → D → Option Bool
 | .bl a, .bl b => some (!decide (a = b))
 | _, _ => none
section
variable {X : Cx} {T : Tb}
end
end Pk
namespace PySem
namespace OwT
open PySem.W PySem.Calls PyProof.Rows PySem.SeqAt
open PySem.AutoSeq1 (wpAny_loadPart')
section
variable {prog : Program} {w : World} {A : Around} {R : Result → Shared → Prop}
theorem ahi (l b : Addr) (items items2 : Array Value) (n n2 : Nat) (dd dd2 : Option Addr) (sl sl2 : Array (Option Value)) (I : Nat → Shared → Prop)
 (turn : ∀ i (h1 : i < items.size) (h2 : i < items2.size) s, I i s → wpAny (model prog w) A.in1 (eqBool items[i] items2[i]) (fun r s' => (r = true ∧ I (i + 1) s') ∨ (r = false ∧ R (.ok (.ret (.bool false))) s')) (fun e s' => R (.error e) s') s)
 (fin : ∀ s, I (min items.size items2.size) s → R (.ok (.ret (.bool (items.size == items2.size)))) s) {s : Shared} (hl1 : s.heap.get? l = some { cls := .type "tuple", dict := dd, data := .seq items n, slots := sl }) (hb1 : s.heap.get? b = some { cls := .type "tuple", dict := dd2, data := .seq items2 n2, slots := sl2 }) (h : I 0 s) :
 wpAny (model prog w) A.in1 (Builtin.«tuple.__eq__» ⟨[.ref l, .ref b], []⟩) (GQ.FinOf prog w A R) (fun e s' => R (.error e) s') s := by
 have f2 := AutoSeq1.sub_tuple_tuple
 have hZ : (items.toList.zip items2.toList).length = min items.size items2.size := by simp
 have h0 := h
 obtain ⟨hp, g, d, tk, os⟩ := s
 wp_walk using wpAny_loadPart' hl1, wpAny_loadPart' hb1, wpAny_forIn_list _ (fun rest b s' => b.1 = none ∧ ∃ i, rest = (items.toList.zip items2.toList).drop i ∧ i ≤ min items.size items2.size ∧ I i s') _
 case turn =>
  rintro ⟨y, x⟩ rest b s' ⟨hb', i, hz, hi, hI⟩
  have hlt : i < (items.toList.zip items2.toList).length := by
   rcases Nat.lt_or_ge i (items.toList.zip items2.toList).length with h' | h'
   · exact h'
   · rw [List.drop_of_length_le h'] at hz; cases hz
  have hlt' : i < min items.size items2.size := hZ ▸ hlt
  have h1 : i < items.size := by omega
  have h2 : i < items2.size := by omega
  rw [aoE hlt] at hz
  injection hz with hyx hrest
  have hy : y = items[i] := by have := congrArg Prod.fst hyx; simpa using this
  have hx : x = items2[i] := by have := congrArg Prod.snd hyx; simpa using this
  subst hy hx
  refine wpAny_bind (wpAny_mono (turn i h1 h2 s' hI) (fun r s2 q2 => ?_) fun _ _ x => x)
  rcases q2 with ⟨hr, q2⟩ | ⟨hr, q2⟩
  · subst hr
    wp_walk
    exact ⟨rfl, i + 1, hrest, hlt', q2⟩
  · subst hr
    wp_walk
    exact q2
 case fin =>
  rintro ⟨b1, b2⟩ s' ⟨hb', i, hz, hi, hI⟩
  simp only at hb'
  subst hb'
  have hge : min items.size items2.size ≤ i := by
   rcases Nat.lt_or_ge i (items.toList.zip items2.toList).length with h' | h'
   · rw [aoE h'] at hz; cases hz
   · exact hZ ▸ h'
  have hi' : i = min items.size items2.size := Nat.le_antisymm hi hge
  have hR := fin s' (hi' ▸ hI)
  wp_walk
  simpa [Builtin.Tuple.tupleCompareSizes] using hR
 case h =>
  exact ⟨rfl, 0, rfl, Nat.zero_le _, h0⟩
theorem rc_tupB {l b : Addr} {items items2 : Array Value} {E : Value → Shared → Prop} {s : Shared} {Q : Value → Shared → Prop} (hu : A.units < cLine) (I : Nat → Shared → Prop) (hl : s.heap.IsTuple l items) (hb : s.heap.IsTuple b items2)
 (turn : ∀ i (h1 : i < items.size) (h2 : i < items2.size) s, I i s → wpAny (model prog w) A.in1 (eqBool items[i] items2[i]) (fun r s' => (r = true ∧ I (i + 1) s') ∨ (r = false ∧ Q (.bool false) s')) E s)
 (fin : ∀ s, I (min items.size items2.size) s → Q (.bool (items.size == items2.size)) s) (h : I 0 s) : wpAny (model prog w) A (richCompare .Eq (.ref l) (.ref b)) Q E s := by
 obtain ⟨⟨cls, dd, data, sl⟩, ho, hc, n, hd⟩ := id hl
 obtain ⟨⟨cls2, dd2, data2, sl2⟩, ho2, hc2, n2, hd2⟩ := id hb
 simp only at hc hd hc2 hd2
 subst hc hd hc2 hd2
 refine wpAny_richCompare_same_room (op := .Eq) ⟨_, ho, rfl⟩ ⟨_, ho2, rfl⟩ F.slot_tuple_eq (GQ.call_here F.slot_tuple_eq ⟨_, ho, rfl⟩ F.entry_tuple_eq (F.args_tuple_eq_2 _ _) ?_) hu
 refine ahi (R := wants (fun v s' => v ≠ .notImplemented ∧ Q v s') E) l b items items2 n n2 dd dd2 sl sl2 I (fun i h1 h2 s q => wpAny_mono (turn i h1 h2 s q) (fun r s' z => ?_) fun _ _ z => z) (fun s' q => ⟨(fun x => nomatch x), fin s' q⟩) ho ho2 h
 rcases z with z | ⟨z, q⟩
 · exact .inl z
 · exact .inr ⟨z, (fun x => nomatch x), q⟩
end
end OwT
end PySem
namespace Pk
open PySem PySem.Spec L2
mutual
def D.sim : D → D → Bool
 | .int i, .int j => i == j
 | .bl a, .bl b => a == b
 | .str a, .str b => a == b
 | .tup l, .tup m => D.sims l m
 | _, _ => true
def D.sims : List D → List D → Bool
 | d :: ds, e :: es => D.sim d e && D.sims ds es
 | [], [] => true
 | _, _ => false
end
section
variable {X : Cx} {T : Tb} {W : WX} {k j : Nat} {w : Wd} {pins : List (Addr × Obj)} {σ : L2.St} {H : Hp} {s : Shared}
mutual
theorem ahj (I : Inv X pins σ H s) (sub : ∀ a o, w.F a = some o → H a = some o) : ∀ {v : V} {d : D}, bQ X.K T w v d → ∀ {e : D}, bQ X.K T w v e → D.sim d e = true
 | _, _, .tup h1 t1, _, r2 => by
   cases r2 with
   | tup h2 t2 =>
     have := I.tuple_inj (fX sub h1) (fX sub h2)
     subst this
     exact Ug I sub t1 t2
   | _ => rfl
 | _, _, .int i, _, r2 => by cases r2; simp [D.sim]
 | _, _, .bl b, _, r2 => by cases r2; simp [D.sim]
 | _, _, .str z, _, r2 => by cases r2; simp [D.sim]
 | _, _, .non, _, _ => rfl
 | _, _, .fl _ _, _, _ => rfl
 | _, _, .kl _ _, _, _ => rfl
 | _, _, .obj _ _, _, _ => rfl
 | _, _, .ref _, _, _ => rfl
 | _, _, .cls _, _, _ => rfl
 | _, _, .ty _, _, _ => rfl
 | _, _, .sl _, _, _ => rfl
theorem Ug (I : Inv X pins σ H s) (sub : ∀ a o, w.F a = some o → H a = some o) : ∀ {vs : List V} {ds : List D}, aF X.K T w vs ds → ∀ {es : List D}, aF X.K T w vs es → D.sims ds es = true
 | _, _, .nil, _, r2 => by cases r2; rfl
 | _, _, .cons h t, _, r2 => by
   cases r2 with
   | cons h2 t2 =>
     show (_ && _) = true
     rw [ahj I sub h h2, Ug I sub t t2]
     rfl
end
noncomputable def pPair (mt : Nat → Option Fn) (nf : Nat → Nat) (h : Hh) : D → D → Option Bool
 | .obj c l, .obj c' m => if c = c' ∧ l.length = nf c ∧ m.length = nf c then match mt c with
  | some F => match F [.obj c l, .obj c m] h with
    | .ok (.bl b) _ h' => open Classical in if h' = h ∧ (b = true ∨ D.sims l m = false) then some b else none
    | _ => none
  | none => none
  else none
 | _, _ => none
noncomputable def xV (mt : Nat → Option Fn) (nf : Nat → Nat) (h : Hh) : List D → List D → Option Bool
 | d :: ds, e :: es => (pPair mt nf h d e).bind fun b => if b then xV mt nf h ds es else some false
 | [], [] => some true
 | _, _ => some false
noncomputable def Xn (mt : Nat → Option Fn) (nf : Nat → Nat) (h : Hh) : D → D → Option Bool
 | .tup l, .tup m => xV mt nf h l m
 | _, _ => none
noncomputable def Uh (mt : Nat → Option Fn) (nf : Nat → Nat) (x y : D) : M Bool := fun fr h => M.opt (Xn mt nf h x y) fr h
structure NfF (T : Tb) (mt : Nat → Option Fn) (nf : Nat → Nat) : Prop where
 ex : ∀ c F, mt c = some F → (T.fld c).length = nf c
theorem acV {mt : Nat → Option Fn} {nf : Nat → Nat} {h : Hh} {d e : D} {b : Bool} (q : pPair mt nf h d e = some b) : ∃ c l m F fr', d = .obj c l ∧ e = .obj c m ∧ l.length = nf c ∧ m.length = nf c ∧ mt c = some F ∧ F [d, e] h = .ok (.bl b) fr' h ∧ (b = true ∨ D.sims l m = false) := by
 unfold pPair at q
 split at q
 · rename_i c l c' m
   split at q
   · rename_i hc
     obtain ⟨rfl, h1, h2⟩ := hc
     split at q
     · rename_i F eF
       split at q
       · rename_i b' fr' h' ek
         split at q
         · rename_i hh
           obtain ⟨rfl, hb⟩ := hh
           cases q
           exact ⟨_, _, _, _, _, rfl, rfl, h1, h2, eF, ek, hb⟩
         · cases q
       · cases q
     · cases q
   · cases q
 · cases q
theorem afh {mt : Nat → Option Fn} {nf : Nat → Nat} {h : Hh} {l m : List D} {c : Bool} (q : xV mt nf h l m = some c) (e : l = [] ∨ m = []) : c = (l.length == m.length) := by
 cases l with
 | nil =>
   cases m with
   | nil => unfold xV at q; cases q; rfl
   | cons e es => unfold xV at q; cases q; rfl
 | cons d ds =>
   cases m with
   | nil => unfold xV at q; cases q; rfl
   | cons e es => rcases e with e | e <;> cases e
theorem ad3 {mt : Nat → Option Fn} {nf : Nat → Nat} {h : Hh} {d e : D} {ds es : List D} {c : Bool} (q : xV mt nf h (d :: ds) (e :: es) = some c) : ∃ b, pPair mt nf h d e = some b ∧ ((b = true ∧ xV mt nf h ds es = some c) ∨ (b = false ∧ c = false)) := by
 unfold xV at q
 obtain ⟨b, e1, e2⟩ := Option.bind_eq_some_iff.mp q
 cases b with
 | true => exact ⟨true, e1, .inl ⟨rfl, e2⟩⟩
 | false => exact ⟨false, e1, .inr ⟨rfl, by simpa using e2.symm⟩⟩
theorem afi {mt : Nat → Option Fn} {nf : Nat → Nat} {B : Bs} {w w1 : Wd} {σ σ' : L2.St} {H1 : Hp} {fr : Fr} {h : Hh} {x y : V} {d e : D} {u v : Value} {b : Bool} {Q : Bool → Shared → Prop} (C : Cq X T W k) (hk : j + 1 ≤ k) (Mf : tU X T j "__eq__" mt 1 [] (aD [])) (Ef : EqF X.K T mt) (Nf : NfF T mt nf)
 (R : Rel X.K T B w1 σ H1 fr h) (I : Inv X pins σ' H1 s) (rx : bQ X.K T w1 x d) (ry : bQ X.K T w1 y e) (ru : RelV x u) (rv : RelV y v) (q : pPair mt nf h d e = some b)
 (fin : ∀ w2 H2 s2, w1.le w2 → Rel X.K T B w2 σ H2 fr h → Inv X pins σ' H2 s2 → Q b s2) : wpAny (model X.prog X.w) X.A.in1 (eqBool u v) Q X.xe s := by
 obtain ⟨c, l, m, F, fr', rfl, rfl, hl, hm, eF, ek, hb⟩ := acV q
 have ef : fnOf mt h (.obj c l) = some F := by
  unfold fnOf
  show (match D.ins h (.obj c l) with | some (c, _) => mt c | none => none) = _
  rw [show D.ins h (.obj c l) = some (c, l) from rfl]
  exact eF
 have p : aO X.K T B W (vE X.K T B σ) w1 σ (xU mt (.obj c l) [.obj c m] fr h) (fun z H2 => z = .bl b ∧ ∃ w2, w1.le w2 ∧ Rel X.K T B w2 σ H2 fr h) := by
  have e1 : xU mt (.obj c l) [.obj c m] fr h = .ok (.bl b) fr h := by
   unfold xU
   rw [ef]
   dsimp only
   rw [ek]
  rw [e1]
  exact fun w' H' v' x' r z => ⟨agF z, w', x', r⟩
 obtain ⟨kk, f, fd, ps, a', Cl, dx, fs, G, ex, eH, c1, c2, c3, c5, g, gV, hbn, qq⟩ := (aaj Mf R rx (.cons ry .nil) rfl p).ex
 subst ex
 obtain rfl : u = Value.ref a' := ru
 have go : wpAny (model X.prog X.w) X.A.in1 (richCompare .Eq (.ref a') v) (fun r s' => ∃ b', r = .bool b' ∧ Q b' s') X.xe s := by
  obtain ⟨Eq, tb, lk, nfi⟩ := aal (u := v) Ef R rx ry (by
   rw [Bool.or_eq_true]
   right
   unfold uN
   rw [show D.ins h (.obj c l) = some (c, l) from rfl, show D.ins h (.obj c m) = some (c, m) from rfl]
   dsimp only
   rw [if_pos rfl]
   rfl) (by rw [ef]; exact fun z => by cases z) I rv rfl eH
  obtain ⟨mA, J, _⟩ := ins_get I.hok eH
  obtain ⟨od, J, _⟩ := J.look
  obtain ⟨mm, hF⟩ := I.fr
  have hu : X.A.in1.units < cLine := by
   have := C.u
   show X.A.units + 1 < cLine
   omega
  refine PySem.W.cmp_K (op := .Eq) hu hF I.ok.mod.kin J lk nfi c2.at_ c2.fn (wpAny_mono (Vq (n := 1 + 1) (us := [.ref a', v]) (vs := [.ref a', y]) c3.ok ((C.room.mono hk).in1.mono c5) I.env0.in1 hbn Xm I (.cons rfl (.cons rv .nil)) rfl qq) (fun r s' z => ?_) fun _ _ z => z)
  obtain ⟨z', H', I', rz, ez, w2, le2, R2⟩ := z
  subst ez
  obtain rfl : r = Value.bool b := rz
  exact ⟨b, rfl, fin w2 H' s' le2 R2 I'⟩
 cases ry with
 | @obj p2 dx2 _ vs2 _ s2 t2 =>
   obtain rfl : v = Value.ref p2 := rv
   by_cases hab : a' = p2
   · subst hab
     cases rx with
     | @obj _ dx1 _ vs1 _ s1 t1 =>
       have e0 := s1.symm.trans s2
       have nl := Nf.ex c F eF
       have l1 : vs1.length = (T.fld c).length := by rw [t1.length, hl, nl]
       have l2 : vs2.length = (T.fld c).length := by rw [t2.length, hm, nl]
       have ev : vs1 = vs2 := by
        injection e0 with e0
        injection e0 with _ _ e3
        have := congrArg (List.map Prod.snd) e3
        rwa [List.map_snd_zip (by omega), List.map_snd_zip (by omega)] at this
       subst ev
       have es := Ug I R.sub t1 t2
       have eb : b = true := by
        rcases hb with hb | hb
        · exact hb
        · rw [es] at hb
          cases hb
       subst eb
       exact SeqAt.EqAt.same (A := X.A.in1) (s := s) (.ref a') X.prog X.w X.xe _ (fin w1 H1 s (Wd.le_refl _) R I)
   · exact GQ.eqBool_refG hab go
theorem ahk {mt : Nat → Option Fn} {nf : Nat → Nat} (C : Cq X T W k) (hk : j + 1 ≤ k) (Mf : tU X T j "__eq__" mt 1 [] (aD [])) (Ef : EqF X.K T mt) (Nf : NfF T mt nf) : acU X T W vV .Eq (Uh mt nf) := fun B w σ H fr h x y d e Q R rx ry p => by
 unfold Uh at p
 cases q : Xn mt nf h d e with
 | none => rw [q] at p; exact p.elim
 | some c =>
   rw [q] at p
   unfold Xn at q
   split at q
   · rename_i l m
     obtain ⟨a, xs, rfl, sx, tx⟩ := wA rx
     obtain ⟨b, ys, rfl, sy, ty⟩ := wA ry
     intro pins s σ' v u I rv ru
     obtain rfl : v = Value.ref a := rv
     obtain rfl : u = Value.ref b := ru
     obtain ⟨its, r1, e1, z1⟩ := I.tuple (fX R.sub sx)
     obtain ⟨its2, r2, e2, z2⟩ := I.tuple (fX R.sub sy)
     have n1 : its.toArray.size = l.length := by rw [List.size_toArray, ← r1.length, tx.length]
     have n2 : its2.toArray.size = m.length := by rw [List.size_toArray, ← r2.length, ty.length]
     show wpAny _ _ (richCompare .Eq _ _) _ _ _
     have hu : X.A.units < cLine := by
      have := C.u
      omega
     have fin : ∀ w2 H2 s2, w.le w2 → Rel X.K T B w2 σ H2 fr h → Inv X pins σ' H2 s2 → EP X pins σ' (fun z H' => ∃ c, z = .bl c ∧ Q c H') (.bool c) s2 := fun w2 H2 s2 le2 R2 I2 => ⟨.bl c, H2, I2, rfl, c, rfl, p w2 H2 c le2 R2 rfl⟩
     refine PySem.OwT.rc_tupB hu (fun i s' => xV mt nf h (l.drop i) (m.drop i) = some c ∧ ∃ w1 H1, w.le w1 ∧ Rel X.K T B w1 σ H1 fr h ∧ Inv X pins σ' H1 s') e1 e2 (fun i h1 h2 s' hi => ?_) (fun s' hi => ?_) ⟨q, w, H, Wd.le_refl _, R, I⟩
     · obtain ⟨qi, w1, H1, le1, R1, I1⟩ := hi
       have k1 : i < l.length := by omega
       have k2 : i < m.length := by omega
       rw [aoE k1, aoE k2] at qi
       obtain ⟨b, qb, qr⟩ := ad3 qi
       obtain ⟨v1, g1, t1⟩ := tx.get (aoc k1)
       obtain ⟨v2, g2, t2⟩ := ty.get (aoc k2)
       obtain ⟨u1, j1, y1⟩ := r1.get g1
       obtain ⟨u2, j2, y2⟩ := r2.get g2
       have f1 : its.toArray[i] = u1 := by
        have : its[i]? = some its.toArray[i] := by
         have h1' : i < its.length := by simpa using h1
         rw [aoc h1'] <;> simp
        rw [this] at j1
        exact Option.some.inj j1
       have f2 : its2.toArray[i] = u2 := by
        have : its2[i]? = some its2.toArray[i] := by
         have h2' : i < its2.length := by simpa using h2
         rw [aoc h2'] <;> simp
        rw [this] at j2
        exact Option.some.inj j2
       rw [f1, f2]
       refine afi (w := w) C hk Mf Ef Nf R1 I1 (t1.mono le1) (t2.mono le1) y1 y2 qb fun w2 H2 s2 le2 R2 I2 => ?_
       rcases qr with ⟨rfl, qr⟩ | ⟨rfl, qr⟩
       · exact .inl ⟨rfl, qr, w2, H2, Wd.le_trans le1 le2, R2, I2⟩
       · subst qr
         exact .inr ⟨rfl, fin w2 H2 s2 (Wd.le_trans le1 le2) R2 I2⟩
     · obtain ⟨qi, w1, H1, le1, R1, I1⟩ := hi
       rw [n1, n2] at qi ⊢
       have ec := afh qi (by
        rcases Nat.le_total l.length m.length with z | z
        · left; rw [Nat.min_eq_left z]; exact List.drop_length
        · right; rw [Nat.min_eq_right z]; exact List.drop_length)
       have ec' : (l.length == m.length) = c := by
        rw [ec, List.length_drop, List.length_drop]
        rcases Nat.lt_trichotomy l.length m.length with z | z | z
        · rw [Nat.min_eq_left (by omega), beq_eq_false_iff_ne.mpr (by omega), beq_eq_false_iff_ne.mpr (by omega)]
        · rw [z]; simp
        · rw [Nat.min_eq_right (by omega), beq_eq_false_iff_ne.mpr (by omega), beq_eq_false_iff_ne.mpr (by omega)]
       rw [ec']
       exact fin w1 H1 s' le1 R1 I1
   · cases q
end
end Pk
namespace L2
open PySem PySem.Spec PyProof.Rows
def endsAt (oi : Option Nat) (D : Ends) : Ends := match oi with
 | none => D
 | some i => { nx := fun σ' H' => D.nx (σ'.set i none) H', rt := D.rt, bk := fun σ' H' => D.bk (σ'.set i none) H', ct := fun σ' H' => D.ct (σ'.set i none) H' }
def acb (oi : Option Nat) (σ : St) (a : Addr) : St := match oi with
 | none => σ
 | some i => σ.set i (some (.ref a))
abbrev Vr := Value × Option Nat × (Addr → Value → Option Addr → TS)
def akW (K : PySem.W.Frag) (Wout : WX) (D : Ends) : List Vr → WX
 | [] => Wout
 | (c, oi, ts) :: r => fun cls d σ H => ∃ b, PySem.W.exmOne K cls c = some b ∧ (b = true → ∀ a, H a = none → ts a cls d (endsAt oi D) (acb oi σ a) H) ∧ (b = false → akW K Wout D r cls d σ H)
inductive Vs (X : Cx) : Option Str → Option Nat → Prop
 | no : Vs X none none
 | at_ {n : Str} {i : Nat} (hi : X.N[i]? = some n) (hln : X.env.kindOf n = some .local) : Vs X (some n) (some i)
inductive Qq (X : Cx) : List ExceptHandler → List Vr → Prop
 | nil : Qq X [] []
 | cons {x : Str} {c : Value} {ts : Addr → Value → Option Addr → TS} {b₀ : Stmt} {suite : List Stmt} {np pos' : Pos} {nm : Option Str} {oi : Option Nat} {hds : List ExceptHandler} {l : List Vr} (hc : Names X x c) (hn : Vs X nm oi)
  (hsu : ∀ (a : Addr) (oe : Obj) (cls : Value) (d : Option Addr) (pn : List (Addr × Obj)), Zc cls d oe → (∃ vs, oe.data = .fields vs) → PSs (X.suite a ((a, oe) :: pn)) (b₀ :: suite) (ts a cls d)) (r : Qq X hds l) :
  Qq X (.ExceptHandler (some (.Name x np)) nm (b₀ :: suite) pos' :: hds) ((c, oi, ts) :: l)
section
variable {X : Cx} {body : List Stmt} {h₀ : ExceptHandler} {hds : List ExceptHandler} {l : List Vr} {pos : Pos} {tb : WX → TS} {Wout : WX}
end
end L2
namespace Pk
open PySem PySem.Spec L2
abbrev Hd := Option Nat × (Nat → Option Bool) × (aP → M Fl)
def agG : List Hd → aP → M Fl
 | [], x => fun fr h => .exc x fr h
 | (oi, cond, ms) :: r, x => fun fr h => match cond x.c with
   | some true => match oi with
     | some i => if i < fr.length then ai0 i (ms x (fr.set i none) h) else .err
     | none => ms x fr h
   | some false => agG r x fr h
   | none => .err
def amj (cs : List Hd) (mb : M Fl) : M Fl := fun fr h => match mb fr h with
 | .exc x fr1 h1 => agG cs x fr1 h1
 | r => r
section
variable {X : Cx} {T : Tb} {W : WX} {k : Nat} {body : List Stmt} {h₀ : ExceptHandler} {hds : List ExceptHandler} {pos : Pos} {mb : M Fl} {cs : List Hd}
inductive Qs (X : Cx) (T : Tb) (W : WX) : List ExceptHandler → List Hd → Prop
 | nil : Qs X T W [] []
 | named {x n : Str} {c : Value} {cond : Nat → Option Bool} {b₀ : Stmt} {suite : List Stmt} {np pos' : Pos} {i : Nat} {ms : aP → M Fl} {hds : List ExceptHandler} {l : List Hd} (hi : X.N[i]? = some n) (hln : X.env.kindOf n = some .local) (hc : Names X x c)
  (hcond : ∀ cc b, cond cc = some b → PySem.W.exmOne X.K (.ref (T.cad cc)) c = some b)
  (hsu : ∀ (a : Addr) (oe : Obj) (cls : Value) (d : Option Addr) (pn : List (Addr × Obj)) (y : aP), Su X T i a oe cls d pn y → acR (PX X.K T i a y cls d) (X.suite a ((a, oe) :: pn)) T W (b₀ :: suite) (ms y))
  (r : Qs X T W hds l) : Qs X T W (.ExceptHandler (some (.Name x np)) (some n) (b₀ :: suite) pos' :: hds) ((some i, cond, ms) :: l)
 | only {x : Str} {c : Value} {cond : Nat → Option Bool} {b₀ : Stmt} {suite : List Stmt} {np pos' : Pos} {ms : aP → M Fl} {hds : List ExceptHandler} {l : List Hd} (hc : Names X x c)
  (hcond : ∀ cc b, cond cc = some b → PySem.W.exmOne X.K (.ref (T.cad cc)) c = some b)
  (hsu : ∀ (a : Addr) (oe : Obj) (pn : List (Addr × Obj)) (y : aP), acR (fun _ _ => True) (X.suite a ((a, oe) :: pn)) T W (b₀ :: suite) (ms y))
  (r : Qs X T W hds l) : Qs X T W (.ExceptHandler (some (.Name x np)) none (b₀ :: suite) pos' :: hds) ((none, cond, ms) :: l)
end
end Pk
namespace Pk
open PySem PySem.Spec L2
section
variable {P : Wd → L2.St → Prop} {X : Cx} {T : Tb} {W : WX} {a b : Expr} {ma mb : M D} {pos pf : Pos} {x : Str} {tab : Tg → Tg → Option Bool}
end
end Pk
namespace Pk
open PySem PySem.Spec L2
def amk (_ : Hh) : D → Option D
 | .bl b => some (.str (if b then "True" else "False"))
 | _ => none
def als (_ : Hh) : D → Option D
 | .bl b => some (.bl b)
 | .int i => some (.bl (i != 0))
 | _ => none
section
variable {X : Cx} {T : Tb} {W : WX} {a : Expr} {ma : M D} {pos pf : Pos}
end
end Pk
namespace Pk
open PySem PySem.Spec PyProof.Rows L2
def aml : List Stmt → Expr
 | .Expr (.Call _ [e] _ _) _ :: _ => e
 | _ => .Name "" ⟨0, 0, 0, 0⟩
def agH : List D → Option (List Str)
 | [] => some []
 | .str s :: r => (agH r).map (s :: ·)
 | _ => none
def alg (K : PySem.W.Frag) (H : Hp) (vs : List V) : Prop := ∃ (a : Addr) (ss : List Str), vs = [.ref a] ∧ SqT K H a (ss.map V.str) ∧ (ss.map (·.length)).sum + ss.length ≤ 1000
def akX (ds : List D) : Bool := match ds with
 | [.tup l] => match agH l with
   | some ss => decide ((ss.map (·.length)).sum + ss.length ≤ 1000)
   | none => false
 | _ => false
theorem oF {z sep : Str} (hz : z.length ≤ 1000) (hs : sep.length ≤ 16) : ∀ ss : List Str, (ss.map (·.length)).sum + ss.length ≤ 1000 → z.length + (Txt.join sep ss).length ≤ sizeLine := by
 intro ss h
 have e : Txt.join sep ss = Str.join sep ss := eq_of_beq (join_plain_closes sep ss)
 have b : (100000 : Nat) ≤ sizeLine := by decide
 rw [e]
 cases ss with
 | nil =>
   have q : (Str.join sep []).length = 0 := rfl
   omega
 | cons a l =>
   rw [len_join_cons]
   simp only [an4] at h
   have q : l.length * sep.length ≤ l.length * 16 := Nat.mul_le_mul_left _ hs
   omega
inductive JP (scope : Scope) (m : Str → Option Value) : List Expr → List Str → Prop
 | nil : JP scope m [] []
 | con {z : Str} {j : Nat} {pos : Pos} {es : List Expr} {ys : List Str} (hz : z.length ≤ 2000) (r : JP scope m es ys) : JP scope m (.Constant (.str z) j pos :: es) (z :: ys)
 | int {f : Str} {i : Int} {t : Tok} {pos pos2 : Pos} {es : List Expr} {ys : List Str} (hl : scope.names.lookup f = some .local) (hd : (f == ("__debug__" : Str)) = false) (hm : m f = some (.int i t)) (hi : i.natAbs.log2 < 1920) (r : JP scope m es ys) : JP scope m (.FormattedValue (.Name f pos) (-1) none pos2 :: es) (toString i :: ys)
 | str {f y : Str} {t : Tok} {pos pos2 : Pos} {es : List Expr} {ys : List Str} (hl : scope.names.lookup f = some .local) (hd : (f == ("__debug__" : Str)) = false) (hm : m f = some (.str y t)) (hy : y.length ≤ 2000) (r : JP scope m es ys) : JP scope m (.FormattedValue (.Name f pos) (-1) none pos2 :: es) (y :: ys)
section
variable {scope : Scope} {qual : Str} {m : Str → Option Value} {L fI cda cc : Addr} {prog : Program} {w : World} {A' : Around} {h : Heap} {g : Array GenState} {d : Drawn} {os : OsState} {E' : Value → Shared → Prop}
end
end Pk
namespace L2
open PySem PySem.Spec PyProof.Rows
def aan (X : Cx) (te : Expr) (tst : Value → Option Bool) : Prop :=
 ∀ (a : Addr) (oe : Obj) (pn pins : List (Addr × Obj)) (σ : St) (H : Hp) (s : Shared) (cls : Value) (b : Bool) (Q : Bool → Shared → Prop) (E : Value → Shared → Prop), Inv (X.suite a ((a, oe) :: pn)) pins σ H s → PySem.W.Looks (model X.prog X.w) s.heap (typeOf (.ref a)) cls → tst cls = some b →
   (∀ h', (∀ q o, s.heap.get? q = some o → h'.get? q = some o) → Q b { s with heap := h' }) →
   wpAny (model X.prog X.w) (X.A.mark (some (.ref a))) (eval te X.env) (fun c s1 => wpAny (model X.prog X.w) (X.A.mark (some (.ref a))) (excMatches (.ref a) c) Q E s1) E s
abbrev RJ := (Value → Option Bool) × Option Nat × (Addr → Value → Option Addr → TS)
def aj8 (Wout : WX) (D : Ends) : List RJ → WX
 | [] => Wout
 | (c, oi, ts) :: r => fun cls d σ H => ∃ b, c cls = some b ∧ (b = true → ∀ a, H a = none → ts a cls d (endsAt oi D) (acb oi σ a) H) ∧ (b = false → aj8 Wout D r cls d σ H)
inductive Ui (X : Cx) : List ExceptHandler → List RJ → Prop
 | nil : Ui X [] []
 | cons {te : Expr} {c : Value → Option Bool} {ts : Addr → Value → Option Addr → TS} {b₀ : Stmt} {suite : List Stmt} {pos' : Pos} {nm : Option Str} {oi : Option Nat} {hds : List ExceptHandler} {l : List RJ} (hc : aan X te c) (hn : Vs X nm oi)
  (hsu : ∀ (a : Addr) (oe : Obj) (cls : Value) (d : Option Addr) (pn : List (Addr × Obj)), Zc cls d oe → (∃ vs, oe.data = .fields vs) → PSs (X.suite a ((a, oe) :: pn)) (b₀ :: suite) (ts a cls d)) (r : Ui X hds l) :
  Ui X (.ExceptHandler (some te) nm (b₀ :: suite) pos' :: hds) ((c, oi, ts) :: l)
section
variable {X : Cx} {body : List Stmt} {h₀ : ExceptHandler} {hds : List ExceptHandler} {l : List RJ} {pos : Pos} {tb : WX → TS} {Wout : WX}
end
end L2
namespace Pk
open PySem PySem.Spec L2
section
variable {X : Cx} {T : Tb} {W : WX} {k : Nat} {body : List Stmt} {h₀ : ExceptHandler} {hds : List ExceptHandler} {pos : Pos} {mb : M Fl} {cs : List Hd}
inductive Qt (X : Cx) (T : Tb) (W : WX) : List ExceptHandler → List Hd → Prop
 | nil : Qt X T W [] []
 | named {te : Expr} {n : Str} {tst : Value → Option Bool} {cond : Nat → Option Bool} {b₀ : Stmt} {suite : List Stmt} {pos' : Pos} {i : Nat} {ms : aP → M Fl} {hds : List ExceptHandler} {l : List Hd} (hi : X.N[i]? = some n) (hln : X.env.kindOf n = some .local) (hc : aan X te tst)
  (hcond : ∀ cc b, cond cc = some b → tst (.ref (T.cad cc)) = some b)
  (hsu : ∀ (a : Addr) (oe : Obj) (cls : Value) (d : Option Addr) (pn : List (Addr × Obj)) (y : aP), Su X T i a oe cls d pn y → acR (PX X.K T i a y cls d) (X.suite a ((a, oe) :: pn)) T W (b₀ :: suite) (ms y))
  (r : Qt X T W hds l) : Qt X T W (.ExceptHandler (some te) (some n) (b₀ :: suite) pos' :: hds) ((some i, cond, ms) :: l)
 | only {te : Expr} {tst : Value → Option Bool} {cond : Nat → Option Bool} {b₀ : Stmt} {suite : List Stmt} {pos' : Pos} {ms : aP → M Fl} {hds : List ExceptHandler} {l : List Hd} (hc : aan X te tst)
  (hcond : ∀ cc b, cond cc = some b → tst (.ref (T.cad cc)) = some b)
  (hsu : ∀ (a : Addr) (oe : Obj) (pn : List (Addr × Obj)) (y : aP), acR (fun _ _ => True) (X.suite a ((a, oe) :: pn)) T W (b₀ :: suite) (ms y))
  (r : Qt X T W hds l) : Qt X T W (.ExceptHandler (some te) none (b₀ :: suite) pos' :: hds) ((none, cond, ms) :: l)
def am1 (K : PySem.W.Frag) (C : Addr) : Bool := PySem.W.excIn K C [.type "ValueError", .type "Exception", .type "BaseException", .type "object"] "ValueError.__new__" && (PySem.W.keepIn K (.ref C) && (decide (PySem.W.subIn K (.ref C) (.type "BaseException") = some true) && decide (PySem.W.typeIn K (.ref C) = some (.type "type"))))
structure ExB (K : PySem.W.Frag) (C : Addr) : Prop where
 q : PySem.W.excIn K C [.type "ValueError", .type "Exception", .type "BaseException", .type "object"] "ValueError.__new__" = true
 kC : PySem.W.keepIn K (.ref C) = true
 exC : PySem.W.subIn K (.ref C) (.type "BaseException") = some true
 tyC : PySem.W.typeIn K (.ref C) = some (.type "type")
def alh (c : Nat) (ma : M D) : M Fl := ma.bind fun _ fr h => .exc ⟨c, []⟩ fr h
end
section
variable {P : Wd → L2.St → Prop} {X : Cx} {T : Tb} {W : WX} {a b e : Expr} {m ma mb : M D} {pos : Pos}
end
end Pk
namespace Pk
open PySem PySem.Spec L2
def MN : List D → List D → List D
 | a :: as, b :: bs => .tup [a, b] :: MN as bs
 | _, _ => []
def akY : D → D → Option (List D)
 | .tup l, .tup m => some (MN l m)
 | .fl l, .fl m => some (MN l m)
 | .fl l, .kl m => some (MN l m)
 | .kl l, .fl m => some (MN l m)
 | .kl l, .kl m => some (MN l m)
 | _, _ => none
def am2 (ma mb : M D) : M (List D) := ma.bind fun x => mb.bind fun y => M.opt (akY x y)
section
variable {X : Cx} {T : Tb} {W : WX} {k kk : Nat} {pos p tpos : Pos} {elts : List Expr} {a b : Expr} {ma mb : M D}
end
section
variable {P : Wd → L2.St → Prop} {X : Cx} {T : Tb} {W : WX} {k : Nat} {a b e : Expr} {m ma mb : M D} {pos : Pos}
end
def am3 (n : Nat) (gs : List D → M Unit) (d : D) : M Unit := match d with
 | .tup l => if l.length = n then gs l else M.opt none
 | .fl l => if l.length = n then gs l else M.opt none
 | _ => M.opt none
def am4 (_ : Hh) : D → D → Option D
 | .fl l, .int k => if 0 ≤ k ∧ k < 1000 ∧ l.length ≤ 100 then some (.nl (List.replicate k.toNat l).flatten) else none
 | _, _ => none
section
variable {X : Cx} {T : Tb} {W : WX} {k kk n : Nat} {is : List Nat} {tgs : List Expr} {gs : List D → M Unit} {pos : Pos} {a b : Expr} {ma mb : M D}
end
def putS : List Nat → List V → L2.St → L2.St
 | i :: is, v :: vs, σ => putS is vs (σ.set i (some v))
 | _, _, σ => σ
section
variable {X : Cx} {T : Tb} {W : WX} {k : Nat} {a b c : Expr} {pos : Pos}
end
end Pk
namespace Pk
open PySem PySem.Spec PyProof.Rows L2
section
variable {prog : Program} {w : World} {A : Around} {E : Value → Shared → Prop} {s : Shared} {l : Addr} {its : List Value} {ns : List Int} {Q : Value → Shared → Prop}
end
def amm (K : PySem.W.Frag) : List V → Hp → VK → Prop := fun vs H Q => ∃ (a : Addr) (ns : List Int), vs = [V.ref a] ∧ SqT K H a (ns.map V.int) ∧ 0 < ns.length ∧ ∀ m, m ∈ ns → (∀ y, y ∈ ns → y ≤ m) → Q (.int m) H
section
variable {X : Cx} {T : Tb} {W : WX} {k : Nat} {e a b c : Expr} {es : List Expr} {m ma mb mc : M D} {pos pf : Pos}
def amn (h : Hh) (d : D) : Option D := match d with
 | .tup l => match D.ints l with
   | some (a :: r) => some (.int (acL a r))
   | _ => none
 | _ => ajZ h d
end
end Pk
namespace Pk
open PySem PySem.Spec PyProof.Rows L2
section
variable {P : Program} {w : World} {A : Around} {E : Value → Shared → Prop} {s : Shared} {env : Env} {x : Str} {pe pt px p0 pc pos : Pos} {iter : Expr} {scope : Scope} {cl : List (Str × Addr)} {c : Int} {k0 : Nat} {Q : Value → Shared → Prop}
def akZ (ns : List Int) (c : Int) (i : Nat) (k : Int) : Bool := decide (k ∈ (ns.take i).filter fun k => decide (k > c))
end
def ai4 (a : Int) : List Int → List Int
 | [] => [a]
 | b :: l => if a < b then a :: b :: l else if a = b then b :: l else b :: ai4 a l
def agI : List Int → List Int
 | [] => []
 | a :: l => ai4 a (agI l)
section
variable {X : L2.Cx} {T : Tb} {W : WX} {k : Nat} {a iter : Expr} {ma : M D} {pf pos pe pt px p0 pc pos2 : Pos} {x : Str} {scope : Scope} {cl : List (Str × Addr)} {c : Int} {k0 : Nat}
def vSt (w0 : World) (c : Int) : jY V D := fun _ _ _ _ _ H _ v d => ∃ p is n, v = .ref p ∧ d = .fl (is.map .int) ∧ H p = some (SetO w0 p (akZ is c is.length) n) ∧ n ≤ is.length ∧ is.length ≤ 50
def bTI : D → Option D
 | .tup l => match D.ints l with
   | some is => if is.length ≤ 50 then some (.fl (is.map .int)) else none
   | none => none
 | _ => none
def alu (c : Int) (_ : Hh) (d : D) : Option D := match d with
 | .fl l => match D.ints l with
   | some is => some (.nl ((agI (is.filter fun k => decide (k > c))).map .int))
   | none => none
 | _ => none
theorem Yj : ∀ l : List Int, D.ints (l.map D.int) = some l
 | [] => rfl
 | a :: l => by
   rw [an1, D.ints, Yj l]
   rfl
def Uj (a : Int) : List Int → List Int
 | [] => [a]
 | b :: l => if a ≤ b then a :: b :: l else b :: Uj a l
def vU : List Int → List Int
 | [] => []
 | a :: l => Uj a (vU l)
theorem Qu {a : Int} : ∀ {l : List Int}, (Uj a l).Perm (a :: l)
 | [] => List.Perm.refl _
 | b :: l => by
   unfold Uj
   split
   · exact List.Perm.refl _
   · exact (Qu.cons b).trans (List.Perm.swap a b l)
theorem aao {a : Int} : ∀ {l : List Int}, l.Pairwise (· ≤ ·) → (Uj a l).Pairwise (· ≤ ·)
 | [], _ => by simp [Uj]
 | b :: l, h => by
   obtain ⟨h1, h2⟩ := List.pairwise_cons.mp h
   unfold Uj
   split
   · rename_i hab
     refine List.pairwise_cons.mpr ⟨fun x hx => ?_, h⟩
     rcases List.mem_cons.mp hx with rfl | hx
     · exact hab
     · have := h1 x hx; omega
   · refine List.pairwise_cons.mpr ⟨fun x hx => ?_, aao h2⟩
     rcases List.mem_cons.mp (Qu.mem_iff.mp hx) with rfl | hx
     · omega
     · exact h1 x hx
theorem vW : ∀ {l : List Int}, (vU l).Perm l
 | [] => List.Perm.refl _
 | _ :: _ => Qu.trans (vW.cons _)
theorem Qv : ∀ {l : List Int}, (vU l).Pairwise (· ≤ ·)
 | [] => List.Pairwise.nil
 | _ :: _ => aao Qv
def CZ (h : Hh) (d : D) : Option D := match d.lints h with
 | some is => if is.length < 64 then some (.nl ((vU is).map .int)) else none
 | none => none
theorem ad4 (C : Cq X T W k) (sa : JK X T W a ma) (hm : X.mg "sorted" = none) (hg : Gl X "sorted" := by rfl) (he : starEach (a :: []) X.env = (false, eval a X.env) :: starEach [] X.env := by exact eY rfl) : ph X T W (.Call (.Name "sorted" pf) [a] [] pos) (aA CZ ma) :=
 acK (id := "sorted") sa (fun B w σ H fr h x d z Q R rx q kk => by
  unfold CZ at q
  split at q
  · rename_i is el
    split at q
    · rename_i hl
      cases q
      obtain ⟨p, rfl, sq⟩ := Yc R rx el
      refine jQ cr_sorted ⟨p, is, rfl, sq, hl, fun ns' p' pm asc np => ?_⟩
      have e : ns' = vU is := (pm.trans vW.symm).eq_of_pairwise (fun a b _ _ h1 h2 => Int.le_antisymm h1 h2) asc Qv
      rw [e]
      exact GJ R (Mr _) np kk
    · cases q
  · cases q) hm hg (by decide +kernel) (by decide) (by decide) he
end
end Pk
namespace Pk
open PySem PySem.Spec L2
def vJC : jY It (Nat × List D × List D) := fun K T B _ w _ _ J x => ∀ i w1 σ1 H1 fr1 h1, w.le w1 → Rel K T B w1 σ1 H1 fr1 h1 → h1[x.1]? = some (.nl x.2.1) →
 (x.2.2.length ≤ i → J.stop i H1) ∧ ∀ d, x.2.2[i]? = some d → J.go i H1 ∧ ∀ y H2, J.yld i H1 y H2 → ∃ w2, w1.le w2 ∧ Rel K T B w2 σ1 H2 fr1 h1 ∧ bQ K T w2 y d
open Classical in
noncomputable def uO (n : Nat) (l : List D) (g : D → M Unit) (b : M Fl) : List D → M Fl
 | [] => fun fr h => if h[n]? = some (.nl l) then .ok .nx fr h else .err
 | d :: ds => fun fr h => if h[n]? = some (.nl l) then (match g d fr h with
   | .ok _ fr h => match b fr h with
     | .ok .nx fr h => uO n l g b ds fr h
     | .ok .ct fr h => uO n l g b ds fr h
     | .ok .brk fr h => .ok .nx fr h
     | .ok (.rt d) fr h => .ok (.rt d) fr h
     | .exc x fr h => .exc x fr h
     | .err => .err
   | _ => .err) else .err
noncomputable def xW (li : M (Nat × List D × List D)) (g : D → M Unit) (b : M Fl) : M Fl := li.bind fun x => uO x.1 x.2.1 g b x.2.2
def vX (h : Hh) (d : D) : Option (Nat × List D) := match d with
 | .ref n => match h[n]? with
   | some (.nl l) => some (n, l)
   | _ => none
 | _ => none
theorem acW {h : Hh} {d : D} {n : Nat} {l : List D} (e : vX h d = some (n, l)) : d = .ref n ∧ h[n]? = some (.nl l) := by
 unfold vX at e
 split at e
 · split at e
   · rename_i q; cases e; exact ⟨rfl, q⟩
   · cases e
 · cases e
def Bg (m : M D) : M (Nat × List D × List D) := m.bind fun d fr h => M.opt ((vX h d).map fun x => (x.1, x.2, x.2)) fr h
def ak0 (h : Hh) (d e : D) : Option (Nat × List D × List D) := match vX h d, e with
 | some (n, l), .fl m => some (n, l, MN l m)
 | _, _ => none
def amo (ma mb : M D) : M (Nat × List D × List D) := ma.bind fun d => mb.bind fun e fr h => M.opt (ak0 h d e) fr h
section
variable {X : Cx} {T : Tb} {W : WX} {k kk : Nat} {pos p tpos : Pos} {tg iter a c : Expr} {elts : List Expr} {body : List Stmt} {g : D → M Unit} {b : M Fl} {is : List Nat} {li : M (Nat × List D × List D)} {ma mb : M D}
theorem ai6 (C : Cq X T W k) (si : iT (WI X tg iter) X.K T W vJC li) (sg : Fv X T is tg g) (sb : DN X T W body b) (hs : ∀ x, foldedSetIterable iter X.env x = pure x := by intro _; rfl) : wO X T W (.For tg iter body [] pos) (xW li g b) := fun B w σ H fr h D R p =>
 wV (ps_for C.po C.calm Py Vf Ab hs) (si B w σ H fr h _ R (dI.bind (VR := vJC X.K T B σ) p fun x fr1 h1 w1 H1 J e1 l1 r1 vj p1 => by
  obtain ⟨n, l, ds⟩ := x
  refine ⟨fun i m σ H => m = ds.length - i ∧ i ≤ ds.length ∧ ∃ w' fr' h', w1.le w' ∧ Rel X.K T B w' σ H fr' h' ∧ dI X.K T B W w' (uO n l g b (ds.drop i) fr' h') D, ⟨ds.length, by simp, Nat.zero_le _, w1, fr1, h1, Wd.le_refl _, r1, p1⟩, ?_⟩
  rintro i m σ2 H2 ⟨rfl, hi, w2, fr2, h2, l2, r2, p2⟩
  by_cases hlt : i < ds.length
  · have ed : ds.drop i = ds[i] :: ds.drop (i + 1) := aoE hlt
    rw [ed] at p2
    unfold uO at p2
    by_cases hc : h2[n]? = some (.nl l)
    · rw [if_pos hc] at p2
      obtain ⟨js, jg⟩ := vj i w2 σ2 H2 fr2 h2 l2 r2 hc
      obtain ⟨go, y⟩ := jg ds[i] (aoc hlt)
      refine .inr ⟨go, fun σ' H' => ∃ w' fr' h', w1.le w' ∧ Rel X.K T B w' σ' H' fr' h' ∧ dI X.K T B W w' (uO n l g b (ds.drop (i + 1)) fr' h') D, fun σ' H' q => ⟨ds.length - (i + 1), by omega, rfl, hlt, q⟩, fun x H3 yx => ?_⟩
      obtain ⟨w3, l3, r3, rx⟩ := y x H3 yx
      refine sg B w3 σ2 H3 fr2 h2 x ds[i] _ r3 rx ?_
      cases e2 : g ds[i] fr2 h2 with
      | ok u fr3 h3 =>
        rw [e2] at p2
        intro w4 σ4 H4 l4 r4 _
        refine sb B w4 σ4 H4 fr3 h3 _ r4 ?_
        have l34 : w1.le w4 := Wd.le_trans l2 (Wd.le_trans l3 l4)
        dsimp only at p2
        cases e3 : b fr3 h3 with
        | ok f fr4 h4 =>
          rw [e3] at p2
          cases f with
          | nx => exact fun w5 σ5 H5 l5 r5 => ⟨w5, fr4, h4, Wd.le_trans l34 l5, r5, p2.le (Wd.le_trans (Wd.le_trans l3 l4) l5)⟩
          | ct => exact fun w5 σ5 H5 l5 r5 => ⟨w5, fr4, h4, Wd.le_trans l34 l5, r5, p2.le (Wd.le_trans (Wd.le_trans l3 l4) l5)⟩
          | brk => exact fun w5 σ5 H5 l5 r5 => p2 w5 σ5 H5 (Wd.le_trans (Wd.le_trans l3 l4) l5) r5
          | rt d => exact fun w5 σ5 H5 v l5 r5 rv => p2 w5 σ5 H5 v (Wd.le_trans (Wd.le_trans l3 l4) l5) r5 rv
        | exc y fr4 h4 =>
          rw [e3] at p2
          exact fun w5 σ5 H5 cc dd l5 r5 z => p2 w5 σ5 H5 cc dd (Wd.le_trans (Wd.le_trans l3 l4) l5) r5 z
        | err => rw [e3] at p2; exact p2
      | exc y fr3 h3 => rw [e2] at p2; exact p2
      | err => rw [e2] at p2; exact p2
    · rw [if_neg hc] at p2
      exact p2.elim
  · have e : i = ds.length := by omega
    subst e
    rw [List.drop_length] at p2
    unfold uO at p2
    by_cases hc : h2[n]? = some (.nl l)
    · rw [if_pos hc] at p2
      exact .inl ⟨(vj _ w2 σ2 H2 fr2 h2 l2 r2 hc).1 (Nat.le_refl _), p2 w2 σ2 H2 (Wd.le_refl _) r2⟩
    · rw [if_neg hc] at p2
      exact p2.elim))
theorem aap {K : PySem.W.Frag} {B : Bs} {w : Wd} {σ : L2.St} {H : Hp} {fr : Fr} {h : Hh} {q : Addr} {n : Nat} {l : List D} (R : Rel K T B w σ H fr h) (hq : w.I[n]? = some q) (hc : h[n]? = some (.nl l)) : ∃ vs, SqL K H q vs ∧ aF K T w vs l := by
 obtain ⟨o, eH, ro⟩ := R.cel n q _ hq hc
 cases ro with
 | lst r => exact ⟨_, SqL.of eH, r⟩
theorem aj9 {w w' : Wd} {n : Nat} {q : Addr} (l : w.le w') (h : w.I[n]? = some q) : w'.I[n]? = some q := by
 obtain ⟨r, e⟩ := l.2
 rw [e, aox (List.getElem?_eq_some_iff.mp h).1]
 exact h
end
end Pk
namespace PySem
namespace SlK
open Sem (wp)
open PySem.W PySem.Calls PyProof.Rows
section
variable {prog : Program} {w : World} {A : Around} {E : Value → Shared → Prop} {h : Heap} {g : Array GenState} {d : Drawn} {t : Nat} {os : OsState} {a : Addr} {o : Obj}
end
section
variable {prog : Program} {w : World} {A : Around} {E : Value → Shared → Prop} {s : Shared} {K : Frag} {x C L f : Addr} {h₀ : Heap} {m : Str → Option Value} {ox : Obj} {od : Option Obj}
end
end SlK
end PySem
namespace Pk
open PySem PySem.Spec L2
def am5 (K : PySem.W.Frag) (C : Addr) : Bool := PySem.W.noSeq K C
structure am6 (K : PySem.W.Frag) (T : Tb) (mt : Nat → Option Fn) : Prop where
 ex : ∀ c F, mt c = some F → PySem.W.noSeq K (T.cad c) = true
section
variable {X : Cx} {T : Tb} {W : WX} {k kk j n c : Nat} {pos pf px p2 : Pos} {a b e : Expr} {es : List Expr} {lo hi : Option Expr} {ma mb m : M D} {ml mh : M (Option Int)} {x : Str}
def alv (mt : Nat → Option Fn) (ma : M D) (ml mh : M (Option Int)) : M D := ma.bind fun o => ml.bind fun l => mh.bind fun u => MK mt o [.sl l u]
def ak1 (t : String) : Bool := ["int", "bool", "str", "tuple", "list"].contains t
def amq (tab : Tg → Tg → Option Bool) (h : Hh) (d c : D) : Option D := match d with
 | .sl _ _ => match c with
   | .ty t => if ak1 t then some (.bl false) else none
   | _ => none
 | d => rG tab h d c
theorem za {tab : Tg → Tg → Option Bool} (F : Xe X.K T tab) {B : Bs} {w : Wd} {σ : L2.St} {H : Hp} {fr : Fr} {h : Hh} {x y : V} {d e z : D} {Q : VK} (R : Rel X.K T B w σ H fr h) (rx : bQ X.K T w x d) (ry : bQ X.K T w y e) (q : rG tab h d e = some z)
 (kk : ∀ w' H' v, w.le w' → Rel X.K T B w' σ H' fr h → vV X.K T B σ w' H' fr v z → Q v H') : cM X (.builtin "isinstance") [x, y] H Q := by
 unfold rG at q
 cases et : d.tag h with
 | none => rw [et] at q; cases q
 | some t =>
   rw [et] at q
   have one : ∀ u, e.ctag = some u → (tab t u).map D.bl = some z → cM X (.builtin "isinstance") [x, y] H Q := fun u ec eq => by
    obtain ⟨bb, eb, rfl⟩ := Option.map_eq_some_iff.mp eq
    exact jQ call_isi ⟨x, y, t.v T, u.v T, bb, rfl, T6 ry ec, KR F R (.inl rx) et eb, F.kit t u bb eb, kk w H _ (Wd.le_refl _) R (.bl bb)⟩
   cases e with
   | tup l =>
     dsimp only at q
     cases ec : Jo l with
     | none => rw [ec] at q; cases q
     | some us =>
       rw [ec] at q
       cases us with
       | nil => cases q
       | cons u us =>
         obtain ⟨bb, eb, rfl⟩ := Option.map_eq_some_iff.mp q
         obtain ⟨p, vs, rfl, sq, rs⟩ := wA ry
         have ty : TyX X.K H x (t.v T) := by
          rcases S8 eb with z | ⟨u', b', z⟩
          · cases z
          · exact KR F R (.inl rx) et z
         exact jQ Ye ⟨x, p, vs, t.v T, (u :: us).map (Tg.v T), bb, rfl, fX R.sub sq, PP rs ec, ty, Mq F eb, kk w H _ (Wd.le_refl _) R (.bl bb)⟩
   | cls c => exact one _ rfl q
   | ty t => exact one _ rfl q
   | _ => cases q
def amr (h : Hh) (d i : D) : Option D := match i with
 | .sl lo hi => match d.der h with
   | .fl l => some (.nl (cutD l lo hi))
   | .nl l => some (.nl (cutD l lo hi))
   | .kl l => some (.nl (cutD l lo hi))
   | _ => none
 | i => bT h d i
end
end Pk
namespace Pk
open PySem PySem.Spec L2
section
variable {X : Cx} {T : Tb} {W : WX} {k kk j n c : Nat} {pos pf px p2 p pr : Pos} {a b e : Expr} {es : List Expr} {ma mb m : M D} {ms : List (M D)} {x : Str}
def ak2 (a b : Int) : Bool := decide (-(2 ^ 62) ≤ a) && decide (a < 2 ^ 62) && decide (-(2 ^ 62) ≤ b) && decide (b < 2 ^ 62) && decide ((b - a).toNat ≤ 2 ^ 24)
def rgD (a b : Int) : List D := (aoe (b - a).toNat).map fun i => D.int (a + (i : Nat))
def bRg (x y : D) : Option D := match x, y with
 | .int a, .int b => if ak2 a b then some (.nl (rgD a b)) else none
 | _, _ => none
def alx (ma : M D) : M D := ma.bind fun n => M.opt (bRg (.int 0) n)
def aly (ma mb : M D) : M D := ma.bind fun a => mb.bind fun b => M.opt (bRg a b)
def am7 (i : Nat) (f : Int → Int → Int) (m : M D) : M Fl := fun fr h => match fr[i]? with
 | some (some (.int a)) => (m.bind fun d fr h => match d with
   | .int b => .ok .nx (fr.set i (some (.int (f a b)))) h
   | _ => .err) fr h
 | _ => .err
def ak3 (d : D) : Option D := match d with
 | .str y => if y.length ≤ big then some (.str y) else none
 | .int i => if i.natAbs.log2 < 1920 then some (.str (toString i)) else none
 | _ => none
def am8 (m : M D) : M D := m.bind fun d => M.opt (ak3 d)
def vS : jY Str Str := fun _ _ _ _ _ _ _ b c => b = c
def mJs : List (M D) → Str → M Str
 | [], acc => M.ret acc
 | m :: ms, acc => m.bind fun d => match d with
   | .str y => if (acc ++ y).length ≤ big then mJs ms (acc ++ y) else M.opt none
   | _ => M.opt none
def am9 (X : Cx) (T : Tb) (W : WX) (es : List Expr) (ms : List (M D)) : Prop := ∀ acc, iT (fun σ H Q => tJs (es.map fun e => (WE X e : TE)) acc σ H Q) X.K T W vS (mJs ms acc)
def ams (ms : List (M D)) : M D := (mJs ms Str.empty).bind fun s => M.ret (.str s)
end
structure WM (X : Cx) (cs : List MatchCase) (z : Str) (D : Ends) (σ : L2.St) (H : Hp) : Prop where
 go : ∀ pins s t first, Inv X pins σ H s → wpAny (model X.prog X.w) X.A (matchCases cs X.env (.str z t) first) (SP X pins D) X.xe s
structure ana (X : Cx) (p : Pattern) (ss : List Str) : Prop where
 go : ∀ (z : Str) pins (σ : L2.St) (H : Hp) s t (R : Option (List (Str × Value)) → Shared → Prop), Inv X pins σ H s → (∀ s', Inv X pins σ H s' → R (if ss.contains z then some [] else none) s') → wpAny (model X.prog X.w) X.A (matchPattern p X.env (.str z t)) R X.xe s
structure amt (X : Cx) (ps : List Pattern) (ss : List Str) : Prop where
 go : ∀ (z : Str) pins (σ : L2.St) (H : Hp) s t (R : Option (List (Str × Value)) → Shared → Prop), Inv X pins σ H s → (∀ s', Inv X pins σ H s' → R (if ss.contains z then some [] else none) s') → wpAny (model X.prog X.w) X.A (matchFirst ps X.env (.str z t)) R X.xe s
section
variable {X : Cx} {T : Tb} {W : WX} {pos p2 : Pos} {e : Expr} {m : M D} {cs : List MatchCase} {ms : List (List Str × M Fl)} {body : List Stmt} {mb : M Fl} {pt : Pattern} {pts : List Pattern} {ss ts : List Str} {y : Str} {jj : Nat}
def anb (X : Cx) (T : Tb) (W : WX) (cs : List MatchCase) (m : Str → M Fl) : Prop := ∀ z, ∀ (B : Bs) (w : Wd) (σ : L2.St) (H : Hp) (fr : Fr) (h : Hh) (D : Ends), Rel X.K T B w σ H fr h → dI X.K T B W w (m z fr h) D → WM X cs z D σ H
def ai8 : List (List Str × M Fl) → Str → M Fl
 | [], _ => M.ret .nx
 | (ss, b) :: r, z => if ss.contains z then b else ai8 r z
def alz (m : M D) (f : Str → M Fl) : M Fl := m.bind fun d => match d with
 | .str z => f z
 | _ => fun _ _ => .err
end
end Pk
namespace Pk
open PySem PySem.Spec L2
section
variable {X : Cx} {T : Tb} {W : WX} {k : Nat} {pos pf : Pos} {a : Expr} {ma : M D}
def amu (_ : Hh) (d : D) : Option D := match d with
 | .int i => if i.natAbs.log2 < 1920 then some (.str (toString i)) else none
 | .str z => some (.str z)
 | _ => none
end
end Pk
namespace Pk
open PySem PySem.Spec L2
section
variable {X : Cx} {T : Tb} {W : WX} {k j : Nat} {pos : Pos} {a b : Expr} {ma mb : M D}
end
end Pk
namespace Pk
open PySem PySem.Spec PyProof.Rows L2
section
variable {prog : Program} {w : World} {A : Around} {E : Value → Shared → Prop} {s : Shared} {l : Addr} {its : List Value} {ns : List Int} {Q : Value → Shared → Prop}
theorem ahl (hh : A.handled = none) (hl : PyProof.Rows.IsTup s.heap l its.toArray) (hi : IntsAre its ns)
 (h : ∀ h' tk t', (∀ b o, s.heap.get? b = some o → h'.get? b = some o) → Q (.int ns.sum t') { s with heap := h', toks := tk }) : wpAny (model prog w) A (call (.builtin "sum") [.ref l]) Q E s := by
 obtain ⟨xs, e⟩ := hi.allInts.items
 have hn : numsOf (intItems xs).toList = ns := by rw [← e]; exact hi.numsOf
 rw [nums_intItems] at hn
 rw [e] at hl
 refine PySem.W.ktm_sumG hh hl fun h' tk t' hk => ?_
 have := h h' tk t' hk
 rw [preSum_eq, List.take_of_length_le (by simp), hn]; exact this
end
def aka (K : PySem.W.Frag) : List V → Hp → VK → Prop := fun vs H Q => ∃ (a : Addr) (ns : List Int), vs = [V.ref a] ∧ SqT K H a (ns.map V.int) ∧ Q (.int ns.sum) H
theorem ahm {X : L2.Cx} (hc : X.calm = true) : CallR X (.builtin "sum") (aka X.K) := by
 intro pins s σ H vs us Q I r h
 obtain ⟨a, ns, rfl, hs, q⟩ := h
 obtain ⟨its, rv, hl, _⟩ := I.tuple hs
 rw [Vals.ref1 r]
 exact ahl (I.ok.hd hc) hl rv.ints fun h' tk t' hk => ⟨.int _, H, I.kept hk, ⟨_, rfl⟩, q⟩
section
variable {X : Cx} {T : Tb} {W : WX} {k : Nat} {e a b c : Expr} {es : List Expr} {m ma mb mc : M D} {pos pf : Pos}
def yC (h : Hh) (d : D) : Option D := match d with
 | .tup l => (D.ints l).map fun l => .int l.sum
 | _ => ae6 h d
theorem K9 (C : Cq X T W k) (sa : JK X T W a ma) (hm : X.mg "sum" = none) (hg : Gl X "sum" := by rfl) (he : starEach (a :: []) X.env = (false, eval a X.env) :: starEach [] X.env := by exact eY rfl) : aY X T W (.Call (.Name "sum" pf) [a] [] pos) (aA yC ma) :=
 acK (id := "sum") sa (fun B w σ H fr h x d z Q R rx q kk => by
  unfold yC at q
  split at q
  · rename_i l
    obtain ⟨ls, el, rfl⟩ := Option.map_eq_some_iff.mp q
    rcases rx with rx | ⟨_, _, _, _, rr⟩
    · obtain ⟨p, vs, rfl, sq, rl⟩ := wA rx
      rw [ints_map el] at rl
      rw [rl.ints] at sq
      exact jQ (ahm C.calm) ⟨p, ls, rfl, fX R.sub sq, kk w H _ (Wd.le_refl _) R (.int _)⟩
    · cases rr
  · obtain ⟨l, el, rfl⟩ := Option.map_eq_some_iff.mp q
    obtain ⟨p, rfl, sq⟩ := Yc R rx el
    exact jQ (cr_sum C.calm) ⟨p, l, rfl, sq, kk w H _ (Wd.le_refl _) R (.int _)⟩) hm hg (by decide +kernel) (by decide) (by decide) he
end
end Pk
namespace PySem
namespace OwA
open PySem.W PySem.Calls PyProof.Rows
section
variable {prog : Program} {w : World} {A : Around} {E : Value → Shared → Prop} {s : Shared} {K : Frag} {x C L f : Addr} {h₀ : Heap} {m : Str → Option Value} {ox : Obj} {od : Option Obj}
end
end OwA
end PySem
namespace Pk
open PySem PySem.Spec L2
section
variable {X : Cx} {T : Tb} {W : WX} {k j : Nat} {pos pf : Pos} {a b : Expr} {ma mb : M D}
def anc (mt : Nat → Option Fn) (ma : M D) : M D := ma.bind fun o => xU mt o []
def amv (K : PySem.W.Frag) (C : Addr) (f : Str) (i : Int) : Bool := aam K C && (match PySem.W.findCls K (.ref C) (.type "type") f with
 | some (.val (.int j _)) => decide (j = i)
 | _ => false)
end
end Pk
namespace PySem
namespace OwO
open PySem.W PySem.Calls PyProof.Rows
section
variable {prog : Program} {w : World} {A : Around} {E : Value → Shared → Prop} {s : Shared} {x C dx : Addr}
end
structure NmOk (nm : String) : Prop where
 n0 : fillsNumberSlot (.type "NoneType") nm = pure false
 n1 : fillsNumberSlot (.type "str") nm = pure false
 n2 : fillsNumberSlot (.type "list") nm = pure false
 n3 : fillsNumberSlot (.type "tuple") nm = pure false
 i0 : fillsNumberSlot (.type "int") nm = pure true
 b0 : fillsNumberSlot (.type "bool") nm = pure true
 i1 : numberSlotInPython (.type "int") nm = pure false
 b1 : numberSlotInPython (.type "bool") nm = pure false
 i2 : ∃ tk, typeLookup (.type "int") (dunderR nm) = pure tk
 b2 : ∃ tk, typeLookup (.type "bool") (dunderR nm) = pure tk
 ti : ∀ (prog : Program) (w : World) (A : Around) (E : Value → Shared → Prop) (s : Shared) (x C dx : Addr) (a : Int) (t : Tok), s.heap.get? x = some (instObj C dx) → ∀ P' : Option Value → Shared → Prop, P' none s → wpAny (model prog w) A (tryMethod (.int a t) (PySem.dunder nm) (.ref x)) P' E s
 tb : ∀ (prog : Program) (w : World) (A : Around) (E : Value → Shared → Prop) (s : Shared) (x C dx : Addr) (a : Bool), s.heap.get? x = some (instObj C dx) → ∀ P' : Option Value → Shared → Prop, P' none s → wpAny (model prog w) A (tryMethod (.bool a) (PySem.dunder nm) (.ref x)) P' E s
end OwO
end PySem
namespace Pk
open PySem PySem.Spec L2
structure OpF (X : Cx) (T : Tb) (k : Nat) (nm : String) (mt : Nat → Option Fn) : Prop where
 ok : PySem.OwO.NmOk nm
 ex : ∀ c F, mt c = some F → ∃ (kk : Nat) (f : Addr) (fd : FuncData) (ps : List Str), Cls X.K (T.cad c) ∧ Meth X.K (T.cad c) (PySem.dunder nm) f ∧ PySem.W.selfFirst X.K (T.cad c) = true ∧ iw X.prog X.w X.K X.mg X.base T kk f fd ps F ∧ Bn X.K T fd ps 2 [] (aD []) ∧ kk ≤ k ∧
  ∃ g, PySem.W.findIn X.K (.ref (T.cad c)) (PySem.dunderR nm) = some (some (.ref g))
structure ane (X : Cx) (T : Tb) (k : Nat) (nm : String) (mt : Nat → Option Fn) : Prop where
 ex : ∀ c F, mt c = some F → ∃ (kk : Nat) (f : Addr) (fd : FuncData) (ps : List Str), Cls X.K (T.cad c) ∧ Meth X.K (T.cad c) (PySem.dunderR nm) f ∧ PySem.W.selfFirst X.K (T.cad c) = true ∧ iw X.prog X.w X.K X.mg X.base T kk f fd ps F ∧ Bn X.K T fd ps 2 [] (aD []) ∧ kk ≤ k ∧
  (∃ g, PySem.W.findIn X.K (.ref (T.cad c)) (PySem.dunder nm) = some (some (.ref g))) ∧ PySem.W.subIn X.K (.ref (T.cad c)) (.type "int") = some false ∧ PySem.W.subIn X.K (.ref (T.cad c)) (.type "bool") = some false
def akb (mtl mtr : Nat → Option Fn) (h : Hh) (x y : D) : Option (Fn × Bool) := match uN h x y with
 | some c => (mtl c).map fun F => (F, false)
 | none => match fnOf mtl h x, y.bty h with
   | some F, some _ => some (F, false)
   | _, _ => match fnOf mtr h y, x.smp with
     | some F, true => some (F, true)
     | _, _ => none
def anf (mtl mtr : Nat → Option Fn) (ma mb : M D) : M D := ma.bind fun x => mb.bind fun y fr h => match akb mtl mtr h x y with
 | some (F, false) => bJ fr (F [x, y] h)
 | some (F, true) => bJ fr (F [y, x] h)
 | none => .err
section
variable {X : Cx} {T : Tb} {W : WX} {k : Nat} {a b : Expr} {ma mb : M D} {pos : Pos} {op : Operator}
def aaq (X : Cx) (T : Tb) (W : WX) (k : Nat) (σ : L2.St) (f : Addr) (x y : V) (H2 : Hp) (Q : VK) : Prop :=
 ∃ (kk : Nat) (fd : FuncData) (ps : List Str) (G : Fn), iw X.prog X.w X.K X.mg X.base T kk f fd ps G ∧ Bn X.K T fd ps 2 [] (aD []) ∧ kk ≤ k ∧
   ∀ g gV, KBn X.K fd ps 2 [] g gV → (∀ (w : Wd) (vs zs : List V) (ds es : List D), aF X.K T w vs ds → aF X.K T w zs es → ds.length = 2 → es.length = ([] : List Str).length → aF X.K T w (gV vs zs) (aD [] ds es) ∧ (aD [] ds es).length = ps.length) →
     spF X.K T ps.length G (gV [x, y] []) H2 Q (fun c d H' => W c d σ H')
def alA (X : Cx) (T : Tb) (W : WX) (k : Nat) (op : Operator) (σ : L2.St) (x y : V) (H2 : Hp) (Q : VK) : Prop :=
 (∃ (p1 p2 C dx dy f : Addr) (fs gs : List (Str × V)), x = .ref p1 ∧ y = .ref p2 ∧ H2 p1 = some (.ins C dx fs) ∧ H2 p2 = some (.ins C dy gs) ∧ Meth X.K C (PySem.dunder op.info.2) f ∧ PySem.W.selfFirst X.K C = true ∧ aaq X T W k σ f x y H2 Q) ∨
 (∃ (p1 C dx f g : Addr) (fs : List (Str × V)) (t : String), x = .ref p1 ∧ H2 p1 = some (.ins C dx fs) ∧ TyX X.K H2 y (.type t) ∧ t ∈ Fy ∧ Meth X.K C (PySem.dunder op.info.2) f ∧ PySem.W.selfFirst X.K C = true ∧ PySem.W.findIn X.K (.ref C) (PySem.dunderR op.info.2) = some (some (.ref g)) ∧ aaq X T W k σ f x y H2 Q) ∨
 (∃ (p1 C dx f g : Addr) (fs : List (Str × V)), y = .ref p1 ∧ H2 p1 = some (.ins C dx fs) ∧ (x = .non ∨ (∃ bb, x = .bl bb) ∨ ∃ i, x = .int i) ∧ Meth X.K C (PySem.dunderR op.info.2) f ∧ PySem.W.selfFirst X.K C = true ∧ PySem.W.findIn X.K (.ref C) (PySem.dunder op.info.2) = some (some (.ref g)) ∧ PySem.W.subIn X.K (.ref C) (.type "int") = some false ∧ PySem.W.subIn X.K (.ref C) (.type "bool") = some false ∧ aaq X T W k σ f y x H2 Q)
end
end Pk
namespace Pk
open PySem PySem.Spec L2
def D.lstP (h : Hh) (d : D) : Option (List PyData) := match d.der h with
 | .fl l => D.toPs l
 | .nl l => D.toPs l
 | .kl l => D.toPs l
 | _ => none
section
variable {K : PySem.W.Frag} {T : Tb} {B : Bs} {w : Wd} {σ : L2.St} {H : Hp} {fr : Fr} {h : Hh} {v : V} {d : D} {ps : List PyData}
theorem HR (R : Rel K T B w σ H fr h) (z : vO K T B σ w H fr v d) (e : d.lstP h = some ps) : ∃ (a : Addr) (vs : List V), v = .ref a ∧ SqL K H a vs ∧ DpAll K H vs ps := by
 rcases z with z | ⟨p, o, rfl, eH, z⟩
 · cases z with
   | fl s r => exact ⟨_, _, rfl, SqL.of (R.sub _ _ s), Av R.sub r e⟩
   | kl s r => exact ⟨_, _, rfl, nU R.sub s, Av R.sub r e⟩
   | @ref a n s =>
     have ln : n < h.length := by
      rw [← R.len]
      exact (List.getElem?_eq_some_iff.mp s).1
     obtain ⟨o, q, rr⟩ := R.cel n a h[n] s (aoc ln)
     have e0 : D.der h (.ref n) = h[n] := by
      unfold D.der
      dsimp only
      rw [aoc ln]
      rfl
     unfold D.lstP at e
     rw [e0] at e
     generalize h[n] = cc at rr e
     cases rr with
     | lst r => exact ⟨_, _, rfl, SqL.of q, Av R.sub r e⟩
     | obj r => cases e
     | dct _ r => cases e
     | dkt _ r => cases e
   | non => cases e
   | bl _ => cases e
   | int _ => cases e
   | str _ => cases e
   | tup _ _ => cases e
   | obj _ _ => cases e
   | cls _ => cases e
   | ty _ => cases e
   | sl _ => cases e
 · cases z with
   | lst r => exact ⟨_, _, rfl, SqL.of eH, Av R.sub r e⟩
   | obj r => cases e
end
section
variable {X : Cx} {T : Tb} {W : WX} {k : Nat}
def Qw (h : Hh) (x y : D) : Option Bool := match x.toP, y.lstP h with
 | some p, some ps => if SeqAt.shaped p && SeqAt.shaped (.list ps) then some (ps.any fun z => PyData.eqv z p) else none
 | _, _ => none
def Vt (h : Hh) (x y : D) : Option Bool := (Qw h x y).map (!·)
theorem Yk {h : Hh} {x y : D} {c : Bool} (q : Qw h x y = some c) : ∃ p ps, x.toP = some p ∧ y.lstP h = some ps ∧ SeqAt.shaped p = true ∧ SeqAt.shaped (.list ps) = true ∧ c = ps.any fun z => PyData.eqv z p := by
 unfold Qw at q
 split at q
 · rename_i p ps e1 e2
   split at q
   · rename_i hs
     obtain ⟨h1, h2⟩ := Bool.and_eq_true_iff.mp hs
     cases q
     exact ⟨p, ps, e1, e2, h1, h2, rfl⟩
   · cases q
 · cases q
theorem ahn (C : Cq X T W k) : qK X T vO .In Qw := fun B w σ H fr h x y d e c Q R rx ry q kk => by
 obtain ⟨p, ps, e1, e2, s1, s2, rfl⟩ := Yk q
 obtain ⟨a, vs, rfl, sq, dp⟩ := HR R ry e2
 exact sE (op_inD (by have := C.u; omega)) ⟨p, ps, Jj R.sub rx e1, .lst sq dp, s1, s2, kk⟩
theorem afj (C : Cq X T W k) : qK X T vO .NotIn Vt := fun B w σ H fr h x y d e c Q R rx ry q kk => by
 obtain ⟨c', q', rfl⟩ := Option.map_eq_some_iff.mp q
 obtain ⟨p, ps, e1, e2, s1, s2, rfl⟩ := Yk q'
 obtain ⟨a, vs, rfl, sq, dp⟩ := HR R ry e2
 exact sE (op_notInD (by have := C.u; omega)) ⟨p, ps, Jj R.sub rx e1, .lst sq dp, s1, s2, kk⟩
def vo (h : Hh) (o x : D) : Option D := match x.toP, o.lstP h with
 | some p, some ps => if SeqAt.shaped p && SeqAt.shaped (.list ps) then (ps.findIdx? fun z => PyData.eqv z p).map (fun j => .int (j : Nat)) else none
 | _, _ => none
theorem aar {h : Hh} {o x : D} {z : D} (q : vo h o x = some z) : ∃ p ps j, x.toP = some p ∧ o.lstP h = some ps ∧ SeqAt.shaped p = true ∧ SeqAt.shaped (.list ps) = true ∧ (ps.findIdx? fun z => PyData.eqv z p) = some j ∧ z = .int (j : Nat) := by
 unfold vo at q
 split at q
 · rename_i p ps e1 e2
   split at q
   · rename_i hs
     obtain ⟨h1, h2⟩ := Bool.and_eq_true_iff.mp hs
     obtain ⟨j, ej, rfl⟩ := Option.map_eq_some_iff.mp q
     exact ⟨p, ps, j, e1, e2, h1, h2, ej, rfl⟩
   · cases q
 · cases q
def alB (mo m : M D) : M D := mo.bind fun o fr h => if (o.lstP h).isSome then m.bind (fun x fr h => M.opt (vo h o x) fr h) fr h else .err
variable {e o : Expr} {m mo : M D} {cpos apos : Pos}
end
end Pk
namespace Pk
open PySem PySem.Spec L2
def ang (ix : Nat → Option Nat) (x : D) : M D := fun fr h => M.opt (bB ix h x) fr h
section
variable {X : Cx} {T : Tb} {W : WX} {k j : Nat} {apos pos : Pos} {o b : Expr} {mo mb : M D} {f : Str} {ix : Nat → Option Nat}
end
end Pk
namespace Pk
open PySem PySem.Spec L2
def vJD : jY It (Nat × List D × List D) := fun K T _ _ w _ _ J x => ∀ i w1 B1 σ1 H1 fr1 h1, w.le w1 → Rel K T B1 w1 σ1 H1 fr1 h1 → h1[x.1]? = some (.nl x.2.1) →
 (x.2.2.length ≤ i → J.stop i H1) ∧ ∀ d, x.2.2[i]? = some d → J.go i H1 ∧ ∀ y H2, J.yld i H1 y H2 → ∃ w2, w1.le w2 ∧ Rel K T B1 w2 σ1 H2 fr1 h1 ∧ bQ K T w2 y d
open Classical in
noncomputable def jC (n : Nat) (l : List D) (vs : List Nat) (g : D → M Unit) (t : M Bool) (e : M D) : List D → M (List D)
 | [] => fun fr h => if h[n]? = some (.nl l) then .ok [] fr h else .err
 | d :: ds => fun fr h => if h[n]? = some (.nl l) then ((fP vs g t e d).bind fun o => (jC n l vs g t e ds).bind fun r => M.ret (Cz o r)) fr h else .err
noncomputable def MP (vs : List Nat) (l : M (Nat × List D × List D)) (g : D → M Unit) (t : M Bool) (e : M D) : M D := l.bind fun x => (Gp vs).bind fun _ => if x.2.2.length ≤ big then (jC x.1 x.2.1 vs g t e x.2.2).bind fun r => M.ret (.nl r) else M.opt none
section
variable {X : Cx} {T : Tb} {W : WX} {k : Nat} {pos pos' : Pos} {tg iter elt c e : Expr} {ifs : List Expr} {li : M (Nat × List D × List D)} {g : D → M Unit} {b : M Fl} {is : List Nat} {t : M Bool} {m me : M D} {scope : Scope} {own : List (Str × Nat)} {body : List Stmt}
theorem Qx (s : aY X T W e m) : iT (WI X tg e) X.K T W vJD (Bg m) := fun B w σ H fr h Q r p => Vg (adF bF) (s B w σ H fr h _ r (aO.bind (VR := vV X.K T B σ) p fun d fr1 h1 w1 H1 x e1 l1 r1 rx p1 => by
 cases q : vX h1 d with
 | none => rw [q] at p1; exact p1.elim
 | some z =>
   obtain ⟨n, l⟩ := z
   rw [q] at p1
   obtain ⟨rfl, hc⟩ := acW q
   cases rx with
   | @ref a n1 s1 =>
     obtain ⟨vs, sq, rv⟩ := aap r1 s1 hc
     refine ⟨a, rfl, .inr ⟨⟨vs, sq⟩, p1 w1 H1 (Itl X.K a) (Wd.le_refl _) r1 fun i w3 B3 σ3 H3 fr3 h3 l3 r3 hc3 => ?_⟩⟩
     obtain ⟨vs3, sq3, rv3⟩ := aap r3 (aj9 l3 s1) hc3
     refine ⟨fun hi => ⟨vs3, sq3, by rw [rv3.length]; exact hi⟩, fun d' hd => ?_⟩
     obtain ⟨v, hv, rv⟩ := rv3.get hd
     refine ⟨⟨vs3, v, sq3, hv⟩, fun y H4 hy => ?_⟩
     obtain ⟨rfl, hy⟩ := hy
     have z := hy vs3 sq3
     rw [hv] at z
     cases z
     exact ⟨w3, Wd.le_refl _, r3, rv⟩))
theorem akc (s : iT (WI X tg iter) X.K T W vJD li) : iT (WI X tg iter) X.K T W vJC li := fun B w σ H fr h Q r p => s B w σ H fr h Q r (by
 revert p
 cases li fr h with
 | ok x fr1 h1 => exact fun p w1 H1 J l1 r1 vj => p w1 H1 J l1 r1 fun i w2 σ2 H2 fr2 h2 l2 r2 hc => vj i w2 B σ2 H2 fr2 h2 l2 r2 hc
 | exc x fr1 h1 => exact fun p => p
 | err => exact fun p => p)
theorem aas (C : Cq X T W k) (si : iT (WI X tg iter) X.K T W vJD li) (sg : Fv X T is tg g) (sb : DN X T W body b) (hs : ∀ x, foldedSetIterable iter X.env x = pure x := by intro _; rfl) : wO X T W (.For tg iter body [] pos) (xW li g b) := ai6 C (akc si) sg sb hs
theorem aho {B : Bs} {w : Wd} {σ : L2.St} {H : Hp} {fr : Fr} {h : Hh} {Q : VK} (si : iT (WI X tg iter) X.K T W vJD li) (hi : ∀ i ∈ is, i ∈ own.map (·.2))
 (sg : ∀ (s : Shared) (H0 : Hp) (C : Addr) (cl : List (Str × Addr)) (fp : List Addr), Fv (X.blk s H0 scope (compEnvC scope cl C X.env) fp) T is tg g)
 (st : ∀ (s : Shared) (H0 : Hp) (C : Addr) (cl : List (Str × Addr)) (fp : List Addr), iT (Ve (X.blk s H0 scope (compEnvC scope cl C X.env) fp) ifs) X.K T WF vB t)
 (se : ∀ (s : Shared) (H0 : Hp) (C : Addr) (cl : List (Str × Addr)) (fp : List Addr), aY (X.blk s H0 scope (compEnvC scope cl C X.env) fp) T WF elt me)
 (R : Rel X.K T B w σ H fr h) (p : aO X.K T B W (vE X.K T B σ) w σ (MP (own.map (·.2)) li g t me fr h) Q) : tLc (WI X tg iter) (GB X scope tg) (TB X scope ifs) (EB X scope elt) (own.map (·.2)) σ H Q := by
 refine si B w σ H fr h _ R (aO.bind (VR := vJD X.K T B σ) p fun xx fr0 h0 w1 H1 J e1 l1 r0 vj p0 => ?_)
 obtain ⟨n, l, ds⟩ := xx
 generalize hvs : own.map (·.2) = vs at hi p0 ⊢
 intro A0 nD
 have p1 : aO X.K T B W (vE X.K T B σ) w1 σ ((if ds.length ≤ big then (jC n l vs g t me ds).bind fun r => M.ret (.nl r) else M.opt none) (dZ fr0 vs) h0) Q := p0
 by_cases hb : ds.length ≤ big
 · rw [if_pos hb] at p1
   have rD := r0.temp (o := .lst []) nD
   have OD : Own B w1 A0 := r0.own_new nD
   refine ⟨fun i m H => m = ds.length - i ∧ i ≤ ds.length ∧ ∃ w' fr' h' acc vs', w1.le w' ∧ aF X.K T w' vs' acc ∧ acc.length ≤ i ∧ Rel X.K T (B.pr A0 (.lst vs')) w' (wipe σ vs) H fr' h' ∧ (∀ j ∈ vs, ∀ d, fr'[j]? ≠ some (some d)) ∧
    aO X.K T B W (vE X.K T B σ) w' σ (((jC n l vs g t me (ds.drop i)).bind fun r => M.ret (D.nl (acc ++ r))) fr' h') Q, ⟨ds.length, by simp, Nat.zero_le _, w1, dZ fr0 vs, h0, [], [], Wd.le_refl _, .nil, Nat.zero_le _,
     (rD.wipe vs).protect OD (fun i ⟨z1, dd, z2, z3⟩ => r0.loose_new nD i (by
      by_cases hj : i ∈ vs
      · exact absurd z2 (uH hj)
      · rw [Jk hj] at z2
        rw [wipe_out hj] at z1
        exact ⟨z1, dd, z2, z3⟩)) upd_same, fun j hj d => uH hj, p1⟩, ?_⟩
   rintro i m H2 ⟨rfl, hil, w2, fr2, h2, acc, us, l2, ra, la, r2, hw2, p2⟩
   have hP := OD.p
   by_cases hc : h2[n]? = some (.nl l)
   case neg =>
    exfalso
    have q : jC n l vs g t me (ds.drop i) fr2 h2 = .err := by cases ds.drop i <;> (unfold jC; rw [if_neg hc])
    rw [M.bind_err q] at p2
    exact p2.elim
   obtain ⟨js, jg⟩ := vj i w2 (B.pr A0 (.lst us)) (wipe σ vs) H2 fr2 h2 l2 r2 hc
   by_cases hlt : i < ds.length
   · obtain ⟨go, y⟩ := jg ds[i] (aoc hlt)
     have ed : ds.drop i = ds[i] :: ds.drop (i + 1) := aoE hlt
     rw [ed] at p2
     refine .inr ⟨go, fun H' => ∃ w' fr' h' acc vs', w1.le w' ∧ aF X.K T w' vs' acc ∧ acc.length ≤ i + 1 ∧ Rel X.K T (B.pr A0 (.lst vs')) w' (wipe σ vs) H' fr' h' ∧ (∀ j ∈ vs, ∀ d, fr'[j]? ≠ some (some d)) ∧
      aO X.K T B W (vE X.K T B σ) w' σ (((jC n l vs g t me (ds.drop (i + 1))).bind fun r => M.ret (D.nl (acc ++ r))) fr' h') Q, fun H' q => ⟨ds.length - (i + 1), by omega, rfl, hlt, q⟩, fun x H3 yx => ?_⟩
     obtain ⟨w3, l3, r3, rx⟩ := y x H3 yx
     have turn : ∃ o fr' h', fP vs g t me ds[i] fr2 h2 = .ok o fr' h' ∧ aO X.K T B W (vE X.K T B σ) w2 σ (((jC n l vs g t me (ds.drop (i + 1))).bind fun r => M.ret (D.nl (acc ++ Cz o r))) fr' h') Q := by
      have p2' : aO X.K T B W (vE X.K T B σ) w2 σ (((fP vs g t me ds[i]).bind fun o => (jC n l vs g t me (ds.drop (i + 1))).bind fun r => M.ret (D.nl (acc ++ Cz o r))) fr2 h2) Q := by
       have ee : ((jC n l vs g t me (ds[i] :: ds.drop (i + 1))).bind fun r => M.ret (D.nl (acc ++ r))) fr2 h2 = ((fP vs g t me ds[i]).bind fun o => (jC n l vs g t me (ds.drop (i + 1))).bind fun r => M.ret (D.nl (acc ++ Cz o r))) fr2 h2 := by
        have q9 : jC n l vs g t me (ds[i] :: ds.drop (i + 1)) fr2 h2 = ((fP vs g t me ds[i]).bind fun o => (jC n l vs g t me (ds.drop (i + 1))).bind fun r => M.ret (Cz o r)) fr2 h2 := by rw [jC]; dsimp only; rw [if_pos hc]
        unfold M.bind at q9 ⊢
        rw [q9]
        cases fP vs g t me ds[i] fr2 h2 with
        | ok o fr' h' => dsimp only; cases jC n l vs g t me (ds.drop (i + 1)) fr' h' <;> rfl
        | exc _ _ _ => rfl
        | err => rfl
       rw [← ee]
       exact p2
      cases q : fP vs g t me ds[i] fr2 h2 with
      | ok o fr' h' =>
        rw [M.bind_ok q] at p2'
        exact ⟨o, fr', h', rfl, p2'⟩
      | exc y fr' h' =>
        exfalso
        unfold fP at q
        split at q
        · split at q
          · split at q <;> cases q
          · cases q
          · cases q
        · cases q
      | err =>
        rw [M.bind_err q] at p2'
        exact p2'.elim
     obtain ⟨o, fro, ho, qt, p3⟩ := turn
     have upw : ∀ {u2 : L2.St} {w' : Wd} {H' : Hp} {fr' : Fr} {h' : Hh} {B' : Bs}, wipe u2 vs = wipe σ vs → Rel X.K T B' w' u2 H' fr' h' → Rel X.K T B' w' (wipe σ vs) H' (dZ fr' vs) h' := fun {u2 w' H' fr' h' B'} e R' => by
      rw [← e]
      exact R'.wipe vs
     intro s0 H0 C cl fp
     refine sg s0 H0 C cl fp (B.pr A0 (.lst us)) w3 (wipe σ vs) H3 fr2 h2 x ds[i] _ r3 rx ?_
     unfold fP at qt
     cases q1 : g ds[i] fr2 h2 with
     | exc _ _ _ => rw [q1] at qt; cases qt
     | err => rw [q1] at qt; cases qt
     | ok _ fr3 h3 =>
       rw [q1] at qt
       dsimp only at qt
       intro w4 σ4 H4 l4 r4 k4
       have ew : wipe σ4 vs = wipe σ vs := ZP (k4.1.trans (wipe_length σ vs)) hi k4.2
       refine ⟨ew, fun s0 H0 C cl fp => st s0 H0 C cl fp (B.pr A0 (.lst us)) w4 σ4 H4 fr3 h3 _ r4 ?_⟩
       cases q2 : t fr3 h3 with
       | exc _ _ _ => rw [q2] at qt; cases qt
       | err => rw [q2] at qt; cases qt
       | ok b fr4 h4 =>
         rw [q2] at qt
         intro w5 H5 v l5 r5 rv
         have rv' : v = b := rv
         subst rv'
         cases v with
         | false =>
           dsimp only at qt
           cases qt
           simp only [Bool.false_eq_true, if_false]
           exact ⟨w5, _, _, acc, us, Wd.le_trans l2 (Wd.le_trans l3 (Wd.le_trans l4 l5)), ra.mono (Wd.le_trans l3 (Wd.le_trans l4 l5)), Nat.le_succ_of_le la, upw ew r5, fun j hj d => uH hj, p3.le (Wd.le_trans l3 (Wd.le_trans l4 l5))⟩
         | true =>
           dsimp only at qt
           simp only [if_true]
           intro s0 H0 C cl fp
           refine se s0 H0 C cl fp (B.pr A0 (.lst us)) w5 σ4 H5 fr4 h4 _ r5 ?_
           cases q3 : me fr4 h4 with
           | exc _ _ _ => rw [q3] at qt; cases qt
           | err => rw [q3] at qt; cases qt
           | ok yd fr5 h5 =>
             rw [q3] at qt
             cases qt
             intro w6 H6 yv l6 r6 ry
             have hD6 : H6 A0 = some (.lst us) := (r6.prot (A0, .lst us) (aod)).1
             have lall : w2.le w6 := Wd.le_trans l3 (Wd.le_trans l4 (Wd.le_trans l5 l6))
             refine ⟨us, hD6, ?_, w6, _, _, acc ++ [yd], us ++ [yv], Wd.le_trans l2 lall, (ra.mono lall).append (.cons ry .nil), ?_, (upw ew r6).repr OD.e OD.p, fun j hj d => uH hj, ?_⟩
             · rw [ra.length]
               have : big < sizeLine := by decide
               omega
             · rw [an9]
               show acc.length + 1 ≤ i + 1
               omega
             · have e9 : ∀ r : List _, acc ++ Cz (some yd) r = acc ++ [yd] ++ r := fun r => by
                show acc ++ yd :: r = _
                rw [aoA]
                rfl
               simp only [e9] at p3
               exact p3.le lall
   · have e : i = ds.length := by omega
     subst e
     rw [List.drop_length] at p2
     obtain ⟨r3, O3, lo3, eD⟩ := r2.unprotect OD.e OD.p
     refine .inl ⟨js (Nat.le_refl _), ?_⟩
     have p3 : aO X.K T B W (vE X.K T B σ) w2 σ (.ok (D.nl (acc ++ [])) fr2 h2) Q := by
      have q : jC n l vs g t me [] fr2 h2 = .ok [] fr2 h2 := by unfold jC; rw [if_pos hc]
      rw [M.bind_ok q] at p2
      exact p2
     rw [aob] at p3
     have r4 : Rel X.K T B w2 σ H2 fr2 h2 := r3.refr (by rw [← wipe_length σ vs]; exact r3.fl) fun j d ej => ⟨ej, by
      by_cases hj : j ∈ vs
      · exact absurd ej (hw2 j hj d)
      · exact (wipe_out hj).symm⟩
     refine p3 w2 H2 (.ref A0) (Wd.le_refl _) r4 (.inr ⟨A0, _, rfl, O3, fun j ⟨z1, dd, z2, z3⟩ => lo3 j ⟨?_, dd, z2, z3⟩, eD, .lst ra⟩)
     by_cases hj : j ∈ vs
     · exact absurd z2 (hw2 j hj dd)
     · rw [wipe_out hj]
       exact z1
 · rw [if_neg hb] at p1
   exact p1.elim
theorem ad5 (C : Cq X T W k) (own : List (Str × Nat)) (si : iT (WI X tg iter) X.K T W vJD li) (hi : ∀ i ∈ is, i ∈ own.map (·.2))
 (sg : ∀ (s : Shared) (H0 : Hp) (C : Addr) (cl : List (Str × Addr)) (fp : List Addr), Fv (X.blk s H0 scope (compEnvC scope cl C X.env) fp) T is tg g)
 (st : ∀ (s : Shared) (H0 : Hp) (C : Addr) (cl : List (Str × Addr)) (fp : List Addr), iT (Ve (X.blk s H0 scope (compEnvC scope cl C X.env) fp) ifs) X.K T WF vB t)
 (se : ∀ (s : Shared) (H0 : Hp) (C : Addr) (cl : List (Str × Addr)) (fp : List Addr), aY (X.blk s H0 scope (compEnvC scope cl C X.env) fp) T WF elt me)
 (ok : BlkOk X.N X.env.scope scope own) (hs : ∀ x, foldedSetIterable iter X.env x = pure x := by intro _; rfl) : ph X T W (.ListComp elt [⟨tg, iter, ifs, 0⟩] scope pos) (MP (own.map (·.2)) li g t me) := fun B w σ H fr h Q R p =>
 eG (pe_lc C.calm C.nd Py ok (fun s H C cl fp => ⟨fun pins s' σ H v u Q I r hh => hh s _ C cl fp pins s' u I r⟩) (fun s H C cl fp => ⟨fun pins s' σ H Q I hh => hh s _ C cl fp pins s' I⟩) (fun s H C cl fp => ⟨fun pins s' σ H Q I hh => (hh s _ C cl fp).go pins s' I⟩) hs) (aho si hi sg st se R p)
end
section
variable {X : Cx} {T : Tb} {W : WX} {k : Nat} {pos : Pos} {tg iter elt : Expr} {ifs : List Expr} {lj : M (List D)} {g : D → M Unit} {is : List Nat} {t : M Bool} {me : M D} {scope : Scope} {own : List (Str × Nat)}
end
end Pk
namespace Pk
open PySem PySem.Spec L2
def keyD : D → Option Key
 | .int i => some (.inl i)
 | .str s => some (.inr s)
 | _ => none
def agJ : List D → Option (List Key)
 | [] => some []
 | d :: ds => (keyD d).bind fun k => (agJ ds).map fun ks => k :: ks
theorem aat {K : PySem.W.Frag} {T : Tb} {w : Wd} {v : V} {d : D} {k : Key} (r : bQ K T w v d) (e : keyD d = some k) : v = kV k := by
 cases r with
 | int i => cases e; rfl
 | str s => cases e; rfl
 | _ => cases e
def valD : List (List Key) → List D → List Key → Option D
 | k' :: ks, d :: ds, k => if k' = k then some d else valD ks ds k
 | _, _, _ => none
def ai9 (ks : List (List Key)) (k : List Key) : Bool := ks.any fun k' => decide (k' = k)
def akd (ks : List (List Key)) (k : List Key) : List (List Key) := if ai9 ks k = true then ks else ks ++ [k]
def ake {α : Type} (ks : List (List Key)) (ds : List α) (k : List Key) (v : α) : List α := if ai9 ks k = true then List.zipWith (fun k' d => if k' = k then v else d) ks ds else ds ++ [v]
def agK (ds : List D) : Option (List Key) := if ds.length ≤ big then agJ ds else none
def ad6 (h : Hh) (d : D) : Option (Nat × List (List Key) × List D) := match d with
 | .ref n => match h[n]? with
   | some (.dc ks ds) => some (n, ks, ds)
   | _ => none
 | _ => none
def akf (h : Hh) (o : D) (ks : List D) : Option D := (ad6 h o).bind fun x => (agK ks).bind fun k => valD x.2.1 x.2.2 k
def akg (h : Hh) (o : D) (ks : List D) (d : D) : Option Hh := (ad6 h o).bind fun x => (agK ks).bind fun k => if x.2.1.length ≤ big then some (h.set x.1 (.dc (akd x.2.1 k) (ake x.2.1 x.2.2 k d))) else none
def amw : M D := fun fr h => .ok (.ref h.length) fr (h ++ [.dc [] []])
def amx (mo : M D) (ms : List (M D)) : M D := mo.bind fun o => (ak ms).bind fun ks fr h => M.opt (akf h o ks) fr h
def amy (mo : M D) (ms : List (M D)) (mv : M D) : M Fl := mv.bind fun d => mo.bind fun o => (ak ms).bind fun ks fr h => match akg h o ks d with
 | some h' => .ok .nx fr h'
 | none => .err
section
variable {X : Cx} {T : Tb} {W : WX} {k x1 : Nat} {pos tpos pos' : Pos} {o e : Expr} {es : List Expr} {mo m : M D} {ms : List (M D)}
end
end Pk
namespace Pk
open PySem PySem.Spec L2
def anh (K : PySem.W.Frag) (ta : TE) (f : Str) : TG := fun v σ H Q => ta σ H fun x H1 => ∃ a C dx fs, x = .ref a ∧ H1 a = some (.ins C dx fs) ∧ Cls K C ∧ NoAttr K C f ∧ fs.length < 1000 ∧ Q σ (upd H1 a (.ins C dx (putF f v fs)))
section
variable {X : Cx} {o : Expr} {f : Str} {pos : Pos} {ta : TE}
end
def amz (j : Nat) (ix : Nat → Option Nat) (d : D) : M Unit := fun fr h => match fr[j]? with
 | some (some (.ref n)) => match h[n]? with
   | some (.no c fs) => match ix c with
     | some i => match sO i d fs with
       | some fs' => .ok () fr (h.set n (.no c fs'))
       | none => .err
     | none => .err
   | _ => .err
 | _ => .err
section
variable {X : Cx} {T : Tb} {W : WX} {k kk n c : Nat} {px tpos p pos : Pos} {f : Addr} {fd : FuncData} {ps : List Str} {F : Fn} {x : Str} {e : Expr} {es : List Expr} {ma mk : M (List D)} {gD : List D → List D → List D}
structure FnC (P : Program) (w : World) (K : PySem.W.Frag) (mg : Str → Option Value) (base : Heap) (T : Tb) (k c : Nat) (f : Addr) (fd : FuncData) (ps : List Str) (F : Fn) : Prop where
 ok : FnOk P w K mg base (L2.CX P w) k f fd ps (spF K T ps.length F)
 made : Mk K (T.cad c) f
def akh (fr : Fr) (n : Nat) : R D → R D
 | .ok .non _ h => .ok (.ref n) fr h
 | .ok _ _ _ => .err
 | .exc x _ h => .exc x fr h
 | .err => .err
def alC (c n m : Nat) (F : Fn) (gD : List D → List D → List D) (ma mk : M (List D)) : M D := ma.bind fun ds => mk.bind fun es fr h => if ds.length = n ∧ es.length = m then akh fr h.length (F (.ref h.length :: gD ds es) (h ++ [.no c []])) else .err
end
def amA (h : Hh) (d e : D) : Option D := match d, e with
 | .fl a, .ref n => match h[n]? with
   | some (.nl b) => if a.length + b.length ≤ big then some (.nl (a ++ b)) else none
   | _ => none
 | _, _ => none
section
variable {X : Cx} {T : Tb} {W : WX} {pos : Pos} {a b : Expr} {ma mb : M D}
end
end Pk
namespace Pk
open PySem PySem.Spec L2
def alD (m : M D) : M (Nat × List D × List D) := m.bind fun d fr h => M.opt ((vX h d).map fun x => (x.1, x.2, nR 0 x.2)) fr h
section
variable {X : Cx} {T : Tb} {W : WX} {p pos tpos : Pos} {kk : Nat} {elts : List Expr} {a : Expr} {ma : M D}
end
end Pk
namespace Pk
open PySem PySem.Spec L2
def ali (j : Nat) (ix : Nat → Option Nat) (f : Int → Int → Int) (m : M D) : M Fl := fun fr h => match fr[j]? with
 | some (some (.ref n)) => match h[n]? with
   | some (.no c fs) => match ix c with
     | some i => match fs[i]? with
       | some (.int a) => (m.bind fun d fr h => match d with
         | .int b => match h[n]? with
           | some (.no c' fs') => if c' = c then match sO i (.int (f a b)) fs' with
            | some fs'' => .ok .nx fr (h.set n (.no c fs''))
            | none => .err
            else .err
           | _ => .err
         | _ => .err) fr h
       | _ => .err
     | none => .err
   | _ => .err
 | _ => .err
section
variable {X : Cx} {T : Tb} {W : WX} {k : Nat} {px pos tpos apos cpos : Pos} {e o : Expr} {m mo : M D}
def ak4 (d : D) (l : List D) : Option (List D) := match d with
 | .fl r => if l.length + r.length ≤ big then some (l ++ r) else none
 | _ => none
def amB (i : Nat) (m : M D) : M D := (cR i oM).bind fun _ => m.bind fun d => (cR i (ak4 d)).bind fun _ => M.ret .non
end
def ace (i : Nat) (f : Hh → D → D → Option Bool) (m mt : M D) (b : M Fl) : Nat → M Fl
 | 0 => fun _ _ => .err
 | n + 1 => m.bind fun d fr h => (mt.bind fun t fr h => match f h d t with
   | some true => (match b fr h with
     | .ok .nx fr h => ace i f m mt b n fr h
     | .ok .ct fr h => ace i f m mt b n fr h
     | .ok .brk fr h => .ok .nx fr h
     | .ok (.rt d) fr h => .ok (.rt d) fr h
     | .exc x fr h => .exc x fr h
     | .err => .err)
   | some false => .ok .nx fr h
   | none => .err) (fr.set i (some d)) h
section
variable {X : Cx} {T : Tb} {W : WX} {k : Nat} {pos px npos cpos : Pos} {e t : Expr} {m mt : M D} {body : List Stmt} {b : M Fl} {x : Str}
end
end Pk
namespace Pk
open PySem PySem.Spec L2
section
variable {P : Program} {w : World} {K : PySem.W.Frag} {mg : Str → Option Value} {base : Heap} {T : Tb} {k : Nat} {x qual : Str} {params : Arguments} {body : List Stmt} {scope : Scope} {dvs : List V} {kws : List (Str × V)} {f : Addr} {fd : FuncData} {N ps : List Str} {p0 pv : Str}
end
def spM (K : PySem.W.Frag) (T : Tb) (F : Fn) : Sp := fun vs H Q E => ∃ ws rest, vs = ws ++ rest ∧ ws.length = 1 ∧ rest.length ≤ sizeLine ∧ ∀ p, H p = Option.none → spF K T 2 F (ws ++ [V.ref p]) (upd H p (.tup rest)) Q E
structure FnM (P : Program) (w : World) (K : PySem.W.Frag) (mg : Str → Option Value) (base : Heap) (T : Tb) (k : Nat) (f : Addr) (F : Fn) : Prop where
 run : FnR P w K mg base (L2.CX P w) k f (spM K T F)
section
variable {P : Program} {w : World} {K : PySem.W.Frag} {mg : Str → Option Value} {base : Heap} {T : Tb} {k : Nat} {x qual : Str} {params : Arguments} {body : List Stmt} {scope : Scope} {f : Addr} {fd : FuncData} {N : List Str} {p0 pv : Str}
end
def alG (mt : Nat → Option Fn) (mo : M D) (ma : M (List D)) : M D := mo.bind fun o fr h => match fnOf mt h o with
 | some F => (ma.bind fun ds fr h => if ds.length ≤ big then bJ fr (F [o, .tup ds] h) else .err) fr h
 | none => .err
def ani (m : M D) (ma : M (List D)) : M (List D) := m.bind fun d fr h => match d.its h with
 | some l => (ma.bind fun r => M.ret (l ++ r)) fr h
 | none => .err
def amC (m : M D) (ma : M (List D)) : M (List D) := m.bind fun d => ma.bind fun r => M.ret (d :: r)
structure alH (X : Cx) (T : Tb) (k : Nat) (m : Str) (mt : Nat → Option Fn) : Prop where
 ex : ∀ c F, mt c = some F → ∃ (kk : Nat) (f : Addr), Cls X.K (T.cad c) ∧ BMeth X.K (T.cad c) m f ∧ FnM X.prog X.w X.K X.mg X.base T kk f F ∧ m ∉ T.fld c ∧ kk ≤ k
section
variable {X : Cx} {T : Tb} {W : WX} {k kk : Nat} {f : Addr} {F : Fn} {m : Str} {p sp_ pos apos : Pos} {e o : Expr} {es : List Expr} {mo me : M D} {ma : M (List D)} {mt : Nat → Option Fn}
end
def bmX (K : PySem.W.Frag) (C : Addr) (m : Str) : Bool := He.eqO (PySem.W.specialIn K (.ref (He.ma K C m)) "__get__") (some (some (.builtin "function.__get__"))) && (decide (PySem.W.takesIn K (.ref (He.ma K C m)) = some false) && (decide (PySem.W.copiedNames.contains m = false) && PySem.W.fnIn K (He.ma K C m)))
end Pk
namespace Pk
open PySem PySem.Spec PyProof.Rows L2 GenW
section
variable {prog : Program} {w : World} {A : Around} {R : GenEnd} {Y : Protocol} {n : Nat} {s₀ : Shared} {c : Code} {fs : List Frame} {s : Shared} {env : Env} {K : Flow → Sem PySem.Fin} {J : Value → Sem PySem.Fin} {gd : Bool → Bool} {lv : List Value → List Value}
abbrev amD (env : Env) (e : Value) : Sem PySem.Fin := (do noteFrame e env; theTreesLotGoes e : Sem Unit).wrap (fun _ => .raise e) .raise id id
abbrev turned (target : Expr) (it : Value) (body : List Stmt) (env : Env) : Flow → Sem PySem.Fin := fun f => match f with
 | .next | .cont => .pure (.again (.forLoop target it body [] env))
 | .brk => .pure (.done .next)
 | .ret v => .pure (.done (.ret v))
end
end Pk
namespace Pk
open PySem PySem.Spec PyProof.Rows L2 GenW
section
variable {M : Model} {A : Around} {R : GenEnd} {Y : Protocol} {n : Nat} {s₀ : Shared} {c : Code} {fs : List Frame} {s : Shared} {env : Env} {K : Flow → Sem PySem.Fin} {J : Value → Sem PySem.Fin} {gd : Bool → Bool} {lv : List Value → List Value}
end
section
variable {X : Cx} {tg : Expr}
def amE (wi : TI) (g : TG) (tb : TGn) : TGn := fun D ys σ H => wi σ H fun J H1 => ∃ W : Nat → Nat → List V → L2.St → Hp → Prop, (∃ m, W 0 m ys σ H1) ∧ ∀ i m ys σ H, W i m ys σ H →
 (J.stop i H ∧ D.nx ys σ H) ∨ (J.go i H ∧ ∃ N : List V → L2.St → Hp → Prop, (∀ ys' σ' H', N ys' σ' H' → ∃ m', m' < m ∧ W (i + 1) m' ys' σ' H') ∧ ∀ x H', J.yld i H x H' → g x σ H' fun σ2 H2 => tb { D with nx := N, ct := N, bk := D.nx } ys σ2 H2)
end
end Pk
namespace Pk
open PySem PySem.Spec PyProof.Rows L2
def amF (ma : M (List D)) : M D := ma.bind fun ds => M.opt (if ds.length ≤ big then some (.tup ds) else none)
section
variable {X : Cx} {T : Tb} {W : WX} {es : List Expr} {ma : M (List D)} {pos : Pos}
end
def aja (vs vs1 : List Nat) (g : D → M Unit) (t : M Bool) (l1 : M (List D)) (g1 : D → M Unit) (t1 : M Bool) (e : M D) (acc : List D) (d : D) : M (List D) := fun fr h => match g d fr h with
 | .ok _ fr h => match t fr h with
   | .ok true fr h => match l1 fr h with
     | .ok ds1 fr h => if acc.length + ds1.length ≤ big then (match jA vs1 g1 t1 e ds1 (dZ fr vs1) h with
       | .ok r fr h => .ok (acc ++ r) (dZ fr vs) h
       | _ => .err) else .err
     | _ => .err
   | .ok false fr h => .ok acc (dZ fr vs) h
   | _ => .err
 | _ => .err
def agL (vs vs1 : List Nat) (g : D → M Unit) (t : M Bool) (l1 : M (List D)) (g1 : D → M Unit) (t1 : M Bool) (e : M D) : List D → List D → M (List D)
 | acc, [] => M.ret acc
 | acc, d :: ds => (aja vs vs1 g t l1 g1 t1 e acc d).bind fun acc' => agL vs vs1 g t l1 g1 t1 e acc' ds
def anj (vs vs1 : List Nat) (l : M (List D)) (g : D → M Unit) (t : M Bool) (l1 : M (List D)) (g1 : D → M Unit) (t1 : M Bool) (e : M D) : M D := l.bind fun ds => (Gp vs).bind fun _ => (agL vs vs1 g t l1 g1 t1 e [] ds).bind fun r => M.ret (.nl r)
section
variable {X : Cx} {T : Tb} {W : WX} {k : Nat} {pos pos' : Pos} {tg iter elt tg1 iter1 : Expr} {ifs ifs1 : List Expr} {li l1 : M (List D)} {g g1 : D → M Unit} {is is1 vs1 : List Nat} {t t1 : M Bool} {me : M D} {scope : Scope} {own : List (Str × Nat)}
def IB (X : Cx) (scope : Scope) (tg iter : Expr) : TI := fun σ H R => ∀ (s : Shared) (H0 : Hp) (C : Addr) (cl : List (Str × Addr)) (fp : List Addr), WI (X.blk s H0 scope (compEnvC scope cl C X.env) fp) tg iter σ H R
end
end Pk
namespace Pk
open PySem PySem.Spec PyProof.Rows L2 GenW
structure WGS (X : Cx) (st : Stmt) (D : GEnds) (ys : List V) (σ : L2.St) (H : Hp) : Prop where
 go : ∀ (A : Around) (S : Addr) (ip : List (Addr × Obj)) (R : GenEnd) (n : Nat) (s₀ : Shared) (c : Code) (fs : List Frame) (K : Flow → Sem PySem.Fin) (J : Value → Sem PySem.Fin) (gd : Bool → Bool) (lv : List Value → List Value) (s : Shared),
  GC X S ip A c fs gd → n + ys.length = sizeLine → GK X S ip A R c fs K J D → GI X S ip ys σ H s →
  Seg (model X.prog X.w) A R (GY X S) n s₀ c ((exec st X.env).wrap K J gd lv) fs s
structure ak5 (X : Cx) (st : List Stmt) (D : GEnds) (ys : List V) (σ : L2.St) (H : Hp) : Prop where
 go : ∀ (A : Around) (S : Addr) (ip : List (Addr × Obj)) (R : GenEnd) (n : Nat) (s₀ : Shared) (c : Code) (fs : List Frame) (K : Flow → Sem PySem.Fin) (J : Value → Sem PySem.Fin) (gd : Bool → Bool) (lv : List Value → List Value) (s : Shared),
  GC X S ip A c fs gd → n + ys.length = sizeLine → GK X S ip A R c fs K J D → GI X S ip ys σ H s →
  Seg (model X.prog X.w) A R (GY X S) n s₀ c ((execs st X.env).wrap K J gd lv) fs s
section
variable {X : Cx} {st : Stmt} {sts : List Stmt} {D : GEnds} {ys : List V} {σ : L2.St} {H : Hp}
end
def Vu (K : PySem.W.Frag) (T : Tb) (B : Bs) (w : Wd) (r : R (List D)) (E : GEnds) : Prop := match r with
 | .ok ds fr h => ∀ w' σ' H' vs, w.le w' → Rel K T B w' σ' H' fr h → aF K T w' vs ds → E.nx vs σ' H'
 | _ => False
def amG (X : Cx) (T : Tb) (st : Stmt) (m : List D → M (List D)) : Prop := ∀ (B : Bs) (w : Wd) (σ : L2.St) (H : Hp) (fr : Fr) (h : Hh) (E : GEnds) (vs : List V) (ds : List D), Rel X.K T B w σ H fr h → aF X.K T w vs ds → Vu X.K T B w (m ds fr h) E → WGS X st E vs σ H
def ajb (X : Cx) (T : Tb) (sts : List Stmt) (m : List D → M (List D)) : Prop := ∀ (B : Bs) (w : Wd) (σ : L2.St) (H : Hp) (fr : Fr) (h : Hh) (E : GEnds) (vs : List V) (ds : List D), Rel X.K T B w σ H fr h → aF X.K T w vs ds → Vu X.K T B w (m ds fr h) E → ak5 X sts E vs σ H
def alJ (m : M Fl) (ds : List D) : M (List D) := fun fr h => match m fr h with
 | .ok .nx fr h => .ok ds fr h
 | _ => .err
def gNil (ds : List D) : M (List D) := M.ret ds
def amH (m n : List D → M (List D)) (ds : List D) : M (List D) := (m ds).bind n
def alK (me : M D) (ds : List D) : M (List D) := me.bind fun d => if ds.length < big then M.ret (ds ++ [d]) else fun _ _ => .err
def ajc (g : D → M Unit) (b : List D → M (List D)) : List D → List D → M (List D)
 | [], out => M.ret out
 | d :: ds, out => (g d).bind fun _ => (b out).bind fun out' => ajc g b ds out'
def amI (l : M (List D)) (g : D → M Unit) (b : List D → M (List D)) (out : List D) : M (List D) := l.bind fun ds => ajc g b ds out
section
variable {X : Cx} {T : Tb} {W : WX} {k : Nat} {st : Stmt} {sts body : List Stmt} {m n : List D → M (List D)} {b : List D → M (List D)} {pos yp : Pos} {e tg iter : Expr} {me : M D} {li : M (List D)} {g : D → M Unit} {is : List Nat}
theorem Vu.le {K : PySem.W.Frag} {T : Tb} {B : Bs} {w w' : Wd} {r : R (List D)} {E : GEnds} (l : w.le w') (p : Vu K T B w r E) : Vu K T B w' r E := by
 cases r with
 | ok ds fr h => exact fun w2 σ' H' vs l2 r rs => p w2 σ' H' vs (Wd.le_trans l l2) r rs
 | exc _ _ _ => exact p
 | err => exact p
end
end Pk
namespace Pk
open PySem PySem.Spec PyProof.Rows L2 GenW
abbrev FnG := List D → Hh → R (List D)
def ank (n : Nat) (m : List D → M (List D)) : FnG := fun ds h => match m [] (startF n ds) h with
 | .ok ys _ h => .ok ys [] h
 | _ => .err
def ak6 (K : PySem.W.Frag) (T : Tb) (n : Nat) (F : FnG) : SpG := fun vs H Q _ => ∃ w h ds, Rel K T (Bs.of w H) w [] H [] h ∧ aF K T w vs ds ∧ ds.length = n ∧ match F ds h with
 | .ok ys _ h' => ∀ w' H' vs', w.le w' → Rel K T (Bs.of w H) w' [] H' [] h' → aF K T w' vs' ys → Q vs' H'
 | _ => False
def amJ (P : Program) (w : World) (K : PySem.W.Frag) (mg : Str → Option Value) (base : Heap) (T : Tb) (k : Nat) (N : List Str) (qual : Str) (scope : Scope) (body : List Stmt) (m : List D → M (List D)) : Prop :=
 ∀ (f : Addr) (cdv : Value) (A : Around) (outer : List Env) (s : Shared) (H : Hp) (E : XK) (pn : List (Addr × Obj)), Cq (gcxOf P w K mg base N qual scope f cdv A outer s H E pn) T (WX.up E) k → ajb (gcxOf P w K mg base N qual scope f cdv A outer s H E pn) T body m
section
variable {P : Program} {w : World} {K : PySem.W.Frag} {mg : Str → Option Value} {base : Heap} {T : Tb} {k : Nat} {name qual : Str} {params : Arguments} {body : List Stmt} {scope : Scope} {f : Addr} {N ps : List Str} {dV kV doc pm cdv ct oc : Value} {an od : Option Addr} {osl : Array (Option Value)}
end
end Pk
namespace Pk
open PySem PySem.Spec PyProof.Rows L2 GenW
def aki (mt : Nat → Option FnG) (h : Hh) (o : D) : Option FnG := match o.ins h with
 | some (c, _) => mt c
 | none => none
def alL (mt : Nat → Option FnG) (mo : M D) : M D := mo.bind fun o fr h => match aki mt h o with
 | some F => match F [o] h with
   | .ok ys _ h => .ok (.nl ys) fr h
   | _ => .err
 | none => .err
structure alM (X : Cx) (T : Tb) (kk : Nat) (m : Str) (mt : Nat → Option FnG) : Prop where
 ex : ∀ c F, mt c = some F → ∃ (f : Addr) (fd : FuncData) (ps : List Str), Cls X.K (T.cad c) ∧ Meth X.K (T.cad c) m f ∧ GFn X.prog X.w X.K X.mg X.base kk f fd ps (ak6 X.K T 1 F) ∧ Binds X.K fd ps [] ∧ m ∉ T.fld c
def WPG (X : Cx) (k : Nat) (e : Expr) (E : XK) : TGen := fun σ H cont => ∀ pins s, Inv X pins σ H s → wpAny (model X.prog X.w) X.A (eval e X.env)
    (fun u s' => ∃ H1 sc ex, Inv X pins σ H1 sc ∧ ExOk X pins ex ∧ GMade X.prog X.w k X.stack H1 sc ex cont E u s') X.xe s
section
variable {X : Cx} {T : Tb} {W : WX} {k kk : Nat} {m nm : Str} {p pos pos' apos : Pos} {o e : Expr} {mo : M D} {mt : Nat → Option FnG} {E : XK}
end
section
variable {P : Program} {w : World} {K : PySem.W.Frag} {mg : Str → Option Value} {base : Heap} {T : Tb} {k : Nat} {x qual : Str} {params : Arguments} {body : List Stmt} {scope : Scope} {f : Addr} {fd : FuncData} {N ps : List Str} {dvs : List V} {kws : List (Str × V)}
end
end Pk
namespace L2
open PySem PySem.Spec PyProof.Rows
def Yl (K : PySem.W.Frag) : Bool → Hp → Addr → List V → Prop
 | true, H, a, xs => SqT K H a xs
 | false, H, a, xs => SqL K H a xs
def anl : Bool → Heap → Addr → Addr → Nat → Prop
 | true, h, it, a, i => h.IsTupleIter it a i
 | false, h, it, a, i => h.IsListIter it a i
def Isk : Bool → Heap → Addr → Array Value → Prop
 | true, h, a, xs => h.IsTuple a xs
 | false, h, a, xs => h.IsList a xs
def itOb : Bool → Addr → Obj
 | true, t => { cls := .type "tuple_iterator", data := .fields #[.ref t, .int 0 0] }
 | false, t => { cls := .type "list_iterator", data := .fields #[.ref t, .int 0 0] }
def ak7 (K : PySem.W.Frag) (k1 k2 : Bool) (a b : Addr) : It :=
 ⟨fun i H => ∃ xs ys x y, Yl K k1 H a xs ∧ Yl K k2 H b ys ∧ xs[i]? = some x ∧ ys[i]? = some y,
  fun i H v H' => ∃ T x y, v = V.ref T ∧ H T = none ∧ H' = upd H T (.tup [x, y]) ∧ (∀ xs, Yl K k1 H a xs → xs[i]? = some x) ∧ ∀ ys, Yl K k2 H b ys → ys[i]? = some y,
  fun i H => ∃ xs ys, Yl K k1 H a xs ∧ Yl K k2 H b ys ∧ (xs.length ≤ i ∨ ys.length ≤ i)⟩
def amK (K : PySem.W.Frag) (ta : TA) : TI := fun σ H R => ta σ H fun vs H1 => ∃ k1 k2 a b xs ys, vs = [.ref a, .ref b] ∧ Yl K k1 H1 a xs ∧ Yl K k2 H1 b ys ∧ R (ak7 K k1 k2 a b) H1
end L2
namespace Pk
open PySem PySem.Spec L2
def akj (h : Hh) (d e : D) : Option (Nat × List D × List D) := match vX h d, e with
 | some (n, l), .fl m => some (n, l, MN l m)
 | some (n, l), .tup m => some (n, l, MN l m)
 | _, _ => none
def alN (ma mb : M D) : M (Nat × List D × List D) := ma.bind fun d => mb.bind fun e fr h => M.opt (akj h d e) fr h
section
variable {X : Cx} {T : Tb} {W : WX} {k kk : Nat} {pos p tpos : Pos} {tg iter a c : Expr} {elts : List Expr} {body : List Stmt} {g : D → M Unit} {b : M Fl} {is : List Nat} {li : M (Nat × List D × List D)} {ma mb : M D}
end
end Pk
namespace GenP
open PySem PySem.Spec
def noG : Frame → Bool
 | .gen .. => false
 | .ret .. => true
def Zo : Frame → Frame
 | .gen _ _ _ c p => .ret (fun _ => .unsupported "") none false [] c p []
 | f => f
theorem abm (f : Frame) : (Zo f).where_ = f.where_ := by cases f <;> rfl
def Zq : GenState → GenState
 | .suspended _ l c p fs cl => .suspended (fun _ => .unsupported "") l c p (fs.map Zo) cl
 | st => st
def Qy : GenState → Bool
 | .fresh _ => false
 | _ => true
def clean : GenState → Bool
 | .suspended _ _ _ _ fs _ => fs.all noG
 | _ => true
theorem ad7 (st : GenState) : (Zq st).seen = st.seen := by
 cases st with
 | suspended k l c p fs cl =>
   show (_, some ((c, p) :: List.map Frame.where_ (fs.map Zo))) = (_, some ((c, p) :: List.map Frame.where_ fs))
   rw [aoj, show Frame.where_ ∘ Zo = Frame.where_ from funext abm]
 | _ => rfl
theorem ad8 (st : GenState) : (Zq st).bare = st.bare := by cases st <;> rfl
structure PS (D : Nat → Prop) (s t : Shared) : Prop where
 heap : s.heap = t.heap
 drawn : s.drawn = t.drawn
 toks : s.toks = t.toks
 os : s.os = t.os
 size : s.gens.size = t.gens.size
 dead : ∀ i, D i → ∃ st, t.gens[i]? = some st ∧ Qy st = true ∧ s.gens[i]? = some (Zq st)
 live : ∀ i, ¬ D i → s.gens[i]? = t.gens[i]? ∧ ∀ st, t.gens[i]? = some st → clean st = true
theorem PS.seen {D : Nat → Prop} {s t : Shared} (P : PS D s t) {g : Nat} {st : GenState} (h : s.gens[g]? = some st) : ∃ st', t.gens[g]? = some st' ∧ st'.seen = st.seen := by
 by_cases hd : D g
 · obtain ⟨st', e1, e2, e3⟩ := P.dead g hd
   rw [h] at e3
   cases e3
   exact ⟨st', e1, (ad7 st').symm⟩
 · exact ⟨st, (P.live g hd).1.symm.trans h, rfl⟩
theorem PS.same {D : Nat → Prop} {s t : Shared} (P : PS D s t) {g : Nat} {st : GenState} (h : s.gens[g]? = some st) (ns : ∀ k l c p fs cl, st ≠ .suspended k l c p fs cl) : t.gens[g]? = some st := by
 by_cases hd : D g
 · obtain ⟨st', e1, e2, e3⟩ := P.dead g hd
   rw [h] at e3
   cases st' with
   | suspended k l c p fs cl => exact absurd (Option.some.inj e3) (ns _ _ _ _ _ _)
   | _ => rw [e1]; exact e3.symm
 · exact (P.live g hd).1.symm.trans h
theorem PS.set {D : Nat → Prop} {s t : Shared} (P : PS D s t) {g : Nat} (hd : ¬ D g) {st : GenState} (hc : clean st = true) : PS D (s.setGen g st) (t.setGen g st) where
 heap := P.heap
 drawn := P.drawn
 toks := P.toks
 os := P.os
 size := by show (s.gens.setIfInBounds g st).size = (t.gens.setIfInBounds g st).size; simp [P.size]
 dead := fun i hi => by
  have ne : g ≠ i := fun e => hd (e ▸ hi)
  obtain ⟨st', e1, e2, e3⟩ := P.dead i hi
  exact ⟨st', by show (t.gens.setIfInBounds g st)[i]? = _; rw [Array.getElem?_setIfInBounds_ne ne]; exact e1, e2, by show (s.gens.setIfInBounds g st)[i]? = _; rw [Array.getElem?_setIfInBounds_ne ne]; exact e3⟩
 live := fun i hi => by
  obtain ⟨e1, e2⟩ := P.live i hi
  show (s.gens.setIfInBounds g st)[i]? = (t.gens.setIfInBounds g st)[i]? ∧ ∀ x, (t.gens.setIfInBounds g st)[i]? = some x → _
  by_cases ne : g = i
  · subst ne
    rw [Array.getElem?_setIfInBounds_self, Array.getElem?_setIfInBounds_self, P.size]
    refine ⟨rfl, fun x hx => ?_⟩
    split at hx
    · cases hx; exact hc
    · cases hx
  · rw [Array.getElem?_setIfInBounds_ne ne, Array.getElem?_setIfInBounds_ne ne]
    exact ⟨e1, e2⟩
theorem PS.push {D : Nat → Prop} {s t : Shared} (P : PS D s t) (c : Code) : PS D { s with gens := s.gens.push (.fresh c) } { t with gens := t.gens.push (.fresh c) } where
 heap := P.heap
 drawn := P.drawn
 toks := P.toks
 os := P.os
 size := by simp [P.size]
 dead := fun i hi => by
  obtain ⟨st', e1, e2, e3⟩ := P.dead i hi
  have l1 := (Array.getElem?_eq_some_iff.mp e1).1
  refine ⟨st', ?_, e2, ?_⟩
  · show (t.gens.push _)[i]? = _
    rw [Array.getElem?_push_lt l1, ← e1, Array.getElem?_eq_getElem l1]
  · have l2 := (Array.getElem?_eq_some_iff.mp e3).1
    show (s.gens.push _)[i]? = _
    rw [Array.getElem?_push_lt l2, ← e3, Array.getElem?_eq_getElem l2]
 live := fun i hi => by
  obtain ⟨e1, e2⟩ := P.live i hi
  show (s.gens.push _)[i]? = (t.gens.push _)[i]? ∧ ∀ st, (t.gens.push _)[i]? = some st → _
  rw [Array.getElem?_push, Array.getElem?_push, P.size, e1]
  refine ⟨rfl, fun st hst => ?_⟩
  split at hst
  · cases hst; rfl
  · exact e2 st hst
def Kept (D : Nat → Prop) (t t' : Shared) : Prop := (∀ i, D i → t'.gens[i]? = t.gens[i]?) ∧ t.gens.size ≤ t'.gens.size
theorem Kept.refl {D : Nat → Prop} {t : Shared} : Kept D t t := ⟨fun _ _ => rfl, Nat.le_refl _⟩
theorem Kept.trans {D : Nat → Prop} {t t' t2 : Shared} (a : Kept D t t') (b : Kept D t' t2) : Kept D t t2 := ⟨fun i hi => (b.1 i hi).trans (a.1 i hi), Nat.le_trans a.2 b.2⟩
theorem Kept.set {D : Nat → Prop} {t : Shared} {g : Nat} (hd : ¬ D g) (st : GenState) : Kept D t (t.setGen g st) := ⟨fun i hi => Array.getElem?_setIfInBounds_ne fun e => hd (by rw [e]; exact hi), by show t.gens.size ≤ (t.gens.setIfInBounds g st).size; simp⟩
theorem Kept.gens {D : Nat → Prop} {t t' : Shared} (h : t'.gens = t.gens) : Kept D t t' := ⟨fun i _ => by rw [h], by rw [h]; exact Nat.le_refl _⟩
def alO : End → Bool
 | .ret _ => true
 | .susp _ _ _ _ _ _ fs => fs.all noG
def afk (u : Shared) : Nat → Prop := fun i => ∃ st, u.gens[i]? = some st ∧ Qy st = true
def akE (u : Shared) : Shared := { u with gens := u.gens.map Zq }
theorem PS.bare {D : Nat → Prop} {s u : Shared} (P : PS D s u) (h : PyProof.Rows.AllBare s.gens) : PyProof.Rows.AllBare u.gens := fun y hy => by
 obtain ⟨i, hi, e⟩ := Array.mem_iff_getElem.mp hy
 have e : u.gens[i]? = some y := by rw [Array.getElem?_eq_getElem hi, e]
 by_cases hd : D i
 · obtain ⟨st, e1, _, e3⟩ := P.dead i hd
   rw [e] at e1
   cases e1
   rw [← ad8]
   exact h _ (Array.mem_of_getElem? e3)
 · exact h _ (Array.mem_of_getElem? ((P.live i hd).1.trans e))
end GenP
namespace GenP
open PySem PySem.Spec PyProof.Rows L2 GenW
section
variable {D : Nat → Prop} {s u : Shared} {X : Cx} {pins : List (Addr × Obj)} {σ : L2.St} {H : Hp}
end
abbrev SL := List (Nat × GenState)
def Sl (sl : SL) (s : Shared) : Prop := ∀ p ∈ sl, s.gens[p.1]? = some p.2 ∧ Qy p.2 = true
theorem Sl.keep {sl : SL} {u u' : Shared} (h : Sl sl u) (k : Kept (afk u) u u') : Sl sl u' := fun p hp => by
 obtain ⟨e, hs⟩ := h p hp
 exact ⟨(k.1 p.1 ⟨_, e, hs⟩).trans e, hs⟩
def cutS (n : Nat) (s : Shared) : Shared := { s with heap := { s.heap with objs := s.heap.objs.extract 0 n } }
theorem afl {n : Nat} {s : Shared} (h : n ≤ s.heap.objs.size) : (cutS n s).heap.objs.size = n := by
 show (s.heap.objs.extract 0 n).size = n
 rw [Array.size_extract]
 omega
section
variable {X : Cx} {pins : List (Addr × Obj)} {σ : L2.St} {H H1 : Hp} {s s1 : Shared} {n : Nat}
structure Low (X : Cx) (pins : List (Addr × Obj)) (n : Nat) : Prop where
 loc : X.env.locals < n
 cel : ∀ (x : Str) (c : Addr), aoi x X.env.cells = some c → c < n
 pin : ∀ p ∈ X.pn ++ pins, p.1 < n
end
abbrev E0g : XK := fun _ _ _ => False
structure GD where
 P : Program
 w : World
 K : PySem.W.Frag
 mg : Str → Option Value
 base : Heap
 N : List Str
 qual : Str
 scope : Scope
 f : Addr
 cdv : Value
 A : Around
 outer : List Env
 n : Nat
 g : Nat
 pn : List (Addr × Obj)
def GD.cx (G : GD) (s : Shared) (H : Hp) : Cx := gcxOf G.P G.w G.K G.mg G.base G.N G.qual G.scope G.f G.cdv G.A G.outer s H E0g G.pn
def GD.env (G : GD) : Env := envOfC G.qual G.scope G.n G.f G.cdv
variable {G : GD} {s s0 s1 s2 : Shared} {H H0 H1 H2 : Hp} {pins : List (Addr × Obj)} {σ : L2.St}
end GenP
namespace GenP
open PySem PySem.Spec PyProof.Rows L2 GenW Pk
inductive GSt where
 | go (a : Fr) (h : Hh)
 | out (f : Fl) (a : Fr) (h : Hh)
 | err
inductive GR where
 | go (n : Nat) (a fr : Fr) (h : Hh)
 | out (f : Fl) (a : Fr) (h : Hh)
 | err
abbrev Step := D → Fr → Hh → GSt
abbrev Ck := Step → Nat → Fr → Fr → Hh → GR
def GR.bind (r : GR) (k : Nat → Fr → Fr → Hh → GR) : GR := match r with
 | .go n a fr h => k n a fr h
 | .out f a h => .out f a h
 | .err => .err
def akk : Ck := fun _ n a fr h => .go n a fr h
def alR (b c : Ck) : Ck := fun st n a fr h => (b st n a fr h).bind (c st)
def alj (ms : M Fl) : Ck := fun _ n a fr h => match ms fr h with
 | .ok .nx fr h => .go n a fr h
 | _ => .err
def frozen (fr : Fr) : Bool := fr.all fun o => match o with
 | some d => !d.own
 | none => true
def alk (m : M D) : Ck := fun st n a fr h => match n with
 | 0 => .err
 | n + 1 => match m fr h with
   | .ok d fr h => if frozen fr then (match st d a h with
     | .go a h => .go n a fr h
     | .out f a h => .out f a h
     | .err => .err) else .err
   | _ => .err
def ad9 (g : D → M Unit) (b : Ck) : List D → Ck
 | [] => akk
 | d :: ds => fun st n a fr h => match g d fr h with
   | .ok _ fr h => (b st n a fr h).bind (ad9 g b ds st)
   | _ => .err
def amL (li : M (List D)) (g : D → M Unit) (b : Ck) : Ck := fun st n a fr h => match li fr h with
 | .ok ds fr h => ad9 g b ds st n a fr h
 | _ => .err
def anm (t : M Bool) (b c : Ck) : Ck := fun st n a fr h => match t fr h with
 | .ok true fr h => b st n a fr h
 | .ok false fr h => c st n a fr h
 | _ => .err
def At (G : GD) (T : Tb) (Tok : Fr → Shared → Wd → Hp → Hh → Prop) (sl : SL) (X : Cx) (a : Fr) (w : Wd) (σ : L2.St) (H : Hp) (fr : Fr) (h : Hh) (s : Shared) (pins : List (Addr × Obj)) : Prop :=
 ∃ sw ww Hw hw, Tok a sw ww Hw hw ∧ G.n ≤ sw.heap.objs.size ∧ X = G.cx (cutS G.n sw) Hw ∧ L2.Inv X pins σ H s ∧ Rel G.K T (Bs.of ww Hw) w σ H fr h ∧ Sl ((G.g, .running) :: sl) s ∧ ∀ p ∈ pins, G.n ≤ p.1
def Fam (G : GD) (X : Cx) : Prop := ∃ s H, s.heap.objs.size = G.n ∧ X = G.cx s H
structure aav (G : GD) (T : Tb) where
 Tok : Fr → Shared → Wd → Hp → Hh → Prop
 R : GenEnd
 Y : Protocol
 step : Step
 Fin : Fl → Fr → Hh → Prop
 yld : ∀ {sl : SL} {X : Cx} {n : Nat} {s₀ : Shared} {kap : Resume → Shared → Prop} {x : V} {u : Value} {d : D} {a : Fr} {w : Wd} {σ : L2.St} {H : Hp} {fr : Fr} {h : Hh} {s : Shared} {pins : List (Addr × Obj)},
  At G T Tok sl X a w σ H fr h s pins → frozen fr = true → RelV x u → bQ G.K T w x d →
  match step d a h with
  | .go a' h' => (∀ {X' : Cx} {w' : Wd} {H' : Hp} {s' : Shared}, w.le w' → At G T Tok sl X' a' w' σ H' fr h' s' pins → kap (.send .none) s' ∧ kap (.send (.bool true)) s') → Y n s₀ u s kap
  | .out f a' h' => Fin f a' h' → Y n s₀ u s kap
  | .err => True
structure ajd (G : GD) (A : Around) (c : Code) (fs : List Frame) (gd : Bool → Bool) : Prop where
 over : A.over c fs = G.A.deeper G.env
 split : splitAtGen fs = none
 guard : fs.any Frame.guarded = false
 gd : gd false = false
section
variable {G : GD} {T : Tb}
def Exc (C : aav G T) (A : Around) (c : Code) (fs : List Frame) (J : Value → Sem PySem.Fin) : Prop := ∀ n s₀ X e s, Fam G X → X.xe e s → Seg (model G.P G.w) A C.R C.Y n s₀ c (J e) fs s
def aaw (C : aav G T) (sl : SL) (A : Around) (c : Code) (fs : List Frame) (t : Sem PySem.Fin) (w : Wd) (pins : List (Addr × Obj)) (r : GR) : Prop := match r with
 | .go n a fr h => ∀ {X : Cx} {w' : Wd} {σ : L2.St} {H : Hp} {s s₀ : Shared}, w.le w' → At G T C.Tok sl X a w' σ H fr h s pins → Seg (model G.P G.w) A C.R C.Y n s₀ c t fs s
 | .out f a h => C.Fin f a h
 | .err => False
theorem aaw.le {C : aav G T} {sl : SL} {A : Around} {c : Code} {fs : List Frame} {t : Sem PySem.Fin} {w w' : Wd} {pins : List (Addr × Obj)} {r : GR} (l : w.le w') (z : aaw C sl A c fs t w pins r) : aaw C sl A c fs t w' pins r := by
 cases r with
 | go n a fr h => exact fun l2 => z (Wd.le_trans l l2)
 | out f a h => exact z
 | err => exact z
def GA (G : GD) (T : Tb) (st : Stmt) (m : Ck) : Prop := ∀ (C : aav G T) (sl : SL) (A : Around) (c : Code) (fs : List Frame) (Kf : Flow → Sem PySem.Fin) (J : Value → Sem PySem.Fin) (gd : Bool → Bool) (lv : List Value → List Value) (n : Nat) (s₀ : Shared) (X : Cx) (a : Fr) (w : Wd) (σ : L2.St) (H : Hp) (fr : Fr) (h : Hh) (s : Shared) (pins : List (Addr × Obj)),
 ajd G A c fs gd → Exc C A c fs J → At G T C.Tok sl X a w σ H fr h s pins → aaw C sl A c fs (Kf .next) w pins (m C.step n a fr h) →
 Seg (model G.P G.w) A C.R C.Y n s₀ c ((exec st G.env).wrap Kf J gd lv) fs s
def GAs (G : GD) (T : Tb) (sts : List Stmt) (m : Ck) : Prop := ∀ (C : aav G T) (sl : SL) (A : Around) (c : Code) (fs : List Frame) (Kf : Flow → Sem PySem.Fin) (J : Value → Sem PySem.Fin) (gd : Bool → Bool) (lv : List Value → List Value) (n : Nat) (s₀ : Shared) (X : Cx) (a : Fr) (w : Wd) (σ : L2.St) (H : Hp) (fr : Fr) (h : Hh) (s : Shared) (pins : List (Addr × Obj)),
 ajd G A c fs gd → Exc C A c fs J → At G T C.Tok sl X a w σ H fr h s pins → aaw C sl A c fs (Kf .next) w pins (m C.step n a fr h) →
 Seg (model G.P G.w) A C.R C.Y n s₀ c ((execs sts G.env).wrap Kf J gd lv) fs s
theorem At.next {Tok : Fr → Shared → Wd → Hp → Hh → Prop} {sl : SL} {X : Cx} {a : Fr} {w w' : Wd} {σ σ' : L2.St} {H H' : Hp} {fr fr' : Fr} {h h' : Hh} {s s' : Shared} {pins : List (Addr × Obj)} (z : At G T Tok sl X a w σ H fr h s pins) (I : L2.Inv X pins σ' H' s')
 (r : ∀ B, Rel G.K T B w σ H fr h → Rel G.K T B w' σ' H' fr' h') (k : Sl ((G.g, .running) :: sl) s → Sl ((G.g, .running) :: sl) s') : At G T Tok sl X a w' σ' H' fr' h' s' pins := by
 obtain ⟨sw, ww, Hw, hw, t, hn, e, _, R, S, hp⟩ := z
 exact ⟨sw, ww, Hw, hw, t, hn, e, I, r _ R, k S, hp⟩
structure GOk (G : GD) (T : Tb) (k : Nat) : Prop where
 cq : ∀ s H, s.heap.objs.size = G.n → Cq (G.cx s H) T (WX.up E0g) k
theorem At.x {Tok : Fr → Shared → Wd → Hp → Hh → Prop} {sl : SL} {X : Cx} {a : Fr} {w : Wd} {σ : L2.St} {H : Hp} {fr : Fr} {h : Hh} {s : Shared} {pins : List (Addr × Obj)} (z : At G T Tok sl X a w σ H fr h s pins) :
 ∃ s' H', s'.heap.objs.size = G.n ∧ X = G.cx s' H' ∧ L2.Inv X pins σ H s ∧ (∃ B, Rel G.K T B w σ H fr h) ∧ Sl ((G.g, .running) :: sl) s := by
 obtain ⟨sw, ww, Hw, hw, _, hn, e, I, R, S, _⟩ := z
 exact ⟨_, _, afl hn, e, I, ⟨_, R⟩, S⟩
end
end GenP
namespace GenP
open PySem PySem.Spec PyProof.Rows L2 GenW Pk
section
variable {G : GD} {T : Tb}
end
end GenP
namespace GenP
open PySem PySem.Spec PyProof.Rows L2 GenW Pk
def agM (P : Program) (w : World) (K : PySem.W.Frag) (mg : Str → Option Value) (base : Heap) (N : List Str) (qual : Str) (scope : Scope) (body : List Stmt) (f : Addr) (cdv : Value) (outer : List Env) (H : Hp) (vs : List V) (s : Shared) (u : Value) (s' : Shared) : Prop :=
 ∃ a g go, u = .ref a ∧ s.heap.objs.size < a ∧ s'.heap.get? a = some go ∧ (∀ h : Heap, h.get? a = some go → h.IsGen a g) ∧ (∀ v, go.data ≠ .cell v) ∧ s'.gens[g]? = some (.fresh (.func body (envOfC qual scope s.heap.objs.size f cdv))) ∧
   s'.os = s.os ∧ AllBare s'.gens ∧ (∀ b o, s.heap.get? b = some o → s'.heap.get? b = some o) ∧
   ∀ A : Around, A.handled = none → A.frames = some outer → L2.Inv (GD.cx ⟨P, w, K, mg, base, N, qual, scope, f, cdv, A, outer, s.heap.objs.size, g, [(a, go)]⟩ s H) [] (L2.start N vs) H s'
structure ak8 (P : Program) (w : World) (K : PySem.W.Frag) (mg : Str → Option Value) (base : Heap) (f : Addr) (fd : FuncData) (ps N : List Str) (qual : Str) (scope : Scope) (body : List Stmt) : Prop where
 ex : ∃ cdv, ∀ (A : Around) (outer : List Env) (s : Shared) (H : Hp) (args : Args) (us : List Value) (vs : List V), A.depth < recursionLimit → A.handled = none → Env0 P w K mg base A outer s H → BindsTo s fd args (ps.zip us) → Vals vs us → vs.length = ps.length →
  codeAny (model P w) A (.call (.ref f) args) (fun r s' => match r with
   | .ok (.ret u) => agM P w K mg base N qual scope body f cdv outer H vs s u s'
   | _ => False) s
section
variable {P : Program} {w : World} {K : PySem.W.Frag} {mg : Str → Option Value} {base : Heap} {x qual : Str} {params : Arguments} {body : List Stmt} {scope : Scope} {f : Addr} {fd : FuncData} {N ps : List Str} {dvs : List V} {kws : List (Str × V)}
end
section
variable {X : Cx} {T : Tb} {W : WX} {k : Nat}
def Yf (X : Cx) (pins : List (Addr × Obj)) (tg : Expr) (body : List Stmt) (a : Addr) (g : Nat) (D : Ends) : Protocol := fun _ _ v s kap => ∀ gs' : GenState, gs'.bare = true →
 wpAny (model X.prog X.w) X.A (assign tg X.env v) (fun _ s2 => wpAny (model X.prog X.w) X.A (execs body X.env) (fun f s3 => match f with
  | .next => (Qy gs' = true → s3.gens[g]? = some gs') ∧ s3.heap.IsGen a g ∧ s3.heap.NoLimit ∧ kap (.send .none) (s3.setGen g .running) ∧ kap (.send (.bool true)) (s3.setGen g .running)
  | .cont => (Qy gs' = true → s3.gens[g]? = some gs') ∧ s3.heap.IsGen a g ∧ s3.heap.NoLimit ∧ kap (.send .none) (s3.setGen g .running) ∧ kap (.send (.bool true)) (s3.setGen g .running)
  | .brk => ∃ σ' H', L2.Inv X pins σ' H' s3 ∧ D.nx σ' H'
  | .ret u => ∃ x σ' H', L2.Inv X pins σ' H' s3 ∧ RelV x u ∧ D.rt x H') X.xe s2) X.xe (s.setGen g gs')
def Rf (X : Cx) (pins : List (Addr × Obj)) (D : Ends) : GenEnd := fun _ _ r s => (r = .ok (.ret .none) ∨ r = .ok .next) ∧ (∃ σ' H', L2.Inv X pins σ' H' s ∧ D.nx σ' H') ∨ ∃ e, r = .error e ∧ False
def stepF (g : D → M Unit) (b : M Fl) : Step := fun d a h => match g d a h with
 | .ok _ a h => match b a h with
   | .ok .nx a h => .go a h
   | .ok .ct a h => .go a h
   | .ok .brk a h => .out .nx a h
   | .ok (.rt d) a h => .out (.rt d) a h
   | _ => .err
 | _ => .err
def ano (X : Cx) (T : Tb) (B : Bs) (w0 : Wd) (pins : List (Addr × Obj)) : Fr → Shared → Wd → Hp → Hh → Prop := fun a sw ww Hw hw => ∃ σ, L2.Inv X pins σ Hw sw ∧ Rel X.K T B ww σ Hw a hw ∧ w0.le ww
def anp (X : Cx) (T : Tb) (B : Bs) (W : WX) (w0 : Wd) (D : Ends) : Fl → Fr → Hh → Prop := fun f a h => dI X.K T B W w0 (.ok f a h) D
end
end GenP
namespace GenP
open PySem PySem.Spec PyProof.Rows L2 GenW Pk
abbrev Gc (X : Cx) (N : List Str) (qual : Str) (scope : Scope) (f : Addr) (cdv : Value) (n g : Nat) (a : Addr) (go : Obj) : GD := ⟨X.prog, X.w, X.K, X.mg, X.base, N, qual, scope, f, cdv, X.A.in1, X.stack, n, g, [(a, go)]⟩
section
variable {X : Cx} {T : Tb} {W : WX} {k : Nat} {pins : List (Addr × Obj)} {tg : Expr} {body : List Stmt} {gm : D → M Unit} {bm : M Fl} {is : List Nat} {B : Bs} {w0 : Wd} {Dn : Ends}
 {N : List Str} {qual : Str} {scope : Scope} {f : Addr} {cdv : Value} {n g : Nat} {a : Addr} {go : Obj}
structure anq (X : Cx) (pins : List (Addr × Obj)) (N : List Str) (qual : Str) (scope : Scope) (f : Addr) (cdv : Value) (n g : Nat) (a : Addr) (go : Obj) : Prop where
 low : Low X pins n
 cel : (Gc X N qual scope f cdv n g a go).env.cells = []
 na : n < a
 gen : ∀ h : Heap, h.get? a = some go → h.IsGen a g
 dat : ∀ v, go.data ≠ .cell v
 fr : ∀ b ∈ frs X.stack, b < n
end
end GenP
namespace GenP
open PySem PySem.Spec PyProof.Rows L2 GenW Pk
def alV (P : Program) (w : World) (K : PySem.W.Frag) (mg : Str → Option Value) (base : Heap) (T : Tb) (k : Nat) (N : List Str) (qual : Str) (scope : Scope) (body : List Stmt) (m : Ck) : Prop :=
 ∀ (f : Addr) (cdv : Value) (A : Around) (outer : List Env) (n g : Nat) (pn : List (Addr × Obj)), GOk ⟨P, w, K, mg, base, N, qual, scope, f, cdv, A, outer, n, g, pn⟩ T k → GAs ⟨P, w, K, mg, base, N, qual, scope, f, cdv, A, outer, n, g, pn⟩ T body m
structure WCG (X : Cx) (e : Expr) (N : List Str) (qual : Str) (scope : Scope) (body : List Stmt) (σ : L2.St) (H : Hp) (Q : List V → Hp → Prop) : Prop where
 go : ∀ pins s, L2.Inv X pins σ H s → wpAny (model X.prog X.w) X.A (eval e X.env) (fun u s' => ∃ f cdv vs H1 s1, L2.Inv X pins σ H1 s1 ∧ Q vs H1 ∧ agM X.prog X.w X.K X.mg X.base N qual scope body f cdv X.stack H1 vs s1 u s') X.xe s
abbrev amM (X : Cx) (T : Tb) (W : WX) (e : Expr) (N : List Str) (qual : Str) (scope : Scope) (body : List Stmt) (m : M (List D)) : Prop := iT (WCG X e N qual scope body) X.K T W vA m
def akl (nN : Nat) (b : Ck) (st : Step) : List D → Fr → Hh → R Fl := fun ds a h => match b st big a (startF nN ds) h with
 | .go _ a _ h => .ok .nx a h
 | .out f a h => .ok f a h
 | .err => .err
def amN (mc : M (List D)) (nN : Nat) (b : Ck) (g : D → M Unit) (bm : M Fl) : M Fl := fun fr h => match mc fr h with
 | .ok ds fr h => akl nN b (stepF g bm) ds fr h
 | .exc x fr h => .exc x fr h
 | .err => .err
section
variable {X : Cx} {T : Tb} {W : WX} {k kk : Nat} {x : Str} {tp pos : Pos} {iter : Expr} {body gbody : List Stmt} {gm : D → M Unit} {bm : M Fl} {is : List Nat} {N ps : List Str} {qual : Str} {scope : Scope} {gb : Ck} {mc : M (List D)}
end
end GenP
namespace GenP
open PySem PySem.Spec PyProof.Rows L2 GenW Pk
def amO (c : Nat) (mo : M D) : M (List D) := mo.bind fun o fr h => match o.ins h with
 | some (c', _) => if c' = c then .ok [o] fr h else .err
 | none => .err
structure alX (X : Cx) (T : Tb) (m : Str) (c : Nat) (ps N : List Str) (qual : Str) (scope : Scope) (body : List Stmt) : Prop where
 ex : ∃ (f : Addr) (fd : FuncData), Cls X.K (T.cad c) ∧ Meth X.K (T.cad c) m f ∧ ak8 X.prog X.w X.K X.mg X.base f fd ps N qual scope body ∧ Binds X.K fd ps [] ∧ m ∉ T.fld c
 one : ps.length = 1
section
variable {X : Cx} {T : Tb} {W : WX} {k c : Nat} {m nm : Str} {p pos pos' apos : Pos} {o e : Expr} {mo : M D} {ps N : List Str} {qual : Str} {scope : Scope} {body : List Stmt}
end
end GenP
namespace Pk
open PySem PySem.Spec L2
def D.enc (d : D) : PyData := d.toP.getD .none
def leD (a b : D) : Bool := PySem.W.dataLe false D.enc a b
def aje (a : D) : List D → List D
 | [] => [a]
 | b :: l => if leD a b then a :: b :: l else b :: aje a l
def acX : List D → List D
 | [] => []
 | a :: l => aje a (acX l)
def acf : List D → Bool
 | [] => true
 | a :: l => l.all (fun b => !leD b a) && acf l
theorem pw_or {α : Type} {R : α → α → Prop} : ∀ {l : List α}, l.Pairwise R → ∀ a ∈ l, ∀ b ∈ l, a = b ∨ R a b ∨ R b a
 | x :: l, h, a, ha, b, hb => by
   obtain ⟨h1, h2⟩ := List.pairwise_cons.mp h
   rcases List.mem_cons.mp ha with ea | ha
   · rcases List.mem_cons.mp hb with eb | hb
     · exact .inl (ea.trans eb.symm)
     · exact .inr (.inl (ea ▸ h1 b hb))
   · rcases List.mem_cons.mp hb with eb | hb
     · exact .inr (.inr (eb ▸ h1 a ha))
     · exact pw_or h2 a ha b hb
def ajf : PyData → Bool
 | .tuple (_ :: _) => true
 | _ => false
def akm : PyData → Bool
 | .none => false
 | .tuple _ => false
 | _ => true
def D.lds (h : Hh) (d : D) : Option (List D) := match d.der h with
 | .fl l => some l
 | .nl l => some l
 | .kl l => some l
 | _ => none
def alY (h : Hh) (d : D) : Option D := match d.lds h with
 | some l => if l.all (fun d => d.toP.isSome && decide (d.enc.depth ≤ 8)) && (l.all fun a => l.all fun b => PySem.W.alike a.enc b.enc) && (l.all (fun d => ajf d.enc) || l.all (fun d => akm d.enc)) && decide (l.length ≤ big) && acf (acX l) then some (.nl (acX l)) else none
 | none => none
section
variable {X : Cx} {T : Tb} {W : WX} {k : Nat} {a : Expr} {ma : M D} {pf pos : Pos}
end
end Pk
namespace Pk
open PySem PySem.Spec PyProof.Rows L2
def keyB : Key → D
 | .inl i => .int i
 | .inr s => .str s
theorem ajg {K : PySem.W.Frag} {T : Tb} {w : Wd} (k : Key) : bQ K T w (kV k) (keyB k) := by
 cases k with
 | inl i => exact .int i
 | inr s => exact .str s
theorem acg {K : PySem.W.Frag} {T : Tb} {w : Wd} : ∀ ks : List Key, aF K T w (ks.map kV) (ks.map keyB)
 | [] => .nil
 | k :: ks => .cons (ajg k) (acg ks)
def valE : List Key → List D → Key → Option D
 | k' :: ks, d :: ds, k => if k' = k then some d else valE ks ds k
 | _, _, _ => none
def Qz (ks : List Key) (k : Key) : Bool := ks.any fun k' => decide (k' = k)
def DW (ks : List Key) (k : Key) : List Key := if Qz ks k = true then ks else ks ++ [k]
def xg {α : Type} (ks : List Key) (ds : List α) (k : Key) (v : α) : List α := if Qz ks k = true then List.zipWith (fun k' d => if k' = k then v else d) ks ds else ds ++ [v]
theorem aax {K : PySem.W.Frag} {T : Tb} {w : Wd} {k : Key} : ∀ {ks : List Key} {vs : List V} {ds : List D}, aF K T w vs ds → (valE ks ds k = none ∧ valV (ks.zip vs) k = none) ∨ ∃ z v, valE ks ds k = some z ∧ valV (ks.zip vs) k = some v ∧ bQ K T w v z
 | [], _, _, _ => .inl ⟨rfl, rfl⟩
 | k' :: ks, _, _, .nil => .inl ⟨rfl, rfl⟩
 | k' :: ks, _, _, .cons (v := v) (vs := vs) (d := d) r rs => by
   unfold valE
   rw [List.zip_cons_cons]
   by_cases c : k' = k
   · rw [if_pos c]
     exact .inr ⟨d, v, rfl, valV_pos c, r⟩
   · rw [if_neg c, valV_neg (p := (k', v)) c]
     exact aax rs
theorem aay {k : Key} : ∀ {ks : List Key} {vs : List V}, ks.length = vs.length → ((ks.zip vs).any fun kv => decide (kv.1 = k)) = Qz ks k
 | [], _, _ => rfl
 | _ :: _, [], h => by cases h
 | k' :: ks, v :: vs, h => by
   rw [List.zip_cons_cons, List.any_cons, aay (Nat.succ.inj h)]
   rfl
theorem Ym {k : Key} {v : V} : ∀ {ks : List Key} {vs : List V}, ((ks.zip vs).map fun kv => if kv.1 = k then (kv.1, v) else kv) = ks.zip (List.zipWith (fun k' d => if k' = k then v else d) ks vs)
 | [], _ => by simp
 | _ :: _, [] => by simp
 | k' :: ks, u :: vs => by
   rw [List.zip_cons_cons, an1, List.zipWith_cons_cons, List.zip_cons_cons, Ym]
   by_cases c : k' = k <;> simp [c]
theorem afm {ks : List Key} {vs : List V} {k : Key} {v : V} (hl : ks.length = vs.length) : putK (ks.zip vs) k v = (DW ks k).zip (xg ks vs k v) := by
 unfold putK DW xg
 have e := aay (k := k) hl
 by_cases c : Qz ks k = true
 · rw [if_pos c, if_pos c]
   rw [c] at e
   rw [← Ym]
   simp only [e, if_true]
 · rw [if_neg c, if_neg c]
   rw [Bool.not_eq_true] at c
   rw [c] at e
   simp only [e, Bool.false_eq_true, if_false]
   rw [List.zip_append hl]
   rfl
theorem afn {K : PySem.W.Frag} {T : Tb} {w : Wd} {k : Key} {v : V} {d : D} (r : bQ K T w v d) {ks : List Key} {vs : List V} {ds : List D} (rs : aF K T w vs ds) : aF K T w (xg ks vs k v) (xg ks ds k d) := by
 have z : ∀ {ks : List Key} {vs : List V} {ds : List D}, aF K T w vs ds → aF K T w (List.zipWith (fun k' u => if k' = k then v else u) ks vs) (List.zipWith (fun k' u => if k' = k then d else u) ks ds) := by
  intro ks
  induction ks with
  | nil => intro vs ds _; exact .nil
  | cons k' ks ih =>
    intro vs ds rs
    cases rs with
    | nil => exact .nil
    | cons r1 rs =>
      rw [List.zipWith_cons_cons, List.zipWith_cons_cons]
      refine .cons ?_ (ih rs)
      by_cases c : k' = k
      · rw [if_pos c, if_pos c]; exact r
      · rw [if_neg c, if_neg c]; exact r1
 unfold xg
 by_cases c : Qz ks k = true
 · rw [if_pos c, if_pos c]; exact z rs
 · rw [if_neg c, if_neg c]; exact rs.append (.cons r .nil)
theorem afo {ks : List Key} {ds : List D} {k : Key} {d : D} (h : ks.length = ds.length) : (DW ks k).length = (xg ks ds k d).length := by
 unfold DW xg
 by_cases c : Qz ks k = true
 · rw [if_pos c, if_pos c, List.length_zipWith, ← h, Nat.min_self]
 · rw [if_neg c, if_neg c, an9, an9, h]
   rfl
def cellE (h : Hh) (d : D) : Option (Nat × List Key × List D) := match d with
 | .ref n => match h[n]? with
   | some (.dk ks ds) => some (n, ks, ds)
   | _ => none
 | _ => none
theorem acY {h : Hh} {d : D} {n : Nat} {ks : List Key} {ds : List D} (e : cellE h d = some (n, ks, ds)) : d = .ref n ∧ h[n]? = some (.dk ks ds) := by
 unfold cellE at e
 split at e
 · split at e
   · rename_i q; cases e; exact ⟨rfl, q⟩
   · cases e
 · cases e
def MT (h : Hh) (o k : D) : Option D := (cellE h o).bind fun x => (keyD k).bind fun k => valE x.2.1 x.2.2 k
def Fe (h : Hh) (o k z : D) : Option D := (cellE h o).bind fun x => (keyD k).bind fun k => some ((valE x.2.1 x.2.2 k).getD z)
def Ju (h : Hh) (o k d : D) : Option Hh := (cellE h o).bind fun x => (keyD k).bind fun k => if x.2.1.length ≤ big then some (h.set x.1 (.dk (DW x.2.1 k) (xg x.2.1 x.2.2 k d))) else none
def HS (h : Hh) (o : D) : Option D := (cellE h o).bind fun x => some (.nl (x.2.1.map keyB))
def Vv : M D := fun fr h => .ok (.ref h.length) fr (h ++ [.dk [] []])
def RK (mo mk : M D) : M D := mo.bind fun o => mk.bind fun k fr h => M.opt (MT h o k) fr h
def La (mo mk mz : M D) : M D := mo.bind fun o fr h => if (cellE h o).isSome = true then (mk.bind fun k => mz.bind fun z fr h => M.opt (Fe h o k z) fr h) fr h else .err
def RL (mo mk mv : M D) : M Fl := mv.bind fun d => mo.bind fun o => mk.bind fun k fr h => match Ju h o k d with
 | some h' => .ok .nx fr h'
 | none => .err
def Ld (mo : M D) : M D := mo.bind fun o fr h => M.opt (HS h o) fr h
section
variable {X : Cx} {e : Expr} {td : TE} {apos cpos p pos : Pos}
def afp (td : TE) : TE := fun σ H Q => td σ H fun x H1 => ∃ d kvs, x = .ref d ∧ H1 d = some (.dK kvs) ∧ ∀ q, H1 q = none → Q (.ref q) (upd H1 q (.lst (kvs.map fun kv => kV kv.1)))
theorem Yn : ∀ (kvs : List (Key × V)) (vs : List (Key × Value)) (us : List Value), KV kvs vs → us.length = vs.length → (∀ (j : Nat) (u : Value), us[j]? = some u → ∃ k x, vs[j]? = some (k, x) ∧ keyIs k u = true) → Vals (kvs.map fun kv => kV kv.1) us
 | [], _, us, .nil, hl, _ => by
   cases us with
   | nil => exact .nil
   | cons _ _ => cases hl
 | p :: ps, _, us, .cons (b := q) (l₂ := qs) h t, hl, hi => by
   cases us with
   | nil => cases hl
   | cons u us =>
     obtain ⟨k, x, e, hk⟩ := hi 0 u rfl
     have e : q = (k, x) := Option.some.inj e
     refine .cons ?_ (Yn ps qs us t (Nat.succ.inj hl) fun j v e => hi (j + 1) v e)
     show RelV (kV p.1) u
     rw [h.1, e]
     exact keyIs_rel hk
theorem abn (hc : X.calm = true) (hg : Gl X "list") (hm : X.mg "list" = none) (he : PE X e td) (hbase : attributeBase e "keys" X.env (eval e X.env) = eval e X.env := by rfl) (hline : (apos.endLine == cpos.line) = true := by rfl)
 (na : starEach [Expr.Call (.Attribute e "keys" apos) [] [] cpos] X.env = (false, eval (.Call (.Attribute e "keys" apos) [] [] cpos) X.env) :: starEach [] X.env := by rfl) :
 PE X (.Call (.Name "list" p) [.Call (.Attribute e "keys" apos) [] [] cpos] [] pos) (afp td) := by
 refine ⟨fun pins s σ H Q I h => ?_⟩
 refine Call_ (ld_blt I hg hm boot_list (PyProof.Rows.callWith_type1 (args_cons ?_ na) na))
 refine wpAny_Call_method (T := "dict") (id := "dict.keys") hbase rfl hline PySem.F.plainAttrs_dict PySem.F.slot_dict_keys PySem.F.type_dict_keys (thn (he.run pins s σ H _ I h) fun u s1 ⟨x, H1, I1, rx, d, kvs, ex, hd, q⟩ => ?_)
 subst ex
 obtain rfl : u = Value.ref d := rx
 obtain ⟨hz, hs, vs, kv, dd⟩ := dk_of I1.hok hd
 refine ⟨dd.typeIs, fun b q => by
  cases q
  obtain ⟨ob, _, _, h1, h2, _⟩ := dd
  exact ⟨ob, h1, h2.2.1⟩, ?_⟩
 have I2 : Inv X pins σ H1 { s1 with heap := s1.heap.push { cls := .type "dict_keys", data := .fields #[.ref d] } } := I1.kept (t' := s1.toks) fun b ob q => Heap.get?_push_of_some _ q
 show wpAny _ _ (callWith cpos (.builtin "dict.keys") [.ref d] [] []) _ X.xe s1
 refine method_meetsIn PySem.F.slot_dict_keys PySem.F.entry_dict_keys rfl (PySem.evalArgs_none ⟨rfl, dd.typeIs, PySem.F.args_dict_keys_1 _, _, PySem.W.kdl_meets_keys (mixKind X.prog X.w) d hs, ⟨vs, dd⟩, args_nil ?_⟩)
 obtain ⟨o, es, ep, h1, h2, h3, h4, h5, h6⟩ := dd
 have da : s1.heap.DictAt (mixKind X.prog X.w) d vs ep := ⟨o, es, h1, h2, h3, h4, h5, h6⟩
 have dv : PySem.W.KdlKeysView (s1.heap.push { cls := .type "dict_keys", data := .fields #[.ref d] }) s1.heap.objs.size d := ⟨_, Heap.get?_push_size _ rfl, rfl, rfl⟩
 refine PySem.W.kdl_call (PySem.W.kdl_keys (knd := mixKind X.prog X.w) (kvs := vs) (ep := ep) (r := s1.heap.objs.size) (d := d)) (I1.ok.hd hc) ⟨dv, da.push _⟩ (by rw [← kv.length]; exact hz) fun h' tk acc c' hk e' hi => ?_
 refine ⟨.ref _, upd H1 (s1.heap.push { cls := .type "dict_keys", data := .fields #[.ref d] }).objs.size (.lst (kvs.map fun kv => kV kv.1)), I2.laid hk (Nat.le_refl _) (show ObjOk X.prog X.w _ _ _ (.lst (kvs.map fun kv => kV kv.1)) from ⟨?_, acc.toList, c', ?_, ?_⟩), rfl, q _ (I2.hok.fresh (Nat.le_refl _))⟩
 · rw [an2]; exact hz
 · exact Yn kvs vs acc.toList kv (by rw [Array.length_toList]; exact hi.1) fun j u e => hi.2 j u (by rw [← Array.getElem?_toList]; exact e)
 · rw [Array.toArray_toList]; exact e'
end
section
variable {X : Cx} {T : Tb} {W : WX} {k : Nat} {pos pos' cpos apos p : Pos} {o e f : Expr} {mo mk mz m : M D}
theorem ahp : aY X T W (.Dict [] [] pos) Vv := fun B w σ H fr h Q R p => eG pe_dnewK (show tDNewK σ H Q from fun q nq => by
 have R2 := (R.temp (o := .dK []) nq).to_cellO (R.own_new nq) (R.loose_new nq) upd_same (Cr.dkt (ks := []) rfl .nil)
 exact p ⟨w.F, w.I ++ [q]⟩ _ (.ref q) ⟨fun _ _ z => z, [q], rfl⟩ R2 (.ref (by
  rw [← R.len]
  show (w.I ++ [q])[w.I.length]? = some q
  rw [aow (Nat.le_refl _), Nat.sub_self]
  rfl)))
theorem aaz {B : Bs} {w : Wd} {σ : L2.St} {H : Hp} {fr : Fr} {h : Hh} {x : V} {d : D} {n : Nat} {ks : List Key} {ds : List D} (R : Rel X.K T B w σ H fr h) (rx : bQ X.K T w x d) (q : cellE h d = some (n, ks, ds)) :
 ∃ a vs, x = .ref a ∧ w.I[n]? = some a ∧ h[n]? = some (.dk ks ds) ∧ H a = some (.dK (ks.zip vs)) ∧ ks.length = ds.length ∧ aF X.K T w vs ds := by
 obtain ⟨rfl, hc⟩ := acY q
 cases rx with
 | @ref a n1 s1 =>
   obtain ⟨ob, eH, ro⟩ := R.cel n a _ s1 hc
   cases ro with
   | @dkt _ vs _ hl rv => exact ⟨a, vs, rfl, s1, hc, eH, hl, rv⟩
theorem ahq (C : Cq X T W k) (so : aY X T W o mo) (sk : aY X T W e mk) (hs : NoSl e := by intro _ _; rfl) : aY X T W (.Subscript o e pos) (RK mo mk) := fun B w σ H fr h Q R p =>
 eG (pe_dget (by have := C.u; omega) bF bF hs) (so B w σ H fr h _ R (aO.bind (VR := vV X.K T B σ) p fun d fr1 h1 w1 H1 x e1 l1 r1 rx p1 =>
  sk B w1 σ H1 fr1 h1 _ r1 (aO.bind (VR := vV X.K T B σ) p1 fun kd fr2 h2 w2 H2 y e2 l2 r2 rk p2 => by
   cases q : MT h2 d kd with
   | none => rw [q] at p2; exact p2.elim
   | some z =>
     rw [q] at p2
     unfold MT at q
     cases q1 : cellE h2 d with
     | none => rw [q1] at q; cases q
     | some c =>
       obtain ⟨n, kk, ds⟩ := c
       rw [q1] at q
       cases q2 : keyD kd with
       | none => rw [q2] at q; cases q
       | some k1 =>
         rw [q2] at q
         have q : valE kk ds k1 = some z := q
         obtain ⟨a, vs, rfl, s1, hc, eH, hl, rv⟩ := aaz r2 (rx.mono l2) q1
         obtain rfl := aat rk q2
         rcases aax (ks := kk) (k := k1) rv with ⟨h1, _⟩ | ⟨z', v, h1, h2, rz⟩
         · rw [h1] at q; cases q
         · rw [h1] at q
           cases q
           have g := DGet.k (k := k1) eH
           rw [h2] at g
           exact ⟨a, v, rfl, g, p2 w2 _ v (Wd.le_refl _) r2 rz⟩)))
theorem afq (C : Cq X T W k) (so : aY X T W o mo) (sk : aY X T W e mk) (sz : aY X T W f mz) (m2 : M2 X o "get" apos e f cpos := by exact ⟨by rfl, by rfl, by rfl, by rfl⟩) : aY X T W (.Call (.Attribute o "get" apos) [e, f] [] cpos) (La mo mk mz) := fun B w σ H fr h Q R p =>
 eG (pe_dget2 (by have := C.u; omega) bF bF bF m2) (so B w σ H fr h _ R (aO.bind (VR := vV X.K T B σ) p fun d fr1 h1 w1 H1 x e1 l1 r1 rx p1 => by
  have p1 : aO X.K T B W (vV X.K T B σ) w1 σ (if (cellE h1 d).isSome = true then (mk.bind fun k => mz.bind fun z fr h => M.opt (Fe h d k z) fr h) fr1 h1 else .err) Q := p1
  by_cases hi : (cellE h1 d).isSome = true
  · rw [if_pos hi] at p1
    obtain ⟨⟨n, ks, ds⟩, q0⟩ := Option.isSome_iff_exists.mp hi
    obtain ⟨a, vs, rfl, s1, _, eH, _, _⟩ := aaz r1 rx q0
    refine ⟨a, rfl, .inl ⟨_, .inl eH⟩, ?_⟩
    exact sk B w1 σ H1 fr1 h1 _ r1 (aO.bind (VR := vV X.K T B σ) p1 fun kd fr2 h2 w2 H2 y e2 l2 r2 rk p2 => sz B w2 σ H2 fr2 h2 _ r2 (aO.bind (VR := vV X.K T B σ) p2 fun zd fr3 h3 w3 H3 u e3 l3 r3 rz p3 => by
     cases q : Fe h3 d kd zd with
     | none => rw [q] at p3; exact p3.elim
     | some z =>
       rw [q] at p3
       unfold Fe at q
       cases q1 : cellE h3 d with
       | none => rw [q1] at q; cases q
       | some c =>
         obtain ⟨n, kk, ds⟩ := c
         rw [q1] at q
         cases q2 : keyD kd with
         | none => rw [q2] at q; cases q
         | some k1 =>
           rw [q2] at q
           have q : some ((valE kk ds k1).getD zd) = some z := q
           cases q
           obtain ⟨a', vs, ea, s1, hc, eH, hl, rv⟩ := aaz r3 (rx.mono (Wd.le_trans l2 l3)) q1
           cases ea
           obtain rfl := aat (rk.mono l3) q2
           have g := DGet.k (k := k1) eH
           refine ⟨_, g, ?_⟩
           rcases aax (ks := kk) (k := k1) rv with ⟨z1, z2⟩ | ⟨z', v, z1, z2, rz'⟩
           · rw [z2]
             rw [z1] at p3
             exact p3 w3 _ u (Wd.le_refl _) r3 rz
           · rw [z2]
             rw [z1] at p3
             exact p3 w3 _ v (Wd.le_refl _) r3 rz'))
  · rw [if_neg hi] at p1; exact p1.elim))
theorem ajh (C : Cq X T W k) (so : aY X T W o mo) (sk : aY X T W e mk) (s : aY X T W f m) (hs : swapsWith f (some (.Subscript o e pos')) pos.line X.env = pure false := by rfl) : wO X T W (.Assign [.Subscript o e pos'] f pos) (RL mo mk m) := fun B w σ H fr h Dn R p =>
 wV (ps_dput (by have := C.u; omega) bF bF bF hs) (s B w σ H fr h _ R (dI.bind (VR := vV X.K T B σ) p fun d fr1 h1 w1 H1 v e1 l1 r1 rd p1 =>
  so B w1 σ H1 fr1 h1 _ r1 (dI.bind (VR := vV X.K T B σ) p1 fun od fr0 h0 w0 H0 x e0 l0 r0 rx p0 =>
   sk B w0 σ H0 fr0 h0 _ r0 (dI.bind (VR := vV X.K T B σ) p0 fun kd fr2 h2 w2 H2 y e2 l2 r2 rk p2 => by
    cases q : Ju h2 od kd d with
    | none => rw [q] at p2; exact (show False from p2).elim
    | some h3 =>
      rw [q] at p2
      have p2 : dI X.K T B W w2 (.ok .nx fr2 h3) Dn := p2
      unfold Ju at q
      cases q1 : cellE h2 od with
      | none => rw [q1] at q; cases q
      | some c =>
        obtain ⟨n, kk, ds⟩ := c
        rw [q1] at q
        cases q2 : keyD kd with
        | none => rw [q2] at q; cases q
        | some k1 =>
          rw [q2] at q
          have q : (if kk.length ≤ big then some (h2.set n (.dk (DW kk k1) (xg kk ds k1 d))) else none) = some h3 := q
          by_cases hb : kk.length ≤ big
          · rw [if_pos hb] at q
            cases q
            obtain ⟨a, vs, rfl, s1, hc, eH, hl, rv⟩ := aaz r2 (rx.mono l2) q1
            obtain rfl := aat rk q2
            have hlv : kk.length = vs.length := hl.trans rv.length.symm
            have g := DPut.k (k := k1) (v := v) eH (by
             rw [List.length_zip, ← hlv, Nat.min_self]
             exact Nat.lt_of_le_of_lt hb (by decide))
            have R3 := r2.change_cell s1 hc (Cr.dkt (ks := DW kk k1) (vs := xg kk vs k1 v) (ds := xg kk ds k1 d) (afo hl) (afn (rd.mono (Wd.le_trans l0 l2)) rv))
            rw [← afm hlv] at R3
            exact ⟨a, _, rfl, g, p2 w2 σ _ (Wd.le_refl _) R3⟩
          · rw [if_neg hb] at q; cases q))))
theorem afr {ks : List Key} {vs : List V} (h : ks.length = vs.length) : (ks.zip vs).map (fun kv => kV kv.1) = ks.map kV := by
 rw [show (fun kv : Key × V => kV kv.1) = kV ∘ Prod.fst from rfl, ← aoj, List.map_fst_zip (Nat.le_of_eq h)]
theorem afs (C : Cq X T W k) (so : aY X T W o mo) (hm : X.mg "list" = none) (hg : Gl X "list" := by rfl) (hbase : attributeBase o "keys" X.env (eval o X.env) = eval o X.env := by rfl) (hline : (apos.endLine == cpos.line) = true := by rfl)
 (na : starEach [Expr.Call (.Attribute o "keys" apos) [] [] cpos] X.env = (false, eval (.Call (.Attribute o "keys" apos) [] [] cpos) X.env) :: starEach [] X.env := by rfl) :
 ph X T W (.Call (.Name "list" p) [.Call (.Attribute o "keys" apos) [] [] cpos] [] pos) (Ld mo) := fun B w σ H fr h Q R pp =>
 eG (abn C.calm hg hm bF hbase hline na) (so B w σ H fr h _ R (aO.bind (VR := vV X.K T B σ) pp fun d fr1 h1 w1 H1 x e1 l1 r1 rx p1 => by
  cases q : HS h1 d with
  | none => rw [q] at p1; exact p1.elim
  | some z =>
    rw [q] at p1
    unfold HS at q
    cases q1 : cellE h1 d with
    | none => rw [q1] at q; cases q
    | some c =>
      obtain ⟨n, kk, ds⟩ := c
      rw [q1] at q
      cases q
      obtain ⟨a, vs, rfl, s1, hc, eH, hl, rv⟩ := aaz r1 rx q1
      refine ⟨a, _, rfl, eH, fun q nq => ?_⟩
      rw [afr (hl.trans rv.length.symm)]
      exact GJ r1 (acg kk) nq fun w2 H2 v l2 R2 rv => p1 w2 H2 v l2 R2 rv))
def GZ (i : Nat) (m : M D) : M D := (au i).bind fun o fr h => if (o.lstP h).isSome = true then (m.bind fun x => (au i).bind fun o fr h => M.opt (vo h o x) fr h) fr h else .err
theorem aea {K : PySem.W.Frag} {T : Tb} {W : WX} {B : Bs} {w : Wd} {σ : L2.St} {H : Hp} {fr : Fr} {h : Hh} {i : Nat} {α β : Type} {VR : Wd → Hp → Fr → β → α → Prop} {f : D → M α} {Q : β → Hp → Prop} (R : Rel K T B w σ H fr h)
 (p : aO K T B W VR w σ ((au i).bind f fr h) Q) : ∃ v d, σ[i]? = some (some v) ∧ vO K T B σ w H fr v d ∧ aO K T B W VR w σ (f d fr h) Q := by
 cases e1 : fr[i]? with
 | none =>
   have q : au i fr h = .err := by unfold au; rw [e1]
   rw [M.bind_err q] at p
   exact p.elim
 | some o =>
   cases o with
   | none =>
     have q : au i fr h = .err := by unfold au; rw [e1]
     rw [M.bind_err q] at p
     exact p.elim
   | some d =>
     have q : au i fr h = .ok d fr h := by unfold au; rw [e1]
     rw [M.bind_ok q] at p
     obtain ⟨v, e2, z⟩ := iQ R e1
     refine ⟨v, d, e2, ?_, p⟩
     cases z with
     | val rd => exact .inl rd
     | own O eH rd => exact .inr ⟨_, _, rfl, eH, rd⟩
theorem aeb (C : Cq X T W k) (i : Nat) {x : Str} {px : Pos} (s : aY X T W e m)
 (hbase : attributeBase (.Name x px) "index" X.env (eval (.Name x px) X.env) = eval (.Name x px) X.env := by rfl)
 (hfew : ((backTo cpos (starEach (e :: []) X.env)).all (fun x => !x.1) && (backToKw cpos (keywordEach [] X.env)).all (fun x => x.1.isSome)
  && decide ((e :: []).length + ([] : List Keyword).length + (if ([] : List Keyword).isEmpty then 0 else 1) < 30)) = true := by rfl)
 (hline : (apos.endLine == cpos.line) = true := by rfl) (hs : starEach (e :: []) X.env = (false, eval e X.env) :: starEach [] X.env := by exact eY rfl) (hplain : (backTo cpos (starEach [] X.env)).any (·.1) = false := by rfl)
 (hN : X.N[i]? = some x := by rfl) (hv : Vis X.env.scope x := by first | exact Or.inl rfl | exact Or.inr (Or.inl rfl) | exact Or.inr (Or.inr rfl)) (hd : (x == ("__debug__" : Str)) = false := by decide) (hcd : (x == ("__classdict__" : Str)) = false := by decide) :
 aY X T W (.Call (.Attribute (.Name x px) "index" apos) [e] [] cpos) (GZ i m) := fun B w σ H fr h Q R p => by
 obtain ⟨v0, od, ev, ro, p0⟩ := aea R p
 have p0' : aO X.K T B W (vV X.K T B σ) w σ (if (od.lstP h).isSome = true then (m.bind fun x => (au i).bind fun o fr h => M.opt (vo h o x) fr h) fr h else .err) Q := p0
 cases ei : od.lstP h with
 | none =>
   rw [ei] at p0'
   exact (show False from p0').elim
 | some ps0 =>
   rw [ei, Option.isSome_some, if_pos rfl] at p0'
   obtain ⟨a0, vs0, rfl, sq0, dp0⟩ := HR R ro ei
   refine eG (pe_bm PySem.F.plainAttrs_list PySem.F.slot_list_index PySem.F.type_list_index (mt_indexD (by have := C.u; omega)) (pe_var hN hv hd hcd) (pa_cons bF pa_nil hs) hbase hfew hline hs hplain) ⟨_, ev, .inl ⟨rfl, vs0, sq0⟩, s B w σ H fr h _ R (aO.bind (VR := vV X.K T B σ) p0' fun x fr2 h2 w2 H2 y e2 l2 r2 ry p2 => ?_)⟩
   obtain ⟨d2, rd2, p3⟩ := TQ r2 ev p2
   have p2' : aO X.K T B W (vV X.K T B σ) w2 σ (M.opt (vo h2 d2 x) fr2 h2) Q := p3
   cases q : vo h2 d2 x with
   | none => rw [q] at p2'; exact p2'.elim
   | some z =>
     rw [q] at p2'
     obtain ⟨p, ps, j, e1, e3, s1, s2, ej, rfl⟩ := aar q
     obtain ⟨a, vs, ea, sq, dp⟩ := HR r2 rd2 e3
     obtain ⟨hj, hp, hno⟩ := List.findIdx?_eq_some_iff_getElem.mp ej
     exact ⟨a0, y, p, ps, j, ps[j], rfl, rfl, by cases ea; exact .lst sq dp, Jj r2.sub ry e1, s2, s1, aoc hj, hp, fun m' z' hm ez => by
      have hl : m' < ps.length := by omega
      rw [aoc hl] at ez
      cases ez
      have := hno m' hm
      simpa using this, p2' w2 H2 _ (Wd.le_refl _) r2 (.int _)⟩
end
end Pk
namespace Pk
open PySem PySem.Spec PyProof.Rows L2
def D.toPd (h : Hh) (d : D) : Option PyData := match d with
 | .ref n => (D.lstP h (.ref n)).map .list
 | d => d.toP
def acZ (h : Hh) (d e : D) : Option Bool := match d.toPd h, e.toP with
 | some p, some q => if SeqAt.shaped p && SeqAt.shaped q then some (PyData.eqv p q) else none
 | _, _ => none
def aaA (h : Hh) (d e : D) : Option Bool := (acZ h d e).map (!·)
theorem aec {h : Hh} {d e : D} {c : Bool} (q : acZ h d e = some c) : ∃ p p', d.toPd h = some p ∧ e.toP = some p' ∧ SeqAt.shaped p = true ∧ SeqAt.shaped p' = true ∧ c = PyData.eqv p p' := by
 unfold acZ at q
 split at q
 · rename_i p p' e1 e2
   split at q
   · rename_i hs
     obtain ⟨h1, h2⟩ := Bool.and_eq_true_iff.mp hs
     cases q
     exact ⟨p, p', e1, e2, h1, h2, rfl⟩
   · cases q
 · cases q
section
variable {X : Cx} {T : Tb} {W : WX} {k : Nat}
theorem ahr {B : Bs} {w : Wd} {σ : L2.St} {H : Hp} {fr : Fr} {h : Hh} {v : V} {d : D} {p : PyData} (R : Rel X.K T B w σ H fr h) (r : bQ X.K T w v d) (e : d.toPd h = some p) : Dp X.K H v p := by
 cases d with
 | ref n =>
   have e : (D.lstP h (.ref n)).map PyData.list = some p := e
   obtain ⟨ps, e1, rfl⟩ := Option.map_eq_some_iff.mp e
   obtain ⟨a, vs, rfl, sq, dp⟩ := HR R (.inl r) e1
   exact .lst sq dp
 | _ => exact Jj R.sub r e
theorem ahs (C : Cq X T W k) : qK X T vO .NotEq aaA := fun B w σ H fr h x y d e c Q R rx ry q kk => by
 obtain ⟨c', q', rfl⟩ := Option.map_eq_some_iff.mp q
 obtain ⟨p, p', e1, e2, s1, s2, rfl⟩ := aec q'
 exact sE (op_neD (by have := C.u; omega)) ⟨p, p', ahr R rx e1, Zx R ry e2, s1, s2, kk⟩
end
end Pk
namespace Pk
open PySem PySem.Spec L2
def Wq {α : Type} (r : R α) (Q : α → Fr → Hh → Prop) (E : aP → Fr → Hh → Prop) : Prop := match r with
 | .ok a fr h => Q a fr h
 | .exc x fr h => E x fr h
 | .err => False
def Vw (d : D) : Option (List D) := match d with
 | .int j => if nW j then some (gH 0 j.toNat) else none
 | _ => none
def rgB (x y : D) : Option (List D) := match x, y with
 | .int i, .int j => if nW i && nW j then some (gH i (j - i).toNat) else none
 | _, _ => none
def nY (_ : aP) (_ : Fr) (_ : Hh) : Prop := False
def Oq {α : Type} (o : Option α) (K : α → Prop) : Prop := match o with
 | some a => K a
 | none => False
def Sq (s : Option (Option D)) (K : D → Prop) : Prop := match s with
 | some (some d) => K d
 | _ => False
def Jv (b : Bool) (A B : Prop) : Prop := if b then A else B
def Bq (fr : Fr) (K : Fr → Prop) : Prop := K fr
def Fq (f : Fl) (A B : Prop) : Prop := match f with
 | .nx => A
 | _ => B
def Rq (f : Fl) (K : D → Prop) : Prop := match f with
 | .rt d => K d
 | .nx => K .non
 | _ => False
section
variable {α β : Type} {Q : α → Fr → Hh → Prop} {E : aP → Fr → Hh → Prop} {fr : Fr} {h : Hh}
theorem xX {a : α} : Wq (.ok a fr h) Q E = Q a fr h := by unfold Wq; rfl
theorem lF : Wq (.err : R α) Q E = False := by unfold Wq; rfl
theorem ji {a : α} {K : α → Prop} : Oq (some a) K = K a := by unfold Oq; rfl
theorem jK {K : α → Prop} : Oq none K = False := by unfold Oq; rfl
theorem aht {o : Option α} {f : α → β} {K : β → Prop} : Oq (o.map f) K = Oq o fun a => K (f a) := by cases o <;> (unfold Oq; rfl)
theorem RM {c : Prop} [Decidable c] {a : α} {K : α → Prop} : Oq (if c then some a else none) K = (c ∧ K a) := by
 by_cases hc : c
 · rw [if_pos hc, ji]; simp [hc]
 · rw [if_neg hc, jK]; simp [hc]
theorem ahu {c : Bool} {a : α} {K : α → Prop} : Oq (if c then some a else none) K = (c = true ∧ K a) := RM
theorem M3 {d : D} {K : D → Prop} : Sq (some (some d)) K = K d := by unfold Sq; rfl
theorem Vx {A B : Prop} : Jv true A B = A := by unfold Jv; exact if_pos rfl
theorem Vy {A B : Prop} : Jv false A B = B := by unfold Jv; exact if_neg (fun z => by cases z)
theorem aji {b : Bool} {A B : Prop} (ht : b = true → A) (hf : b = false → B) : Jv b A B := by
 cases b
 · rw [Vy]; exact hf rfl
 · rw [Vx]; exact ht rfl
theorem ahv {p : Prop} [Decidable p] {A B : Prop} (ht : p → A) (hf : ¬ p → B) : Jv (decide p) A B :=
 aji (fun z => ht (of_decide_eq_true z)) (fun z => hf (of_decide_eq_false z))
theorem aft {a : Option D} {l : Fr} {K : Fr → Prop} : Bq (a :: l) K = K (a :: l) := by unfold Bq; rfl
theorem Xo {A B : Prop} : Fq .nx A B = A := by unfold Fq; rfl
theorem ach {A B : Prop} {d : D} : Fq (.rt d) A B = B := by unfold Fq; rfl
theorem afu {A B : Prop} : Fq .brk A B = B := by unfold Fq; rfl
theorem ahw {A B : Prop} : Fq .ct A B = B := by unfold Fq; rfl
theorem ahx {K : D → Prop} {d : D} : Rq (.rt d) K = K d := by unfold Rq; rfl
theorem Wq.mono {r : R α} {Q Q' : α → Fr → Hh → Prop} {E : aP → Fr → Hh → Prop} (w : Wq r Q E) (hq : ∀ a fr h, Q a fr h → Q' a fr h) : Wq r Q' E := by
 cases r with
 | ok a fr h => exact hq _ _ _ w
 | exc x fr h => exact w
 | err => exact w
theorem Wq.ex {r : R α} {Q : α → Fr → Hh → Prop} (w : Wq r Q nY) : ∃ a fr h, r = .ok a fr h ∧ Q a fr h := by
 cases r with
 | ok a fr h => exact ⟨a, fr, h, rfl, w⟩
 | exc x fr h => exact w.elim
 | err => exact w.elim
theorem Wq.eq {a : α} {r : R α} {fr : Fr} {h : Hh} (w : Wq r (fun b fr1 h1 => b = a ∧ fr1 = fr ∧ h1 = h) nY) : r = .ok a fr h := by
 obtain ⟨b, fr1, h1, e, e1, e2, e3⟩ := w.ex
 rw [e, e1, e2, e3]
theorem Wq.of_eq {r : R α} {a : α} {fr : Fr} {h : Hh} (e : r = .ok a fr h) (q : Q a fr h) : Wq r Q E := by
 rw [e]; exact q
theorem gJ {a : α} : Wq (M.ret a fr h) Q E = Q a fr h := by unfold M.ret; exact xX
theorem aZ {m : M β} {f : β → M α} : Wq (M.bind m f fr h) Q E = Wq (m fr h) (fun a fr h => Wq (f a fr h) Q E) E := by
 unfold M.bind
 cases m fr h <;> (unfold Wq; rfl)
theorem iD {o : Option α} : Wq (M.opt o fr h) Q E = Oq o fun a => Q a fr h := by
 cases o <;> (unfold Wq Oq M.opt; rfl)
end
section
variable {α : Type} {Q : D → Fr → Hh → Prop} {P : Bool → Fr → Hh → Prop} {S : α → Fr → Hh → Prop} {U : Unit → Fr → Hh → Prop} {G : List D → Fr → Hh → Prop} {L : Fl → Fr → Hh → Prop} {I : Option Int → Fr → Hh → Prop} {E : aP → Fr → Hh → Prop} {fr : Fr} {h : Hh} {m ma mb mc : M D} {i : Nat}
theorem akn {d : D} : Wq (mC d fr h) Q E = Q d fr h := gJ
theorem ajj : Wq (aX m fr h) Q E = Wq (m fr h) (fun d fr h => Q d.fz fr h) E := by
 unfold aX; rw [aZ]; simp only [gJ]
theorem ahy : Wq (aa i fr h) Q E = Sq fr[i]? fun d => Jv d.own (Bq (fr.set i (some d.fz)) fun fr => Q d.fz fr h) (Q d fr h) := by
 unfold aa
 cases fr[i]? with
 | none => rfl
 | some o => cases o with
   | none => rfl
   | some d =>
     rw [M3]
     dsimp only
     cases d.own <;> rfl
theorem afv : Wq (sG i fr h) Q E = Sq fr[i]? fun d => Bq (fr.set i none) fun fr => Q d fr h := by
 unfold sG
 cases fr[i]? with
 | none => rfl
 | some o => cases o <;> rfl
theorem aci : Wq (au i fr h) Q E = Sq fr[i]? fun d => Q d fr h := by
 unfold au
 cases fr[i]? with
 | none => rfl
 | some o => cases o <;> rfl
theorem ahz : Wq (iY i fr h) U E = Sq fr[i]? fun _ => U () fr h := by
 unfold iY
 cases fr[i]? with
 | none => rfl
 | some o => cases o <;> rfl
theorem ajk {f : Hh → D → D → Option α} : Wq (aC f ma mb fr h) S E = Wq (ma fr h) (fun x fr h => Wq (mb fr h) (fun y fr h => Oq (f h x y) fun z => S z fr h) E) E := by
 unfold aC; simp only [aZ, iD]
theorem ajl {f : Hh → D → Option α} : Wq (aA f ma fr h) S E = Wq (ma fr h) (fun x fr h => Oq (f h x) fun z => S z fr h) E := by
 unfold aA; simp only [aZ, iD]
theorem ajm {t : M Bool} : Wq (Vb t fr h) Q E = Wq (t fr h) (fun b fr h => Q (.bl b) fr h) E := by
 unfold Vb; simp only [aZ, gJ]
theorem ahA {t : M Bool} : Wq (cD t fr h) P E = Wq (t fr h) (fun b fr h => P (!b) fr h) E := by
 unfold cD; simp only [aZ, gJ]
theorem Uk {β : Type} {b : Bool} {m n : M β} {Q : β → Fr → Hh → Prop} : Wq ((if b then m else n) fr h) Q E = Jv b (Wq (m fr h) Q E) (Wq (n fr h) Q E) := by
 cases b
 · rw [Vy]; rfl
 · rw [Vx]; rfl
theorem ajn {t u : M Bool} : Wq (fY t u fr h) P E = Wq (t fr h) (fun b fr h => Jv b (P true fr h) (Wq (u fr h) P E)) E := by
 unfold fY; simp only [aZ, Uk, gJ]
theorem afw {n : M D} : Wq (jN m n fr h) Q E = Wq (m fr h) (fun d fr h => Oq d.tb fun b => Jv b (Wq (n fr h) Q E) (Q (.bl false) fr h)) E := by
 unfold jN; rw [aZ]
 congr 1
 funext d fr h
 cases d.tb with
 | none => dsimp only; rw [iD, jK, jK]
 | some b =>
   rw [ji]
   cases b
   · rw [Vy]; exact gJ
   · rw [Vx]
theorem aed {f g : Hh → D → D → Option Bool} : Wq (dB f g ma mb mc fr h) P E = Wq (ma fr h) (fun x fr h => Wq (mb fr h) (fun y fr h => Oq (f h x y) fun b => Jv b (Wq (mc fr h) (fun z fr h => Oq (g h y z) fun c => P c fr h) E) (P false fr h)) E) E := by
 unfold dB; simp only [aZ]
 congr 1
 funext x fr h
 congr 1
 funext y fr h
 cases f h x y with
 | none => rw [jK]; exact lF
 | some b =>
   rw [ji]
   cases b
   · rw [Vy]; exact xX
   · rw [Vx]; dsimp only; simp only [aZ, iD]
theorem ajo {t : M Bool} {m n : M α} : Wq (Ad t m n fr h) S E = Wq (t fr h) (fun b fr h => Jv b (Wq (m fr h) S E) (Wq (n fr h) S E)) E := by
 unfold Ad; simp only [aZ, Uk]
theorem aee : Wq (ak [] fr h) G E = G [] fr h := gJ
theorem aef {ms : List (M D)} : Wq (ak (m :: ms) fr h) G E = Wq (m fr h) (fun d fr h => Wq (ak ms fr h) (fun ds fr h => G (d :: ds) fr h) E) E := by
 rw [ak]; simp only [aZ, gJ]
theorem ahB {ms : List (M D)} : Wq (ig ms fr h) Q E = Wq (ak ms fr h) (fun ds fr h => ds.length ≤ big ∧ Q (.tup ds) fr h) E := by
 unfold ig; simp only [aZ, iD, RM]
theorem ahC {ms : List (M D)} : Wq (fJ ms fr h) Q E = Wq (ak ms fr h) (fun ds fr h => ds.length ≤ big ∧ Q (.nl ds) fr h) E := by
 unfold fJ; simp only [aZ, iD, RM]
theorem afx {β : Type} {m : M β} {f : Hh → D → β → Option D} : Wq (bM i m f fr h) Q E = Sq fr[i]? fun _ => Wq (m fr h) (fun y fr h => Sq fr[i]? fun d => Oq (f h d y) fun z => Q z fr h) E := by
 unfold bM; simp only [aZ, ahz, aci, iD]
theorem ajp : Wq (Px fr h) I E = I none fr h := gJ
theorem ajq : Wq (KH m fr h) I E = Wq (m fr h) (fun d fr h => Oq (match d with | .int i => some i | _ => none) fun i => I (some i) fr h) E := by
 unfold KH; rw [aZ]
 congr 1
 funext d fr h
 cases d <;> (rw [iD]; first | rw [jK, jK] | rw [ji, ji])
theorem afy {ml mh : M (Option Int)} {J : Option Int × Option Int → Fr → Hh → Prop} : Wq (wY ml mh fr h) J E = Wq (ml fr h) (fun l fr h => Wq (mh fr h) (fun u fr h => J (l, u) fr h) E) E := by
 unfold wY; simp only [aZ, gJ]
theorem ajr : Wq (iU m fr h) G E = Wq (m fr h) (fun d fr h => Oq (d.its []) fun l => G l fr h) E := by
 unfold iU; simp only [aZ, iD]
theorem afz : Wq (oK m fr h) G E = Wq (m fr h) (fun d fr h => Oq (Vw d) fun l => G l fr h) E := by
 unfold oK; simp only [aZ, iD]; rfl
theorem afA : Wq (Gq m fr h) G E = Wq (m fr h) (fun d fr h => Oq d.lst fun l => G (nR 0 l) fr h) E := by
 unfold Gq; simp only [aZ, iD, aht]
theorem ahD {s n : M Fl} : Wq (az s n fr h) L E = Wq (s fr h) (fun f fr h => Fq f (Wq (n fr h) L E) (L f fr h)) E := by
 unfold az; rw [aZ]
 congr 1
 funext f fr h
 cases f with
 | nx => rw [Xo]
 | brk => rw [afu]; exact gJ
 | ct => rw [ahw]; exact gJ
 | rt d => rw [ach]; exact gJ
theorem ahE {t : M Bool} {s n : M Fl} : Wq (bD t s n fr h) L E = Wq (t fr h) (fun b fr h => Jv b (Wq (s fr h) L E) (Wq (n fr h) L E)) E := by
 unfold bD; simp only [aZ, Uk]
theorem afB {m : M α} : Wq (eE m fr h) L E = Wq (m fr h) (fun _ fr h => L .nx fr h) E := by
 unfold eE; simp only [aZ, gJ]
theorem ahF : Wq (aV m fr h) L E = Wq (m fr h) (fun d fr h => L (.rt d) fr h) E := by
 unfold aV; simp only [aZ, gJ]
theorem ahG : Wq (bA i m fr h) L E = Wq (m fr h) (fun d fr h => Bq (fr.set i (some d)) fun fr => L .nx fr h) E := by
 unfold bA Bq; rw [aZ]
 congr 1
theorem ahH {g : D → M Unit} : Wq (Fw m g fr h) L E = Wq (m fr h) (fun d fr h => Wq (g d fr h) (fun _ fr h => L .nx fr h) nY) E := by
 unfold Fw; rw [aZ]
 congr 1
 funext d fr h
 cases g d fr h <;> (unfold Wq; rfl)
theorem afC {l : M (List D)} {g : D → M Unit} {b : M Fl} : Wq (dJ l g b fr h) L E = Wq (l fr h) (fun ds fr h => Wq (fB g b ds fr h) L E) E := by
 unfold dJ; rw [aZ]
theorem ajs {vs : List Nat} {l : M (List D)} {g : D → M Unit} {t : M Bool} {e : M D} : Wq (km vs l g t e fr h) Q E = Wq (l fr h) (fun ds fr h => ds.length ≤ big ∧ Bq (dZ fr vs) fun fr => Wq (jA vs g t e ds fr h) (fun r fr h => Q (.nl r) fr h) E) E := by
 unfold km Gp Bq; rw [aZ]
 congr 1
 funext ds fr h
 rw [aZ, xX]
 split
 · rename_i hb; rw [aZ]; simp only [gJ, hb, true_and]
 · rename_i hb; rw [iD, jK]; simp only [hb, false_and]
theorem afD {d : D} : Wq (aK i d fr h) U E = Bq (fr.set i (some d)) fun fr => U () fr h := by
 unfold aK Bq; exact xX
theorem aeg : Wq (il [] fr h) U E = U () fr h := gJ
theorem ac0 {g : D → M Unit} {gs : List D → M Unit} {d : D} {ds : List D} : Wq (bu g gs (d :: ds) fr h) U E = Wq (g d fr h) (fun _ fr h => Wq (gs ds fr h) U E) E := by
 unfold bu; exact aZ
theorem aeh {n : Nat} {gs : List D → M Unit} {l : List D} : Wq (gM n gs (.tup l) fr h) U E = (l.length = n ∧ Wq (gs l fr h) U E) := by
 unfold gM
 dsimp only
 split
 · rename_i hb; simp only [hb, true_and]
 · rename_i hb; rw [iD, jK]; simp only [hb, false_and]
theorem ahI {f : List D → Option (List D)} : Wq (cR i f fr h) U E = Sq fr[i]? fun d => match d with
 | .nl l => Oq (f l) fun l' => Bq (fr.set i (some (.nl l'))) fun fr => U () fr h
 | .ref n => Oq h[n]? fun c => match c with
   | .nl l => Oq (f l) fun l' => U () fr (h.set n (.nl l'))
   | _ => False
 | _ => False := by
 unfold cR Bq
 cases e : fr[i]? with
 | none => unfold Wq Sq; rfl
 | some o =>
   cases o with
   | none => unfold Wq Sq; rfl
   | some d =>
     rw [M3]
     cases d with
     | nl l => dsimp only; cases f l <;> (unfold Wq Oq; rfl)
     | ref n =>
       dsimp only
       cases h[n]? with
       | none => unfold Wq Oq; rfl
       | some c =>
         rw [ji]
         cases c with
         | nl l => dsimp only; cases f l <;> (unfold Wq Oq; rfl)
         | _ => unfold Wq; rfl
     | _ => unfold Wq; rfl
theorem afE {n : Nat} {f : List D → Option (List D)} : Wq (rF (.ref n) f fr h) U E = Oq h[n]? fun c => match c with
 | .nl l => Oq (f l) fun l' => U () fr (h.set n (.nl l'))
 | _ => False := by
 unfold rF
 dsimp only
 cases h[n]? with
 | none => unfold Wq Oq; rfl
 | some c =>
   rw [ji]
   cases c with
   | nl l => dsimp only; cases f l <;> (unfold Wq Oq; rfl)
   | _ => unfold Wq; rfl
theorem afF : Wq (fH i m fr h) Q E = Wq (cR i oM fr h) (fun _ fr h => Wq (m fr h) (fun d fr h => Wq (cR i (uZ d) fr h) (fun _ fr h => Q .non fr h) E) E) E := by
 unfold fH; simp only [aZ, gJ]
theorem afG {mo : M D} : Wq (Rx mo m fr h) Q E = Wq (mo fr h) (fun o fr h => Wq (rF o oM fr h) (fun _ fr h => Wq (m fr h) (fun d fr h => Wq (rF o (uZ d) fr h) (fun _ fr h => Q .non fr h) E) E) E) E := by
 unfold Rx; simp only [aZ, gJ]
theorem afH : Wq (DP m fr h) Q E = Wq (m fr h) (fun d fr h => d.own = true ∧ Q (.ref h.length) fr (h ++ [d])) E := by
 unfold DP; rw [aZ]
 congr 1
 funext d fr h
 split
 · rename_i hb; rw [xX]; simp only [hb, true_and]
 · rename_i hb; rw [lF, eq_iff_iff]
   exact ⟨False.elim, fun z => hb z.1⟩
theorem ac1 {ix : Nat → Option Nat} : Wq (nu i ix m fr h) L E = Wq (m fr h) (fun d fr h => Wq (wg i ix d fr h) (fun _ fr h => L .nx fr h) E) E := by
 unfold nu; simp only [aZ, gJ]
theorem afI {ix : Nat → Option Nat} {x : D} : Wq (wg i ix x fr h) U E = Sq fr[i]? fun d => match d with
 | .no c fs => Oq (ix c) fun k => Oq (sO k x fs) fun fs' => Bq (fr.set i (some (.no c fs'))) fun fr => U () fr h
 | .ref n => Oq h[n]? fun c => match c with
   | .no c fs => Oq (ix c) fun k => Oq (sO k x fs) fun fs' => U () fr (h.set n (.no c fs'))
   | _ => False
 | _ => False := by
 unfold wg Bq
 cases e : fr[i]? with
 | none => unfold Wq Sq; rfl
 | some o =>
   cases o with
   | none => unfold Wq Sq; rfl
   | some d =>
     rw [M3]
     cases d with
     | no c fs =>
       dsimp only
       cases ix c with
       | none => unfold Wq Oq; rfl
       | some k => rw [ji]; dsimp only; cases sO k x fs <;> (unfold Wq Oq; rfl)
     | ref n =>
       dsimp only
       cases h[n]? with
       | none => unfold Wq Oq; rfl
       | some c =>
         rw [ji]
         cases c with
         | no c fs =>
           dsimp only
           cases ix c with
           | none => unfold Wq Oq; rfl
           | some k => rw [ji]; dsimp only; cases sO k x fs <;> (unfold Wq Oq; rfl)
         | _ => unfold Wq; rfl
     | _ => unfold Wq; rfl
theorem M4 {r : R D} {fr0 : Fr} : Wq (bJ fr0 r) Q E = Wq r (fun d _ h => Q d fr0 h) (fun x _ h => E x fr0 h) := by
 cases r <;> (unfold Wq bJ; rfl)
theorem aaB {n k : Nat} {F : Fn} {gD : List D → List D → List D} {ma mk : M (List D)} : Wq (aG n k F gD ma mk fr h) Q E = Wq (ma fr h) (fun ds fr h => Wq (mk fr h) (fun es fr h => ds.length = n ∧ es.length = k ∧ Wq (F (gD ds es) h) (fun d _ h => Q d fr h) (fun x _ h => E x fr h)) E) E := by
 unfold aG; rw [aZ]
 congr 1
 funext ds fr h
 rw [aZ]
 congr 1
 funext es fr h
 split
 · rename_i hb; rw [M4]; simp only [hb.1, hb.2, true_and]
 · rename_i hb
   rw [lF, eq_iff_iff]
   exact ⟨False.elim, fun z => hb ⟨z.1, z.2.1⟩⟩
theorem afJ {n k : Nat} {mt : Nat → Option Fn} {gD : List D → List D → List D} {mo : M D} {ma mk : M (List D)} : Wq (yt n k mt gD mo ma mk fr h) Q E = Wq (mo fr h) (fun o fr h => Oq (fnOf mt h o) fun F => Wq (ma fr h) (fun ds fr h => Wq (mk fr h) (fun es fr h => ds.length = n ∧ es.length = k ∧ Wq (F (gD (o :: ds) es) h) (fun d _ h => Q d fr h) (fun x _ h => E x fr h)) E) E) E := by
 unfold yt; rw [aZ]
 congr 1
 funext o fr h
 cases fnOf mt h o with
 | none => exact lF.trans jK.symm
 | some F =>
   rw [ji]
   dsimp only
   rw [aaB]
   simp only [aZ, gJ, an4, Nat.add_right_cancel_iff]
theorem afK {mt : Nat → Option Fn} {mo : M D} : Wq (xf mt mo fr h) Q E = Wq (mo fr h) (fun o fr h => Oq (fnOf mt h o) fun F => Wq (F [o] h) (fun d _ h => Q d fr h) nY) E := by
 unfold xf; rw [aZ]
 congr 1
 funext o fr h
 cases fnOf mt h o with
 | none => exact lF.trans jK.symm
 | some F =>
   rw [ji]
   dsimp only
   cases F [o] h <;> (unfold Wq; rfl)
theorem afL {n : Nat} {m : M Fl} {ds : List D} : Wq (bO n m ds h) Q E = Bq (startF n ds) fun fr => Wq (m fr h) (fun f _ h => Rq f fun d => Q d [] h) (fun x _ h => E x [] h) := by
 unfold bO Bq
 show _ = Wq (m (startF n ds) h) _ _
 generalize m (startF n ds) h = r
 cases r with
 | ok f fr h => cases f <;> rfl
 | exc x fr h => rfl
 | err => rfl
def Nq (c : Nat) (s : Option (Option D)) (K : D → Prop) : Prop := match s with
 | some (some (.no c' fs)) => c' = c ∧ K (.no c fs)
 | _ => False
theorem Yo {c c' : Nat} {fs : List D} {K : D → Prop} : Nq c (some (some (.no c' fs))) K = (c' = c ∧ K (.no c fs)) := by unfold Nq; rfl
theorem afM {c n : Nat} {m : M Fl} {ds : List D} : Wq (runI c n m ds h) Q E = Bq (startF n (.no c [] :: ds)) fun fr => Wq (m fr h) (fun f fr h => Fq f (Nq c fr[0]? fun d => Q d [] h) False) (fun x _ h => E x [] h) := by
 unfold runI Bq
 show _ = Wq (m (startF n (.no c [] :: ds)) h) _ _
 generalize m (startF n (.no c [] :: ds)) h = r
 cases r with
 | ok f fr h =>
   cases f with
   | nx =>
     rw [xX, Xo]
     dsimp only
     cases e : (fr : List (Option D))[0]? with
     | none => rfl
     | some o =>
       cases o with
       | none => rfl
       | some d =>
         cases d with
         | no c' fs =>
           rw [Yo]
           dsimp only
           split
           · rename_i hb; subst hb; rw [xX]; simp
           · rename_i hb; rw [lF]; simp only [hb, false_and]
         | _ => rfl
   | _ => rfl
 | exc x fr h => rfl
 | err => rfl
end
structure Tn {β γ : Type} (_ : β) (_ : γ) : Type where
def Wp {α : Type} (r : R α) (Q : α → Fr → Hh → Prop) (E : aP → Fr → Hh → Prop) (_ : Tn Q E := ⟨⟩) : Prop := Wq r Q E
def Op {α : Type} (o : Option α) (K : α → Prop) (_ : Tn K K := ⟨⟩) : Prop := Oq o K
def Sl (s : Option (Option D)) (K : D → Prop) (_ : Tn K K := ⟨⟩) : Prop := Sq s K
def Cd (b : Bool) (A B : Prop) (_ : Tn A B := ⟨⟩) : Prop := Jv b A B
def Bx (fr : Fr) (K : Fr → Prop) (_ : Tn K K := ⟨⟩) : Prop := Bq fr K
def FlK (f : Fl) (A B : Prop) (_ : Tn A B := ⟨⟩) : Prop := Fq f A B
def RtK (f : Fl) (K : D → Prop) (_ : Tn K K := ⟨⟩) : Prop := Rq f K
def NoK (c : Nat) (s : Option (Option D)) (K : D → Prop) (_ : Tn K K := ⟨⟩) : Prop := Nq c s K
section
variable {α β : Type} {Q : α → Fr → Hh → Prop} {E : aP → Fr → Hh → Prop} {fr : Fr} {h : Hh}
theorem cH {a : α} : Wp (.ok a fr h) Q E = Q a fr h := xX
theorem aQ {a : α} {K : α → Prop} : Op (some a) K = K a := ji
theorem acj {K : α → Prop} : Op none K = False := jK
theorem tX {c : Prop} [Decidable c] {a : α} {K : α → Prop} : Op (if c then some a else none) K = (c ∧ K a) := RM
theorem ajt {c : Bool} {a : α} {K : α → Prop} : Op (if c then some a else none) K = (c = true ∧ K a) := ahu
theorem aM {d : D} {K : D → Prop} : Sl (some (some d)) K = K d := M3
theorem fD {A B : Prop} : Cd true A B = A := Vx
theorem cA {A B : Prop} : Cd false A B = B := Vy
theorem aei {p : Prop} [Decidable p] {A B : Prop} (ht : p → A) (hf : ¬ p → B) : Cd (decide p) A B := ahv ht hf
theorem aN {a : Option D} {l : Fr} {K : Fr → Prop} : Bx (a :: l) K = K (a :: l) := aft
theorem cC {A B : Prop} : FlK .nx A B = A := Xo
theorem QC {A B : Prop} {d : D} : FlK (.rt d) A B = B := ach
theorem dX {K : D → Prop} {d : D} : RtK (.rt d) K = K d := ahx
theorem Wp.mono {r : R α} {Q Q' : α → Fr → Hh → Prop} {E : aP → Fr → Hh → Prop} (w : Wp r Q E) (hq : ∀ a fr h, Q a fr h → Q' a fr h) : Wp r Q' E := Wq.mono w hq
theorem Wp.ex {r : R α} {Q : α → Fr → Hh → Prop} (w : Wp r Q nY) : ∃ a fr h, r = .ok a fr h ∧ Q a fr h := Wq.ex w
theorem Wp.eq {a : α} {r : R α} {fr : Fr} {h : Hh} (w : Wp r (fun b fr1 h1 => b = a ∧ fr1 = fr ∧ h1 = h) nY) : r = .ok a fr h := Wq.eq w
theorem Wp.of_eq {r : R α} {a : α} {fr : Fr} {h : Hh} (e : r = .ok a fr h) (q : Q a fr h) : Wp r Q E := Wq.of_eq e q
theorem dF {a : α} : Wp (M.ret a fr h) Q E = Q a fr h := gJ
end
section
variable {α : Type} {Q : D → Fr → Hh → Prop} {P : Bool → Fr → Hh → Prop} {S : α → Fr → Hh → Prop} {U : Unit → Fr → Hh → Prop} {G : List D → Fr → Hh → Prop} {L : Fl → Fr → Hh → Prop} {I : Option Int → Fr → Hh → Prop} {E : aP → Fr → Hh → Prop} {fr : Fr} {h : Hh} {m ma mb mc : M D} {i : Nat}
theorem gQ {d : D} : Wp (mC d fr h) Q E = Q d fr h := akn
theorem fQ : Wp (aX m fr h) Q E = Wp (m fr h) (fun d fr h => Q d.fz fr h) E := ajj
theorem bj : Wp (aa i fr h) Q E = Sl fr[i]? fun d => Cd d.own (Bx (fr.set i (some d.fz)) fun fr => Q d.fz fr h) (Q d fr h) := ahy
theorem G3 : Wp (sG i fr h) Q E = Sl fr[i]? fun d => Bx (fr.set i none) fun fr => Q d fr h := afv
theorem cY : Wp (au i fr h) Q E = Sl fr[i]? fun d => Q d fr h := aci
theorem cZ {f : Hh → D → D → Option α} : Wp (aC f ma mb fr h) S E = Wp (ma fr h) (fun x fr h => Wp (mb fr h) (fun y fr h => Op (f h x y) fun z => S z fr h) E) E := ajk
theorem d7 {f : Hh → D → Option α} : Wp (aA f ma fr h) S E = Wp (ma fr h) (fun x fr h => Op (f h x) fun z => S z fr h) E := ajl
theorem RN {t : M Bool} : Wp (Vb t fr h) Q E = Wp (t fr h) (fun b fr h => Q (.bl b) fr h) E := ajm
theorem pC {t : M Bool} : Wp (cD t fr h) P E = Wp (t fr h) (fun b fr h => P (!b) fr h) E := ahA
theorem Bh {t u : M Bool} : Wp (fY t u fr h) P E = Wp (t fr h) (fun b fr h => Cd b (P true fr h) (Wp (u fr h) P E)) E := ajn
theorem Ah {n : M D} : Wp (jN m n fr h) Q E = Wp (m fr h) (fun d fr h => Op d.tb fun b => Cd b (Wp (n fr h) Q E) (Q (.bl false) fr h)) E := afw
theorem Dc {f g : Hh → D → D → Option Bool} : Wp (dB f g ma mb mc fr h) P E = Wp (ma fr h) (fun x fr h => Wp (mb fr h) (fun y fr h => Op (f h x y) fun b => Cd b (Wp (mc fr h) (fun z fr h => Op (g h y z) fun c => P c fr h) E) (P false fr h)) E) E := aed
theorem DY {t : M Bool} {m n : M α} : Wp (Ad t m n fr h) S E = Wp (t fr h) (fun b fr h => Cd b (Wp (m fr h) S E) (Wp (n fr h) S E)) E := ajo
theorem bU : Wp (ak [] fr h) G E = G [] fr h := aee
theorem cU {ms : List (M D)} : Wp (ak (m :: ms) fr h) G E = Wp (m fr h) (fun d fr h => Wp (ak ms fr h) (fun ds fr h => G (d :: ds) fr h) E) E := aef
theorem Bj {ms : List (M D)} : Wp (ig ms fr h) Q E = Wp (ak ms fr h) (fun ds fr h => ds.length ≤ big ∧ Q (.tup ds) fr h) E := ahB
theorem qD {ms : List (M D)} : Wp (fJ ms fr h) Q E = Wp (ak ms fr h) (fun ds fr h => ds.length ≤ big ∧ Q (.nl ds) fr h) E := ahC
theorem tM {β : Type} {m : M β} {f : Hh → D → β → Option D} : Wp (bM i m f fr h) Q E = Sl fr[i]? fun _ => Wp (m fr h) (fun y fr h => Sl fr[i]? fun d => Op (f h d y) fun z => Q z fr h) E := afx
theorem Zr : Wp (Px fr h) I E = I none fr h := ajp
theorem ako : Wp (KH m fr h) I E = Wp (m fr h) (fun d fr h => Op (match d with | .int i => some i | _ => none) fun i => I (some i) fr h) E := ajq
theorem RP {ml mh : M (Option Int)} {J : Option Int × Option Int → Fr → Hh → Prop} : Wp (wY ml mh fr h) J E = Wp (ml fr h) (fun l fr h => Wp (mh fr h) (fun u fr h => J (l, u) fr h) E) E := afy
theorem oN : Wp (iU m fr h) G E = Wp (m fr h) (fun d fr h => Op (d.its []) fun l => G l fr h) E := ajr
theorem Dd : Wp (oK m fr h) G E = Wp (m fr h) (fun d fr h => Op (Vw d) fun l => G l fr h) E := afz
theorem ahJ : Wp (Gq m fr h) G E = Wp (m fr h) (fun d fr h => Op d.lst fun l => G (nR 0 l) fr h) E := afA
theorem cW {s n : M Fl} : Wp (az s n fr h) L E = Wp (s fr h) (fun f fr h => FlK f (Wp (n fr h) L E) (L f fr h)) E := ahD
theorem eV {t : M Bool} {s n : M Fl} : Wp (bD t s n fr h) L E = Wp (t fr h) (fun b fr h => Cd b (Wp (s fr h) L E) (Wp (n fr h) L E)) E := ahE
theorem pX {m : M α} : Wp (eE m fr h) L E = Wp (m fr h) (fun _ fr h => L .nx fr h) E := afB
theorem dY : Wp (aV m fr h) L E = Wp (m fr h) (fun d fr h => L (.rt d) fr h) E := ahF
theorem dH : Wp (bA i m fr h) L E = Wp (m fr h) (fun d fr h => Bx (fr.set i (some d)) fun fr => L .nx fr h) E := ahG
theorem Le {g : D → M Unit} : Wp (Fw m g fr h) L E = Wp (m fr h) (fun d fr h => Wp (g d fr h) (fun _ fr h => L .nx fr h) nY) E := ahH
theorem tO {l : M (List D)} {g : D → M Unit} {b : M Fl} : Wp (dJ l g b fr h) L E = Wp (l fr h) (fun ds fr h => Wp (fB g b ds fr h) L E) E := afC
theorem tY {vs : List Nat} {l : M (List D)} {g : D → M Unit} {t : M Bool} {e : M D} : Wp (km vs l g t e fr h) Q E = Wp (l fr h) (fun ds fr h => ds.length ≤ big ∧ Bx (dZ fr vs) fun fr => Wp (jA vs g t e ds fr h) (fun r fr h => Q (.nl r) fr h) E) E := ajs
theorem cJ {d : D} : Wp (aK i d fr h) U E = Bx (fr.set i (some d)) fun fr => U () fr h := afD
theorem rH : Wp (il [] fr h) U E = U () fr h := aeg
theorem pD {g : D → M Unit} {gs : List D → M Unit} {d : D} {ds : List D} : Wp (bu g gs (d :: ds) fr h) U E = Wp (g d fr h) (fun _ fr h => Wp (gs ds fr h) U E) E := ac0
theorem rJ {n : Nat} {gs : List D → M Unit} {l : List D} : Wp (gM n gs (.tup l) fr h) U E = (l.length = n ∧ Wp (gs l fr h) U E) := aeh
theorem vp {f : List D → Option (List D)} : Wp (cR i f fr h) U E = Sl fr[i]? fun d => match d with
 | .nl l => Op (f l) fun l' => Bx (fr.set i (some (.nl l'))) fun fr => U () fr h
 | .ref n => Op h[n]? fun c => match c with
   | .nl l => Op (f l) fun l' => U () fr (h.set n (.nl l'))
   | _ => False
 | _ => False := ahI
theorem ahK {n : Nat} {f : List D → Option (List D)} : Wp (rF (.ref n) f fr h) U E = Op h[n]? fun c => match c with
 | .nl l => Op (f l) fun l' => U () fr (h.set n (.nl l'))
 | _ => False := afE
theorem qX : Wp (fH i m fr h) Q E = Wp (cR i oM fr h) (fun _ fr h => Wp (m fr h) (fun d fr h => Wp (cR i (uZ d) fr h) (fun _ fr h => Q .non fr h) E) E) E := afF
theorem ahL {mo : M D} : Wp (Rx mo m fr h) Q E = Wp (mo fr h) (fun o fr h => Wp (rF o oM fr h) (fun _ fr h => Wp (m fr h) (fun d fr h => Wp (rF o (uZ d) fr h) (fun _ fr h => Q .non fr h) E) E) E) E := afG
theorem ack : Wp (DP m fr h) Q E = Wp (m fr h) (fun d fr h => d.own = true ∧ Q (.ref h.length) fr (h ++ [d])) E := afH
theorem aej {ix : Nat → Option Nat} : Wp (nu i ix m fr h) L E = Wp (m fr h) (fun d fr h => Wp (wg i ix d fr h) (fun _ fr h => L .nx fr h) E) E := ac1
theorem ahM {ix : Nat → Option Nat} {x : D} : Wp (wg i ix x fr h) U E = Sl fr[i]? fun d => match d with
 | .no c fs => Op (ix c) fun k => Op (sO k x fs) fun fs' => Bx (fr.set i (some (.no c fs'))) fun fr => U () fr h
 | .ref n => Op h[n]? fun c => match c with
   | .no c fs => Op (ix c) fun k => Op (sO k x fs) fun fs' => U () fr (h.set n (.no c fs'))
   | _ => False
 | _ => False := afI
theorem fM {n k : Nat} {F : Fn} {gD : List D → List D → List D} {ma mk : M (List D)} : Wp (aG n k F gD ma mk fr h) Q E = Wp (ma fr h) (fun ds fr h => Wp (mk fr h) (fun es fr h => ds.length = n ∧ es.length = k ∧ Wp (F (gD ds es) h) (fun d _ h => Q d fr h) (fun x _ h => E x fr h)) E) E := aaB
theorem Xp {n k : Nat} {mt : Nat → Option Fn} {gD : List D → List D → List D} {mo : M D} {ma mk : M (List D)} : Wp (yt n k mt gD mo ma mk fr h) Q E = Wp (mo fr h) (fun o fr h => Op (fnOf mt h o) fun F => Wp (ma fr h) (fun ds fr h => Wp (mk fr h) (fun es fr h => ds.length = n ∧ es.length = k ∧ Wp (F (gD (o :: ds) es) h) (fun d _ h => Q d fr h) (fun x _ h => E x fr h)) E) E) E := afJ
theorem G4 {mt : Nat → Option Fn} {mo : M D} : Wp (xf mt mo fr h) Q E = Wp (mo fr h) (fun o fr h => Op (fnOf mt h o) fun F => Wp (F [o] h) (fun d _ h => Q d fr h) nY) E := afK
theorem du {n : Nat} {m : M Fl} {ds : List D} : Wp (bO n m ds h) Q E = Bx (startF n ds) fun fr => Wp (m fr h) (fun f _ h => RtK f fun d => Q d [] h) (fun x _ h => E x [] h) := afL
theorem afN {c c' : Nat} {fs : List D} {K : D → Prop} : NoK c (some (some (.no c' fs))) K = (c' = c ∧ K (.no c fs)) := Yo
theorem ahN {c n : Nat} {m : M Fl} {ds : List D} : Wp (runI c n m ds h) Q E = Bx (startF n (.no c [] :: ds)) fun fr => Wp (m fr h) (fun f fr h => FlK f (NoK c fr[0]? fun d => Q d [] h) False) (fun x _ h => E x [] h) := afM
end
end Pk
namespace Pk
open PySem PySem.Spec L2
section
variable {h : Hh} {l l' ds fs : List D} {i j : Int} {a b : Bool} {s z : Str} {n c : Nat} {t : String}
theorem bZ : (D.int i).own = false := by unfold D.own; rfl
theorem Lf : (D.bl a).own = false := by unfold D.own; rfl
theorem Ai : (D.tup l).own = false := by unfold D.own; rfl
theorem xY : (D.fl l).own = false := by unfold D.own; rfl
theorem aju : (D.kl l).own = false := by unfold D.own; rfl
theorem lG : (D.obj c l).own = false := by unfold D.own; rfl
theorem iG : (D.ref n).own = false := by unfold D.own; rfl
theorem Ff : (D.nl l).own = true := by unfold D.own; rfl
theorem aek : (D.no c l).own = true := by unfold D.own; rfl
theorem tZ : (D.int i).fz = .int i := by unfold D.fz; rfl
theorem aaC : (D.tup l).fz = .tup l := by unfold D.fz; rfl
theorem ajv : (D.obj c l).fz = .obj c l := by unfold D.fz; rfl
theorem vY : (D.nl l).fz = .fl l := by unfold D.fz; rfl
theorem ac2 : (D.no c l).fz = .obj c l := by unfold D.fz; rfl
theorem oG : (D.tup l).its h = some l := by unfold D.its D.der; rfl
theorem vq : (D.fl l).its h = some l := by unfold D.its D.der; rfl
theorem ajw : (D.kl l).its h = some l := by unfold D.its D.der; rfl
theorem aaD : (D.nl l).its h = some l := by unfold D.its D.der; rfl
theorem ahO {x : D} (e : h[n]? = some x) : (D.ref n).der h = x := by
 unfold D.der; dsimp only; rw [e]; rfl
theorem Xq (e : h[n]? = some (.nl l)) : (D.ref n).its h = some l := by
 unfold D.its; rw [ahO e]
theorem HW : bW h (.tup l) = some (.int l.length) := by unfold bW; dsimp only; rw [oG]; rfl
theorem acl : bW h (.fl l) = some (.int l.length) := by unfold bW; dsimp only; rw [vq]; rfl
theorem ahP : bW h (.kl l) = some (.int l.length) := by unfold bW; dsimp only; rw [ajw]; rfl
theorem xZ : bT h (.tup l) (.int i) = atI l i := by unfold bT; dsimp only; rw [oG]
theorem aaE : bT h (.fl l) (.int i) = atI l i := by unfold bT; dsimp only; rw [vq]
theorem ahQ : bT h (.nl l) (.int i) = atI l i := by unfold bT; dsimp only; rw [aaD]
theorem Ul (e : h[n]? = some (.nl l)) : bT h (.ref n) (.int i) = atI l i := by unfold bT; dsimp only; rw [Xq e]
section
variable {α : Type} {xs : List α}
theorem Bl {k : Nat} : atI xs (k : Int) = xs[k]? := by
 unfold atI ixN
 rw [if_pos (by omega)]
 by_cases hk : k < xs.length
 · rw [if_pos (by omega)]; simp
 · rw [if_neg (by omega)]; simp; omega
theorem ael {i : Int} (h0 : 0 ≤ i) : atI xs i = xs[i.toNat]? := by
 have e : i = (i.toNat : Int) := by omega
 rw [e, Bl, Int.toNat_natCast]
theorem ak9 : atI xs 0 = xs[0]? := Bl (k := 0)
theorem ala : atI xs 1 = xs[1]? := Bl (k := 1)
theorem alb : atI xs 3 = xs[3]? := Bl (k := 3)
theorem akp : atI xs (-1) = xs.getLast? := by
 unfold atI ixN
 rw [if_neg (by decide), List.getLast?_eq_getElem?]
 by_cases hk : 1 ≤ xs.length
 · rw [if_pos (by omega)]
   show xs[((-1 : Int) + (xs.length : Int)).toNat]? = _
   congr 1; omega
 · rw [if_neg (by omega)]
   have : xs = [] := List.length_eq_zero_iff.mp (by omega)
   subst this; rfl
end
section
variable {C : Int → Int → Bool} {g : Int → Int → Int} {K : D → Prop}
theorem zf : Op (dU C g h (.int i) (.int j)) K = (C i j = true ∧ K (.int (g i j))) := by unfold dU; exact ajt
theorem Jw : ie i j = true := by unfold ie; rfl
theorem qu : bR h (.int i) (.int j) = some (.int (i + j)) := by unfold bR; rfl
theorem afO : bR h (.tup l) (.tup l') = if l.length + l'.length ≤ big then some (.tup (l ++ l')) else none := by unfold bR; rfl
theorem ahR : bR h (.fl l) (.fl l') = if l.length + l'.length ≤ big then some (.nl (l ++ l')) else none := by unfold bR; rfl
theorem afP : Cv (.int i) = some (.int (-i)) := by unfold Cv; rfl
theorem afQ : sH h (.bl a) = some (.int (if a then 1 else 0)) := by unfold sH; rfl
theorem QD {d : D} : rC h d = (d.its h).map .tup := by unfold rC; rfl
theorem rK {p : Int → Int → Bool} : cInt p h (.int i) (.int j) = some (p i j) := by unfold cInt; rfl
theorem iV : fL h (.int i) (.int j) = some (decide (i = j)) := by
 have : fL h (.int i) (.int j) = some (i == j) := by unfold fL; rfl
 rw [this]
 by_cases e : i = j
 · subst e; simp
 · simp [e]
theorem Vz {d e : D} : G8 h d e = (fL h d e).map (!·) := by unfold G8; rfl
theorem Ea : (D.bl a).tb = some a := by unfold D.tb; rfl
theorem vz : (D.bl a).tru h = some a := by unfold D.tru; rfl
end
theorem aem : ∀ xs : List Int, D.ints (xs.map .int) = some xs
 | [] => by unfold D.ints; rfl
 | i :: xs => by rw [an1]; unfold D.ints; rw [aem xs]; rfl
theorem akq {xs : List Int} : ae6 h (.nl (xs.map .int)) = some (.int xs.sum) := by
 unfold ae6 D.lints D.der; dsimp only; rw [aem]; rfl
theorem eZ {ix : Nat → Option Nat} {K : D → Prop} : Op (bB ix h (.obj c fs)) K = Op (ix c) fun k => Op fs[k]? K := by
 unfold bB D.ins D.der; dsimp only
 cases ix c with
 | none => exact (acj (K := K)).trans (acj (α := Nat)).symm
 | some k => rw [aQ]
theorem vZ {mt : Nat → Option Fn} : fnOf mt h (.obj c fs) = mt c := by unfold fnOf D.ins D.der; rfl
theorem cV {fr : Fr} : dZ fr [] = fr := by unfold dZ; rfl
theorem cG {fr : Fr} {k : Nat} {ks : List Nat} : dZ fr (k :: ks) = (dZ fr ks).set k none := by rw [dZ]
theorem fO {dfl es : List D} : aD dfl ds es = ds ++ dfl := by unfold aD; rfl
theorem afR {α : Type} {xs : List α} : pick [] xs = [] := by unfold pick; rfl
theorem aen {α : Type} {xs : List α} {k : Nat} {ks : List Nat} : pick (k :: ks) xs = xs[k]?.toList ++ pick ks xs := by
 unfold pick
 rw [List.filterMap_cons]
 cases xs[k]? <;> rfl
theorem afS {α : Type} {x : α} : (some x).toList = [x] := by unfold Option.toList; rfl
theorem lY : oM l = some l := by unfold oM; rfl
theorem pY {d : D} : uZ d l = if l.length < big then some (l ++ [d]) else none := by unfold uZ; rfl
theorem aeo {k : Nat} {d : D} (e : k = fs.length) : sO k d fs = some (fs ++ [d]) := by
 unfold sO; rw [if_pos (by omega), if_neg (by omega)]
end
theorem cO : big = 100000 := by unfold big; rfl
def Lg (f : Fl) (A : Prop) (B : Fl → Prop) (_ : Tn A B := ⟨⟩) : Prop := match f with
 | .nx => A
 | .ct => A
 | .brk => B .nx
 | .rt d => B (.rt d)
theorem jk {A : Prop} {B : Fl → Prop} : Lg .nx A B = A := by unfold Lg; rfl
theorem QF {A : Prop} {B : Fl → Prop} : Lg .ct A B = A := by unfold Lg; rfl
theorem RQ {A : Prop} {B : Fl → Prop} : Lg .brk A B = B .nx := by unfold Lg; rfl
theorem VB {d : D} {A : Prop} {B : Fl → Prop} : Lg (.rt d) A B = B (.rt d) := by unfold Lg; rfl
section
variable {L : Fl → Fr → Hh → Prop} {E : aP → Fr → Hh → Prop} {g : D → M Unit} {b : M Fl}
theorem ahS {fr : Fr} {h : Hh} : Wp (fB g b [] fr h) L E = L .nx fr h := by unfold fB; exact dF
theorem ahT {d : D} {ds : List D} {fr : Fr} {h : Hh} : Wp (fB g b (d :: ds) fr h) L E = Wp (g d fr h) (fun _ fr h => Wp (b fr h) (fun f fr h => Lg f (Wp (fB g b ds fr h) L E) fun f => L f fr h) E) nY := by
 rw [fB]
 dsimp only
 cases g d fr h with
 | ok u fr h =>
   rw [cH]
   dsimp only
   cases b fr h with
   | ok f fr h =>
     rw [cH]
     cases f with
     | nx => rw [jk]
     | ct => rw [QF]
     | brk => rw [RQ]; exact cH
     | rt d => rw [VB]; exact cH
   | exc x fr h => unfold Wp; rfl
   | err => unfold Wp; rfl
 | exc x fr h => unfold Wp nY; rfl
 | err => unfold Wp; rfl
theorem yc {α : Type} {F : α → D} {xs : List α} (I : List α → Fr → Hh → Prop) {fr : Fr} {h : Hh} (i0 : I [] fr h)
 (st : ∀ pre a suf fr h, xs = pre ++ a :: suf → I pre fr h → Wp (g (F a) fr h) (fun _ fr h => Wp (b fr h) (fun f fr h => Lg f (I (pre ++ [a]) fr h) fun f => L f fr h) E) nY)
 (en : ∀ fr h, I xs fr h → L .nx fr h) : Wp (fB g b (xs.map F) fr h) L E := by
 have main : ∀ (suf pre : List α) (fr : Fr) (h : Hh), xs = pre ++ suf → I pre fr h → Wp (fB g b (suf.map F) fr h) L E := by
  intro suf
  induction suf with
  | nil =>
    intro pre fr h e i
    rw [aoa, ahS]
    rw [aob] at e
    subst e
    exact en fr h i
  | cons a suf ih =>
    intro pre fr h e i
    rw [an1, ahT]
    refine (st pre a suf fr h e i).mono fun _ fr1 h1 w => w.mono fun f fr2 h2 z => ?_
    have e' : xs = (pre ++ [a]) ++ suf := by rw [e, aoA]; rfl
    cases f with
    | nx => rw [jk] at z ⊢; exact ih _ _ _ e' z
    | ct => rw [QF] at z ⊢; exact ih _ _ _ e' z
    | brk => rw [RQ] at z ⊢; exact z
    | rt d => rw [VB] at z ⊢; exact z
 exact main xs [] fr h rfl i0
theorem ahU {lo : Int} {n : Nat} (I : Int → Fr → Hh → Prop) {fr : Fr} {h : Hh} (i0 : I lo fr h)
 (st : ∀ j fr h, lo ≤ j → j < lo + n → I j fr h → Wp (g (.int j) fr h) (fun _ fr h => Wp (b fr h) (fun f fr h => Lg f (I (j + 1) fr h) fun f => L f fr h) E) nY)
 (en : ∀ fr h, I (lo + n) fr h → L .nx fr h) : Wp (fB g b (gH lo n) fr h) L E := by
 have e : gH lo n = ((aoe n).map fun (k : Nat) => lo + (k : Int)).map D.int := by unfold gH; rw [aoj]; rfl
 rw [e]
 refine yc (fun pre fr h => I (lo + pre.length) fr h) (by simpa using i0) (fun pre a suf fr h ex i => ?_) (fun fr h i => en fr h ?_)
 · have hl : pre.length < n := by
    have := congrArg aov ex
    simp only [an2, aoy, an9, an4] at this
    omega
   have ha : a = lo + pre.length := by
    have := congrArg (fun l => l[pre.length]?) ex
    simp only [aos, List.getElem?_range hl, Option.map_some, aow (Nat.le_refl _), Nat.sub_self, an3, Option.some.injEq] at this
    exact this.symm
   subst ha
   have z := st (lo + pre.length) fr h (by omega) (by omega) i
   rw [an9, aoo, Int.natCast_add, ← Int.add_assoc]
   exact z
 · simpa using i
end
section
variable {vs : List Nat} {g : D → M Unit} {t : M Bool} {e : M D}
theorem jU {d : D} {Q : Option D → Fr → Hh → Prop} {E : aP → Fr → Hh → Prop} {fr : Fr} {h : Hh} : Wp (fP vs g t e d fr h) Q E = Wp (g d fr h) (fun _ fr h => Wp (t fr h) (fun b fr h => Cd b (Wp (e fr h) (fun y fr h => Bx (dZ fr vs) fun fr => Q (some y) fr h) nY) (Bx (dZ fr vs) fun fr => Q none fr h)) nY) nY := by
 unfold fP Bx
 cases g d fr h with
 | ok u fr h =>
   rw [cH]
   dsimp only
   cases t fr h with
   | ok b fr h =>
     rw [cH]
     cases b with
     | true =>
       rw [fD]
       dsimp only
       cases e fr h with
       | ok y fr h => rw [cH]; exact cH (E := nY)
       | exc x fr h => unfold Wp nY; rfl
       | err => unfold Wp; rfl
     | false => rw [cA]; exact cH
   | exc x fr h => unfold Wp nY; rfl
   | err => unfold Wp; rfl
 | exc x fr h => unfold Wp nY; rfl
 | err => unfold Wp; rfl
theorem acn {fr : Fr} {h : Hh} : jA vs g t e [] fr h = .ok [] fr h := by unfold jA; rfl
theorem Bm {α : Type} {F G : α → D} {p : α → Bool} {fr : Fr} {h : Hh} : ∀ {xs : List α}, (∀ a ∈ xs, Wp (fP vs g t e (F a) fr h) (fun o fr1 h1 => (o = if p a then some (G a) else none) ∧ fr1 = fr ∧ h1 = h) nY) → jA vs g t e (xs.map F) fr h = .ok ((xs.filter p).map G) fr h
 | [], _ => acn
 | a :: xs, hh => by
   rw [an1]
   unfold jA
   rw [M.bind_ok ((hh a aod).eq), M.bind_ok (Bm fun x hx => hh x (aok _ hx)), List.filter_cons]
   cases p a <;> rfl
theorem wH {α : Type} {F G : α → D} {fr : Fr} {h : Hh} {xs : List α} (hh : ∀ a ∈ xs, Wp (fP vs g t e (F a) fr h) (fun o fr1 h1 => o = some (G a) ∧ fr1 = fr ∧ h1 = h) nY) : jA vs g t e (xs.map F) fr h = .ok (xs.map G) fr h := by
 have := Bm (p := fun _ => true) (F := F) (G := G) (xs := xs) (vs := vs) (g := g) (t := t) (e := e) (fr := fr) (h := h) (fun a ha => (hh a ha).mono fun o fr1 h1 z => by simpa using z)
 rw [this, List.filter_eq_self.mpr (fun _ _ => rfl)]
theorem afT {α : Type} {F : α → D} {fr : Fr} {h : Hh} {xs : List α} (hh : ∀ a ∈ xs, Wp (fP vs g t e (F a) fr h) (fun o fr1 h1 => o = none ∧ fr1 = fr ∧ h1 = h) nY) : jA vs g t e (xs.map F) fr h = .ok [] fr h := by
 have := Bm (p := fun _ => false) (F := F) (G := F) (xs := xs) (vs := vs) (g := g) (t := t) (e := e) (fr := fr) (h := h) (fun a ha => (hh a ha).mono fun o fr1 h1 z => by simpa using z)
 rw [this, List.filter_eq_nil_iff.mpr (fun _ _ => by simp)]; rfl
end
end Pk
namespace Pk
open PySem PySem.Spec L2
structure Em (α : Type) [DecidableEq α] where
 f : α → PyData
 n : Nat
 ok : α → Prop
 lay : ∀ a, ok a → (f a).canLay0 = true
 dep : ∀ a, (f a).depth ≤ n
 eq : ∀ a b, PyData.eqv (f a) (f b) = decide (a = b)
theorem aco (a b : Int) : (a == b) = decide (a = b) := by
 by_cases e : a = b
 · subst e; simp
 · simp [e]
def Em.int : Em Int where
 f := .int
 n := 0
 ok := fun _ => True
 lay := fun _ _ => rfl
 dep := fun _ => Nat.le_refl 0
 eq := fun a b => by
  show (a == b) = _
  exact aco a b
def alc (s : Str) : Bool := (PyData.str s).canLay0
def Em.str : Em Str where
 f := .str
 n := 0
 ok := fun s => alc s = true
 lay := fun _ h => h
 dep := fun _ => Nat.le_refl 0
 eq := fun a b => by
  show (a == b) = _
  by_cases e : a = b
  · subst e; simp
  · simp [e]
section
variable {α β : Type} [DecidableEq α] [DecidableEq β]
theorem Em.all_lay (A : Em α) : ∀ {l : List α}, (∀ a ∈ l, A.ok a) → PyData.canLayAll0 (l.map A.f) = true
 | [], _ => rfl
 | a :: l, h => by
   rw [an1, PyData.canLayAll0, A.lay a (h a aod), A.all_lay fun x hx => h x (aok _ hx)]
   rfl
theorem Em.all_dep (A : Em α) : ∀ l : List α, PyData.depthAll (l.map A.f) ≤ A.n
 | [] => Nat.zero_le _
 | a :: l => by
   rw [an1, PyData.depthAll]
   exact Nat.max_le.mpr ⟨A.dep a, A.all_dep l⟩
theorem Em.all_eq (A : Em α) : ∀ l m : List α, PyData.eqvAll (l.map A.f) (m.map A.f) = decide (l = m)
 | [], [] => rfl
 | [], b :: m => by simp [PyData.eqvAll]
 | a :: l, [] => by simp [PyData.eqvAll]
 | a :: l, b :: m => by
   rw [an1, an1, PyData.eqvAll, A.eq, A.all_eq l m]
   by_cases e : a = b <;> by_cases e2 : l = m <;> simp [e, e2]
def Em.list (A : Em α) : Em (List α) where
 f := fun l => .list (l.map A.f)
 n := A.n + 1
 ok := fun l => ∀ a ∈ l, A.ok a
 lay := fun l h => by rw [PyData.canLay0]; exact A.all_lay h
 dep := fun l => by rw [PyData.depth]; exact Nat.succ_le_succ (A.all_dep l)
 eq := fun l m => by rw [PyData.eqv]; exact A.all_eq l m
def Em.tup (A : Em α) : Em (List α) where
 f := fun l => .tuple (l.map A.f)
 n := A.n + 1
 ok := fun l => ∀ a ∈ l, A.ok a
 lay := fun l h => by rw [PyData.canLay0]; exact A.all_lay h
 dep := fun l => by rw [PyData.depth]; exact Nat.succ_le_succ (A.all_dep l)
 eq := fun l m => by rw [PyData.eqv]; exact A.all_eq l m
def Em.pair (A : Em α) (B : Em β) : Em (α × β) where
 f := fun p => .tuple [A.f p.1, B.f p.2]
 n := max A.n B.n + 1
 ok := fun p => A.ok p.1 ∧ B.ok p.2
 lay := fun p h => by
  rw [PyData.canLay0, PyData.canLayAll0, PyData.canLayAll0, PyData.canLayAll0, A.lay _ h.1, B.lay _ h.2]; rfl
 dep := fun p => by
  rw [PyData.depth, PyData.depthAll, PyData.depthAll, PyData.depthAll]
  have := A.dep p.1
  have := B.dep p.2
  omega
 eq := fun p q => by
  rw [PyData.eqv, PyData.eqvAll, PyData.eqvAll, PyData.eqvAll, A.eq, B.eq]
  obtain ⟨a, b⟩ := p
  obtain ⟨c, d⟩ := q
  by_cases e : a = c <;> by_cases e2 : b = d <;> simp [e, e2]
def Em.opt (A : Em α) (hn : ∀ a, PyData.eqv .none (A.f a) = false ∧ PyData.eqv (A.f a) .none = false) : Em (Option α) where
 f := fun o => match o with
   | some a => A.f a
   | none => .none
 n := A.n
 ok := fun o => ∀ a, o = some a → A.ok a
 lay := fun o h => by
  cases o with
  | none => rfl
  | some a => exact A.lay a (h a rfl)
 dep := fun o => by
  cases o with
  | none => exact Nat.zero_le _
  | some a => exact A.dep a
 eq := fun o p => by
  cases o with
  | none => cases p with
    | none => rfl
    | some b => simp only [(hn b).1]; simp
  | some a => cases p with
    | none => simp only [(hn a).2]; simp
    | some b => simp only [A.eq]; simp
theorem Em.shaped (A : Em α) {a : α} (h : A.ok a) (hn : A.n ≤ 64) : SeqAt.shaped (A.f a) = true := by
 unfold SeqAt.shaped
 rw [A.lay a h, decide_eq_true (Nat.le_trans (A.dep a) hn)]
 rfl
theorem VD (A : Em α) {h : Hh} {d e : D} {a b : α} (hd : d.toP = some (A.f a)) (he : e.toP = some (A.f b)) (oa : A.ok a) (ob : A.ok b) (hn : A.n ≤ 64) : fL h d e = some (decide (a = b)) := by
 unfold fL
 rw [hd, he]
 dsimp only
 rw [A.shaped oa hn, A.shaped ob hn, ← A.eq]
 rfl
theorem wI (A : Em α) {g : α → D} (hg : ∀ a, (g a).toP = some (A.f a)) : ∀ l : List α, D.toPs (l.map g) = some (l.map A.f)
 | [] => by rw [aoa, D.toPs]; rfl
 | a :: l => by
   rw [an1, D.toPs, hg a, wI A hg l]
   rfl
theorem VF (A : Em α) {g : α → D} (hg : ∀ a, (g a).toP = some (A.f a)) (l : List α) : (D.fl (l.map g)).toP = some (A.list.f l) := by
 rw [D.toP, wI A hg]; rfl
theorem aep (A : Em α) {g : α → D} (hg : ∀ a, (g a).toP = some (A.f a)) (l : List α) : (D.nl (l.map g)).toP = some (A.list.f l) := by
 rw [D.toP, wI A hg]; rfl
theorem Lh (A : Em α) {g : α → D} (hg : ∀ a, (g a).toP = some (A.f a)) (l : List α) : (D.tup (l.map g)).toP = some (A.tup.f l) := by
 rw [D.toP, wI A hg]; rfl
theorem wJ (i : Int) : (D.int i).toP = some (Em.int.f i) := by unfold D.toP; rfl
end
section
variable {h : Hh} {l m : List Int} {v : Int}
theorem ahV : fL h (.fl (l.map .int)) (.nl (m.map .int)) = some (decide (l = m)) := VD Em.int.list (VF Em.int wJ l) (aep Em.int wJ m) (fun _ _ => trivial) (fun _ _ => trivial) (by decide)
theorem acp : fL h (.tup (l.map .int)) (.tup (m.map .int)) = some (decide (l = m)) := VD Em.int.tup (Lh Em.int wJ l) (Lh Em.int wJ m) (fun _ _ => trivial) (fun _ _ => trivial) (by decide)
theorem ajx : fL h (.fl []) (.nl []) = some true := (ahV (l := []) (m := [])).trans rfl
theorem aaF : ∀ l : List Int, (l.map D.int).all D.flat = true
 | [] => by rw [aoa]; rfl
 | i :: l => by rw [an1, List.all_cons, aaF l, D.flat]; rfl
theorem acq (v : Int) : ∀ l : List Int, ((l.map D.int).any fun z => D.eqf z (.int v)) = decide (v ∈ l)
 | [] => by simp
 | i :: l => by
   rw [an1, List.any_cons, acq v l, D.eqf, aco]
   by_cases e : i = v
   · subst e; simp
   · simp [e, Ne.symm e]
theorem ahW {l : List D} {d : D} (e : d.its h = some l) (hf : l.all D.flat = true) : Pr h (.int v) d = some (l.any fun z => D.eqf z (.int v)) := by
 unfold Pr
 dsimp only
 rw [e]
 dsimp only
 rw [hf, D.flat]
 rfl
theorem aaG : Pr h (.int v) (.tup (l.map .int)) = some (decide (v ∈ l)) := by rw [ahW oG (aaF l), acq]
end
theorem enum_zip : ∀ (l : List D) (i : Nat), nR i l = (l.zipIdx i).map fun p => D.tup [.int (p.2 : Int), p.1]
 | [], i => by rw [List.zipIdx_nil, aoa, nR]
 | d :: l, i => by rw [nR, enum_zip l (i + 1), List.zipIdx_cons, an1]
theorem ahX {l : List D} : (D.tup l).lst = some l := by unfold D.lst; rfl
theorem ahY {α : Type} {h l : List α} : (h ++ l)[h.length]? = l[0]? := by rw [aow (Nat.le_refl _), Nat.sub_self]
theorem aeq {α : Type} {h l : List α} {k : Nat} : (h ++ l)[h.length + k]? = l[k]? := by rw [aow (Nat.le_add_right _ _), Nat.add_sub_cancel_left]
theorem ahZ {α : Type} {h l : List α} {v : α} : (h ++ l).set h.length v = h ++ l.set 0 v := by rw [List.set_append_right _ _ (Nat.le_refl _), Nat.sub_self]
theorem ajy {α : Type} {h l : List α} {k : Nat} {v : α} : (h ++ l).set (h.length + k) v = h ++ l.set k v := by rw [List.set_append_right _ _ (Nat.le_add_right _ _), Nat.add_sub_cancel_left]
def psI (d : D) : Option Int := match d with
 | .int i => some i
 | _ => none
theorem RW {i : Int} : psI (.int i) = some i := by unfold psI; rfl
theorem VG {m : M D} {I : Option Int → Fr → Hh → Prop} {E : aP → Fr → Hh → Prop} {fr : Fr} {h : Hh} : Wp (KH m fr h) I E = Wp (m fr h) (fun d fr h => Op (psI d) fun i => I (some i) fr h) E := by
 rw [ako]
 congr 1
theorem afU {α : Type} {l : List α} {k : Nat} : l.take (min k l.length) = l.take k := by
 by_cases hk : k ≤ l.length
 · rw [Nat.min_eq_left hk]
 · rw [Nat.min_eq_right (by omega), List.take_length, List.take_of_length_le (by omega)]
theorem ajA {α : Type} {l : List α} {k : Int} (h0 : 0 ≤ k) : cutD l none (some k) = l.take k.toNat := by
 unfold cutD HT.sIx
 dsimp only
 rw [if_neg (by omega), List.drop_zero, Nat.sub_zero, afU]
theorem aer {α : Type} {l : List α} {k : Int} (h0 : 0 ≤ k) : cutD l (some k) none = l.drop k.toNat := by
 unfold cutD HT.sIx
 dsimp only
 rw [if_neg (by omega)]
 by_cases hk : k.toNat ≤ l.length
 · rw [Nat.min_eq_left hk, List.take_of_length_le (by rw [List.length_drop]; omega)]
 · rw [Nat.min_eq_right (by omega), List.drop_of_length_le (Nat.le_refl _), List.drop_of_length_le (by omega), List.take_nil]
theorem ajB {α : Type} {l : List α} : cutD l none (some (-1)) = l.dropLast := by
 unfold cutD HT.sIx
 dsimp only
 rw [if_pos (by decide), List.drop_zero, Nat.sub_zero, List.dropLast_eq_take]
 congr 1
 omega
theorem afV {h : Hh} {l : List D} {p : Option Int × Option Int} : uX h (.tup l) p = some (.tup (cutD l p.1 p.2)) := by unfold uX; rfl
theorem Xr {h : Hh} {l : List D} {p : Option Int × Option Int} : uX h (.fl l) p = some (.nl (cutD l p.1 p.2)) := by unfold uX; rfl
theorem Fg {i : Int} (h1 : -100000 ≤ i) (h2 : i ≤ 100000) : nW i = true := by
 unfold nW
 rw [decide_eq_true (show -(2 ^ 62) ≤ i by omega), decide_eq_true (show i < 2 ^ 62 by omega)]
 rfl
theorem ah0 {n : Nat} {N : Int} {b : M Fl} {ns : List Int} (hn : 2 ≤ n) (h1 : 1 ≤ N) (hN : N ≤ 63)
 (hb : ∀ (k : Nat) (xs : Fr) (h : Hh), (k : Int) < N → xs.length = n - 2 → Wp (b (some (.kl (ns.map .int)) :: some (.int k) :: xs) h) (fun f fr _ => (f = .nx ∨ f = .ct) ∧ ∃ x1 ys, fr = some (.kl (ns.map .int)) :: x1 :: ys ∧ ys.length = n - 2) nY) :
 ∃ fr h, bO n (az (dJ (oK (aC Vc (mC (.int 1)) (aC Vd (mC (.int N)) (aA bW (au 0))))) (aK 1) b) (aV (mC (.bl true)))) [.kl (ns.map .int)] [] = .ok (.bl true) fr h := by
 have w : Wp (bO n (az (dJ (oK (aC Vc (mC (.int 1)) (aC Vd (mC (.int N)) (aA bW (au 0))))) (aK 1) b) (aV (mC (.bl true)))) [.kl (ns.map .int)] []) (fun d _ _ => d = .bl true) nY := by
  have es : startF n [.kl (ns.map .int)] = some (.kl (ns.map .int)) :: none :: List.replicate (n - 2) none := by
   unfold startF
   obtain ⟨m, rfl⟩ : ∃ m, n = m + 2 := ⟨n - 2, by omega⟩
   simp [aom]
  simp only [du, es, aN, ↓cW, ↓tO, ↓Dd, ↓cZ, ↓gQ, ↓d7, ↓cY, an3, aM, ahP, aQ, zf, Jw, true_and, Vw, an2]
  generalize hz : (if (if (ns.length : Int) < N then (ns.length : Int) else N) > 1 then (if (ns.length : Int) < N then (ns.length : Int) else N) else 1) = z
  have z1 : 1 ≤ z := by rw [← hz]; split <;> omega
  have z2 : z ≤ N := by rw [← hz]; split <;> split at * <;> omega
  rw [Fg (by omega) (by omega)]
  simp only [↓reduceIte, aQ]
  refine ahU (fun _ fr _ => ∃ x1 ys, fr = some (.kl (ns.map .int)) :: x1 :: ys ∧ ys.length = n - 2) ⟨none, _, rfl, by simp⟩ ?_ ?_
  · rintro j fr h j0 j1 ⟨x1, ys, rfl, hy⟩
    simp only [↓cJ, an6, an5, aN]
    have ej : ((j.toNat : Nat) : Int) = j := by omega
    have := hb j.toNat ys h (by omega) hy
    rw [ej] at this
    refine this.mono ?_
    rintro f fr h ⟨rfl | rfl, q⟩
    · rw [jk]; exact q
    · rw [QF]; exact q
  · rintro fr h ⟨x1, ys, rfl, hy⟩
    simp only [cC, ↓dY, ↓gQ, dX]
 obtain ⟨d, fr, h, e, rfl⟩ := w.ex
 exact ⟨fr, h, e⟩
end Pk
namespace Pk
open PySem PySem.Spec L2
section
variable {Q : D → Fr → Hh → Prop} {E : aP → Fr → Hh → Prop} {fr : Fr} {h : Hh} {ma mb : M D} {mk : M (List D)} {F : Fn} {m : Nat} {mt : Nat → Option Fn}
theorem afW : Wq (Jq m F ma mk fr h) Q E = Wq (ma fr h) (fun d fr h => Wq (mk fr h) (fun es fr h => Oq (d.its []) fun ds => ds.length ≤ big ∧ es.length = m ∧ Wq (F (tW ds es) h) (fun d _ h => Q d fr h) (fun x _ h => E x fr h)) E) E := by
 unfold Jq
 rw [aZ]
 congr 1
 funext d fr h
 rw [aZ]
 congr 1
 funext es fr h
 cases d.its [] with
 | none => exact (lF (Q := Q) (E := E)).trans (jK (α := List D)).symm
 | some ds =>
   rw [ji]
   dsimp only
   split
   · rename_i hb; rw [M4]; simp only [hb.1, hb.2, true_and]
   · rename_i hb
     rw [lF, eq_iff_iff]
     exact ⟨False.elim, fun z => hb ⟨z.1, z.2.1⟩⟩
theorem acr : Wp (Jq m F ma mk fr h) Q E = Wp (ma fr h) (fun d fr h => Wp (mk fr h) (fun es fr h => Op (d.its []) fun ds => ds.length ≤ big ∧ es.length = m ∧ Wp (F (tW ds es) h) (fun d _ h => Q d fr h) (fun x _ h => E x fr h)) E) E := afW
theorem M5 {ds es : List D} : tW ds es = es ++ [.tup ds] := by unfold tW; rfl
theorem ah1 : Wq (Xi mt ma mb fr h) Q E = Wq (ma fr h) (fun x fr h => Wq (mb fr h) (fun y fr h => Oq (Gr mt h x y) fun F => Wq (F [x, y] h) (fun d _ h => Q d fr h) (fun x _ h => E x fr h)) E) E := by
 unfold Xi
 rw [aZ]
 congr 1
 funext x fr h
 rw [aZ]
 congr 1
 funext y fr h
 cases Gr mt h x y with
 | none => exact (lF (Q := Q) (E := E)).trans (jK (α := Fn)).symm
 | some F => rw [ji]; exact M4
theorem ajC : Wp (Xi mt ma mb fr h) Q E = Wp (ma fr h) (fun x fr h => Wp (mb fr h) (fun y fr h => Op (Gr mt h x y) fun F => Wp (F [x, y] h) (fun d _ h => Q d fr h) (fun x _ h => E x fr h)) E) E := ah1
theorem ah2 {c : Nat} {fs gs : List D} : Gr mt h (.obj c fs) (.obj c gs) = mt c := by
 unfold Gr uN D.ins D.der
 dsimp only
 rw [if_pos rfl]
end
section
variable {h : Hh} {l m : List Str} {w : Str}
end
section
variable {vs : List Nat} {g : D → M Unit} {t : M Bool} {e : M D}
theorem afX {α : Type} {F G : α → D} {fr fr' : Fr} {h : Hh} {xs : List α} (hx : xs ≠ []) (h1 : ∀ a ∈ xs, Wp (fP vs g t e (F a) fr h) (fun o fr1 h1 => o = some (G a) ∧ fr1 = fr' ∧ h1 = h) nY)
 (h2 : ∀ a ∈ xs, Wp (fP vs g t e (F a) fr' h) (fun o fr1 h1 => o = some (G a) ∧ fr1 = fr' ∧ h1 = h) nY) : jA vs g t e (xs.map F) fr h = .ok (xs.map G) fr' h := by
 cases xs with
 | nil => exact absurd rfl hx
 | cons a xs =>
   rw [an1]
   unfold jA
   rw [M.bind_ok ((h1 a aod).eq), M.bind_ok (wH fun x hx => h2 x (aok _ hx))]
   rfl
end
end Pk
namespace Pk
open PySem PySem.Spec L2
def endF (i : Nat) (f : Fl) (fr : Fr) : Fr := match f with
 | .rt _ => fr
 | _ => fr.set i none
section
variable {Q : Fl → Fr → Hh → Prop} {S : D → Fr → Hh → Prop} {E : aP → Fr → Hh → Prop} {fr : Fr} {h : Hh} {i : Nat} {cond : Nat → Option Bool} {mb : M Fl} {ms : aP → M Fl} {ma mc : M D} {mt : Nat → Option Fn}
end
section
variable {h : Hh} {i : Int} {b : Bool} {z : Str} {l : List D}
end
end Pk
namespace Pk
open PySem PySem.Spec L2
def aaH (d : D) (K : Int → Prop) : Prop := match d with
 | .int i => 0 ≤ i ∧ i < 2 ^ 60 ∧ K i
 | _ => False
section
variable {Q : Bool → Fr → Hh → Prop} {S : D → Fr → Hh → Prop} {E : aP → Fr → Hh → Prop} {fr : Fr} {h : Hh} {ma mb : M D} {mt : Nat → Option Fn}
theorem afY {i : Int} {K : Int → Prop} : aaH (.int i) K = (0 ≤ i ∧ i < 2 ^ 60 ∧ K i) := by unfold aaH; rfl
theorem acs {o : D} {as : List D} : Wq (xU mt o as fr h) S E = Oq (fnOf mt h o) fun F => Wq (F (o :: as) h) (fun d _ h => S d fr h) nY := by
 unfold xU
 cases fnOf mt h o with
 | none => exact lF.trans jK.symm
 | some F =>
   rw [ji]
   dsimp only
   cases F (o :: as) h <;> (unfold Wq; rfl)
theorem afZ {o : D} {as : List D} : Wq (MK mt o as fr h) S E = Oq (fnOf mt h o) fun F => Wq (F (o :: as) h) (fun d _ h => S d fr h) (fun x _ h => E x fr h) := by
 unfold MK
 cases fnOf mt h o with
 | none => exact lF.trans jK.symm
 | some F =>
   rw [ji]
   dsimp only
   exact M4
theorem ah3 : Wp (RD mt ma fr h) S E = Wp (ma fr h) (fun o fr h => Op (fnOf mt h o) fun F => Wp (F [o] h) (fun d _ h => aaH d fun i => S (.int i) fr h) nY) E := by
 show Wq (RD mt ma fr h) S E = Wq (ma fr h) (fun o fr h => Oq (fnOf mt h o) fun F => Wq (F [o] h) (fun d _ h => aaH d fun i => S (.int i) fr h) nY) E
 unfold RD
 rw [aZ]
 congr 1
 funext o fr h
 rw [aZ, acs]
 congr 1
 funext F
 congr 1
 funext d fr1 h1
 unfold acT aaH
 cases d with
 | int i =>
   dsimp only
   by_cases hi : 0 ≤ i ∧ i < 2 ^ 60
   · rw [if_pos hi, xX]
     exact propext ⟨fun z => ⟨hi.1, hi.2, z⟩, fun z => z.2.2⟩
   · rw [if_neg hi, lF]
     exact propext ⟨False.elim, fun z => hi ⟨z.1, z.2.1⟩⟩
 | _ => exact lF
theorem ah4 : Wp (RG mt ma mb fr h) S E = Wp (ma fr h) (fun o fr h => Wp (mb fr h) (fun i fr h => Op (fnOf mt h o) fun F => Wp (F [o, i] h) (fun d _ h => S d fr h) (fun x _ h => E x fr h)) E) E := by
 show Wq (RG mt ma mb fr h) S E = Wq (ma fr h) (fun o fr h => Wq (mb fr h) (fun i fr h => Oq (fnOf mt h o) fun F => Wq (F [o, i] h) (fun d _ h => S d fr h) (fun x _ h => E x fr h)) E) E
 unfold RG
 rw [aZ]
 congr 1
 funext o fr h
 rw [aZ]
 congr 1
 funext i fr h
 exact afZ
theorem aaI {α : Type} {P : α → Fr → Hh → Prop} {g : D → D → M α} : Wp (Gf g ma mb fr h) P E = Wp (ma fr h) (fun x fr h => Wp (mb fr h) (fun y fr h => Wp (g x y fr h) P E) E) E := by
 show Wq (Gf g ma mb fr h) P E = Wq (ma fr h) (fun x fr h => Wq (mb fr h) (fun y fr h => Wq (g x y fr h) P E) E) E
 unfold Gf
 simp only [aZ]
theorem ajD {d : D} {c : Bool → Bool} : Wq (((tbM d).bind fun b => M.ret (c b)) fr h) Q E = Oq d.tb fun b => Q (c b) fr h := by
 unfold tbM
 rw [aZ, iD]
 rfl
end
end Pk
namespace Pk
open PySem PySem.Spec L2
section
variable {Q : Bool → Fr → Hh → Prop} {E : aP → Fr → Hh → Prop} {fr : Fr} {h : Hh} {mt : Nat → Option Fn} {n m : Nat} {fs gs : List D}
theorem aes {c : Bool → Bool} {x y : D} : Wp (Qp mt c x y fr h) Q E = (((y.bty h).isSome || (uN h x y).isSome) = true ∧ Op (fnOf mt h x) fun F => Wp (F [x, y] h) (fun d _ h => Op d.tb fun b => Q (c b) fr h) nY) := by
 show Wq (Qp mt c x y fr h) Q E = (((y.bty h).isSome || (uN h x y).isSome) = true ∧ Oq (fnOf mt h x) fun F => Wq (F [x, y] h) (fun d _ h => Oq d.tb fun b => Q (c b) fr h) nY)
 unfold Qp
 cases hc : ((y.bty h).isSome || (uN h x y).isSome) with
 | false =>
   rw [if_neg (by simp), lF]
   simp
 | true =>
   rw [if_pos rfl, aZ, acs]
   simp only [true_and]
   congr 1
   funext F
   congr 1
   funext d fr1 h1
   exact ajD
theorem aaJ : uN h (.obj n fs) (.obj n gs) = some n := by
 unfold uN D.ins D.der
 dsimp only
 rw [if_pos rfl]
theorem acu : D.bty h (.obj n fs) = none := rfl
end
end Pk
namespace Pk
open PySem PySem.Spec L2
def ald (l : List D) (d : D) : Option (D × List D) := match d with
 | .int j => if -(2 ^ 63) ≤ j ∧ j < 2 ^ 63 then (match seqIndex? j l.length with
   | some q => (match l[q]? with
     | some y => some (y, l.eraseIdx q)
     | none => none)
   | none => none) else none
 | _ => none
def anr (x d : D) (K : D → List D → Prop) : Prop := match x with
 | .nl l => Oq (ald l d) fun p => K p.1 p.2
 | _ => False
section
variable {S : D → Fr → Hh → Prop} {E : aP → Fr → Hh → Prop} {fr : Fr} {h : Hh} {ma : M D} {mas : M (List D)} {mt : Nat → Option Fn} {i n c : Nat} {d : D} {l : List D}
end
end Pk
namespace Pk
open PySem PySem.Spec L2
section
variable {Q : Bool → Fr → Hh → Prop} {E : aP → Fr → Hh → Prop} {fr : Fr} {h : Hh} {mb : M D} {i : Nat}
end
end Pk
namespace Pk
open PySem PySem.Spec L2
def EqK {α : Type} (o : Option α) (A B : Prop) : Prop := match o with
 | some _ => A
 | none => B
section
variable {Q : Bool → Fr → Hh → Prop} {E : aP → Fr → Hh → Prop} {fr : Fr} {h : Hh} {mt : Nat → Option Fn} {i : Int} {b c : Bool} {z : Str} {l : List D}
end
end Pk
namespace Pk
open PySem PySem.Spec L2
section
variable {Q : Bool → Fr → Hh → Prop} {E : aP → Fr → Hh → Prop} {fr : Fr} {h : Hh} {mt : Nat → Option Fn} {nf : Nat → Nat}
theorem ah5 {x y : D} : Wp (Uh mt nf x y fr h) Q E = Op (Xn mt nf h x y) fun b => Q b fr h := by
 show Wq (Uh mt nf x y fr h) Q E = Oq (Xn mt nf h x y) fun b => Q b fr h
 unfold Uh
 exact iD
theorem aaK {α : Type} [DecidableEq α] {F : Fn} {c : Nat} {f : α → List D} (ht : mt c = some F) (hn : ∀ a, (f a).length = nf c) (he : ∀ a b, F [.obj c (f a), .obj c (f b)] h = .ok (.bl (decide (a = b))) [] h) (hs : ∀ a b, a ≠ b → D.sims (f a) (f b) = false) :
 ∀ l m : List α, xV mt nf h (l.map fun a => .obj c (f a)) (m.map fun a => .obj c (f a)) = some (decide (l = m))
 | [], [] => by simp [xV]
 | [], b :: m => by simp [xV]
 | a :: l, [] => by simp [xV]
 | a :: l, b :: m => by
   have e : pPair mt nf h (.obj c (f a)) (.obj c (f b)) = some (decide (a = b)) := by
    unfold pPair
    dsimp only
    rw [if_pos ⟨rfl, hn a, hn b⟩, ht]
    dsimp only
    rw [he]
    dsimp only
    rw [if_pos ⟨rfl, by
     by_cases hab : a = b
     · left; simp [hab]
     · right; exact hs a b hab⟩]
   simp only [an1, xV, e, Option.bind_some, aaK ht hn he hs l m]
   by_cases hab : a = b
   · simp [hab]
   · simp [hab]
theorem af0 {l m : List D} : Xn mt nf h (.tup l) (.tup m) = xV mt nf h l m := rfl
end
end Pk
namespace Pk
open PySem PySem.Spec L2
section
variable {Q : Fl → Fr → Hh → Prop} {E : aP → Fr → Hh → Prop} {fr : Fr} {h : Hh} {i : Nat} {cond : Nat → Option Bool} {mb : M Fl} {ms : aP → M Fl} {x : aP} {cs : List Hd}
end
end Pk
namespace Pk
open PySem PySem.Spec L2
end Pk
namespace Pk
open PySem PySem.Spec L2
section
variable {Q : Fl → Fr → Hh → Prop} {E : aP → Fr → Hh → Prop} {fr : Fr} {h : Hh} {c : Nat} {ma : M D}
end
end Pk
namespace Pk
open PySem PySem.Spec L2
section
variable {G : List D → Fr → Hh → Prop} {E : aP → Fr → Hh → Prop} {fr : Fr} {h : Hh} {ma mb : M D} {a b : D} {l m : List D}
end
end Pk
namespace Pk
open PySem PySem.Spec L2
def ant : List Int → Int
 | a :: r => acL a r
 | [] => 0
end Pk
namespace Pk
open PySem PySem.Spec L2
section
variable {L : Fl → Fr → Hh → Prop} {E : aP → Fr → Hh → Prop} {g : D → M Unit} {b : M Fl} {n : Nat} {l : List D} {fr : Fr} {h : Hh} {G : Nat × List D × List D → Fr → Hh → Prop} {li : M (Nat × List D × List D)} {ma mb : M D}
theorem Um : Wp (xW li g b fr h) L E = Wp (li fr h) (fun x fr h => Wp (uO x.1 x.2.1 g b x.2.2 fr h) L E) E := by
 show Wq (xW li g b fr h) L E = Wq (li fr h) (fun x fr h => Wq (uO x.1 x.2.1 g b x.2.2 fr h) L E) E
 unfold xW
 simp only [aZ]
theorem QG : Wp (Bg ma fr h) G E = Wp (ma fr h) (fun d fr h => Op ((vX h d).map fun x => (x.1, x.2, x.2)) fun x => G x fr h) E := by
 show Wq (Bg ma fr h) G E = Wq (ma fr h) (fun d fr h => Oq ((vX h d).map fun x => (x.1, x.2, x.2)) fun x => G x fr h) E
 unfold Bg
 simp only [aZ, iD]
theorem Jx (e : h[n]? = some (.nl l)) : vX h (.ref n) = some (n, l) := by
 unfold vX
 dsimp only
 rw [e]
theorem af1 (hc : h[n]? = some (.nl l)) : Wp (uO n l g b [] fr h) L E = L .nx fr h := by
 unfold uO
 rw [if_pos hc]
 exact cH
theorem af2 {d : D} {ds : List D} (hc : h[n]? = some (.nl l)) : Wp (uO n l g b (d :: ds) fr h) L E = Wp (g d fr h) (fun _ fr h => Wp (b fr h) (fun f fr h => Lg f (Wp (uO n l g b ds fr h) L E) fun f => L f fr h) E) nY := by
 rw [uO]
 dsimp only
 rw [if_pos hc]
 cases g d fr h with
 | ok u fr h =>
   rw [cH]
   dsimp only
   cases b fr h with
   | ok f fr h =>
     rw [cH]
     cases f with
     | nx => rw [jk]
     | ct => rw [QF]
     | brk => rw [RQ]; exact cH
     | rt d => rw [VB]; exact cH
   | exc x fr h => unfold Wp; rfl
   | err => unfold Wp; rfl
 | exc x fr h => unfold Wp nY; rfl
 | err => unfold Wp; rfl
theorem Xu {α : Type} {F : α → D} {xs : List α} (I : List α → Fr → Hh → Prop) (cell : ∀ pre fr h, I pre fr h → h[n]? = some (.nl l)) (i0 : I [] fr h)
 (st : ∀ pre a suf fr h, xs = pre ++ a :: suf → I pre fr h → Wp (g (F a) fr h) (fun _ fr h => Wp (b fr h) (fun f fr h => Lg f (I (pre ++ [a]) fr h) fun f => L f fr h) E) nY)
 (en : ∀ fr h, I xs fr h → L .nx fr h) : Wp (uO n l g b (xs.map F) fr h) L E := by
 have main : ∀ (suf pre : List α) (fr : Fr) (h : Hh), xs = pre ++ suf → I pre fr h → Wp (uO n l g b (suf.map F) fr h) L E := by
  intro suf
  induction suf with
  | nil =>
    intro pre fr h e i
    rw [aoa, af1 (cell pre fr h i)]
    rw [aob] at e
    subst e
    exact en fr h i
  | cons a suf ih =>
    intro pre fr h e i
    rw [an1, af2 (cell pre fr h i)]
    refine (st pre a suf fr h e i).mono fun _ fr1 h1 w => w.mono fun f fr2 h2 z => ?_
    have e' : xs = (pre ++ [a]) ++ suf := by rw [e, aoA]; rfl
    cases f with
    | nx => rw [jk] at z ⊢; exact ih _ _ _ e' z
    | ct => rw [QF] at z ⊢; exact ih _ _ _ e' z
    | brk => rw [RQ] at z ⊢; exact z
    | rt d => rw [VB] at z ⊢; exact z
 exact main xs [] fr h rfl i0
theorem ac3 {is : List Int} (hl : is.length < 64) : CZ h (.fl (is.map .int)) = some (.nl ((vU is).map .int)) := by
 have e : D.lints h (.fl (is.map .int)) = some is := Yj is
 unfold CZ
 rw [e]
 dsimp only
 rw [if_pos hl]
end
end Pk
namespace Pk
open PySem PySem.Spec L2
def JnK (d : D) (K : Str → Prop) : Prop := match d with
 | .str y => K y
 | _ => False
def AgK (d : D) (K : Int → Prop) : Prop := match d with
 | .int y => K y
 | _ => False
section
variable {α : Type} {Q : α → Fr → Hh → Prop} {S : D → Fr → Hh → Prop} {L : Fl → Fr → Hh → Prop} {G : Str → Fr → Hh → Prop} {E : aP → Fr → Hh → Prop} {fr : Fr} {h : Hh} {m ma mb : M D} {ml mh : M (Option Int)} {mt : Nat → Option Fn} {i : Nat} {ms : List (M D)} {acc : Str}
end
end Pk
namespace Pk
open PySem PySem.Spec L2
end Pk
namespace Pk
open PySem PySem.Spec L2
section
variable {h : Hh}
theorem zg {xs : List Int} : yC h (.nl (xs.map .int)) = some (.int xs.sum) := akq
theorem Wp.out {α : Type} {r : R α} {Q : α → Fr → Hh → Prop} (w : Wp r Q nY) : ∃ a fr h, r = .ok a fr h ∧ Q a fr h := by
 cases r with
 | ok a fr h => exact ⟨a, fr, h, rfl, w⟩
 | exc y fr1 h1 => exact (show False from w).elim
 | err => exact (show False from w).elim
end
end Pk
namespace Pk
open PySem PySem.Spec L2
section
variable {S : D → Fr → Hh → Prop} {E : aP → Fr → Hh → Prop} {fr : Fr} {h : Hh} {ma : M D} {mt : Nat → Option Fn}
end
end Pk
namespace Pk
open PySem PySem.Spec L2
def Oxq (o : Option (Fn × Bool)) (A B : Fn → Prop) : Prop := match o with
 | some (F, false) => A F
 | some (F, true) => B F
 | none => False
def OxK (o : Option (Fn × Bool)) (A B : Fn → Prop) (_ : Tn A B := ⟨⟩) : Prop := Oxq o A B
section
variable {S : D → Fr → Hh → Prop} {E : aP → Fr → Hh → Prop} {fr : Fr} {h : Hh} {ma mb : M D} {mtl mtr : Nat → Option Fn}
end
end Pk
namespace Pk
open PySem PySem.Spec L2
section
variable {S : D → Fr → Hh → Prop} {E : aP → Fr → Hh → Prop} {fr : Fr} {h : Hh} {mo ma : M D}
end
section
variable {α : Type} [DecidableEq α] {h : Hh} {x y : D} {a : α} {l : List α}
theorem ajE (A : Em α) : ((l.map A.f).any fun z => PyData.eqv z (A.f a)) = decide (a ∈ l) := by
 induction l with
 | nil => rfl
 | cons b l ih =>
   rw [an1, List.any_cons, ih, A.eq]
   by_cases e : b = a
   · subst e; simp
   · have e' : ¬ a = b := fun z => e z.symm
     simp [e, e']
theorem acv (A : Em α) (hx : x.toP = some (A.f a)) (hl : y.lstP h = some (l.map A.f)) (oa : A.ok a) (ol : ∀ b ∈ l, A.ok b) (hn : A.n + 1 ≤ 64) : Qw h x y = some (decide (a ∈ l)) := by
 unfold Qw
 rw [hx, hl]
 dsimp only
 rw [A.shaped oa (by omega), show SeqAt.shaped (.list (l.map A.f)) = true from A.list.shaped (a := l) ol hn, ajE A]
 rfl
theorem af3 (A : Em α) (hx : x.toP = some (A.f a)) (hl : y.lstP h = some (l.map A.f)) (oa : A.ok a) (ol : ∀ b ∈ l, A.ok b) (hn : A.n + 1 ≤ 64) : Vt h x y = some (!decide (a ∈ l)) := by
 unfold Vt
 rw [acv A hx hl oa ol hn]
 rfl
theorem ah6 (A : Em α) (hm : a ∈ l) : ((l.map A.f).findIdx? fun z => PyData.eqv z (A.f a)) = some (l.idxOf a) := by
 induction l with
 | nil => cases hm
 | cons b l ih =>
   rw [an1, List.findIdx?_cons, A.eq, List.idxOf_cons]
   by_cases e : b = a
   · subst e; simp
   · have hm' : a ∈ l := by
      rcases List.mem_cons.mp hm with q | q
      · exact absurd q.symm e
      · exact q
     rw [ih hm', show (b == a) = false from beq_eq_false_iff_ne.mpr e]
     simp [e]
theorem af4 (A : Em α) (hx : x.toP = some (A.f a)) (hl : y.lstP h = some (l.map A.f)) (oa : A.ok a) (ol : ∀ b ∈ l, A.ok b) (hn : A.n + 1 ≤ 64) (hm : a ∈ l) : vo h y x = some (.int (l.idxOf a : Nat)) := by
 unfold vo
 rw [hx, hl]
 dsimp only
 rw [A.shaped oa (by omega), show SeqAt.shaped (.list (l.map A.f)) = true from A.list.shaped (a := l) ol hn, ah6 A hm]
 rfl
theorem af5 {p : Nat} {g : α → D} (A : Em α) (e : h[p]? = some (.nl (l.map g))) (hg : ∀ a, (g a).toP = some (A.f a)) : (D.ref p).lstP h = some (l.map A.f) := by
 unfold D.lstP D.der
 dsimp only
 rw [e]
 exact wI A hg l
end
end Pk
namespace Pk
open PySem PySem.Spec L2
section
variable {Q : D → Fr → Hh → Prop} {S : List D → Fr → Hh → Prop} {E : aP → Fr → Hh → Prop} {fr : Fr} {h : Hh} {n : Nat} {l : List D} {vs : List Nat} {g : D → M Unit} {t : M Bool} {e : M D}
theorem aet {li : M (Nat × List D × List D)} : Wp (MP vs li g t e fr h) Q E = Wp (li fr h) (fun x fr h => x.2.2.length ≤ big ∧ Bx (dZ fr vs) fun fr => Wp (jC x.1 x.2.1 vs g t e x.2.2 fr h) (fun r fr h => Q (.nl r) fr h) E) E := by
 show Wq (MP vs li g t e fr h) Q E = Wq (li fr h) (fun x fr h => x.2.2.length ≤ big ∧ Bq (dZ fr vs) fun fr => Wq (jC x.1 x.2.1 vs g t e x.2.2 fr h) (fun r fr h => Q (.nl r) fr h) E) E
 unfold MP Gp Bq; rw [aZ]
 congr 1
 funext ds fr h
 rw [aZ, xX]
 split
 · rename_i hb; rw [aZ]; simp only [gJ, hb, true_and]
 · rename_i hb; rw [iD, jK]; simp only [hb, false_and]
theorem aaL (hc : h[n]? = some (.nl l)) : jC n l vs g t e [] fr h = .ok [] fr h := by unfold jC; rw [if_pos hc]
theorem QH {d : D} {ds : List D} {o : Option D} {r : List D} {fr1 fr2 : Fr} {h1 h2 : Hh} (hc : h[n]? = some (.nl l)) (e1 : fP vs g t e d fr h = .ok o fr1 h1) (e2 : jC n l vs g t e ds fr1 h1 = .ok r fr2 h2) : jC n l vs g t e (d :: ds) fr h = .ok (Cz o r) fr2 h2 := by
 rw [jC]
 dsimp only
 rw [if_pos hc, M.bind_ok e1, M.bind_ok e2]
 rfl
theorem aaM {α : Type} {F G : α → D} (hc : h[n]? = some (.nl l)) : ∀ {xs : List α}, (∀ a ∈ xs, fP vs g t e (F a) fr h = .ok (some (G a)) fr h) → jC n l vs g t e (xs.map F) fr h = .ok (xs.map G) fr h
 | [], _ => aaL hc
 | a :: xs, hh => by
   rw [an1, an1]
   exact QH hc (hh a aod) (aaM hc fun b hb => hh b (aok _ hb))
end
end Pk
namespace Pk
open PySem PySem.Spec L2
def anu (h : Hh) (ix : Nat → Option Nat) (o d : D) : Option Hh := match o with
 | .ref n => match h[n]? with
   | some (.no c fs) => match ix c with
     | some i => match sO i d fs with
       | some fs' => some (h.set n (.no c fs'))
       | none => none
     | none => none
   | _ => none
 | _ => none
section
variable {Q : D → Fr → Hh → Prop} {L : Fl → Fr → Hh → Prop} {U : Unit → Fr → Hh → Prop} {E : aP → Fr → Hh → Prop} {fr : Fr} {h : Hh} {mo mv : M D} {ms : List (M D)}
end
end Pk
namespace Pk
open PySem PySem.Spec L2
section
variable {E : aP → Fr → Hh → Prop} {fr : Fr} {h : Hh} {G : Nat × List D × List D → Fr → Hh → Prop} {ma : M D}
end
end Pk
namespace Pk
open PySem PySem.Spec L2
def anv (d : D) (K : Nat → Prop) : Prop := match d with
 | .ref n => K n
 | _ => False
def anw (d : D) (K : Nat → List D → Prop) : Prop := match d with
 | .no c fs => K c fs
 | _ => False
section
variable {S : D → Fr → Hh → Prop} {L : Fl → Fr → Hh → Prop} {A : List D → Fr → Hh → Prop} {E : aP → Fr → Hh → Prop} {fr : Fr} {h : Hh} {m mo mt : M D} {ma : M (List D)} {t : M Bool} {b : M Fl} {i j n : Nat}
def WhK (f : Fl) (again : Prop) (out : Fl → Prop) : Prop := match f with
 | .nx => again
 | .ct => again
 | .brk => out .nx
 | .rt d => out (.rt d)
end
end Pk
namespace Pk
open PySem PySem.Spec L2
section
variable {S : D → Fr → Hh → Prop} {A : List D → Fr → Hh → Prop} {E : aP → Fr → Hh → Prop} {fr : Fr} {h : Hh} {m mo : M D} {ma li : M (List D)} {ms : M Fl} {ds out : List D} {g : D → M Unit} {b c : List D → M (List D)}
end
end Pk
namespace Pk
open PySem PySem.Spec L2
section
variable {G : Nat × List D × List D → Fr → Hh → Prop} {E : aP → Fr → Hh → Prop} {fr : Fr} {h : Hh} {ma mb : M D} {n : Nat} {l : List D}
end
end Pk
namespace Pk
open PySem PySem.Spec L2 GenP
section
variable {A : List D → Fr → Hh → Prop} {L : Fl → Fr → Hh → Prop} {E : aP → Fr → Hh → Prop} {fr : Fr} {h : Hh} {mo : M D} {mc : M (List D)} {c nN : Nat} {b : Ck} {g : D → M Unit} {bm : M Fl}
end
end Pk
namespace Pk
open PySem PySem.Spec L2
section
variable {Q : D → Fr → Hh → Prop} {L : Fl → Fr → Hh → Prop} {E : aP → Fr → Hh → Prop} {fr : Fr} {h : Hh} {mo mk mv mz m : M D}
theorem ah7 : Wp (Vv fr h) Q E = Q (.ref h.length) fr (h ++ [.dk [] []]) := by
 unfold Vv
 exact cH
theorem ah8 : Wp (RK mo mk fr h) Q E = Wp (mo fr h) (fun o fr h => Wp (mk fr h) (fun k fr h => Op (MT h o k) fun z => Q z fr h) E) E := by
 show Wq (RK mo mk fr h) Q E = Wq (mo fr h) (fun o fr h => Wq (mk fr h) (fun k fr h => Oq (MT h o k) fun z => Q z fr h) E) E
 unfold RK
 simp only [aZ, iD]
theorem af6 : Wp (Ld mo fr h) Q E = Wp (mo fr h) (fun o fr h => Op (HS h o) fun z => Q z fr h) E := by
 show Wq (Ld mo fr h) Q E = Wq (mo fr h) (fun o fr h => Oq (HS h o) fun z => Q z fr h) E
 unfold Ld
 simp only [aZ, iD]
theorem af7 : Wp (La mo mk mz fr h) Q E = Wp (mo fr h) (fun o fr h => (cellE h o).isSome = true ∧ Wp (mk fr h) (fun k fr h => Wp (mz fr h) (fun z fr h => Op (Fe h o k z) fun z => Q z fr h) E) E) E := by
 show Wq (La mo mk mz fr h) Q E = Wq (mo fr h) (fun o fr h => (cellE h o).isSome = true ∧ Wq (mk fr h) (fun k fr h => Wq (mz fr h) (fun z fr h => Oq (Fe h o k z) fun z => Q z fr h) E) E) E
 unfold La
 rw [aZ]
 congr 1
 funext o fr h
 by_cases c : (cellE h o).isSome = true
 · rw [if_pos c]
   simp only [aZ, iD, c, true_and]
 · rw [if_neg c, lF, eq_iff_iff]
   exact ⟨False.elim, fun z => c z.1⟩
theorem ah9 : Wp (RL mo mk mv fr h) L E = Wp (mv fr h) (fun d fr h => Wp (mo fr h) (fun o fr h => Wp (mk fr h) (fun k fr h => Op (Ju h o k d) fun h' => L .nx fr h') E) E) E := by
 show Wq (RL mo mk mv fr h) L E = Wq (mv fr h) (fun d fr h => Wq (mo fr h) (fun o fr h => Wq (mk fr h) (fun k fr h => Oq (Ju h o k d) fun h' => L .nx fr h') E) E) E
 unfold RL
 rw [aZ]
 congr 1
 funext d fr h
 rw [aZ]
 congr 1
 funext o fr h
 rw [aZ]
 congr 1
 funext k fr h
 cases Ju h o k d with
 | some h' => dsimp only; rw [xX]; rfl
 | none => dsimp only; rw [lF]; rfl
theorem aeu {i : Nat} : Wp (GZ i m fr h) Q E = Wp (au i fr h) (fun o fr h => (o.lstP h).isSome = true ∧ Wp (m fr h) (fun x fr h => Wp (au i fr h) (fun o fr h => Op (vo h o x) fun z => Q z fr h) E) E) E := by
 show Wq (GZ i m fr h) Q E = Wq (au i fr h) (fun o fr h => (o.lstP h).isSome = true ∧ Wq (m fr h) (fun x fr h => Wq (au i fr h) (fun o fr h => Oq (vo h o x) fun z => Q z fr h) E) E) E
 unfold GZ
 rw [aZ]
 congr 1
 funext o fr h
 by_cases c : (o.lstP h).isSome = true
 · rw [if_pos c]
   simp only [aZ, iD, c, true_and]
 · rw [if_neg c, lF, eq_iff_iff]
   exact ⟨False.elim, fun z => c z.1⟩
theorem aev {n : Nat} {ks : List Key} {ds : List D} (e : h[n]? = some (.dk ks ds)) : cellE h (.ref n) = some (n, ks, ds) := by
 unfold cellE
 dsimp only
 rw [e]
end
end Pk
namespace L
open PySem PySem.Spec L2 Pk GenP
noncomputable section
def fld : Nat → List Str
 | 0 => ["readings", "start", "counts", "restarts", "tails", "lost"]
 | 1 => ["readings", "instances"]
 | 2 => []
 | _ => []
abbrev T (K : PySem.W.Frag) : Tb := Tbo cn fld K
def bG : Nat → Option Nat := fun c => aoi c [(0, 0), (1, 0)]
def cP : Nat → Option Nat := fun c => aoi c [(1, 1)]
def eO : Nat → Option Nat := fun c => aoi c [(0, 1)]
def dM : Nat → Option Nat := fun c => aoi c [(0, 2)]
def fG : Nat → Option Nat := fun c => aoi c [(0, 3)]
def lZ : Nat → Option Nat := fun c => aoi c [(0, 4)]
def pZ : Nat → Option Nat := fun c => aoi c [(0, 5)]
def mD : Tg → Tg → Option Bool := acO [((.b "NoneType", .o 0), false), ((.b "bool", .o 0), false), ((.b "int", .o 0), false), ((.b "str", .o 0), false), ((.b "tuple", .o 0), false), ((.b "list", .o 0), false), ((.b "NoneType", .o 1), false), ((.b "bool", .o 1), false), ((.b "int", .o 1), false), ((.b "str", .o 1), false), ((.b "tuple", .o 1), false), ((.b "list", .o 1), false), ((.o 0, .b "bool"), false), ((.o 0, .b "int"), false), ((.o 0, .b "str"), false), ((.o 0, .b "tuple"), false), ((.o 0, .b "list"), false), ((.o 0, .o 0), true), ((.o 0, .o 1), false), ((.o 1, .b "bool"), false), ((.o 1, .b "int"), false), ((.o 1, .b "str"), false), ((.o 1, .b "tuple"), false), ((.o 1, .b "list"), false), ((.o 1, .o 0), false), ((.o 1, .o 1), true)]
def al0 : Tg → Tg → Option Bool := akV []
def v4 : M Fl :=
    (az (bA 3 (Ad (aC cGe (aA TV (aa 2)) (aC W9 (mC (.int 10)) (mC (.int 18)))) (aA TV (aa 2)) (mC (.int 0))))
    (aV (fJ [(aa 3), (aX (aC bR (aX (aC bR (aC W8 (aA sH (aa 2)) (mC (.int 2147483629))) (aC Pg (mC (.int 15485863)) (aa 1)))) (mC (.int 7919)))), (mC (.int 0))])))
def wj : M Fl :=
    (az (bA 2 (Ad (aC NZ (aa 1) (aA bW (au 0))) (bM 0 (aa 1) bT) (mC (.int 0))))
    v4)
def nO : Fn := bO 4 wj
def oO : M Fl :=
    (bD (aC G8 (aA (bB bG) (au 3)) (au 1))
    (fun fr h => .exc ⟨2, []⟩ fr h)
    (M.ret .nx))
def oR : M Fl :=
    (az (nu 0 bG (aa 1))
    (nu 0 cP (aA rC (au 2))))
def nZ : M Fl :=
    (az (dJ (iU (aa 2)) (aK 3) oO)
    oR)
def dw : Fn := runI 1 4 nZ
def qd : M Fl :=
    (az (bA 2 (aC bR (aA (bB cP) (au 0)) (aA (bB cP) (au 1))))
    (aV (Jq 1 dw (aa 2) (ak [(aA (bB bG) (au 0))]))))
def pF : M Fl :=
    (az (bD (aC G8 (aA (bB bG) (au 0)) (aA (bB bG) (au 1)))
    (fun fr h => .exc ⟨2, []⟩ fr h)
    (M.ret .nx))
    qd)
def lH : Fn := bO 3 pF
def dh : M Fl :=
    (bD (Hf (aC NZ (bM 0 (aa 3) bT) (bM 0 (aC qp (aa 3) (mC (.int 1))) bT)) (aC TJ (aC qp (aX (aC bR (aa 1) (aa 3))) (mC (.int 1))) (au 2)))
    (aV (mC (.bl true)))
    (M.ret .nx))
def gY : M Fl :=
    (az (dJ (DK (mC (.int 1)) (aA bW (au 0))) (aK 3) dh)
    (aV (mC (.bl false))))
def g8 : Fn := bO 4 gY
def HX : M Fl :=
    (aV (jN (aC (rG mD) (aa 0) (mC (.ty "int"))) (acI (aC (rG mD) (aa 0) (mC (.ty "bool"))))))
def j5 : Fn := bO 1 HX
def Bo : D → M Unit :=
    (aK 2)
def Bp : M Bool :=
    (fY (cD (aA D.tru (aG 1 0 j5 (aD []) (ak [(aa 2)]) (ak [])))) (aC NZ (aa 2) (mC (.int 0))))
def Jy : M D :=
    (aa 2)
def HY : M Fl :=
    (az (bD (fY (cD (aA D.tru (aC (rG mD) (aa 0) (ig [(mC (.ty "list")), (mC (.ty "tuple"))])))) (cD (dB Ax Ax (mC (.int 1)) (aA bW (au 0)) (aa 1))))
    (aV (mC (.bl false)))
    (M.ret .nx))
    (aV (aC (fun h x y => (fL h x y).map .bl) (aA bW (km [2] (iU (aa 0)) Bo Bp Jy)) (mC (.int 0)))))
def Br : Fn := bO 3 HY
def jL : M Fl :=
    (bD (fY (cD (aA D.tru (aG 1 0 j5 (aD []) (ak [(aa 2)]) (ak [])))) (Hf (aC Va (aa 1) (mC (.int 0))) (aC Ax (aa 2) (bM 0 (aC qp (aa 1) (mC (.int 1))) bT))))
    (aV (mC (.bl false)))
    (M.ret .nx))
def yV : M Fl :=
    (az (dJ (Gq (aa 0)) (gM 2 (bu (aK 1) (bu (aK 2) il))) jL)
    (aV (mC (.bl true))))
def yD : M Fl :=
    (az (bD (cD (aA D.tru (aC (rG mD) (aa 0) (ig [(mC (.ty "list")), (mC (.ty "tuple"))]))))
    (aV (mC (.bl false)))
    (M.ret .nx))
    yV)
def oH : Fn := bO 3 yD
def wL : M Fl :=
    (aV (jN (aX (aG 1 0 oH (aD []) (ak [(aa 0)]) (ak []))) (Xb (aC (fun h x y => (fL h x y).map .bl) (aA bW (au 0)) (mC (.int 0))) (jN (aC (fun h x y => (Ax h x y).map .bl) (aa 1) (bM 0 (mC (.int 0)) bT)) (aC (fun h x y => (Ax h x y).map .bl) (bM 0 (aA (fun _ => Cv) (mC (.int 1))) bT) (aa 2))))))
def oU : Fn := bO 3 wL
def De : M Fl :=
    (bD (fY (cD (aA D.tru (aC (rG mD) (aa 2) (ig [(mC (.ty "list")), (mC (.ty "tuple"))])))) (fY (aC G8 (aA bW (au 2)) (mC (.int 2))) (fY (cD (aA D.tru (aG 1 0 j5 (aD []) (ak [(bM 2 (mC (.int 1)) bT)]) (ak [])))) (aC NZ (bM 2 (mC (.int 1)) bT) (mC (.int 1))))))
    (aV (mC (.bl false)))
    (M.ret .nx))
def Df : D → M Unit :=
    (aK 2)
def Dg : M Bool :=
    (M.ret true)
def Dh : M D :=
    (bM 2 (mC (.int 0)) bT)
def Di : D → M Unit :=
    (aK 4)
def Dj : M Bool :=
    (aC TJ (aa 4) (au 1))
def Lj : M D :=
    (aa 4)
def Lk : M Fl :=
    (az (bA 3 (km [2] (iU (aa 0)) Df Dg Dh))
    (aV (jN (aX (aG 1 0 oH (aD []) (ak [(aa 3)]) (ak []))) (aC (fun h x y => (fL h x y).map .bl) (aA bW (km [4] (iU (aa 3)) Di Dj Lj)) (mC (.int 0))))))
def Ln : M Fl :=
    (az (dJ (iU (aa 0)) (aK 2) De)
    Lk)
def J5 : M Fl :=
    (az (bD (cD (aA D.tru (aC (rG mD) (aa 0) (ig [(mC (.ty "list")), (mC (.ty "tuple"))]))))
    (aV (mC (.bl false)))
    (M.ret .nx))
    Ln)
def Eb : Fn := bO 5 J5
def dO : M Fl :=
    (az (bD (cD (aA D.tru (aG 3 0 oU (aD []) (ak [(aa 5), (aa 2), (aa 6)]) (ak []))))
    (aV (mC (.str "lost")))
    (M.ret .nx))
    (aV (mC .non)))
def dR : M Fl :=
    (az (bD (cD (aA D.tru (aG 2 0 Eb (aD []) (ak [(aa 4), (aa 7)]) (ak []))))
    (aV (mC (.str "tails")))
    (M.ret .nx))
    dO)
def fj : M Fl :=
    (az (bD (aC NZ (aa 6) (aC qp (aa 1) (mC (.int 1))))
    (eE (fH 7 (aa 6)))
    (M.ret .nx))
    dR)
def kE : M Fl :=
    (az (bA 7 (aA gh (au 3)))
    fj)
def rN : M Fl :=
    (az (bD (aA D.tru (aG 3 0 g8 (aD []) (ak [(aa 0), (aa 2), (aa 3)]) (ak [])))
    (aV (mC (.str "falls")))
    (M.ret .nx))
    kE)
def kJ : M Fl :=
    (az (bD (cD (aA D.tru (aG 3 0 oU (aD []) (ak [(aa 3), (aa 2), (aC qp (aa 6) (mC (.int 1)))]) (ak []))))
    (aV (mC (.str "restarts")))
    (M.ret .nx))
    rN)
def kW : M Fl :=
    (az (bA 6 (aC qp (aX (aC bR (aa 2) (aA bW (au 0)))) (mC (.int 1))))
    kJ)
def kY : M Fl :=
    (az (bD (cD (aA D.tru (aG 2 0 Br (aD []) (ak [(aa 0), (aC qp (aa 1) (aa 2))]) (ak []))))
    (aV (mC (.str "counts")))
    (M.ret .nx))
    kW)
def kZ : M Fl :=
    (az (bD (fY (cD (aA D.tru (aG 1 0 j5 (aD []) (ak [(aa 2)]) (ak [])))) (cD (dB Ax NZ (mC (.int 0)) (aa 2) (aa 1))))
    (aV (mC (.str "start")))
    (M.ret .nx))
    kY)
def tQ : M Fl :=
    (az (bD (fY (cD (aA D.tru (aG 1 0 j5 (aD []) (ak [(aa 1)]) (ak [])))) (cD (dB Ax Ax (mC (.int 2)) (aa 1) (mC (.int 4)))))
    (aV (mC (.str "readings")))
    (M.ret .nx))
    kZ)
def zH : Fn := bO 8 tQ
def jF : D → M Unit :=
    (gM 2 (bu (aK 8) (bu (aK 9) il)))
def jG : M Bool :=
    (M.ret true)
def jH : M D :=
    (ig [(aa 8), (aa 9)])
def sW : M Fl :=
    (az (nu 0 lZ (aA rC (km [8, 9] (iU (aa 5)) jF jG jH)))
    (nu 0 pZ (aA rC (au 6))))
def sX : M Fl :=
    (az (nu 0 fG (aA rC (au 4)))
    sW)
def sY : M Fl :=
    (az (nu 0 dM (aA rC (au 1)))
    sX)
def tD : M Fl :=
    (az (nu 0 eO (aa 3))
    sY)
def tE : M Fl :=
    (az (nu 0 bG (aa 2))
    tD)
def tG : M Fl :=
    (az (bD (aC ZC (aa 7) (mC .non))
    (fun _ _ => .err)
    (M.ret .nx))
    tE)
def qM : M Fl :=
    (az (bA 7 (aG 6 0 zH (aD []) (ak [(aa 1), (aa 2), (aa 3), (aa 4), (aa 5), (aa 6)]) (ak [])))
    tG)
def fU : Fn := runI 0 10 qM
def J8 : M Fl :=
    (aV (aG 1 5 fU (Hm [0, 1, 2, 3, 4] []) (ak [(aX (aA gh (bM 0 (mC (.int 1)) bT)))]) (ak [(aa 1), (bM 0 (mC (.int 0)) bT), (aX (aA gh (bM 0 (mC (.int 2)) bT))), (aX (aA gh (bM 0 (mC (.int 3)) bT))), (aX (aA gh (bM 0 (mC (.int 4)) bT)))])))
def qO : Fn := bO 2 J8
def Bt : Nat → Option Fn := fun c => aoi c [(1, lH)]
def uP : M Fl :=
    (bA 2 (Xi Bt (aa 2) (aX (aG 1 1 dw tW (ak [(aX (aG 2 0 qO (aD []) (ak [(aa 3), (aa 1)]) (ak [])))]) (ak [(aa 1)])))))
def uQ : M Fl :=
    (az (xW (Bg (aa 0)) (aK 3) uP)
    (aV (sG 2)))
def vC : M Fl :=
    (az (bA 2 (aG 0 1 dw tW (ak []) (ak [(aa 1)])))
    uQ)
def qY : Fn := bO 4 vC
def Dk : M Fl :=
    (az (bA 3 (aC W8 (aA sH (aC W9 (aX (aC bR (aa 3) (aC Pg (mC (.int 49979687)) (bM 0 (mC (.int 2)) bT)))) (mC (.int 2)))) (mC (.int 2305843009213693951))))
    (aV (aC W8 (aA sH (aC ae3 (aa 3) (mC (.int 4096)))) (aa 1))))
def Dm : M Fl :=
    (az (bA 3 (aC W8 (aA sH (aC W9 (aX (aC bR (bM 0 (mC (.int 1)) bT) (aC Pg (mC (.int 32452843)) (bM 0 (mC (.int 2)) bT)))) (mC (.int 3)))) (mC (.int 2305843009213693921))))
    Dk)
def Do : M Fl :=
    (az (Vh 0 (aX (aC bR (bM 0 (mC (.int 2)) bT) (mC (.int 1)))) (mC (.int 2)))
    Dm)
def Ec : M Fl :=
    (az (bD (aC Va (bM 0 (mC (.int 0)) bT) (mC (.int 0)))
    (az (bA 2 (aC W8 (aA sH (bM 0 (mC (.int 0)) bT)) (aa 1)))
    (az (Vh 0 (aC ae3 (bM 0 (mC (.int 0)) bT) (aa 1)) (mC (.int 0)))
    (aV (sG 2))))
    (M.ret .nx))
    Do)
def bV : Fn := bO 4 Ec
def zJ : M Fl :=
    (eE (fH 1 (aC qp (aA sH (aC (fun h x y => (Va h x y).map .bl) (aa 3) (aa 4))) (aA sH (aC (fun h x y => (NZ h x y).map .bl) (aa 3) (aa 4))))))
def zK : M Fl :=
    (dJ (iU (aX (bM 0 (wY Px (KH (aa 2))) uX))) (aK 4) zJ)
def zL : M Fl :=
    (az (dJ (Gq (aa 0)) (gM 2 (bu (aK 2) (bu (aK 3) il))) zK)
    (aV (sG 1)))
def Bu : M Fl :=
    (az (bA 1 (fJ []))
    zL)
def yE : Fn := bO 5 Bu
def Ib : M Fl :=
    (aV (ig [(aA (bB eO) (au 0)), (aA bW (aA (bB dM) (au 0))), (aA (bB fG) (au 0)), (aA (bB pZ) (au 0)), (aX (aG 1 0 yE (aD []) (ak [(aA (bB dM) (au 0))]) (ak [])))]))
def Dq : Fn := bO 1 Ib
def uR : M Fl :=
    (RL (aa 1) (aa 3) (aX (aC bR (La (aa 1) (aa 3) (mC (.int 0))) (aa 4))))
def uU : M Fl :=
    (dJ (iU (aA (bB lZ) (au 2))) (gM 2 (bu (aK 3) (bu (aK 4) il))) uR)
def qF : D → M Unit :=
    (aK 3)
def qG : M Bool :=
    (M.ret true)
def qH : M D :=
    (ig [(aa 3), (RK (aa 1) (aa 3))])
def uV : M Fl :=
    (az (xW (Bg (aa 0)) (aK 2) uU)
    (aV (km [3] (iU (aX (aA CZ (Ld (aa 1))))) qF qG qH)))
def vD : M Fl :=
    (az (bA 1 Vv)
    uV)
def qZ : Fn := bO 5 vD
def zj : D → M Unit :=
    (aK 4)
def zm : M Bool :=
    (M.ret true)
def zp : M D :=
    (aC bT (aA (bB dM) (au 4)) (aa 3))
def zq : D → M Unit :=
    (aK 3)
def zr : M Bool :=
    (M.ret true)
def zu : M D :=
    (aA yC (MP [4] (Bg (aa 0)) zj zm zp))
def Ed : M Fl :=
    (az (bA 2 (km [3] (oK (aA bW (aA (bB dM) (au 1)))) zq zr zu))
    (aV (aG 1 5 fU (Hm [0, 1, 2, 3, 4] []) (ak [(aa 2)]) (ak [(aA (bB bG) (au 1)), (aA (bB eO) (au 1)), (aA (bB fG) (au 1)), (aX (aG 1 0 qZ (aD []) (ak [(aa 0)]) (ak []))), (aA (bB pZ) (au 1))]))))
def Ie : M Fl :=
    (az (bA 1 (bM 0 (mC (.int 0)) bT))
    Ed)
def Dr : Fn := bO 5 Ie
def j6 : M Fl :=
    (az (bA 4 (aG 1 0 Dq (aD []) (ak [(aa 3)]) (ak [])))
    (bD (aC Qw (aa 4) (au 1))
    (eE (Rx (bM 2 (GZ 1 (aa 4)) bT) (aa 3)))
    (az (eE (fH 1 (aa 4)))
    (eE (fH 2 (DP (fJ [(aa 3)])))))))
def iH : D → M Unit :=
    (aK 6)
def iI : M Bool :=
    (M.ret true)
def iJ : M D :=
    (aX (aG 1 0 Dr (aD []) (ak [(aa 6)]) (ak [])))
def oV : M Fl :=
    (az (bA 5 (km [6] (iU (aa 2)) iH iI iJ))
    (aV (Jq 1 dw (aa 5) (ak [(aA (bB bG) (au 0))]))))
def oW : M Fl :=
    (az (dJ (iU (aA (bB cP) (au 0))) (aK 3) j6)
    oV)
def oX : M Fl :=
    (az (bA 2 (fJ []))
    oW)
def oh : M Fl :=
    (az (bA 1 (fJ []))
    oX)
def jV : Fn := bO 7 oh
def pG : M Fl :=
    (aV (aA bW (aA (bB cP) (au 0))))
def lJ : Fn := bO 1 pG
def qj : M Fl :=
    (az (bA 2 (jN (aC (fun h x y => (fL h x y).map .bl) (aA (bB bG) (au 0)) (aA (bB bG) (au 1))) (jN (aC (fun h x y => (fL h x y).map .bl) (aA (bB eO) (au 0)) (aA (bB eO) (au 1))) (aC (fun h x y => (fL h x y).map .bl) (aA (bB dM) (au 0)) (aA (bB dM) (au 1))))))
    (aV (jN (aa 2) (jN (aC (fun h x y => (fL h x y).map .bl) (aA (bB fG) (au 0)) (aA (bB fG) (au 1))) (jN (aC (fun h x y => (fL h x y).map .bl) (aA (bB lZ) (au 0)) (aA (bB lZ) (au 1))) (aC (fun h x y => (fL h x y).map .bl) (aA (bB pZ) (au 0)) (aA (bB pZ) (au 1))))))))
def pH : M Fl :=
    (az (bD (cD (aA D.tru (aC (rG mD) (aa 1) (mC (.cls 0)))))
    (aV (mC (.bl false)))
    (M.ret .nx))
    qj)
def jm : Fn := bO 3 pH
def rO : M Fl :=
    (az (bD (fY (cD (aA D.tru (aG 1 0 j5 (aD []) (ak [(aa 1)]) (ak [])))) (cD (dB Ax NZ (mC (.int 0)) (aa 1) (aA bW (aA (bB cP) (au 0))))))
    (fun _ _ => .err)
    (M.ret .nx))
    (aV (sG 1)))
def rP : Fn := bO 2 rO
def Ig : Nat → Option Fn := fun c => aoi c [(1, rP)]
def j7 : M Fl :=
    (aV (aC bT (aA (bB cP) (au 0)) (aX (yt 1 0 Ig (aD []) (aa 0) (ak [(aa 1)]) (ak [])))))
def iK : Fn := bO 2 j7
def ou : Nat → Option Fn := fun c => aoi c [(1, lJ)]
def d8 : Nat → Option Fn := fun c => aoi c [(0, jm)]
def jW : Nat → Nat := fun c => (aoi c [(0, 6)]).getD 0
def jJ : Nat → Option Fn := fun c => aoi c [(1, iK)]
def pJ : D → M Unit :=
    (aK 3)
def pK : M Bool :=
    (cD (Gf (Qp d8 (fun b => b)) (aX (RG jJ (aa 0) (aa 3))) (aX (aG 2 0 qO (aD []) (ak [(bM 1 (aa 3) bT), (aa 2)]) (ak [])))))
def ye : M D :=
    (aa 3)
def ue : M Fl :=
    (az (bD (fY (cD (aA D.tru (aC (rG mD) (aa 0) (mC (.cls 1))))) (fY (aC G8 (aA (bB bG) (au 0)) (au 2)) (aC G8 (RD ou (aa 0)) (aA bW (au 1)))))
    (aV (mC (.bl false)))
    (M.ret .nx))
    (aV (aC (fun h x y => (fL h x y).map .bl) (aX (km [3] (oK (aA bW (au 1))) pJ pK ye)) (fJ []))))
def jO : Fn := bO 4 ue
def qI : M Fl :=
    (az (bD (cD (aA D.tru (aC (rG mD) (aa 1) (mC (.cls 1)))))
    (aV (mC (.bl false)))
    (M.ret .nx))
    (aV (jN (aC (fun h x y => (fL h x y).map .bl) (aA (bB bG) (au 0)) (aA (bB bG) (au 1))) (Vb (Gf (Uh d8 jW) (aA (bB cP) (au 0)) (aA (bB cP) (au 1)))))))
def nJ : Fn := bO 2 qI
def uf : M Fl :=
    (aV (aC qp (aX (aC bR (aA (bB eO) (au 0)) (aA bW (aA (bB dM) (au 0))))) (mC (.int 1))))
def ql : Fn := bO 1 uf
def Ih : Nat → Option Fn := fun c => aoi c [(0, ql)]
def jn : D → M Unit :=
    (gM 2 (bu (aK 5) (bu (aK 6) il)))
def jr : M Bool :=
    (aC fL (aa 5) (au 1))
def jt : M D :=
    (aa 6)
def mF : M Fl :=
    (az (bD (fY (aC Pr (aa 1) (aA (bB fG) (au 0))) (cD (aA D.tru (au 3))))
    (aV (aC bR (aa 2) (aa 4)))
    (M.ret .nx))
    (aV (aC qp (aa 4) (aC bT (aA (bB dM) (au 0)) (aC qp (aa 1) (aA (bB eO) (au 0)))))))
def mG : M Fl :=
    (az (bA 4 (aC bT (aA (bB dM) (au 0)) (aC qp (aX (aC bR (aa 1) (mC (.int 1)))) (aA (bB eO) (au 0)))))
    mF)
def mH : M Fl :=
    (az (bD (cD (dB Ax Ax (aA (bB eO) (au 0)) (aX (aC bR (aa 1) (mC (.int 1)))) (aX (xf Ih (aa 0)))))
    (aV (sG 2))
    (M.ret .nx))
    mG)
def mJ : M Fl :=
    (az (bA 3 (Vb (dB Ax Ax (aA (bB eO) (au 0)) (aa 1) (aX (xf Ih (aa 0))))))
    mH)
def lK : M Fl :=
    (az (bA 2 (aA yC (km [5, 6] (iU (aA (bB lZ) (au 0))) jn jr jt)))
    mJ)
def jc : Fn := bO 7 lK
def yf : Nat → Option Fn := fun c => aoi c [(0, jc)]
def lL : D → M Unit :=
    (aK 1)
def lM : M Bool :=
    (M.ret true)
def lN : M D :=
    (aX (yt 1 0 yf (aD []) (aa 0) (ak [(aa 1)]) (ak [])))
def pM : M Fl :=
    (aV (aA rC (km [1] (oK (aC qp (aA (bB bG) (au 0)) (mC (.int 1)))) lL lM lN)))
def ju : Fn := bO 2 pM
def oA : Nat → Option Fn := fun c => aoi c [(0, ju)]
def mK : D → M Unit :=
    (aK 2)
def mO : M Bool :=
    (M.ret true)
def mQ : M D :=
    (aX (xf oA (aa 2)))
def mU : D → M Unit :=
    (aK 4)
def mV : M Bool :=
    (M.ret true)
def mW : M D :=
    (bM 4 (aa 3) bT)
def mX : D → M Unit :=
    (aK 3)
def mY : M Bool :=
    (M.ret true)
def mZ : M D :=
    (aA yC (km [4] (iU (aa 1)) mU mV mW))
def qJ : M Fl :=
    (az (bA 1 (km [2] (iU (aA (bB cP) (au 0))) mK mO mQ))
    (aV (aA rC (km [3] (oK (aC qp (aA (bB bG) (au 0)) (mC (.int 1)))) mX mY mZ))))
def nM : Fn := bO 5 qJ
def Aj : M Fl :=
    (aV (bM 1 (aX (aG 2 0 bV (aD []) (ak [(aa 0), (aA bW (au 1))]) (ak []))) bT))
def nQ : Fn := bO 2 Aj
def Gg : M Fl :=
    (aV (aG 2 0 bV (aD []) (ak [(aa 0), (aX (aG 2 0 nQ (aD []) (ak [(aa 0), (aX (fJ [(mC (.int 2)), (mC (.int 2)), (mC (.int 3)), (mC (.int 3)), (mC (.int 5)), (mC (.int 100)), (aC W9 (mC (.int 10)) (mC (.int 9))), (aC W9 (mC (.int 10)) (mC (.int 30)))]))]) (ak [])))]) (ak [])))
def qw : Fn := bO 1 Gg
def yF : M Fl :=
    (bD (aC fL (aX (aG 2 0 bV (aD []) (ak [(aa 0), (mC (.int 3))]) (ak []))) (mC (.int 0)))
    (az (eE (fH 4 (aC qp (aX (aC bR (aa 2) (aa 8))) (mC (.int 1)))))
    (eE (fH 7 (aX (aG 1 0 qw (aD []) (ak [(aa 0)]) (ak []))))))
    (eE (fH 7 (aX (aC bR (bM 7 (aA (fun _ => Cv) (mC (.int 1))) bT) (aX (aG 1 0 qw (aD []) (ak [(aa 0)]) (ak []))))))))
def yG : M Fl :=
    (bD (aC fL (aX (aG 2 0 bV (aD []) (ak [(aa 0), (mC (.int 2))]) (ak []))) (mC (.int 0)))
    (eE (fH 5 (ig [(aa 10), (aX (aC bR (mC (.int 1)) (aX (aG 1 0 qw (aD []) (ak [(aa 0)]) (ak [])))))])))
    (M.ret .nx))
def yH : M Fl :=
    (bD (aC fL (aX (aG 2 0 bV (aD []) (ak [(aa 0), (mC (.int 4))]) (ak []))) (mC (.int 0)))
    (eE (fH 6 (aa 8)))
    (M.ret .nx))
def yI : M Fl :=
    (az (dJ (DK (aa 2) (aX (aC bR (aa 2) (aa 3)))) (aK 8) yH)
    (aV (ig [(aa 2), (aa 7), (aa 4), (aa 5), (aa 6)])))
def Ds : M Fl :=
    (az (dJ (iU (aa 9)) (aK 10) yG)
    yI)
def vG : M Fl :=
    (az (bA 9 (Ad (aC NZ (aX (aC bR (aa 2) (aa 3))) (aa 1)) (aC bR (aa 4) (aX (fJ [(aC qp (aX (aC bR (aa 2) (aa 3))) (mC (.int 1)))]))) (aA gh (au 4))))
    Ds)
def yJ : M Fl :=
    (az (dJ (DK (mC (.int 1)) (aa 3)) (aK 8) yF)
    vG)
def yK : M Fl :=
    (az (bA 7 (fJ [(aX (aG 1 0 qw (aD []) (ak [(aa 0)]) (ak [])))]))
    yJ)
def Dt : M Fl :=
    (az (bD (aC fL (aX (aG 2 0 bV (aD []) (ak [(aa 0), (mC (.int 2))]) (ak []))) (mC (.int 1)))
    (az (bA 2 (aG 2 0 bV (aD []) (ak [(aa 0), (aa 1)]) (ak [])))
    (bA 3 (aC bR (mC (.int 1)) (aX (aG 2 0 bV (aD []) (ak [(aa 0), (aC qp (aa 1) (aa 2))]) (ak []))))))
    (M.ret .nx))
    yK)
def Eh : M Fl :=
    (az (Zk [2, 3, 4, 5, 6] (ak [(mC (.int 0)), (aa 1), (fJ []), (fJ []), (fJ [])]))
    Dt)
def qP : Fn := bO 11 Eh
def ug : D → M Unit :=
    (aK 7)
def uh : M Bool :=
    (M.ret true)
def ul : M D :=
    (aC Pg (aa 7) (aa 1))
def uo : D → M Unit :=
    (gM 2 (bu (aK 8) (bu (aK 9) il)))
def uv : M Bool :=
    (M.ret true)
def uw : M D :=
    (ig [(aa 8), (aC Pg (aa 9) (aa 1))])
def yg : M Fl :=
    (az (Fw (aa 0) (gM 5 (bu (aK 2) (bu (aK 3) (bu (aK 4) (bu (aK 5) (bu (aK 6) il)))))))
    (aV (ig [(aa 2), (aX (km [7] (iU (aa 3)) ug uh ul)), (aa 4), (aX (km [8, 9] (iU (aa 5)) uo uv uw)), (aa 6)])))
def rQ : Fn := bO 10 yg
def xj : M Fl :=
    (az (bD (aC fL (aa 7) (mC (.int 0)))
    (aV (ig [(aa 2), (aX (aC bR (aX (bM 3 (wY Px (KH (aA (fun _ => Cv) (mC (.int 1))))) uX)) (aX (fJ [(aX (aC bR (aX (aC bR (bM 3 (aA (fun _ => Cv) (mC (.int 1))) bT) (mC (.int 1)))) (aX (aG 2 0 bV (aD []) (ak [(aa 0), (mC (.int 3))]) (ak [])))))])))), (aa 4), (aa 5), (aa 6)]))
    (M.ret .nx))
    (aV (Ad (aC fL (aa 7) (mC (.int 1))) (ig [(aa 2), (aa 3), (aa 4), (aX (bM 5 (wY (KH (mC (.int 1))) Px) uX)), (aa 6)]) (ig [(aa 2), (aa 3), (aa 4), (aa 5), (aX (bM 6 (wY (KH (mC (.int 1))) Px) uX))]))))
def xm : M Fl :=
    (az (bA 7 (aG 2 0 bV (aD []) (ak [(aa 0), (mC (.int 3))]) (ak [])))
    xj)
def yh : M Fl :=
    (az (Fw (aa 1) (gM 5 (bu (aK 2) (bu (aK 3) (bu (aK 4) (bu (aK 5) (bu (aK 6) il)))))))
    xm)
def m7 : Fn := bO 8 yh
def zM : M Fl :=
    (eE (fH 6 (Ad (aC fL (aa 7) (au 8)) (mC (.int 0)) (Ad (aC Va (aa 7) (aa 8)) (mC (.int 1)) (mC (.int 2))))))
def zN : M Fl :=
    (dJ (iU (aa 2)) (aK 8) zM)
def zP : M Fl :=
    (az (dJ (iU (aa 2)) (aK 7) zN)
    (aV (fJ [(aa 1), (aA bW (au 2)), (aa 3), (aa 5), (aa 6)])))
def zQ : M Fl :=
    (az (bA 6 (fJ []))
    zP)
def Bv : M Fl :=
    (az (Fw (aa 0) (gM 5 (bu (aK 1) (bu (aK 2) (bu (aK 3) (bu (aK 4) (bu (aK 5) il)))))))
    zQ)
def oY : Fn := bO 9 Bv
def ux : D → M Unit :=
    (aK 11)
def uz : M Bool :=
    (M.ret true)
def uA : M D :=
    (aC bT (bM 11 (mC (.int 1)) bT) (aa 12))
def uB : D → M Unit :=
    (aK 12)
def uC : M Bool :=
    (M.ret true)
def uD : M D :=
    (aA yC (km [11] (iU (aa 0)) ux uz uA))
def uE : D → M Unit :=
    (gM 2 (bu (aK 13) (bu (aK 14) il)))
def uF : M Bool :=
    (aC fL (aa 13) (au 9))
def uG : M D :=
    (aa 14)
def v5 : M Fl :=
    (bA 10 (aC bR (aa 10) (aA yC (km [13, 14] (iU (bM 11 (mC (.int 3)) bT)) uE uF uG))))
def v7 : M Fl :=
    (az (bA 10 (mC (.int 0)))
    (az (dJ (iU (aa 0)) (aK 11) v5)
    (bD (aC Va (aa 10) (mC (.int 0)))
    (eE (fH 8 (ig [(aa 9), (aa 10)])))
    (M.ret .nx))))
def xq : M Fl :=
    (az (dJ (oK (aa 1)) (aK 9) v7)
    (aV (ig [(aa 2), (aa 7), (aa 4), (aa 8), (aa 6)])))
def xr : M Fl :=
    (az (bA 8 (fJ []))
    xq)
def xF : M Fl :=
    (az (bA 7 (km [12] (oK (aA bW (au 3))) uB uC uD))
    xr)
def yj : M Fl :=
    (az (Fw (bM 0 (mC (.int 0)) bT) (gM 5 (bu (aK 2) (bu (aK 3) (bu (aK 4) (bu (aK 5) (bu (aK 6) il)))))))
    xF)
def vH : Fn := bO 15 yj
def zR : M Fl :=
    (bD (aC Vt (aX (aG 1 0 oY (aD []) (ak [(aa 3)]) (ak []))) (au 2))
    (eE (fH 2 (aX (aG 1 0 oY (aD []) (ak [(aa 3)]) (ak [])))))
    (M.ret .nx))
def wk : D → M Unit :=
    (aK 3)
def wu : M Bool :=
    (aC fL (aX (aG 1 0 oY (aD []) (ak [(aa 3)]) (ak []))) (au 5))
def wy : M D :=
    (aa 3)
def zU : M Fl :=
    (eE (fH 4 (aX (aG 2 0 vH (aD []) (ak [(aX (MP [3] (Bg (aa 0)) wk wu wy)), (aa 1)]) (ak [])))))
def zV : M Fl :=
    (az (dJ (iU (aa 2)) (aK 5) zU)
    (aV (sG 4)))
def zW : M Fl :=
    (az (bA 4 (fJ []))
    zV)
def zX : M Fl :=
    (az (xW (Bg (aa 0)) (aK 3) zR)
    zW)
def Bw : M Fl :=
    (az (bA 2 (fJ []))
    zX)
def yL : Fn := bO 6 Bw
def jw : Nat → Option Fn := fun c => aoi c [(1, nM)]
def ir : Nat → Option Fn := fun c => aoi c [(1, jV)]
def lO : Nat → Option Fn := fun c => aoi c [(1, nJ)]
def Ei : M Fl :=
    (az (bD (fY (aC fL (aa 6) (mC (.int 1))) (aC fL (aa 6) (mC (.int 2))))
    (eE (fH 4 (aX (aG 2 0 rQ (aD []) (ak [(aX (aG 2 0 nQ (aD []) (ak [(aa 2), (aa 4)]) (ak []))), (aX (aC bR (mC (.int 1)) (aX (aG 2 0 bV (aD []) (ak [(aa 2), (mC (.int 4))]) (ak [])))))]) (ak [])))))
    (M.ret .nx))
    (bD (aC fL (aa 6) (mC (.int 3)))
    (eE (fH 4 (aX (aG 2 0 m7 (aD []) (ak [(aa 2), (aX (aG 2 0 nQ (aD []) (ak [(aa 2), (aa 4)]) (ak [])))]) (ak [])))))
    (M.ret .nx)))
def Ek : M Fl :=
    (az (bD (aC fL (aa 6) (mC (.int 0)))
    (eE (fH 4 (aX (aG 2 0 qP (aD []) (ak [(aa 2), (aa 3)]) (ak [])))))
    (M.ret .nx))
    Ei)
def Aa : M Fl :=
    (az (bA 6 (Ad (aC aaA (aa 4) (fJ [])) (aG 2 0 bV (aD []) (ak [(aa 2), (mC (.int 4))]) (ak [])) (mC (.int 0))))
    Ek)
def El : M Fl :=
    (az (bD (fY (cD (aA D.tru (aG 3 0 jO (aD []) (ak [(aa 8), (aX (aG 2 0 yL (aD []) (ak [(aa 4), (aa 3)]) (ak []))), (aa 3)]) (ak [])))) (cD (aA D.tru (aG 3 0 jO (aD []) (ak [(aa 7), (aa 4), (aa 3)]) (ak [])))))
    (aV (mC (.bl false)))
    (M.ret .nx))
    (bD (fY (cD (Gf (Qp lO (fun b => b)) (aX (yt 0 0 ir (aD []) (aa 8) (ak []) (ak []))) (aa 8))) (aC G8 (aX (xf jw (aa 8))) (xf jw (aa 7))))
    (aV (mC (.bl false)))
    (M.ret .nx)))
def En : M Fl :=
    (az (bA 8 (yt 0 0 ir (aD []) (aa 7) (ak []) (ak [])))
    El)
def wM : M Fl :=
    (az (bA 7 (aG 2 0 qY (aD []) (ak [(aa 4), (aa 3)]) (ak [])))
    En)
def Eo : M Fl :=
    (az (dJ (oK (aX (aG 2 0 bV (aD []) (ak [(aa 2), (mC (.int 12))]) (ak [])))) (aK 5) Aa)
    wM)
def Ep : M Fl :=
    (az (bA 4 (DP (fJ [])))
    Eo)
def Es : M Fl :=
    (az (bA 3 (aC bR (mC (.int 2)) (aX (aG 2 0 bV (aD []) (ak [(aa 2), (mC (.int 3))]) (ak [])))))
    Ep)
def Jz : M Fl :=
    (az (bA 2 (DP (aG 2 0 nO (aD []) (ak [(aa 0), (aa 1)]) (ak []))))
    Es)
def ac4 : M Fl :=
    (az (dJ (oK (aC Vc (mC (.int 1)) (aC Vd (mC (.int 12)) (aA bW (au 0))))) (aK 1) Jz)
    (aV (mC (.bl true))))
def ac5 : Fn := bO 9 ac4
end
end L
namespace L
open PySem PySem.Spec L2 Pk GenP
section
variable {P : Program} {w : World} {K : PySem.W.Frag} {mg : Str → Option Value} {base : Heap} [hp_ : PF P]
theorem Yp (c : aW K) (Y : K.In base) (G : base.Ns mainGlobals mg) : mg "Unlike" = some (.ref (He.ga K "Unlike")) := He.glo_ok Y G (c.fact 7 (f := .he (.glo "Unlike")) rfl)
theorem yM (c : aW K) (Y : K.In base) (G : base.Ns mainGlobals mg) : mg "History" = some (.ref (He.ga K "History")) := He.glo_ok Y G (c.fact 9 (f := .he (.glo "History")) rfl)
theorem tR (c : aW K) (Y : K.In base) (G : base.Ns mainGlobals mg) : mg "is_integer" = some (.ref (He.ga K "is_integer")) := He.glo_ok Y G (c.fact 14 (f := .he (.glo "is_integer")) rfl)
theorem JB (c : aW K) (Y : K.In base) (G : base.Ns mainGlobals mg) : mg "is_ascending" = some (.ref (He.ga K "is_ascending")) := He.glo_ok Y G (c.fact 16 (f := .he (.glo "is_ascending")) rfl)
theorem YD (c : aW K) (Y : K.In base) (G : base.Ns mainGlobals mg) : mg "are_counts" = some (.ref (He.ga K "are_counts")) := He.glo_ok Y G (c.fact 17 (f := .he (.glo "are_counts")) rfl)
theorem QJ (c : aW K) (Y : K.In base) (G : base.Ns mainGlobals mg) : mg "is_inside" = some (.ref (He.ga K "is_inside")) := He.glo_ok Y G (c.fact 18 (f := .he (.glo "is_inside")) rfl)
theorem Ii (c : aW K) (Y : K.In base) (G : base.Ns mainGlobals mg) : mg "falls_without_restart" = some (.ref (He.ga K "falls_without_restart")) := He.glo_ok Y G (c.fact 19 (f := .he (.glo "falls_without_restart")) rfl)
theorem aaN (c : aW K) (Y : K.In base) (G : base.Ns mainGlobals mg) : mg "are_tails" = some (.ref (He.ga K "are_tails")) := He.glo_ok Y G (c.fact 20 (f := .he (.glo "are_tails")) rfl)
theorem Xv (c : aW K) (Y : K.In base) (G : base.Ns mainGlobals mg) : mg "first_fault" = some (.ref (He.ga K "first_fault")) := He.glo_ok Y G (c.fact 21 (f := .he (.glo "first_fault")) rfl)
theorem J9 (c : aW K) (Y : K.In base) (G : base.Ns mainGlobals mg) : mg "Instance" = some (.ref (He.ga K "Instance")) := He.glo_ok Y G (c.fact 22 (f := .he (.glo "Instance")) rfl)
theorem QK (c : aW K) (Y : K.In base) (G : base.Ns mainGlobals mg) : mg "_law_made" = some (.ref (He.ga K "_law_made")) := He.glo_ok Y G (c.fact 23 (f := .he (.glo "_law_made")) rfl)
theorem abo (c : aW K) (Y : K.In base) (G : base.Ns mainGlobals mg) : mg "order_of" = some (.ref (He.ga K "order_of")) := He.glo_ok Y G (c.fact 24 (f := .he (.glo "order_of")) rfl)
theorem VH (c : aW K) (Y : K.In base) (G : base.Ns mainGlobals mg) : mg "summed_tails" = some (.ref (He.ga K "summed_tails")) := He.glo_ok Y G (c.fact 27 (f := .he (.glo "summed_tails")) rfl)
theorem aew (c : aW K) (Y : K.In base) (G : base.Ns mainGlobals mg) : mg "way_of" = some (.ref (He.ga K "way_of")) := He.glo_ok Y G (c.fact 28 (f := .he (.glo "way_of")) rfl)
theorem aex (c : aW K) (Y : K.In base) (G : base.Ns mainGlobals mg) : mg "joined" = some (.ref (He.ga K "joined")) := He.glo_ok Y G (c.fact 29 (f := .he (.glo "joined")) rfl)
theorem fV (c : aW K) (Y : K.In base) (G : base.Ns mainGlobals mg) : mg "_law_draw" = some (.ref (He.ga K "_law_draw")) := He.glo_ok Y G (c.fact 30 (f := .he (.glo "_law_draw")) rfl)
theorem M6 (c : aW K) (Y : K.In base) (G : base.Ns mainGlobals mg) : mg "_law_of" = some (.ref (He.ga K "_law_of")) := He.glo_ok Y G (c.fact 31 (f := .he (.glo "_law_of")) rfl)
theorem yN (c : aW K) (Y : K.In base) (G : base.Ns mainGlobals mg) : mg "_law_number" = some (.ref (He.ga K "_law_number")) := He.glo_ok Y G (c.fact 32 (f := .he (.glo "_law_number")) rfl)
theorem Ka (c : aW K) (Y : K.In base) (G : base.Ns mainGlobals mg) : mg "_law_way" = some (.ref (He.ga K "_law_way")) := He.glo_ok Y G (c.fact 33 (f := .he (.glo "_law_way")) rfl)
theorem YF (c : aW K) (Y : K.In base) (G : base.Ns mainGlobals mg) : mg "_law_added" = some (.ref (He.ga K "_law_added")) := He.glo_ok Y G (c.fact 34 (f := .he (.glo "_law_added")) rfl)
theorem Xw (c : aW K) (Y : K.In base) (G : base.Ns mainGlobals mg) : mg "_law_source" = some (.ref (He.ga K "_law_source")) := He.glo_ok Y G (c.fact 37 (f := .he (.glo "_law_source")) rfl)
theorem aaO (c : aW K) (Y : K.In base) (G : base.Ns mainGlobals mg) : mg "_law_life" = some (.ref (He.ga K "_law_life")) := He.glo_ok Y G (c.fact 38 (f := .he (.glo "_law_life")) rfl)
theorem YG (c : aW K) (Y : K.In base) (G : base.Ns mainGlobals mg) : mg "_law_times" = some (.ref (He.ga K "_law_times")) := He.glo_ok Y G (c.fact 39 (f := .he (.glo "_law_times")) rfl)
theorem YH (c : aW K) (Y : K.In base) (G : base.Ns mainGlobals mg) : mg "_law_moved" = some (.ref (He.ga K "_law_moved")) := He.glo_ok Y G (c.fact 40 (f := .he (.glo "_law_moved")) rfl)
theorem VJ (c : aW K) (Y : K.In base) (G : base.Ns mainGlobals mg) : mg "_law_history" = some (.ref (He.ga K "_law_history")) := He.glo_ok Y G (c.fact 41 (f := .he (.glo "_law_history")) rfl)
theorem abp (c : aW K) (Y : K.In base) (G : base.Ns mainGlobals mg) : mg "_law_due" = some (.ref (He.ga K "_law_due")) := He.glo_ok Y G (c.fact 42 (f := .he (.glo "_law_due")) rfl)
theorem Ij (c : aW K) (Y : K.In base) (G : base.Ns mainGlobals mg) : mg "_law_as_lives" = some (.ref (He.ga K "_law_as_lives")) := He.glo_ok Y G (c.fact 43 (f := .he (.glo "_law_as_lives")) rfl)
theorem lQ (c : aW K) (Y : K.In base) (G : base.Ns mainGlobals mg) : mg "len" = none := He.free_ok Y G (c.fact 3 (f := .he (.free "len")) rfl)
theorem aey (c : aW K) (Y : K.In base) (G : base.Ns mainGlobals mg) : mg "abs" = none := He.free_ok Y G (c.fact 4 (f := .he (.free "abs")) rfl)
theorem Fj (c : aW K) (Y : K.In base) (G : base.Ns mainGlobals mg) : mg "int" = none := He.free_ok Y G (c.fact 5 (f := .he (.free "int")) rfl)
theorem aaP (c : aW K) (Y : K.In base) (G : base.Ns mainGlobals mg) : mg "super" = none := He.free_ok Y G (c.fact 6 (f := .he (.free "super")) rfl)
theorem rR (c : aW K) (Y : K.In base) (G : base.Ns mainGlobals mg) : mg "tuple" = none := He.free_ok Y G (c.fact 8 (f := .he (.free "tuple")) rfl)
theorem rW (c : aW K) (Y : K.In base) (G : base.Ns mainGlobals mg) : mg "range" = none := He.free_ok Y G (c.fact 10 (f := .he (.free "range")) rfl)
theorem kh (c : aW K) (Y : K.In base) (G : base.Ns mainGlobals mg) : mg "isinstance" = none := He.free_ok Y G (c.fact 11 (f := .he (.free "isinstance")) rfl)
theorem aia (c : aW K) (Y : K.In base) (G : base.Ns mainGlobals mg) : mg "bool" = none := He.free_ok Y G (c.fact 12 (f := .he (.free "bool")) rfl)
theorem vK (c : aW K) (Y : K.In base) (G : base.Ns mainGlobals mg) : mg "list" = none := He.free_ok Y G (c.fact 13 (f := .he (.free "list")) rfl)
theorem QL (c : aW K) (Y : K.In base) (G : base.Ns mainGlobals mg) : mg "enumerate" = none := He.free_ok Y G (c.fact 15 (f := .he (.free "enumerate")) rfl)
theorem aez (c : aW K) (Y : K.In base) (G : base.Ns mainGlobals mg) : mg "sorted" = none := He.free_ok Y G (c.fact 25 (f := .he (.free "sorted")) rfl)
theorem QM (c : aW K) (Y : K.In base) (G : base.Ns mainGlobals mg) : mg "sum" = none := He.free_ok Y G (c.fact 26 (f := .he (.free "sum")) rfl)
theorem ajF (c : aW K) (Y : K.In base) (G : base.Ns mainGlobals mg) : mg "min" = none := He.free_ok Y G (c.fact 35 (f := .he (.free "min")) rfl)
theorem ajG (c : aW K) (Y : K.In base) (G : base.Ns mainGlobals mg) : mg "max" = none := He.free_ok Y G (c.fact 36 (f := .he (.free "max")) rfl)
theorem fW (c : aW K) {X : Cx} (hK : X.K = K) : Mp X (T K) "readings" bG := by
 subst hK
 exact ⟨cX (Q := fun c _ => Cls X.K ((T X.K).cad c)) (.cons (He.cls_ok (c.fact 44 (f := .he (.cls "Instance")) rfl)) (.cons (He.cls_ok (c.fact 46 (f := .he (.cls "History")) rfl)) .nil)),
  cX (Q := fun c _ => NoAttr X.K ((T X.K).cad c) "readings") (.cons (He.noat_ok (c.fact 45 (f := .he (.noat "Instance" "readings")) rfl)) (.cons (He.noat_ok (c.fact 47 (f := .he (.noat "History" "readings")) rfl)) .nil)),
  cX (Q := fun c _ => ((T X.K).fld c).Nodup ∧ ((T X.K).fld c).length < 1000) (.cons ⟨(by show (fld 0).Nodup; decide +kernel), (by show (fld 0).length < 1000; decide)⟩ (.cons ⟨(by show (fld 1).Nodup; decide +kernel), (by show (fld 1).length < 1000; decide)⟩ .nil)),
  cX (Q := fun (c i : Nat) => ((T X.K).fld c)[i]? = some (("readings" : Str))) (.cons rfl (.cons rfl .nil))⟩
theorem j8 (c : aW K) {X : Cx} (hK : X.K = K) : Mp X (T K) "instances" cP := by
 subst hK
 exact ⟨cX (Q := fun c _ => Cls X.K ((T X.K).cad c)) (.cons (He.cls_ok (c.fact 46 (f := .he (.cls "History")) rfl)) .nil),
  cX (Q := fun c _ => NoAttr X.K ((T X.K).cad c) "instances") (.cons (He.noat_ok (c.fact 48 (f := .he (.noat "History" "instances")) rfl)) .nil),
  cX (Q := fun c _ => ((T X.K).fld c).Nodup ∧ ((T X.K).fld c).length < 1000) (.cons ⟨(by show (fld 1).Nodup; decide +kernel), (by show (fld 1).length < 1000; decide)⟩ .nil),
  cX (Q := fun (c i : Nat) => ((T X.K).fld c)[i]? = some (("instances" : Str))) (.cons rfl .nil)⟩
theorem uK (c : aW K) {X : Cx} (hK : X.K = K) : Mp X (T K) "start" eO := by
 subst hK
 exact ⟨cX (Q := fun c _ => Cls X.K ((T X.K).cad c)) (.cons (He.cls_ok (c.fact 44 (f := .he (.cls "Instance")) rfl)) .nil),
  cX (Q := fun c _ => NoAttr X.K ((T X.K).cad c) "start") (.cons (He.noat_ok (c.fact 49 (f := .he (.noat "Instance" "start")) rfl)) .nil),
  cX (Q := fun c _ => ((T X.K).fld c).Nodup ∧ ((T X.K).fld c).length < 1000) (.cons ⟨(by show (fld 0).Nodup; decide +kernel), (by show (fld 0).length < 1000; decide)⟩ .nil),
  cX (Q := fun (c i : Nat) => ((T X.K).fld c)[i]? = some (("start" : Str))) (.cons rfl .nil)⟩
theorem qQ (c : aW K) {X : Cx} (hK : X.K = K) : Mp X (T K) "counts" dM := by
 subst hK
 exact ⟨cX (Q := fun c _ => Cls X.K ((T X.K).cad c)) (.cons (He.cls_ok (c.fact 44 (f := .he (.cls "Instance")) rfl)) .nil),
  cX (Q := fun c _ => NoAttr X.K ((T X.K).cad c) "counts") (.cons (He.noat_ok (c.fact 50 (f := .he (.noat "Instance" "counts")) rfl)) .nil),
  cX (Q := fun c _ => ((T X.K).fld c).Nodup ∧ ((T X.K).fld c).length < 1000) (.cons ⟨(by show (fld 0).Nodup; decide +kernel), (by show (fld 0).length < 1000; decide)⟩ .nil),
  cX (Q := fun (c i : Nat) => ((T X.K).fld c)[i]? = some (("counts" : Str))) (.cons rfl .nil)⟩
theorem wN (c : aW K) {X : Cx} (hK : X.K = K) : Mp X (T K) "restarts" fG := by
 subst hK
 exact ⟨cX (Q := fun c _ => Cls X.K ((T X.K).cad c)) (.cons (He.cls_ok (c.fact 44 (f := .he (.cls "Instance")) rfl)) .nil),
  cX (Q := fun c _ => NoAttr X.K ((T X.K).cad c) "restarts") (.cons (He.noat_ok (c.fact 51 (f := .he (.noat "Instance" "restarts")) rfl)) .nil),
  cX (Q := fun c _ => ((T X.K).fld c).Nodup ∧ ((T X.K).fld c).length < 1000) (.cons ⟨(by show (fld 0).Nodup; decide +kernel), (by show (fld 0).length < 1000; decide)⟩ .nil),
  cX (Q := fun (c i : Nat) => ((T X.K).fld c)[i]? = some (("restarts" : Str))) (.cons rfl .nil)⟩
theorem Ik (c : aW K) {X : Cx} (hK : X.K = K) : Mp X (T K) "tails" lZ := by
 subst hK
 exact ⟨cX (Q := fun c _ => Cls X.K ((T X.K).cad c)) (.cons (He.cls_ok (c.fact 44 (f := .he (.cls "Instance")) rfl)) .nil),
  cX (Q := fun c _ => NoAttr X.K ((T X.K).cad c) "tails") (.cons (He.noat_ok (c.fact 52 (f := .he (.noat "Instance" "tails")) rfl)) .nil),
  cX (Q := fun c _ => ((T X.K).fld c).Nodup ∧ ((T X.K).fld c).length < 1000) (.cons ⟨(by show (fld 0).Nodup; decide +kernel), (by show (fld 0).length < 1000; decide)⟩ .nil),
  cX (Q := fun (c i : Nat) => ((T X.K).fld c)[i]? = some (("tails" : Str))) (.cons rfl .nil)⟩
theorem Lp (c : aW K) {X : Cx} (hK : X.K = K) : Mp X (T K) "lost" pZ := by
 subst hK
 exact ⟨cX (Q := fun c _ => Cls X.K ((T X.K).cad c)) (.cons (He.cls_ok (c.fact 44 (f := .he (.cls "Instance")) rfl)) .nil),
  cX (Q := fun c _ => NoAttr X.K ((T X.K).cad c) "lost") (.cons (He.noat_ok (c.fact 53 (f := .he (.noat "Instance" "lost")) rfl)) .nil),
  cX (Q := fun c _ => ((T X.K).fld c).Nodup ∧ ((T X.K).fld c).length < 1000) (.cons ⟨(by show (fld 0).Nodup; decide +kernel), (by show (fld 0).length < 1000; decide)⟩ .nil),
  cX (Q := fun (c i : Nat) => ((T X.K).fld c)[i]? = some (("lost" : Str))) (.cons rfl .nil)⟩
theorem za (c : aW K) : Xe K (T K) mD := adS (.b (gR (c.fact 73 (f := .kit (.b "NoneType") (.o 0) false) rfl)) (.b (gR (c.fact 74 (f := .kit (.b "bool") (.o 0) false) rfl)) (.b (gR (c.fact 75 (f := .kit (.b "int") (.o 0) false) rfl)) (.b (gR (c.fact 76 (f := .kit (.b "str") (.o 0) false) rfl)) (.b (gR (c.fact 77 (f := .kit (.b "tuple") (.o 0) false) rfl)) (.b (gR (c.fact 78 (f := .kit (.b "list") (.o 0) false) rfl)) (.b (gR (c.fact 79 (f := .kit (.b "NoneType") (.o 1) false) rfl)) (.b (gR (c.fact 80 (f := .kit (.b "bool") (.o 1) false) rfl)) (.b (gR (c.fact 81 (f := .kit (.b "int") (.o 1) false) rfl)) (.b (gR (c.fact 82 (f := .kit (.b "str") (.o 1) false) rfl)) (.b (gR (c.fact 83 (f := .kit (.b "tuple") (.o 1) false) rfl)) (.b (gR (c.fact 84 (f := .kit (.b "list") (.o 1) false) rfl)) (.o (gR (c.fact 85 (f := .kit (.o 0) (.b "bool") false) rfl)) (tV (c.fact 71 (f := .ins "Instance") rfl)) (.o (gR (c.fact 86 (f := .kit (.o 0) (.b "int") false) rfl)) (tV (c.fact 71 (f := .ins "Instance") rfl)) (.o (gR (c.fact 87 (f := .kit (.o 0) (.b "str") false) rfl)) (tV (c.fact 71 (f := .ins "Instance") rfl)) (.o (gR (c.fact 88 (f := .kit (.o 0) (.b "tuple") false) rfl)) (tV (c.fact 71 (f := .ins "Instance") rfl)) (.o (gR (c.fact 89 (f := .kit (.o 0) (.b "list") false) rfl)) (tV (c.fact 71 (f := .ins "Instance") rfl)) (.o (gR (c.fact 90 (f := .kit (.o 0) (.o 0) true) rfl)) (tV (c.fact 71 (f := .ins "Instance") rfl)) (.o (gR (c.fact 91 (f := .kit (.o 0) (.o 1) false) rfl)) (tV (c.fact 71 (f := .ins "Instance") rfl)) (.o (gR (c.fact 92 (f := .kit (.o 1) (.b "bool") false) rfl)) (tV (c.fact 72 (f := .ins "History") rfl)) (.o (gR (c.fact 93 (f := .kit (.o 1) (.b "int") false) rfl)) (tV (c.fact 72 (f := .ins "History") rfl)) (.o (gR (c.fact 94 (f := .kit (.o 1) (.b "str") false) rfl)) (tV (c.fact 72 (f := .ins "History") rfl)) (.o (gR (c.fact 95 (f := .kit (.o 1) (.b "tuple") false) rfl)) (tV (c.fact 72 (f := .ins "History") rfl)) (.o (gR (c.fact 96 (f := .kit (.o 1) (.b "list") false) rfl)) (tV (c.fact 72 (f := .ins "History") rfl)) (.o (gR (c.fact 97 (f := .kit (.o 1) (.o 0) false) rfl)) (tV (c.fact 72 (f := .ins "History") rfl)) (.o (gR (c.fact 98 (f := .kit (.o 1) (.o 1) true) rfl)) (tV (c.fact 72 (f := .ins "History") rfl)) .nil))))))))))))))))))))))))))
theorem Kc {K : PySem.W.Frag} : NfF (T K) d8 jW := ⟨cX (Q := fun c _ => ((T K).fld c).length = jW c) (.cons (show (fld 0).length = jW 0 by rfl) .nil)⟩
theorem Cm (c : aW K) {X : Cx} (hK : X.K = K) : EqF X.K (T K) d8 := by
 subst hK
 exact ⟨cX (.cons (ad2 (adQ (c.fact 67 (f := .raw (fun K => eqX K (He.ga K "Instance"))) rfl))) .nil)⟩
theorem QQ (c : aW K) {X : Cx} (hK : X.K = K) : EqF X.K (T K) lO := by
 subst hK
 exact ⟨cX (.cons (ad2 (adQ (c.fact 68 (f := .raw (fun K => eqX K (He.ga K "History"))) rfl))) .nil)⟩
theorem Yq (c : aW K) : Pk.ExC P K (T K) 2 (Yi K) := aiP (c.fact 66 (f := .own "Unlike" (PySem.Str.ofString "/claim/cut.py") []) rfl) rfl rfl (c.wrote 0 (d := xT) rfl) rfl rfl ad1 ad0 rfl rfl (by decide +kernel) hp_.f hp_.t
theorem Uo (c : aW K) (Y : K.In base) (G : base.Ns mainGlobals mg) : Does P w K mg base (T K) 0 N6 "_law_source" (defScope tH) (defBody tH) wj := by
 intro f cdv A outer s H E C
 exact (aJ (rE C 2 (s_if (dD cmp_lt (aj 1) (lX (bf 0) (lQ c Y G))) (dN 0 (aj 1)) aH))
  (aJ (rE C 3 (s_if (dD cmp_ge (adD (aj 2) (aey c Y G)) (Pn aH aH)) (adD (aj 2) (aey c Y G)) aH))
  (aR (s_ret (lA (aq (aj 3) (aq (bH (gA (bH (gA (Pj (Cy (aj 2) (Fj c Y G)) aH) (Ph aH (aj 1)))) aH)) (aq aH aU))))))))
theorem Xx (c : aW K) (Y : K.In base) (G : base.Ns mainGlobals mg) : ∃ fd : FuncData, iw P w K mg base (T K) 1 (FP.adr K) fd FJ nO ∧ Bn K (T K) fd FJ 2 [] (aD []) := by
 obtain ⟨fd, F⟩ := c.def_ 1 (d := FP) rfl
 exact ⟨fd, ⟨fn_sim F Xj (Uo c Y G), F.kp⟩, (eU (FunD.bindsN F fun _ _ _ _ _ _ us hl => match us, hl with | [_, _], _ => (by kernel_rfl)))⟩
theorem Kd (c : aW K) (Y : K.In base) (G : base.Ns mainGlobals mg) : Does P w K mg base (T K) 0 Ci "History.__init__" (defScope jR) (defBody jR) nZ := by
 intro f cdv A outer s H E C
 exact (aJ (sJ C (jh (aj 2)) (bh C 3)
  (aR (fu (dD (KD C) (bY (fW c rfl) (bf 3)) (bf 1))
  (aR (aaa C (Yq (P := P) c) rfl (fun _ => trivial) (aaP c Y G) (Yp c Y G)))
  dW)))
  (aJ (xH 0 (fW c rfl) (aj 1))
  (aR (xH 0 (j8 c rfl) (zY (bf 2) (rR c Y G))))))
theorem v8 (c : aW K) (Y : K.In base) (G : base.Ns mainGlobals mg) : ∃ fd : FuncData, FnS P w K mg base (T K) 1 1 (wQ.adr K) 3 ["readings"] dw := by
 obtain ⟨fd, F⟩ := c.def_ 2 (d := wQ) rfl
 exact ⟨fd, ag6 (p0 := "self") (pv := "instances") (ks := ["readings"]) 1 F (He.mkr_ok (c.fact 69 (f := .he (.mkr "History")) rfl)) Ms (Kd c Y G) (fun _ _ _ _ _ _ _ ur ws hl => match ur, ws, hl with | [], [_], _ => (by kernel_rfl) | _ :: _, [_], _ => (by kernel_rfl))⟩
theorem Lq (c : aW K) (Y : K.In base) (G : base.Ns mainGlobals mg) : Does P w K mg base (T K) 2 Ez "History.__add__" (defScope lB) (defBody lB) pF := by
 obtain ⟨fd_History____init__, F_History____init__⟩ := v8 (P := P) (w := w) c Y G
 intro f cdv A outer s H E C
 exact (aJ (fu (dD (KD C) (bY (fW c rfl) (bf 0)) (d9 (bY (fW c rfl) (bf 1))))
  (aR (aaa C (Yq (P := P) c) rfl (fun _ => trivial) (aaP c Y G) (Yp c Y G)))
  dW)
  (aJ (lW C 2 (gA (bY (j8 c rfl) (bf 0)) (bY (j8 c rfl) (bf 1))))
  (aR (s_ret (S9 C F_History____init__ rfl (by decide) (yM c Y G) (aj 2) (pQ (bY (fW c rfl) (bf 0)) KN))))))
theorem Ou (c : aW K) (Y : K.In base) (G : base.Ns mainGlobals mg) : ∃ fd : FuncData, iw P w K mg base (T K) 3 (xK.adr K) fd xJ lH ∧ Bn K (T K) fd xJ 2 [] (aD []) := by
 obtain ⟨fd, F⟩ := c.def_ 3 (d := xK) rfl
 exact ⟨fd, ⟨fn_sim F Ol (Lq c Y G), F.kp⟩, (eU (FunD.bindsN F fun _ _ _ _ _ _ us hl => match us, hl with | [_, _], _ => (by kernel_rfl)))⟩
theorem Gh (c : aW K) (Y : K.In base) (G : base.Ns mainGlobals mg) : Does P w K mg base (T K) 0 yO "falls_without_restart" (defScope gU) (defBody gU) gY := by
 intro f cdv A outer s H E C
 exact (aJ (sJ C (Xc aH (lX (bf 0) (lQ c Y G)) (rW c Y G)) (bh C 3)
  (aR (fu (wX (ady (dD cmp_lt (dN 0 (aj 3)) (dN 0 (pq (aj 3) aH))) (abW (dD (abV) (pq (bH (gA (aj 1) (aj 3))) aH) (bf 2)))))
  (aR (s_ret (dG wW)))
  dW)))
  (aR (s_ret (dG wW))))
theorem Il (c : aW K) (Y : K.In base) (G : base.Ns mainGlobals mg) : ∃ fd : FuncData, iw P w K mg base (T K) 1 (sV.adr K) fd sU g8 ∧ Bn K (T K) fd sU 3 [] (aD []) := by
 obtain ⟨fd, F⟩ := c.def_ 4 (d := sV) rfl
 exact ⟨fd, ⟨fn_sim F Hn (Gh c Y G), F.kp⟩, (eU (FunD.bindsN F fun _ _ _ _ _ _ us hl => match us, hl with | [_, _, _], _ => (by kernel_rfl)))⟩
theorem VL (c : aW K) (Y : K.In base) (G : base.Ns mainGlobals mg) : Does P w K mg base (T K) 0 Qc "is_integer" (defScope u5) (defBody u5) HX := by
 intro f cdv A outer s H E C
 exact (aR (s_ret (dG (yX (Ay (za c) (aj 0) (DQ (t := "int") (Fj c Y G)) (kh c Y G)) (Ew (ait (Ay (za c) (aj 0) (DQ (t := "bool") (aia c Y G)) (kh c Y G))))))))
theorem wz (c : aW K) (Y : K.In base) (G : base.Ns mainGlobals mg) : ∃ fd : FuncData, iw P w K mg base (T K) 1 (Hq.adr K) fd Ho j5 ∧ Bn K (T K) fd Ho 1 [] (aD []) := by
 obtain ⟨fd, F⟩ := c.def_ 5 (d := Hq) rfl
 exact ⟨fd, ⟨fn_sim F Yx (VL c Y G), F.kp⟩, (eU (FunD.bindsN F fun _ _ _ _ _ _ us hl => match us, hl with | [_], _ => (by kernel_rfl)))⟩
theorem VM (c : aW K) (Y : K.In base) (G : base.Ns mainGlobals mg) : Does P w K mg base (T K) 1 Qe "are_counts" (defScope u6) (defBody u6) HY := by
 obtain ⟨fd_is_integer, F_is_integer, B_is_integer_0⟩ := wz (P := P) (w := w) c Y G
 intro f cdv A outer s H E C
 exact (aJ (fu (wX (vQ (gG (jZ (d9 (Ay (za c) (aj 0) (qC (aq (DQ (t := "list") (vK c Y G)) (aq (DQ (t := "tuple") (rR c Y G)) aU))) (kh c Y G))))) (v9 (gG (G9 cmp_le cmp_le aH (lX (bf 0) (lQ c Y G)) (aj 1))))))
  (aR (s_ret (dG wW)))
  dW)
  (aR (s_ret (dG (rB (cmp_eq C) (lX (gq (wZ C [("value", 2)] (jh (aj 0)) (by decide) (fun _ _ _ _ _ => (bh (Cq.blk C) 2)) (fun _ _ _ _ _ => (GX (wX (vQ (gG (jZ (gq (bL (Cq.blk C) F_is_integer (by decide) B_is_integer_0 (tR c Y G) (aq (aj 2) aU))))) (v9 (dD cmp_lt (aj 2) aH)))))) (fun _ _ _ _ _ => (aj 2)) (blkOk_by rfl))) (lQ c Y G)) (d9 aH))))))
theorem YJ (c : aW K) (Y : K.In base) (G : base.Ns mainGlobals mg) : ∃ fd : FuncData, iw P w K mg base (T K) 2 (Ht.adr K) fd Hr Br ∧ Bn K (T K) fd Hr 2 [] (aD []) := by
 obtain ⟨fd, F⟩ := c.def_ 6 (d := Ht) rfl
 exact ⟨fd, ⟨fn_sim F Yy (VM c Y G), F.kp⟩, (eU (FunD.bindsN F fun _ _ _ _ _ _ us hl => match us, hl with | [_, _], _ => (by kernel_rfl)))⟩
theorem R7 (c : aW K) (Y : K.In base) (G : base.Ns mainGlobals mg) : Does P w K mg base (T K) 1 KZ "is_ascending" (defScope qT) (defBody qT) yD := by
 obtain ⟨fd_is_integer, F_is_integer, B_is_integer_0⟩ := wz (P := P) (w := w) c Y G
 intro f cdv A outer s H E C
 exact (aJ (fu (gG (jZ (d9 (Ay (za c) (aj 0) (qC (aq (DQ (t := "list") (vK c Y G)) (aq (DQ (t := "tuple") (rR c Y G)) aU))) (kh c Y G)))))
  (aR (s_ret (dG wW)))
  dW)
  (aJ (sJ C (ab5 (aj 0) (QL c Y G)) (xG C (cQ (bh C 1) (cQ (bh C 2) uY)))
  (aR (fu (wX (vQ (gG (jZ (gq (bL C F_is_integer (by decide) B_is_integer_0 (tR c Y G) (aq (aj 2) aU))))) (v9 (wX (ady (dD cmp_gt (aj 1) aH) (abW (dD cmp_le (aj 2) (dN 0 (pq (aj 1) aH)))))))))
  (aR (s_ret (dG wW)))
  dW)))
  (aR (s_ret (dG wW)))))
theorem JF (c : aW K) (Y : K.In base) (G : base.Ns mainGlobals mg) : ∃ fd : FuncData, iw P w K mg base (T K) 2 (CK.adr K) fd CJ oH ∧ Bn K (T K) fd CJ 1 [] (aD []) := by
 obtain ⟨fd, F⟩ := c.def_ 7 (d := CK) rfl
 exact ⟨fd, ⟨fn_sim F Vk (R7 c Y G), F.kp⟩, (eU (FunD.bindsN F fun _ _ _ _ _ _ us hl => match us, hl with | [_], _ => (by kernel_rfl)))⟩
theorem Xy (c : aW K) (Y : K.In base) (G : base.Ns mainGlobals mg) : Does P w K mg base (T K) 2 Tc "is_inside" (defScope wB) (defBody wB) wL := by
 obtain ⟨fd_is_ascending, F_is_ascending, B_is_ascending_0⟩ := JF (P := P) (w := w) c Y G
 intro f cdv A outer s H E C
 exact (aR (s_ret (dG (yX (bH (bL C F_is_ascending (by decide) B_is_ascending_0 (JB c Y G) (aq (aj 0) aU))) (Ew (ajX (rB (cmp_eq C) (lX (bf 0) (lQ c Y G)) (d9 aH)) (Ew (yX (rB cmp_le (aj 1) (dN 0 aH)) (Ew (rB cmp_le (dN 0 (U9 aH)) (aj 2)))))))))))
theorem aaQ (c : aW K) (Y : K.In base) (G : base.Ns mainGlobals mg) : ∃ fd : FuncData, iw P w K mg base (T K) 3 (JM.adr K) fd JL oU ∧ Bn K (T K) fd JL 3 [] (aD []) := by
 obtain ⟨fd, F⟩ := c.def_ 8 (d := JM) rfl
 exact ⟨fd, ⟨fn_sim F aab (Xy c Y G), F.kp⟩, (eU (FunD.bindsN F fun _ _ _ _ _ _ us hl => match us, hl with | [_, _, _], _ => (by kernel_rfl)))⟩
theorem Xz (c : aW K) (Y : K.In base) (G : base.Ns mainGlobals mg) : Does P w K mg base (T K) 2 Td "are_tails" (defScope wC) (defBody wC) J5 := by
 obtain ⟨fd_is_ascending, F_is_ascending, B_is_ascending_0⟩ := JF (P := P) (w := w) c Y G
 obtain ⟨fd_is_integer, F_is_integer, B_is_integer_0⟩ := wz (P := P) (w := w) c Y G
 intro f cdv A outer s H E C
 exact (aJ (fu (gG (jZ (d9 (Ay (za c) (aj 0) (qC (aq (DQ (t := "list") (vK c Y G)) (aq (DQ (t := "tuple") (rR c Y G)) aU))) (kh c Y G)))))
  (aR (s_ret (dG wW)))
  dW)
  (aJ (sJ C (jh (aj 0)) (bh C 2)
  (aR (fu (wX (vQ (gG (jZ (d9 (Ay (za c) (aj 2) (qC (aq (DQ (t := "list") (vK c Y G)) (aq (DQ (t := "tuple") (rR c Y G)) aU))) (kh c Y G))))) (vQ (dD (KD C) (lX (bf 2) (lQ c Y G)) (d9 aH)) (vQ (gG (jZ (gq (bL C F_is_integer (by decide) B_is_integer_0 (tR c Y G) (aq (dN 2 aH) aU))))) (v9 (dD cmp_lt (dN 2 aH) aH))))))
  (aR (s_ret (dG wW)))
  dW)))
  (aJ (Rv C 3 [("pair", 2)] (jh (aj 0)) (by decide) (fun _ _ _ _ _ => (bh (Cq.blk C) 2)) (fun _ _ _ _ _ => pP) (fun _ _ _ _ _ => (dN 2 aH)) (blkOk_by rfl) (sw_true rfl rfl rfl rfl))
  (aR (s_ret (dG (yX (bH (bL C F_is_ascending (by decide) B_is_ascending_0 (JB c Y G) (aq (aj 3) aU))) (Ew (rB (cmp_eq C) (lX (gq (wZ C [("gap", 4)] (jh (aj 3)) (by decide) (fun _ _ _ _ _ => (bh (Cq.blk C) 4)) (fun _ _ _ _ _ => (GX (dD (abV) (aj 4) (bf 1)))) (fun _ _ _ _ _ => (aj 4)) (blkOk_by rfl))) (lQ c Y G)) (d9 aH))))))))))
theorem aaR (c : aW K) (Y : K.In base) (G : base.Ns mainGlobals mg) : ∃ fd : FuncData, iw P w K mg base (T K) 3 (JQ.adr K) fd JN Eb ∧ Bn K (T K) fd JN 2 [] (aD []) := by
 obtain ⟨fd, F⟩ := c.def_ 9 (d := JQ) rfl
 exact ⟨fd, ⟨fn_sim F aac (Xz c Y G), F.kp⟩, (eU (FunD.bindsN F fun _ _ _ _ _ _ us hl => match us, hl with | [_, _], _ => (by kernel_rfl)))⟩
theorem Uq (c : aW K) (Y : K.In base) (G : base.Ns mainGlobals mg) : Does P w K mg base (T K) 3 N7 "first_fault" (defScope tK) (defBody tK) tQ := by
 obtain ⟨fd_are_counts, F_are_counts, B_are_counts_0⟩ := YJ (P := P) (w := w) c Y G
 obtain ⟨fd_are_tails, F_are_tails, B_are_tails_0⟩ := aaR (P := P) (w := w) c Y G
 obtain ⟨fd_falls_without_restart, F_falls_without_restart, B_falls_without_restart_0⟩ := Il (P := P) (w := w) c Y G
 obtain ⟨fd_is_inside, F_is_inside, B_is_inside_0⟩ := aaQ (P := P) (w := w) c Y G
 obtain ⟨fd_is_integer, F_is_integer, B_is_integer_0⟩ := wz (P := P) (w := w) c Y G
 intro f cdv A outer s H E C
 exact (aJ (fu (wX (vQ (gG (jZ (gq (bL C F_is_integer (by decide) B_is_integer_0 (tR c Y G) (aq (aj 1) aU))))) (v9 (gG (G9 cmp_le cmp_le aH (aj 1) aH)))))
  (aR (s_ret (dG G6)))
  dW)
  (aJ (fu (wX (vQ (gG (jZ (gq (bL C F_is_integer (by decide) B_is_integer_0 (tR c Y G) (aq (aj 2) aU))))) (v9 (gG (G9 cmp_le cmp_lt aH (aj 2) (aj 1))))))
  (aR (s_ret (dG G6)))
  dW)
  (aJ (fu (gG (jZ (gq (bL C F_are_counts (by decide) B_are_counts_0 (YD c Y G) (aq (aj 0) (aq (pq (aj 1) (aj 2)) aU))))))
  (aR (s_ret (dG G6)))
  dW)
  (aJ (rE C 6 (pq (bH (gA (aj 2) (lX (bf 0) (lQ c Y G)))) aH))
  (aJ (fu (gG (jZ (gq (bL C F_is_inside (by decide) B_is_inside_0 (QJ c Y G) (aq (aj 3) (aq (aj 2) (aq (pq (aj 6) aH) aU)))))))
  (aR (s_ret (dG G6)))
  dW)
  (aJ (fu (jZ (gq (bL C F_falls_without_restart (by decide) B_falls_without_restart_0 (Ii c Y G) (aq (aj 0) (aq (aj 2) (aq (aj 3) aU))))))
  (aR (s_ret (dG G6)))
  dW)
  (aJ (lW C 7 (GP (bf 3) (vK c Y G)))
  (aJ (fu (dD cmp_lt (aj 6) (pq (aj 1) aH))
  (aR (pA (nj 7 (aj 6))))
  dW)
  (aJ (fu (gG (jZ (gq (bL C F_are_tails (by decide) B_are_tails_0 (aaN c Y G) (aq (aj 4) (aq (aj 7) aU))))))
  (aR (s_ret (dG G6)))
  dW)
  (aJ (fu (gG (jZ (gq (bL C F_is_inside (by decide) B_is_inside_0 (QJ c Y G) (aq (aj 5) (aq (aj 2) (aq (aj 6) aU)))))))
  (aR (s_ret (dG G6)))
  dW)
  (aR (s_ret (dG adt)))))))))))))
theorem XC (c : aW K) (Y : K.In base) (G : base.Ns mainGlobals mg) : ∃ fd : FuncData, iw P w K mg base (T K) 4 (FW.adr K) fd FQ zH ∧ Bn K (T K) fd FQ 6 [] (aD []) := by
 obtain ⟨fd, F⟩ := c.def_ 10 (d := FW) rfl
 exact ⟨fd, ⟨fn_sim F Xk (Uq c Y G), F.kp⟩, (eU (FunD.bindsN F fun _ _ _ _ _ _ us hl => match us, hl with | [_, _, _, _, _, _], _ => (by kernel_rfl)))⟩
theorem Jc (c : aW K) (Y : K.In base) (G : base.Ns mainGlobals mg) : Does P w K mg base (T K) 4 Ba "Instance.__init__" (defScope jB) (defBody jB) qM := by
 obtain ⟨fd_first_fault, F_first_fault, B_first_fault_0⟩ := XC (P := P) (w := w) c Y G
 intro f cdv A outer s H E C
 exact (aJ (lW C 7 (bL C F_first_fault (by decide) B_first_fault_0 (Xv c Y G) (aq (aj 1) (aq (aj 2) (aq (aj 3) (aq (aj 4) (aq (aj 5) (aq (aj 6) aU))))))))
  (aJ (fu (dD agS (aj 7) adt)
  (aR abZ)
  dW)
  (aJ (xH 0 (fW c rfl) (aj 2))
  (aJ (xH 0 (uK c rfl) (aj 3))
  (aJ (xH 0 (qQ c rfl) (zY (bf 1) (rR c Y G)))
  (aJ (xH 0 (wN c rfl) (zY (bf 4) (rR c Y G)))
  (aJ (xH 0 (Ik c rfl) (zY (gq (wZ C [("gap", 8), ("many", 9)] (jh (aj 5)) (by decide) (fun _ _ _ _ _ => (xG (Cq.blk C) (cQ (bh (Cq.blk C) 8) (cQ (bh (Cq.blk C) 9) uY)))) (fun _ _ _ _ _ => pP) (fun _ _ _ _ _ => (qC (aq (aj 8) (aq (aj 9) aU)))) (blkOk_by rfl))) (rR c Y G)))
  (aR (xH 0 (Lp c rfl) (zY (bf 6) (rR c Y G)))))))))))
theorem Ak (c : aW K) (Y : K.In base) (G : base.Ns mainGlobals mg) : ∃ fd : FuncData, FnI P w K mg base (T K) 5 0 (vR.adr K) fd qL fU ∧ BnI K (T K) fd qL 1 ["readings", "start", "restarts", "tails", "lost"] (Hm [0, 1, 2, 3, 4] []) := by
 obtain ⟨fd, F⟩ := c.def_ 11 (d := vR) rfl
 obtain ⟨mv0, kb0⟩ := FunD.kbinds0 F (ps := qL) 2 ["readings", "start", "restarts", "tails", "lost"] [] (fun us mv ws => gKw [0, 1, 2, 3, 4] us mv ws) (by exact List.cons_ne_nil _ _) (aiM [] rfl) (fun r1 r2 r3 => r1.append (PQ _ (r3.append r2))) (by
  intro D doc pm an cdv ct us mv ws l1 l2 l3
  match us, mv, ws, l1, l2, l3 with
  | [u0, u1], [], [w0, w1, w2, w3, w4], _, _, _ => (show bindArgs _ _ = pure _; kernel_rfl))
 exact ⟨fd, ⟨ag1 0 F K6 (Jc c Y G), He.mkr_ok (c.fact 70 (f := .he (.mkr "Instance")) rfl)⟩, ⟨_, _, fun vs zs => gKw [0, 1, 2, 3, 4] vs (([] : List (Str × V)).map (·.2)) zs, kb0, fun _ _ _ _ _ => rfl, ag5 [0, 1, 2, 3, 4] (fun _ => .nil) (by decide) (by decide)⟩⟩
theorem XD (c : aW K) (Y : K.In base) (G : base.Ns mainGlobals mg) : Does P w K mg base (T K) 6 Tf "_law_made" (defScope wD) (defBody wD) J8 := by
 obtain ⟨fd_Instance____init__, F_Instance____init__, B_Instance____init___0⟩ := Ak (P := P) (w := w) c Y G
 intro f cdv A outer s H E C
 exact (aR (s_ret (ZX C F_Instance____init__ (by decide) B_Instance____init___0 (J9 c Y G) (aq (bH (GP (d9 (dN 0 aH)) (vK c Y G))) aU) (pQ (aj 1) (pQ (dN 0 aH) (pQ (bH (GP (d9 (dN 0 aH)) (vK c Y G))) (pQ (bH (GP (d9 (dN 0 aH)) (vK c Y G))) (pQ (bH (GP (d9 (dN 0 aH)) (vK c Y G))) KN))))))))
theorem QR (c : aW K) (Y : K.In base) (G : base.Ns mainGlobals mg) : ∃ fd : FuncData, iw P w K mg base (T K) 7 (JS.adr K) fd JR qO ∧ Bn K (T K) fd JR 2 [] (aD []) := by
 obtain ⟨fd, F⟩ := c.def_ 12 (d := JS) rfl
 exact ⟨fd, ⟨fn_sim F aad (XD c Y G), F.kp⟩, (eU (FunD.bindsN F fun _ _ _ _ _ _ us hl => match us, hl with | [_, _], _ => (by kernel_rfl)))⟩
theorem ac6 (c : aW K) (Y : K.In base) (G : base.Ns mainGlobals mg) {X : Cx} {k : Nat} (hk : 3 ≤ k) (hP : X.prog = P) (hw : X.w = w) (hK : X.K = K) (hm : X.mg = mg) (hb : X.base = base) : aiN X (T K) k .Add Bt := by
 subst hP hw hK hm hb
 exact ⟨cX (.cons (by
  obtain ⟨fd, F, B⟩ := Ou (P := X.prog) (w := X.w) c Y G
  exact ⟨_, _, fd, _, He.cls_ok (c.fact 46 (f := .he (.cls "History")) rfl), He.meth_ok (c.fact 64 (f := .he (.meth "History" "__add__")) rfl), (c.fact 65 (f := .slf "History") rfl), F, B, Nat.le_trans (by decide) hk⟩) .nil)⟩
theorem R8 (c : aW K) (Y : K.In base) (G : base.Ns mainGlobals mg) : Does P w K mg base (T K) 7 K7 "_law_history" (defScope qU) (defBody qU) vC := by
 obtain ⟨fd_History____init__, F_History____init__⟩ := v8 (P := P) (w := w) c Y G
 obtain ⟨fd__law_made, F__law_made, B__law_made_0⟩ := QR (P := P) (w := w) c Y G
 intro f cdv A outer s H E C
 exact (aJ (lW C 2 (adU C F_History____init__ rfl (by decide) (yM c Y G) (pQ (aj 1) KN)))
  (aJ (aas C (Qx (aj 0)) (bh C 3)
  (aR (lW C 2 (aiO C (ac6 (P := P) c Y G (by decide) rfl rfl rfl rfl rfl) (aj 2) (bH (adV C F_History____init__ rfl (by decide) (by decide) (yM c Y G) (aq (bH (bL C F__law_made (by decide) B__law_made_0 (QK c Y G) (aq (aj 3) (aq (aj 1) aU)))) aU) (pQ (aj 1) KN)))))))
  (aR (s_ret (Gz 2)))))
theorem VN (c : aW K) (Y : K.In base) (G : base.Ns mainGlobals mg) : ∃ fd : FuncData, iw P w K mg base (T K) 8 (CP.adr K) fd CN qY ∧ Bn K (T K) fd CN 2 [] (aD []) := by
 obtain ⟨fd, F⟩ := c.def_ 13 (d := CP) rfl
 exact ⟨fd, ⟨fn_sim F Vl (R8 c Y G), F.kp⟩, (eU (FunD.bindsN F fun _ _ _ _ _ _ us hl => match us, hl with | [_, _], _ => (by kernel_rfl)))⟩
theorem XF (c : aW K) (Y : K.In base) (G : base.Ns mainGlobals mg) : Does P w K mg base (T K) 0 Th "_law_draw" (defScope wF) (defBody wF) Ec := by
 intro f cdv A outer s H E C
 exact (aJ (fu (dD cmp_gt (dN 0 aH) aH)
  (aJ (rE C 2 (Pj (Cy (dN 0 aH) (Fj c Y G)) (aj 1)))
  (aJ (adL 0 (adw (dN 0 aH) (aj 1)) aH)
  (aR (s_ret (Gz 2)))))
  dW)
  (aJ (adL 0 (bH (gA (dN 0 aH) aH)) aH)
  (aJ (rE C 3 (Pj (Cy (Pn (bH (gA (dN 0 aH) (Ph aH (dN 0 aH)))) aH) (Fj c Y G)) aH))
  (aJ (rE C 3 (Pj (Cy (Pn (bH (gA (aj 3) (Ph aH (dN 0 aH)))) aH) (Fj c Y G)) aH))
  (aR (s_ret (dG (Pj (Cy (adw (aj 3) aH) (Fj c Y G)) (aj 1)))))))))
theorem ym (c : aW K) (Y : K.In base) (G : base.Ns mainGlobals mg) : ∃ fd : FuncData, iw P w K mg base (T K) 1 (JV.adr K) fd JT bV ∧ Bn K (T K) fd JT 2 [] (aD []) := by
 obtain ⟨fd, F⟩ := c.def_ 14 (d := JV) rfl
 exact ⟨fd, ⟨fn_sim F aae (XF c Y G), F.kp⟩, (eU (FunD.bindsN F fun _ _ _ _ _ _ us hl => match us, hl with | [_, _], _ => (by kernel_rfl)))⟩
theorem YK (c : aW K) (Y : K.In base) (G : base.Ns mainGlobals mg) : Does P w K mg base (T K) 0 Vm "order_of" (defScope yu) (defBody yu) Bu := by
 intro f cdv A outer s H E C
 exact (aJ (lW C 1 (lA aU))
  (aJ (sJ C (ab5 (aj 0) (QL c Y G)) (xG C (cQ (bh C 2) (cQ (bh C 3) uY)))
  (aR (sJ C (jh (bH (Rr 0 Ro (Rp (aj 2))))) (bh C 4)
  (aR (pA (nj 1 (pq (Cy (rB cmp_gt (aj 3) (aj 4)) (Fj c Y G)) (Cy (rB cmp_lt (aj 3) (aj 4)) (Fj c Y G)))))))))
  (aR (s_ret (Gz 1)))))
theorem abq (c : aW K) (Y : K.In base) (G : base.Ns mainGlobals mg) : ∃ fd : FuncData, iw P w K mg base (T K) 1 (Mv.adr K) fd Mu yE ∧ Bn K (T K) fd Mu 1 [] (aD []) := by
 obtain ⟨fd, F⟩ := c.def_ 15 (d := Mv) rfl
 exact ⟨fd, ⟨fn_sim F abj (YK c Y G), F.kp⟩, (eU (FunD.bindsN F fun _ _ _ _ _ _ us hl => match us, hl with | [_], _ => (by kernel_rfl)))⟩
theorem abr (c : aW K) (Y : K.In base) (G : base.Ns mainGlobals mg) : Does P w K mg base (T K) 1 aaf "way_of" (defScope CQ) (defBody CQ) Ib := by
 obtain ⟨fd_order_of, F_order_of, B_order_of_0⟩ := abq (P := P) (w := w) c Y G
 intro f cdv A outer s H E C
 exact (aR (s_ret (dG (qC (aq (bY (uK c rfl) (bf 0)) (aq (lX (d9 (bY (qQ c rfl) (bf 0))) (lQ c Y G)) (aq (bY (wN c rfl) (bf 0)) (aq (bY (Lp c rfl) (bf 0)) (aq (bH (bL C F_order_of (by decide) B_order_of_0 (abo c Y G) (aq (bY (qQ c rfl) (bf 0)) aU))) aU)))))))))
theorem aeA (c : aW K) (Y : K.In base) (G : base.Ns mainGlobals mg) : ∃ fd : FuncData, iw P w K mg base (T K) 2 (Ua.adr K) fd T9 Dq ∧ Bn K (T K) fd T9 1 [] (aD []) := by
 obtain ⟨fd, F⟩ := c.def_ 16 (d := Ua) rfl
 exact ⟨fd, ⟨fn_sim F adY (abr c Y G), F.kp⟩, (eU (FunD.bindsN F fun _ _ _ _ _ _ us hl => match us, hl with | [_], _ => (by kernel_rfl)))⟩
theorem R9 (c : aW K) (Y : K.In base) (G : base.Ns mainGlobals mg) : Does P w K mg base (T K) 0 K8 "summed_tails" (defScope qW) (defBody qW) vD := by
 intro f cdv A outer s H E C
 exact (aJ (rE C 1 ahp)
  (aJ (aas C (Qx (aj 0)) (bh C 2)
  (aR (sJ C (jh (bY (Ik c rfl) (bf 2))) (xG C (cQ (bh C 3) (cQ (bh C 4) uY)))
  (aR (ajh C (aj 1) (aj 3) (bH (gA (afq C (aj 1) (aj 3) aH) (aj 4))))))))
  (aR (s_ret (wZ C [("gap", 3)] (jh (bH (ad4 C (gq (afs C (aj 1) (vK c Y G))) (aez c Y G)))) (by decide) (fun _ _ _ _ _ => (bh (Cq.blk C) 3)) (fun _ _ _ _ _ => pP) (fun _ _ _ _ _ => (qC (aq (aj 3) (aq (ahq (Cq.blk C) (aj 1) (aj 3)) aU)))) (blkOk_by rfl))))))
theorem VP (c : aW K) (Y : K.In base) (G : base.Ns mainGlobals mg) : ∃ fd : FuncData, iw P w K mg base (T K) 1 (CV.adr K) fd CT qZ ∧ Bn K (T K) fd CT 1 [] (aD []) := by
 obtain ⟨fd, F⟩ := c.def_ 17 (d := CV) rfl
 exact ⟨fd, ⟨fn_sim F Vn (R9 c Y G), F.kp⟩, (eU (FunD.bindsN F fun _ _ _ _ _ _ us hl => match us, hl with | [_], _ => (by kernel_rfl)))⟩
theorem abt (c : aW K) (Y : K.In base) (G : base.Ns mainGlobals mg) : Does P w K mg base (T K) 6 aag "joined" (defScope CW) (defBody CW) Ie := by
 obtain ⟨fd_Instance____init__, F_Instance____init__, B_Instance____init___0⟩ := Ak (P := P) (w := w) c Y G
 obtain ⟨fd_summed_tails, F_summed_tails, B_summed_tails_0⟩ := VP (P := P) (w := w) c Y G
 intro f cdv A outer s H E C
 exact (aJ (rE C 1 (dN 0 aH))
  (aJ (Rv C 2 [("at", 3)] (Ae (lX (d9 (bY (qQ c rfl) (bf 1))) (lQ c Y G)) (rW c Y G)) (by decide) (fun _ _ _ _ _ => (bh (Cq.blk C) 3)) (fun _ _ _ _ _ => pP) (fun _ _ _ _ _ => (K9 (Cq.blk C) (gq (ad5 (Cq.blk C) [("instance", 4)] (Qx (aj 0)) (by decide) (fun _ _ _ _ _ => (bh (Cq.blk (Cq.blk C)) 4)) (fun _ _ _ _ _ => pP) (fun _ _ _ _ _ => (Pu (bY (qQ c rfl) (bf 4)) (aj 3))) (blkOk_by rfl))) (QM c Y G))) (blkOk_by rfl) (sw_true rfl rfl rfl rfl))
  (aR (s_ret (ZX C F_Instance____init__ (by decide) B_Instance____init___0 (J9 c Y G) (aq (aj 2) aU) (pQ (bY (fW c rfl) (bf 1)) (pQ (bY (uK c rfl) (bf 1)) (pQ (bY (wN c rfl) (bf 1)) (pQ (bH (bL C F_summed_tails (by decide) B_summed_tails_0 (VH c Y G) (aq (aj 0) aU))) (pQ (bY (Lp c rfl) (bf 1)) KN))))))))))
theorem aeB (c : aW K) (Y : K.In base) (G : base.Ns mainGlobals mg) : ∃ fd : FuncData, iw P w K mg base (T K) 7 (Uc.adr K) fd Ub Dr ∧ Bn K (T K) fd Ub 1 [] (aD []) := by
 obtain ⟨fd, F⟩ := c.def_ 18 (d := Uc) rfl
 exact ⟨fd, ⟨fn_sim F adZ (abt c Y G), F.kp⟩, (eU (FunD.bindsN F fun _ _ _ _ _ _ us hl => match us, hl with | [_], _ => (by kernel_rfl)))⟩
theorem Ke (c : aW K) (Y : K.In base) (G : base.Ns mainGlobals mg) : Does P w K mg base (T K) 7 Cj "History.gathered" (defScope jT) (defBody jT) oh := by
 obtain ⟨fd_History____init__, F_History____init__⟩ := v8 (P := P) (w := w) c Y G
 obtain ⟨fd_joined, F_joined, B_joined_0⟩ := aeB (P := P) (w := w) c Y G
 obtain ⟨fd_way_of, F_way_of, B_way_of_0⟩ := aeA (P := P) (w := w) c Y G
 intro f cdv A outer s H E C
 exact (aJ (lW C 1 (lA aU))
  (aJ (lW C 2 (lA aU))
  (aJ (sJ C (jh (bY (j8 c rfl) (bf 0))) (bh C 3)
  (aJ (lW C 4 (bL C F_way_of (by decide) B_way_of_0 (aew c Y G) (aq (aj 3) aU)))
  (aR (fu (dD (ahn C) (aj 4) (bf 1))
  (aR (pA (ag0 (dN 2 (aeb C 1 (aj 4))) (aj 3))))
  (aJ (pA (nj 1 (aj 4)))
  (aR (pA (nj 2 (Xd (lA (aq (aj 3) aU)))))))))))
  (aJ (Rv C 5 [("group", 6)] (jh (aj 2)) (by decide) (fun _ _ _ _ _ => (bh (Cq.blk C) 6)) (fun _ _ _ _ _ => pP) (fun _ _ _ _ _ => (bH (bL (Cq.blk C) F_joined (by decide) B_joined_0 (aex c Y G) (aq (aj 6) aU)))) (blkOk_by rfl) (sw_true rfl rfl rfl rfl))
  (aR (s_ret (S9 C F_History____init__ rfl (by decide) (yM c Y G) (aj 5) (pQ (bY (fW c rfl) (bf 0)) KN))))))))
theorem M7 (c : aW K) (Y : K.In base) (G : base.Ns mainGlobals mg) : ∃ fd : FuncData, iw P w K mg base (T K) 8 (wU.adr K) fd wR jV ∧ Bn K (T K) fd wR 1 [] (aD []) := by
 obtain ⟨fd, F⟩ := c.def_ 19 (d := wU) rfl
 exact ⟨fd, ⟨fn_sim F Mw (Ke c Y G), F.kp⟩, (eU (FunD.bindsN F fun _ _ _ _ _ _ us hl => match us, hl with | [_], _ => (by kernel_rfl)))⟩
theorem Lr (c : aW K) (Y : K.In base) (G : base.Ns mainGlobals mg) : Does P w K mg base (T K) 0 EY "History.__len__" (defScope lC) (defBody lC) pG := by
 intro f cdv A outer s H E C
 exact (aR (s_ret (dG (lX (d9 (bY (j8 c rfl) (bf 0))) (lQ c Y G)))))
theorem Ov (c : aW K) (Y : K.In base) (G : base.Ns mainGlobals mg) : ∃ fd : FuncData, iw P w K mg base (T K) 1 (xN.adr K) fd xM lJ ∧ Bn K (T K) fd xM 1 [] (aD []) := by
 obtain ⟨fd, F⟩ := c.def_ 20 (d := xN) rfl
 exact ⟨fd, ⟨fn_sim F Om (Lr c Y G), F.kp⟩, (eU (FunD.bindsN F fun _ _ _ _ _ _ us hl => match us, hl with | [_], _ => (by kernel_rfl)))⟩
theorem Ls (c : aW K) (Y : K.In base) (G : base.Ns mainGlobals mg) : Does P w K mg base (T K) 0 Fb "Instance.__eq__" (defScope lD) (defBody lD) pH := by
 intro f cdv A outer s H E C
 exact (aJ (fu (gG (jZ (d9 (Ay (za c) (aj 1) (Z0 (c := 0) (J9 c Y G)) (kh c Y G)))))
  (aR (s_ret (dG wW)))
  dW)
  (aJ (rE C 2 (yX (rB (cmp_eq C) (bY (fW c rfl) (bf 0)) (d9 (bY (fW c rfl) (bf 1)))) (yX (rB (cmp_eq C) (bY (uK c rfl) (bf 0)) (d9 (bY (uK c rfl) (bf 1)))) (Ew (rB (cmp_eq C) (bY (qQ c rfl) (bf 0)) (d9 (bY (qQ c rfl) (bf 1))))))))
  (aR (s_ret (dG (yX (aj 2) (yX (rB (cmp_eq C) (bY (wN c rfl) (bf 0)) (d9 (bY (wN c rfl) (bf 1)))) (yX (rB (cmp_eq C) (bY (Ik c rfl) (bf 0)) (d9 (bY (Ik c rfl) (bf 1)))) (Ew (rB (cmp_eq C) (bY (Lp c rfl) (bf 0)) (d9 (bY (Lp c rfl) (bf 1)))))))))))))
theorem Ow (c : aW K) (Y : K.In base) (G : base.Ns mainGlobals mg) : ∃ fd : FuncData, iw P w K mg base (T K) 1 (xP.adr K) fd xO jm ∧ Bn K (T K) fd xO 2 [] (aD []) := by
 obtain ⟨fd, F⟩ := c.def_ 21 (d := xP) rfl
 exact ⟨fd, ⟨fn_sim F Oo (Ls c Y G), F.kp⟩, (eU (FunD.bindsN F fun _ _ _ _ _ _ us hl => match us, hl with | [_, _], _ => (by kernel_rfl)))⟩
theorem Ox (c : aW K) (Y : K.In base) (G : base.Ns mainGlobals mg) : Does P w K mg base (T K) 1 Hu "History.place" (defScope oE) (defBody oE) rO := by
 obtain ⟨fd_is_integer, F_is_integer, B_is_integer_0⟩ := wz (P := P) (w := w) c Y G
 intro f cdv A outer s H E C
 exact (aJ (fu (wX (vQ (gG (jZ (gq (bL C F_is_integer (by decide) B_is_integer_0 (tR c Y G) (aq (aj 1) aU))))) (v9 (gG (G9 cmp_le cmp_lt aH (aj 1) (lX (d9 (bY (j8 c rfl) (bf 0))) (lQ c Y G)))))))
  (aR abZ)
  dW)
  (aR (s_ret (Gz 1))))
theorem Sd (c : aW K) (Y : K.In base) (G : base.Ns mainGlobals mg) : ∃ fd : FuncData, iw P w K mg base (T K) 2 (z8.adr K) fd z7 rP ∧ Bn K (T K) fd z7 2 [] (aD []) := by
 obtain ⟨fd, F⟩ := c.def_ 22 (d := z8) rfl
 exact ⟨fd, ⟨fn_sim F R6 (Ox c Y G), F.kp⟩, (eU (FunD.bindsN F fun _ _ _ _ _ _ us hl => match us, hl with | [_, _], _ => (by kernel_rfl)))⟩
theorem af8 (c : aW K) (Y : K.In base) (G : base.Ns mainGlobals mg) {X : Cx} {k : Nat} (hk : 2 ≤ k) (hP : X.prog = P) (hw : X.w = w) (hK : X.K = K) (hm : X.mg = mg) (hb : X.base = base) : tU X (T K) k "place" Ig 1 [] (aD []) := by
 subst hP hw hK hm hb
 exact ⟨cX (.cons (by
  obtain ⟨fd, F, B⟩ := Sd (P := X.prog) (w := X.w) c Y G
  exact ⟨_, _, fd, _, He.cls_ok (c.fact 46 (f := .he (.cls "History")) rfl), He.meth_ok (c.fact 57 (f := .he (.meth "History" "place")) rfl), F, B, (by show _ ∉ fld 1; decide +kernel), Nat.le_trans (by decide) hk⟩) .nil)⟩
theorem Gu (c : aW K) (Y : K.In base) (G : base.Ns mainGlobals mg) : Does P w K mg base (T K) 2 yZ "History.__getitem__" (defScope iz) (defBody iz) j7 := by
 intro f cdv A outer s H E C
 exact (aR (s_ret (dG (Pu (bY (j8 c rfl) (bf 0)) (bH (ab3 C (af8 (P := P) c Y G (by decide) rfl rfl rfl rfl rfl) (aj 0) (aq (aj 1) aU)))))))
theorem Jd (c : aW K) (Y : K.In base) (G : base.Ns mainGlobals mg) : ∃ fd : FuncData, iw P w K mg base (T K) 3 (uJ.adr K) fd uI iK ∧ Bn K (T K) fd uI 2 [] (aD []) := by
 obtain ⟨fd, F⟩ := c.def_ 23 (d := uJ) rfl
 exact ⟨fd, ⟨fn_sim F Jb (Gu c Y G), F.kp⟩, (eU (FunD.bindsN F fun _ _ _ _ _ _ us hl => match us, hl with | [_, _], _ => (by kernel_rfl)))⟩
theorem Oz (c : aW K) (Y : K.In base) (G : base.Ns mainGlobals mg) {X : Cx} {k : Nat} (hk : 1 ≤ k) (hP : X.prog = P) (hw : X.w = w) (hK : X.K = K) (hm : X.mg = mg) (hb : X.base = base) : tU X (T K) k "__len__" ou 0 [] (aD []) := by
 subst hP hw hK hm hb
 exact ⟨cX (.cons (by
  obtain ⟨fd, F, B⟩ := Ov (P := X.prog) (w := X.w) c Y G
  exact ⟨_, _, fd, _, He.cls_ok (c.fact 46 (f := .he (.cls "History")) rfl), He.meth_ok (c.fact 58 (f := .he (.meth "History" "__len__")) rfl), F, B, (by show _ ∉ fld 1; decide +kernel), Nat.le_trans (by decide) hk⟩) .nil)⟩
theorem Cp (c : aW K) (Y : K.In base) (G : base.Ns mainGlobals mg) {X : Cx} {k : Nat} (hk : 1 ≤ k) (hP : X.prog = P) (hw : X.w = w) (hK : X.K = K) (hm : X.mg = mg) (hb : X.base = base) : tU X (T K) k "__eq__" d8 1 [] (aD []) := by
 subst hP hw hK hm hb
 exact ⟨cX (.cons (by
  obtain ⟨fd, F, B⟩ := Ow (P := X.prog) (w := X.w) c Y G
  exact ⟨_, _, fd, _, He.cls_ok (c.fact 44 (f := .he (.cls "Instance")) rfl), He.meth_ok (c.fact 59 (f := .he (.meth "Instance" "__eq__")) rfl), F, B, (by show _ ∉ fld 0; decide +kernel), Nat.le_trans (by decide) hk⟩) .nil)⟩
theorem Je (c : aW K) (Y : K.In base) (G : base.Ns mainGlobals mg) {X : Cx} {k : Nat} (hk : 3 ≤ k) (hP : X.prog = P) (hw : X.w = w) (hK : X.K = K) (hm : X.mg = mg) (hb : X.base = base) : tU X (T K) k "__getitem__" jJ 1 [] (aD []) := by
 subst hP hw hK hm hb
 exact ⟨cX (.cons (by
  obtain ⟨fd, F, B⟩ := Jd (P := X.prog) (w := X.w) c Y G
  exact ⟨_, _, fd, _, He.cls_ok (c.fact 46 (f := .he (.cls "History")) rfl), He.meth_ok (c.fact 60 (f := .he (.meth "History" "__getitem__")) rfl), F, B, (by show _ ∉ fld 1; decide +kernel), Nat.le_trans (by decide) hk⟩) .nil)⟩
theorem QS (c : aW K) (Y : K.In base) (G : base.Ns mainGlobals mg) : Does P w K mg base (T K) 7 Jr "_law_as_lives" (defScope pU) (defBody pU) ue := by
 obtain ⟨fd__law_made, F__law_made, B__law_made_0⟩ := QR (P := P) (w := w) c Y G
 intro f cdv A outer s H E C
 exact (aJ (fu (wX (vQ (gG (jZ (d9 (Ay (za c) (aj 0) (Z0 (c := 1) (yM c Y G)) (kh c Y G))))) (vQ (dD (KD C) (bY (fW c rfl) (bf 0)) (bf 2)) (v9 (dD (KD C) (ahd (j := 1) C (by decide) (Oz (P := P) c Y G (by decide) rfl rfl rfl rfl rfl) (aj 0) (lQ c Y G)) (d9 (lX (bf 1) (lQ c Y G))))))))
  (aR (s_ret (dG wW)))
  dW)
  (aR (s_ret (dG (rB (cmp_eq C) (bH (wZ C [("_law_at", 3)] (Ae (lX (bf 1) (lQ c Y G)) (rW c Y G)) (by decide) (fun _ _ _ _ _ => (bh (Cq.blk C) 3)) (fun _ _ _ _ _ => (GX (gG (ab8 (aca (j := 1) (Cq.blk C) (by decide) (Cp (P := P) c Y G (by decide) rfl rfl rfl rfl rfl) (Cm c rfl)) (bH (ahe (j := 3) (Cq.blk C) (by decide) (Je (P := P) c Y G (by decide) rfl rfl rfl rfl rfl) (aj 0) (aj 3))) (bH (bL (Cq.blk C) F__law_made (by decide) B__law_made_0 (QK c Y G) (aq (dN 1 (aj 3)) (aq (aj 2) aU)))))))) (fun _ _ _ _ _ => (aj 3)) (blkOk_by rfl))) (gq (lA aU)))))))
theorem Ur (c : aW K) (Y : K.In base) (G : base.Ns mainGlobals mg) : ∃ fd : FuncData, iw P w K mg base (T K) 8 (Bc.adr K) fd Bb jO ∧ Bn K (T K) fd Bb 3 [] (aD []) := by
 obtain ⟨fd, F⟩ := c.def_ 24 (d := Bc) rfl
 exact ⟨fd, ⟨fn_sim F Ud (QS c Y G), F.kp⟩, (eU (FunD.bindsN F fun _ _ _ _ _ _ us hl => match us, hl with | [_, _, _], _ => (by kernel_rfl)))⟩
theorem M8 (c : aW K) (Y : K.In base) (G : base.Ns mainGlobals mg) : Does P w K mg base (T K) 2 Gk "History.__eq__" (defScope nA) (defBody nA) qI := by
 intro f cdv A outer s H E C
 exact (aJ (fu (gG (jZ (d9 (Ay (za c) (aj 1) (Z0 (c := 1) (yM c Y G)) (kh c Y G)))))
  (aR (s_ret (dG wW)))
  dW)
  (aR (s_ret (dG (yX (rB (cmp_eq C) (bY (fW c rfl) (bf 0)) (d9 (bY (fW c rfl) (bf 1)))) (Ew (ahf (ahk (j := 1) C (by decide) (Cp (P := P) c Y G (by decide) rfl rfl rfl rfl rfl) (Cm c rfl) Kc) (bY (j8 c rfl) (bf 0)) (bY (j8 c rfl) (bf 1)))))))))
theorem QT (c : aW K) (Y : K.In base) (G : base.Ns mainGlobals mg) : ∃ fd : FuncData, iw P w K mg base (T K) 3 (yR.adr K) fd yQ nJ ∧ Bn K (T K) fd yQ 2 [] (aD []) := by
 obtain ⟨fd, F⟩ := c.def_ 25 (d := yR) rfl
 exact ⟨fd, ⟨fn_sim F Qg (M8 c Y G), F.kp⟩, (eU (FunD.bindsN F fun _ _ _ _ _ _ us hl => match us, hl with | [_, _], _ => (by kernel_rfl)))⟩
theorem QV (c : aW K) (Y : K.In base) (G : base.Ns mainGlobals mg) : Does P w K mg base (T K) 0 Jt "Instance.end" (defScope pW) (defBody pW) uf := by
 intro f cdv A outer s H E C
 exact (aR (s_ret (dG (pq (bH (gA (bY (uK c rfl) (bf 0)) (lX (d9 (bY (qQ c rfl) (bf 0))) (lQ c Y G)))) aH))))
theorem Us (c : aW K) (Y : K.In base) (G : base.Ns mainGlobals mg) : ∃ fd : FuncData, iw P w K mg base (T K) 1 (Bf.adr K) fd Be ql ∧ Binds K fd Be [] := by
 obtain ⟨fd, F⟩ := c.def_ 26 (d := Bf) rfl
 exact ⟨fd, ⟨fn_sim F Ue (QV c Y G), F.kp⟩, (FunD.bindsN F fun _ _ _ _ _ _ us hl => match us, hl with | [_], _ => (by kernel_rfl))⟩
theorem aeC (c : aW K) (Y : K.In base) (G : base.Ns mainGlobals mg) {X : Cx} {k : Nat} (hk : 2 ≤ k) (hP : X.prog = P) (hw : X.w = w) (hK : X.K = K) (hm : X.mg = mg) (hb : X.base = base) : Zm X (T K) k "end" Ih := by
 subst hP hw hK hm hb
 exact ⟨cX (.cons (by
  obtain ⟨fd, F, B⟩ := Us (P := X.prog) (w := X.w) c Y G
  exact ⟨_, _, _, fd, _, He.cls_ok (c.fact 44 (f := .he (.cls "Instance")) rfl), Xf (c.fact 54 (f := .prop "Instance" "end") rfl), F, B, rfl, Nat.le_trans (by decide) hk⟩) .nil)⟩
theorem Im (c : aW K) (Y : K.In base) (G : base.Ns mainGlobals mg) : Does P w K mg base (T K) 2 Af "Instance.events_in" (defScope iZ) (defBody iZ) lK := by
 intro f cdv A outer s H E C
 exact (aJ (rE C 2 (K9 C (gq (wZ C [("where", 5), ("many", 6)] (jh (bY (Ik c rfl) (bf 0))) (by decide) (fun _ _ _ _ _ => (xG (Cq.blk C) (cQ (bh (Cq.blk C) 5) (cQ (bh (Cq.blk C) 6) uY)))) (fun _ _ _ _ _ => (GX (dD (cmp_eq (Cq.blk C)) (aj 5) (bf 1)))) (fun _ _ _ _ _ => (aj 6)) (blkOk_by rfl))) (QM c Y G)))
  (aJ (rE C 3 (ae4 cmp_le cmp_le (bY (uK c rfl) (bf 0)) (aj 1) (bH (KQ C (aeC (P := P) c Y G (by decide) rfl rfl rfl rfl rfl) (aj 0)))))
  (aJ (fu (gG (G9 cmp_le cmp_le (bY (uK c rfl) (bf 0)) (bH (gA (aj 1) aH)) (bH (KQ C (aeC (P := P) c Y G (by decide) rfl rfl rfl rfl rfl) (aj 0)))))
  (aR (s_ret (Gz 2)))
  dW)
  (aJ (rE C 4 (Pu (bY (qQ c rfl) (bf 0)) (pq (bH (gA (aj 1) aH)) (bY (uK c rfl) (bf 0)))))
  (aJ (fu (wX (vQ (dD (aiq) (aj 1) (d9 (bY (wN c rfl) (bf 0)))) (v9 (gG (jZ (bf 3))))))
  (aR (s_ret (gA (aj 2) (aj 4))))
  dW)
  (aR (s_ret (dG (pq (aj 4) (Pu (bY (qQ c rfl) (bf 0)) (pq (aj 1) (bY (uK c rfl) (bf 0)))))))))))))
theorem Kg (c : aW K) (Y : K.In base) (G : base.Ns mainGlobals mg) : ∃ fd : FuncData, iw P w K mg base (T K) 3 (vf.adr K) fd u9 jc ∧ Bn K (T K) fd u9 2 [] (aD []) := by
 obtain ⟨fd, F⟩ := c.def_ 27 (d := vf) rfl
 exact ⟨fd, ⟨fn_sim F JW (Im c Y G), F.kp⟩, (eU (FunD.bindsN F fun _ _ _ _ _ _ us hl => match us, hl with | [_, _], _ => (by kernel_rfl)))⟩
theorem aaS (c : aW K) (Y : K.In base) (G : base.Ns mainGlobals mg) {X : Cx} {k : Nat} (hk : 3 ≤ k) (hP : X.prog = P) (hw : X.w = w) (hK : X.K = K) (hm : X.mg = mg) (hb : X.base = base) : tU X (T K) k "events_in" yf 1 [] (aD []) := by
 subst hP hw hK hm hb
 exact ⟨cX (.cons (by
  obtain ⟨fd, F, B⟩ := Kg (P := X.prog) (w := X.w) c Y G
  exact ⟨_, _, fd, _, He.cls_ok (c.fact 44 (f := .he (.cls "Instance")) rfl), He.meth_ok (c.fact 61 (f := .he (.meth "Instance" "events_in")) rfl), F, B, (by show _ ∉ fld 0; decide +kernel), Nat.le_trans (by decide) hk⟩) .nil)⟩
theorem Lw (c : aW K) (Y : K.In base) (G : base.Ns mainGlobals mg) : Does P w K mg base (T K) 3 Fd "Instance.events" (defScope lE) (defBody lE) pM := by
 intro f cdv A outer s H E C
 exact (aR (s_ret (dG (zY (gq (wZ C [("gap", 1)] (Ae (pq (bY (fW c rfl) (bf 0)) aH) (rW c Y G)) (by decide) (fun _ _ _ _ _ => (bh (Cq.blk C) 1)) (fun _ _ _ _ _ => pP) (fun _ _ _ _ _ => (bH (ab3 (Cq.blk C) (aaS (P := P) c Y G (by decide) rfl rfl rfl rfl rfl) (aj 0) (aq (aj 1) aU)))) (blkOk_by rfl))) (rR c Y G)))))
theorem OJ (c : aW K) (Y : K.In base) (G : base.Ns mainGlobals mg) : ∃ fd : FuncData, iw P w K mg base (T K) 4 (xR.adr K) fd xQ ju ∧ Binds K fd xQ [] := by
 obtain ⟨fd, F⟩ := c.def_ 28 (d := xR) rfl
 exact ⟨fd, ⟨fn_sim F Ot (Lw c Y G), F.kp⟩, (FunD.bindsN F fun _ _ _ _ _ _ us hl => match us, hl with | [_], _ => (by kernel_rfl))⟩
theorem O2 (c : aW K) (Y : K.In base) (G : base.Ns mainGlobals mg) {X : Cx} {k : Nat} (hk : 5 ≤ k) (hP : X.prog = P) (hw : X.w = w) (hK : X.K = K) (hm : X.mg = mg) (hb : X.base = base) : Zm X (T K) k "events" oA := by
 subst hP hw hK hm hb
 exact ⟨cX (.cons (by
  obtain ⟨fd, F, B⟩ := OJ (P := X.prog) (w := X.w) c Y G
  exact ⟨_, _, _, fd, _, He.cls_ok (c.fact 44 (f := .he (.cls "Instance")) rfl), Xf (c.fact 55 (f := .prop "Instance" "events") rfl), F, B, rfl, Nat.le_trans (by decide) hk⟩) .nil)⟩
theorem M9 (c : aW K) (Y : K.In base) (G : base.Ns mainGlobals mg) : Does P w K mg base (T K) 5 Gm "History.events" (defScope nH) (defBody nH) qJ := by
 intro f cdv A outer s H E C
 exact (aJ (lW C 1 (wZ C [("instance", 2)] (jh (bY (j8 c rfl) (bf 0))) (by decide) (fun _ _ _ _ _ => (bh (Cq.blk C) 2)) (fun _ _ _ _ _ => pP) (fun _ _ _ _ _ => (bH (KQ (Cq.blk C) (O2 (P := P) c Y G (by decide) rfl rfl rfl rfl rfl) (aj 2)))) (blkOk_by rfl)))
  (aR (s_ret (dG (zY (gq (wZ C [("gap", 3)] (Ae (pq (bY (fW c rfl) (bf 0)) aH) (rW c Y G)) (by decide) (fun _ _ _ _ _ => (bh (Cq.blk C) 3)) (fun _ _ _ _ _ => pP) (fun _ _ _ _ _ => (K9 (Cq.blk C) (gq (wZ (Cq.blk C) [("row", 4)] (jh (aj 1)) (by decide) (fun _ _ _ _ _ => (bh (Cq.blk (Cq.blk C)) 4)) (fun _ _ _ _ _ => pP) (fun _ _ _ _ _ => (dN 4 (aj 3))) (blkOk_by rfl))) (QM c Y G))) (blkOk_by rfl))) (rR c Y G))))))
theorem QW (c : aW K) (Y : K.In base) (G : base.Ns mainGlobals mg) : ∃ fd : FuncData, iw P w K mg base (T K) 6 (yU.adr K) fd yS nM ∧ Binds K fd yS [] := by
 obtain ⟨fd, F⟩ := c.def_ 29 (d := yU) rfl
 exact ⟨fd, ⟨fn_sim F Qh (M9 c Y G), F.kp⟩, (FunD.bindsN F fun _ _ _ _ _ _ us hl => match us, hl with | [_], _ => (by kernel_rfl))⟩
theorem aaT (c : aW K) (Y : K.In base) (G : base.Ns mainGlobals mg) : Does P w K mg base (T K) 1 Yg "_law_of" (defScope Ag) (defBody Ag) Aj := by
 obtain ⟨fd__law_draw, F__law_draw, B__law_draw_0⟩ := ym (P := P) (w := w) c Y G
 intro f cdv A outer s H E C
 exact (aR (s_ret (dG (dN 1 (bH (bL C F__law_draw (by decide) B__law_draw_0 (fV c Y G) (aq (aj 0) (aq (lX (bf 1) (lQ c Y G)) aU))))))))
theorem V1 (c : aW K) (Y : K.In base) (G : base.Ns mainGlobals mg) : ∃ fd : FuncData, iw P w K mg base (T K) 2 (Ql.adr K) fd Qi nQ ∧ Bn K (T K) fd Qi 2 [] (aD []) := by
 obtain ⟨fd, F⟩ := c.def_ 30 (d := Ql) rfl
 exact ⟨fd, ⟨fn_sim F acQ (aaT c Y G), F.kp⟩, (eU (FunD.bindsN F fun _ _ _ _ _ _ us hl => match us, hl with | [_, _], _ => (by kernel_rfl)))⟩
theorem Ut (c : aW K) (Y : K.In base) (G : base.Ns mainGlobals mg) : Does P w K mg base (T K) 2 N8 "_law_number" (defScope tL) (defBody tL) Gg := by
 obtain ⟨fd__law_draw, F__law_draw, B__law_draw_0⟩ := ym (P := P) (w := w) c Y G
 obtain ⟨fd__law_of, F__law_of, B__law_of_0⟩ := V1 (P := P) (w := w) c Y G
 intro f cdv A outer s H E C
 exact (aR (s_ret (bL C F__law_draw (by decide) B__law_draw_0 (fV c Y G) (aq (aj 0) (aq (bH (bL C F__law_of (by decide) B__law_of_0 (M6 c Y G) (aq (aj 0) (aq (bH (lA (aq aH (aq aH (aq aH (aq aH (aq aH (aq aH (aq (Pn aH aH) (aq (Pn aH aH) aU)))))))))) aU)))) aU)))))
theorem XH (c : aW K) (Y : K.In base) (G : base.Ns mainGlobals mg) : ∃ fd : FuncData, iw P w K mg base (T K) 3 (Ge.adr K) fd FZ qw ∧ Bn K (T K) fd FZ 1 [] (aD []) := by
 obtain ⟨fd, F⟩ := c.def_ 31 (d := Ge) rfl
 exact ⟨fd, ⟨fn_sim F Xl (Ut c Y G), F.kp⟩, (eU (FunD.bindsN F fun _ _ _ _ _ _ us hl => match us, hl with | [_], _ => (by kernel_rfl)))⟩
theorem XJ (c : aW K) (Y : K.In base) (G : base.Ns mainGlobals mg) : Does P w K mg base (T K) 3 Tj "_law_life" (defScope wG) (defBody wG) Eh := by
 obtain ⟨fd__law_draw, F__law_draw, B__law_draw_0⟩ := ym (P := P) (w := w) c Y G
 obtain ⟨fd__law_number, F__law_number, B__law_number_0⟩ := XH (P := P) (w := w) c Y G
 intro f cdv A outer s H E C
 exact (aJ (aiA C (Hg (dG aH) (Hg (dG (aj 1)) (Hg (lA aU) (Hg (lA aU) (Hg (lA aU) agW))))) (Hi C 2 (Hi C 3 (Hi C 4 (Hi C 5 (Hi C 6 agX))))))
  (aJ (fu (dD (cmp_eq C) (bH (bL C F__law_draw (by decide) B__law_draw_0 (fV c Y G) (aq (aj 0) (aq aH aU)))) (d9 aH))
  (aJ (lW C 2 (bL C F__law_draw (by decide) B__law_draw_0 (fV c Y G) (aq (aj 0) (aq (aj 1) aU))))
  (aR (lW C 3 (gA aH (bH (bL C F__law_draw (by decide) B__law_draw_0 (fV c Y G) (aq (aj 0) (aq (pq (aj 1) (aj 2)) aU))))))))
  dW)
  (aJ (lW C 7 (lA (aq (bH (bL C F__law_number (by decide) B__law_number_0 (yN c Y G) (aq (aj 0) aU))) aU)))
  (aJ (sJ C (Xc aH (aj 3) (rW c Y G)) (bh C 8)
  (aR (fu (dD (cmp_eq C) (bH (bL C F__law_draw (by decide) B__law_draw_0 (fV c Y G) (aq (aj 0) (aq aH aU)))) (d9 aH))
  (aJ (pA (nj 4 (pq (bH (gA (aj 2) (aj 8))) aH)))
  (aR (pA (nj 7 (bH (bL C F__law_number (by decide) B__law_number_0 (yN c Y G) (aq (aj 0) aU)))))))
  (aR (pA (nj 7 (bH (gA (dN 7 (U9 aH)) (bH (bL C F__law_number (by decide) B__law_number_0 (yN c Y G) (aq (aj 0) aU)))))))))))
  (aJ (lW C 9 (s_if (dD cmp_lt (bH (gA (aj 2) (aj 3))) (aj 1)) (gA (aj 4) (bH (lA (aq (pq (bH (gA (aj 2) (aj 3))) aH) aU)))) (GP (bf 4) (vK c Y G))))
  (aJ (sJ C (jh (aj 9)) (bh C 10)
  (aR (fu (dD (cmp_eq C) (bH (bL C F__law_draw (by decide) B__law_draw_0 (fV c Y G) (aq (aj 0) (aq aH aU)))) (d9 aH))
  (aR (pA (nj 5 (qC (aq (aj 10) (aq (bH (gA aH (bH (bL C F__law_number (by decide) B__law_number_0 (yN c Y G) (aq (aj 0) aU))))) aU))))))
  dW)))
  (aJ (sJ C (Xc (aj 2) (bH (gA (aj 2) (aj 3))) (rW c Y G)) (bh C 8)
  (aR (fu (dD (cmp_eq C) (bH (bL C F__law_draw (by decide) B__law_draw_0 (fV c Y G) (aq (aj 0) (aq aH aU)))) (d9 aH))
  (aR (pA (nj 6 (aj 8))))
  dW)))
  (aR (s_ret (dG (qC (aq (aj 2) (aq (aj 7) (aq (aj 4) (aq (aj 5) (aq (aj 6) aU))))))))))))))))
theorem aaU (c : aW K) (Y : K.In base) (G : base.Ns mainGlobals mg) : ∃ fd : FuncData, iw P w K mg base (T K) 4 (JZ.adr K) fd JX qP ∧ Bn K (T K) fd JX 2 [] (aD []) := by
 obtain ⟨fd, F⟩ := c.def_ 32 (d := JZ) rfl
 exact ⟨fd, ⟨fn_sim F aah (XJ c Y G), F.kp⟩, (eU (FunD.bindsN F fun _ _ _ _ _ _ us hl => match us, hl with | [_, _], _ => (by kernel_rfl)))⟩
theorem V2 (c : aW K) (Y : K.In base) (G : base.Ns mainGlobals mg) : Does P w K mg base (T K) 0 Qm "_law_times" (defScope vg) (defBody vg) yg := by
 intro f cdv A outer s H E C
 exact (aJ (s_asg (aj 0) (xG C (cQ (bh C 2) (cQ (bh C 3) (cQ (bh C 4) (cQ (bh C 5) (cQ (bh C 6) uY)))))))
  (aR (s_ret (dG (qC (aq (aj 2) (aq (bH (wZ C [("_law_count", 7)] (jh (aj 3)) (by decide) (fun _ _ _ _ _ => (bh (Cq.blk C) 7)) (fun _ _ _ _ _ => pP) (fun _ _ _ _ _ => (Ph (aj 7) (aj 1))) (blkOk_by rfl))) (aq (aj 4) (aq (bH (wZ C [("_law_gap", 8), ("_law_many", 9)] (jh (aj 5)) (by decide) (fun _ _ _ _ _ => (xG (Cq.blk C) (cQ (bh (Cq.blk C) 8) (cQ (bh (Cq.blk C) 9) uY)))) (fun _ _ _ _ _ => pP) (fun _ _ _ _ _ => (qC (aq (aj 8) (aq (Ph (aj 9) (aj 1)) aU)))) (blkOk_by rfl))) (aq (aj 6) aU))))))))))
theorem YL (c : aW K) (Y : K.In base) (G : base.Ns mainGlobals mg) : ∃ fd : FuncData, iw P w K mg base (T K) 1 (Hz.adr K) fd Hv rQ ∧ Bn K (T K) fd Hv 2 [] (aD []) := by
 obtain ⟨fd, F⟩ := c.def_ 33 (d := Hz) rfl
 exact ⟨fd, ⟨fn_sim F Yz (V2 c Y G), F.kp⟩, (eU (FunD.bindsN F fun _ _ _ _ _ _ us hl => match us, hl with | [_, _], _ => (by kernel_rfl)))⟩
theorem V3 (c : aW K) (Y : K.In base) (G : base.Ns mainGlobals mg) : Does P w K mg base (T K) 1 Qn "_law_moved" (defScope vh) (defBody vh) yh := by
 obtain ⟨fd__law_draw, F__law_draw, B__law_draw_0⟩ := ym (P := P) (w := w) c Y G
 intro f cdv A outer s H E C
 exact (aJ (s_asg (aj 1) (xG C (cQ (bh C 2) (cQ (bh C 3) (cQ (bh C 4) (cQ (bh C 5) (cQ (bh C 6) uY)))))))
  (aJ (lW C 7 (bL C F__law_draw (by decide) B__law_draw_0 (fV c Y G) (aq (aj 0) (aq aH aU))))
  (aJ (fu (dD (cmp_eq C) (aj 7) (d9 aH))
  (aR (s_ret (dG (qC (aq (aj 2) (aq (bH (gA (bH (Rr 3 Ro (Rp (U9 aH)))) (bH (lA (aq (bH (gA (bH (gA (dN 3 (U9 aH)) aH)) (bH (bL C F__law_draw (by decide) B__law_draw_0 (fV c Y G) (aq (aj 0) (aq aH aU)))))) aU))))) (aq (aj 4) (aq (aj 5) (aq (aj 6) aU)))))))))
  dW)
  (aR (s_ret (dG (s_if (dD (cmp_eq C) (aj 7) (d9 aH)) (qC (aq (aj 2) (aq (aj 3) (aq (aj 4) (aq (bH (Rr 5 (Rp aH) Ro)) (aq (aj 6) aU)))))) (qC (aq (aj 2) (aq (aj 3) (aq (aj 4) (aq (aj 5) (aq (bH (Rr 6 (Rp aH) Ro)) aU)))))))))))))
theorem YM (c : aW K) (Y : K.In base) (G : base.Ns mainGlobals mg) : ∃ fd : FuncData, iw P w K mg base (T K) 2 (HF.adr K) fd HD m7 ∧ Bn K (T K) fd HD 2 [] (aD []) := by
 obtain ⟨fd, F⟩ := c.def_ 34 (d := HF) rfl
 exact ⟨fd, ⟨fn_sim F YB (V3 c Y G), F.kp⟩, (eU (FunD.bindsN F fun _ _ _ _ _ _ us hl => match us, hl with | [_, _], _ => (by kernel_rfl)))⟩
theorem YQ (c : aW K) (Y : K.In base) (G : base.Ns mainGlobals mg) : Does P w K mg base (T K) 0 Vo "_law_way" (defScope yw) (defBody yw) Bv := by
 intro f cdv A outer s H E C
 exact (aJ (s_asg (aj 0) (xG C (cQ (bh C 1) (cQ (bh C 2) (cQ (bh C 3) (cQ (bh C 4) (cQ (bh C 5) uY)))))))
  (aJ (lW C 6 (lA aU))
  (aJ (sJ C (jh (aj 2)) (bh C 7)
  (aR (sJ C (jh (aj 2)) (bh C 8)
  (aR (pA (nj 6 (s_if (dD (cmp_eq C) (aj 7) (bf 8)) aH (s_if (dD cmp_gt (aj 7) (aj 8)) aH aH))))))))
  (aR (s_ret (lA (aq (aj 1) (aq (lX (bf 2) (lQ c Y G)) (aq (aj 3) (aq (aj 5) (aq (aj 6) aU)))))))))))
theorem abu (c : aW K) (Y : K.In base) (G : base.Ns mainGlobals mg) : ∃ fd : FuncData, iw P w K mg base (T K) 1 (Mz.adr K) fd Mx oY ∧ Bn K (T K) fd Mx 1 [] (aD []) := by
 obtain ⟨fd, F⟩ := c.def_ 35 (d := Mz) rfl
 exact ⟨fd, ⟨fn_sim F abk (YQ c Y G), F.kp⟩, (eU (FunD.bindsN F fun _ _ _ _ _ _ us hl => match us, hl with | [_], _ => (by kernel_rfl)))⟩
theorem V4 (c : aW K) (Y : K.In base) (G : base.Ns mainGlobals mg) : Does P w K mg base (T K) 0 Qo "_law_added" (defScope vm) (defBody vm) yj := by
 intro f cdv A outer s H E C
 exact (aJ (s_asg (dN 0 aH) (xG C (cQ (bh C 2) (cQ (bh C 3) (cQ (bh C 4) (cQ (bh C 5) (cQ (bh C 6) uY)))))))
  (aJ (Rv C 7 [("_law_at", 12)] (Ae (lX (bf 3) (lQ c Y G)) (rW c Y G)) (by decide) (fun _ _ _ _ _ => (bh (Cq.blk C) 12)) (fun _ _ _ _ _ => pP) (fun _ _ _ _ _ => (K9 (Cq.blk C) (gq (wZ (Cq.blk C) [("_law_life_here", 11)] (jh (aj 0)) (by decide) (fun _ _ _ _ _ => (bh (Cq.blk (Cq.blk C)) 11)) (fun _ _ _ _ _ => pP) (fun _ _ _ _ _ => (Pu (dN 11 aH) (aj 12))) (blkOk_by rfl))) (QM c Y G))) (blkOk_by rfl) (sw_true rfl rfl rfl rfl))
  (aJ (lW C 8 (lA aU))
  (aJ (sJ C (Ae (aj 1) (rW c Y G)) (bh C 9)
  (aJ (rE C 10 aH)
  (aJ (sJ C (jh (aj 0)) (bh C 11)
  (aR (lW C 10 (gA (aj 10) (K9 C (gq (wZ C [("_law_place", 13), ("_law_number_here", 14)] (jh (dN 11 aH)) (by decide) (fun _ _ _ _ _ => (xG (Cq.blk C) (cQ (bh (Cq.blk C) 13) (cQ (bh (Cq.blk C) 14) uY)))) (fun _ _ _ _ _ => (GX (dD (cmp_eq (Cq.blk C)) (aj 13) (bf 9)))) (fun _ _ _ _ _ => (aj 14)) (blkOk_by rfl))) (QM c Y G))))))
  (aR (fu (dD cmp_gt (aj 10) aH)
  (aR (pA (nj 8 (qC (aq (aj 9) (aq (aj 10) aU))))))
  dW)))))
  (aR (s_ret (dG (qC (aq (aj 2) (aq (aj 7) (aq (aj 4) (aq (aj 8) (aq (aj 6) aU)))))))))))))
theorem YS (c : aW K) (Y : K.In base) (G : base.Ns mainGlobals mg) : ∃ fd : FuncData, iw P w K mg base (T K) 1 (HQ.adr K) fd HJ vH ∧ Bn K (T K) fd HJ 2 [] (aD []) := by
 obtain ⟨fd, F⟩ := c.def_ 36 (d := HQ) rfl
 exact ⟨fd, ⟨fn_sim F YC (V4 c Y G), F.kp⟩, (eU (FunD.bindsN F fun _ _ _ _ _ _ us hl => match us, hl with | [_, _], _ => (by kernel_rfl)))⟩
theorem YT (c : aW K) (Y : K.In base) (G : base.Ns mainGlobals mg) : Does P w K mg base (T K) 1 Vp "_law_due" (defScope yz) (defBody yz) Bw := by
 obtain ⟨fd__law_added, F__law_added, B__law_added_0⟩ := YS (P := P) (w := w) c Y G
 obtain ⟨fd__law_way, F__law_way, B__law_way_0⟩ := abu (P := P) (w := w) c Y G
 intro f cdv A outer s H E C
 exact (aJ (lW C 2 (lA aU))
  (aJ (aas C (Qx (aj 0)) (bh C 3)
  (aR (fu (dD (afj C) (bH (bL C F__law_way (by decide) B__law_way_0 (Ka c Y G) (aq (aj 3) aU))) (bf 2))
  (aR (pA (nj 2 (bH (bL C F__law_way (by decide) B__law_way_0 (Ka c Y G) (aq (aj 3) aU))))))
  dW)))
  (aJ (lW C 4 (lA aU))
  (aJ (sJ C (jh (aj 2)) (bh C 5)
  (aR (pA (nj 4 (bH (bL C F__law_added (by decide) B__law_added_0 (YF c Y G) (aq (bH (ad5 C [("_law_life_here", 3)] (Qx (aj 0)) (by decide) (fun _ _ _ _ _ => (bh (Cq.blk C) 3)) (fun _ _ _ _ _ => (GX (dD (cmp_eq (Cq.blk C)) (bH (bL (Cq.blk C) F__law_way (by decide) B__law_way_0 (Ka c Y G) (aq (aj 3) aU))) (bf 5)))) (fun _ _ _ _ _ => (aj 3)) (blkOk_by rfl))) (aq (aj 1) aU))))))))
  (aR (s_ret (Gz 4)))))))
theorem abv (c : aW K) (Y : K.In base) (G : base.Ns mainGlobals mg) : ∃ fd : FuncData, iw P w K mg base (T K) 2 (MJ.adr K) fd MF yL ∧ Bn K (T K) fd MF 2 [] (aD []) := by
 obtain ⟨fd, F⟩ := c.def_ 37 (d := MJ) rfl
 exact ⟨fd, ⟨fn_sim F abl (YT c Y G), F.kp⟩, (eU (FunD.bindsN F fun _ _ _ _ _ _ us hl => match us, hl with | [_, _], _ => (by kernel_rfl)))⟩
theorem Fo (c : aW K) (Y : K.In base) (G : base.Ns mainGlobals mg) {X : Cx} {k : Nat} (hk : 7 ≤ k) (hP : X.prog = P) (hw : X.w = w) (hK : X.K = K) (hm : X.mg = mg) (hb : X.base = base) : Zm X (T K) k "events" jw := by
 subst hP hw hK hm hb
 exact ⟨cX (.cons (by
  obtain ⟨fd, F, B⟩ := QW (P := X.prog) (w := X.w) c Y G
  exact ⟨_, _, _, fd, _, He.cls_ok (c.fact 46 (f := .he (.cls "History")) rfl), Xf (c.fact 56 (f := .prop "History" "events") rfl), F, B, rfl, Nat.le_trans (by decide) hk⟩) .nil)⟩
theorem BJ (c : aW K) (Y : K.In base) (G : base.Ns mainGlobals mg) {X : Cx} {k : Nat} (hk : 8 ≤ k) (hP : X.prog = P) (hw : X.w = w) (hK : X.K = K) (hm : X.mg = mg) (hb : X.base = base) : tU X (T K) k "gathered" ir 0 [] (aD []) := by
 subst hP hw hK hm hb
 exact ⟨cX (.cons (by
  obtain ⟨fd, F, B⟩ := M7 (P := X.prog) (w := X.w) c Y G
  exact ⟨_, _, fd, _, He.cls_ok (c.fact 46 (f := .he (.cls "History")) rfl), He.meth_ok (c.fact 62 (f := .he (.meth "History" "gathered")) rfl), F, B, (by show _ ∉ fld 1; decide +kernel), Nat.le_trans (by decide) hk⟩) .nil)⟩
theorem QX (c : aW K) (Y : K.In base) (G : base.Ns mainGlobals mg) {X : Cx} {k : Nat} (hk : 3 ≤ k) (hP : X.prog = P) (hw : X.w = w) (hK : X.K = K) (hm : X.mg = mg) (hb : X.base = base) : tU X (T K) k "__eq__" lO 1 [] (aD []) := by
 subst hP hw hK hm hb
 exact ⟨cX (.cons (by
  obtain ⟨fd, F, B⟩ := QT (P := X.prog) (w := X.w) c Y G
  exact ⟨_, _, fd, _, He.cls_ok (c.fact 46 (f := .he (.cls "History")) rfl), He.meth_ok (c.fact 63 (f := .he (.meth "History" "__eq__")) rfl), F, B, (by show _ ∉ fld 1; decide +kernel), Nat.le_trans (by decide) hk⟩) .nil)⟩
theorem af9 (c : aW K) (Y : K.In base) (G : base.Ns mainGlobals mg) : Does P w K mg base (T K) 8 agD "law" (defScope RB) (defBody RB) ac4 := by
 obtain ⟨fd__law_as_lives, F__law_as_lives, B__law_as_lives_0⟩ := Ur (P := P) (w := w) c Y G
 obtain ⟨fd__law_draw, F__law_draw, B__law_draw_0⟩ := ym (P := P) (w := w) c Y G
 obtain ⟨fd__law_due, F__law_due, B__law_due_0⟩ := abv (P := P) (w := w) c Y G
 obtain ⟨fd__law_history, F__law_history, B__law_history_0⟩ := VN (P := P) (w := w) c Y G
 obtain ⟨fd__law_life, F__law_life, B__law_life_0⟩ := aaU (P := P) (w := w) c Y G
 obtain ⟨fd__law_moved, F__law_moved, B__law_moved_0⟩ := YM (P := P) (w := w) c Y G
 obtain ⟨fd__law_of, F__law_of, B__law_of_0⟩ := V1 (P := P) (w := w) c Y G
 obtain ⟨fd__law_source, F__law_source, B__law_source_0⟩ := Xx (P := P) (w := w) c Y G
 obtain ⟨fd__law_times, F__law_times, B__law_times_0⟩ := YL (P := P) (w := w) c Y G
 intro f cdv A outer s H E C
 exact (aJ (sJ C (Ae (agU C aH (agV C aH (lX (bf 0) (lQ c Y G)) (ajF c Y G)) (ajG c Y G)) (rW c Y G)) (bh C 1)
  (aJ (rE C 2 (Xd (bL C F__law_source (by decide) B__law_source_0 (Xw c Y G) (aq (aj 0) (aq (aj 1) aU)))))
  (aJ (lW C 3 (gA aH (bH (bL C F__law_draw (by decide) B__law_draw_0 (fV c Y G) (aq (aj 2) (aq aH aU))))))
  (aJ (rE C 4 (Xd (lA aU)))
  (aJ (sJ C (Ae (bH (bL C F__law_draw (by decide) B__law_draw_0 (fV c Y G) (aq (aj 2) (aq aH aU)))) (rW c Y G)) (bh C 5)
  (aJ (lW C 6 (s_if (dD (ahs C) (aj 4) (gq (lA aU))) (bL C F__law_draw (by decide) B__law_draw_0 (fV c Y G) (aq (aj 2) (aq aH aU))) (dG aH)))
  (aJ (fu (dD (cmp_eq C) (aj 6) (d9 aH))
  (aR (pA (nj 4 (bH (bL C F__law_life (by decide) B__law_life_0 (aaO c Y G) (aq (aj 2) (aq (aj 3) aU)))))))
  dW)
  (aJ (fu (wX (vQ (dD (cmp_eq C) (aj 6) (d9 aH)) (v9 (dD (cmp_eq C) (aj 6) (d9 aH)))))
  (aR (pA (nj 4 (bH (bL C F__law_times (by decide) B__law_times_0 (YG c Y G) (aq (bH (bL C F__law_of (by decide) B__law_of_0 (M6 c Y G) (aq (aj 2) (aq (aj 4) aU)))) (aq (bH (gA aH (bH (bL C F__law_draw (by decide) B__law_draw_0 (fV c Y G) (aq (aj 2) (aq aH aU)))))) aU)))))))
  dW)
  (aR (fu (dD (cmp_eq C) (aj 6) (d9 aH))
  (aR (pA (nj 4 (bH (bL C F__law_moved (by decide) B__law_moved_0 (YH c Y G) (aq (aj 2) (aq (bH (bL C F__law_of (by decide) B__law_of_0 (M6 c Y G) (aq (aj 2) (aq (aj 4) aU)))) aU)))))))
  dW))))))
  (aJ (lW C 7 (bL C F__law_history (by decide) B__law_history_0 (VJ c Y G) (aq (aj 4) (aq (aj 3) aU))))
  (aJ (lW C 8 (ZZ C (BJ (P := P) c Y G (by decide) rfl rfl rfl rfl rfl) (aj 7)))
  (aJ (fu (wX (vQ (gG (jZ (gq (bL C F__law_as_lives (by decide) B__law_as_lives_0 (Ij c Y G) (aq (aj 8) (aq (bH (bL C F__law_due (by decide) B__law_due_0 (abp c Y G) (aq (aj 4) (aq (aj 3) aU)))) (aq (aj 3) aU))))))) (v9 (gG (jZ (gq (bL C F__law_as_lives (by decide) B__law_as_lives_0 (Ij c Y G) (aq (aj 7) (aq (aj 4) (aq (aj 3) aU))))))))))
  (aR (s_ret (dG wW)))
  dW)
  (aR (fu (wX (vQ (gG (ab8 (aca (j := 3) C (by decide) (QX (P := P) c Y G (by decide) rfl rfl rfl rfl rfl) (QQ c rfl)) (bH (ZZ C (BJ (P := P) c Y G (by decide) rfl rfl rfl rfl rfl) (aj 8))) (aj 8))) (v9 (dD (KD C) (bH (KQ C (Fo (P := P) c Y G (by decide) rfl rfl rfl rfl rfl) (aj 8))) (gq (KQ C (Fo (P := P) c Y G (by decide) rfl rfl rfl rfl rfl) (aj 7)))))))
  (aR (s_ret (dG wW)))
  dW))))))))))
  (aR (s_ret (dG wW))))
end
end L
namespace L
open PySem PySem.Spec L2 Pk GenP
theorem Kh {fr : Fr} {h : Hh} {Q : Fl → Fr → Hh → Prop} {E : aP → Fr → Hh → Prop} : Wp (oO fr h) Q E = Wp ((
 (bD (aC G8 (aA (bB bG) (au 3)) (au 1))
 (fun fr h => .exc ⟨2, []⟩ fr h)
 (M.ret .nx))) fr h) Q E := congrArg (fun m => Wp (m fr h) Q E) oO.eq_1
theorem Kl {fr : Fr} {h : Hh} {Q : Fl → Fr → Hh → Prop} {E : aP → Fr → Hh → Prop} : Wp (oR fr h) Q E = Wp ((
 (az (nu 0 bG (aa 1))
 (nu 0 cP (aA rC (au 2))))) fr h) Q E := congrArg (fun m => Wp (m fr h) Q E) oR.eq_1
theorem O4 {fr : Fr} {h : Hh} {Q : Fl → Fr → Hh → Prop} {E : aP → Fr → Hh → Prop} : Wp (nZ fr h) Q E = Wp ((
 (az (dJ (iU (aa 2)) (aK 3) oO)
 oR)) fr h) Q E := congrArg (fun m => Wp (m fr h) Q E) nZ.eq_1
theorem Ly {fr : Fr} {h : Hh} {Q : Fl → Fr → Hh → Prop} {E : aP → Fr → Hh → Prop} : Wp (qd fr h) Q E = Wp ((
 (az (bA 2 (aC bR (aA (bB cP) (au 0)) (aA (bB cP) (au 1))))
 (aV (Jq 1 dw (aa 2) (ak [(aA (bB bG) (au 0))]))))) fr h) Q E := congrArg (fun m => Wp (m fr h) Q E) qd.eq_1
theorem QZ {fr : Fr} {h : Hh} {Q : Fl → Fr → Hh → Prop} {E : aP → Fr → Hh → Prop} : Wp (pF fr h) Q E = Wp ((
 (az (bD (aC G8 (aA (bB bG) (au 0)) (aA (bB bG) (au 1)))
 (fun fr h => .exc ⟨2, []⟩ fr h)
 (M.ret .nx))
 qd)) fr h) Q E := congrArg (fun m => Wp (m fr h) Q E) pF.eq_1
theorem Sh {fr : Fr} {h : Hh} {Q : Fl → Fr → Hh → Prop} {E : aP → Fr → Hh → Prop} : Wp (uP fr h) Q E = Wp ((
 (bA 2 (Xi Bt (aa 2) (aX (aG 1 1 dw tW (ak [(aX (aG 2 0 qO (aD []) (ak [(aa 3), (aa 1)]) (ak [])))]) (ak [(aa 1)])))))) fr h) Q E := congrArg (fun m => Wp (m fr h) Q E) uP.eq_1
theorem Ss {fr : Fr} {h : Hh} {Q : Fl → Fr → Hh → Prop} {E : aP → Fr → Hh → Prop} : Wp (uQ fr h) Q E = Wp ((
 (az (xW (Bg (aa 0)) (aK 3) uP)
 (aV (sG 2)))) fr h) Q E := congrArg (fun m => Wp (m fr h) Q E) uQ.eq_1
theorem XM {fr : Fr} {h : Hh} {Q : Fl → Fr → Hh → Prop} {E : aP → Fr → Hh → Prop} : Wp (vC fr h) Q E = Wp ((
 (az (bA 2 (aG 0 1 dw tW (ak []) (ak [(aa 1)])))
 uQ)) fr h) Q E := congrArg (fun m => Wp (m fr h) Q E) vC.eq_1
theorem YW {fr : Fr} {h : Hh} {Q : Fl → Fr → Hh → Prop} {E : aP → Fr → Hh → Prop} : Wp (zJ fr h) Q E = Wp ((
 (eE (fH 1 (aC qp (aA sH (aC (fun h x y => (Va h x y).map .bl) (aa 3) (aa 4))) (aA sH (aC (fun h x y => (NZ h x y).map .bl) (aa 3) (aa 4))))))) fr h) Q E := congrArg (fun m => Wp (m fr h) Q E) zJ.eq_1
theorem YX {fr : Fr} {h : Hh} {Q : Fl → Fr → Hh → Prop} {E : aP → Fr → Hh → Prop} : Wp (zK fr h) Q E = Wp ((
 (dJ (iU (aX (bM 0 (wY Px (KH (aa 2))) uX))) (aK 4) zJ)) fr h) Q E := congrArg (fun m => Wp (m fr h) Q E) zK.eq_1
theorem YZ {fr : Fr} {h : Hh} {Q : Fl → Fr → Hh → Prop} {E : aP → Fr → Hh → Prop} : Wp (zL fr h) Q E = Wp ((
 (az (dJ (Gq (aa 0)) (gM 2 (bu (aK 2) (bu (aK 3) il))) zK)
 (aV (sG 1)))) fr h) Q E := congrArg (fun m => Wp (m fr h) Q E) zL.eq_1
theorem ac7 {fr : Fr} {h : Hh} {Q : Fl → Fr → Hh → Prop} {E : aP → Fr → Hh → Prop} : Wp (Bu fr h) Q E = Wp ((
 (az (bA 1 (fJ []))
 zL)) fr h) Q E := congrArg (fun m => Wp (m fr h) Q E) Bu.eq_1
theorem aga {fr : Fr} {h : Hh} {Q : Fl → Fr → Hh → Prop} {E : aP → Fr → Hh → Prop} : Wp (Ib fr h) Q E = Wp ((
 (aV (ig [(aA (bB eO) (au 0)), (aA bW (aA (bB dM) (au 0))), (aA (bB fG) (au 0)), (aA (bB pZ) (au 0)), (aX (aG 1 0 yE (aD []) (ak [(aA (bB dM) (au 0))]) (ak [])))]))) fr h) Q E := congrArg (fun m => Wp (m fr h) Q E) Ib.eq_1
theorem Sv {fr : Fr} {h : Hh} {Q : Fl → Fr → Hh → Prop} {E : aP → Fr → Hh → Prop} : Wp (uR fr h) Q E = Wp ((
 (RL (aa 1) (aa 3) (aX (aC bR (La (aa 1) (aa 3) (mC (.int 0))) (aa 4))))) fr h) Q E := congrArg (fun m => Wp (m fr h) Q E) uR.eq_1
theorem Sw {fr : Fr} {h : Hh} {Q : Fl → Fr → Hh → Prop} {E : aP → Fr → Hh → Prop} : Wp (uU fr h) Q E = Wp ((
 (dJ (iU (aA (bB lZ) (au 2))) (gM 2 (bu (aK 3) (bu (aK 4) il))) uR)) fr h) Q E := congrArg (fun m => Wp (m fr h) Q E) uU.eq_1
theorem Sy {d : D} {fr : Fr} {h : Hh} {Q : Unit → Fr → Hh → Prop} {E : aP → Fr → Hh → Prop} : Wp (qF d fr h) Q E = Wp ((
 (aK 3)) d fr h) Q E := congrArg (fun m => Wp (m d fr h) Q E) qF.eq_1
theorem SJ {fr : Fr} {h : Hh} {Q : Bool → Fr → Hh → Prop} {E : aP → Fr → Hh → Prop} : Wp (qG fr h) Q E = Wp ((
 (M.ret true)) fr h) Q E := congrArg (fun m => Wp (m fr h) Q E) qG.eq_1
theorem SM {fr : Fr} {h : Hh} {Q : D → Fr → Hh → Prop} {E : aP → Fr → Hh → Prop} : Wp (qH fr h) Q E = Wp ((
 (ig [(aa 3), (RK (aa 1) (aa 3))])) fr h) Q E := congrArg (fun m => Wp (m fr h) Q E) qH.eq_1
theorem SN {fr : Fr} {h : Hh} {Q : Fl → Fr → Hh → Prop} {E : aP → Fr → Hh → Prop} : Wp (uV fr h) Q E = Wp ((
 (az (xW (Bg (aa 0)) (aK 2) uU)
 (aV (km [3] (iU (aX (aA CZ (Ld (aa 1))))) qF qG qH)))) fr h) Q E := congrArg (fun m => Wp (m fr h) Q E) uV.eq_1
theorem XN {fr : Fr} {h : Hh} {Q : Fl → Fr → Hh → Prop} {E : aP → Fr → Hh → Prop} : Wp (vD fr h) Q E = Wp ((
 (az (bA 1 Vv)
 uV)) fr h) Q E := congrArg (fun m => Wp (m fr h) Q E) vD.eq_1
theorem abw {d : D} {fr : Fr} {h : Hh} {Q : Unit → Fr → Hh → Prop} {E : aP → Fr → Hh → Prop} : Wp (zj d fr h) Q E = Wp ((
 (aK 4)) d fr h) Q E := congrArg (fun m => Wp (m d fr h) Q E) zj.eq_1
theorem abx {fr : Fr} {h : Hh} {Q : Bool → Fr → Hh → Prop} {E : aP → Fr → Hh → Prop} : Wp (zm fr h) Q E = Wp ((
 (M.ret true)) fr h) Q E := congrArg (fun m => Wp (m fr h) Q E) zm.eq_1
theorem aby {fr : Fr} {h : Hh} {Q : D → Fr → Hh → Prop} {E : aP → Fr → Hh → Prop} : Wp (zp fr h) Q E = Wp ((
 (aC bT (aA (bB dM) (au 4)) (aa 3))) fr h) Q E := congrArg (fun m => Wp (m fr h) Q E) zp.eq_1
theorem abz {d : D} {fr : Fr} {h : Hh} {Q : Unit → Fr → Hh → Prop} {E : aP → Fr → Hh → Prop} : Wp (zq d fr h) Q E = Wp ((
 (aK 3)) d fr h) Q E := congrArg (fun m => Wp (m d fr h) Q E) zq.eq_1
theorem abA {fr : Fr} {h : Hh} {Q : Bool → Fr → Hh → Prop} {E : aP → Fr → Hh → Prop} : Wp (zr fr h) Q E = Wp ((
 (M.ret true)) fr h) Q E := congrArg (fun m => Wp (m fr h) Q E) zr.eq_1
theorem abB {fr : Fr} {h : Hh} {Q : D → Fr → Hh → Prop} {E : aP → Fr → Hh → Prop} : Wp (zu fr h) Q E = Wp ((
 (aA yC (MP [4] (Bg (aa 0)) zj zm zp))) fr h) Q E := congrArg (fun m => Wp (m fr h) Q E) zu.eq_1
theorem abC {fr : Fr} {h : Hh} {Q : Fl → Fr → Hh → Prop} {E : aP → Fr → Hh → Prop} : Wp (Ed fr h) Q E = Wp ((
 (az (bA 2 (km [3] (oK (aA bW (aA (bB dM) (au 1)))) zq zr zu))
 (aV (aG 1 5 fU (Hm [0, 1, 2, 3, 4] []) (ak [(aa 2)]) (ak [(aA (bB bG) (au 1)), (aA (bB eO) (au 1)), (aA (bB fG) (au 1)), (aX (aG 1 0 qZ (aD []) (ak [(aa 0)]) (ak []))), (aA (bB pZ) (au 1))]))))) fr h) Q E := congrArg (fun m => Wp (m fr h) Q E) Ed.eq_1
theorem agb {fr : Fr} {h : Hh} {Q : Fl → Fr → Hh → Prop} {E : aP → Fr → Hh → Prop} : Wp (Ie fr h) Q E = Wp ((
 (az (bA 1 (bM 0 (mC (.int 0)) bT))
 Ed)) fr h) Q E := congrArg (fun m => Wp (m fr h) Q E) Ie.eq_1
theorem zA {fr : Fr} {h : Hh} {Q : Fl → Fr → Hh → Prop} {E : aP → Fr → Hh → Prop} : Wp (j6 fr h) Q E = Wp ((
 (az (bA 4 (aG 1 0 Dq (aD []) (ak [(aa 3)]) (ak [])))
 (bD (aC Qw (aa 4) (au 1))
 (eE (Rx (bM 2 (GZ 1 (aa 4)) bT) (aa 3)))
 (az (eE (fH 1 (aa 4)))
 (eE (fH 2 (DP (fJ [(aa 3)])))))))) fr h) Q E := congrArg (fun m => Wp (m fr h) Q E) j6.eq_1
theorem Km {d : D} {fr : Fr} {h : Hh} {Q : Unit → Fr → Hh → Prop} {E : aP → Fr → Hh → Prop} : Wp (iH d fr h) Q E = Wp ((
 (aK 6)) d fr h) Q E := congrArg (fun m => Wp (m d fr h) Q E) iH.eq_1
theorem Ko {fr : Fr} {h : Hh} {Q : Bool → Fr → Hh → Prop} {E : aP → Fr → Hh → Prop} : Wp (iI fr h) Q E = Wp ((
 (M.ret true)) fr h) Q E := congrArg (fun m => Wp (m fr h) Q E) iI.eq_1
theorem Kr {fr : Fr} {h : Hh} {Q : D → Fr → Hh → Prop} {E : aP → Fr → Hh → Prop} : Wp (iJ fr h) Q E = Wp ((
 (aX (aG 1 0 Dr (aD []) (ak [(aa 6)]) (ak [])))) fr h) Q E := congrArg (fun m => Wp (m fr h) Q E) iJ.eq_1
theorem Ks {fr : Fr} {h : Hh} {Q : Fl → Fr → Hh → Prop} {E : aP → Fr → Hh → Prop} : Wp (oV fr h) Q E = Wp ((
 (az (bA 5 (km [6] (iU (aa 2)) iH iI iJ))
 (aV (Jq 1 dw (aa 5) (ak [(aA (bB bG) (au 0))]))))) fr h) Q E := congrArg (fun m => Wp (m fr h) Q E) oV.eq_1
theorem Ku {fr : Fr} {h : Hh} {Q : Fl → Fr → Hh → Prop} {E : aP → Fr → Hh → Prop} : Wp (oW fr h) Q E = Wp ((
 (az (dJ (iU (aA (bB cP) (au 0))) (aK 3) j6)
 oV)) fr h) Q E := congrArg (fun m => Wp (m fr h) Q E) oW.eq_1
theorem Kv {fr : Fr} {h : Hh} {Q : Fl → Fr → Hh → Prop} {E : aP → Fr → Hh → Prop} : Wp (oX fr h) Q E = Wp ((
 (az (bA 2 (fJ []))
 oW)) fr h) Q E := congrArg (fun m => Wp (m fr h) Q E) oX.eq_1
theorem O5 {fr : Fr} {h : Hh} {Q : Fl → Fr → Hh → Prop} {E : aP → Fr → Hh → Prop} : Wp (oh fr h) Q E = Wp ((
 (az (bA 1 (fJ []))
 oX)) fr h) Q E := congrArg (fun m => Wp (m fr h) Q E) oh.eq_1
theorem Q3 {fr : Fr} {h : Hh} {Q : Fl → Fr → Hh → Prop} {E : aP → Fr → Hh → Prop} : Wp (pG fr h) Q E = Wp ((
 (aV (aA bW (aA (bB cP) (au 0))))) fr h) Q E := congrArg (fun m => Wp (m fr h) Q E) pG.eq_1
theorem je {fr : Fr} {h : Hh} {Q : Fl → Fr → Hh → Prop} {E : aP → Fr → Hh → Prop} : Wp (qj fr h) Q E = Wp ((
 (az (bA 2 (jN (aC (fun h x y => (fL h x y).map .bl) (aA (bB bG) (au 0)) (aA (bB bG) (au 1))) (jN (aC (fun h x y => (fL h x y).map .bl) (aA (bB eO) (au 0)) (aA (bB eO) (au 1))) (aC (fun h x y => (fL h x y).map .bl) (aA (bB dM) (au 0)) (aA (bB dM) (au 1))))))
 (aV (jN (aa 2) (jN (aC (fun h x y => (fL h x y).map .bl) (aA (bB fG) (au 0)) (aA (bB fG) (au 1))) (jN (aC (fun h x y => (fL h x y).map .bl) (aA (bB lZ) (au 0)) (aA (bB lZ) (au 1))) (aC (fun h x y => (fL h x y).map .bl) (aA (bB pZ) (au 0)) (aA (bB pZ) (au 1))))))))) fr h) Q E := congrArg (fun m => Wp (m fr h) Q E) qj.eq_1
theorem lU {fr : Fr} {h : Hh} {Q : Fl → Fr → Hh → Prop} {E : aP → Fr → Hh → Prop} : Wp (pH fr h) Q E = Wp ((
 (az (bD (cD (aA D.tru (aC (rG mD) (aa 1) (mC (.cls 0)))))
 (aV (mC (.bl false)))
 (M.ret .nx))
 qj)) fr h) Q E := congrArg (fun m => Wp (m fr h) Q E) pH.eq_1
theorem Uu {fr : Fr} {h : Hh} {Q : Fl → Fr → Hh → Prop} {E : aP → Fr → Hh → Prop} : Wp (rO fr h) Q E = Wp ((
 (az (bD (fY (cD (aA D.tru (aG 1 0 j5 (aD []) (ak [(aa 1)]) (ak [])))) (cD (dB Ax NZ (mC (.int 0)) (aa 1) (aA bW (aA (bB cP) (au 0))))))
 (fun _ _ => .err)
 (M.ret .nx))
 (aV (sG 1)))) fr h) Q E := congrArg (fun m => Wp (m fr h) Q E) rO.eq_1
theorem Kw {fr : Fr} {h : Hh} {Q : Fl → Fr → Hh → Prop} {E : aP → Fr → Hh → Prop} : Wp (j7 fr h) Q E = Wp ((
 (aV (aC bT (aA (bB cP) (au 0)) (aX (yt 1 0 Ig (aD []) (aa 0) (ak [(aa 1)]) (ak [])))))) fr h) Q E := congrArg (fun m => Wp (m fr h) Q E) j7.eq_1
theorem Q4 {d : D} {fr : Fr} {h : Hh} {Q : Unit → Fr → Hh → Prop} {E : aP → Fr → Hh → Prop} : Wp (pJ d fr h) Q E = Wp ((
 (aK 3)) d fr h) Q E := congrArg (fun m => Wp (m d fr h) Q E) pJ.eq_1
theorem Q5 {fr : Fr} {h : Hh} {Q : Bool → Fr → Hh → Prop} {E : aP → Fr → Hh → Prop} : Wp (pK fr h) Q E = Wp ((
 (cD (Gf (Qp d8 (fun b => b)) (aX (RG jJ (aa 0) (aa 3))) (aX (aG 2 0 qO (aD []) (ak [(bM 1 (aa 3) bT), (aa 2)]) (ak [])))))) fr h) Q E := congrArg (fun m => Wp (m fr h) Q E) pK.eq_1
theorem V5 {fr : Fr} {h : Hh} {Q : Fl → Fr → Hh → Prop} {E : aP → Fr → Hh → Prop} : Wp (ue fr h) Q E = Wp ((
 (az (bD (fY (cD (aA D.tru (aC (rG mD) (aa 0) (mC (.cls 1))))) (fY (aC G8 (aA (bB bG) (au 0)) (au 2)) (aC G8 (RD ou (aa 0)) (aA bW (au 1)))))
 (aV (mC (.bl false)))
 (M.ret .nx))
 (aV (aC (fun h x y => (fL h x y).map .bl) (aX (km [3] (oK (aA bW (au 1))) pJ pK ye)) (fJ []))))) fr h) Q E := congrArg (fun m => Wp (m fr h) Q E) ue.eq_1
theorem Gn {fr : Fr} {h : Hh} {Q : Fl → Fr → Hh → Prop} {E : aP → Fr → Hh → Prop} : Wp (qI fr h) Q E = Wp ((
 (az (bD (cD (aA D.tru (aC (rG mD) (aa 1) (mC (.cls 1)))))
 (aV (mC (.bl false)))
 (M.ret .nx))
 (aV (jN (aC (fun h x y => (fL h x y).map .bl) (aA (bB bG) (au 0)) (aA (bB bG) (au 1))) (Vb (Gf (Uh d8 jW) (aA (bB cP) (au 0)) (aA (bB cP) (au 1)))))))) fr h) Q E := congrArg (fun m => Wp (m fr h) Q E) qI.eq_1
theorem V6 {fr : Fr} {h : Hh} {Q : Fl → Fr → Hh → Prop} {E : aP → Fr → Hh → Prop} : Wp (uf fr h) Q E = Wp ((
 (aV (aC qp (aX (aC bR (aA (bB eO) (au 0)) (aA bW (aA (bB dM) (au 0))))) (mC (.int 1))))) fr h) Q E := congrArg (fun m => Wp (m fr h) Q E) uf.eq_1
theorem Io {d : D} {fr : Fr} {h : Hh} {Q : Unit → Fr → Hh → Prop} {E : aP → Fr → Hh → Prop} : Wp (jn d fr h) Q E = Wp ((
 (gM 2 (bu (aK 5) (bu (aK 6) il)))) d fr h) Q E := congrArg (fun m => Wp (m d fr h) Q E) jn.eq_1
theorem Ip {fr : Fr} {h : Hh} {Q : Bool → Fr → Hh → Prop} {E : aP → Fr → Hh → Prop} : Wp (jr fr h) Q E = Wp ((
 (aC fL (aa 5) (au 1))) fr h) Q E := congrArg (fun m => Wp (m fr h) Q E) jr.eq_1
theorem Ir {fr : Fr} {h : Hh} {Q : D → Fr → Hh → Prop} {E : aP → Fr → Hh → Prop} : Wp (jt fr h) Q E = Wp ((
 (aa 6)) fr h) Q E := congrArg (fun m => Wp (m fr h) Q E) jt.eq_1
theorem rY {fr : Fr} {h : Hh} {Q : Fl → Fr → Hh → Prop} {E : aP → Fr → Hh → Prop} : Wp (mF fr h) Q E = Wp ((
 (az (bD (fY (aC Pr (aa 1) (aA (bB fG) (au 0))) (cD (aA D.tru (au 3))))
 (aV (aC bR (aa 2) (aa 4)))
 (M.ret .nx))
 (aV (aC qp (aa 4) (aC bT (aA (bB dM) (au 0)) (aC qp (aa 1) (aA (bB eO) (au 0)))))))) fr h) Q E := congrArg (fun m => Wp (m fr h) Q E) mF.eq_1
theorem rZ {fr : Fr} {h : Hh} {Q : Fl → Fr → Hh → Prop} {E : aP → Fr → Hh → Prop} : Wp (mG fr h) Q E = Wp ((
 (az (bA 4 (aC bT (aA (bB dM) (au 0)) (aC qp (aX (aC bR (aa 1) (mC (.int 1)))) (aA (bB eO) (au 0)))))
 mF)) fr h) Q E := congrArg (fun m => Wp (m fr h) Q E) mG.eq_1
theorem jx {fr : Fr} {h : Hh} {Q : Fl → Fr → Hh → Prop} {E : aP → Fr → Hh → Prop} : Wp (mH fr h) Q E = Wp ((
 (az (bD (cD (dB Ax Ax (aA (bB eO) (au 0)) (aX (aC bR (aa 1) (mC (.int 1)))) (aX (xf Ih (aa 0)))))
 (aV (sG 2))
 (M.ret .nx))
 mG)) fr h) Q E := congrArg (fun m => Wp (m fr h) Q E) mH.eq_1
theorem jy {fr : Fr} {h : Hh} {Q : Fl → Fr → Hh → Prop} {E : aP → Fr → Hh → Prop} : Wp (mJ fr h) Q E = Wp ((
 (az (bA 3 (Vb (dB Ax Ax (aA (bB eO) (au 0)) (aa 1) (aX (xf Ih (aa 0))))))
 mH)) fr h) Q E := congrArg (fun m => Wp (m fr h) Q E) mJ.eq_1
theorem lV {fr : Fr} {h : Hh} {Q : Fl → Fr → Hh → Prop} {E : aP → Fr → Hh → Prop} : Wp (lK fr h) Q E = Wp ((
 (az (bA 2 (aA yC (km [5, 6] (iU (aA (bB lZ) (au 0))) jn jr jt)))
 mJ)) fr h) Q E := congrArg (fun m => Wp (m fr h) Q E) lK.eq_1
theorem Lz {d : D} {fr : Fr} {h : Hh} {Q : Unit → Fr → Hh → Prop} {E : aP → Fr → Hh → Prop} : Wp (lL d fr h) Q E = Wp ((
 (aK 1)) d fr h) Q E := congrArg (fun m => Wp (m d fr h) Q E) lL.eq_1
theorem LC {fr : Fr} {h : Hh} {Q : Bool → Fr → Hh → Prop} {E : aP → Fr → Hh → Prop} : Wp (lM fr h) Q E = Wp ((
 (M.ret true)) fr h) Q E := congrArg (fun m => Wp (m fr h) Q E) lM.eq_1
theorem LK {fr : Fr} {h : Hh} {Q : D → Fr → Hh → Prop} {E : aP → Fr → Hh → Prop} : Wp (lN fr h) Q E = Wp ((
 (aX (yt 1 0 yf (aD []) (aa 0) (ak [(aa 1)]) (ak [])))) fr h) Q E := congrArg (fun m => Wp (m fr h) Q E) lN.eq_1
theorem Q6 {fr : Fr} {h : Hh} {Q : Fl → Fr → Hh → Prop} {E : aP → Fr → Hh → Prop} : Wp (pM fr h) Q E = Wp ((
 (aV (aA rC (km [1] (oK (aC qp (aA (bB bG) (au 0)) (mC (.int 1)))) lL lM lN)))) fr h) Q E := congrArg (fun m => Wp (m fr h) Q E) pM.eq_1
theorem Nb {d : D} {fr : Fr} {h : Hh} {Q : Unit → Fr → Hh → Prop} {E : aP → Fr → Hh → Prop} : Wp (mK d fr h) Q E = Wp ((
 (aK 2)) d fr h) Q E := congrArg (fun m => Wp (m d fr h) Q E) mK.eq_1
theorem Nh {fr : Fr} {h : Hh} {Q : Bool → Fr → Hh → Prop} {E : aP → Fr → Hh → Prop} : Wp (mO fr h) Q E = Wp ((
 (M.ret true)) fr h) Q E := congrArg (fun m => Wp (m fr h) Q E) mO.eq_1
theorem Nk {fr : Fr} {h : Hh} {Q : D → Fr → Hh → Prop} {E : aP → Fr → Hh → Prop} : Wp (mQ fr h) Q E = Wp ((
 (aX (xf oA (aa 2)))) fr h) Q E := congrArg (fun m => Wp (m fr h) Q E) mQ.eq_1
theorem Nm {d : D} {fr : Fr} {h : Hh} {Q : Unit → Fr → Hh → Prop} {E : aP → Fr → Hh → Prop} : Wp (mU d fr h) Q E = Wp ((
 (aK 4)) d fr h) Q E := congrArg (fun m => Wp (m d fr h) Q E) mU.eq_1
theorem Np {fr : Fr} {h : Hh} {Q : Bool → Fr → Hh → Prop} {E : aP → Fr → Hh → Prop} : Wp (mV fr h) Q E = Wp ((
 (M.ret true)) fr h) Q E := congrArg (fun m => Wp (m fr h) Q E) mV.eq_1
theorem Nr {fr : Fr} {h : Hh} {Q : D → Fr → Hh → Prop} {E : aP → Fr → Hh → Prop} : Wp (mW fr h) Q E = Wp ((
 (bM 4 (aa 3) bT)) fr h) Q E := congrArg (fun m => Wp (m fr h) Q E) mW.eq_1
theorem BK {d : D} {fr : Fr} {h : Hh} {Q : Unit → Fr → Hh → Prop} {E : aP → Fr → Hh → Prop} : Wp (mX d fr h) Q E = Wp ((
 (aK 3)) d fr h) Q E := congrArg (fun m => Wp (m d fr h) Q E) mX.eq_1
theorem BL {fr : Fr} {h : Hh} {Q : Bool → Fr → Hh → Prop} {E : aP → Fr → Hh → Prop} : Wp (mY fr h) Q E = Wp ((
 (M.ret true)) fr h) Q E := congrArg (fun m => Wp (m fr h) Q E) mY.eq_1
theorem BP {fr : Fr} {h : Hh} {Q : D → Fr → Hh → Prop} {E : aP → Fr → Hh → Prop} : Wp (mZ fr h) Q E = Wp ((
 (aA yC (km [4] (iU (aa 1)) mU mV mW))) fr h) Q E := congrArg (fun m => Wp (m fr h) Q E) mZ.eq_1
theorem SQ {fr : Fr} {h : Hh} {Q : Fl → Fr → Hh → Prop} {E : aP → Fr → Hh → Prop} : Wp (qJ fr h) Q E = Wp ((
 (az (bA 1 (km [2] (iU (aA (bB cP) (au 0))) mK mO mQ))
 (aV (aA rC (km [3] (oK (aC qp (aA (bB bG) (au 0)) (mC (.int 1)))) mX mY mZ))))) fr h) Q E := congrArg (fun m => Wp (m fr h) Q E) qJ.eq_1
theorem aeD {fr : Fr} {h : Hh} {Q : Fl → Fr → Hh → Prop} {E : aP → Fr → Hh → Prop} : Wp (Aj fr h) Q E = Wp ((
 (aV (bM 1 (aX (aG 2 0 bV (aD []) (ak [(aa 0), (aA bW (au 1))]) (ak []))) bT))) fr h) Q E := congrArg (fun m => Wp (m fr h) Q E) Aj.eq_1
theorem V7 {d : D} {fr : Fr} {h : Hh} {Q : Unit → Fr → Hh → Prop} {E : aP → Fr → Hh → Prop} : Wp (ug d fr h) Q E = Wp ((
 (aK 7)) d fr h) Q E := congrArg (fun m => Wp (m d fr h) Q E) ug.eq_1
theorem V8 {fr : Fr} {h : Hh} {Q : Bool → Fr → Hh → Prop} {E : aP → Fr → Hh → Prop} : Wp (uh fr h) Q E = Wp ((
 (M.ret true)) fr h) Q E := congrArg (fun m => Wp (m fr h) Q E) uh.eq_1
theorem V9 {fr : Fr} {h : Hh} {Q : D → Fr → Hh → Prop} {E : aP → Fr → Hh → Prop} : Wp (ul fr h) Q E = Wp ((
 (aC Pg (aa 7) (aa 1))) fr h) Q E := congrArg (fun m => Wp (m fr h) Q E) ul.eq_1
theorem Wb {d : D} {fr : Fr} {h : Hh} {Q : Unit → Fr → Hh → Prop} {E : aP → Fr → Hh → Prop} : Wp (uo d fr h) Q E = Wp ((
 (gM 2 (bu (aK 8) (bu (aK 9) il)))) d fr h) Q E := congrArg (fun m => Wp (m d fr h) Q E) uo.eq_1
theorem Wc {fr : Fr} {h : Hh} {Q : Bool → Fr → Hh → Prop} {E : aP → Fr → Hh → Prop} : Wp (uv fr h) Q E = Wp ((
 (M.ret true)) fr h) Q E := congrArg (fun m => Wp (m fr h) Q E) uv.eq_1
theorem We {fr : Fr} {h : Hh} {Q : D → Fr → Hh → Prop} {E : aP → Fr → Hh → Prop} : Wp (uw fr h) Q E = Wp ((
 (ig [(aa 8), (aC Pg (aa 9) (aa 1))])) fr h) Q E := congrArg (fun m => Wp (m fr h) Q E) uw.eq_1
theorem aaV {fr : Fr} {h : Hh} {Q : Fl → Fr → Hh → Prop} {E : aP → Fr → Hh → Prop} : Wp (yg fr h) Q E = Wp ((
 (az (Fw (aa 0) (gM 5 (bu (aK 2) (bu (aK 3) (bu (aK 4) (bu (aK 5) (bu (aK 6) il)))))))
 (aV (ig [(aa 2), (aX (km [7] (iU (aa 3)) ug uh ul)), (aa 4), (aX (km [8, 9] (iU (aa 5)) uo uv uw)), (aa 6)])))) fr h) Q E := congrArg (fun m => Wp (m fr h) Q E) yg.eq_1
theorem BR {fr : Fr} {h : Hh} {Q : Fl → Fr → Hh → Prop} {E : aP → Fr → Hh → Prop} : Wp (xj fr h) Q E = Wp ((
 (az (bD (aC fL (aa 7) (mC (.int 0)))
 (aV (ig [(aa 2), (aX (aC bR (aX (bM 3 (wY Px (KH (aA (fun _ => Cv) (mC (.int 1))))) uX)) (aX (fJ [(aX (aC bR (aX (aC bR (bM 3 (aA (fun _ => Cv) (mC (.int 1))) bT) (mC (.int 1)))) (aX (aG 2 0 bV (aD []) (ak [(aa 0), (mC (.int 3))]) (ak [])))))])))), (aa 4), (aa 5), (aa 6)]))
 (M.ret .nx))
 (aV (Ad (aC fL (aa 7) (mC (.int 1))) (ig [(aa 2), (aa 3), (aa 4), (aX (bM 5 (wY (KH (mC (.int 1))) Px) uX)), (aa 6)]) (ig [(aa 2), (aa 3), (aa 4), (aa 5), (aX (bM 6 (wY (KH (mC (.int 1))) Px) uX))]))))) fr h) Q E := congrArg (fun m => Wp (m fr h) Q E) xj.eq_1
theorem BV {fr : Fr} {h : Hh} {Q : Fl → Fr → Hh → Prop} {E : aP → Fr → Hh → Prop} : Wp (xm fr h) Q E = Wp ((
 (az (bA 7 (aG 2 0 bV (aD []) (ak [(aa 0), (mC (.int 3))]) (ak [])))
 xj)) fr h) Q E := congrArg (fun m => Wp (m fr h) Q E) xm.eq_1
theorem Iu {fr : Fr} {h : Hh} {Q : Fl → Fr → Hh → Prop} {E : aP → Fr → Hh → Prop} : Wp (yh fr h) Q E = Wp ((
 (az (Fw (aa 1) (gM 5 (bu (aK 2) (bu (aK 3) (bu (aK 4) (bu (aK 5) (bu (aK 6) il)))))))
 xm)) fr h) Q E := congrArg (fun m => Wp (m fr h) Q E) yh.eq_1
theorem Gi {fr : Fr} {h : Hh} {Q : Fl → Fr → Hh → Prop} {E : aP → Fr → Hh → Prop} : Wp (zM fr h) Q E = Wp ((
 (eE (fH 6 (Ad (aC fL (aa 7) (au 8)) (mC (.int 0)) (Ad (aC Va (aa 7) (aa 8)) (mC (.int 1)) (mC (.int 2))))))) fr h) Q E := congrArg (fun m => Wp (m fr h) Q E) zM.eq_1
theorem Y0 {fr : Fr} {h : Hh} {Q : Fl → Fr → Hh → Prop} {E : aP → Fr → Hh → Prop} : Wp (zN fr h) Q E = Wp ((
 (dJ (iU (aa 2)) (aK 8) zM)) fr h) Q E := congrArg (fun m => Wp (m fr h) Q E) zN.eq_1
theorem Y4 {fr : Fr} {h : Hh} {Q : Fl → Fr → Hh → Prop} {E : aP → Fr → Hh → Prop} : Wp (zP fr h) Q E = Wp ((
 (az (dJ (iU (aa 2)) (aK 7) zN)
 (aV (fJ [(aa 1), (aA bW (au 2)), (aa 3), (aa 5), (aa 6)])))) fr h) Q E := congrArg (fun m => Wp (m fr h) Q E) zP.eq_1
theorem Y5 {fr : Fr} {h : Hh} {Q : Fl → Fr → Hh → Prop} {E : aP → Fr → Hh → Prop} : Wp (zQ fr h) Q E = Wp ((
 (az (bA 6 (fJ []))
 zP)) fr h) Q E := congrArg (fun m => Wp (m fr h) Q E) zQ.eq_1
theorem ac8 {fr : Fr} {h : Hh} {Q : Fl → Fr → Hh → Prop} {E : aP → Fr → Hh → Prop} : Wp (Bv fr h) Q E = Wp ((
 (az (Fw (aa 0) (gM 5 (bu (aK 1) (bu (aK 2) (bu (aK 3) (bu (aK 4) (bu (aK 5) il)))))))
 zQ)) fr h) Q E := congrArg (fun m => Wp (m fr h) Q E) Bv.eq_1
theorem Wf {d : D} {fr : Fr} {h : Hh} {Q : Unit → Fr → Hh → Prop} {E : aP → Fr → Hh → Prop} : Wp (ux d fr h) Q E = Wp ((
 (aK 11)) d fr h) Q E := congrArg (fun m => Wp (m d fr h) Q E) ux.eq_1
theorem Wg {fr : Fr} {h : Hh} {Q : Bool → Fr → Hh → Prop} {E : aP → Fr → Hh → Prop} : Wp (uz fr h) Q E = Wp ((
 (M.ret true)) fr h) Q E := congrArg (fun m => Wp (m fr h) Q E) uz.eq_1
theorem Wh {fr : Fr} {h : Hh} {Q : D → Fr → Hh → Prop} {E : aP → Fr → Hh → Prop} : Wp (uA fr h) Q E = Wp ((
 (aC bT (bM 11 (mC (.int 1)) bT) (aa 12))) fr h) Q E := congrArg (fun m => Wp (m fr h) Q E) uA.eq_1
theorem Wi {d : D} {fr : Fr} {h : Hh} {Q : Unit → Fr → Hh → Prop} {E : aP → Fr → Hh → Prop} : Wp (uB d fr h) Q E = Wp ((
 (aK 12)) d fr h) Q E := congrArg (fun m => Wp (m d fr h) Q E) uB.eq_1
theorem Wj {fr : Fr} {h : Hh} {Q : Bool → Fr → Hh → Prop} {E : aP → Fr → Hh → Prop} : Wp (uC fr h) Q E = Wp ((
 (M.ret true)) fr h) Q E := congrArg (fun m => Wp (m fr h) Q E) uC.eq_1
theorem Wk {fr : Fr} {h : Hh} {Q : D → Fr → Hh → Prop} {E : aP → Fr → Hh → Prop} : Wp (uD fr h) Q E = Wp ((
 (aA yC (km [11] (iU (aa 0)) ux uz uA))) fr h) Q E := congrArg (fun m => Wp (m fr h) Q E) uD.eq_1
theorem Wl {d : D} {fr : Fr} {h : Hh} {Q : Unit → Fr → Hh → Prop} {E : aP → Fr → Hh → Prop} : Wp (uE d fr h) Q E = Wp ((
 (gM 2 (bu (aK 13) (bu (aK 14) il)))) d fr h) Q E := congrArg (fun m => Wp (m d fr h) Q E) uE.eq_1
theorem Wm {fr : Fr} {h : Hh} {Q : Bool → Fr → Hh → Prop} {E : aP → Fr → Hh → Prop} : Wp (uF fr h) Q E = Wp ((
 (aC fL (aa 13) (au 9))) fr h) Q E := congrArg (fun m => Wp (m fr h) Q E) uF.eq_1
theorem Wn {fr : Fr} {h : Hh} {Q : D → Fr → Hh → Prop} {E : aP → Fr → Hh → Prop} : Wp (uG fr h) Q E = Wp ((
 (aa 14)) fr h) Q E := congrArg (fun m => Wp (m fr h) Q E) uG.eq_1
theorem Uv {fr : Fr} {h : Hh} {Q : Fl → Fr → Hh → Prop} {E : aP → Fr → Hh → Prop} : Wp (v5 fr h) Q E = Wp ((
 (bA 10 (aC bR (aa 10) (aA yC (km [13, 14] (iU (bM 11 (mC (.int 3)) bT)) uE uF uG))))) fr h) Q E := congrArg (fun m => Wp (m fr h) Q E) v5.eq_1
theorem Uw {fr : Fr} {h : Hh} {Q : Fl → Fr → Hh → Prop} {E : aP → Fr → Hh → Prop} : Wp (v7 fr h) Q E = Wp ((
 (az (bA 10 (mC (.int 0)))
 (az (dJ (iU (aa 0)) (aK 11) v5)
 (bD (aC Va (aa 10) (mC (.int 0)))
 (eE (fH 8 (ig [(aa 9), (aa 10)])))
 (M.ret .nx))))) fr h) Q E := congrArg (fun m => Wp (m fr h) Q E) v7.eq_1
theorem Wo {fr : Fr} {h : Hh} {Q : Fl → Fr → Hh → Prop} {E : aP → Fr → Hh → Prop} : Wp (xq fr h) Q E = Wp ((
 (az (dJ (oK (aa 1)) (aK 9) v7)
 (aV (ig [(aa 2), (aa 7), (aa 4), (aa 8), (aa 6)])))) fr h) Q E := congrArg (fun m => Wp (m fr h) Q E) xq.eq_1
theorem Wr {fr : Fr} {h : Hh} {Q : Fl → Fr → Hh → Prop} {E : aP → Fr → Hh → Prop} : Wp (xr fr h) Q E = Wp ((
 (az (bA 8 (fJ []))
 xq)) fr h) Q E := congrArg (fun m => Wp (m fr h) Q E) xr.eq_1
theorem Ws {fr : Fr} {h : Hh} {Q : Fl → Fr → Hh → Prop} {E : aP → Fr → Hh → Prop} : Wp (xF fr h) Q E = Wp ((
 (az (bA 7 (km [12] (oK (aA bW (au 3))) uB uC uD))
 xr)) fr h) Q E := congrArg (fun m => Wp (m fr h) Q E) xF.eq_1
theorem aaW {fr : Fr} {h : Hh} {Q : Fl → Fr → Hh → Prop} {E : aP → Fr → Hh → Prop} : Wp (yj fr h) Q E = Wp ((
 (az (Fw (bM 0 (mC (.int 0)) bT) (gM 5 (bu (aK 2) (bu (aK 3) (bu (aK 4) (bu (aK 5) (bu (aK 6) il)))))))
 xF)) fr h) Q E := congrArg (fun m => Wp (m fr h) Q E) yj.eq_1
theorem Oa {fr : Fr} {h : Hh} {Q : Fl → Fr → Hh → Prop} {E : aP → Fr → Hh → Prop} : Wp (zR fr h) Q E = Wp ((
 (bD (aC Vt (aX (aG 1 0 oY (aD []) (ak [(aa 3)]) (ak []))) (au 2))
 (eE (fH 2 (aX (aG 1 0 oY (aD []) (ak [(aa 3)]) (ak [])))))
 (M.ret .nx))) fr h) Q E := congrArg (fun m => Wp (m fr h) Q E) zR.eq_1
theorem Oc {d : D} {fr : Fr} {h : Hh} {Q : Unit → Fr → Hh → Prop} {E : aP → Fr → Hh → Prop} : Wp (wk d fr h) Q E = Wp ((
 (aK 3)) d fr h) Q E := congrArg (fun m => Wp (m d fr h) Q E) wk.eq_1
theorem Od {fr : Fr} {h : Hh} {Q : Bool → Fr → Hh → Prop} {E : aP → Fr → Hh → Prop} : Wp (wu fr h) Q E = Wp ((
 (aC fL (aX (aG 1 0 oY (aD []) (ak [(aa 3)]) (ak []))) (au 5))) fr h) Q E := congrArg (fun m => Wp (m fr h) Q E) wu.eq_1
theorem Y6 {fr : Fr} {h : Hh} {Q : D → Fr → Hh → Prop} {E : aP → Fr → Hh → Prop} : Wp (wy fr h) Q E = Wp ((
 (aa 3)) fr h) Q E := congrArg (fun m => Wp (m fr h) Q E) wy.eq_1
theorem Y7 {fr : Fr} {h : Hh} {Q : Fl → Fr → Hh → Prop} {E : aP → Fr → Hh → Prop} : Wp (zU fr h) Q E = Wp ((
 (eE (fH 4 (aX (aG 2 0 vH (aD []) (ak [(aX (MP [3] (Bg (aa 0)) wk wu wy)), (aa 1)]) (ak [])))))) fr h) Q E := congrArg (fun m => Wp (m fr h) Q E) zU.eq_1
theorem Y8 {fr : Fr} {h : Hh} {Q : Fl → Fr → Hh → Prop} {E : aP → Fr → Hh → Prop} : Wp (zV fr h) Q E = Wp ((
 (az (dJ (iU (aa 2)) (aK 5) zU)
 (aV (sG 4)))) fr h) Q E := congrArg (fun m => Wp (m fr h) Q E) zV.eq_1
theorem Y9 {fr : Fr} {h : Hh} {Q : Fl → Fr → Hh → Prop} {E : aP → Fr → Hh → Prop} : Wp (zW fr h) Q E = Wp ((
 (az (bA 4 (fJ []))
 zV)) fr h) Q E := congrArg (fun m => Wp (m fr h) Q E) zW.eq_1
theorem Za {fr : Fr} {h : Hh} {Q : Fl → Fr → Hh → Prop} {E : aP → Fr → Hh → Prop} : Wp (zX fr h) Q E = Wp ((
 (az (xW (Bg (aa 0)) (aK 3) zR)
 zW)) fr h) Q E := congrArg (fun m => Wp (m fr h) Q E) zX.eq_1
theorem ac9 {fr : Fr} {h : Hh} {Q : Fl → Fr → Hh → Prop} {E : aP → Fr → Hh → Prop} : Wp (Bw fr h) Q E = Wp ((
 (az (bA 2 (fJ []))
 zX)) fr h) Q E := congrArg (fun m => Wp (m fr h) Q E) Bw.eq_1
theorem zB {fr : Fr} {h : Hh} {Q : Fl → Fr → Hh → Prop} {E : aP → Fr → Hh → Prop} : Wp (Ei fr h) Q E = Wp ((
 (az (bD (fY (aC fL (aa 6) (mC (.int 1))) (aC fL (aa 6) (mC (.int 2))))
 (eE (fH 4 (aX (aG 2 0 rQ (aD []) (ak [(aX (aG 2 0 nQ (aD []) (ak [(aa 2), (aa 4)]) (ak []))), (aX (aC bR (mC (.int 1)) (aX (aG 2 0 bV (aD []) (ak [(aa 2), (mC (.int 4))]) (ak [])))))]) (ak [])))))
 (M.ret .nx))
 (bD (aC fL (aa 6) (mC (.int 3)))
 (eE (fH 4 (aX (aG 2 0 m7 (aD []) (ak [(aa 2), (aX (aG 2 0 nQ (aD []) (ak [(aa 2), (aa 4)]) (ak [])))]) (ak [])))))
 (M.ret .nx)))) fr h) Q E := congrArg (fun m => Wp (m fr h) Q E) Ei.eq_1
theorem zE {fr : Fr} {h : Hh} {Q : Fl → Fr → Hh → Prop} {E : aP → Fr → Hh → Prop} : Wp (Ek fr h) Q E = Wp ((
 (az (bD (aC fL (aa 6) (mC (.int 0)))
 (eE (fH 4 (aX (aG 2 0 qP (aD []) (ak [(aa 2), (aa 3)]) (ak [])))))
 (M.ret .nx))
 Ei)) fr h) Q E := congrArg (fun m => Wp (m fr h) Q E) Ek.eq_1
theorem Iv {fr : Fr} {h : Hh} {Q : Fl → Fr → Hh → Prop} {E : aP → Fr → Hh → Prop} : Wp (Aa fr h) Q E = Wp ((
 (az (bA 6 (Ad (aC aaA (aa 4) (fJ [])) (aG 2 0 bV (aD []) (ak [(aa 2), (mC (.int 4))]) (ak [])) (mC (.int 0))))
 Ek)) fr h) Q E := congrArg (fun m => Wp (m fr h) Q E) Aa.eq_1
theorem abD {fr : Fr} {h : Hh} {Q : Fl → Fr → Hh → Prop} {E : aP → Fr → Hh → Prop} : Wp (El fr h) Q E = Wp ((
 (az (bD (fY (cD (aA D.tru (aG 3 0 jO (aD []) (ak [(aa 8), (aX (aG 2 0 yL (aD []) (ak [(aa 4), (aa 3)]) (ak []))), (aa 3)]) (ak [])))) (cD (aA D.tru (aG 3 0 jO (aD []) (ak [(aa 7), (aa 4), (aa 3)]) (ak [])))))
 (aV (mC (.bl false)))
 (M.ret .nx))
 (bD (fY (cD (Gf (Qp lO (fun b => b)) (aX (yt 0 0 ir (aD []) (aa 8) (ak []) (ak []))) (aa 8))) (aC G8 (aX (xf jw (aa 8))) (xf jw (aa 7))))
 (aV (mC (.bl false)))
 (M.ret .nx)))) fr h) Q E := congrArg (fun m => Wp (m fr h) Q E) El.eq_1
theorem abE {fr : Fr} {h : Hh} {Q : Fl → Fr → Hh → Prop} {E : aP → Fr → Hh → Prop} : Wp (En fr h) Q E = Wp ((
 (az (bA 8 (yt 0 0 ir (aD []) (aa 7) (ak []) (ak [])))
 El)) fr h) Q E := congrArg (fun m => Wp (m fr h) Q E) En.eq_1
theorem abF {fr : Fr} {h : Hh} {Q : Fl → Fr → Hh → Prop} {E : aP → Fr → Hh → Prop} : Wp (wM fr h) Q E = Wp ((
 (az (bA 7 (aG 2 0 qY (aD []) (ak [(aa 4), (aa 3)]) (ak [])))
 En)) fr h) Q E := congrArg (fun m => Wp (m fr h) Q E) wM.eq_1
theorem abG {fr : Fr} {h : Hh} {Q : Fl → Fr → Hh → Prop} {E : aP → Fr → Hh → Prop} : Wp (Eo fr h) Q E = Wp ((
 (az (dJ (oK (aX (aG 2 0 bV (aD []) (ak [(aa 2), (mC (.int 12))]) (ak [])))) (aK 5) Aa)
 wM)) fr h) Q E := congrArg (fun m => Wp (m fr h) Q E) Eo.eq_1
theorem abH {fr : Fr} {h : Hh} {Q : Fl → Fr → Hh → Prop} {E : aP → Fr → Hh → Prop} : Wp (Ep fr h) Q E = Wp ((
 (az (bA 4 (DP (fJ [])))
 Eo)) fr h) Q E := congrArg (fun m => Wp (m fr h) Q E) Ep.eq_1
theorem abI {fr : Fr} {h : Hh} {Q : Fl → Fr → Hh → Prop} {E : aP → Fr → Hh → Prop} : Wp (Es fr h) Q E = Wp ((
 (az (bA 3 (aC bR (mC (.int 2)) (aX (aG 2 0 bV (aD []) (ak [(aa 2), (mC (.int 3))]) (ak [])))))
 Ep)) fr h) Q E := congrArg (fun m => Wp (m fr h) Q E) Es.eq_1
theorem aeE {fr : Fr} {h : Hh} {Q : Fl → Fr → Hh → Prop} {E : aP → Fr → Hh → Prop} : Wp (Jz fr h) Q E = Wp ((
 (az (bA 2 (DP (aG 2 0 nO (aD []) (ak [(aa 0), (aa 1)]) (ak []))))
 Es)) fr h) Q E := congrArg (fun m => Wp (m fr h) Q E) Jz.eq_1
theorem Nt {ds : List D} {h : Hh} {Q : D → Fr → Hh → Prop} {E : aP → Fr → Hh → Prop} : Wp (dw ds h) Q E = Wp (runI 1 4 nZ ds h) Q E := congrArg (fun m => Wp (m ds h) Q E) dw.eq_1
theorem O6 {ds : List D} {h : Hh} {Q : D → Fr → Hh → Prop} {E : aP → Fr → Hh → Prop} : Wp (lH ds h) Q E = Wp (bO 3 pF ds h) Q E := congrArg (fun m => Wp (m ds h) Q E) lH.eq_1
theorem Wt {ds : List D} {h : Hh} {Q : D → Fr → Hh → Prop} {E : aP → Fr → Hh → Prop} : Wp (qY ds h) Q E = Wp (bO 4 vC ds h) Q E := congrArg (fun m => Wp (m ds h) Q E) qY.eq_1
theorem abJ {ds : List D} {h : Hh} {Q : D → Fr → Hh → Prop} {E : aP → Fr → Hh → Prop} : Wp (yE ds h) Q E = Wp (bO 5 Bu ds h) Q E := congrArg (fun m => Wp (m ds h) Q E) yE.eq_1
theorem aeF {ds : List D} {h : Hh} {Q : D → Fr → Hh → Prop} {E : aP → Fr → Hh → Prop} : Wp (Dq ds h) Q E = Wp (bO 1 Ib ds h) Q E := congrArg (fun m => Wp (m ds h) Q E) Dq.eq_1
theorem Wu {ds : List D} {h : Hh} {Q : D → Fr → Hh → Prop} {E : aP → Fr → Hh → Prop} : Wp (qZ ds h) Q E = Wp (bO 5 vD ds h) Q E := congrArg (fun m => Wp (m ds h) Q E) qZ.eq_1
theorem aeG {ds : List D} {h : Hh} {Q : D → Fr → Hh → Prop} {E : aP → Fr → Hh → Prop} : Wp (Dr ds h) Q E = Wp (bO 5 Ie ds h) Q E := congrArg (fun m => Wp (m ds h) Q E) Dr.eq_1
theorem Nu {ds : List D} {h : Hh} {Q : D → Fr → Hh → Prop} {E : aP → Fr → Hh → Prop} : Wp (jV ds h) Q E = Wp (bO 7 oh ds h) Q E := congrArg (fun m => Wp (m ds h) Q E) jV.eq_1
theorem O7 {ds : List D} {h : Hh} {Q : D → Fr → Hh → Prop} {E : aP → Fr → Hh → Prop} : Wp (lJ ds h) Q E = Wp (bO 1 pG ds h) Q E := congrArg (fun m => Wp (m ds h) Q E) lJ.eq_1
theorem jX {ds : List D} {h : Hh} {Q : D → Fr → Hh → Prop} {E : aP → Fr → Hh → Prop} : Wp (jm ds h) Q E = Wp (bO 3 pH ds h) Q E := congrArg (fun m => Wp (m ds h) Q E) jm.eq_1
theorem S7 {ds : List D} {h : Hh} {Q : D → Fr → Hh → Prop} {E : aP → Fr → Hh → Prop} : Wp (rP ds h) Q E = Wp (bO 2 rO ds h) Q E := congrArg (fun m => Wp (m ds h) Q E) rP.eq_1
theorem Jf {ds : List D} {h : Hh} {Q : D → Fr → Hh → Prop} {E : aP → Fr → Hh → Prop} : Wp (iK ds h) Q E = Wp (bO 2 j7 ds h) Q E := congrArg (fun m => Wp (m ds h) Q E) iK.eq_1
theorem Ux {ds : List D} {h : Hh} {Q : D → Fr → Hh → Prop} {E : aP → Fr → Hh → Prop} : Wp (jO ds h) Q E = Wp (bO 4 ue ds h) Q E := congrArg (fun m => Wp (m ds h) Q E) jO.eq_1
theorem Fp {ds : List D} {h : Hh} {Q : D → Fr → Hh → Prop} {E : aP → Fr → Hh → Prop} : Wp (nJ ds h) Q E = Wp (bO 2 qI ds h) Q E := congrArg (fun m => Wp (m ds h) Q E) nJ.eq_1
theorem Uy {ds : List D} {h : Hh} {Q : D → Fr → Hh → Prop} {E : aP → Fr → Hh → Prop} : Wp (ql ds h) Q E = Wp (bO 1 uf ds h) Q E := congrArg (fun m => Wp (m ds h) Q E) ql.eq_1
theorem j9 {ds : List D} {h : Hh} {Q : D → Fr → Hh → Prop} {E : aP → Fr → Hh → Prop} : Wp (jc ds h) Q E = Wp (bO 7 lK ds h) Q E := congrArg (fun m => Wp (m ds h) Q E) jc.eq_1
theorem O8 {ds : List D} {h : Hh} {Q : D → Fr → Hh → Prop} {E : aP → Fr → Hh → Prop} : Wp (ju ds h) Q E = Wp (bO 2 pM ds h) Q E := congrArg (fun m => Wp (m ds h) Q E) ju.eq_1
theorem Q7 {ds : List D} {h : Hh} {Q : D → Fr → Hh → Prop} {E : aP → Fr → Hh → Prop} : Wp (nM ds h) Q E = Wp (bO 5 qJ ds h) Q E := congrArg (fun m => Wp (m ds h) Q E) nM.eq_1
theorem ada {ds : List D} {h : Hh} {Q : D → Fr → Hh → Prop} {E : aP → Fr → Hh → Prop} : Wp (nQ ds h) Q E = Wp (bO 2 Aj ds h) Q E := congrArg (fun m => Wp (m ds h) Q E) nQ.eq_1
theorem Zb {ds : List D} {h : Hh} {Q : D → Fr → Hh → Prop} {E : aP → Fr → Hh → Prop} : Wp (rQ ds h) Q E = Wp (bO 10 yg ds h) Q E := congrArg (fun m => Wp (m ds h) Q E) rQ.eq_1
theorem Gj {ds : List D} {h : Hh} {Q : D → Fr → Hh → Prop} {E : aP → Fr → Hh → Prop} : Wp (m7 ds h) Q E = Wp (bO 8 yh ds h) Q E := congrArg (fun m => Wp (m ds h) Q E) m7.eq_1
theorem abK {ds : List D} {h : Hh} {Q : D → Fr → Hh → Prop} {E : aP → Fr → Hh → Prop} : Wp (oY ds h) Q E = Wp (bO 9 Bv ds h) Q E := congrArg (fun m => Wp (m ds h) Q E) oY.eq_1
theorem Zd {ds : List D} {h : Hh} {Q : D → Fr → Hh → Prop} {E : aP → Fr → Hh → Prop} : Wp (vH ds h) Q E = Wp (bO 15 yj ds h) Q E := congrArg (fun m => Wp (m ds h) Q E) vH.eq_1
theorem abL {ds : List D} {h : Hh} {Q : D → Fr → Hh → Prop} {E : aP → Fr → Hh → Prop} : Wp (yL ds h) Q E = Wp (bO 6 Bw ds h) Q E := congrArg (fun m => Wp (m ds h) Q E) yL.eq_1
theorem iW : bG 0 = some 0 := by unfold bG; rfl
theorem m9 : bG 1 = some 0 := by unfold bG; rfl
theorem lg : cP 1 = some 1 := by unfold cP; rfl
theorem gK : eO 0 = some 1 := by unfold eO; rfl
theorem iy : dM 0 = some 2 := by unfold dM; rfl
theorem jP : fG 0 = some 3 := by unfold fG; rfl
theorem pN : lZ 0 = some 4 := by unfold lZ; rfl
theorem Ky : pZ 0 = some 5 := by unfold pZ; rfl
theorem XQ : Bt 1 = some lH := by unfold Bt; rfl
theorem aaX : Ig 1 = some rP := by unfold Ig; rfl
theorem Jg : ou 1 = some lJ := by unfold ou; rfl
theorem Jh : d8 0 = some jm := by unfold d8; rfl
theorem Ft : jJ 1 = some iK := by unfold jJ; rfl
theorem Gv : Ih 0 = some ql := by unfold Ih; rfl
theorem Uz : yf 0 = some jc := by unfold yf; rfl
theorem Ji : oA 0 = some ju := by unfold oA; rfl
theorem Kz : jw 1 = some nM := by unfold jw; rfl
theorem Iw : ir 1 = some jV := by unfold ir; rfl
theorem KC : lO 1 = some nJ := by unfold lO; rfl
end L
namespace L
open PySem PySem.Spec L2 Pk
def Src (h : Hh) (n : Nat) (C : Int) : Prop := ∃ a b c : Int, h[n]? = some (.nl [.int a, .int b, .int c]) ∧ 0 ≤ b ∧ b < 2 ^ 33 ∧ 0 ≤ c ∧ c ≤ C
theorem log2_lt {i : Int} {k : Nat} (h : i.natAbs < 2 ^ k) (hk : 0 < k) : i.natAbs.log2 < k := by
 by_cases h0 : i.natAbs = 0
 · rw [h0]; simpa using hk
 · exact (Nat.log2_lt h0).mpr h
theorem Nv {i j : Int} (h : 0 < j) : ae2 i j = true := decide_eq_true h
end L
namespace L
open PySem PySem.Spec L2 Pk
end L
namespace L
open PySem PySem.Spec L2 Pk
theorem oJ (h : Hh) (a b : Int) : fL h (.int a) (.int b) = some (a == b) := by
 unfold fL
 rfl
structure Gx (N : Nat) (born : Int) (counts cuts : List Int) : Prop where
 pos : ∀ c ∈ counts, 0 ≤ c
 asc : cuts.Pairwise (· < ·)
 cin : ∀ x ∈ cuts, born ≤ x ∧ x + 1 < born + counts.length
 fall : ∀ (i : Nat) (a b : Int), counts[i]? = some a → counts[i + 1]? = some b → b < a → (born + i) ∈ cuts
 cl : cuts.length + 1 ≤ counts.length
 top : ∀ (i : Nat) (c : Int), counts[i]? = some c → c ≤ ((i : Int) + 1) * 2 ^ N
abbrev Grow (born : Int) (counts cuts : List Int) : Prop := Gx 198 born counts cuts
theorem Am {α : Type} {l : List α} {r z : α} {i : Nat} (e : (l ++ [r])[i]? = some z) : l[i]? = some z ∨ (i = l.length ∧ z = r) := by
 by_cases h : i < l.length
 · rw [aox h] at e
   exact .inl e
 · rw [aow (by omega)] at e
   cases q : i - l.length with
   | zero =>
     rw [q] at e
     cases e
     exact .inr ⟨by omega, rfl⟩
   | succ k =>
     rw [q] at e
     simp at e
theorem agc {born r : Int} {counts cuts : List Int} (g : Grow born counts cuts) (hr : 0 ≤ r) (hz : r < 2 ^ 198) : Grow born (counts ++ [r]) (cuts ++ [born + counts.length - 1]) := by
 have hl := g.cl
 refine ⟨fun c hc => ?_, ?_, fun x hx => ?_, fun i a b ea eb hab => ?_, ?_, fun i c e => ?_⟩
 · rcases List.mem_append.mp hc with z | z
   · exact g.pos c z
   · rw [aot] at z
     omega
 · rw [List.pairwise_append]
   refine ⟨g.asc, List.pairwise_singleton _ _, fun x hx y hy => ?_⟩
   rw [aot] at hy
   have := g.cin x hx
   omega
 · rw [an9, aoo]
   rcases List.mem_append.mp hx with z | z
   · have := g.cin x z
     omega
   · rw [aot] at z
     omega
 · rw [List.mem_append, aot]
   rcases Am eb with z | ⟨z, _⟩
   · rcases Am ea with y | ⟨y, _⟩
     · exact .inl (g.fall i a b y z hab)
     · have := (List.getElem?_eq_some_iff.mp z).1
       omega
   · right
     omega
 · rw [an9, an9, aoo, aoo]
   omega
 · rcases Am e with q | ⟨q, rfl⟩
   · exact g.top i c q
   · omega
theorem aib {born r t : Int} {counts cuts : List Int} (g : Grow born counts cuts) (ht : counts[counts.length - 1]? = some t) (hr : 0 ≤ r) (hz : r < 2 ^ 198) : Grow born (counts ++ [t + r]) cuts := by
 have hl := g.cl
 have t0 := g.pos t (aop ht)
 refine ⟨fun c hc => ?_, g.asc, fun x hx => ?_, fun i a b ea eb hab => ?_, ?_, fun i c e => ?_⟩
 · rcases List.mem_append.mp hc with z | z
   · exact g.pos c z
   · rw [aot] at z
     omega
 · have := g.cin x hx
   rw [an9, aoo]
   omega
 · rcases Am eb with z | ⟨z, zb⟩
   · rcases Am ea with y | ⟨y, _⟩
     · exact g.fall i a b y z hab
     · have := (List.getElem?_eq_some_iff.mp z).1
       omega
   · exfalso
     rcases Am ea with y | ⟨y, _⟩
     · have ei : i = counts.length - 1 := by omega
       rw [ei, ht] at y
       cases y
       omega
     · omega
 · rw [an9, aoo]
   omega
 · rcases Am e with q | ⟨q, rfl⟩
   · exact g.top i c q
   · have := g.top _ _ ht
     omega
theorem Ao (lo : Int) (n : Nat) : gH lo (n + 1) = .int lo :: gH (lo + 1) n := by
 unfold gH
 rw [List.range_succ_eq_map, an1, aoj]
 simp only [Int.natCast_zero, Int.add_zero, List.cons.injEq, true_and]
 congr 1
 funext i
 simp only [Function.comp_apply, Nat.succ_eq_add_one, Int.natCast_add, Int.natCast_one]
 congr 1
 omega
theorem Q8 {h : Hh} {l : List Int} {t : Int} (e : l[l.length - 1]? = some t) : bT h (.nl (l.map .int)) (.int (-1)) = some (.int t) := by
 have hl : 0 < l.length := by
  have := (List.getElem?_eq_some_iff.mp e).1
  omega
 show atI (l.map D.int) (-1) = _
 unfold atI
 have : ixN (l.map D.int).length (-1) = some (l.length - 1) := by
  unfold ixN
  rw [an2, if_neg (by omega), if_pos (by omega)]
  congr 1
  omega
 rw [this]
 simp [e]
theorem vL {n : Nat} (h : n ≤ 1000) : n < big := Nat.lt_of_le_of_lt h (by decide)
def pairD (p : Int × Int) : D := .tup [.int p.1, .int p.2]
end L
namespace L
open PySem PySem.Spec L2 Pk
theorem Src.up {h : Hh} {n : Nat} {C C' : Int} (S : Src h n C) (hC : C ≤ C') : Src h n C' := by
 obtain ⟨a, b, c, q1, q2, q3, q4, q5⟩ := S
 exact ⟨a, b, c, q1, q2, q3, q4, by omega⟩
structure qN (N : Nat) (size born : Int) (counts cuts : List Int) (ends : List (Int × Int)) (gone : List Int) : Prop where
 b0 : 0 ≤ born
 g : Gx N born counts cuts
 fit : born + counts.length ≤ size
 sub : (ends.map (·.1)).Sublist (cuts ++ if born + counts.length < size then [born + counts.length - 1] else [])
 pos : ∀ p ∈ ends, 1 ≤ p.2 ∧ p.2 ≤ 2 ^ N
 asc : gone.Pairwise (· < ·)
 gin : ∀ x ∈ gone, born ≤ x ∧ x < born + counts.length
theorem Gx.up {N M : Nat} {born : Int} {counts cuts : List Int} (hN : N ≤ M) (g : Gx N born counts cuts) : Gx M born counts cuts :=
 ⟨g.pos, g.asc, g.cin, g.fall, g.cl, fun i c e => Int.le_trans (g.top i c e) (Int.mul_le_mul_of_nonneg_left (by exact_mod_cast Nat.pow_le_pow_right (by decide) hN) (by omega))⟩
theorem qN.up {N M : Nat} {size born : Int} {counts cuts : List Int} {ends : List (Int × Int)} {gone : List Int} (hN : N ≤ M) (l : qN N size born counts cuts ends gone) : qN M size born counts cuts ends gone :=
 ⟨l.b0, l.g.up hN, l.fit, l.sub, fun p hp => ⟨(l.pos p hp).1, Int.le_trans (l.pos p hp).2 (by exact_mod_cast Nat.pow_le_pow_right (by decide) hN)⟩, l.asc, l.gin⟩
abbrev Life (size born : Int) (counts cuts : List Int) (ends : List (Int × Int)) (gone : List Int) : Prop := qN 200 size born counts cuts ends gone
def sS (born : Int) (counts cuts : List Int) (ends : List (Int × Int)) (gone : List Int) : D := .tup [.int born, .fl (counts.map .int), .fl (cuts.map .int), .fl (ends.map pairD), .fl (gone.map .int)]
theorem vM {i : Int} (h1 : -1000 ≤ i) (h2 : i ≤ 1000) : nW i = true := by
 unfold nW
 rw [decide_eq_true (show -(2 ^ 62) ≤ i by omega), decide_eq_true (show i < 2 ^ 62 by omega)]
 rfl
end L
namespace L
open PySem PySem.Spec L2 Pk
theorem abM (h : Hh) (v : Int) : rG mD h (.int v) (.ty "int") = some (.bl true) := by kernel_rfl
theorem aaY (h : Hh) (v : Int) : rG mD h (.int v) (.ty "bool") = some (.bl false) := by kernel_rfl
theorem aaZ (h : Hh) (l : List D) : rG mD h (.fl l) (.tup [.ty "list", .ty "tuple"]) = some (.bl true) := by kernel_rfl
theorem acw (h : Hh) (l : List D) : rG mD h (.tup l) (.tup [.ty "list", .ty "tuple"]) = some (.bl true) := by kernel_rfl
theorem bK (h : Hh) (v : Int) : j5 [.int v] h = .ok (.bl true) [] h := by
 simp [j5, bO, HX, startF, aV, jN, aC, aa, D.own, M.bind, M.ret, M.opt, mC, abM, aaY, D.tb, acI]
theorem XR {vs : List Nat} {g : D → M Unit} {t : M Bool} {e : M D} {fr : Fr} {h : Hh} : ∀ {ds : List D}, (∀ d ∈ ds, fP vs g t e d fr h = .ok none fr h) → jA vs g t e ds fr h = .ok [] fr h
 | [], _ => rfl
 | d :: ds, hh => by
   unfold jA
   rw [M.bind_ok (hh d (aod)), M.bind_ok (XR fun x hx => hh x (aok _ hx))]
   rfl
theorem Wv {vs : List Nat} {g : D → M Unit} {t : M Bool} {e : M D} {fr : Fr} {h : Hh} {α : Type} {F : α → D} {F' : α → D} : ∀ {ds : List α}, (∀ d ∈ ds, fP vs g t e (F d) fr h = .ok (some (F' d)) fr h) → jA vs g t e (ds.map F) fr h = .ok (ds.map F') fr h
 | [], _ => rfl
 | d :: ds, hh => by
   rw [an1, an1]
   unfold jA
   rw [M.bind_ok (hh d (aod)), M.bind_ok (Wv fun x hx => hh x (aok _ hx))]
   rfl
theorem Tq {h : Hh} {counts : List Int} {most : Int} (h0 : ∀ c ∈ counts, 0 ≤ c) (h1 : 1 ≤ counts.length) (h2 : (counts.length : Int) ≤ most) (h3 : counts.length ≤ 1000) : Br [.fl (counts.map .int), .int most] h = .ok (.bl true) [] h := by
 have hb : (counts.map D.int).length ≤ big := by rw [an2]; exact Nat.le_of_lt (vL h3)
 have lc := XR (vs := [2]) (g := Bo) (t := Bp) (e := Jy) (fr := [some (.fl (counts.map .int)), some (.int most), none]) (h := h) (ds := counts.map .int) (fun d hd => by
  obtain ⟨c, hc, rfl⟩ := List.mem_map.mp hd
  have c0 := h0 c hc
  have hn : ¬ c < 0 := by omega
  simp [Bo, Bp, fP, aK, fY, cD, aA, aG, ak, M.bind, M.ret, M.opt, aa, D.own, aD, bJ, bK, D.tru, aC, mC, cInt, hn, dZ])
 rw [an2] at hb
 have g1 : (1 : Int) ≤ counts.length := by omega
 have b2 : 2 ≤ big := by decide
 simp [Br, bO, HY, startF, az, bD, fY, cD, aA, aC, aa, D.own, M.bind, M.ret, M.opt, mC, ig, ak, aaZ, D.tru, dB, bW, D.its, D.der, au, cInt, h2, g1, aV, km, iU, Gp, dZ, hb, lc, oJ, b2]
theorem Du {h : Hh} {l : List Int} {i : Nat} {t : Int} {j : Int} (hj : j = (i : Int)) (e : l[i]? = some t) : bT h (.fl (l.map .int)) (.int j) = some (.int t) := by
 subst hj
 have hl := (List.getElem?_eq_some_iff.mp e).1
 show atI (l.map D.int) i = _
 unfold atI
 have : ixN (l.map D.int).length (i : Int) = some i := by
  unfold ixN
  rw [an2, if_pos (by omega), if_pos (by omega)]
  congr 1
 rw [this]
 simp [e]
theorem aa0 {h : Hh} {l : List Int} (hp : l.Pairwise (· < ·)) : ∀ (suf pre : List Int), l = pre ++ suf → ∀ x1 x2 : Option D,
 ∃ y1 y2, fB (gM 2 (bu (aK 1) (bu (aK 2) il))) jL (nR pre.length (suf.map .int)) [some (.fl (l.map .int)), x1, x2] h = .ok .nx [some (.fl (l.map .int)), y1, y2] h
 | [], pre, _, x1, x2 => ⟨x1, x2, rfl⟩
 | v :: suf, pre, hl, x1, x2 => by
   obtain ⟨y1, y2, e⟩ := aa0 hp suf (pre ++ [v]) (by rw [hl]; simp) (some (.int pre.length)) (some (.int v))
   refine ⟨y1, y2, ?_⟩
   rw [← e]
   have ee : nR pre.length ((v :: suf).map D.int) = .tup [.int pre.length, .int v] :: nR (pre ++ [v]).length (suf.map .int) := by
    rw [an9, aoo]
    rfl
   rw [ee]
   by_cases h0 : pre.length = 0
   · have hn : ¬ (0 : Int) < (pre.length : Int) := by omega
     have hn' : ¬ 0 < pre.length := by omega
     simp [fB, gM, bu, aK, il, M.bind, M.ret, M.opt, jL, bD, fY, cD, aA, aG, ak, aa, D.own, aD, bJ, bK, D.tru, Hf, aC, mC, cInt, hn, hn']
   · have hp0 : (0 : Int) < (pre.length : Int) := by omega
     have hp0' : 0 < pre.length := by omega
     have ht : l[pre.length - 1]? = some (pre.getLast (fun z => h0 (by rw [z]; rfl))) := by
      rw [hl, aox (by omega), List.getLast_eq_getElem, aoc (by omega)]
     generalize pre.getLast (fun z => h0 (by rw [z]; rfl)) = t at ht
     have hb : bT h (.fl (l.map .int)) (.int ((pre.length : Int) - 1)) = some (.int t) := Du (by omega) ht
     have hv : l[pre.length]? = some v := by
      rw [hl, aow (Nat.le_refl _), Nat.sub_self]
      rfl
     have hlt : t < v := by
      obtain ⟨i1, j1⟩ := List.getElem?_eq_some_iff.mp ht
      obtain ⟨i2, j2⟩ := List.getElem?_eq_some_iff.mp hv
      have := List.pairwise_iff_getElem.mp hp (pre.length - 1) pre.length i1 i2 (by omega)
      rw [j1, j2] at this
      exact this
     have hn : ¬ v ≤ t := by omega
     simp [fB, gM, bu, aK, il, M.bind, M.ret, M.opt, jL, bD, fY, cD, aA, aG, ak, aa, D.own, aD, bJ, bK, D.tru, Hf, aC, mC, cInt, hp0, hp0', bM, iY, au, dU, ie, hb, hn]
theorem UG {h : Hh} {l : List Int} (hp : l.Pairwise (· < ·)) : oH [.fl (l.map .int)] h = .ok (.bl true) [] h := by
 obtain ⟨y1, y2, e⟩ := aa0 (h := h) hp l [] (by simp) none none
 have b2 : 2 ≤ big := by decide
 simp only [an8] at e
 simp [oH, bO, yD, yV, startF, az, bD, cD, aA, aC, aa, D.own, M.bind, M.ret, M.opt, mC, ig, ak, aaZ, D.tru, b2, dJ, Gq, D.lst, e, aV]
theorem agd {h : Hh} {l : List Int} {t : Int} (e : l[l.length - 1]? = some t) : bT h (.fl (l.map .int)) (.int (-1)) = some (.int t) := Q8 (h := h) e
theorem Tr {h : Hh} {l : List Int} {lo hi : Int} (hp : l.Pairwise (· < ·)) (hin : ∀ x ∈ l, lo ≤ x ∧ x ≤ hi) : oU [.fl (l.map .int), .int lo, .int hi] h = .ok (.bl true) [] h := by
 cases l with
 | nil =>
   have a := UG (h := h) (l := []) List.Pairwise.nil
   simp only [aoa] at a
   simp [oU, bO, wL, startF, aV, jN, aX, aG, ak, M.bind, M.ret, M.opt, aa, D.own, aD, bJ, a, D.fz, D.tb, Xb, aC, aA, bW, D.its, D.der, au, mC, oJ]
 | cons x l =>
   have a := UG (h := h) hp
   have hl : (x :: l)[(x :: l).length - 1]? = some ((x :: l)[(x :: l).length - 1]'(by simp)) := aoc _
   have b1 : bT h (.fl ((x :: l).map .int)) (.int 0) = some (.int x) := Du (i := 0) rfl rfl
   have b2 := agd (h := h) hl
   have i1 := hin x (aod)
   have i2 := hin _ (aop hl)
   generalize (x :: l)[(x :: l).length - 1]'(by simp) = t at b2 i2
   have nz : ((l.length : Int) + 1 == 0) = false := beq_eq_false_iff_ne.mpr (by omega)
   simp only [an1] at a b1 b2
   simp [oU, bO, wL, startF, aV, jN, aX, aG, ak, M.bind, M.ret, M.opt, aa, D.own, aD, bJ, a, D.fz, D.tb, Xb, aC, aA, bW, D.its, D.der, au, mC, oJ, nz, bM, iY, b1, b2, Cv, cInt, i1.1, i2.2]
end L
namespace L
open PySem PySem.Spec L2 Pk
theorem UJ : ∀ l : List Int, (l.map D.int).all D.flat = true
 | [] => rfl
 | _ :: l => by
   rw [an1, List.all_cons, UJ l]
   rfl
theorem XS (v : Int) : ∀ l : List Int, ((l.map D.int).any fun z => D.eqf z (.int v)) = decide (v ∈ l)
 | [] => by simp
 | a :: l => by
   rw [an1, List.any_cons, XS v l]
   by_cases h : a = v
   · subst h
     simp [D.eqf]
   · have h2 : ¬ v = a := fun z => h z.symm
     simp [D.eqf, h, h2]
theorem Yr (h : Hh) (v : Int) (l : List Int) : TJ h (.int v) (.fl (l.map .int)) = some (!decide (v ∈ l)) := by
 unfold TJ Pr
 show Option.map _ (if (D.int v).flat && (l.map D.int).all D.flat then some ((l.map D.int).any fun z => D.eqf z (.int v)) else none) = _
 rw [UJ, XS]
 rfl
theorem G5 {n : Nat} {m : M Fl} {ds : List D} {fr0 fr' : Fr} {h h' : Hh} {d : D} (hf : startF n ds = fr0) (e : m fr0 h = .ok (.rt d) fr' h') : bO n m ds h = .ok d [] h' := by
 unfold bO
 rw [hf, e]
theorem acx {ma mb : M D} {fr fr1 fr2 : Fr} {h h1 h2 : Hh} {i j : Int} (e1 : ma fr h = .ok (.int i) fr1 h1) (e2 : mb fr1 h1 = .ok (.int j) fr2 h2) (s1 : nW i = true) (s2 : nW j = true) : DK ma mb fr h = .ok (gH i (j - i).toNat) fr2 h2 := by
 unfold DK
 rw [M.bind_ok e1, M.bind_ok e2]
 show M.opt (if nW i && nW j then some (gH i (j - i).toNat) else none) _ _ = _
 rw [s1, s2]
 rfl
theorem Ww {h : Hh} {counts cuts : List Int} {born : Int} {N : Nat} (g : Gx N born counts cuts) : ∀ (m j : Nat), 1 ≤ j → j + m = counts.length → ∀ x3 : Option D,
 ∃ y3, fB (aK 3) dh (gH j m) [some (.fl (counts.map .int)), some (.int born), some (.fl (cuts.map .int)), x3] h = .ok .nx [some (.fl (counts.map .int)), some (.int born), some (.fl (cuts.map .int)), y3] h
 | 0, _, _, _, x3 => ⟨x3, rfl⟩
 | m + 1, j, hj, hm, x3 => by
   obtain ⟨y3, e⟩ := Ww g m (j + 1) (by omega) (by omega) (some (.int j))
   refine ⟨y3, ?_⟩
   rw [Ao]
   have ec : ((j + 1 : Nat) : Int) = (j : Int) + 1 := by omega
   rw [ec] at e
   rw [← e]
   have ha : counts[j - 1]? = some (counts[j - 1]'(by omega)) := aoc _
   have hb : counts[j]? = some (counts[j]'(by omega)) := aoc _
   generalize counts[j - 1]'(by omega) = a at ha
   generalize counts[j]'(by omega) = b at hb
   have ba := Du (h := h) (j := (j : Int) - 1) (by omega) ha
   have bb := Du (h := h) (j := (j : Int)) rfl hb
   by_cases hab : b < a
   · have hin := g.fall (j - 1) a b ha (by rw [show j - 1 + 1 = j by omega]; exact hb) hab
     have e3 : born + ((j - 1 : Nat) : Int) = born + (j : Int) - 1 := by omega
     rw [e3] at hin
     simp [fB, aK, dh, bD, Hf, aC, bM, iY, au, aa, D.own, M.bind, M.ret, M.opt, bb, ba, dU, ie, mC, cInt, hab, aX, bR, D.fz, Yr, hin]
   · simp [fB, aK, dh, bD, Hf, aC, bM, iY, au, aa, D.own, M.bind, M.ret, M.opt, bb, ba, dU, ie, mC, cInt, hab]
theorem adb {h : Hh} {counts cuts : List Int} {born : Int} {N : Nat} (g : Gx N born counts cuts) (hl : counts.length ≤ 100) : g8 [.fl (counts.map .int), .int born, .fl (cuts.map .int)] h = .ok (.bl false) [] h := by
 have cl := g.cl
 obtain ⟨y3, e⟩ := Ww (h := h) g (counts.length - 1) 1 (Nat.le_refl _) (by omega) none
 have r0 := acx (fr := [some (.fl (counts.map .int)), some (.int born), some (.fl (cuts.map .int)), none]) (h := h) (ma := mC (.int 1)) (mb := aA bW (au 0)) (i := 1) (j := ((counts.map D.int).length : Int)) rfl rfl (vM (by omega) (by omega)) (vM (by omega) (by rw [an2]; omega))
 have e0 : (((counts.map D.int).length : Int) - 1).toNat = counts.length - 1 := by rw [an2]; omega
 rw [e0] at r0
 have r := r0
 have e' : fB (aK 3) dh (gH 1 (counts.length - 1)) [some (.fl (counts.map .int)), some (.int born), some (.fl (cuts.map .int)), none] h = _ := e
 have st : gY [some (.fl (counts.map .int)), some (.int born), some (.fl (cuts.map .int)), none] h = (aV (mC (.bl false))) [some (.fl (counts.map .int)), some (.int born), some (.fl (cuts.map .int)), y3] h := by
  unfold gY az dJ
  rw [M.bind_ok ((M.bind_ok r).trans e')]
 exact G5 (fr0 := [some (.fl (counts.map .int)), some (.int born), some (.fl (cuts.map .int)), none]) (by simp [startF]) (st.trans rfl)
theorem Wx {h : Hh} {a b d e' : Option D} : ∀ (ends : List (Int × Int)), (∀ p ∈ ends, 1 ≤ p.2) → ∀ x2 : Option D, ∃ y2, fB (aK 2) De (ends.map pairD) [a, b, x2, d, e'] h = .ok .nx [a, b, y2, d, e'] h
 | [], _, x2 => ⟨x2, rfl⟩
 | p :: ends, hp, x2 => by
   obtain ⟨y2, e⟩ := Wx ends (fun q hq => hp q (aok _ hq)) (some (pairD p))
   refine ⟨y2, ?_⟩
   rw [← e]
   have p1 := hp p (aod)
   have hn : ¬ p.2 < 1 := by omega
   have b2 : 2 ≤ big := by decide
   have i1 : ∀ l : List D, bT h (.tup l) (.int 1) = atI l 1 := fun l => rfl
   simp [fB, aK, De, bD, fY, cD, aA, aC, aa, pairD, D.own, M.bind, M.ret, M.opt, ig, ak, mC, b2, acw, D.tru, au, bW, D.its, D.der, G8, oJ, aG, bM, iY, i1, atI, ixN, aD, bJ, bK, cInt, hn]
theorem Gy {h : Hh} {ends : List (Int × Int)} {gaps : List Int} (hg : gaps.Pairwise (· < ·)) (hs : (ends.map (·.1)).Sublist gaps) (hp : ∀ p ∈ ends, 1 ≤ p.2) (hl : gaps.length ≤ 100) : Eb [.fl (ends.map pairD), .fl (gaps.map .int)] h = .ok (.bl true) [] h := by
 have hll := hs.length_le
 rw [an2] at hll
 have asc := hg.sublist hs
 have hb : ends.length ≤ big := Nat.le_of_lt (vL (by omega))
 obtain ⟨y2, e1⟩ := Wx (h := h) (a := some (.fl (ends.map pairD))) (b := some (.fl (gaps.map .int))) (d := none) (e' := none) ends hp none
 have c1 := Wv (vs := [2]) (g := Df) (t := Dg) (e := Dh) (fr := [some (.fl (ends.map pairD)), some (.fl (gaps.map .int)), none, none, none]) (h := h) (F := pairD) (F' := fun p => .int p.1) (ds := ends) (fun p hp => by
  have i0 : ∀ l : List D, bT h (.tup l) (.int 0) = atI l 0 := fun l => rfl
  simp [fP, Df, Dg, Dh, aK, M.ret, bM, iY, au, M.bind, M.opt, mC, pairD, i0, atI, ixN, dZ])
 have e2 : (ends.map fun p => D.int p.1) = (ends.map (·.1)).map .int := by rw [aoj]; rfl
 rw [e2] at c1
 have c2 := XR (vs := [4]) (g := Di) (t := Dj) (e := Lj) (fr := [some (.fl (ends.map pairD)), some (.fl (gaps.map .int)), none, some (.fl ((ends.map (·.1)).map .int)), none]) (h := h) (ds := (ends.map (·.1)).map .int) (fun d hd => by
  obtain ⟨c, hc, rfl⟩ := List.mem_map.mp hd
  have hin := hs.subset hc
  simp [fP, Di, Dj, aK, aC, aa, D.own, M.bind, M.ret, M.opt, au, Yr, hin, dZ])
 have a1 := UG (h := h) asc
 have b2 : 2 ≤ big := by decide
 have lb : ((ends.map (·.1)).map D.int).length ≤ big := by rw [an2, an2]; exact hb
 generalize (ends.map (·.1)).map D.int = fd at c1 c2 a1 lb
 simp [Eb, bO, J5, Ln, Lk, startF, az, bD, cD, aA, aC, aa, D.own, M.bind, M.ret, M.opt, mC, ig, ak, aaZ, D.tru, b2, dJ, iU, D.its, D.der, e1, bA, km, Gp, dZ, hb, c1, aV, jN, aX, aG, D.fz, aD, bJ, a1, D.tb, bW, lb, c2, oJ]
end L
namespace L
open PySem PySem.Spec L2 Pk
theorem aeH {s n : M Fl} {fr fr1 : Fr} {h h1 : Hh} (e : s fr h = .ok .nx fr1 h1) : az s n fr h = n fr1 h1 := by
 unfold az
 rw [M.bind_ok e]
theorem Ys {t : M Bool} {m : M Fl} {fr fr1 : Fr} {h h1 : Hh} (e : t fr h = .ok false fr1 h1) : bD t m (M.ret .nx) fr h = .ok .nx fr1 h1 := by
 unfold bD
 rw [M.bind_ok e]
 rfl
theorem aa1 {n : Nat} {F : Fn} {ma : M (List D)} {fr fr1 : Fr} {h h1 h2 : Hh} {args : List D} {b : Bool} (ea : ma fr h = .ok args fr1 h1) (eF : F args h1 = .ok (.bl b) [] h2) (hn : args.length = n) : aA D.tru (aG n 0 F (aD []) ma (ak [])) fr h = .ok b fr1 h2 := by
 have e1 : aG n 0 F (aD []) ma (ak []) fr h = .ok (.bl b) fr1 h2 := by
  unfold aG
  rw [M.bind_ok ea]
  show (if args.length = n ∧ (0 : Nat) = 0 then bJ fr1 (F (args ++ []) h1) else .err) = _
  rw [if_pos ⟨hn, rfl⟩, aob, eF]
  rfl
 unfold aA
 rw [M.bind_ok e1]
 rfl
theorem adc {h : Hh} {size born : Int} {counts cuts : List Int} {ends : List (Int × Int)} {gone : List Int} {N : Nat} (l : qN N size born counts cuts ends gone) (h2 : 2 ≤ size) (h4 : size ≤ 4) :
 zH [.fl (counts.map .int), .int size, .int born, .fl (cuts.map .int), .fl (ends.map pairD), .fl (gone.map .int)] h = .ok .non [] h := by
 have cl := l.g.cl
 have b0 := l.b0
 have fit := l.fit
 have lb : counts.length ≤ big := Nat.le_of_lt (vL (by omega))
 have s1 := Tq (h := h) (counts := counts) (most := size - born) l.g.pos (by omega) (by omega) (by omega)
 have s2 := Tr (h := h) (l := cuts) (lo := born) (hi := born + counts.length - 1 - 1) l.g.asc (fun x hx => by have := l.g.cin x hx; omega)
 have s3 := adb (h := h) l.g (by omega)
 have s5 := Tr (h := h) (l := gone) (lo := born) (hi := born + counts.length - 1) l.asc (fun x hx => by have := l.gin x hx; omega)
 have n1 : born < size := by omega
 have t0 : tQ [some (.fl (counts.map .int)), some (.int size), some (.int born), some (.fl (cuts.map .int)), some (.fl (ends.map pairD)), some (.fl (gone.map .int)), none, none] h = kZ [some (.fl (counts.map .int)), some (.int size), some (.int born), some (.fl (cuts.map .int)), some (.fl (ends.map pairD)), some (.fl (gone.map .int)), none, none] h := by
  simp [tQ, az, bD, fY, cD, aA, aG, ak, aa, D.own, M.bind, M.ret, M.opt, aD, bJ, bK, D.tru, dB, mC, cInt, h2, h4, b0, n1, aC, dU, ie, bA, aX, bR, bW, D.its, D.der, au, D.fz, gh, aV]
 have t1 : kZ [some (.fl (counts.map .int)), some (.int size), some (.int born), some (.fl (cuts.map .int)), some (.fl (ends.map pairD)), some (.fl (gone.map .int)), none, none] h = kY [some (.fl (counts.map .int)), some (.int size), some (.int born), some (.fl (cuts.map .int)), some (.fl (ends.map pairD)), some (.fl (gone.map .int)), none, none] h := by
  simp [kZ, az, bD, fY, cD, aA, aG, ak, aa, D.own, M.bind, M.ret, M.opt, aD, bJ, bK, D.tru, dB, mC, cInt, h2, h4, b0, n1, aC, dU, ie, bA, aX, bR, bW, D.its, D.der, au, D.fz, gh, aV]
 have t2 : kY [some (.fl (counts.map .int)), some (.int size), some (.int born), some (.fl (cuts.map .int)), some (.fl (ends.map pairD)), some (.fl (gone.map .int)), none, none] h = kW [some (.fl (counts.map .int)), some (.int size), some (.int born), some (.fl (cuts.map .int)), some (.fl (ends.map pairD)), some (.fl (gone.map .int)), none, none] h := by
  simp [kY, az, bD, fY, cD, aA, aG, ak, aa, D.own, M.bind, M.ret, M.opt, aD, bJ, bK, D.tru, dB, mC, cInt, h2, h4, b0, n1, aC, dU, ie, bA, aX, bR, bW, D.its, D.der, au, D.fz, gh, aV, s1]
 have t3 : kW [some (.fl (counts.map .int)), some (.int size), some (.int born), some (.fl (cuts.map .int)), some (.fl (ends.map pairD)), some (.fl (gone.map .int)), none, none] h = kJ [some (.fl (counts.map .int)), some (.int size), some (.int born), some (.fl (cuts.map .int)), some (.fl (ends.map pairD)), some (.fl (gone.map .int)), some (.int (born + counts.length - 1)), none] h := by
  simp [kW, az, bD, fY, cD, aA, aG, ak, aa, D.own, M.bind, M.ret, M.opt, aD, bJ, bK, D.tru, dB, mC, cInt, h2, h4, b0, n1, aC, dU, ie, bA, aX, bR, bW, D.its, D.der, au, D.fz, gh, aV]
 have t4 : kJ [some (.fl (counts.map .int)), some (.int size), some (.int born), some (.fl (cuts.map .int)), some (.fl (ends.map pairD)), some (.fl (gone.map .int)), some (.int (born + counts.length - 1)), none] h = rN [some (.fl (counts.map .int)), some (.int size), some (.int born), some (.fl (cuts.map .int)), some (.fl (ends.map pairD)), some (.fl (gone.map .int)), some (.int (born + counts.length - 1)), none] h := by
  simp [kJ, az, bD, fY, cD, aA, aG, ak, aa, D.own, M.bind, M.ret, M.opt, aD, bJ, bK, D.tru, dB, mC, cInt, h2, h4, b0, n1, aC, dU, ie, bA, aX, bR, bW, D.its, D.der, au, D.fz, gh, aV, s2]
 have t5 : rN [some (.fl (counts.map .int)), some (.int size), some (.int born), some (.fl (cuts.map .int)), some (.fl (ends.map pairD)), some (.fl (gone.map .int)), some (.int (born + counts.length - 1)), none] h = kE [some (.fl (counts.map .int)), some (.int size), some (.int born), some (.fl (cuts.map .int)), some (.fl (ends.map pairD)), some (.fl (gone.map .int)), some (.int (born + counts.length - 1)), none] h := by
  have tt : (aA D.tru (aG 3 0 g8 (aD []) (ak [(aa 0), (aa 2), (aa 3)]) (ak []))) [some (.fl (counts.map .int)), some (.int size), some (.int born), some (.fl (cuts.map .int)), some (.fl (ends.map pairD)), some (.fl (gone.map .int)), some (.int (born + counts.length - 1)), none] h = .ok false [some (.fl (counts.map .int)), some (.int size), some (.int born), some (.fl (cuts.map .int)), some (.fl (ends.map pairD)), some (.fl (gone.map .int)), some (.int (born + counts.length - 1)), none] h := by
   refine aa1 (args := [.fl (counts.map .int), .int born, .fl (cuts.map .int)]) ?_ s3 rfl
   simp [ak, aa, D.own, M.bind, M.ret]
  exact aeH (Ys tt)
 have t6 : kE [some (.fl (counts.map .int)), some (.int size), some (.int born), some (.fl (cuts.map .int)), some (.fl (ends.map pairD)), some (.fl (gone.map .int)), some (.int (born + counts.length - 1)), none] h = fj [some (.fl (counts.map .int)), some (.int size), some (.int born), some (.fl (cuts.map .int)), some (.fl (ends.map pairD)), some (.fl (gone.map .int)), some (.int (born + counts.length - 1)), some (.nl (cuts.map .int))] h := by
  simp [kE, az, bD, fY, cD, aA, aG, ak, aa, D.own, M.bind, M.ret, M.opt, aD, bJ, bK, D.tru, dB, mC, cInt, h2, h4, b0, n1, aC, dU, ie, bA, aX, bR, bW, D.its, D.der, au, D.fz, gh, aV]
 by_cases hs : born + counts.length < size
 · have hsub := l.sub
   rw [if_pos hs] at hsub
   have s4 := Gy (h := h) (ends := ends) (gaps := cuts ++ [born + counts.length - 1]) (by
    rw [List.pairwise_append]
    refine ⟨l.g.asc, List.pairwise_singleton _ _, fun x hx y hy => ?_⟩
    rw [aot] at hy
    have := l.g.cin x hx
    omega) hsub (fun p hp => (l.pos p hp).1) (by rw [an9, aoo]; omega)
   rw [aol, an1, aoa] at s4
   have n2 : born + (counts.length : Int) - 1 < size - 1 := by omega
   have kb : cuts.length < big := vL (by omega)
   have t7 : fj [some (.fl (counts.map .int)), some (.int size), some (.int born), some (.fl (cuts.map .int)), some (.fl (ends.map pairD)), some (.fl (gone.map .int)), some (.int (born + counts.length - 1)), some (.nl (cuts.map .int))] h = dR [some (.fl (counts.map .int)), some (.int size), some (.int born), some (.fl (cuts.map .int)), some (.fl (ends.map pairD)), some (.fl (gone.map .int)), some (.int (born + counts.length - 1)), some (.nl (cuts.map .int ++ [.int (born + counts.length - 1)]))] h := by
    simp [fj, az, bD, fY, cD, aA, aG, ak, aa, D.own, M.bind, M.ret, M.opt, aD, bJ, bK, D.tru, dB, mC, cInt, h2, h4, b0, n1, aC, dU, ie, bA, aX, bR, bW, D.its, D.der, au, D.fz, gh, aV, n2, eE, fH, cR, oM, uZ, kb]
   have t8 : dR [some (.fl (counts.map .int)), some (.int size), some (.int born), some (.fl (cuts.map .int)), some (.fl (ends.map pairD)), some (.fl (gone.map .int)), some (.int (born + counts.length - 1)), some (.nl (cuts.map .int ++ [.int (born + counts.length - 1)]))] h = dO [some (.fl (counts.map .int)), some (.int size), some (.int born), some (.fl (cuts.map .int)), some (.fl (ends.map pairD)), some (.fl (gone.map .int)), some (.int (born + counts.length - 1)), some (.fl (cuts.map .int ++ [.int (born + counts.length - 1)]))] h := by
    simp [dR, az, bD, fY, cD, aA, aG, ak, aa, D.own, M.bind, M.ret, M.opt, aD, bJ, bK, D.tru, dB, mC, cInt, h2, h4, b0, n1, aC, dU, ie, bA, aX, bR, bW, D.its, D.der, au, D.fz, gh, aV, s4]
   have t9 : dO [some (.fl (counts.map .int)), some (.int size), some (.int born), some (.fl (cuts.map .int)), some (.fl (ends.map pairD)), some (.fl (gone.map .int)), some (.int (born + counts.length - 1)), some (.fl (cuts.map .int ++ [.int (born + counts.length - 1)]))] h = .ok (.rt .non) [some (.fl (counts.map .int)), some (.int size), some (.int born), some (.fl (cuts.map .int)), some (.fl (ends.map pairD)), some (.fl (gone.map .int)), some (.int (born + counts.length - 1)), some (.fl (cuts.map .int ++ [.int (born + counts.length - 1)]))] h := by
    simp [dO, az, bD, fY, cD, aA, aG, ak, aa, D.own, M.bind, M.ret, M.opt, aD, bJ, bK, D.tru, dB, mC, cInt, h2, h4, b0, n1, aC, dU, ie, bA, aX, bR, bW, D.its, D.der, au, D.fz, gh, aV, s5]
   exact G5 (by simp [startF]) (t0.trans (t1.trans (t2.trans (t3.trans (t4.trans (t5.trans (t6.trans (t7.trans (t8.trans t9)))))))))
 · have hsub := l.sub
   rw [if_neg hs, aob] at hsub
   have s4 := Gy (h := h) (ends := ends) (gaps := cuts) l.g.asc hsub (fun p hp => (l.pos p hp).1) (by omega)
   have n2 : ¬ born + (counts.length : Int) - 1 < size - 1 := by omega
   have t7 : fj [some (.fl (counts.map .int)), some (.int size), some (.int born), some (.fl (cuts.map .int)), some (.fl (ends.map pairD)), some (.fl (gone.map .int)), some (.int (born + counts.length - 1)), some (.nl (cuts.map .int))] h = dR [some (.fl (counts.map .int)), some (.int size), some (.int born), some (.fl (cuts.map .int)), some (.fl (ends.map pairD)), some (.fl (gone.map .int)), some (.int (born + counts.length - 1)), some (.nl (cuts.map .int))] h := by
    simp [fj, az, bD, fY, cD, aA, aG, ak, aa, D.own, M.bind, M.ret, M.opt, aD, bJ, bK, D.tru, dB, mC, cInt, h2, h4, b0, n1, aC, dU, ie, bA, aX, bR, bW, D.its, D.der, au, D.fz, gh, aV, n2]
   have t8 : dR [some (.fl (counts.map .int)), some (.int size), some (.int born), some (.fl (cuts.map .int)), some (.fl (ends.map pairD)), some (.fl (gone.map .int)), some (.int (born + counts.length - 1)), some (.nl (cuts.map .int))] h = dO [some (.fl (counts.map .int)), some (.int size), some (.int born), some (.fl (cuts.map .int)), some (.fl (ends.map pairD)), some (.fl (gone.map .int)), some (.int (born + counts.length - 1)), some (.fl (cuts.map .int))] h := by
    simp [dR, az, bD, fY, cD, aA, aG, ak, aa, D.own, M.bind, M.ret, M.opt, aD, bJ, bK, D.tru, dB, mC, cInt, h2, h4, b0, n1, aC, dU, ie, bA, aX, bR, bW, D.its, D.der, au, D.fz, gh, aV, s4]
   have t9 : dO [some (.fl (counts.map .int)), some (.int size), some (.int born), some (.fl (cuts.map .int)), some (.fl (ends.map pairD)), some (.fl (gone.map .int)), some (.int (born + counts.length - 1)), some (.fl (cuts.map .int))] h = .ok (.rt .non) [some (.fl (counts.map .int)), some (.int size), some (.int born), some (.fl (cuts.map .int)), some (.fl (ends.map pairD)), some (.fl (gone.map .int)), some (.int (born + counts.length - 1)), some (.fl (cuts.map .int))] h := by
    simp [dO, az, bD, fY, cD, aA, aG, ak, aa, D.own, M.bind, M.ret, M.opt, aD, bJ, bK, D.tru, dB, mC, cInt, h2, h4, b0, n1, aC, dU, ie, bA, aX, bR, bW, D.its, D.der, au, D.fz, gh, aV, s5]
   exact G5 (by simp [startF]) (t0.trans (t1.trans (t2.trans (t3.trans (t4.trans (t5.trans (t6.trans (t7.trans (t8.trans t9)))))))))
def qm (size born : Int) (counts cuts : List Int) (ends : List (Int × Int)) (gone : List Int) : List D :=
 [.int size, .int born, .tup (counts.map .int), .tup (cuts.map .int), .tup (ends.map pairD), .tup (gone.map .int)]
theorem aeI {h : Hh} {size born : Int} {counts cuts : List Int} {ends : List (Int × Int)} {gone : List Int} {N : Nat} (l : qN N size born counts cuts ends gone) (h2 : 2 ≤ size) (h4 : size ≤ 4) :
 fU [.fl (counts.map .int), .int size, .int born, .fl (cuts.map .int), .fl (ends.map pairD), .fl (gone.map .int)] h = .ok (.no 0 (qm size born counts cuts ends gone)) [] h := by
 have f0 := adc (h := h) l h2 h4
 have cl := l.g.cl
 have fit := l.fit
 have b0 := l.b0
 have el : ends.length ≤ big := by
  have a := l.sub.length_le
  rw [an2, an9] at a
  have : (if born + (counts.length : Int) < size then [born + (counts.length : Int) - 1] else []).length ≤ 1 := by split <;> simp
  exact Nat.le_of_lt (vL (by omega))
 have b2 : 2 ≤ big := by decide
 have c1 := Wv (vs := [8, 9]) (g := jF) (t := jG) (e := jH)
  (fr := [some (.no 0 [.int size, .int born, .tup (counts.map .int), .tup (cuts.map .int)]), some (.fl (counts.map .int)), some (.int size), some (.int born), some (.fl (cuts.map .int)), some (.fl (ends.map pairD)), some (.fl (gone.map .int)), some .non, none, none]) (h := h) (F := pairD) (F' := pairD) (ds := ends) (fun p hp => by
  simp [fP, jF, jG, jH, gM, bu, aK, il, pairD, M.bind, M.ret, M.opt, ig, ak, aa, D.own, b2, dZ])
 simp [fU, runI, qM, tG, tE, tD, sY, sX, sW, startF, az, bA, aG, ak, aa, D.own, M.bind, M.ret, M.opt, aD, bJ, f0, bD, aC, mC, ZC, D.isNon, nu, wg, bG, eO, dM, fG, lZ, pZ, aoi, sO, aA, rC, D.its, D.der, au, km, iU, Gp, dZ, el, c1, qm]
end L
namespace L
open PySem PySem.Spec L2 Pk
theorem aic (h : Hh) (l : List D) (i : Int) : bT h (.tup l) (.int i) = atI l i := rfl
theorem aeJ {h : Hh} {size born : Int} {counts cuts : List Int} {ends : List (Int × Int)} {gone : List Int} {N : Nat} (l : qN N size born counts cuts ends gone) (h2 : 2 ≤ size) (h4 : size ≤ 4) :
 qO [sS born counts cuts ends gone, .int size] h = .ok (.no 0 (qm size born counts cuts ends gone)) [] h := by
 have e := aeI (h := h) l h2 h4
 have a0 : atI [D.int born, .fl (counts.map .int), .fl (cuts.map .int), .fl (ends.map pairD), .fl (gone.map .int)] 0 = some (.int born) := rfl
 have a1 : atI [D.int born, .fl (counts.map .int), .fl (cuts.map .int), .fl (ends.map pairD), .fl (gone.map .int)] 1 = some (.fl (counts.map .int)) := rfl
 have a2 : atI [D.int born, .fl (counts.map .int), .fl (cuts.map .int), .fl (ends.map pairD), .fl (gone.map .int)] 2 = some (.fl (cuts.map .int)) := rfl
 have a3 : atI [D.int born, .fl (counts.map .int), .fl (cuts.map .int), .fl (ends.map pairD), .fl (gone.map .int)] 3 = some (.fl (ends.map pairD)) := rfl
 have a4 : atI [D.int born, .fl (counts.map .int), .fl (cuts.map .int), .fl (ends.map pairD), .fl (gone.map .int)] 4 = some (.fl (gone.map .int)) := rfl
 simp [qO, bO, J8, startF, sS, aV, aG, ak, aX, aA, gh, bM, iY, au, mC, aa, D.own, D.fz, M.bind, M.ret, M.opt, aic, a0, a1, a2, a3, a4, D.its, D.der, Hm, pick, e, bJ]
theorem abN {h : Hh} {ns : List Int} {k : Nat} (hk : k ≤ 62) : ∃ a b, nO [.kl (ns.map .int), .int k] h = .ok (.nl [.int a, .int b, .int 0]) [] h ∧ 0 ≤ b ∧ b < 2 ^ 33 := by
 have p18 : Pb 10 18 = true := by decide
 have b3 : 3 ≤ big := by decide
 have c1 : Tz 15485863 (k : Int) = true := by
  have l2 : ((15485863 : Int)).natAbs.log2 < 64 := log2_lt (by decide) (by decide)
  have l1 : ((k : Int)).natAbs.log2 < 64 := log2_lt (by omega) (by decide)
  exact decide_eq_true (by omega)
 have main : ∀ v : Int, (if (k : Int) < ns.length then bT h (.kl (ns.map .int)) (.int k) = some (.int v) else v = 0) → ∃ a b, nO [.kl (ns.map .int), .int k] h = .ok (.nl [.int a, .int b, .int 0]) [] h ∧ 0 ≤ b ∧ b < 2 ^ 33 := fun v hv => by
  have hb0 : 0 ≤ v % 2147483629 := Int.emod_nonneg _ (by decide)
  have hb1 : v % 2147483629 < 2147483629 := Int.emod_lt_of_pos _ (by decide)
  refine ⟨if (1000000000000000000 : Int) ≤ (if v < 0 then -v else v) then (if v < 0 then -v else v) else 0, v % 2147483629 + 15485863 * (k : Int) + 7919, ?_, by omega, by omega⟩
  by_cases hl : (k : Int) < ns.length
  · rw [if_pos hl] at hv
    have hl' : k < ns.length := by omega
    by_cases hbig : (1000000000000000000 : Int) ≤ (if v < 0 then -v else v)
    · simp [nO, bO, wj, v4, startF, az, bA, Ad, aC, aa, D.own, M.bind, M.ret, M.opt, aA, bW, au, D.its, D.der, cInt, hl, hl', bM, iY, hv, mC, TV, dU, p18, hbig, aV, fJ, ak, aX, bR, D.fz, sH, Nv, c1, b3]
    · simp [nO, bO, wj, v4, startF, az, bA, Ad, aC, aa, D.own, M.bind, M.ret, M.opt, aA, bW, au, D.its, D.der, cInt, hl, hl', bM, iY, hv, mC, TV, dU, p18, hbig, aV, fJ, ak, aX, bR, D.fz, sH, Nv, c1, b3]
  · rw [if_neg hl] at hv
    subst hv
    have hl' : ¬ k < ns.length := by omega
    simp [nO, bO, wj, v4, startF, az, bA, Ad, aC, aa, D.own, M.bind, M.ret, M.opt, aA, bW, au, D.its, D.der, cInt, hl, hl', mC, TV, dU, p18, aV, fJ, ak, aX, bR, D.fz, sH, Nv, c1, b3]
 by_cases hl : (k : Int) < ns.length
 · have e : ns[k]? = some (ns[k]'(by omega)) := aoc _
   exact main _ (by rw [if_pos hl]; exact Du (h := h) rfl e)
 · exact main 0 (by rw [if_neg hl])
end L
namespace L
open PySem PySem.Spec L2 Pk
theorem aa2 {h : Hh} {l : List Int} {i : Nat} {t : Int} {j : Int} (hj : j = (i : Int)) (e : l[i]? = some t) : bT h (.tup (l.map .int)) (.int j) = some (.int t) := by
 subst hj
 have hl := (List.getElem?_eq_some_iff.mp e).1
 show atI (l.map D.int) i = _
 unfold atI
 have : ixN (l.map D.int).length (i : Int) = some i := by
  unfold ixN
  rw [an2, if_pos (by omega), if_pos (by omega)]
  congr 1
 rw [this]
 simp [e]
theorem Yt {h : Hh} {l : List Int} (hp : l.Pairwise (· < ·)) : ∀ (suf pre : List Int), l = pre ++ suf → ∀ x1 x2 : Option D,
 ∃ y1 y2, fB (gM 2 (bu (aK 1) (bu (aK 2) il))) jL (nR pre.length (suf.map .int)) [some (.tup (l.map .int)), x1, x2] h = .ok .nx [some (.tup (l.map .int)), y1, y2] h
 | [], pre, _, x1, x2 => ⟨x1, x2, rfl⟩
 | v :: suf, pre, hl, x1, x2 => by
   obtain ⟨y1, y2, e⟩ := Yt hp suf (pre ++ [v]) (by rw [hl]; simp) (some (.int pre.length)) (some (.int v))
   refine ⟨y1, y2, ?_⟩
   rw [← e]
   have ee : nR pre.length ((v :: suf).map D.int) = .tup [.int pre.length, .int v] :: nR (pre ++ [v]).length (suf.map .int) := by
    rw [an9, aoo]
    rfl
   rw [ee]
   by_cases h0 : pre.length = 0
   · have hn : ¬ (0 : Int) < (pre.length : Int) := by omega
     have hn' : ¬ 0 < pre.length := by omega
     simp [fB, gM, bu, aK, il, M.bind, M.ret, M.opt, jL, bD, fY, cD, aA, aG, ak, aa, D.own, aD, bJ, bK, D.tru, Hf, aC, mC, cInt, hn, hn']
   · have hp0 : (0 : Int) < (pre.length : Int) := by omega
     have hp0' : 0 < pre.length := by omega
     have ht : l[pre.length - 1]? = some (pre.getLast (fun z => h0 (by rw [z]; rfl))) := by
      rw [hl, aox (by omega), List.getLast_eq_getElem, aoc (by omega)]
     generalize pre.getLast (fun z => h0 (by rw [z]; rfl)) = t at ht
     have hb : bT h (.tup (l.map .int)) (.int ((pre.length : Int) - 1)) = some (.int t) := aa2 (by omega) ht
     have hv : l[pre.length]? = some v := by
      rw [hl, aow (Nat.le_refl _), Nat.sub_self]
      rfl
     have hlt : t < v := by
      obtain ⟨i1, j1⟩ := List.getElem?_eq_some_iff.mp ht
      obtain ⟨i2, j2⟩ := List.getElem?_eq_some_iff.mp hv
      have := List.pairwise_iff_getElem.mp hp (pre.length - 1) pre.length i1 i2 (by omega)
      rw [j1, j2] at this
      exact this
     have hn : ¬ v ≤ t := by omega
     simp [fB, gM, bu, aK, il, M.bind, M.ret, M.opt, jL, bD, fY, cD, aA, aG, ak, aa, D.own, aD, bJ, bK, D.tru, Hf, aC, mC, cInt, hp0, hp0', bM, iY, au, dU, ie, hb, hn]
theorem Yu {h : Hh} {l : List Int} (hp : l.Pairwise (· < ·)) : oH [.tup (l.map .int)] h = .ok (.bl true) [] h := by
 obtain ⟨y1, y2, e⟩ := Yt (h := h) hp l [] (by simp) none none
 have b2 : 2 ≤ big := by decide
 simp only [an8] at e
 simp [oH, bO, yD, yV, startF, az, bD, cD, aA, aC, aa, D.own, M.bind, M.ret, M.opt, mC, ig, ak, acw, D.tru, b2, dJ, Gq, D.lst, e, aV]
theorem aeK {h : Hh} {l : List Int} {t : Int} (e : l[l.length - 1]? = some t) : bT h (.tup (l.map .int)) (.int (-1)) = some (.int t) := Q8 (h := h) e
theorem Q9 {h : Hh} {l : List Int} {lo hi : Int} (hp : l.Pairwise (· < ·)) (hin : ∀ x ∈ l, lo ≤ x ∧ x ≤ hi) : oU [.tup (l.map .int), .int lo, .int hi] h = .ok (.bl true) [] h := by
 cases l with
 | nil =>
   have a := Yu (h := h) (l := []) List.Pairwise.nil
   simp only [aoa] at a
   simp [oU, bO, wL, startF, aV, jN, aX, aG, ak, M.bind, M.ret, M.opt, aa, D.own, aD, bJ, a, D.fz, D.tb, Xb, aC, aA, bW, D.its, D.der, au, mC, oJ]
 | cons x l =>
   have a := Yu (h := h) hp
   have hl : (x :: l)[(x :: l).length - 1]? = some ((x :: l)[(x :: l).length - 1]'(by simp)) := aoc _
   have b1 : bT h (.tup ((x :: l).map .int)) (.int 0) = some (.int x) := aa2 (h := h) (i := 0) rfl rfl
   have b2 := aeK (h := h) hl
   have i1 := hin x (aod)
   have i2 := hin _ (aop hl)
   generalize (x :: l)[(x :: l).length - 1]'(by simp) = t at b2 i2
   have nz : ((l.length : Int) + 1 == 0) = false := beq_eq_false_iff_ne.mpr (by omega)
   simp only [an1] at a b1 b2
   simp [oU, bO, wL, startF, aV, jN, aX, aG, ak, M.bind, M.ret, M.opt, aa, D.own, aD, bJ, a, D.fz, D.tb, Xb, aC, aA, bW, D.its, D.der, au, mC, oJ, nz, bM, iY, b1, b2, Cv, cInt, i1.1, i2.2]
theorem ade (h : Hh) (v : Int) (l : List Int) : TJ h (.int v) (.tup (l.map .int)) = some (!decide (v ∈ l)) := by
 unfold TJ Pr
 show Option.map _ (if (D.int v).flat && (l.map D.int).all D.flat then some ((l.map D.int).any fun z => D.eqf z (.int v)) else none) = _
 rw [UJ, XS]
 rfl
theorem Tt {h : Hh} {counts cuts : List Int} {born : Int} {N : Nat} (g : Gx N born counts cuts) : ∀ (m j : Nat), 1 ≤ j → j + m = counts.length → ∀ x3 : Option D,
 ∃ y3, fB (aK 3) dh (gH j m) [some (.fl (counts.map .int)), some (.int born), some (.tup (cuts.map .int)), x3] h = .ok .nx [some (.fl (counts.map .int)), some (.int born), some (.tup (cuts.map .int)), y3] h
 | 0, _, _, _, x3 => ⟨x3, rfl⟩
 | m + 1, j, hj, hm, x3 => by
   obtain ⟨y3, e⟩ := Tt g m (j + 1) (by omega) (by omega) (some (.int j))
   refine ⟨y3, ?_⟩
   rw [Ao]
   have ec : ((j + 1 : Nat) : Int) = (j : Int) + 1 := by omega
   rw [ec] at e
   rw [← e]
   have ha : counts[j - 1]? = some (counts[j - 1]'(by omega)) := aoc _
   have hb : counts[j]? = some (counts[j]'(by omega)) := aoc _
   generalize counts[j - 1]'(by omega) = a at ha
   generalize counts[j]'(by omega) = b at hb
   have ba := Du (h := h) (j := (j : Int) - 1) (by omega) ha
   have bb := Du (h := h) (j := (j : Int)) rfl hb
   by_cases hab : b < a
   · have hin := g.fall (j - 1) a b ha (by rw [show j - 1 + 1 = j by omega]; exact hb) hab
     have e3 : born + ((j - 1 : Nat) : Int) = born + (j : Int) - 1 := by omega
     rw [e3] at hin
     simp [fB, aK, dh, bD, Hf, aC, bM, iY, au, aa, D.own, M.bind, M.ret, M.opt, bb, ba, dU, ie, mC, cInt, hab, aX, bR, D.fz, ade, hin]
   · simp [fB, aK, dh, bD, Hf, aC, bM, iY, au, aa, D.own, M.bind, M.ret, M.opt, bb, ba, dU, ie, mC, cInt, hab]
theorem abO {h : Hh} {counts cuts : List Int} {born : Int} {N : Nat} (g : Gx N born counts cuts) (hl : counts.length ≤ 100) : g8 [.fl (counts.map .int), .int born, .tup (cuts.map .int)] h = .ok (.bl false) [] h := by
 have cl := g.cl
 obtain ⟨y3, e⟩ := Tt (h := h) g (counts.length - 1) 1 (Nat.le_refl _) (by omega) none
 have r0 := acx (fr := [some (.fl (counts.map .int)), some (.int born), some (.tup (cuts.map .int)), none]) (h := h) (ma := mC (.int 1)) (mb := aA bW (au 0)) (i := 1) (j := ((counts.map D.int).length : Int)) rfl rfl (vM (by omega) (by omega)) (vM (by omega) (by rw [an2]; omega))
 have e0 : (((counts.map D.int).length : Int) - 1).toNat = counts.length - 1 := by rw [an2]; omega
 rw [e0] at r0
 have r := r0
 have e' : fB (aK 3) dh (gH 1 (counts.length - 1)) [some (.fl (counts.map .int)), some (.int born), some (.tup (cuts.map .int)), none] h = _ := e
 have st : gY [some (.fl (counts.map .int)), some (.int born), some (.tup (cuts.map .int)), none] h = (aV (mC (.bl false))) [some (.fl (counts.map .int)), some (.int born), some (.tup (cuts.map .int)), y3] h := by
  unfold gY az dJ
  rw [M.bind_ok ((M.bind_ok r).trans e')]
 exact G5 (fr0 := [some (.fl (counts.map .int)), some (.int born), some (.tup (cuts.map .int)), none]) (by simp [startF]) (st.trans rfl)
theorem abP {h : Hh} {size born : Int} {counts cuts : List Int} {ends : List (Int × Int)} {gone : List Int} {N : Nat} (l : qN N size born counts cuts ends gone) (h2 : 2 ≤ size) (h4 : size ≤ 4) :
 zH [.fl (counts.map .int), .int size, .int born, .tup (cuts.map .int), .fl (ends.map pairD), .tup (gone.map .int)] h = .ok .non [] h := by
 have cl := l.g.cl
 have b0 := l.b0
 have fit := l.fit
 have lb : counts.length ≤ big := Nat.le_of_lt (vL (by omega))
 have s1 := Tq (h := h) (counts := counts) (most := size - born) l.g.pos (by omega) (by omega) (by omega)
 have s2 := Q9 (h := h) (l := cuts) (lo := born) (hi := born + counts.length - 1 - 1) l.g.asc (fun x hx => by have := l.g.cin x hx; omega)
 have s3 := abO (h := h) l.g (by omega)
 have s5 := Q9 (h := h) (l := gone) (lo := born) (hi := born + counts.length - 1) l.asc (fun x hx => by have := l.gin x hx; omega)
 have n1 : born < size := by omega
 have t0 : tQ [some (.fl (counts.map .int)), some (.int size), some (.int born), some (.tup (cuts.map .int)), some (.fl (ends.map pairD)), some (.tup (gone.map .int)), none, none] h = kZ [some (.fl (counts.map .int)), some (.int size), some (.int born), some (.tup (cuts.map .int)), some (.fl (ends.map pairD)), some (.tup (gone.map .int)), none, none] h := by
  simp [tQ, az, bD, fY, cD, aA, aG, ak, aa, D.own, M.bind, M.ret, M.opt, aD, bJ, bK, D.tru, dB, mC, cInt, h2, h4, b0, n1, aC, dU, ie, bA, aX, bR, bW, D.its, D.der, au, D.fz, gh, aV]
 have t1 : kZ [some (.fl (counts.map .int)), some (.int size), some (.int born), some (.tup (cuts.map .int)), some (.fl (ends.map pairD)), some (.tup (gone.map .int)), none, none] h = kY [some (.fl (counts.map .int)), some (.int size), some (.int born), some (.tup (cuts.map .int)), some (.fl (ends.map pairD)), some (.tup (gone.map .int)), none, none] h := by
  simp [kZ, az, bD, fY, cD, aA, aG, ak, aa, D.own, M.bind, M.ret, M.opt, aD, bJ, bK, D.tru, dB, mC, cInt, h2, h4, b0, n1, aC, dU, ie, bA, aX, bR, bW, D.its, D.der, au, D.fz, gh, aV]
 have t2 : kY [some (.fl (counts.map .int)), some (.int size), some (.int born), some (.tup (cuts.map .int)), some (.fl (ends.map pairD)), some (.tup (gone.map .int)), none, none] h = kW [some (.fl (counts.map .int)), some (.int size), some (.int born), some (.tup (cuts.map .int)), some (.fl (ends.map pairD)), some (.tup (gone.map .int)), none, none] h := by
  simp [kY, az, bD, fY, cD, aA, aG, ak, aa, D.own, M.bind, M.ret, M.opt, aD, bJ, bK, D.tru, dB, mC, cInt, h2, h4, b0, n1, aC, dU, ie, bA, aX, bR, bW, D.its, D.der, au, D.fz, gh, aV, s1]
 have t3 : kW [some (.fl (counts.map .int)), some (.int size), some (.int born), some (.tup (cuts.map .int)), some (.fl (ends.map pairD)), some (.tup (gone.map .int)), none, none] h = kJ [some (.fl (counts.map .int)), some (.int size), some (.int born), some (.tup (cuts.map .int)), some (.fl (ends.map pairD)), some (.tup (gone.map .int)), some (.int (born + counts.length - 1)), none] h := by
  simp [kW, az, bD, fY, cD, aA, aG, ak, aa, D.own, M.bind, M.ret, M.opt, aD, bJ, bK, D.tru, dB, mC, cInt, h2, h4, b0, n1, aC, dU, ie, bA, aX, bR, bW, D.its, D.der, au, D.fz, gh, aV]
 have t4 : kJ [some (.fl (counts.map .int)), some (.int size), some (.int born), some (.tup (cuts.map .int)), some (.fl (ends.map pairD)), some (.tup (gone.map .int)), some (.int (born + counts.length - 1)), none] h = rN [some (.fl (counts.map .int)), some (.int size), some (.int born), some (.tup (cuts.map .int)), some (.fl (ends.map pairD)), some (.tup (gone.map .int)), some (.int (born + counts.length - 1)), none] h := by
  simp [kJ, az, bD, fY, cD, aA, aG, ak, aa, D.own, M.bind, M.ret, M.opt, aD, bJ, bK, D.tru, dB, mC, cInt, h2, h4, b0, n1, aC, dU, ie, bA, aX, bR, bW, D.its, D.der, au, D.fz, gh, aV, s2]
 have t5 : rN [some (.fl (counts.map .int)), some (.int size), some (.int born), some (.tup (cuts.map .int)), some (.fl (ends.map pairD)), some (.tup (gone.map .int)), some (.int (born + counts.length - 1)), none] h = kE [some (.fl (counts.map .int)), some (.int size), some (.int born), some (.tup (cuts.map .int)), some (.fl (ends.map pairD)), some (.tup (gone.map .int)), some (.int (born + counts.length - 1)), none] h := by
  have tt : (aA D.tru (aG 3 0 g8 (aD []) (ak [(aa 0), (aa 2), (aa 3)]) (ak []))) [some (.fl (counts.map .int)), some (.int size), some (.int born), some (.tup (cuts.map .int)), some (.fl (ends.map pairD)), some (.tup (gone.map .int)), some (.int (born + counts.length - 1)), none] h = .ok false [some (.fl (counts.map .int)), some (.int size), some (.int born), some (.tup (cuts.map .int)), some (.fl (ends.map pairD)), some (.tup (gone.map .int)), some (.int (born + counts.length - 1)), none] h := by
   refine aa1 (args := [.fl (counts.map .int), .int born, .tup (cuts.map .int)]) ?_ s3 rfl
   simp [ak, aa, D.own, M.bind, M.ret]
  exact aeH (Ys tt)
 have t6 : kE [some (.fl (counts.map .int)), some (.int size), some (.int born), some (.tup (cuts.map .int)), some (.fl (ends.map pairD)), some (.tup (gone.map .int)), some (.int (born + counts.length - 1)), none] h = fj [some (.fl (counts.map .int)), some (.int size), some (.int born), some (.tup (cuts.map .int)), some (.fl (ends.map pairD)), some (.tup (gone.map .int)), some (.int (born + counts.length - 1)), some (.nl (cuts.map .int))] h := by
  simp [kE, az, bD, fY, cD, aA, aG, ak, aa, D.own, M.bind, M.ret, M.opt, aD, bJ, bK, D.tru, dB, mC, cInt, h2, h4, b0, n1, aC, dU, ie, bA, aX, bR, bW, D.its, D.der, au, D.fz, gh, aV]
 by_cases hs : born + counts.length < size
 · have hsub := l.sub
   rw [if_pos hs] at hsub
   have s4 := Gy (h := h) (ends := ends) (gaps := cuts ++ [born + counts.length - 1]) (by
    rw [List.pairwise_append]
    refine ⟨l.g.asc, List.pairwise_singleton _ _, fun x hx y hy => ?_⟩
    rw [aot] at hy
    have := l.g.cin x hx
    omega) hsub (fun p hp => (l.pos p hp).1) (by rw [an9, aoo]; omega)
   rw [aol, an1, aoa] at s4
   have n2 : born + (counts.length : Int) - 1 < size - 1 := by omega
   have kb : cuts.length < big := vL (by omega)
   have t7 : fj [some (.fl (counts.map .int)), some (.int size), some (.int born), some (.tup (cuts.map .int)), some (.fl (ends.map pairD)), some (.tup (gone.map .int)), some (.int (born + counts.length - 1)), some (.nl (cuts.map .int))] h = dR [some (.fl (counts.map .int)), some (.int size), some (.int born), some (.tup (cuts.map .int)), some (.fl (ends.map pairD)), some (.tup (gone.map .int)), some (.int (born + counts.length - 1)), some (.nl (cuts.map .int ++ [.int (born + counts.length - 1)]))] h := by
    simp [fj, az, bD, fY, cD, aA, aG, ak, aa, D.own, M.bind, M.ret, M.opt, aD, bJ, bK, D.tru, dB, mC, cInt, h2, h4, b0, n1, aC, dU, ie, bA, aX, bR, bW, D.its, D.der, au, D.fz, gh, aV, n2, eE, fH, cR, oM, uZ, kb]
   have t8 : dR [some (.fl (counts.map .int)), some (.int size), some (.int born), some (.tup (cuts.map .int)), some (.fl (ends.map pairD)), some (.tup (gone.map .int)), some (.int (born + counts.length - 1)), some (.nl (cuts.map .int ++ [.int (born + counts.length - 1)]))] h = dO [some (.fl (counts.map .int)), some (.int size), some (.int born), some (.tup (cuts.map .int)), some (.fl (ends.map pairD)), some (.tup (gone.map .int)), some (.int (born + counts.length - 1)), some (.fl (cuts.map .int ++ [.int (born + counts.length - 1)]))] h := by
    simp [dR, az, bD, fY, cD, aA, aG, ak, aa, D.own, M.bind, M.ret, M.opt, aD, bJ, bK, D.tru, dB, mC, cInt, h2, h4, b0, n1, aC, dU, ie, bA, aX, bR, bW, D.its, D.der, au, D.fz, gh, aV, s4]
   have t9 : dO [some (.fl (counts.map .int)), some (.int size), some (.int born), some (.tup (cuts.map .int)), some (.fl (ends.map pairD)), some (.tup (gone.map .int)), some (.int (born + counts.length - 1)), some (.fl (cuts.map .int ++ [.int (born + counts.length - 1)]))] h = .ok (.rt .non) [some (.fl (counts.map .int)), some (.int size), some (.int born), some (.tup (cuts.map .int)), some (.fl (ends.map pairD)), some (.tup (gone.map .int)), some (.int (born + counts.length - 1)), some (.fl (cuts.map .int ++ [.int (born + counts.length - 1)]))] h := by
    simp [dO, az, bD, fY, cD, aA, aG, ak, aa, D.own, M.bind, M.ret, M.opt, aD, bJ, bK, D.tru, dB, mC, cInt, h2, h4, b0, n1, aC, dU, ie, bA, aX, bR, bW, D.its, D.der, au, D.fz, gh, aV, s5]
   exact G5 (by simp [startF]) (t0.trans (t1.trans (t2.trans (t3.trans (t4.trans (t5.trans (t6.trans (t7.trans (t8.trans t9)))))))))
 · have hsub := l.sub
   rw [if_neg hs, aob] at hsub
   have s4 := Gy (h := h) (ends := ends) (gaps := cuts) l.g.asc hsub (fun p hp => (l.pos p hp).1) (by omega)
   have n2 : ¬ born + (counts.length : Int) - 1 < size - 1 := by omega
   have t7 : fj [some (.fl (counts.map .int)), some (.int size), some (.int born), some (.tup (cuts.map .int)), some (.fl (ends.map pairD)), some (.tup (gone.map .int)), some (.int (born + counts.length - 1)), some (.nl (cuts.map .int))] h = dR [some (.fl (counts.map .int)), some (.int size), some (.int born), some (.tup (cuts.map .int)), some (.fl (ends.map pairD)), some (.tup (gone.map .int)), some (.int (born + counts.length - 1)), some (.nl (cuts.map .int))] h := by
    simp [fj, az, bD, fY, cD, aA, aG, ak, aa, D.own, M.bind, M.ret, M.opt, aD, bJ, bK, D.tru, dB, mC, cInt, h2, h4, b0, n1, aC, dU, ie, bA, aX, bR, bW, D.its, D.der, au, D.fz, gh, aV, n2]
   have t8 : dR [some (.fl (counts.map .int)), some (.int size), some (.int born), some (.tup (cuts.map .int)), some (.fl (ends.map pairD)), some (.tup (gone.map .int)), some (.int (born + counts.length - 1)), some (.nl (cuts.map .int))] h = dO [some (.fl (counts.map .int)), some (.int size), some (.int born), some (.tup (cuts.map .int)), some (.fl (ends.map pairD)), some (.tup (gone.map .int)), some (.int (born + counts.length - 1)), some (.fl (cuts.map .int))] h := by
    simp [dR, az, bD, fY, cD, aA, aG, ak, aa, D.own, M.bind, M.ret, M.opt, aD, bJ, bK, D.tru, dB, mC, cInt, h2, h4, b0, n1, aC, dU, ie, bA, aX, bR, bW, D.its, D.der, au, D.fz, gh, aV, s4]
   have t9 : dO [some (.fl (counts.map .int)), some (.int size), some (.int born), some (.tup (cuts.map .int)), some (.fl (ends.map pairD)), some (.tup (gone.map .int)), some (.int (born + counts.length - 1)), some (.fl (cuts.map .int))] h = .ok (.rt .non) [some (.fl (counts.map .int)), some (.int size), some (.int born), some (.tup (cuts.map .int)), some (.fl (ends.map pairD)), some (.tup (gone.map .int)), some (.int (born + counts.length - 1)), some (.fl (cuts.map .int))] h := by
    simp [dO, az, bD, fY, cD, aA, aG, ak, aa, D.own, M.bind, M.ret, M.opt, aD, bJ, bK, D.tru, dB, mC, cInt, h2, h4, b0, n1, aC, dU, ie, bA, aX, bR, bW, D.its, D.der, au, D.fz, gh, aV, s5]
   exact G5 (by simp [startF]) (t0.trans (t1.trans (t2.trans (t3.trans (t4.trans (t5.trans (t6.trans (t7.trans (t8.trans t9)))))))))
theorem adf {h : Hh} {size born : Int} {counts cuts : List Int} {ends : List (Int × Int)} {gone : List Int} {N : Nat} (l : qN N size born counts cuts ends gone) (h2 : 2 ≤ size) (h4 : size ≤ 4) :
 fU [.fl (counts.map .int), .int size, .int born, .tup (cuts.map .int), .fl (ends.map pairD), .tup (gone.map .int)] h = .ok (.no 0 (qm size born counts cuts ends gone)) [] h := by
 have f0 := abP (h := h) l h2 h4
 have cl := l.g.cl
 have fit := l.fit
 have b0 := l.b0
 have el : ends.length ≤ big := by
  have a := l.sub.length_le
  rw [an2, an9] at a
  have : (if born + (counts.length : Int) < size then [born + (counts.length : Int) - 1] else []).length ≤ 1 := by split <;> simp
  exact Nat.le_of_lt (vL (by omega))
 have b2 : 2 ≤ big := by decide
 have c1 := Wv (vs := [8, 9]) (g := jF) (t := jG) (e := jH)
  (fr := [some (.no 0 [.int size, .int born, .tup (counts.map .int), .tup (cuts.map .int)]), some (.fl (counts.map .int)), some (.int size), some (.int born), some (.tup (cuts.map .int)), some (.fl (ends.map pairD)), some (.tup (gone.map .int)), some .non, none, none]) (h := h) (F := pairD) (F' := pairD) (ds := ends) (fun p hp => by
  simp [fP, jF, jG, jH, gM, bu, aK, il, pairD, M.bind, M.ret, M.opt, ig, ak, aa, D.own, b2, dZ])
 simp [fU, runI, qM, tG, tE, tD, sY, sX, sW, startF, az, bA, aG, ak, aa, D.own, M.bind, M.ret, M.opt, aD, bJ, f0, bD, aC, mC, ZC, D.isNon, nu, wg, bG, eO, dM, fG, lZ, pZ, aoi, sO, aA, rC, D.its, D.der, au, km, iU, Gp, dZ, el, c1, qm]
end L
namespace L
open PySem PySem.Spec L2 Pk
theorem yo (a b : Int) : pairD (a, b) = .tup [.int a, .int b] := by unfold pairD; rfl
def di (ends : List (Int × Int)) (gap : Int) : Int := ((ends.filter fun p => decide (p.1 = gap)).map (·.2)).sum
theorem Dy (ends : List (Int × Int)) (p : Int × Int → Bool) : ((ends.filter p).map fun p => D.int p.2) = ((ends.filter p).map (·.2)).map .int := by rw [aoj]; rfl
theorem Aq (ends : List (Int × Int)) (gap : Int) : ((ends.filter fun p => decide (p.1 = gap)).map (·.2)).sum = di ends gap := by unfold di; rfl
theorem akr {size born gap : Int} {counts cuts : List Int} {ends : List (Int × Int)} {gone : List Int} {N : Nat} (l : qN N size born counts cuts ends gone) (hg : gap < born ∨ born + counts.length - 1 < gap) : di ends gap = 0 := by
 have hz : (ends.filter fun p => decide (p.1 = gap)) = [] := by
  rw [List.filter_eq_nil_iff]
  intro p hp hq
  have e : p.1 = gap := of_decide_eq_true hq
  have hm : p.1 ∈ (cuts ++ if born + counts.length < size then [born + counts.length - 1] else []) := l.sub.subset (aoD hp)
  rw [List.mem_append] at hm
  have cl := l.g.cl
  rcases hm with hm | hm
  · have := l.g.cin _ hm
    omega
  · split at hm
    · rw [aot] at hm
      omega
    · cases hm
 unfold di
 rw [hz]
 rfl
def Iz (born : Int) (counts cuts : List Int) (ends : List (Int × Int)) (gap : Int) : Int :=
 if gap + 1 - born < 0 ∨ (counts.length : Int) ≤ gap - born then 0
 else if gap + 1 - born = 0 then (counts[0]?).getD 0
 else if gap + 1 - born = counts.length then di ends gap
 else if gap ∈ cuts then (counts[(gap + 1 - born).toNat]?).getD 0 + di ends gap
 else (counts[(gap + 1 - born).toNat]?).getD 0 - (counts[(gap - born).toNat]?).getD 0
theorem Wz {l : List Int} {j : Nat} (h : j < l.length) : ∃ x, l[j]? = some x := ⟨_, aoc h⟩
theorem Ra {l : List Int} {i x : Int} (h0 : 0 ≤ i) (e : l[i.toNat]? = some x) : atI (l.map D.int) i = some (.int x) := by
 rw [ael h0, aos, e]; rfl
theorem age {h : Hh} {size born : Int} {counts cuts : List Int} {ends : List (Int × Int)} {gone : List Int} : ql [.obj 0 (qm size born counts cuts ends gone)] h = .ok (.int (born + counts.length - 1)) [] h := by
 apply Wp.eq
 simp only [↓Uy, ↓du, startF, qm, an1, aoa, an4, an8, Nat.zero_add, Nat.reduceSub, aoh, aob, aN, ↓V6, ↓dY, ↓cZ, ↓fQ, ↓d7, ↓cY, an3, aM, eZ, gK, aQ, an7, iy, HW, an2, qu, ↓gQ, tZ, zf, Jw, dX, and_self]
theorem aeL {h : Hh} {size born gap : Int} {counts cuts : List Int} {ends : List (Int × Int)} {gone : List Int} {N : Nat} (l : qN N size born counts cuts ends gone) (hl : ends.length ≤ 100) : jc [.obj 0 (qm size born counts cuts ends gone), .int gap] h = .ok (.int (Iz born counts cuts ends gap)) [] h := by
 have cl := l.g.cl
 have hm : (ends.map pairD).length ≤ 100000 := by rw [an2]; omega
 have lc := Bm (vs := [5, 6]) (g := jn) (t := jr) (e := jt) (fr := [some (.obj 0 (qm size born counts cuts ends gone)), some (.int gap), none, none, none, none, none]) (h := h) (F := pairD) (G := fun p => .int p.2) (p := fun p => decide (p.1 = gap)) (xs := ends) (fun p hp => by
  obtain ⟨x, y⟩ := p
  simp only [↓jU, ↓Io, yo, ↓rJ, an4, an8, Nat.zero_add, Nat.reduceAdd, ↓pD, ↓cJ, an6, an5, aN, ↓rH, ↓Ip, ↓cZ, ↓bj, an7, an3, aM, bZ, cA, ↓cY, iV, aQ, true_and]
  refine aei (fun z => ?_) fun z => ?_ <;> simp only [↓Ir, ↓bj, z, an7, an3, an6, an5, aM, bZ, cA, cG, cV, aN, decide_true, ↓reduceIte, and_self, decide_false, Bool.false_eq_true])
 have es := age (h := h) (size := size) (born := born) (counts := counts) (cuts := cuts) (ends := ends) (gone := gone)
 have t0 := akr l (gap := gap)
 have g0 := Wz (l := counts) (j := 0) (by omega)
 obtain ⟨c0, g0⟩ := Wz (l := counts) (j := 0) (by omega)
 simp only [qm] at *
 apply Wp.eq
 by_cases z1 : born ≤ gap + 1
 · by_cases z2 : gap + 1 ≤ born + counts.length - 1
   · have n1 : ¬ (gap + 1 - born < 0 ∨ (counts.length : Int) ≤ gap - born) := by omega
     obtain ⟨c1, g1⟩ := Wz (l := counts) (j := (gap + 1 - born).toNat) (by omega)
     have a1 := Ra (i := gap + 1 - born) (by omega) g1
     by_cases z3 : born ≤ gap
     · have z4 : gap ≤ born + counts.length - 1 := by omega
       have n2 : ¬ gap + 1 - born = 0 := by omega
       have n3 : ¬ gap + 1 - born = counts.length := by omega
       obtain ⟨c2, g2⟩ := Wz (l := counts) (j := (gap - born).toNat) (by omega)
       have a2 := Ra (i := gap - born) (by omega) g2
       by_cases z5 : gap ∈ cuts
       · simp only [↓j9, ↓du, startF, an1, aoa, an4, an8, Nat.zero_add, Nat.reduceAdd, Nat.reduceSub, aom, aoh, aog, aof, Iz, aN, ↓lV, ↓cW, ↓dH, ↓d7, ↓tY, ↓oN, ↓cY, an3, aM, eZ, pN, aQ, an7, oG, cO, hm, cG, cV, an6, an5, lc, Dy, ↓cH, zg, Aq, cC, ↓jy, ↓RN, ↓Dc, gK, ↓bj, bZ, cA, rK, z3, decide_true, fD, ↓fQ, ↓G4, lG, vZ, Gv, es, tZ, z4, ↓jx, ↓eV, ↓pC, ↓cZ, ↓gQ, qu, z1, z2, Bool.not_true, ↓dF, ↓rZ, iy, zf, Jw, xZ, a1, ↓rY, ↓Bh, jP, aaG, z5, ↓dY, QC, dX, n1, ↓reduceIte, n2, n3, g1, Option.getD_some, and_self, and_true, true_and]
         rw [Int.add_comm]
       · simp only [↓j9, ↓du, startF, an1, aoa, an4, an8, Nat.zero_add, Nat.reduceAdd, Nat.reduceSub, aom, aoh, aog, aof, Iz, aN, ↓lV, ↓cW, ↓dH, ↓d7, ↓tY, ↓oN, ↓cY, an3, aM, eZ, pN, aQ, an7, oG, cO, hm, cG, cV, an6, an5, lc, Dy, ↓cH, zg, Aq, cC, ↓jy, ↓RN, ↓Dc, gK, ↓bj, bZ, cA, rK, z3, decide_true, fD, ↓fQ, ↓G4, lG, vZ, Gv, es, tZ, z4, ↓jx, ↓eV, ↓pC, ↓cZ, ↓gQ, qu, z1, z2, Bool.not_true, ↓dF, ↓rZ, iy, zf, Jw, xZ, a1, ↓rY, ↓Bh, jP, aaG, z5, decide_false, vz, ↓dY, a2, dX, n1, ↓reduceIte, n2, n3, g1, Option.getD_some, g2, and_self]
     · have n2 : gap + 1 - born = 0 := by omega
       rw [n2] at a1 n1
       have a0 : atI (counts.map D.int) 0 = some (.int c0) := Ra (by omega) g0
       have tz : di ends gap = 0 := t0 (by omega)
       have n1' : ¬ (counts.length : Int) ≤ gap - born := by omega
       have hc : gap ∉ cuts := fun hm => by
        have := l.g.cin _ hm
        omega
       simp only [↓j9, ↓du, startF, an1, aoa, an4, an8, Nat.zero_add, Nat.reduceAdd, Nat.reduceSub, aom, aoh, aog, aof, Iz, aN, ↓lV, ↓cW, ↓dH, ↓d7, ↓tY, ↓oN, ↓cY, an3, aM, eZ, pN, aQ, an7, oG, cO, hm, cG, cV, an6, an5, lc, Dy, ↓cH, zg, Aq, tz, cC, ↓jy, ↓RN, ↓Dc, gK, ↓bj, bZ, cA, rK, z3, decide_false, ↓jx, ↓eV, ↓pC, ↓fQ, ↓cZ, ↓gQ, qu, tZ, z1, decide_true, fD, ↓G4, lG, vZ, Gv, es, z2, Bool.not_true, ↓dF, ↓rZ, iy, zf, Jw, n2, xZ, a0, ↓rY, ↓Bh, jP, aaG, hc, vz, Bool.not_false, ↓dY, Int.zero_add, QC, dX, Int.reduceLT, n1', or_self, ↓reduceIte, g0, Option.getD_some, and_self]
   · have hq : Iz born counts cuts ends gap = di ends gap := by
      by_cases z4 : gap + 1 - born = counts.length
      · rw [Iz, if_neg (by omega), if_neg (by omega), if_pos z4]
      · rw [Iz, if_pos (by omega), t0 (by omega)]
     by_cases z3 : born ≤ gap <;> simp only [↓j9, ↓du, startF, an1, aoa, an4, an8, Nat.zero_add, Nat.reduceAdd, Nat.reduceSub, aom, aoh, aog, aof, aN, ↓lV, ↓cW, ↓dH, ↓d7, ↓tY, ↓oN, ↓cY, an3, aM, eZ, pN, aQ, an7, oG, cO, hm, cG, cV, an6, an5, lc, Dy, ↓cH, zg, Aq, cC, ↓jy, ↓RN, ↓Dc, gK, ↓bj, bZ, cA, rK, z3, decide_true, fD, ↓fQ, ↓G4, lG, vZ, Gv, es, tZ, ↓jx, ↓eV, ↓pC, ↓cZ, ↓gQ, qu, z1, z2, decide_false, Bool.not_false, ↓dY, ↓G3, QC, dX, hq, and_self]
 · have z3 : ¬ born ≤ gap := by omega
   have hq : Iz born counts cuts ends gap = di ends gap := by rw [Iz, if_pos (by omega), t0 (by omega)]
   simp only [↓j9, ↓du, startF, an1, aoa, an4, an8, Nat.zero_add, Nat.reduceAdd, Nat.reduceSub, aom, aoh, aog, aof, aN, ↓lV, ↓cW, ↓dH, ↓d7, ↓tY, ↓oN, ↓cY, an3, aM, eZ, pN, aQ, an7, oG, cO, hm, cG, cV, an6, an5, lc, Dy, ↓cH, zg, Aq, cC, ↓jy, ↓RN, ↓Dc, gK, ↓bj, bZ, cA, rK, z3, decide_false, ↓jx, ↓eV, ↓pC, ↓fQ, ↓cZ, ↓gQ, qu, tZ, z1, Bool.not_false, fD, ↓dY, ↓G3, QC, dX, hq, and_self]
theorem uL (lo : Int) (n : Nat) : gH lo n = ((aoe n).map fun (k : Nat) => lo + (k : Int)).map D.int := by unfold gH; rw [aoj]; rfl
theorem abQ {h : Hh} {size born : Int} {counts cuts : List Int} {ends : List (Int × Int)} {gone : List Int} {N : Nat} (l : qN N size born counts cuts ends gone) (hl : ends.length ≤ 100) (h2 : 2 ≤ size) (h4 : size ≤ 4) :
 ju [.obj 0 (qm size born counts cuts ends gone)] h = .ok (.tup ((((aoe (size - 1).toNat).map fun (k : Nat) => 0 + (k : Int)).map (Iz born counts cuts ends)).map .int)) [] h := by
 have ei := fun gap => aeL (h := h) (gap := gap) l hl
 have lc := wH (vs := [1]) (g := lL) (t := lM) (e := lN) (fr := [some (.obj 0 (qm size born counts cuts ends gone)), none]) (h := h) (F := D.int) (G := fun gap => .int (Iz born counts cuts ends gap)) (xs := (aoe (size - 1).toNat).map fun (k : Nat) => 0 + (k : Int)) (fun gap _ => by
  simp only [↓jU, ↓Lz, ↓cJ, an6, an5, aN, ↓LC, ↓dF, fD, ↓LK, ↓fQ, ↓Xp, ↓bj, an3, aM, lG, cA, vZ, Uz, aQ, ↓cU, an7, an4, bZ, ↓bU, an8, Nat.zero_add, fO, aob, ei, ↓cH, cG, cV, tZ, and_self])
 have hm : (gH 0 (size - 1).toNat).length ≤ 100000 := by
  rw [uL, an2, an2, aoy]; omega
 have sm : nW (size - 1) = true := Fg (by omega) (by omega)
 rw [← uL] at lc
 simp only [qm] at *
 apply Wp.eq
 simp only [↓O8, ↓du, startF, an1, aoa, an4, an8, Nat.zero_add, Nat.reduceSub, aom, aoh, aog, aof, aN, ↓Q6, ↓dY, ↓d7, ↓tY, ↓Dd, ↓cZ, ↓cY, an3, Vw, aM, eZ, iW, aQ, ↓gQ, zf, Jw, sm, ↓reduceIte, cO, hm, cG, cV, an6, an5, lc, aoj, Function.comp_def, ↓cH, QD, aaD, Option.map_some, dX, and_self]
end L
namespace L
open PySem PySem.Spec L2 Pk
structure Lv where
 born : Int
 counts : List Int
 cuts : List Int
 ends : List (Int × Int)
 gone : List Int
 deriving DecidableEq
def Lv.d (l : Lv) : D := sS l.born l.counts l.cuts l.ends l.gone
def Lv.fs (size : Int) (l : Lv) : List D := qm size l.born l.counts l.cuts l.ends l.gone
def Lv.okN (N : Nat) (size : Int) (l : Lv) : Prop := qN N size l.born l.counts l.cuts l.ends l.gone
theorem Lv.own_d (l : Lv) : l.d.own = false := rfl
def Em.pI : Em (Int × Int) := Em.pair Em.int Em.int
theorem Ny (p : Int × Int) : (pairD p).toP = some (Em.pI.f p) := by unfold pairD D.toP; rfl
def Em.lv : Em Lv where
 f := fun l => .tuple [Em.int.f l.born, Em.int.list.f l.counts, Em.int.list.f l.cuts, Em.pI.list.f l.ends, Em.int.list.f l.gone]
 n := 4
 ok := fun _ => True
 lay := fun l _ => by
  have e1 := Em.int.list.lay l.counts (fun _ _ => trivial)
  have e2 := Em.int.list.lay l.cuts (fun _ _ => trivial)
  have e3 := Em.pI.list.lay l.ends (fun _ _ => ⟨trivial, trivial⟩)
  have e4 := Em.int.list.lay l.gone (fun _ _ => trivial)
  show PyData.canLayAll0 [_, _, _, _, _] = true
  simp only [PyData.canLayAll0, e1, e2, e3, e4, Em.int.lay l.born trivial, Bool.and_self]
 dep := fun l => by
  have e0 := Em.int.dep l.born
  have e1 := Em.int.list.dep l.counts
  have e2 := Em.int.list.dep l.cuts
  have e3 := Em.pI.list.dep l.ends
  have e4 := Em.int.list.dep l.gone
  have n0 : Em.int.n ≤ 3 := by decide
  have n1 : Em.int.list.n ≤ 3 := by decide
  have n2 : Em.pI.list.n ≤ 3 := by decide
  simp only [PyData.depth, PyData.depthAll]
  omega
 eq := fun l m => by
  show PyData.eqvAll [_, _, _, _, _] [_, _, _, _, _] = _
  simp only [PyData.eqvAll, Em.int.eq, Em.int.list.eq, Em.pI.list.eq, Bool.and_true]
  cases l
  cases m
  simp only [Lv.mk.injEq, Bool.decide_and]
theorem aeM (l : Lv) : l.d.toP = some (Em.lv.f l) := by
 unfold Lv.d sS
 simp only [D.toP, D.toPs, VF Em.int wJ, VF Em.pI Ny, wI Em.int wJ, wI Em.pI Ny, Option.map_some]
 rfl
theorem ajH {h : Hh} {l m : List (Int × Int)} : fL h (.tup (l.map pairD)) (.tup (m.map pairD)) = some (decide (l = m)) := VD Em.pI.tup (Lh Em.pI Ny l) (Lh Em.pI Ny m) (fun _ _ => ⟨trivial, trivial⟩) (fun _ _ => ⟨trivial, trivial⟩) (by decide)
theorem RX (h : Hh) (l : List D) : rG mD h (.obj 0 l) (.cls 0) = some (.bl true) := by kernel_rfl
theorem agO {l m : Lv} : decide (l = m) = (decide (l.born = m.born) && (decide (l.counts = m.counts) && (decide (l.cuts = m.cuts) && (decide (l.ends = m.ends) && decide (l.gone = m.gone))))) := by
 cases l
 cases m
 simp only [Lv.mk.injEq, Bool.decide_and]
theorem aeN {h : Hh} {s s' : Int} {l m : Lv} : jm [.obj 0 (l.fs s), .obj 0 (m.fs s')] h = .ok (.bl (decide (s = s') && decide (l = m))) [] h := by
 rw [agO]
 have q3 := fun {l m} => acp (h := h) (l := l) (m := m)
 have q5 := fun {l m} => ajH (h := h) (l := l) (m := m)
 simp only [Lv.fs, qm]
 apply Wp.eq
 by_cases z1 : s = s'
 · by_cases z2 : l.born = m.born
   · by_cases z3 : l.counts = m.counts
     · by_cases z4 : l.cuts = m.cuts
       · by_cases z5 : l.ends = m.ends
         · by_cases z6 : l.gone = m.gone <;> simp only [↓jX, ↓du, startF, z1, z2, z3, z4, z5, z6, an1, aoa, an4, an8, Nat.zero_add, Nat.reduceAdd, Nat.reduceSub, aom, aoh, aog, aof, aN, ↓lU, ↓cW, ↓eV, ↓pC, ↓d7, ↓cZ, ↓bj, an7, an3, an6, an5, aM, lG, cA, ↓gQ, RX, aQ, vz, Bool.not_true, ↓dF, cC, ↓je, ↓dH, ↓Ah, ↓cY, eZ, iW, iV, decide_true, Option.map_some, Ea, fD, gK, iy, q3, ↓dY, Lf, jP, pN, q5, Ky, dX, Bool.and_true, and_self, decide_false, Bool.and_false]
         · simp only [↓jX, ↓du, startF, z1, z2, z3, z4, an1, aoa, an4, an8, Nat.zero_add, Nat.reduceAdd, Nat.reduceSub, aom, aoh, aog, aof, aN, ↓lU, ↓cW, ↓eV, ↓pC, ↓d7, ↓cZ, ↓bj, an7, an3, an6, an5, aM, lG, cA, ↓gQ, RX, aQ, vz, Bool.not_true, ↓dF, cC, ↓je, ↓dH, ↓Ah, ↓cY, eZ, iW, iV, decide_true, Option.map_some, Ea, fD, gK, iy, q3, ↓dY, Lf, jP, pN, q5, z5, decide_false, dX, Bool.false_and, Bool.and_false, and_self]
       · simp only [↓jX, ↓du, startF, z1, z2, z3, an1, aoa, an4, an8, Nat.zero_add, Nat.reduceAdd, Nat.reduceSub, aom, aoh, aog, aof, aN, ↓lU, ↓cW, ↓eV, ↓pC, ↓d7, ↓cZ, ↓bj, an7, an3, an6, an5, aM, lG, cA, ↓gQ, RX, aQ, vz, Bool.not_true, ↓dF, cC, ↓je, ↓dH, ↓Ah, ↓cY, eZ, iW, iV, decide_true, Option.map_some, Ea, fD, gK, iy, q3, ↓dY, Lf, jP, z4, decide_false, dX, Bool.false_and, Bool.and_false, and_self]
     · simp only [↓jX, ↓du, startF, z1, z2, an1, aoa, an4, an8, Nat.zero_add, Nat.reduceAdd, Nat.reduceSub, aom, aoh, aog, aof, aN, ↓lU, ↓cW, ↓eV, ↓pC, ↓d7, ↓cZ, ↓bj, an7, an3, an6, an5, aM, lG, cA, ↓gQ, RX, aQ, vz, Bool.not_true, ↓dF, cC, ↓je, ↓dH, ↓Ah, ↓cY, eZ, iW, iV, decide_true, Option.map_some, Ea, fD, gK, iy, q3, z3, decide_false, ↓dY, Lf, dX, Bool.false_and, Bool.and_false, and_self]
   · simp only [↓jX, ↓du, startF, z1, an1, aoa, an4, an8, Nat.zero_add, Nat.reduceAdd, Nat.reduceSub, aom, aoh, aog, aof, aN, ↓lU, ↓cW, ↓eV, ↓pC, ↓d7, ↓cZ, ↓bj, an7, an3, an6, an5, aM, lG, cA, ↓gQ, RX, aQ, vz, Bool.not_true, ↓dF, cC, ↓je, ↓dH, ↓Ah, ↓cY, eZ, iW, iV, decide_true, Option.map_some, Ea, fD, gK, z2, decide_false, ↓dY, Lf, dX, Bool.false_and, Bool.and_false, and_self]
 · simp only [↓jX, ↓du, startF, an1, aoa, an4, an8, Nat.zero_add, Nat.reduceAdd, Nat.reduceSub, aom, aoh, aog, aof, aN, ↓lU, ↓cW, ↓eV, ↓pC, ↓d7, ↓cZ, ↓bj, an7, an3, an6, an5, aM, lG, cA, ↓gQ, RX, aQ, vz, Bool.not_true, ↓dF, cC, ↓je, ↓dH, ↓Ah, ↓cY, eZ, iW, iV, z1, decide_false, Option.map_some, Ea, ↓dY, Lf, dX, Bool.false_and, and_self]
def Lv.i (size : Int) (l : Lv) : D := .obj 0 (l.fs size)
abbrev Lv.ok (size : Int) (l : Lv) : Prop := Lv.okN 200 size l
theorem Lv.own_i (size : Int) (l : Lv) : (l.i size).own = false := rfl
theorem adg (h : Hh) (l : List D) : rG mD h (.obj 1 l) (.cls 1) = some (.bl true) := by kernel_rfl
def hD (size : Int) (ls : List Lv) : D := .obj 1 [.int size, .tup (ls.map (Lv.i size))]
theorem Nz : ∀ a b : List Int, D.sims (a.map .int) (b.map .int) = decide (a = b)
 | [], [] => rfl
 | [], _ :: _ => rfl
 | _ :: _, [] => rfl
 | x :: a, y :: b => by
   show (D.sim (.int x) (.int y) && D.sims (a.map .int) (b.map .int)) = _
   rw [Nz a b, show D.sim (.int x) (.int y) = (x == y) from rfl]
   by_cases h1 : x = y <;> by_cases h2 : a = b <;> simp [h1, h2]
theorem Yv : ∀ a b : List (Int × Int), D.sims (a.map pairD) (b.map pairD) = decide (a = b)
 | [], [] => rfl
 | [], _ :: _ => rfl
 | _ :: _, [] => rfl
 | (x, x') :: a, (y, y') :: b => by
   show (D.sim (pairD (x, x')) (pairD (y, y')) && D.sims (a.map pairD) (b.map pairD)) = _
   rw [Yv a b, yo, yo, show D.sim (.tup [.int x, .int x']) (.tup [.int y, .int y']) = ((x == y) && ((x' == y') && true)) from rfl]
   by_cases h1 : x = y <;> by_cases h2 : x' = y' <;> by_cases h3 : a = b <;> simp [h1, h2, h3]
theorem aid {size : Int} {l m : Lv} (hn : l ≠ m) : D.sims (l.fs size) (m.fs size) = false := by
 have e : D.sims (l.fs size) (m.fs size) = (D.sim (.int size) (.int size) && (D.sim (.int l.born) (.int m.born) && (D.sims (l.counts.map .int) (m.counts.map .int) && (D.sims (l.cuts.map .int) (m.cuts.map .int) && (D.sims (l.ends.map pairD) (m.ends.map pairD) && (D.sims (l.gone.map .int) (m.gone.map .int) && true)))))) := rfl
 rw [e, Nz, Nz, Nz, Yv, show D.sim (.int size) (.int size) = (size == size) from rfl, show D.sim (.int l.born) (.int m.born) = (l.born == m.born) from rfl]
 have := agO (l := l) (m := m)
 rw [decide_eq_false hn] at this
 rw [beq_self_eq_true, Bool.true_and, Bool.and_true, ← Bool.beq_eq_decide_eq (l.born)] at *
 exact this.symm
section
variable {h : Hh} {size wide : Int} {ls ms : List Lv}
theorem aeO (ls ms : List Lv) : xV d8 jW h (ls.map (Lv.i size)) (ms.map (Lv.i size)) = some (decide (ls = ms)) :=
 aaK (F := jm) (c := 0) (f := Lv.fs size) rfl (fun _ => rfl) (fun a b => by
  have := aeN (h := h) (s := size) (s' := size) (l := a) (m := b)
  rwa [decide_eq_true rfl, Bool.true_and] at this) (fun a b hn => aid hn) ls ms
theorem heq : nJ [hD size ls, hD wide ms] h = .ok (.bl (decide (size = wide) && decide (ls = ms))) [] h := by
 apply Wp.eq
 by_cases z : size = wide
 · subst z
   have e := aeO (h := h) (size := size) ls ms
   simp only [↓Fp, ↓du, startF, hD, an1, aoa, an4, an8, Nat.zero_add, Nat.reduceAdd, Nat.reduceSub, aoh, aob, aN, ↓Gn, ↓cW, ↓eV, ↓pC, ↓d7, ↓cZ, ↓bj, an7, an3, an6, an5, aM, lG, cA, ↓gQ, adg, aQ, vz, Bool.not_true, ↓dF, cC, ↓dY, ↓Ah, ↓cY, eZ, m9, iV, decide_true, Option.map_some, Ea, fD, ↓RN, ↓aaI, lg, ↓ah5, af0, e, dX, Bool.true_and, and_self]
 · simp only [↓Fp, ↓du, startF, hD, an1, aoa, an4, an8, Nat.zero_add, Nat.reduceAdd, Nat.reduceSub, aoh, aob, aN, ↓Gn, ↓cW, ↓eV, ↓pC, ↓d7, ↓cZ, ↓bj, an7, an3, an6, an5, aM, lG, cA, ↓gQ, adg, aQ, vz, Bool.not_true, ↓dF, cC, ↓dY, ↓Ah, ↓cY, eZ, m9, iV, z, decide_false, Option.map_some, Ea, dX, Bool.false_and, and_self]
theorem Zt : dw [.int size, .tup (ls.map (Lv.i size))] h = .ok (.no 1 [.int size, .tup (ls.map (Lv.i size))]) [] h := by
 apply Wp.eq
 simp only [↓Nt, ↓ahN, startF, an1, aoa, an4, an8, Nat.zero_add, Nat.reduceAdd, Nat.reduceSub, aom, aoh, aog, aof, aN, ↓O4, ↓cW, ↓tO, ↓oN, ↓bj, an7, an3, an6, an5, aM, Ai, cA, oG, aQ]
 refine yc (fun _ fr h' => ∃ x3, fr = [some (.no 1 []), some (.int size), some (.tup (ls.map (Lv.i size))), x3] ∧ h' = h) ⟨none, rfl, rfl⟩ ?_ ?_
 · rintro pre l suf fr h' e ⟨x3, rfl, rfl⟩
   simp only [↓cJ, Lv.i, Lv.fs, qm, an6, an5, aN, ↓Kh, ↓eV, ↓cZ, ↓d7, ↓cY, an7, an3, aM, eZ, iW, aQ, Vz, iV, decide_true, Option.map_some, Bool.not_true, cA, ↓dF, jk, and_true]
   exact ⟨_, rfl⟩
 · rintro fr h' ⟨x3, rfl, rfl⟩
   simp only [an3, cC, ↓Kl, ↓cW, ↓aej, ↓bj, an7, an6, an5, aM, bZ, cA, ↓ahM, m9, aQ, an8, aeo, aof, aN, ↓d7, ↓cY, QD, oG, Option.map_some, lg, an4, Nat.zero_add, aog, afN, and_self]
theorem ale (hl : ls.length + ms.length ≤ 1000) : lH [hD size ls, hD size ms] h = .ok (.no 1 [.int size, .tup ((ls ++ ms).map (Lv.i size))]) [] h := by
 have hi := Zt (h := h) (size := size) (ls := ls ++ ms)
 have hb : ls.length + ms.length ≤ 100000 := by omega
 rw [aol] at *
 apply Wp.eq
 simp only [↓O6, ↓du, startF, hD, an1, aoa, an4, an8, Nat.zero_add, Nat.reduceAdd, Nat.reduceSub, aom, aoh, aog, aof, aN, ↓QZ, ↓cW, ↓eV, ↓cZ, ↓d7, ↓cY, an3, aM, eZ, m9, aQ, an7, Vz, iV, decide_true, Option.map_some, Bool.not_true, cA, ↓dF, cC, ↓Ly, ↓dH, lg, an6, an5, afO, an2, cO, hb, ↓reduceIte, ↓dY, ↓acr, ↓bj, Ai, ↓cU, ↓bU, oG, an9, M5, hi, ↓cH, dX, and_self]
theorem aeP {N : Nat} {l : Lv} (o : l.okN N size) (h2 : 2 ≤ size) (h4 : size ≤ 4) : qO [l.d, .int size] h = .ok (.no 0 (l.fs size)) [] h := aeJ o h2 h4
theorem agf {n : Int} {l : List D} : lJ [.obj 1 [.int n, .tup l]] h = .ok (.int l.length) [] h := by
 apply Wp.eq
 simp only [↓O7, ↓du, startF, an1, aoa, an4, an8, Nat.zero_add, Nat.reduceSub, aoh, aob, aN, ↓Q3, ↓dY, ↓d7, ↓cY, an3, aM, eZ, lg, aQ, an7, HW, dX, and_self]
theorem agg {k : Nat} {l : Lv} (hl : ls.length ≤ 100) (e : ls[k]? = some l) : iK [.obj 1 [.int size, .tup (ls.map (Lv.i size))], .int k] h = .ok (l.i size) [] h := by
 have hk : k < ls.length := (List.getElem?_eq_some_iff.mp e).1
 have is := bK h k
 have a : atI (ls.map (Lv.i size)) (k : Int) = some (l.i size) := by rw [Bl, aos, e]; rfl
 have c0 : (0 : Int) ≤ k := by omega
 have c1 : (k : Int) < ls.length := by omega
 apply Wp.eq
 simp only [↓Jf, ↓du, startF, an1, aoa, an4, an8, Nat.zero_add, Nat.reduceAdd, Nat.reduceSub, aoh, aob, aN, ↓Kw, ↓dY, ↓cZ, ↓d7, ↓cY, an3, aM, eZ, lg, aQ, an7, ↓fQ, ↓Xp, ↓bj, an5, lG, cA, vZ, aaX, ↓cU, an6, bZ, ↓bU, ↓S7, fO, ↓Uu, ↓cW, ↓eV, ↓Bh, ↓pC, ↓fM, is, ↓cH, vz, Bool.not_true, ↓Dc, ↓gQ, rK, c0, decide_true, fD, HW, an2, c1, ↓dF, cC, ↓G3, dX, tZ, xZ, a, and_self]
end
end L
namespace L
open PySem PySem.Spec L2 Pk
def Dz (a b : Int) : Int := (if b < a then 1 else 0) - (if a < b then 1 else 0)
def dC (a b : Int) : Int := if a = b then 0 else if b < a then 1 else 2
theorem UL {a b a' b' : Int} : Dz a b = Dz a' b' ↔ dC a b = dC a' b' := by
 unfold Dz dC
 repeat' split
 all_goals omega
theorem JG {a a' : Int} : (dC a a = dC a' a') = True := by
 unfold dC
 simp
theorem qR (a b a' b' : Int) : (dC a b = dC a' b') = (dC b a = dC b' a') := by
 rw [eq_iff_iff]
 unfold dC
 repeat' split
 all_goals omega
def BW (cs : List Int) : List Int := cs.zipIdx.flatMap fun p => (cs.take p.2).map (Dz p.1)
def BX (cs : List Int) : List Int := cs.flatMap fun a => cs.map (dC a)
theorem X3 : ∀ {as bs : List Int}, as.length = bs.length → as.length ≤ 4 → (BW as = BW bs ↔ BX as = BX bs)
 | [], [], _, _ => by simp [BW, BX]
 | [a], [a'], _, _ => by simp [BW, BX, JG]
 | [a, b], [a', b'], _, _ => by
   have s1 := qR a b a' b'
   simp [BW, BX, JG, UL, s1]
 | [a, b, c], [a', b', c'], _, _ => by
   have s1 := qR a b a' b'
   have s2 := qR a c a' c'
   have s3 := qR b c b' c'
   simp only [BW, BX, List.zipIdx_cons, List.zipIdx_nil, aoB, List.flatMap_nil, List.take_zero, List.take_succ_cons, an1, aoa, aof, aog, aob, List.cons.injEq, JG, UL, s1, s2, s3, and_true, true_and, Nat.zero_add]
   by_cases p1 : dC b a = dC b' a'
   · by_cases p2 : dC c a = dC c' a'
     · simp [p1, p2]
     · simp [p1, p2]
   · simp [p1]
 | [a, b, c, d], [a', b', c', d'], _, _ => by
   have s1 := qR a b a' b'
   have s2 := qR a c a' c'
   have s3 := qR b c b' c'
   have s4 := qR a d a' d'
   have s5 := qR b d b' d'
   have s6 := qR c d c' d'
   simp only [BW, BX, List.zipIdx_cons, List.zipIdx_nil, aoB, List.flatMap_nil, List.take_zero, List.take_succ_cons, an1, aoa, aof, aog, aob, List.cons.injEq, JG, UL, s1, s2, s3, s4, s5, s6, and_true, true_and, Nat.zero_add]
   by_cases p1 : dC b a = dC b' a'
   · by_cases p2 : dC c a = dC c' a'
     · by_cases p3 : dC d a = dC d' a'
       · by_cases p4 : dC c b = dC c' b'
         · by_cases p5 : dC d b = dC d' b'
           · simp [p1, p2, p3, p4, p5]
           · simp [p1, p2, p3, p4, p5]
         · simp [p1, p2, p3, p4]
       · simp [p1, p2, p3]
     · simp [p1, p2]
   · simp [p1]
 | [], _ :: _, h, _ => by simp at h
 | _ :: _, [], h, _ => by simp at h
 | [_], _ :: _ :: _, h, _ => by simp at h
 | [_, _], [_], h, _ => by simp at h
 | [_, _], _ :: _ :: _ :: _, h, _ => by simp at h
 | [_, _, _], [_], h, _ => by simp at h
 | [_, _, _], [_, _], h, _ => by simp at h
 | [_, _, _], _ :: _ :: _ :: _ :: _, h, _ => by simp at h
 | [_, _, _, _], [_], h, _ => by simp at h
 | [_, _, _, _], [_, _], h, _ => by simp at h
 | [_, _, _, _], [_, _, _], h, _ => by simp at h
 | [_, _, _, _], _ :: _ :: _ :: _ :: _ :: _, h, _ => by simp at h
 | _ :: _ :: _ :: _ :: _ :: _, _, _, h => by simp at h
structure Wy where
 b : Int
 n : Int
 c : List Int
 g : List Int
 o : List Int
 deriving DecidableEq
def bz (l : Lv) : Wy := ⟨l.born, (l.counts.length : Int), l.cuts, l.gone, BW l.counts⟩
def jM (l : Lv) : Wy := ⟨l.born, (l.counts.length : Int), l.cuts, l.gone, BX l.counts⟩
theorem DG {l m : Lv} : bz l = bz m ↔ l.born = m.born ∧ l.counts.length = m.counts.length ∧ l.cuts = m.cuts ∧ l.gone = m.gone ∧ BW l.counts = BW m.counts := by
 unfold bz
 simp only [Wy.mk.injEq, Int.natCast_inj]
theorem R4 {l m : Lv} (hl : l.counts.length ≤ 4) : bz l = bz m ↔ jM l = jM m := by
 unfold bz jM
 simp only [Wy.mk.injEq]
 constructor
 · rintro ⟨a, b, c, d, e⟩
   exact ⟨a, b, c, d, (X3 (by omega) hl).mp e⟩
 · rintro ⟨a, b, c, d, e⟩
   exact ⟨a, b, c, d, (X3 (by omega) hl).mpr e⟩
def cI (ls : List Lv) : List Lv := ls.foldl (fun R a => if bz a ∈ R.map bz then R else R ++ [a]) []
theorem pO (pre : List Lv) (a : Lv) : cI (pre ++ [a]) = if bz a ∈ (cI pre).map bz then cI pre else cI pre ++ [a] := by
 unfold cI
 rw [List.foldl_append]
 rfl
theorem snoc_ind {α : Type} {P : List α → Prop} (h0 : P []) (h1 : ∀ l a, P l → P (l ++ [a])) (l : List α) : P l := by
 have : ∀ l : List α, P l.reverse := fun l => by
  induction l with
  | nil => exact h0
  | cons a l ih => rw [List.reverse_cons]; exact h1 _ _ ih
 have := this l.reverse
 rwa [List.reverse_reverse] at this
theorem agh (ls : List Lv) : ∀ r ∈ cI ls, r ∈ ls := by
 refine snoc_ind (P := fun ls => ∀ r ∈ cI ls, r ∈ ls) (fun r h => h) (fun l a ih r h => ?_) ls
 rw [pO] at h
 split at h
 · exact List.mem_append_left _ (ih r h)
 · rcases List.mem_append.mp h with h | h
   · exact List.mem_append_left _ (ih r h)
   · exact List.mem_append_right _ h
theorem NB (ls : List Lv) : ∀ a ∈ ls, bz a ∈ (cI ls).map bz := by
 refine snoc_ind (P := fun ls => ∀ a ∈ ls, bz a ∈ (cI ls).map bz) (fun r h => by cases h) (fun l a ih r h => ?_) ls
 rw [pO]
 rcases List.mem_append.mp h with h | h
 · split
   · exact ih r h
   · rw [aol]
     exact List.mem_append_left _ (ih r h)
 · rw [List.mem_singleton.mp h]
   split
   · assumption
   · rw [aol]
     exact List.mem_append_right _ (List.mem_singleton.mpr rfl)
theorem NK (ls : List Lv) : ((cI ls).map bz).Nodup := by
 refine snoc_ind (P := fun ls => ((cI ls).map bz).Nodup) List.nodup_nil (fun l a ih => ?_) ls
 rw [pO]
 split
 · exact ih
 · rename_i hn
   rw [aol, List.nodup_append]
   refine ⟨ih, by simp, fun x hx y hy e => hn ?_⟩
   rw [List.map_singleton, aot] at hy
   rw [← hy, ← e]
   exact hx
def fZ (ls : List Lv) (r : Lv) : List Lv := ls.filter fun l => decide (bz l = bz r)
theorem UT (ls : List Lv) : ∀ r ∈ cI ls, ∃ g, fZ ls r = r :: g := by
 refine snoc_ind (P := fun ls => ∀ r ∈ cI ls, ∃ g, fZ ls r = r :: g) (fun r h => by cases h) (fun l a ih r h => ?_) ls
 have old : r ∈ cI l → ∃ g, fZ (l ++ [a]) r = r :: g := fun h => by
  obtain ⟨g, e⟩ := ih r h
  refine ⟨g ++ [a].filter fun l => decide (bz l = bz r), ?_⟩
  unfold fZ at *
  rw [List.filter_append, e]
  rfl
 rw [pO] at h
 split at h
 · exact old h
 · rename_i hn
   rcases List.mem_append.mp h with h | h
   · exact old h
   · have h := List.mem_singleton.mp h
     subst h
     refine ⟨[], ?_⟩
     unfold fZ
     rw [List.filter_append]
     have e1 : l.filter (fun m => decide (bz m = bz r)) = [] := by
      rw [List.filter_eq_nil_iff]
      intro m hm q
      have q := of_decide_eq_true q
      exact hn (q ▸ NB l m hm)
     rw [e1]
     simp
theorem UV {α : Type} : ∀ R : List α, (R.map fun _ => (0 : Int)).sum = 0
 | [] => rfl
 | r :: R => by rw [an1, aon, UV R]; rfl
theorem acy (a : Lv) (x : Int) (G : Lv → Int) : ∀ R : List Lv, (R.map bz).Nodup → (bz a ∈ R.map bz → (R.map fun r => (if bz a = bz r then x else 0) + G r).sum = x + (R.map G).sum) ∧
 (bz a ∉ R.map bz → (R.map fun r => (if bz a = bz r then x else 0) + G r).sum = (R.map G).sum)
 | [], _ => ⟨fun h => by simp at h, fun _ => rfl⟩
 | r :: R, nd => by
   rw [an1, aoC] at nd
   obtain ⟨i1, i2⟩ := acy a x G R nd.2
   have e1 : ((r :: R).map fun r => (if bz a = bz r then x else 0) + G r).sum = ((if bz a = bz r then x else 0) + G r) + (R.map fun r => (if bz a = bz r then x else 0) + G r).sum := by rw [an1, aon]
   have e2 : ((r :: R).map G).sum = G r + (R.map G).sum := by rw [an1, aon]
   rw [e1, e2]
   constructor
   · intro hm
     by_cases q : bz a = bz r
     · rw [if_pos q, i2 (q ▸ nd.1)]
       omega
     · rw [if_neg q, i1 (by
        rw [an1] at hm
        rcases List.mem_cons.mp hm with z | z
        · exact absurd z q
        · exact z)]
       omega
   · intro hm
     have q : ¬ bz a = bz r := fun z => hm (by rw [z]; exact aod)
     rw [if_neg q, i2 fun z => hm (aok _ z)]
     omega
theorem agi (f : Lv → Int) (ls : List Lv) : ((cI ls).map fun r => ((fZ ls r).map f).sum).sum = (ls.map f).sum := by
 have key : ∀ (R : List Lv), (R.map bz).Nodup → ∀ ls : List Lv, (∀ a ∈ ls, bz a ∈ R.map bz) → (R.map fun r => ((fZ ls r).map f).sum).sum = (ls.map f).sum := by
  intro R nd ls
  induction ls with
  | nil => exact fun _ => UV R
  | cons a ls ih =>
    intro h
    have ih := ih fun b hb => h b (aok _ hb)
    rw [an1, aon, ← ih]
    have eg : ∀ r, ((fZ (a :: ls) r).map f).sum = (if bz a = bz r then f a else 0) + ((fZ ls r).map f).sum := fun r => by
     unfold fZ
     rw [List.filter_cons]
     by_cases q : bz a = bz r
     · rw [if_pos q, if_pos (decide_eq_true q), an1, aon]
     · rw [if_neg q, if_neg (by simp [q]), Int.zero_add]
    simp only [eg]
    exact (acy a (f a) (fun r => ((fZ ls r).map f).sum) R nd).1 (h a aod)
 exact key _ (NK ls) ls (NB ls)
end L
namespace L
open PySem PySem.Spec L2 Pk
theorem X4 {x y : Int} : ∀ {as bs : List Int}, as.length = bs.length → (as.map (dC x) = bs.map (dC y) ↔ ∀ j, j < as.length → dC x ((as[j]?).getD 0) = dC y ((bs[j]?).getD 0))
 | [], [], _ => ⟨fun _ j h => by simp at h, fun _ => rfl⟩
 | [], _ :: _, h => by simp at h
 | _ :: _, [], h => by simp at h
 | a :: as, b :: bs, h => by
   rw [an1, an1, List.cons.injEq, X4 (Nat.succ.inj h)]
   constructor
   · rintro ⟨h1, h2⟩ j hj
     cases j with
     | zero => exact h1
     | succ j => exact h2 j (Nat.lt_of_succ_lt_succ hj)
   · intro hh
     exact ⟨hh 0 (Nat.succ_pos _), fun j hj => hh (j + 1) (Nat.succ_lt_succ hj)⟩
theorem UW {as bs : List Int} (hl : as.length = bs.length) : ∀ {xs ys : List Int}, xs.length = ys.length → (xs.flatMap (fun a => as.map (dC a)) = ys.flatMap (fun b => bs.map (dC b)) ↔ ∀ i, i < xs.length → as.map (dC ((xs[i]?).getD 0)) = bs.map (dC ((ys[i]?).getD 0)))
 | [], [], _ => ⟨fun _ j h => by simp at h, fun _ => rfl⟩
 | [], _ :: _, h => by simp at h
 | _ :: _, [], h => by simp at h
 | x :: xs, y :: ys, h => by
   rw [aoB, aoB]
   constructor
   · intro e j hj
     obtain ⟨e1, e2⟩ := List.append_inj e (by rw [an2, an2, hl])
     cases j with
     | zero => exact e1
     | succ j => exact (UW hl (Nat.succ.inj h)).mp e2 j (Nat.lt_of_succ_lt_succ hj)
   · intro hh
     rw [show as.map (dC x) = bs.map (dC y) from hh 0 (Nat.succ_pos _), (UW hl (Nat.succ.inj h)).mpr fun j hj => hh (j + 1) (Nat.succ_lt_succ hj)]
theorem acz {as bs : List Int} (hl : as.length = bs.length) (h4 : as.length ≤ 4) : BW as = BW bs ↔ ∀ i j, i < as.length → j < as.length → dC ((as[i]?).getD 0) ((as[j]?).getD 0) = dC ((bs[i]?).getD 0) ((bs[j]?).getD 0) := by
 rw [X3 hl h4]
 unfold BX
 rw [UW hl hl]
 constructor
 · intro h i j hi hj
   exact (X4 hl).mp (h i hi) j hj
 · intro h i hi
   exact (X4 hl).mpr fun j hj => h i j hi hj
section
variable {α : Type} {f f' : α → Int}
theorem sum_le : ∀ {g : List α}, (∀ l ∈ g, f l ≤ f' l) → (g.map f).sum ≤ (g.map f').sum
 | [], _ => Int.le_refl _
 | a :: g, h => by
   rw [an1, aon, an1, aon]
   have := h a aod
   have := sum_le (g := g) fun l hl => h l (aok _ hl)
   omega
theorem aeQ : ∀ {g : List α}, g ≠ [] → (∀ l ∈ g, f l < f' l) → (g.map f).sum < (g.map f').sum
 | [], h, _ => absurd rfl h
 | a :: g, _, h => by
   rw [an1, aon, an1, aon]
   have := h a aod
   have := sum_le (f := f) (f' := f') (g := g) fun l hl => Int.le_of_lt (h l (aok _ hl))
   omega
theorem WD : ∀ {g : List α}, (∀ l ∈ g, f l = f' l) → (g.map f).sum = (g.map f').sum
 | [], _ => rfl
 | a :: g, h => by
   rw [an1, aon, an1, aon, h a aod, WD fun l hl => h l (aok _ hl)]
theorem X5 {c : Int} : ∀ {g : List α}, (∀ l ∈ g, f l ≤ c) → (g.map f).sum ≤ (g.length : Int) * c
 | [], _ => by simp
 | a :: g, h => by
   rw [an1, aon, an4]
   have := h a aod
   have := X5 (g := g) fun l hl => h l (aok _ hl)
   rw [Int.natCast_add, Int.natCast_one, Int.add_mul, Int.one_mul]
   omega
theorem NP : ∀ {g : List α}, (∀ l ∈ g, 0 ≤ f l) → 0 ≤ (g.map f).sum
 | [], _ => Int.le_refl _
 | a :: g, h => by
   rw [an1, aon]
   have := h a aod
   have := NP (g := g) fun l hl => h l (aok _ hl)
   omega
theorem aa3 : ∀ {g : List α}, (∀ l ∈ g, 0 ≤ f l) → 0 < (g.map f).sum → ∃ l ∈ g, 0 < f l
 | [], _, h => by simp at h
 | a :: g, h, hp => by
   rw [an1, aon] at hp
   by_cases q : 0 < f a
   · exact ⟨a, aod, q⟩
   · obtain ⟨l, hl, z⟩ := aa3 (g := g) (fun l hl => h l (aok _ hl)) (by omega)
     exact ⟨l, aok _ hl, z⟩
theorem sum_add : ∀ {g : List α}, (g.map fun l => f l + f' l).sum = (g.map f).sum + (g.map f').sum
 | [] => rfl
 | a :: g => by
   have := sum_add (g := g)
   rw [an1, aon, an1, aon, an1, aon]
   omega
theorem acA : ∀ {g : List α}, (g.map fun l => f l - f' l).sum = (g.map f).sum - (g.map f').sum
 | [] => rfl
 | a :: g => by
   have := acA (g := g)
   rw [an1, aon, an1, aon, an1, aon]
   omega
theorem NQ {a b x y : Int} (h : dC a b = dC x y) : (x = y → a = b) ∧ (y < x → b < a) ∧ (x < y → a < b) := by
 unfold dC at h
 repeat' split at h
 all_goals omega
theorem aie {x y : Int} {g : List α} (hn : g ≠ []) (h : ∀ l ∈ g, dC (f l) (f' l) = dC x y) : dC (g.map f).sum (g.map f').sum = dC x y := by
 have h1 : x = y → (g.map f).sum = (g.map f').sum := fun e => WD fun l hl => (NQ (h l hl)).1 e
 have h2 : y < x → (g.map f').sum < (g.map f).sum := fun e => aeQ hn fun l hl => (NQ (h l hl)).2.1 e
 have h3 : x < y → (g.map f).sum < (g.map f').sum := fun e => aeQ hn fun l hl => (NQ (h l hl)).2.2 e
 unfold dC
 repeat' split
 all_goals omega
end
def sr (g : List Lv) (i : Nat) : Int := (g.map fun l => (l.counts[i]?).getD 0).sum
def fK (g : List Lv) (gap : Int) : Int := (g.map fun l => di l.ends gap).sum
def oZ (n : Nat) (g : List Lv) : List (Int × Int) := ((aoe n).filter fun (k : Nat) => decide (0 < fK g (k : Int))).map fun (k : Nat) => ((k : Int), fK g (k : Int))
def joinL (n : Nat) (r : Lv) (g : List Lv) : Lv := ⟨r.born, (aoe r.counts.length).map (sr g), r.cuts, oZ n g, r.gone⟩
theorem oF {n : Nat} {r : Lv} {g : List Lv} : (joinL n r g).counts.length = r.counts.length := by
 show ((aoe r.counts.length).map (sr g)).length = _
 rw [an2, aoy]
theorem IK {n : Nat} {r : Lv} {g : List Lv} {i : Nat} (h : i < r.counts.length) : (joinL n r g).counts[i]? = some (sr g i) := by
 show ((aoe r.counts.length).map (sr g))[i]? = _
 rw [aos, List.getElem?_range h]
 rfl
structure Oe (n N : Nat) (r : Lv) (g : List Lv) : Prop where
 ne : g ≠ []
 len : g.length ≤ 16
 ok : ∀ l ∈ g, l.okN N (n : Int)
 rk : r.okN N (n : Int)
 way : ∀ l ∈ g, bz l = bz r
theorem Rb {N n : Nat} {l : Lv} (o : l.okN N (n : Int)) (h4 : n ≤ 4) : l.counts.length ≤ 4 := by
 have := o.b0
 have := o.fit
 omega
theorem agj {n N : Nat} {r : Lv} {g : List Lv} (G : Oe n N r g) (h4 : n ≤ 4) : bz (joinL n r g) = bz r := by
 rw [DG]
 refine ⟨rfl, oF, rfl, rfl, (acz oF (by rw [oF]; exact Rb G.rk h4)).mpr fun i j hi hj => ?_⟩
 rw [oF] at hi hj
 rw [IK hi, IK hj]
 refine aie G.ne fun l hl => ?_
 obtain ⟨_, e2, _, _, e5⟩ := DG.mp (G.way l hl)
 exact (acz e2 (Rb (G.ok l hl) h4)).mp e5 i j (by omega) (by omega)
end L
namespace L
open PySem PySem.Spec L2 Pk
theorem tail_cons (p : Int × Int) (l : List (Int × Int)) (gap : Int) : di (p :: l) gap = (if p.1 = gap then p.2 else 0) + di l gap := by
 unfold di
 rw [List.filter_cons]
 by_cases q : p.1 = gap
 · rw [if_pos q, if_pos (decide_eq_true q), an1, aon]
 · rw [if_neg q, if_neg (by simp [q]), Int.zero_add]
theorem vP {gap : Int} : ∀ {l : List (Int × Int)}, gap ∉ l.map (·.1) → di l gap = 0
 | [], _ => rfl
 | p :: l, h => by
   rw [an1, List.mem_cons, not_or] at h
   rw [tail_cons, if_neg fun z => h.1 z.symm, vP h.2]
   rfl
theorem U0 {gap : Int} : ∀ {l : List (Int × Int)}, (l.map (·.1)).Nodup → di l gap = 0 ∨ ∃ p ∈ l, p.1 = gap ∧ di l gap = p.2
 | [], _ => .inl rfl
 | p :: l, h => by
   rw [an1, aoC] at h
   rw [tail_cons]
   by_cases q : p.1 = gap
   · rw [if_pos q, vP (q ▸ h.1), Int.add_zero]
     exact .inr ⟨p, aod, q, rfl⟩
   · rw [if_neg q, Int.zero_add]
     rcases U0 h.2 with z | ⟨p', h1, h2, h3⟩
     · exact .inl z
     · exact .inr ⟨p', aok _ h1, h2, h3⟩
theorem X6 {gap : Int} : ∀ {l : List (Int × Int)}, (∀ p ∈ l, 0 ≤ p.2) → 0 ≤ di l gap
 | [], _ => Int.le_refl _
 | p :: l, h => by
   rw [tail_cons]
   have := h p aod
   have := X6 (gap := gap) fun q hq => h q (aok p hq)
   split <;> omega
theorem aa4 {v : Nat → Int} {j : Nat} : ∀ {ks : List Nat}, ks.Nodup → di (ks.map fun (k : Nat) => ((k : Int), v k)) (j : Int) = if j ∈ ks then v j else 0
 | [], _ => rfl
 | k :: ks, h => by
   rw [aoC] at h
   rw [an1, tail_cons, aa4 h.2]
   by_cases q : k = j
   · subst q
     rw [if_pos rfl, if_neg h.1, if_pos aod, Int.add_zero]
   · rw [if_neg (fun z => q (Int.ofNat_inj.mp z)), Int.zero_add]
     have : (j ∈ k :: ks) = (j ∈ ks) := by
      rw [List.mem_cons, eq_iff_iff]
      exact ⟨fun z => z.resolve_left fun e => q e.symm, .inr⟩
     simp only [this]
theorem BZ : ∀ {l2 l1 : List Int}, l1.Pairwise (· < ·) → l2.Pairwise (· < ·) → (∀ x ∈ l1, x ∈ l2) → l1.Sublist l2
 | [], l1, _, _, h => by
   cases l1 with
   | nil => exact List.Sublist.slnil
   | cons a l => exact absurd (h a aod) (by simp)
 | b :: l2, [], _, _, _ => List.nil_sublist _
 | b :: l2, a :: l1, p1, p2, h => by
   rw [List.pairwise_cons] at p1 p2
   by_cases q : a = b
   · subst q
     refine List.Sublist.cons₂ _ (BZ p1.2 p2.2 fun x hx => ?_)
     rcases List.mem_cons.mp (h x (aok _ hx)) with z | z
     · have := p1.1 x hx
       omega
     · exact z
   · have hb : b < a := by
      rcases List.mem_cons.mp (h a aod) with z | z
      · exact absurd z q
      · exact p2.1 a z
     refine List.Sublist.cons _ (BZ (List.pairwise_cons.mpr p1) p2.2 fun x hx => ?_)
     rcases List.mem_cons.mp (h x hx) with z | z
     · rcases List.mem_cons.mp hx with y | y
       · omega
       · have := p1.1 x y
         omega
     · exact z
section
variable {n N : Nat} {r : Lv} {g : List Lv} {l : Lv}
theorem aa5 (o : l.okN N (n : Int)) : (l.cuts ++ if l.born + l.counts.length < (n : Int) then [l.born + l.counts.length - 1] else []).Pairwise (· < ·) := by
 rw [List.pairwise_append]
 refine ⟨o.g.asc, ?_, fun x hx y hy => ?_⟩
 · split <;> simp
 · have := (o.g.cin x hx).2
   split at hy
   · rw [aot] at hy
     omega
   · cases hy
theorem WK (o : l.okN N (n : Int)) : (l.ends.map (·.1)).Nodup := by
 have := (aa5 o).sublist o.sub
 exact this.imp fun h e => by omega
theorem IV (o : l.okN N (n : Int)) (gap : Int) : 0 ≤ di l.ends gap ∧ di l.ends gap ≤ 2 ^ N := by
 have h2 : (0 : Int) ≤ 2 ^ N := by exact_mod_cast Nat.zero_le (2 ^ N)
 refine ⟨X6 fun p hp => by have := (o.pos p hp).1; omega, ?_⟩
 rcases U0 (gap := gap) (WK o) with z | ⟨p, h1, _, h3⟩
 · rw [z]; exact h2
 · rw [h3]; exact (o.pos p h1).2
theorem aif (G : Oe n N r g) (gap : Int) : 0 ≤ fK g gap := NP fun l hl => (IV (G.ok l hl) gap).1
theorem adh (G : Oe n N r g) {k : Nat} (hk : k < n) : di (oZ n g) (k : Int) = fK g (k : Int) := by
 unfold oZ
 rw [aa4 (v := fun k => fK g (k : Int)) (List.nodup_range.filter _)]
 have := aif G (k : Int)
 by_cases q : 0 < fK g (k : Int)
 · rw [if_pos (List.mem_filter.mpr ⟨List.mem_range.mpr hk, decide_eq_true q⟩)]
 · rw [if_neg (show ¬ k ∈ (aoe n).filter (fun (k : Nat) => decide (0 < fK g (k : Int))) from fun z => q (of_decide_eq_true (p := 0 < fK g (k : Int)) (List.mem_filter.mp z).2))]
   omega
theorem ajI (N : Nat) : (2 : Int) ^ (N + 4) = 16 * 2 ^ N := by
 rw [Int.pow_add]
 omega
theorem okJ (G : Oe n N r g) : (joinL n r g).okN (N + 4) (n : Int) := by
 have R := G.rk
 have h2 : (0 : Int) < 2 ^ N := by exact_mod_cast Nat.two_pow_pos N
 have gl := G.len
 have cnt : ∀ l ∈ g, l.counts.length = r.counts.length ∧ l.born = r.born ∧ l.cuts = r.cuts := fun l hl => by
  obtain ⟨e1, e2, e3, _, _⟩ := DG.mp (G.way l hl)
  exact ⟨e2, e1, e3⟩
 have at_ : ∀ l ∈ g, ∀ i, i < r.counts.length → ∃ c, l.counts[i]? = some c := fun l hl i hi => ⟨_, aoc (by rw [(cnt l hl).1]; exact hi)⟩
 have getJ : ∀ (i : Nat) (c : Int), (joinL n r g).counts[i]? = some c → i < r.counts.length ∧ c = sr g i := fun i c e => by
  have hi : i < r.counts.length := by
   have := (List.getElem?_eq_some_iff.mp e).1
   rwa [oF] at this
  rw [IK hi] at e
  exact ⟨hi, (Option.some.inj e).symm⟩
 refine ⟨R.b0, ⟨fun c hc => ?_, R.g.asc, fun x hx => by rw [oF]; exact R.g.cin x hx, fun i a b ea eb hba => ?_, by rw [oF]; exact R.g.cl, fun i c e => ?_⟩, by rw [oF]; exact R.fit, ?_, fun p hp => ?_, R.asc, fun x hx => by rw [oF]; exact R.gin x hx⟩
 · obtain ⟨i, hi, e⟩ := List.getElem_of_mem hc
   obtain ⟨hi', rfl⟩ := getJ i c (by rw [aoc hi, e])
   refine NP fun l hl => ?_
   obtain ⟨c, ec⟩ := at_ l hl i hi'
   rw [ec]
   exact (G.ok l hl).g.pos c (aop ec)
 · obtain ⟨hi, rfl⟩ := getJ i a ea
   obtain ⟨hi1, rfl⟩ := getJ (i + 1) b eb
   by_cases q : r.born + (i : Int) ∈ r.cuts
   · exact q
   · exfalso
     have : sr g i ≤ sr g (i + 1) := sum_le fun l hl => by
      obtain ⟨c, ec⟩ := at_ l hl i hi
      obtain ⟨d, ed⟩ := at_ l hl (i + 1) hi1
      rw [ec, ed]
      show c ≤ d
      by_cases z : d < c
      · have := (G.ok l hl).g.fall i c d ec ed z
        rw [(cnt l hl).2.1, (cnt l hl).2.2] at this
        exact absurd this q
      · omega
     omega
 · obtain ⟨hi, rfl⟩ := getJ i c e
   have h1 : sr g i ≤ (g.length : Int) * (((i : Int) + 1) * 2 ^ N) := X5 fun l hl => by
    obtain ⟨c, ec⟩ := at_ l hl i hi
    rw [ec]
    exact (G.ok l hl).g.top i c ec
   have h3 : (0 : Int) ≤ ((i : Int) + 1) * 2 ^ N := Int.mul_nonneg (by omega) (by omega)
   have h4 : (g.length : Int) * (((i : Int) + 1) * 2 ^ N) ≤ 16 * (((i : Int) + 1) * 2 ^ N) := Int.mul_le_mul_of_nonneg_right (by omega) h3
   rw [ajI, ← Int.mul_assoc, Int.mul_comm _ 16, Int.mul_assoc]
   omega
 · show ((oZ n g).map (·.1)).Sublist (r.cuts ++ if r.born + ((joinL n r g).counts.length : Int) < (n : Int) then [r.born + ((joinL n r g).counts.length : Int) - 1] else [])
   rw [oF]
   refine BZ ?_ (aa5 R) fun x hx => ?_
   · unfold oZ
     rw [aoj]
     refine List.pairwise_map.mpr (((List.pairwise_lt_range).filter _).imp fun h => ?_)
     show ((_ : Nat) : Int) < ((_ : Nat) : Int)
     omega
   · unfold oZ at hx
     rw [aoj] at hx
     obtain ⟨k, hk, rfl⟩ := List.mem_map.mp hx
     obtain ⟨_, hk⟩ := List.mem_filter.mp hk
     obtain ⟨l, hl, z⟩ := aa3 (fun l hl => (IV (G.ok l hl) (k : Int)).1) (of_decide_eq_true hk)
     have hm : (k : Int) ∈ l.ends.map (·.1) := by
      by_cases q : (k : Int) ∈ l.ends.map (·.1)
      · exact q
      · rw [vP q] at z
        omega
     have := (G.ok l hl).sub.subset hm
     rw [(cnt l hl).1, (cnt l hl).2.1, (cnt l hl).2.2] at this
     exact this
 · obtain ⟨k, hk, rfl⟩ := List.mem_map.mp (show p ∈ ((aoe n).filter fun (k : Nat) => decide (0 < fK g (k : Int))).map fun (k : Nat) => ((k : Int), fK g (k : Int)) from hp)
   obtain ⟨_, hk⟩ := List.mem_filter.mp hk
   have hk := of_decide_eq_true hk
   have h1 : fK g (k : Int) ≤ (g.length : Int) * 2 ^ N := X5 fun l hl => (IV (G.ok l hl) (k : Int)).2
   have h4 : (g.length : Int) * 2 ^ N ≤ 16 * 2 ^ N := Int.mul_le_mul_of_nonneg_right (by omega) (by omega)
   rw [ajI]
   show 1 ≤ fK g (k : Int) ∧ fK g (k : Int) ≤ 16 * 2 ^ N
   omega
end
end L
namespace L
open PySem PySem.Spec L2 Pk
def jD (n : Nat) (ls : List Lv) : List Lv := (cI ls).map fun r => joinL n r (fZ ls r)
section
variable {n N : Nat} {ls : List Lv}
theorem LQ (ho : ∀ l ∈ ls, l.okN N (n : Int)) (hl : ls.length ≤ 16) {r : Lv} (hr : r ∈ cI ls) : Oe n N r (fZ ls r) where
 ne := by
  obtain ⟨g, e⟩ := UT ls r hr
  rw [e]
  simp
 len := Nat.le_trans (List.length_filter_le _ _) hl
 ok := fun l h => ho l (List.mem_filter.mp h).1
 rk := ho r (agh ls r hr)
 way := fun l h => of_decide_eq_true (List.mem_filter.mp h).2
theorem aig (ho : ∀ l ∈ ls, l.okN N (n : Int)) (hl : ls.length ≤ 16) : ∀ l ∈ jD n ls, l.okN (N + 4) (n : Int) := fun l h => by
 obtain ⟨r, hr, rfl⟩ := List.mem_map.mp h
 exact okJ (LQ ho hl hr)
theorem IW : ∀ ls : List Lv, (cI ls).length ≤ ls.length := snoc_ind (Nat.le_refl _) fun l a ih => by
 rw [pO, an9]
 split
 · omega
 · rw [an9]
   have e1 : [a].length = 1 := rfl
   omega
theorem aa6 : (jD n ls).length ≤ ls.length := by
 unfold jD
 rw [an2]
 exact IW ls
theorem aih : ∀ xs : List Lv, (xs.map bz).Nodup → cI xs = xs := snoc_ind (fun _ => rfl) fun l a ih nd => by
 rw [aol, List.nodup_append] at nd
 rw [pO, ih nd.1, if_neg]
 intro z
 exact nd.2.2 _ z _ (List.mem_singleton.mpr rfl) rfl
theorem aeR : ∀ {xs : List Lv}, (xs.map bz).Nodup → ∀ x ∈ xs, fZ xs x = [x]
 | [], _, x, h => by cases h
 | y :: xs, nd, x, h => by
   rw [an1, aoC] at nd
   unfold fZ
   rw [List.filter_cons]
   rcases List.mem_cons.mp h with rfl | h
   · rw [if_pos (decide_eq_true rfl)]
     congr 1
     rw [List.filter_eq_nil_iff]
     intro z hz q
     exact nd.1 (of_decide_eq_true q ▸ aoD hz)
   · rw [if_neg (by
      intro q
      exact nd.1 (of_decide_eq_true (p := bz y = bz x) q ▸ aoD h))]
     exact aeR nd.2 x h
theorem join_one {r : Lv} {g : List Lv} (G : Oe n N r g) : joinL n (joinL n r g) [joinL n r g] = joinL n r g := by
 have e1 : (aoe (joinL n r g).counts.length).map (sr [joinL n r g]) = (joinL n r g).counts := by
  rw [oF]
  show _ = (aoe r.counts.length).map (sr g)
  refine aoz fun i hi => ?_
  have hi := List.mem_range.mp hi
  unfold sr
  rw [an1, aoa, aon, List.sum_nil, IK hi]
  exact Int.add_zero _
 have e2 : ∀ k, k < n → fK [joinL n r g] (k : Int) = fK g (k : Int) := fun k hk => by
  rw [← adh G hk]
  unfold fK
  rw [an1, aoa, aon, List.sum_nil]
  exact Int.add_zero _
 have e3 : oZ n [joinL n r g] = oZ n g := by
  unfold oZ
  rw [List.filter_congr fun k hk => by rw [e2 k (List.mem_range.mp hk)]]
  refine aoz fun k hk => ?_
  rw [e2 k (List.mem_range.mp (List.mem_filter.mp hk).1)]
 show Lv.mk r.born _ r.cuts (oZ n [joinL n r g]) r.gone = Lv.mk r.born (joinL n r g).counts r.cuts (oZ n g) r.gone
 rw [e3, e1]
theorem aeS (ho : ∀ l ∈ ls, l.okN N (n : Int)) (hl : ls.length ≤ 16) (h4 : n ≤ 4) : ((jD n ls).map bz).Nodup := by
 have : (jD n ls).map bz = (cI ls).map bz := by
  unfold jD
  rw [aoj]
  exact aoz fun r hr => agj (LQ ho hl hr) h4
 rw [this]
 exact NK ls
theorem aeT (ho : ∀ l ∈ ls, l.okN N (n : Int)) (hl : ls.length ≤ 16) (h4 : n ≤ 4) : jD n (jD n ls) = jD n ls := by
 have nd := aeS ho hl h4
 show (cI (jD n ls)).map (fun r => joinL n r (fZ (jD n ls) r)) = jD n ls
 rw [aih _ nd]
 have : ∀ x ∈ jD n ls, joinL n x (fZ (jD n ls) x) = x := fun x hx => by
  rw [aeR nd x hx]
  obtain ⟨r, hr, rfl⟩ := List.mem_map.mp hx
  exact join_one (LQ ho hl hr)
 rw [aoz this, List.map_id']
def Og (l : Lv) (gap : Int) : Int := Iz l.born l.counts l.cuts l.ends gap
theorem aii {r : Lv} {g : List Lv} (G : Oe n N r g) {k : Nat} (hk : k < n) : Og (joinL n r g) (k : Int) = (g.map fun l => Og l (k : Int)).sum := by
 have cnt : ∀ l ∈ g, l.counts.length = r.counts.length ∧ l.born = r.born ∧ l.cuts = r.cuts := fun l hl => by
  obtain ⟨e1, e2, e3, _, _⟩ := DG.mp (G.way l hl)
  exact ⟨e2, e1, e3⟩
 have mem : ∀ l ∈ g, Og l (k : Int) = if (k : Int) + 1 - r.born < 0 ∨ (r.counts.length : Int) ≤ k - r.born then 0
  else if (k : Int) + 1 - r.born = 0 then (l.counts[0]?).getD 0
  else if (k : Int) + 1 - r.born = r.counts.length then di l.ends k
  else if (k : Int) ∈ r.cuts then (l.counts[((k : Int) + 1 - r.born).toNat]?).getD 0 + di l.ends k
  else (l.counts[((k : Int) + 1 - r.born).toNat]?).getD 0 - (l.counts[((k : Int) - r.born).toNat]?).getD 0 := fun l hl => by
  obtain ⟨c1, c2, c3⟩ := cnt l hl
  unfold Og Iz
  rw [c1, c2, c3]
 rw [WD mem]
 have getJ : ∀ i, i < r.counts.length → ((joinL n r g).counts[i]?).getD 0 = sr g i := fun i hi => by rw [IK hi]; rfl
 have cl := G.rk.g.cl
 unfold Og Iz
 rw [oF]
 show (if (k : Int) + 1 - r.born < 0 ∨ (r.counts.length : Int) ≤ k - r.born then 0
  else if (k : Int) + 1 - r.born = 0 then ((joinL n r g).counts[0]?).getD 0
  else if (k : Int) + 1 - r.born = r.counts.length then di (oZ n g) k
  else if (k : Int) ∈ r.cuts then ((joinL n r g).counts[((k : Int) + 1 - r.born).toNat]?).getD 0 + di (oZ n g) k
  else ((joinL n r g).counts[((k : Int) + 1 - r.born).toNat]?).getD 0 - ((joinL n r g).counts[((k : Int) - r.born).toNat]?).getD 0) = _
 by_cases z1 : (k : Int) + 1 - r.born < 0 ∨ (r.counts.length : Int) ≤ k - r.born
 · simp only [if_pos z1]
   exact (UV g).symm
 · simp only [if_neg z1]
   by_cases z2 : (k : Int) + 1 - r.born = 0
   · simp only [if_pos z2]
     exact getJ 0 (by omega)
   · simp only [if_neg z2]
     by_cases z3 : (k : Int) + 1 - r.born = r.counts.length
     · simp only [if_pos z3]
       exact adh G hk
     · simp only [if_neg z3]
       by_cases z4 : (k : Int) ∈ r.cuts
       · simp only [if_pos z4]
         rw [getJ _ (by omega), adh G hk, sum_add]
         rfl
       · simp only [if_neg z4]
         rw [getJ _ (by omega), getJ _ (by omega), acA]
         rfl
def Oh (ls : List Lv) (k : Nat) : Int := (ls.map fun l => Og l (k : Int)).sum
theorem aij (ho : ∀ l ∈ ls, l.okN N (n : Int)) (hl : ls.length ≤ 16) {k : Nat} (hk : k < n) : Oh (jD n ls) k = Oh ls k := by
 unfold Oh jD
 rw [aoj, ← agi (fun l => Og l (k : Int)) ls]
 exact WD fun r hr => aii (LQ ho hl hr) hk
end
end L
namespace L
open PySem PySem.Spec L2 Pk
section
variable {h : Hh}
theorem aks (cs : List Int) : nR 0 (cs.map .int) = (cs.zipIdx 0).map fun (p : Int × Nat) => D.tup [.int (p.2 : Int), .int p.1] := by
 rw [enum_zip, List.zipIdx_map, aoj]
 rfl
theorem U5 {α : Type} {f : α → List Int} {c : Nat} : ∀ {l : List α}, (∀ a ∈ l, (f a).length ≤ c) → (l.flatMap f).length ≤ l.length * c
 | [], _ => Nat.zero_le _
 | a :: l, hh => by
   rw [aoB, an9, an4, Nat.add_mul, Nat.one_mul]
   have := hh a aod
   have := U5 (l := l) fun b hb => hh b (aok _ hb)
   omega
theorem akt (o c : Int) : ((if decide (o < c) = true then (1 : Int) else 0) - if decide (c < o) = true then 1 else 0) = Dz c o := by
 unfold Dz
 simp only [decide_eq_true_eq]
theorem adi {cs : List Int} (h4 : cs.length ≤ 4) : yE [.tup (cs.map .int)] h = .ok (.nl ((BW cs).map .int)) [] h := by
 apply Wp.eq
 simp only [↓abJ, ↓du, startF, an1, aoa, an4, an8, Nat.zero_add, Nat.reduceSub, aom, aoh, aog, aof, aN, ↓ac7, ↓cW, ↓dH, ↓qD, ↓bU, cO, Nat.reduceLeDiff, an6, an5, cC, ↓YZ, ↓tO, ↓ahJ, ↓bj, an3, aM, Ai, cA, ahX, aQ, aks, true_and]
 refine yc (fun pre fr h' => ∃ x2 x3 x4, fr = [some (.tup (cs.map .int)), some (.nl ((pre.flatMap fun (p : Int × Nat) => (cs.take p.2).map (Dz p.1)).map .int)), x2, x3, x4] ∧ h' = h) ⟨_, _, _, rfl, rfl⟩ ?_ ?_
 · rintro pre ⟨c, i⟩ suf fr h' e ⟨x2, x3, x4, rfl, rfl⟩
   have i0 : (0 : Int) ≤ (i : Int) := by omega
   have hl : (pre.flatMap fun (p : Int × Nat) => (cs.take p.2).map (Dz p.1)).length ≤ 16 := by
    have z1 := U5 (f := fun (p : Int × Nat) => (cs.take p.2).map (Dz p.1)) (c := 4) (l := pre) fun a _ => by
     rw [an2, List.length_take]
     omega
    have z2 := congrArg aov e
    rw [List.length_zipIdx, an9, an4] at z2
    omega
   simp only [↓rJ, an4, an8, Nat.zero_add, Nat.reduceAdd, ↓pD, ↓cJ, an6, an5, aN, ↓rH, ↓YX, ↓tO, ↓oN, ↓fQ, ↓tM, an3, aM, ↓RP, ↓Zr, ↓VG, ↓bj, an7, bZ, cA, RW, aQ, afV, ajA i0, Int.toNat_natCast, ← List.map_take, aaC, oG, true_and]
   generalize hA : (pre.flatMap fun (p : Int × Nat) => (cs.take p.2).map (Dz p.1)) = A at *
   refine yc (fun pre2 fr h1 => ∃ y4, fr = [some (.tup (cs.map .int)), some (.nl ((A ++ pre2.map (Dz c)).map .int)), some (.int (i : Int)), some (.int c), y4] ∧ h1 = h') ⟨_, by rw [aoa, aob], rfl⟩ ?_ ?_
   · rintro pre2 o suf2 fr h' e2 ⟨y4, rfl, rfl⟩
     simp only [↓cJ, an6, an5, aN, ↓YW, ↓pX, ↓qX, ↓vp, an7, an3, aM, lY, aQ, ↓cZ, ↓d7, ↓bj, bZ, cA, rK, Option.map_some, afQ, zf, Jw, pY, cO, tX, jk, and_true, true_and]
     refine ⟨?_, some (.int o), ?_⟩
     · have := congrArg aov e2
       rw [List.length_take, an9, an4] at this
       rw [an2, an9, an2]
       omega
     · rw [akt, aol (f := Dz c), ← aoA, aol (l₂ := [o].map (Dz c))]
       rfl
   · rintro fr h' ⟨y4, rfl, rfl⟩
     simp only [jk]
     refine ⟨some (.int (i : Int)), some (.int c), y4, ?_, trivial⟩
     rw [List.flatMap_append, hA, aoB, List.flatMap_nil, aob]
 · rintro fr h' ⟨x2, x3, x4, rfl, rfl⟩
   simp only [cC, ↓dY, ↓G3, an7, an3, an6, an5, aM, aN, dX, and_self, and_true]
   rfl
def Tu (w : Wy) : D := .tup [.int w.b, .int w.n, .tup (w.c.map .int), .tup (w.g.map .int), .fl (w.o.map .int)]
def yP (w : Wy) : D := .fl [.int w.b, .int w.n, .fl (w.c.map .int), .fl (w.g.map .int), .fl (w.o.map .int)]
theorem agk {size : Int} {l : Lv} (h4 : l.counts.length ≤ 4) : Dq [l.i size] h = .ok (Tu (bz l)) [] h := by
 have e := adi (h := h) h4
 have el : (l.counts.map D.int).length = l.counts.length := an2 _
 unfold Lv.i Lv.fs qm Tu bz
 dsimp only
 generalize BW l.counts = O at *
 apply Wp.eq
 simp only [↓aeF, ↓du, startF, an1, aoa, an4, an8, Nat.zero_add, Nat.reduceSub, aoh, aob, aN, ↓aga, ↓dY, ↓Bj, ↓cU, ↓d7, ↓cY, an3, aM, eZ, gK, aQ, an7, iy, HW, el, jP, Ky, ↓fQ, ↓fM, ↓bU, fO, e, ↓cH, Nat.reduceAdd, cO, Nat.reduceLeDiff, vY, dX, and_self]
theorem Yw {l : Lv} (h4 : l.counts.length ≤ 4) : oY [l.d] h = .ok (.nl [.int l.born, .int (l.counts.length : Int), .fl (l.cuts.map .int), .fl (l.gone.map .int), .fl ((BX l.counts).map .int)]) [] h := by
 unfold Lv.d sS
 have hl : ∀ pre : List Int, pre.length ≤ 4 → (pre.flatMap fun a => l.counts.map (dC a)).length ≤ 16 := fun pre hp => by
  have z1 := U5 (f := fun (a : Int) => l.counts.map (dC a)) (c := 4) (l := pre) fun a _ => by
   rw [an2]
   omega
  omega
 generalize l.counts = cs at *
 apply Wp.eq
 simp only [↓abK, ↓du, startF, an1, aoa, an4, an8, Nat.zero_add, Nat.reduceSub, aom, aoh, aog, aof, aN, ↓ac8, ↓cW, ↓Le, ↓bj, an3, an5, aM, Ai, cA, ↓rJ, Nat.reduceAdd, ↓pD, ↓cJ, an6, ↓rH, cC, ↓Y5, ↓dH, ↓qD, ↓bU, cO, Nat.reduceLeDiff, ↓Y4, ↓tO, ↓oN, an7, xY, vq, aQ, true_and]
 refine yc (fun pre fr h' => ∃ x7 x8, fr = [some (.tup [.int l.born, .fl (cs.map .int), .fl (l.cuts.map .int), .fl (l.ends.map pairD), .fl (l.gone.map .int)]), some (.int l.born), some (.fl (cs.map .int)), some (.fl (l.cuts.map .int)), some (.fl (l.ends.map pairD)), some (.fl (l.gone.map .int)), some (.nl ((pre.flatMap fun a => cs.map (dC a)).map .int)), x7, x8] ∧ h' = h) ⟨_, _, rfl, rfl⟩ ?_ ?_
 · rintro pre c suf fr h' e ⟨x7, x8, rfl, rfl⟩
   have hp : pre.length ≤ 4 := by
    have := congrArg aov e
    rw [an9] at this
    omega
   have hl := hl pre hp
   simp only [↓cJ, an6, an5, aN, ↓Y0, ↓tO, ↓oN, ↓bj, an7, an3, aM, xY, cA, vq, aQ]
   generalize hA : (pre.flatMap fun a => cs.map (dC a)) = A at *
   refine yc (fun pre2 fr h1 => ∃ y8, fr = [some (.tup [.int l.born, .fl (cs.map .int), .fl (l.cuts.map .int), .fl (l.ends.map pairD), .fl (l.gone.map .int)]), some (.int l.born), some (.fl (cs.map .int)), some (.fl (l.cuts.map .int)), some (.fl (l.ends.map pairD)), some (.fl (l.gone.map .int)), some (.nl ((A ++ pre2.map (dC c)).map .int)), some (.int c), y8] ∧ h1 = h') ⟨_, by rw [aoa, aob], rfl⟩ ?_ ?_
   · rintro pre2 o suf2 fr h' e2 ⟨y8, rfl, rfl⟩
     have hb : (List.map D.int (A ++ List.map (dC c) pre2)).length < 100000 := by
      have := congrArg aov e2
      rw [an9, an4] at this
      rw [an2, an9, an2]
      omega
     have fin : ∀ z, z = dC c o → List.map D.int (A ++ List.map (dC c) pre2) ++ [.int z] = List.map D.int (A ++ List.map (dC c) (pre2 ++ [o])) := fun z ez => by
      rw [ez, aol (f := dC c), ← aoA, aol (l₂ := [o].map (dC c))]
      rfl
     by_cases z1 : c = o
     · subst z1
       have f0 := fin 0 (by unfold dC; rw [if_pos rfl])
       simp only [↓cJ, an6, an5, aN, ↓Gi, ↓pX, ↓qX, ↓vp, an7, an3, aM, lY, aQ, ↓DY, ↓cZ, ↓bj, bZ, cA, ↓cY, iV, decide_true, fD, ↓gQ, pY, cO, tX, jk, and_true]
       exact ⟨hb, some (.int c), by rw [f0]⟩
     · by_cases z2 : o < c
       · have f0 := fin 1 (by unfold dC; rw [if_neg z1, if_pos z2])
         simp only [↓cJ, an6, an5, aN, ↓Gi, ↓pX, ↓qX, ↓vp, an7, an3, aM, lY, aQ, ↓DY, ↓cZ, ↓bj, bZ, cA, ↓cY, iV, z1, decide_false, rK, z2, decide_true, fD, ↓gQ, pY, cO, tX, jk, and_true]
         exact ⟨hb, some (.int o), by rw [f0]⟩
       · have f0 := fin 2 (by unfold dC; rw [if_neg z1, if_neg z2])
         simp only [↓cJ, an6, an5, aN, ↓Gi, ↓pX, ↓qX, ↓vp, an7, an3, aM, lY, aQ, ↓DY, ↓cZ, ↓bj, bZ, cA, ↓cY, iV, z1, decide_false, rK, z2, ↓gQ, pY, cO, tX, jk, and_true]
         exact ⟨hb, some (.int o), by rw [f0]⟩
   · rintro fr h' ⟨y4, rfl, rfl⟩
     simp only [jk]
     refine ⟨some (.int c), y4, ?_, trivial⟩
     rw [List.flatMap_append, hA, aoB, List.flatMap_nil, aob]
 · rintro fr h' ⟨x7, x8, rfl, rfl⟩
   simp only [cC, ↓dY, ↓qD, ↓cU, ↓bj, an7, an3, an6, an5, an4, aM, bZ, cA, ↓d7, ↓cY, acl, an2, aQ, xY, Ff, fD, vY, aN, ↓bU, an8, Nat.zero_add, Nat.reduceAdd, cO, Nat.reduceLeDiff, dX, and_self, and_true, true_and]
   rfl
end
end L
namespace L
open PySem PySem.Spec L2 Pk
def Ca (as : List (Int × Int)) : D := .dk (as.map fun q => Sum.inl q.1) (as.map fun q => .int q.2)
def putL (as : List (Int × Int)) (k v : Int) : List (Int × Int) := if k ∈ as.map (·.1) then as.map (fun q => if q.1 = k then (q.1, v) else q) else as ++ [(k, v)]
theorem Rc (as : List (Int × Int)) (k v : Int) : (putL as k v).map (·.1) = if k ∈ as.map (·.1) then as.map (·.1) else as.map (·.1) ++ [k] := by
 unfold putL
 split
 · rw [aoj]
   refine aoz fun q _ => ?_
   show (if q.1 = k then (q.1, v) else q).1 = q.1
   split <;> rfl
 · rw [aol]
   rfl
theorem adk {as : List (Int × Int)} {k v : Int} (nd : (as.map (·.1)).Nodup) : ((putL as k v).map (·.1)).Nodup := by
 rw [Rc]
 split
 · exact nd
 · rename_i hn
   rw [List.nodup_append]
   refine ⟨nd, by simp, fun x hx y hy e => hn ?_⟩
   rw [aot] at hy
   rw [← hy, ← e]
   exact hx
theorem U6 (a b : List (Int × Int)) (k : Int) : di (a ++ b) k = di a k + di b k := by
 induction a with
 | nil => rw [aof, show di [] k = 0 from rfl, Int.zero_add]
 | cons p a ih => rw [aog, tail_cons, tail_cons, ih]; omega
theorem aeU {k v : Int} : ∀ {as : List (Int × Int)}, (as.map (·.1)).Nodup → ∀ j, di (putL as k v) j = if j = k then v else di as j := by
 intro as nd j
 unfold putL
 split
 · rename_i hm
   induction as with
   | nil => cases hm
   | cons q as ih =>
     rw [an1, aoC] at nd
     rw [an1, tail_cons]
     by_cases z : q.1 = k
     · have hn : k ∉ as.map (·.1) := z ▸ nd.1
       have same : as.map (fun q => if q.1 = k then (q.1, v) else q) = as := by
        refine (aoz fun p hp => ?_).trans (List.map_id' as)
        rw [if_neg (fun (e : p.1 = k) => hn (e ▸ aoD hp))]
       rw [same, if_pos z, tail_cons]
       show (if q.1 = j then v else 0) + di as j = _
       by_cases y : j = k
       · subst y
         rw [if_pos z, if_pos rfl, vP hn, Int.add_zero]
       · rw [if_neg (fun (e : q.1 = j) => y (e.symm.trans z)), if_neg y, if_neg (fun (e : q.1 = j) => y (e.symm.trans z))]
     · rw [if_neg z, tail_cons, ih nd.2 (by
        rw [an1] at hm
        rcases List.mem_cons.mp hm with y | y
        · exact absurd y.symm z
        · exact y)]
       by_cases y : j = k
       · subst y
         rw [if_neg z, if_pos rfl, if_pos rfl, Int.zero_add]
       · rw [if_neg y, if_neg y]
 · rename_i hn
   rw [U6, tail_cons]
   show di as j + ((if k = j then v else 0) + 0) = _
   by_cases y : j = k
   · subst y
     rw [vP hn, if_pos rfl]
     omega
   · rw [if_neg (fun e => y e.symm), if_neg y]
     omega
section
variable {h : Hh} {m : Nat} {as : List (Int × Int)}
theorem X7 {k : Int} : ∀ {as : List (Int × Int)}, (as.map (·.1)).Nodup → valE (as.map fun q => Sum.inl q.1) (as.map fun q => D.int q.2) (.inl k) = if k ∈ as.map (·.1) then some (.int (di as k)) else none
 | [], _ => rfl
 | q :: as, nd => by
   rw [an1, aoC] at nd
   rw [an1, an1, valE, tail_cons, an1]
   by_cases z : q.1 = k
   · rw [if_pos (by rw [z]), if_pos z, if_pos (by rw [z]; exact aod), vP (z ▸ nd.1), Int.add_zero]
   · rw [if_neg (fun e => z (Sum.inl.inj e)), if_neg z, X7 nd.2, Int.zero_add]
     have : (k ∈ q.1 :: as.map (·.1)) = (k ∈ as.map (·.1)) := by
      rw [List.mem_cons, eq_iff_iff]
      exact ⟨fun y => y.resolve_left fun e => z e.symm, .inr⟩
     simp only [this]
theorem acB {k : Int} : ∀ {as : List (Int × Int)}, Qz (as.map fun q => Sum.inl q.1) (.inl k) = decide (k ∈ as.map (·.1))
 | [] => rfl
 | q :: as => by
   have ih := acB (k := k) (as := as)
   unfold Qz at *
   rw [an1, List.any_cons, ih, an1]
   by_cases z : q.1 = k
   · subst z; simp
   · have z' : ¬ k = q.1 := fun e => z e.symm
     have : ¬ (Sum.inl q.1 : Key) = .inl k := fun e => z (Sum.inl.inj e)
     simp [z', this]
theorem ajJ {k v : Int} : (D.dk (DW (as.map fun q => Sum.inl q.1) (.inl k)) (xg (as.map fun q => Sum.inl q.1) (as.map fun q => D.int q.2) (.inl k) (.int v))) = Ca (putL as k v) := by
 unfold DW xg Ca putL
 rw [acB]
 by_cases z : k ∈ as.map (·.1)
 · rw [if_pos (decide_eq_true z), if_pos (decide_eq_true z), if_pos z]
   congr 1
   · rw [aoj]
     refine aoz fun q _ => ?_
     show Sum.inl q.1 = Sum.inl (if q.1 = k then (q.1, v) else q).1
     split <;> rfl
   · clear z
     induction as with
     | nil => rfl
     | cons q as ih =>
       rw [an1, an1, List.zipWith_cons_cons, ih, an1, an1]
       congr 1
       by_cases y : q.1 = k
       · rw [if_pos (by rw [y]), if_pos y]
       · rw [if_neg (fun e => y (Sum.inl.inj e)), if_neg y]
 · rw [if_neg (by simpa using z), if_neg (by simpa using z), if_neg z, aol, aol]
   rfl
theorem LR : cellE (h ++ [Ca as]) (.ref h.length) = some (h.length, as.map fun q => Sum.inl q.1, as.map fun q => .int q.2) := aev (by rw [ahY]; rfl)
theorem aku : (cellE (h ++ [Ca as]) (.ref h.length)).isSome = true := by rw [LR]; rfl
theorem aik (nd : (as.map (·.1)).Nodup) {k : Int} : Fe (h ++ [Ca as]) (.ref h.length) (.int k) (.int 0) = some (.int (di as k)) := by
 unfold Fe
 rw [LR]
 show some ((valE (as.map fun q => Sum.inl q.1) (as.map fun q => D.int q.2) (.inl k)).getD (.int 0)) = _
 rw [X7 nd]
 split
 · rfl
 · rename_i hn
   rw [vP hn]
   rfl
theorem ajK (nd : (as.map (·.1)).Nodup) {k : Int} (hk : k ∈ as.map (·.1)) : MT (h ++ [Ca as]) (.ref h.length) (.int k) = some (.int (di as k)) := by
 unfold MT
 rw [LR]
 show valE (as.map fun q => Sum.inl q.1) (as.map fun q => D.int q.2) (.inl k) = _
 rw [X7 nd, if_pos hk]
theorem ajL (hl : as.length ≤ 1000) {k v : Int} : Ju (h ++ [Ca as]) (.ref h.length) (.int k) (.int v) = some (h ++ [Ca (putL as k v)]) := by
 unfold Ju
 rw [LR]
 show (if (as.map fun q => Sum.inl q.1).length ≤ big then some ((h ++ [Ca as]).set h.length (.dk (DW (as.map fun q => Sum.inl q.1) (.inl k)) (xg (as.map fun q => Sum.inl q.1) (as.map fun q => D.int q.2) (.inl k) (.int v)))) else none) = _
 rw [if_pos (by rw [an2]; exact Nat.le_trans hl (by decide)), ajJ, ahZ]
 rfl
theorem ail : HS (h ++ [Ca as]) (.ref h.length) = some (.nl ((as.map (·.1)).map .int)) := by
 unfold HS
 rw [LR]
 show some (D.nl ((as.map fun q => (Sum.inl q.1 : Key)).map keyB)) = _
 rw [aoj, aoj]
 rfl
end
end L
namespace L
open PySem PySem.Spec L2 Pk
def eQ (ps : List (Int × Int)) : List (Int × Int) := ps.foldl (fun as p => putL as p.1 (di as p.1 + p.2)) []
theorem Ce (ps : List (Int × Int)) (p : Int × Int) : eQ (ps ++ [p]) = putL (eQ ps) p.1 (di (eQ ps) p.1 + p.2) := by
 unfold eQ
 rw [List.foldl_append]
 rfl
theorem Et : ∀ ps, ((eQ ps).map (·.1)).Nodup := snoc_ind List.nodup_nil fun l a ih => by
 rw [Ce]
 exact adk ih
theorem WP (j : Int) : ∀ ps, di (eQ ps) j = di ps j := snoc_ind rfl fun l a ih => by
 rw [Ce, aeU (Et l), U6, tail_cons, show di [] j = 0 from rfl, Int.add_zero, ← ih]
 by_cases z : j = a.1
 · subst z
   rw [if_pos rfl, if_pos rfl]
 · rw [if_neg z, if_neg (fun e => z e.symm), Int.add_zero]
theorem adl : ∀ ps, ∀ k ∈ (eQ ps).map (·.1), k ∈ ps.map (·.1) := snoc_ind (fun k h => by cases h) fun l a ih k h => by
 rw [Ce, Rc] at h
 rw [aol]
 split at h
 · exact List.mem_append_left _ (ih k h)
 · rcases List.mem_append.mp h with h | h
   · exact List.mem_append_left _ (ih k h)
   · exact List.mem_append_right _ h
theorem aeV : ∀ ps, (eQ ps).length ≤ ps.length := snoc_ind (Nat.le_refl _) fun l a ih => by
 have := congrArg aov (Rc (eQ l) a.1 (di (eQ l) a.1 + a.2))
 rw [an2] at this
 rw [Ce, this, an9]
 have e1 : [a].length = 1 := rfl
 split
 · rw [an2]; omega
 · rw [an9, an2]
   have e2 : [a.1].length = 1 := rfl
   omega
theorem Rg (j : Int) : ∀ g : List Lv, di (g.flatMap Lv.ends) j = fK g j
 | [] => rfl
 | l :: g => by
   rw [aoB, U6, Rg j g]
   unfold fK
   rw [an1, aon]
section
variable {h : Hh} {n N z : Nat} {r : Lv} {g : List Lv}
theorem abR (G : Oe n N r g) : vU ((eQ (g.flatMap Lv.ends)).map (·.1)) = ((aoe n).filter fun (k : Nat) => decide (0 < fK g (k : Int))).map fun (k : Nat) => (k : Int) := by
 have p1 : (vU ((eQ (g.flatMap Lv.ends)).map (·.1))).Pairwise (· < ·) := by
  have nd : (vU ((eQ (g.flatMap Lv.ends)).map (·.1))).Nodup := (vW.nodup_iff).mpr (Et _)
  exact (Qv.and nd).imp fun ⟨a, b⟩ => by omega
 have p2 : (((aoe n).filter fun (k : Nat) => decide (0 < fK g (k : Int))).map fun (k : Nat) => (k : Int)).Pairwise (· < ·) := by
  refine List.pairwise_map.mpr (((List.pairwise_lt_range).filter _).imp fun h => ?_)
  omega
 have mem : ∀ x, x ∈ vU ((eQ (g.flatMap Lv.ends)).map (·.1)) ↔ x ∈ ((aoe n).filter fun (k : Nat) => decide (0 < fK g (k : Int))).map fun (k : Nat) => (k : Int) := fun x => by
  rw [vW.mem_iff]
  constructor
  · intro hx
    obtain ⟨p, hp, rfl⟩ := List.mem_map.mp (adl _ x hx)
    obtain ⟨l, hl, hp⟩ := List.mem_flatMap.mp hp
    have ok := G.ok l hl
    have hc := ok.sub.subset (aoD hp)
    have b0 := ok.b0
    have fit := ok.fit
    have cl := ok.g.cl
    have rng : 0 ≤ p.1 ∧ p.1 < (n : Int) := by
     rcases List.mem_append.mp hc with hc | hc
     · have := ok.g.cin _ hc
       omega
     · split at hc
       · rw [aot] at hc
         omega
       · cases hc
    have pos : 0 < fK g p.1 := by
     have h1 : 0 < di l.ends p.1 := by
      rcases U0 (gap := p.1) (WK ok) with q | ⟨q, q1, q2, q3⟩
      · exfalso
        have : ∀ es : List (Int × Int), (∀ q ∈ es, 1 ≤ q.2) → p ∈ es → 0 < di es p.1 := fun es => by
         induction es with
         | nil => intro _ h; cases h
         | cons e es ih =>
           intro hq hm
           rw [tail_cons]
           have h0 := X6 (gap := p.1) (l := es) fun q hq' => by have := hq q (aok _ hq'); omega
           have h1 := hq e aod
           rcases List.mem_cons.mp hm with rfl | hm
           · rw [if_pos rfl]
             omega
           · have := ih (fun q hq' => hq q (aok _ hq')) hm
             split <;> omega
        have := this l.ends (fun q hq => (ok.pos q hq).1) hp
        omega
      · rw [q3]
        have := (ok.pos q q1).1
        omega
     have : ∀ g : List Lv, l ∈ g → (∀ l ∈ g, l.okN N (n : Int)) → 0 < fK g p.1 := fun g => by
      induction g with
      | nil => intro h; cases h
      | cons a g ih =>
        intro hm ho
        unfold fK
        rw [an1, aon]
        have z1 := (IV (ho a aod) p.1).1
        have z2 : 0 ≤ (g.map fun l => di l.ends p.1).sum := NP fun l hl => (IV (ho l (aok _ hl)) p.1).1
        rcases List.mem_cons.mp hm with rfl | hm
        · omega
        · have := ih hm fun l hl => ho l (aok _ hl)
          unfold fK at this
          omega
     exact this g hl G.ok
    refine List.mem_map.mpr ⟨p.1.toNat, List.mem_filter.mpr ⟨List.mem_range.mpr (by omega), ?_⟩, by omega⟩
    rw [show ((p.1.toNat : Nat) : Int) = p.1 by omega]
    exact decide_eq_true pos
  · intro hx
    obtain ⟨k, hk, rfl⟩ := List.mem_map.mp hx
    have pos := of_decide_eq_true (List.mem_filter.mp hk).2
    by_cases q : (k : Int) ∈ (eQ (g.flatMap Lv.ends)).map (·.1)
    · exact q
    · have := vP q
      rw [WP, Rg] at this
      omega
 have s1 := BZ p1 p2 fun x hx => (mem x).mp hx
 have s2 := BZ p2 p1 fun x hx => (mem x).mpr hx
 exact s1.eq_of_length (Nat.le_antisymm s1.length_le s2.length_le)
end
end L
namespace L
open PySem PySem.Spec L2 Pk
section
variable {h : Hh} {n N z : Nat} {r : Lv} {g : List Lv}
theorem agl (G : Oe n N r g) (h4 : n ≤ 4) : (g.flatMap Lv.ends).length ≤ 100 := by
 have : ∀ g : List Lv, (∀ l ∈ g, l.okN N (n : Int)) → (g.flatMap Lv.ends).length ≤ g.length * 5 := fun g => by
  induction g with
  | nil => intro _; exact Nat.zero_le _
  | cons l g ih =>
    intro ho
    have o := ho l aod
    have a := o.sub.length_le
    have := o.g.cl
    have := o.fit
    have := o.b0
    have : (if l.born + (l.counts.length : Int) < (n : Int) then [l.born + (l.counts.length : Int) - 1] else []).length ≤ 1 := by split <;> simp
    rw [an2, an9] at a
    have := ih fun l hl => ho l (aok _ hl)
    rw [aoB, an9, an4]
    omega
 have := this g G.ok
 have := G.len
 omega
theorem abS (G : Oe n N r g) (h4 : n ≤ 4) (hz : h[z]? = some (.nl (g.map (Lv.i (n : Int))))) : qZ [.ref z] h = .ok (.nl ((oZ n g).map pairD)) [] (h ++ [Ca (eQ (g.flatMap Lv.ends))]) := by
 have zl := (List.getElem?_eq_some_iff.mp hz).1
 have hz' : ∀ X : D, (h ++ [X])[z]? = some (.nl (g.map (Lv.i (n : Int)))) := fun X => by rw [aox zl]; exact hz
 have gE := agl G h4
 have len : ∀ ps : List (Int × Int), ps.length ≤ 100 → (eQ ps).length ≤ 1000 := fun ps hp => by
  have := aeV ps
  omega
 have start : D.dk [] [] = Ca (eQ []) := rfl
 have c0 : ∀ X : D, vX (h ++ [X]) (.ref z) = some (z, g.map (Lv.i (n : Int))) := fun X => Jx (hz' X)
 have ks := abR G
 have kl : ((eQ (g.flatMap Lv.ends)).map (·.1)).length < 64 := by
  have p := (vW (l := (eQ (g.flatMap Lv.ends)).map (·.1))).length_eq
  rw [ks, an2] at p
  have := List.length_filter_le (fun (k : Nat) => decide (0 < fK g (k : Int))) (aoe n)
  rw [aoy] at this
  omega
 have bs : CZ (h ++ [Ca (eQ (g.flatMap Lv.ends))]) (.nl (((eQ (g.flatMap Lv.ends)).map (·.1)).map .int)) = some (.nl ((vU ((eQ (g.flatMap Lv.ends)).map (·.1))).map .int)) := ac3 (h := h ++ [Ca (eQ (g.flatMap Lv.ends))]) kl
 have nd := Et (g.flatMap Lv.ends)
 have lc : ∀ x2 x4 : Option D, jA [3] qF qG qH ((vU ((eQ (g.flatMap Lv.ends)).map (·.1))).map .int) [some (.ref z), some (.ref h.length), x2, none, x4] (h ++ [Ca (eQ (g.flatMap Lv.ends))])
  = .ok ((vU ((eQ (g.flatMap Lv.ends)).map (·.1))).map fun k => .tup [.int k, .int (di (eQ (g.flatMap Lv.ends)) k)]) [some (.ref z), some (.ref h.length), x2, none, x4] (h ++ [Ca (eQ (g.flatMap Lv.ends))]) := fun x2 x4 => wH fun k hk => by
  have gk := ajK (h := h) nd (vW.mem_iff.mp hk)
  simp only [↓jU, ↓Sy, ↓cJ, an6, an5, aN, ↓SJ, ↓dF, fD, ↓SM, ↓Bj, ↓cU, ↓bj, an7, an3, an4, aM, bZ, cA, ↓ah8, iG, gk, aQ, ↓bU, an8, Nat.zero_add, Nat.reduceAdd, cO, Nat.reduceLeDiff, cG, cV, and_self]
 have fin : ((vU ((eQ (g.flatMap Lv.ends)).map (·.1))).map fun k => D.tup [.int k, .int (di (eQ (g.flatMap Lv.ends)) k)]) = (oZ n g).map pairD := by
  rw [ks]
  unfold oZ
  rw [aoj, aoj]
  refine aoz fun k _ => ?_
  show D.tup [.int (k : Int), .int (di (eQ (g.flatMap Lv.ends)) (k : Int))] = pairD ((k : Int), fK g (k : Int))
  rw [WP, Rg, yo]
 have sl : ((vU ((eQ (g.flatMap Lv.ends)).map (·.1))).map D.int).length ≤ 100000 := by
  rw [an2, vW.length_eq]
  omega
 rw [fin] at lc
 apply Wp.eq
 simp only [↓Wu, ↓du, startF, an1, aoa, an4, an8, Nat.zero_add, Nat.reduceSub, aom, aoh, aog, aof, aN, ↓XN, ↓cW, ↓dH, ↓ah7, an6, an5, cC, ↓SN, ↓Um, ↓QG, ↓bj, an3, aM, iG, cA, c0, Option.map_some, aQ]
 rw [start]
 refine Xu (fun pre fr h' => ∃ x2 x3 x4, fr = [some (.ref z), some (.ref h.length), x2, x3, x4] ∧ h' = h ++ [Ca (eQ (pre.flatMap Lv.ends))]) (fun pre fr h' ⟨_, _, _, _, e⟩ => by rw [e]; exact hz' _) ⟨_, _, _, rfl, rfl⟩ ?_ ?_
 · rintro pre l suf fr h' e ⟨x2, x3, x4, rfl, rfl⟩
   have lim : ∀ a b : List (Int × Int), l.ends = a ++ b → (pre.flatMap Lv.ends ++ a).length ≤ 100 := fun a b eab => by
    have := congrArg (fun g => (g.flatMap Lv.ends).length) e
    simp only [List.flatMap_append, aoB, an9] at this
    have := congrArg aov eab
    rw [an9] at this ⊢
    omega
   simp only [↓cJ, Lv.i, Lv.fs, qm, an6, an5, aN, ↓Sw, ↓tO, ↓oN, ↓d7, ↓cY, an7, an3, aM, eZ, pN, aQ, oG]
   refine yc (fun pre2 fr h1 => ∃ y2 y3 y4, fr = [some (.ref z), some (.ref h.length), y2, y3, y4] ∧ h1 = h ++ [Ca (eQ (pre.flatMap Lv.ends ++ pre2))]) ⟨_, _, _, rfl, by rw [aob]⟩ ?_ ?_
   · rintro pre2 ⟨k, v⟩ suf2 fr h1 e2 ⟨y2, y3, y4, rfl, rfl⟩
     have pt := ajL (h := h) (k := k) (v := di (eQ (pre.flatMap Lv.ends ++ pre2)) k + v) (len _ (lim pre2 _ e2))
     have gd := aik (h := h) (Et (pre.flatMap Lv.ends ++ pre2)) (k := k)
     have is := aku (h := h) (as := eQ (pre.flatMap Lv.ends ++ pre2))
     have sn := Ce (pre.flatMap Lv.ends ++ pre2) (k, v)
     rw [aoA] at sn
     simp only [yo, ↓rJ, an4, an8, Nat.zero_add, Nat.reduceAdd, ↓pD, ↓cJ, an6, an5, aN, ↓rH, ↓Sv, ↓ah9, ↓fQ, ↓cZ, ↓af7, ↓bj, an7, an3, aM, iG, cA, is, bZ, ↓gQ, gd, aQ, qu, tZ, pt, jk, true_and]
     refine ⟨_, _, _, rfl, ?_⟩
     rw [sn]
   · rintro fr h1 ⟨y2, y3, y4, rfl, rfl⟩
     simp only [jk]
     refine ⟨_, _, _, rfl, ?_⟩
     rw [List.flatMap_append, aoB, List.flatMap_nil, aob]
 · rintro fr h' ⟨x2, x3, x4, rfl, rfl⟩
   simp only [cC, ↓dY, ↓tY, ↓oN, ↓fQ, ↓d7, ↓af6, ↓bj, an7, an3, an6, an5, aM, iG, cA, ail, aQ, bs, vY, vq, cO, sl, cG, cV, aN, lc, ↓cH, dX, and_self]
end
end L
namespace L
open PySem PySem.Spec L2 Pk
section
variable {h : Hh} {n N z : Nat} {r : Lv} {g : List Lv}
def XT (g : List Lv) : D := Ca (eQ (g.flatMap Lv.ends))
theorem abT (G : Oe n N r g) (h2 : 2 ≤ n) (h4 : n ≤ 4) (hr : ∃ g', g = r :: g') (hz : h[z]? = some (.nl (g.map (Lv.i (n : Int))))) : Dr [.ref z] h = .ok (.no 0 ((joinL n r g).fs (n : Int))) [] (h ++ [XT g]) := by
 have st := abS G h4 hz
 have ok := okJ G
 have ini := adf (h := h ++ [XT g]) ok (by omega) (by omega)
 have lz : vX h (.ref z) = some (z, g.map (Lv.i (n : Int))) := Jx hz
 have b0 : bT h (.ref z) (.int 0) = some (r.i (n : Int)) := by
  rw [Ul hz]
  obtain ⟨g', rfl⟩ := hr
  rw [show (0 : Int) = ((0 : Nat) : Int) from rfl, Bl]
  rfl
 have c4 := Rb G.rk h4
 have gl : (g.map (Lv.i (n : Int))).length ≤ 100000 := by
  rw [an2]
  have := G.len
  omega
 have same : ∀ l ∈ g, l.counts.length = r.counts.length := fun l hl => (DG.mp (G.way l hl)).2.1
 have l1 : ∀ i, i < r.counts.length → jC z (g.map (Lv.i (n : Int))) [4] zj zm zp (g.map (Lv.i (n : Int))) [some (.ref z), some (r.i (n : Int)), none, some (.int (0 + (i : Int))), none] h
  = .ok ((g.map fun l => (l.counts[i]?).getD 0).map .int) [some (.ref z), some (r.i (n : Int)), none, some (.int (0 + (i : Int))), none] h := fun i hi => by
  rw [aoj]
  refine aaM hz fun l hl => ?_
  obtain ⟨c, ec⟩ : ∃ c, l.counts[i]? = some c := ⟨_, aoc (by rw [same l hl]; exact hi)⟩
  have a := Ra (l := l.counts) (i := 0 + (i : Int)) (by omega) (by rw [show (0 + (i : Int)).toNat = i by omega]; exact ec)
  show _ = R.ok (some (D.int ((l.counts[i]?).getD 0))) _ _
  rw [ec]
  unfold Lv.i Lv.fs qm
  apply Wp.eq
  simp only [↓jU, ↓abw, ↓cJ, an6, an5, Option.getD_some, aN, ↓abx, ↓dF, fD, ↓aby, ↓cZ, ↓d7, ↓cY, an7, an3, aM, eZ, iy, aQ, ↓bj, bZ, cA, xZ, a, cG, cV, and_self]
 have l2 := wH (vs := [3]) (g := zq) (t := zr) (e := zu) (fr := [some (.ref z), some (r.i (n : Int)), none, none, none]) (h := h) (F := D.int) (G := fun (i : Int) => .int (sr g i.toNat)) (xs := (aoe r.counts.length).map fun (k : Nat) => 0 + (k : Int)) (fun i hi => by
  obtain ⟨k, hk, rfl⟩ := List.mem_map.mp hi
  have lk := l1 k (List.mem_range.mp hk)
  have sk : sr g (0 + (k : Int)).toNat = (g.map fun l => (l.counts[k]?).getD 0).sum := by rw [show (0 + (k : Int)).toNat = k by omega]; rfl
  generalize r.i (n : Int) = RI at *
  simp only [↓jU, ↓abz, ↓cJ, an6, an5, aN, ↓abA, ↓dF, fD, ↓abB, ↓d7, ↓aet, ↓QG, ↓bj, an3, aM, iG, cA, lz, Option.map_some, aQ, cO, gl, cG, cV, lk, ↓cH, zg, sk, and_self])
 have rl : (gH 0 r.counts.length).length ≤ 100000 := by
  rw [uL, an2, an2, aoy]
  omega
 have sm : nW (r.counts.length : Int) = true := Fg (by omega) (by omega)
 have fin : ((aoe r.counts.length).map fun (k : Nat) => 0 + (k : Int)).map (fun (i : Int) => D.int (sr g i.toNat)) = ((joinL n r g).counts).map D.int := by
  show _ = ((aoe r.counts.length).map (sr g)).map D.int
  rw [aoj, aoj]
  refine aoz fun k _ => ?_
  show D.int (sr g (0 + (k : Int)).toNat) = .int (sr g k)
  rw [show (0 + (k : Int)).toNat = k by omega]
 rw [fin, ← uL] at l2
 have cl : (r.counts.map D.int).length = r.counts.length := an2 _
 unfold XT at *
 generalize eQ (g.flatMap Lv.ends) = FT at *
 have e1 : (joinL n r g).born = r.born := rfl
 have e2 : (joinL n r g).cuts = r.cuts := rfl
 have e3 : (joinL n r g).gone = r.gone := rfl
 have e4 : (joinL n r g).ends = oZ n g := rfl
 rw [e1, e2, e3, e4] at ini
 unfold Lv.fs
 rw [e1, e2, e3, e4]
 generalize (joinL n r g).counts = JC at *
 generalize oZ n g = JE at *
 unfold Lv.i Lv.fs qm at *
 apply Wp.eq
 simp only [↓aeG, ↓du, startF, an1, aoa, an4, an8, Nat.zero_add, Nat.reduceSub, aom, aoh, aog, aof, aN, ↓agb, ↓cW, ↓dH, ↓tM, an3, aM, ↓gQ, an6, an5, b0, aQ, cC, ↓abC, ↓tY, ↓Dd, ↓d7, ↓cY, an7, Vw, eZ, iy, HW, cl, sm, ↓reduceIte, Int.toNat_natCast, cO, rl, cG, cV, l2, ↓cH, ↓dY, ↓fM, ↓cU, ↓bj, Hm, Ff, fD, vY, ↓bU, Nat.reduceAdd, iW, gK, jP, ↓fQ, iG, cA, fO, aob, st, Ky, aen, afS, afR, ini, dX, and_self]
end
end L
namespace L
open PySem PySem.Spec L2 Pk
def Em.wp : Em Wy where
 f := fun w => .tuple [Em.int.f w.b, Em.int.f w.n, Em.int.tup.f w.c, Em.int.tup.f w.g, Em.int.list.f w.o]
 n := 4
 ok := fun _ => True
 lay := fun w _ => by
  have e1 := Em.int.tup.lay w.c (fun _ _ => trivial)
  have e2 := Em.int.tup.lay w.g (fun _ _ => trivial)
  have e3 := Em.int.list.lay w.o (fun _ _ => trivial)
  show PyData.canLayAll0 [_, _, _, _, _] = true
  simp only [PyData.canLayAll0, e1, e2, e3, Em.int.lay w.b trivial, Em.int.lay w.n trivial, Bool.and_self]
 dep := fun w => by
  have e0 := Em.int.dep w.b
  have e1 := Em.int.dep w.n
  have e2 := Em.int.tup.dep w.c
  have e3 := Em.int.tup.dep w.g
  have e4 := Em.int.list.dep w.o
  have n0 : Em.int.n ≤ 3 := by decide
  have n1 : Em.int.tup.n ≤ 3 := by decide
  have n2 : Em.int.list.n ≤ 3 := by decide
  simp only [PyData.depth, PyData.depthAll]
  omega
 eq := fun l m => by
  show PyData.eqvAll [_, _, _, _, _] [_, _, _, _, _] = _
  simp only [PyData.eqvAll, Em.int.eq, Em.int.tup.eq, Em.int.list.eq, Bool.and_true]
  cases l
  cases m
  simp only [Wy.mk.injEq, Bool.decide_and]
theorem Rh (w : Wy) : (Tu w).toP = some (Em.wp.f w) := by
 unfold Tu
 simp only [D.toP, D.toPs, VF Em.int wJ, Lh Em.int wJ, wI Em.int wJ, Option.map_some]
 rfl
theorem R5 {α : Type} [DecidableEq α] {g : α → D} (A : Em α) (hg : ∀ a, (g a).toP = some (A.f a)) (h : Hh) (l : List α) : (D.nl (l.map g)).lstP h = some (l.map A.f) := by
 unfold D.lstP
 exact wI A hg l
section
variable {h : Hh} {n N : Nat} {ls : List Lv}
def HG (n : Nat) (pre : List Lv) (r : Lv) : D := .nl ((fZ pre r).map (Lv.i (n : Int)))
theorem U7 (pre : List Lv) (a r : Lv) : fZ (pre ++ [a]) r = if bz a = bz r then fZ pre r ++ [a] else fZ pre r := by
 unfold fZ
 rw [List.filter_append, List.filter_cons]
 by_cases q : bz a = bz r
 · rw [if_pos q, if_pos (decide_eq_true q)]
   rfl
 · rw [if_neg q, if_neg (by simp [q])]
   simp
theorem X8 {pre : List Lv} {a r : Lv} (q : ¬ bz a = bz r) : HG n (pre ++ [a]) r = HG n pre r := by
 unfold HG
 rw [U7, if_neg q]
theorem aeW {pre : List Lv} {a : Lv} : ∀ {R : List Lv}, (R.map bz).Nodup → bz a ∈ R.map bz → ∃ r, R[(R.map bz).idxOf (bz a)]? = some r ∧ R.map (HG n (pre ++ [a])) = (R.map (HG n pre)).set ((R.map bz).idxOf (bz a)) (.nl ((fZ pre r).map (Lv.i (n : Int)) ++ [a.i (n : Int)]))
 | [], _, h => by cases h
 | r :: R, nd, hm => by
   rw [an1, aoC] at nd
   rw [an1] at hm
   rw [an1, List.idxOf_cons]
   by_cases q : bz a = bz r
   · refine ⟨r, ?_, ?_⟩
     · rw [show (bz r == bz a) = true by rw [q]; exact beq_self_eq_true _]
       rfl
     · rw [show (bz r == bz a) = true by rw [q]; exact beq_self_eq_true _]
       have : R.map (HG n (pre ++ [a])) = R.map (HG n pre) := aoz fun r' hr => X8 fun e => nd.1 (q ▸ e ▸ aoD hr)
       show HG n (pre ++ [a]) r :: R.map (HG n (pre ++ [a])) = (.nl ((fZ pre r).map (Lv.i (n : Int)) ++ [a.i (n : Int)])) :: R.map (HG n pre)
       rw [this]
       unfold HG
       rw [U7, if_pos q, aol]
       rfl
   · obtain ⟨r', h1, h2⟩ := aeW (pre := pre) (a := a) nd.2 (by
      rcases List.mem_cons.mp hm with y | y
      · exact absurd y q
      · exact y)
     refine ⟨r', ?_, ?_⟩
     · rw [show (bz r == bz a) = false from beq_eq_false_iff_ne.mpr fun e => q e.symm]
       exact h1
     · rw [show (bz r == bz a) = false from beq_eq_false_iff_ne.mpr fun e => q e.symm]
       show HG n (pre ++ [a]) r :: R.map (HG n (pre ++ [a])) = HG n pre r :: (R.map (HG n pre)).set _ _
       rw [X8 q, h2]
def HH (n : Nat) (pre : List Lv) : List D := (cI pre).map (HG n pre)
theorem ajM {pre : List Lv} {a : Lv} (hn : bz a ∉ (cI pre).map bz) : HH n (pre ++ [a]) = HH n pre ++ [.nl [a.i (n : Int)]] := by
 unfold HH
 rw [pO, if_neg hn, aol]
 have e1 : (cI pre).map (HG n (pre ++ [a])) = (cI pre).map (HG n pre) := aoz fun r hr => X8 fun e => hn (e ▸ aoD hr)
 have e2 : fZ pre a = [] := by
  unfold fZ
  rw [List.filter_eq_nil_iff]
  intro m hm q
  exact hn (of_decide_eq_true q ▸ NB pre m hm)
 rw [e1, List.map_singleton]
 unfold HG
 rw [U7, if_pos rfl, e2]
 rfl
theorem aa7 {α : Type} {l : List α} {i : Nat} {x : α} (e : l[i]? = some x) : l.set i x = l := by
 refine List.ext_getElem? fun j => ?_
 rw [List.getElem?_set]
 by_cases q : i = j
 · subst q
   rw [if_pos rfl, if_pos (List.getElem?_eq_some_iff.mp e).1, e]
 · rw [if_neg q]
def refs (b k : Nat) : List D := (aoe k).map fun j => .ref (b + j)
theorem agm {b k j : Nat} (hj : j < k) : (refs b k)[j]? = some (.ref (b + j)) := by
 unfold refs
 rw [aos, List.getElem?_range hj]
 rfl
theorem aa8 (b k : Nat) : (refs b k).length = k := by
 unfold refs
 rw [an2, aoy]
theorem aeX (b k : Nat) : refs b (k + 1) = refs b k ++ [.ref (b + k)] := by
 unfold refs
 rw [List.range_succ, aol]
 rfl
theorem aeY (ho : ∀ l ∈ ls, l.okN N (n : Int)) (hl : ls.length ≤ 16) (h4 : n ≤ 4) {Q : Fl → Fr → Hh → Prop} (self : D) (en : ∀ x3 x4 x5 x6, Q .nx [some self, some (.nl (((cI ls).map bz).map Tu)), some (.nl (refs h.length (cI ls).length)), x3, x4, x5, x6] (h ++ HH n ls)) (x3 x4 x5 x6 : Option D) :
 Wp (fB (aK 3) j6 (ls.map (Lv.i (n : Int))) [some self, some (.nl []), some (.nl []), x3, x4, x5, x6] h) Q nY := by
 refine yc (fun pre fr h' => ∃ x3 x4 x5 x6, fr = [some self, some (.nl (((cI pre).map bz).map Tu)), some (.nl (refs h.length (cI pre).length)), x3, x4, x5, x6] ∧ h' = h ++ HH n pre) ⟨_, _, _, _, rfl, by rw [show HH n [] = [] from rfl, aob]⟩ ?_ fun fr h' ⟨x3, x4, x5, x6, e1, e2⟩ => by rw [e1, e2]; exact en _ _ _ _
 rintro pre a suf fr h' e ⟨x3, x4, x5, x6, rfl, rfl⟩
 have ao : a.okN N (n : Int) := ho a (by rw [e]; simp)
 have ws := agk (h := h ++ HH n pre) (size := (n : Int)) (Rb ao h4)
 have inp := acv (h := h ++ HH n pre) Em.wp (Rh (bz a)) (R5 Em.wp Rh (h ++ HH n pre) ((cI pre).map bz)) trivial (fun _ _ => trivial) (by decide)
 have pl : pre.length ≤ 16 := by
  have := congrArg aov e
  rw [an9] at this
  omega
 have rl := IW pre
 have wo : (Tu (bz a)).own = false := rfl
 have ao' : (a.i (n : Int)).own = false := rfl
 generalize hA : a.i (n : Int) = AI at *
 generalize hW : Tu (bz a) = WA at *
 by_cases q : bz a ∈ (cI pre).map bz
 · have inp := inp.trans (show _ = some true by simp [q])
   have ix := af4 (h := h ++ HH n pre) (x := WA) Em.wp (by rw [← hW]; exact Rh (bz a)) (R5 Em.wp Rh (h ++ HH n pre) ((cI pre).map bz)) trivial (fun _ _ => trivial) (by decide) q
   have lp : ((D.nl (((cI pre).map bz).map Tu)).lstP (h ++ HH n pre)).isSome = true := by rw [R5 Em.wp Rh]; rfl
   obtain ⟨r, h1, h2⟩ := aeW (n := n) (pre := pre) (NK pre) q
   have hj := (List.getElem?_eq_some_iff.mp h1).1
   have ra := agm (b := h.length) hj
   have rp : cI (pre ++ [a]) = cI pre := by rw [pO, if_pos q]
   have hc : (h ++ HH n pre)[h.length + ((cI pre).map bz).idxOf (bz a)]? = some (.nl ((fZ pre r).map (Lv.i (n : Int)))) := by
    rw [aeq]
    unfold HH
    rw [aos, h1]
    rfl
   have hs : ∀ X : D, X = .nl ((fZ pre r).map (Lv.i (n : Int)) ++ [AI]) → (h ++ HH n pre).set (h.length + ((cI pre).map bz).idxOf (bz a)) X = h ++ HH n (pre ++ [a]) := fun X eX => by
    rw [eX, ajy]
    unfold HH
    rw [rp, h2, hA]
   have gb : ((fZ pre r).map (Lv.i (n : Int))).length < 100000 := by
    rw [an2]
    have := List.length_filter_le (fun l => decide (bz l = bz r)) pre
    unfold fZ
    omega
   have hk := aa7 hc
   have ap : uZ AI ((fZ pre r).map (Lv.i (n : Int))) = some ((fZ pre r).map (Lv.i (n : Int)) ++ [AI]) := by
    unfold uZ
    rw [if_pos (show _ < big from gb)]
   have hs := hs _ rfl
   generalize ((cI pre).map bz).idxOf (bz a) = J at *
   simp only [↓cJ, an6, an5, aN, ↓zA, ↓cW, ↓dH, ↓fM, ↓cU, ↓bj, an7, an3, an4, aM, ao', cA, ↓bU, an8, Nat.zero_add, fO, aob, ws, ↓cH, cC, ↓eV, ↓cZ, wo, ↓cY, inp, aQ, fD, ↓pX, ↓ahL, ↓tM, ↓aeu, lp, ix, ahQ, Bl, ra, ahK, hc, lY, hk, pY, cO, tX, jk, rp, hs, and_true, true_and]
   exact ⟨gb, some AI, some WA, x5, x6, rfl⟩
 · have inp := inp.trans (show _ = some false by simp [q])
   have rp : cI (pre ++ [a]) = cI pre ++ [a] := by rw [pO, if_neg q]
   have b1 : (((cI pre).map bz).map Tu).length < 100000 := by
    rw [an2, an2]
    omega
   have b2 : (refs h.length (cI pre).length).length < 100000 := by
    rw [aa8]
    omega
   have hn := ajM (n := n) q
   have hh : (HH n pre).length = (cI pre).length := by
    unfold HH
    rw [an2]
   simp only [↓cJ, an6, an5, aN, ↓zA, ↓cW, ↓dH, ↓fM, ↓cU, ↓bj, an7, an3, an4, aM, ao', cA, ↓bU, an8, Nat.zero_add, fO, aob, ws, ↓cH, cC, ↓eV, ↓cZ, wo, ↓cY, inp, aQ, ↓pX, ↓qX, ↓vp, lY, pY, cO, tX, ↓ack, ↓qD, Nat.reduceLeDiff, Ff, jk, true_and]
   refine ⟨b1, b2, some AI, some WA, x5, x6, ?_, ?_⟩
   · rw [rp, an9, aol, aol, hh, ← hW, an9]
     rw [show [a].length = 1 from rfl, aeX]
     rfl
   · rw [hn, aoA, hA]
end
end L
namespace L
open PySem PySem.Spec L2 Pk
section
variable {h : Hh} {n N : Nat} {ls : List Lv}
theorem acn {vs : List Nat} {g : D → M Unit} {t : M Bool} {e : M D} {fr : Fr} : jA vs g t e [] fr h = .ok [] fr h := rfl
theorem agn {vs : List Nat} {g : D → M Unit} {t : M Bool} {e : M D} {fr fr1 fr2 : Fr} {h1 h2 : Hh} {d : D} {ds : List D} {o : Option D} {r : List D} (e1 : fP vs g t e d fr h = .ok o fr1 h1) (e2 : jA vs g t e ds fr1 h1 = .ok r fr2 h2) : jA vs g t e (d :: ds) fr h = .ok (Cz o r) fr2 h2 := by
 rw [jA, M.bind_ok e1, M.bind_ok e2]
 rfl
def XX (ls : List Lv) (r : Lv) : D := XT (fZ ls r)
theorem Tv (ho : ∀ l ∈ ls, l.okN N (n : Int)) (hl : ls.length ≤ 16) (h2 : 2 ≤ n) (h4 : n ≤ 4) {x0 x1 x2 x3 x4 x5 : Option D} : ∀ (rs done : List Lv), cI ls = done ++ rs →
 jA [6] iH iI iJ ((List.range' done.length rs.length).map fun j => .ref (h.length + j)) [x0, x1, x2, x3, x4, x5, none] ((h ++ HH n ls) ++ done.map (XX ls))
  = .ok (rs.map fun r => (joinL n r (fZ ls r)).i (n : Int)) [x0, x1, x2, x3, x4, x5, none] ((h ++ HH n ls) ++ (cI ls).map (XX ls))
 | [], done, e => by
   rw [aob] at e
   rw [e]
   rfl
 | r :: rs, done, e => by
   have ih := Tv ho hl h2 h4 (x0 := x0) (x1 := x1) (x2 := x2) (x3 := x3) (x4 := x4) (x5 := x5) rs (done ++ [r]) (by rw [e, aoA]; rfl)
   rw [an9, show [r].length = 1 from rfl, aol, ← aoA] at ih
   have hr : r ∈ cI ls := by rw [e]; simp
   have hz : ((h ++ HH n ls) ++ done.map (XX ls))[h.length + done.length]? = some (.nl ((fZ ls r).map (Lv.i (n : Int)))) := by
    have hlt : h.length + done.length < (h ++ HH n ls).length := by
     unfold HH
     rw [an9, an2, e, an9, an4]
     omega
    rw [aox hlt, aeq]
    unfold HH
    rw [aos, e, aow (Nat.le_refl _), Nat.sub_self]
    rfl
   have jo := abT (LQ ho hl hr) h2 h4 (UT ls r hr) hz
   rw [an4, List.range'_succ, an1, an1]
   have tu : fP [6] iH iI iJ (.ref (h.length + done.length)) [x0, x1, x2, x3, x4, x5, none] ((h ++ HH n ls) ++ done.map (XX ls)) = .ok (some ((joinL n r (fZ ls r)).i (n : Int))) [x0, x1, x2, x3, x4, x5, none] ((h ++ HH n ls) ++ done.map (XX ls) ++ [r].map (XX ls)) := by
    have e1 : (D.no 0 ((joinL n r (fZ ls r)).fs (n : Int))).fz = (joinL n r (fZ ls r)).i (n : Int) := rfl
    have e2 : [r].map (XX ls) = [XT (fZ ls r)] := rfl
    rw [e2]
    generalize ((h ++ HH n ls) ++ done.map (XX ls)) = H at *
    generalize D.no 0 ((joinL n r (fZ ls r)).fs (n : Int)) = J at *
    apply Wp.eq
    simp only [↓jU, ↓Km, ↓cJ, an6, an5, aN, ↓Ko, ↓dF, fD, ↓Kr, ↓fQ, ↓fM, ↓cU, ↓bj, an7, an3, an4, aM, iG, cA, ↓bU, an8, Nat.zero_add, fO, aob, jo, ↓cH, cG, cV, e1, and_self]
   exact agn tu ih
theorem Oi (ho : ∀ l ∈ ls, l.okN N (n : Int)) (hl : ls.length ≤ 16) (h2 : 2 ≤ n) (h4 : n ≤ 4) : jV [hD (n : Int) ls] h = .ok (.no 1 [.int (n : Int), .tup ((jD n ls).map (Lv.i (n : Int)))]) [] ((h ++ HH n ls) ++ (cI ls).map (XX ls)) := by
 have rf : refs h.length (cI ls).length = (List.range' ([] : List Lv).length (cI ls).length).map fun j => D.ref (h.length + j) := by
  unfold refs
  rw [List.range_eq_range']
  rfl
 have lc := fun x0 x1 x2 x3 x4 x5 => Tv (h := h) ho hl h2 h4 (x0 := x0) (x1 := x1) (x2 := x2) (x3 := x3) (x4 := x4) (x5 := x5) (cI ls) [] rfl
 rw [← rf, aoa, aob] at lc
 have gm : ((cI ls).map fun r => (joinL n r (fZ ls r)).i (n : Int)) = (jD n ls).map (Lv.i (n : Int)) := by
  unfold jD
  rw [aoj]
  rfl
 rw [gm] at lc
 have hi := Zt (h := (h ++ HH n ls) ++ (cI ls).map (XX ls)) (size := (n : Int)) (ls := jD n ls)
 have rl := IW ls
 have gl : ((jD n ls).map (Lv.i (n : Int))).length ≤ 100000 := by
  rw [an2]
  have := aa6 (n := n) (ls := ls)
  omega
 have rfl_ : (refs h.length (cI ls).length).length ≤ 100000 := by
  rw [aa8]
  omega
 apply Wp.eq
 have ln := fun Q => @aeY h n N ls ho hl h4 Q
 generalize (jD n ls).map (Lv.i (n : Int)) = GI at *
 simp only [↓Nu, ↓du, startF, hD, an1, aoa, an4, an8, Nat.zero_add, Nat.reduceSub, aom, aoh, aog, aof, aN, ↓O5, ↓cW, ↓dH, ↓qD, ↓bU, cO, Nat.reduceLeDiff, an6, an5, cC, ↓Kv, ↓Ku, ↓tO, ↓oN, ↓d7, ↓cY, an3, aM, eZ, lg, aQ, an7, oG, true_and]
 refine ln _ _ (fun x3 x4 x5 x6 => ?_) _ _ _ _
 simp only [cC, ↓Ks, ↓cW, ↓dH, ↓tY, ↓oN, ↓bj, an7, an3, an6, an5, aM, Ff, fD, vY, aN, vq, aQ, cO, rfl_, cG, cV, lc, ↓cH, ↓dY, ↓acr, ↓cU, ↓d7, ↓cY, an4, eZ, m9, ↓bU, an8, Nat.reduceAdd, gl, M5, aog, aof, hi, dX, and_self]
end
end L
namespace L
open PySem PySem.Spec L2 Pk
section
variable {h : Hh} {n N z : Nat} {ls : List Lv}
theorem aeZ (hz : h[z]? = some (.nl (ls.map Lv.d))) (ho : ∀ l ∈ ls, l.okN N (n : Int)) (hl : ls.length ≤ 100) (h2 : 2 ≤ n) (h4 : n ≤ 4) : qY [.ref z, .int (n : Int)] h = .ok (.no 1 [.int (n : Int), .tup (ls.map (Lv.i (n : Int)))]) [] h := by
 have h0 := Zt (h := h) (size := (n : Int)) (ls := [])
 rw [aoa] at h0
 have lz : vX h (.ref z) = some (z, ls.map Lv.d) := Jx hz
 apply Wp.eq
 simp only [↓Wt, ↓du, startF, an1, aoa, an4, an8, Nat.zero_add, Nat.reduceAdd, Nat.reduceSub, aom, aoh, aog, aof, aN, ↓XM, ↓cW, ↓dH, ↓fM, ↓bU, ↓cU, ↓bj, an7, an3, an6, an5, aM, bZ, cA, M5, h0, ↓cH, cC, ↓Ss, ↓Um, ↓QG, iG, lz, Option.map_some, aQ, true_and]
 refine Xu (fun pre fr h' => h' = h ∧ ∃ x3, fr = [some (.ref z), some (.int (n : Int)), some (.no 1 [.int (n : Int), .tup (pre.map (Lv.i (n : Int)))]), x3]) (fun pre fr h' i => by rw [i.1]; exact hz) ⟨rfl, none, rfl⟩ ?_ ?_
 · rintro pre l suf fr h' e ⟨rfl, x3, rfl⟩
   have em := aeP (h := h') (ho l (by rw [e]; simp)) (by omega) (by omega)
   have e1 := Zt (h := h') (size := (n : Int)) (ls := [l])
   rw [an1, aoa] at e1
   have e2 := ale (h := h') (size := (n : Int)) (ls := pre) (ms := [l]) (by
    have := congrArg aov e
    simp only [an9, an4] at this
    simp only [an4, an8]
    omega)
   simp only [hD] at e2
   rw [an1, aoa] at e2
   have ei : D.obj 0 (l.fs (n : Int)) = l.i (n : Int) := rfl
   simp only [↓cJ, an6, an5, aN, ↓Sh, ↓dH, ↓ajC, ↓bj, an7, an3, aM, aek, fD, ac2, ↓fQ, ↓fM, ↓cU, an4, Lv.own_d, cA, bZ, ↓bU, an8, Nat.zero_add, Nat.reduceAdd, fO, aob, em, ↓cH, ei, M5, aog, aof, e1, ah2, XQ, aQ, e2, jk, true_and]
   exact ⟨_, rfl⟩
 · rintro fr h' ⟨rfl, x3, rfl⟩
   simp only [cC, ↓dY, ↓G3, an7, an3, an6, an5, aM, aN, dX, and_self]
theorem aa9 {X : D} (hX : X = .fl (ls.map Lv.d) ∨ (X = .ref z ∧ h[z]? = some (.nl (ls.map Lv.d)))) (ho : ∀ l ∈ ls, l.okN N (n : Int)) (hl : ls.length ≤ 100) (h2 : 2 ≤ n) (h4 : n ≤ 4) : jO [hD (n : Int) ls, X, .int (n : Int)] h = .ok (.bl true) [] h := by
 have ix : ∀ k : Nat, bT h X (.int (k : Int)) = atI (ls.map Lv.d) (k : Int) := fun k => by
  rcases hX with rfl | ⟨rfl, hz⟩
  · rfl
  · exact Ul hz
 have ln : bW h X = some (.int (ls.length : Int)) := by
  rcases hX with rfl | ⟨rfl, hz⟩
  · have := an2 (f := Lv.d) (as := ls)
    rw [← this]
    rfl
  · have := an2 (f := Lv.d) (as := ls)
    rw [← this]
    unfold bW
    dsimp only
    rw [Xq hz]
    rfl
 have own : X.own = false := by
  rcases hX with rfl | ⟨rfl, _⟩ <;> rfl
 have lc := afT (vs := [3]) (g := pJ) (t := pK) (e := ye) (fr := [some (hD (n : Int) ls), some X, some (.int (n : Int)), none]) (h := h) (F := D.int) (xs := (aoe ls.length).map fun (k : Nat) => 0 + (k : Int)) (fun i hi => by
  obtain ⟨k, hk, rfl⟩ := List.mem_map.mp hi
  have hk' := List.mem_range.mp hk
  have e : ls[k]? = some ls[k] := aoc hk'
  have hg := agg (h := h) (size := (n : Int)) hl e
  have a : bT h X (.int (k : Int)) = some (ls[k]).d := by rw [ix, Bl, aos, e]; rfl
  have em := aeP (h := h) (ho _ (List.getElem_mem hk')) (by omega) (by omega)
  have q := aeN (h := h) (s := (n : Int)) (s' := (n : Int)) (l := ls[k]) (m := ls[k])
  rw [decide_eq_true rfl, decide_eq_true rfl, Bool.true_and] at q
  rw [Int.zero_add]
  generalize ls[k] = l at *
  simp only [Lv.i] at hg
  simp only [↓jU, ↓Q4, ↓cJ, hD, an6, an5, aN, ↓Q5, ↓pC, ↓aaI, ↓fQ, ↓ah4, ↓bj, an3, aM, lG, cA, an7, bZ, vZ, Ft, aQ, hg, ↓cH, ↓fM, ↓cU, ↓tM, an4, a, ↓bU, an8, Nat.zero_add, Nat.reduceAdd, fO, aob, em, ↓aes, ac2, acu, Option.isSome_none, ajv, aaJ, Option.isSome_some, Bool.or_true, Jh, q, Ea, Bool.not_true, cG, cV, and_self])
 have hm : (gH 0 ls.length).length ≤ 100000 := by
  rw [uL, an2, an2, aoy]; omega
 have sm : nW (ls.length : Int) = true := Fg (by omega) (by omega)
 rw [← uL] at lc
 simp only [hD] at lc
 apply Wp.eq
 simp only [↓Ux, ↓du, startF, hD, an1, aoa, an4, an8, Nat.zero_add, Nat.reduceAdd, Nat.reduceSub, aom, aoh, aog, aof, aN, ↓V5, ↓cW, ↓eV, ↓Bh, ↓pC, ↓d7, ↓cZ, ↓bj, an3, an5, aM, lG, cA, ↓gQ, adg, aQ, vz, Bool.not_true, ↓cY, eZ, m9, an7, Vz, iV, decide_true, Option.map_some, ↓ah3, vZ, Jg, agf, an2, ↓cH, ln, afY, ↓dF, cC, ↓dY, ↓fQ, ↓tY, ↓Dd, Vw, sm, ↓reduceIte, Int.toNat_natCast, cO, hm, cG, cV, an6, lc, ↓qD, ↓bU, Nat.reduceLeDiff, vY, ajx, dX, and_self, and_true]
 omega
end
end L
namespace L
open PySem PySem.Spec L2 Pk
def pairsOf (g : List Lv) (xs : List Int) : List (Int × Int) := (xs.filter fun k => decide (0 < fK g k)).map fun k => (k, fK g k)
theorem abU (g : List Lv) (n : Nat) : pairsOf g ((aoe n).map fun (k : Nat) => 0 + (k : Int)) = oZ n g := by
 unfold pairsOf oZ
 rw [List.filter_map, aoj]
 have : ((fun k => decide (0 < fK g k)) ∘ fun (k : Nat) => 0 + (k : Int)) = fun (k : Nat) => decide (0 < fK g (k : Int)) := by
  funext k
  show decide (0 < fK g (0 + (k : Int))) = _
  rw [Int.zero_add]
 rw [this]
 refine aoz fun k _ => ?_
 show (0 + (k : Int), fK g (0 + (k : Int))) = _
 rw [Int.zero_add]
section
variable {h : Hh} {n N : Nat} {r : Lv} {g : List Lv}
theorem adm (G : Oe n N r g) (h2 : 2 ≤ n) (h4 : n ≤ 4) (hr : ∃ g', g = r :: g') : vH [.fl (g.map Lv.d), .int (n : Int)] h = .ok (joinL n r g).d [] h := by
 have gl := G.len
 have gm : (g.map Lv.d).length ≤ 100000 := by
  rw [an2]
  omega
 have b0 : (g.map Lv.d)[0]? = some r.d := by
  obtain ⟨g', rfl⟩ := hr
  rfl
 have c4 := Rb G.rk h4
 have same : ∀ l ∈ g, l.counts.length = r.counts.length := fun l hl => (DG.mp (G.way l hl)).2.1
 have ends_len : ∀ l ∈ g, (l.ends.map pairD).length ≤ 100000 := fun l hl => by
  have o := G.ok l hl
  have a := o.sub.length_le
  have := o.g.cl
  have := o.fit
  have := o.b0
  have : (if l.born + (l.counts.length : Int) < (n : Int) then [l.born + (l.counts.length : Int) - 1] else []).length ≤ 1 := by split <;> simp
  rw [an2, an9] at a
  rw [an2]
  omega
 have l1 : ∀ i, i < r.counts.length → ∀ x2 x3 x4 x5 x6 x7 x8 x9 x10 x13 x14 : Option D, jA [11] ux uz uA (g.map Lv.d) [some (.fl (g.map Lv.d)), some (.int (n : Int)), x2, x3, x4, x5, x6, x7, x8, x9, x10, none, some (.int (0 + (i : Int))), x13, x14] h
  = .ok ((g.map fun l => (l.counts[i]?).getD 0).map .int) [some (.fl (g.map Lv.d)), some (.int (n : Int)), x2, x3, x4, x5, x6, x7, x8, x9, x10, none, some (.int (0 + (i : Int))), x13, x14] h := fun i hi x2 x3 x4 x5 x6 x7 x8 x9 x10 x13 x14 => by
  rw [aoj]
  refine wH fun l hl => ?_
  obtain ⟨c, ec⟩ : ∃ c, l.counts[i]? = some c := ⟨_, aoc (by rw [same l hl]; exact hi)⟩
  have a := Ra (l := l.counts) (i := 0 + (i : Int)) (by omega) (by rw [show (0 + (i : Int)).toNat = i by omega]; exact ec)
  have fin : ((D.int ∘ fun l => (l.counts[i]?).getD 0) : Lv → D) l = .int c := by
   show D.int ((l.counts[i]?).getD 0) = _
   rw [ec]
   rfl
  rw [fin]
  unfold Lv.d sS
  simp only [↓jU, ↓Wf, ↓cJ, an6, an5, aN, ↓Wg, ↓dF, fD, ↓Wh, ↓cZ, ↓tM, an7, an3, aM, ↓gQ, xZ, ala, aQ, ↓bj, bZ, cA, aaE, a, cG, cV, and_self]
 have l2 : ∀ x2 x4 x5 x6 x7 x8 x9 x10 x13 x14 : Option D, jA [12] uB uC uD (gH 0 r.counts.length) [some (.fl (g.map Lv.d)), some (.int (n : Int)), x2, some (.fl (r.counts.map .int)), x4, x5, x6, x7, x8, x9, x10, none, none, x13, x14] h
  = .ok ((joinL n r g).counts.map .int) [some (.fl (g.map Lv.d)), some (.int (n : Int)), x2, some (.fl (r.counts.map .int)), x4, x5, x6, x7, x8, x9, x10, none, none, x13, x14] h := fun x2 x4 x5 x6 x7 x8 x9 x10 x13 x14 => by
  have fin : ((aoe r.counts.length).map fun (k : Nat) => 0 + (k : Int)).map (fun (i : Int) => D.int (sr g i.toNat)) = ((joinL n r g).counts).map D.int := by
   show _ = ((aoe r.counts.length).map (sr g)).map D.int
   rw [aoj, aoj]
   refine aoz fun k _ => ?_
   show D.int (sr g (0 + (k : Int)).toNat) = .int (sr g k)
   rw [show (0 + (k : Int)).toNat = k by omega]
  rw [← fin, uL]
  refine wH fun i hi => ?_
  obtain ⟨k, hk, rfl⟩ := List.mem_map.mp hi
  have lk := l1 k (List.mem_range.mp hk)
  have sk : sr g (0 + (k : Int)).toNat = (g.map fun l => (l.counts[k]?).getD 0).sum := by rw [show (0 + (k : Int)).toNat = k by omega]; rfl
  simp only [↓jU, ↓Wi, ↓cJ, an6, an5, aN, ↓Wj, ↓dF, fD, ↓Wk, ↓d7, ↓tY, ↓oN, ↓bj, an3, aM, xY, cA, vq, aQ, cO, gm, cG, cV, lk, ↓cH, zg, sk, and_self]
 have rl : (gH 0 r.counts.length).length ≤ 100000 := by
  rw [uL, an2, an2, aoy]
  omega
 have sm : nW (r.counts.length : Int) = true := Fg (by omega) (by omega)
 have smn : nW (n : Int) = true := Fg (by omega) (by omega)
 have cl : (r.counts.map D.int).length = r.counts.length := an2 _
 have e1 : (joinL n r g).d = .tup [.int r.born, .fl ((joinL n r g).counts.map .int), .fl (r.cuts.map .int), .fl ((oZ n g).map pairD), .fl (r.gone.map .int)] := rfl
 rw [e1]
 have pr := abU g n
 generalize (joinL n r g).counts = JC at *
 rw [show r.d = .tup [.int r.born, .fl (r.counts.map .int), .fl (r.cuts.map .int), .fl (r.ends.map pairD), .fl (r.gone.map .int)] from rfl] at b0
 have nl : (gH 0 n).length ≤ 100000 := by
  rw [uL, an2, an2, aoy]
  omega
 apply Wp.eq
 simp only [↓Zd, ↓du, startF, an1, aoa, an4, an8, Nat.zero_add, Nat.reduceAdd, Nat.reduceSub, aom, aoh, aog, aof, aN, ↓aaW, ↓cW, ↓Le, ↓tM, an3, aM, ↓gQ, aaE, ak9, b0, aQ, ↓rJ, ↓pD, ↓cJ, an6, an5, ↓rH, cC, ↓Ws, ↓dH, ↓tY, ↓Dd, ↓d7, ↓cY, an7, Vw, acl, cl, sm, ↓reduceIte, Int.toNat_natCast, cO, rl, cG, cV, l2, ↓cH, ↓Wr, ↓qD, ↓bU, Nat.reduceLeDiff, ↓Wo, ↓tO, ↓bj, bZ, cA, smn, true_and]
 rw [uL]
 refine yc (fun pre fr h' => ∃ x9 x10 x11 x12 x13 x14, fr = [some (.fl (g.map Lv.d)), some (.int (n : Int)), some (.int r.born), some (.fl (r.counts.map .int)), some (.fl (r.cuts.map .int)), some (.fl (r.ends.map pairD)), some (.fl (r.gone.map .int)), some (.nl (JC.map .int)), some (.nl ((pairsOf g pre).map pairD)), x9, x10, x11, x12, x13, x14] ∧ h' = h) ⟨_, _, _, _, _, _, rfl, rfl⟩ ?_ ?_
 · rintro pre k suf fr h' e ⟨x9, x10, x11, x12, x13, x14, rfl, rfl⟩
   have pn : ((pairsOf g pre).map pairD).length < 100000 := by
    have := congrArg aov e
    rw [an2, aoy, an9, an4] at this
    have := List.length_filter_le (fun k => decide (0 < fK g k)) pre
    unfold pairsOf
    rw [an2, an2]
    omega
   have ps : pairsOf g (pre ++ [k]) = if 0 < fK g k then pairsOf g pre ++ [(k, fK g k)] else pairsOf g pre := by
    unfold pairsOf
    rw [List.filter_append, List.filter_cons]
    by_cases q : 0 < fK g k
    · rw [if_pos q, if_pos (decide_eq_true q), aol]
      rfl
    · rw [if_neg q, if_neg (by simp [q])]
      simp
   simp only [↓cJ, an6, an5, aN, ↓Uw, ↓cW, ↓dH, ↓gQ, cC, ↓tO, ↓oN, ↓bj, an3, aM, xY, cA, vq, aQ]
   refine yc (fun pre2 fr h1 => ∃ x11 x13 x14, fr = [some (.fl (g.map Lv.d)), some (.int (n : Int)), some (.int r.born), some (.fl (r.counts.map .int)), some (.fl (r.cuts.map .int)), some (.fl (r.ends.map pairD)), some (.fl (r.gone.map .int)), some (.nl (JC.map .int)), some (.nl ((pairsOf g pre).map pairD)), some (.int k), some (.int (fK pre2 k)), x11, x12, x13, x14] ∧ h1 = h') ⟨_, _, _, rfl, rfl⟩ ?_ ?_
   · rintro pre2 l suf2 fr h1 e2 ⟨x11, x13, x14, rfl, rfl⟩
     have hl := ends_len l (by rw [e2]; simp)
     have lc := Bm (vs := [13, 14]) (g := uE) (t := uF) (e := uG) (fr := [some (.fl (g.map Lv.d)), some (.int (n : Int)), some (.int r.born), some (.fl (r.counts.map .int)), some (.fl (r.cuts.map .int)), some (.fl (r.ends.map pairD)), some (.fl (r.gone.map .int)), some (.nl (JC.map .int)), some (.nl ((pairsOf g pre).map pairD)), some (.int k), some (.int (fK pre2 k)), some l.d, x12, none, none]) (h := h1) (F := pairD) (G := fun p => .int p.2) (p := fun p => decide (p.1 = k)) (xs := l.ends) (fun p hp => by
      obtain ⟨x, y⟩ := p
      simp only [↓jU, ↓Wl, yo, ↓rJ, an4, an8, Nat.zero_add, Nat.reduceAdd, ↓pD, ↓cJ, an6, an5, aN, ↓rH, ↓Wm, ↓cZ, ↓bj, an7, an3, aM, bZ, cA, ↓cY, iV, aQ, true_and]
      refine aei (fun z => ?_) fun z => ?_ <;> simp only [↓Wn, ↓bj, z, an7, an3, an6, an5, aM, bZ, cA, cG, cV, aN, decide_true, ↓reduceIte, and_self, decide_false, Bool.false_eq_true])
     have su : fK (pre2 ++ [l]) k = fK pre2 k + di l.ends k := by
      unfold fK
      rw [aol, List.sum_append, List.map_singleton, aon, List.sum_nil, Int.add_zero]
     have fo := Aq l.ends k
     rw [Dy] at lc
     unfold Lv.d sS at lc ⊢
     simp only [↓cJ, an6, an5, aN, ↓Uv, ↓dH, ↓cZ, ↓bj, an7, an3, aM, bZ, cA, ↓d7, ↓tY, ↓oN, ↓tM, ↓gQ, xZ, alb, aQ, vq, cO, hl, cG, cV, lc, ↓cH, zg, fo, qu, jk, and_true, true_and]
     exact ⟨_, _, _, by rw [su]⟩
   · rintro fr h1 ⟨x11, x13, x14, rfl, rfl⟩
     by_cases q : 0 < fK g k
     · rw [if_pos q] at ps
       simp only [cC, ↓eV, ↓cZ, ↓bj, an7, an3, an6, an5, aM, bZ, cA, ↓gQ, rK, q, decide_true, aQ, fD, ↓pX, ↓qX, ↓vp, lY, aN, ↓Bj, ↓cU, an4, ↓bU, an8, Nat.zero_add, Nat.reduceAdd, cO, Nat.reduceLeDiff, pY, tX, jk, and_true, true_and]
       refine ⟨pn, some (.int k), some (.int (fK g k)), x11, x12, x13, x14, ?_⟩
       rw [ps, aol, List.map_singleton, yo]
     · rw [if_neg q] at ps
       simp only [cC, ↓eV, ↓cZ, ↓bj, an7, an3, an6, an5, aM, bZ, cA, ↓gQ, rK, q, decide_false, aQ, ↓dF, jk, and_true]
       exact ⟨some (.int k), some (.int (fK g k)), x11, x12, x13, x14, by rw [ps]⟩
 · rintro fr h' ⟨x9, x10, x11, x12, x13, x14, rfl, rfl⟩
   rw [pr]
   simp only [cC, ↓dY, ↓Bj, ↓cU, ↓bj, an7, an3, an6, an5, an4, aM, bZ, cA, Ff, fD, vY, aN, xY, ↓bU, an8, Nat.zero_add, Nat.reduceAdd, cO, Nat.reduceLeDiff, dX, and_self]
end
end L
namespace L
open PySem PySem.Spec L2 Pk
def Em.wl : Em Wy where
 f := fun w => .list [Em.int.f w.b, Em.int.f w.n, Em.int.list.f w.c, Em.int.list.f w.g, Em.int.list.f w.o]
 n := 4
 ok := fun _ => True
 lay := fun w _ => by
  have e1 := Em.int.list.lay w.c (fun _ _ => trivial)
  have e2 := Em.int.list.lay w.g (fun _ _ => trivial)
  have e3 := Em.int.list.lay w.o (fun _ _ => trivial)
  show PyData.canLayAll0 [_, _, _, _, _] = true
  simp only [PyData.canLayAll0, e1, e2, e3, Em.int.lay w.b trivial, Em.int.lay w.n trivial, Bool.and_self]
 dep := fun w => by
  have e0 := Em.int.dep w.b
  have e1 := Em.int.dep w.n
  have e2 := Em.int.list.dep w.c
  have e3 := Em.int.list.dep w.g
  have e4 := Em.int.list.dep w.o
  have n0 : Em.int.n ≤ 3 := by decide
  have n2 : Em.int.list.n ≤ 3 := by decide
  simp only [PyData.depth, PyData.depthAll]
  omega
 eq := fun l m => by
  show PyData.eqvAll [_, _, _, _, _] [_, _, _, _, _] = _
  simp only [PyData.eqvAll, Em.int.eq, Em.int.list.eq, Bool.and_true]
  cases l
  cases m
  simp only [Wy.mk.injEq, Bool.decide_and]
theorem WQ (w : Wy) : (yP w).toP = some (Em.wl.f w) := by
 unfold yP
 simp only [D.toP, D.toPs, wI Em.int wJ, Option.map_some]
 rfl
section
variable {h : Hh} {n N z : Nat} {ls : List Lv}
theorem aba {pre : List Lv} {a : Lv} (h4 : a.counts.length ≤ 4) : jM a ∈ (cI pre).map jM ↔ bz a ∈ (cI pre).map bz := by
 rw [List.mem_map, List.mem_map]
 constructor
 · rintro ⟨r, hr, e⟩
   exact ⟨r, hr, ((R4 h4).mpr e.symm).symm⟩
 · rintro ⟨r, hr, e⟩
   exact ⟨r, hr, ((R4 h4).mp e.symm).symm⟩
theorem abb (hz : h[z]? = some (.nl (ls.map Lv.d))) (ho : ∀ l ∈ ls, l.counts.length ≤ 4) {r : Lv} {x0 x1 x2 x4 : Option D} : ∀ xs : List Lv, (∀ l ∈ xs, l ∈ ls) →
 jC z (ls.map Lv.d) [3] wk wu wy (xs.map Lv.d) [x0, x1, x2, none, x4, some (yP (jM r))] h = .ok ((fZ xs r).map Lv.d) [x0, x1, x2, none, x4, some (yP (jM r))] h
 | [], _ => aaL hz
 | l :: xs, hh => by
   have ih := abb hz ho (r := r) (x0 := x0) (x1 := x1) (x2 := x2) (x4 := x4) xs fun l hl => hh l (aok _ hl)
   have l4 := ho l (hh l aod)
   have w := Yw (h := h) l4
   have wf : (D.nl [.int l.born, .int (l.counts.length : Int), .fl (l.cuts.map .int), .fl (l.gone.map .int), .fl ((BX l.counts).map .int)]).fz = yP (jM l) := rfl
   have ce := VD (h := h) Em.wl (WQ (jM l)) (WQ (jM r)) trivial trivial (by decide)
   have no : l.d.own = false := rfl
   have wo : (yP (jM r)).own = false := rfl
   have eq : fZ (l :: xs) r = (if bz l = bz r then l :: fZ xs r else fZ xs r) := by
    unfold fZ
    rw [List.filter_cons]
    by_cases q : bz l = bz r
    · rw [if_pos q, if_pos (decide_eq_true q)]
    · rw [if_neg q, if_neg (by simp [q])]
   rw [an1, eq]
   generalize D.nl [.int l.born, .int (l.counts.length : Int), .fl (l.cuts.map .int), .fl (l.gone.map .int), .fl ((BX l.counts).map .int)] = WN at *
   by_cases q : bz l = bz r
   · have ce := ce.trans (show _ = some true by simp [(R4 l4).mp q])
     rw [if_pos q, an1]
     refine QH (o := some l.d) hz ?_ ih
     generalize yP (jM r) = WR at *
     generalize yP (jM l) = WL at *
     generalize l.d = LD at *
     apply Wp.eq
     simp only [↓jU, ↓Oc, ↓cJ, an6, an5, aN, ↓Od, ↓cZ, ↓fQ, ↓fM, ↓cU, ↓bj, an7, an3, an4, aM, no, cA, ↓bU, an8, Nat.zero_add, fO, aob, w, ↓cH, ↓cY, wf, ce, aQ, fD, ↓Y6, cG, cV, and_self]
   · have q' : ¬ jM l = jM r := fun e => q ((R4 l4).mpr e)
     have ce := ce.trans (show _ = some false by simp [q'])
     rw [if_neg q]
     refine QH (o := none) hz ?_ ih
     generalize yP (jM r) = WR at *
     generalize yP (jM l) = WL at *
     generalize l.d = LD at *
     apply Wp.eq
     simp only [↓jU, ↓Oc, ↓cJ, an6, an5, aN, ↓Od, ↓cZ, ↓fQ, ↓fM, ↓cU, ↓bj, an7, an3, an4, aM, no, cA, ↓bU, an8, Nat.zero_add, fO, aob, w, ↓cH, ↓cY, wf, ce, aQ, cG, cV, and_self]
theorem ago (hz : h[z]? = some (.nl (ls.map Lv.d))) (ho : ∀ l ∈ ls, l.okN N (n : Int)) (hl : ls.length ≤ 16) (h2 : 2 ≤ n) (h4 : n ≤ 4) : yL [.ref z, .int (n : Int)] h = .ok (.nl ((jD n ls).map Lv.d)) [] h := by
 have lz : vX h (.ref z) = some (z, ls.map Lv.d) := Jx hz
 have c4 : ∀ l ∈ ls, l.counts.length ≤ 4 := fun l hl => Rb (ho l hl) h4
 have gm : (jD n ls).map Lv.d = ((cI ls).map fun r => joinL n r (fZ ls r)).map Lv.d := rfl
 rw [gm]
 have rl := IW ls
 have bl : (ls.map Lv.d).length ≤ 100000 := by
  rw [an2]
  omega
 apply Wp.eq
 simp only [↓abL, ↓du, startF, an1, aoa, an4, an8, Nat.zero_add, Nat.reduceAdd, Nat.reduceSub, aom, aoh, aog, aof, aN, ↓ac9, ↓cW, ↓dH, ↓qD, ↓bU, cO, Nat.reduceLeDiff, an6, an5, cC, ↓Za, ↓Um, ↓QG, ↓bj, an3, aM, iG, cA, lz, Option.map_some, aQ, true_and]
 refine Xu (fun pre fr h' => h' = h ∧ ∃ x3, fr = [some (.ref z), some (.int (n : Int)), some (.nl (((cI pre).map jM).map yP)), x3, none, none]) (fun pre fr h' i => by rw [i.1]; exact hz) ⟨rfl, none, rfl⟩ ?_ ?_
 · rintro pre a suf fr h' e ⟨rfl, x3, rfl⟩
   have a4 := c4 a (by rw [e]; simp)
   have w := Yw (h := h') a4
   have wf : (D.nl [.int a.born, .int (a.counts.length : Int), .fl (a.cuts.map .int), .fl (a.gone.map .int), .fl ((BX a.counts).map .int)]).fz = yP (jM a) := rfl
   have ni := af3 (h := h') Em.wl (WQ (jM a)) (R5 Em.wl WQ h' ((cI pre).map jM)) trivial (fun _ _ => trivial) (by decide)
   have no : a.d.own = false := rfl
   have pl : (((cI pre).map jM).map yP).length < 100000 := by
    have := congrArg aov e
    rw [an9] at this
    have := IW pre
    rw [an2, an2]
    omega
   generalize D.nl [.int a.born, .int (a.counts.length : Int), .fl (a.cuts.map .int), .fl (a.gone.map .int), .fl ((BX a.counts).map .int)] = WN at *
   by_cases q : bz a ∈ (cI pre).map bz
   · have q' := (aba a4).mpr q
     have ni := ni.trans (show _ = some false by rw [decide_eq_true q']; rfl)
     have rp : cI (pre ++ [a]) = cI pre := by rw [pO, if_pos q]
     generalize yP (jM a) = WL at *
     generalize a.d = LD at *
     simp only [↓cJ, an6, an5, aN, ↓Oa, ↓eV, ↓cZ, ↓fQ, ↓fM, ↓cU, ↓bj, an7, an3, an4, aM, no, cA, ↓bU, an8, Nat.zero_add, fO, aob, w, ↓cH, ↓cY, wf, ni, aQ, ↓dF, jk, rp, true_and]
     exact ⟨_, rfl⟩
   · have q' : ¬ jM a ∈ (cI pre).map jM := fun e => q ((aba a4).mp e)
     have ni := ni.trans (show _ = some true by rw [decide_eq_false q']; rfl)
     have rp : cI (pre ++ [a]) = cI pre ++ [a] := by rw [pO, if_neg q]
     have fin : ((cI pre).map jM).map yP ++ [yP (jM a)] = ((cI pre ++ [a]).map jM).map yP := by rw [aol, aol]; rfl
     generalize yP (jM a) = WL at *
     generalize a.d = LD at *
     simp only [↓cJ, an6, an5, aN, ↓Oa, ↓eV, ↓cZ, ↓fQ, ↓fM, ↓cU, ↓bj, an7, an3, an4, aM, no, cA, ↓bU, an8, Nat.zero_add, fO, aob, w, ↓cH, ↓cY, wf, ni, aQ, fD, ↓pX, ↓qX, ↓vp, lY, pY, cO, tX, jk, rp, true_and]
     exact ⟨pl, _, by rw [fin]⟩
 · rintro fr h' ⟨rfl, x3, rfl⟩
   simp only [cC, ↓Y9, ↓cW, ↓dH, ↓qD, ↓bU, an8, cO, Nat.reduceLeDiff, an6, an5, aN, ↓Y8, ↓tO, ↓oN, ↓bj, an7, an3, aM, Ff, fD, vY, vq, aQ, true_and]
   rw [aoj]
   refine yc (fun pre fr h1 => ∃ x3 x5, fr = [some (.ref z), some (.int (n : Int)), some (.fl ((cI ls).map (yP ∘ jM))), x3, some (.nl ((pre.map fun r => joinL n r (fZ ls r)).map Lv.d)), x5] ∧ h1 = h') ⟨_, _, rfl, rfl⟩ ?_ ?_
   · rintro pre r suf fr h1 e ⟨x3, x5, rfl, rfl⟩
     have hr : r ∈ cI ls := by rw [e]; simp
     have lc := fun x0 x1 x2 x4 => abb hz c4 (r := r) (x0 := x0) (x1 := x1) (x2 := x2) (x4 := x4) ls fun l hl => hl
     have ad := adm (h := h1) (LQ ho hl hr) h2 h4 (UT ls r hr)
     have jo : (joinL n r (fZ ls r)).d.own = false := rfl
     have jf : (joinL n r (fZ ls r)).d.fz = (joinL n r (fZ ls r)).d := rfl
     have pl : ((pre.map fun r => joinL n r (fZ ls r)).map Lv.d).length < 100000 := by
      have := congrArg aov e
      rw [an9] at this
      rw [an2, an2]
      omega
     have fin : ((pre ++ [r]).map fun r => joinL n r (fZ ls r)).map Lv.d = (pre.map fun r => joinL n r (fZ ls r)).map Lv.d ++ [(joinL n r (fZ ls r)).d] := by rw [aol, aol]; rfl
     rw [show (yP ∘ jM) r = yP (jM r) from rfl]
     generalize yP (jM r) = WR at *
     generalize (joinL n r (fZ ls r)).d = JD at *
     simp only [↓cJ, an6, an5, aN, ↓Y7, ↓pX, ↓qX, ↓vp, an7, an3, aM, lY, aQ, ↓fQ, ↓fM, ↓cU, ↓aet, ↓QG, ↓bj, an4, iG, cA, lz, Option.map_some, cO, bl, cG, cV, lc, ↓cH, bZ, ↓bU, an8, Nat.zero_add, Nat.reduceAdd, vY, fO, aob, ad, jf, pY, tX, jk, and_true, true_and]
     exact ⟨pl, _, _, by rw [fin]⟩
   · rintro fr h1 ⟨x3, x5, rfl, rfl⟩
     simp only [cC, ↓dY, ↓G3, an7, an3, an6, an5, aM, aN, dX, and_self]
end
end L
namespace L
open PySem PySem.Spec L2 Pk
theorem acC (n : Nat) : gH 0 n = (aoe n).map fun (k : Nat) => D.int (k : Int) := by unfold gH; simp only [Int.zero_add]
theorem acD (n : Nat) : (gH 0 n).length = n := by rw [acC, an2, aoy]
theorem agp {α : Type} {f : Nat → α} {n k : Nat} (h : k < n) : ((aoe n).map f)[k]? = some (f k) := by
 rw [aos, List.getElem?_range h]; rfl
theorem ajN {f : Nat → Int} {n k : Nat} (h : k < n) : atI (((aoe n).map f).map D.int) (k : Int) = some (.int (f k)) := by
 rw [Bl, aos, agp h]; rfl
def Ri (n : Nat) (l : Lv) : List Int := (aoe n).map fun (k : Nat) => Og l k
theorem acE {α : Type} (xs : List α) (f : α → Int) : (xs.map fun a => D.int (f a)) = (xs.map f).map .int := by rw [aoj]; rfl
theorem ajO {mt : Nat → Option Fn} {h : Hh} {size : Int} {l : Lv} : fnOf mt h (l.i size) = mt 0 := rfl
theorem WY {size : Int} {N : Nat} {l : Lv} (o : l.okN N size) (h4 : size ≤ 4) : l.ends.length ≤ 100 := by
 have a := o.sub.length_le
 have := o.g.cl
 have := o.fit
 have := o.b0
 have : (if l.born + (l.counts.length : Int) < size then [l.born + (l.counts.length : Int) - 1] else []).length ≤ 1 := by split <;> simp
 rw [an2, an9] at a
 omega
theorem agq {h : Hh} {size : Int} {N : Nat} {l : Lv} (o : l.okN N size) (h2 : 2 ≤ size) (h4 : size ≤ 4) : ju [l.i size] h = .ok (.tup ((Ri (size - 1).toNat l).map .int)) [] h := by
 have e := abQ (h := h) o (WY o h4) h2 h4
 have : ((aoe (size - 1).toNat).map fun (k : Nat) => 0 + (k : Int)).map (Iz l.born l.counts l.cuts l.ends) = Ri (size - 1).toNat l := by
  unfold Ri Og
  rw [aoj]
  simp only [Function.comp_def, Int.zero_add]
 rw [this] at e
 exact e
theorem hev {h : Hh} {size : Int} {N : Nat} {ls : List Lv} (ho : ∀ l ∈ ls, l.okN N size) (hl : ls.length ≤ 100) (h2 : 2 ≤ size) (h4 : size ≤ 4) :
 nM [.obj 1 [.int size, .tup (ls.map (Lv.i size))]] h = .ok (.tup (((aoe (size - 1).toNat).map (Oh ls)).map .int)) [] h := by
 have l1 := wH (vs := [2]) (g := mK) (t := mO) (e := mQ) (fr := [some (.obj 1 [.int size, .tup (ls.map (Lv.i size))]), none, none, none, none]) (h := h) (F := Lv.i size) (G := fun l => .tup ((Ri (size - 1).toNat l).map .int)) (xs := ls) (fun l hm => by
  have := agq (h := h) (ho l hm) h2 h4
  simp only [↓jU, ↓Nb, ↓cJ, an6, an5, aN, ↓Nh, ↓dF, fD, ↓Nk, ↓fQ, ↓G4, ↓bj, an7, an3, aM, Lv.own_i, ajO, cA, Ji, aQ, this, ↓cH, cG, cV, aaC, and_self])
 have hm1 : (ls.map (Lv.i size)).length ≤ 100000 := by rw [an2]; omega
 have hm2 : (gH 0 (size - 1).toNat).length ≤ 100000 := by rw [acD]; omega
 have sm : nW (size - 1) = true := Fg (by omega) (by omega)
 have hR : (ls.map fun l => D.tup ((Ri (size - 1).toNat l).map .int)).length ≤ 100000 := by rw [an2]; omega
 have l2 : ∀ k < (size - 1).toNat, jA [4] mU mV mW (ls.map fun l => D.tup ((Ri (size - 1).toNat l).map .int)) [some (.obj 1 [.int size, .tup (ls.map (Lv.i size))]), some (.fl (ls.map fun l => D.tup ((Ri (size - 1).toNat l).map .int))), none, some (.int (k : Int)), none] h = .ok ((ls.map fun l => Og l k).map .int) [some (.obj 1 [.int size, .tup (ls.map (Lv.i size))]), some (.fl (ls.map fun l => D.tup ((Ri (size - 1).toNat l).map .int))), none, some (.int (k : Int)), none] h := fun k hk => by
  rw [← acE ls fun l => Og l k]
  exact wH (fun l hm => by
   have := ajN (f := fun (k : Nat) => Og l k) hk
   simp only [↓jU, ↓Nm, ↓cJ, Ri, an6, an5, aN, ↓Np, ↓dF, fD, ↓Nr, ↓tM, an7, an3, aM, ↓bj, bZ, cA, xZ, this, aQ, cG, cV, and_self])
 have l3 := afX (vs := [3]) (g := mX) (t := mY) (e := mZ) (fr := [some (.obj 1 [.int size, .tup (ls.map (Lv.i size))]), some (.nl (ls.map fun l => D.tup ((Ri (size - 1).toNat l).map .int))), none, none, none]) (fr' := [some (.obj 1 [.int size, .tup (ls.map (Lv.i size))]), some (.fl (ls.map fun l => D.tup ((Ri (size - 1).toNat l).map .int))), none, none, none]) (h := h) (F := fun (k : Nat) => D.int (k : Int)) (G := fun (k : Nat) => .int (Oh ls k)) (xs := aoe (size - 1).toNat) (by
  intro z
  have := congrArg aov z
  simp only [aoy, an8] at this
  omega) (fun k hk => by simp only [↓jU, ↓BK, ↓cJ, an6, an5, Oh, aN, ↓BL, ↓dF, fD, ↓BP, ↓d7, ↓tY, ↓oN, ↓bj, an7, an3, aM, Ff, vY, vq, aQ, cO, hR, cG, cV, l2 k (List.mem_range.mp hk), ↓cH, zg, and_self]) (fun k hk => by simp only [↓jU, ↓BK, ↓cJ, an6, an5, Oh, aN, ↓BL, ↓dF, fD, ↓BP, ↓d7, ↓tY, ↓oN, ↓bj, an7, an3, aM, xY, cA, vq, aQ, cO, hR, cG, cV, l2 k (List.mem_range.mp hk), ↓cH, zg, and_self])
 rw [← acC, acE] at l3
 apply Wp.eq
 simp only [↓Q7, ↓du, startF, an1, aoa, an4, an8, Nat.zero_add, Nat.reduceSub, aom, aoh, aog, aof, aN, ↓SQ, ↓cW, ↓dH, ↓tY, ↓oN, ↓d7, ↓cY, an3, aM, eZ, lg, aQ, an7, oG, cO, hm1, cG, cV, an6, an5, l1, ↓cH, cC, ↓dY, ↓Dd, ↓cZ, Vw, m9, ↓gQ, zf, Jw, sm, ↓reduceIte, hm2, l3, QD, aaD, Option.map_some, dX, and_self]
theorem aim {n N : Nat} {ls : List Lv} (ho : ∀ l ∈ ls, l.okN N (n : Int)) (hl : ls.length ≤ 16) : (aoe ((n : Int) - 1).toNat).map (Oh (jD n ls)) = (aoe ((n : Int) - 1).toNat).map (Oh ls) := by
 refine aoz fun k hk => ?_
 have := List.mem_range.mp hk
 exact aij ho hl (by omega)
end L
namespace L
open PySem PySem.Spec L2 Pk
section
variable {h : Hh} {n N z : Nat} {ls : List Lv}
theorem ajP (hz : h[z]? = some (.nl (ls.map Lv.d))) (ho : ∀ l ∈ ls, l.okN N (n : Int)) (hl : ls.length ≤ 16) (h2 : 2 ≤ n) (h4 : n ≤ 4) {x0 x1 x2 x5 x6 x7 x8 : Option D} :
 ∃ y7 y8 h', wM [x0, x1, x2, some (.int (n : Int)), some (.ref z), x5, x6, x7, x8] h = .ok .nx [x0, x1, x2, some (.int (n : Int)), some (.ref z), x5, x6, some y7, some y8] h' := by
 have zl := (List.getElem?_eq_some_iff.mp hz).1
 have lh := aeZ hz ho (by omega) h2 h4
 have g1 := Oi (h := h) ho hl h2 h4
 have hz1 : ∀ A B : List D, ((h ++ A) ++ B)[z]? = some (.nl (ls.map Lv.d)) := fun A B => by
  rw [aoA, aox zl]
  exact hz
 have go := aig ho hl
 have gl : (jD n ls).length ≤ 16 := Nat.le_trans aa6 hl
 have d1 := ago (hz1 (HH n ls) ((cI ls).map (XX ls))) ho hl h2 h4
 have a1 := aa9 (h := (h ++ HH n ls) ++ (cI ls).map (XX ls)) (z := z) (X := .fl ((jD n ls).map Lv.d)) (.inl rfl) go (by omega) h2 h4
 have a2 := aa9 (h := (h ++ HH n ls) ++ (cI ls).map (XX ls)) (z := z) (X := .ref z) (.inr ⟨rfl, hz1 _ _⟩) ho (by omega) h2 h4
 have g2 := Oi (h := (h ++ HH n ls) ++ (cI ls).map (XX ls)) go gl h2 h4
 rw [aeT ho hl h4] at g2
 generalize ((h ++ HH n ls) ++ (cI ls).map (XX ls)) = H1 at *
 generalize ((H1 ++ HH n (jD n ls)) ++ (cI (jD n ls)).map (XX (jD n ls))) = H2 at *
 have e1 := heq (h := H2) (size := (n : Int)) (wide := (n : Int)) (ls := jD n ls) (ms := jD n ls)
 rw [decide_eq_true rfl, decide_eq_true rfl, Bool.true_and] at e1
 have v1 := hev (h := H2) (size := (n : Int)) go (by omega) (by omega) (by omega)
 have v2 := hev (h := H2) (size := (n : Int)) ho (by omega) (by omega) (by omega)
 rw [aim ho hl] at v1
 have ne : fL H2 (.tup (((aoe ((n : Int) - 1).toNat).map (Oh ls)).map .int)) (.tup (((aoe ((n : Int) - 1).toNat).map (Oh ls)).map .int)) = some true := by
  rw [acp, decide_eq_true rfl]
 unfold hD at *
 generalize ((aoe ((n : Int) - 1).toNat).map (Oh ls)).map D.int = EV at *
 generalize (jD n ls).map (Lv.i (n : Int)) = GI at *
 generalize (jD n ls).map Lv.d = GD at *
 generalize ls.map (Lv.i (n : Int)) = LI at *
 refine ⟨.obj 1 [.int (n : Int), .tup LI], .obj 1 [.int (n : Int), .tup GI], H2, ?_⟩
 apply Wp.eq
 simp only [↓abF, ↓cW, ↓dH, ↓fM, ↓cU, ↓bj, an7, an3, an6, an5, an4, aM, iG, cA, bZ, ↓bU, an8, Nat.zero_add, Nat.reduceAdd, fO, aob, lh, ↓cH, aN, cC, ↓abE, ↓Xp, aek, fD, ac2, vZ, Iw, aQ, g1, ↓abD, ↓eV, ↓Bh, ↓pC, ↓d7, ↓fQ, d1, vY, a1, vz, Bool.not_true, lG, a2, ↓dF, ↓aaI, g2, ↓aes, acu, Option.isSome_none, aaJ, Option.isSome_some, Bool.or_true, KC, e1, Ea, ↓cZ, ↓G4, Kz, v1, v2, aaC, Vz, ne, Option.map_some, and_self]
end
end L
namespace L
open PySem PySem.Spec L2 Pk
structure NT (n : Nat) (h h' : Hh) : Prop where
 len : h'.length = h.length
 at_ : ∀ k, k ≠ n → h'[k]? = h[k]?
theorem NT.refl (n : Nat) (h : Hh) : NT n h h := ⟨rfl, fun _ _ => rfl⟩
theorem NT.trans {n : Nat} {h h' h2 : Hh} (a : NT n h h') (b : NT n h' h2) : NT n h h2 := ⟨b.len.trans a.len, fun k hk => (b.at_ k hk).trans (a.at_ k hk)⟩
theorem ajQ {n : Nat} {h : Hh} (x : D) : NT n h (h.set n x) := ⟨aou, fun k hk => aoq (Ne.symm hk)⟩
def jE (hB h : Hh) (n : Nat) (C : Int) : Prop := Src h n C ∧ NT n hB h
theorem jE.up {hB h : Hh} {n : Nat} {C C' : Int} (S : jE hB h n C) (hC : C ≤ C') : jE hB h n C' := ⟨S.1.up hC, S.2⟩
theorem Src.u {h : Hh} {n : Nat} {C : Int} (S : Src h n C) : jE h h n C := ⟨S, NT.refl n h⟩
theorem gj {hB : Hh} {h : Hh} {n : Nat} {C m : Int} (S : jE hB h n C) (hC : C ≤ 100000) (hm : 0 < m) (hl : m < 2 ^ 200) :
 ∃ r h', bV [.ref n, .int m] h = .ok (.int r) [] h' ∧ jE hB h' n (C + 1) ∧ 0 ≤ r ∧ r < m := by
 obtain ⟨⟨a, b, c, e, b0, b1, c0, c1⟩, U⟩ := S
 have hn : n < h.length := (List.getElem?_eq_some_iff.mp e).1
 have hml : m.natAbs.log2 < 9000 := by
  refine Nat.lt_of_lt_of_le (log2_lt (k := 200) ?_ (by decide)) (by decide)
  omega
 by_cases ha : 0 < a
 · refine ⟨a % m, h.set n (.nl [.int (a / m), .int b, .int c]), ?_, ⟨⟨a / m, b, c, by rw [aor hn], b0, b1, c0, by omega⟩, U.trans (ajQ _)⟩, Int.emod_nonneg _ (by omega), Int.emod_lt_of_pos _ hm⟩
   simp [bV, bO, Ec, Do, Dm, Dk, startF, az, bD, M.bind, M.ret, M.opt, aC, bM, iY, au, mC, bT, D.its, D.der, e, atI, ixN, cInt, ha, bA, aA, sH, aa, D.own, dU, ae2, hm, Vh, cR, Ml, acG, hml, aV, sG]
 · have z1 : (b + 32452843 * (c + 1)).natAbs < 2 ^ 64 := by omega
   generalize hx : (b + 32452843 * (c + 1)) ^ 3 % 2305843009213693921 = x
   have hx0 : 0 ≤ x := by rw [← hx]; exact Int.emod_nonneg _ (by decide)
   have hx1 : x < 2305843009213693921 := by rw [← hx]; exact Int.emod_lt_of_pos _ (by decide)
   have z2 : (x + 49979687 * (c + 1)).natAbs < 2 ^ 64 := by omega
   have l1 : (c + 1).natAbs.log2 < 64 := log2_lt (by omega) (by decide)
   have l2 : ((32452843 : Int)).natAbs.log2 < 64 := log2_lt (by decide) (by decide)
   have l3 : ((49979687 : Int)).natAbs.log2 < 64 := log2_lt (by decide) (by decide)
   have l4 : ((4096 : Int)).natAbs.log2 < 9000 := Nat.lt_trans (log2_lt (k := 64) (by decide) (by decide)) (by decide)
   have c1' : Tz 32452843 (c + 1) = true := decide_eq_true (by omega)
   have c2' : Tz 49979687 (c + 1) = true := decide_eq_true (by omega)
   have c3' : Pb (b + 32452843 * (c + 1)) 3 = true := by
    unfold Pb
    rw [decide_eq_true z1]
    rfl
   have c4' : Pb (x + 49979687 * (c + 1)) 2 = true := by
    unfold Pb
    rw [decide_eq_true z2]
    rfl
   have c5' : acG ((x + 49979687 * (c + 1)) ^ 2 % 2305843009213693951) 4096 = true := by
    unfold acG
    rw [decide_eq_true l4]
    rfl
   refine ⟨((x + 49979687 * (c + 1)) ^ 2 % 2305843009213693951) / 4096 % m, h.set n (.nl [.int a, .int b, .int (c + 1)]), ?_, ⟨⟨a, b, c + 1, by rw [aor hn], b0, b1, by omega, by omega⟩, U.trans (ajQ _)⟩, Int.emod_nonneg _ (by omega), Int.emod_lt_of_pos _ hm⟩
   have ha' : decide (0 < a) = false := decide_eq_false ha
   have e2 : ∀ v : D, (h.set n v)[n]? = some v := fun v => aor hn
   simp [bV, bO, Ec, Do, Dm, Dk, startF, az, bD, M.bind, M.ret, M.opt, aC, bM, iY, au, mC, bT, D.its, D.der, e, atI, ixN, cInt, ha', bA, aA, sH, aa, D.own, dU, Vh, cR, Ml, aV, sG, aX, D.fz, bR, e2, c1', c2', c3', c4', c5', Nv, hm, hx]
theorem agr {hB : Hh} {h : Hh} {n : Nat} {C : Int} {l : List D} (S : jE hB h n C) (hC : C ≤ 100000) (h0 : 0 < l.length) (hl : l.length ≤ 1000) :
 ∃ i d h', i < l.length ∧ l[i]? = some d ∧ nQ [.ref n, .fl l] h = .ok d [] h' ∧ jE hB h' n (C + 1) := by
 obtain ⟨r, h', e, S', r0, r1⟩ := gj (m := (l.length : Int)) S hC (by omega) (by omega)
 have hi : r.toNat < l.length := by omega
 refine ⟨r.toNat, l[r.toNat], h', hi, aoc hi, ?_, S'⟩
 have er : ((r.toNat : Nat) : Int) = r := Int.toNat_of_nonneg r0
 simp [nQ, bO, Aj, startF, aV, bM, iY, au, aX, aG, ak, M.bind, M.ret, M.opt, aa, D.own, D.fz, aA, bW, D.its, D.der, aD, e, bJ, bT, atI, ixN, r0, r1, hi]
theorem Ja {hB : Hh} {h : Hh} {n : Nat} {C : Int} (S : jE hB h n C) (hC : C ≤ 90000) : ∃ r h', qw [.ref n] h = .ok (.int r) [] h' ∧ jE hB h' n (C + 2) ∧ 0 ≤ r ∧ r < 2 ^ 198 := by
 obtain ⟨i, d, h1, hi, ed, e1, S1⟩ := agr (l := [.int 2, .int 2, .int 3, .int 3, .int 5, .int 100, .int (10 ^ 9), .int (10 ^ 30)]) S (by omega) (by decide) (by decide)
 have hd : ∃ m : Int, d = .int m ∧ 0 < m ∧ m < 2 ^ 198 := by
  have hm := aop ed
  simp only [List.mem_cons, List.not_mem_nil, or_false] at hm
  rcases hm with rfl | rfl | rfl | rfl | rfl | rfl | rfl | rfl <;> exact ⟨_, rfl, by decide, by decide⟩
 obtain ⟨m, rfl, m0, m1⟩ := hd
 obtain ⟨r, h2, e2, S2, r0, r1⟩ := gj S1 (by omega) m0 (by omega)
 refine ⟨r, h2, ?_, by rw [show C + 2 = C + 1 + 1 by omega]; exact S2, r0, by omega⟩
 have p9 : Pb 10 9 = true := by decide
 have p30 : Pb 10 30 = true := by decide
 have bg : 8 ≤ big := by decide
 simp only [Int.reducePow] at e1
 simp [qw, bO, Gg, startF, aV, aX, aG, ak, M.bind, M.ret, M.opt, aa, D.own, D.fz, fJ, mC, aC, dU, p9, p30, bg, aD, bJ, e1, e2]
theorem abd {hB : Hh} {n : Nat} {size born many : Int} : ∀ (m : Nat) (C : Int) (h : Hh) (counts cuts : List Int) (x8 : Option D), jE hB h n C → C + 3 * m ≤ 80000 → Grow born counts cuts → counts.length + m ≤ 100 →
 ∃ counts' cuts' x8' h', fB (aK 8) yF (gH counts.length m) [some (.ref n), some (.int size), some (.int born), some (.int many), some (.nl (cuts.map .int)), some (.nl []), some (.nl []), some (.nl (counts.map .int)), x8, none, none] h =
   .ok .nx [some (.ref n), some (.int size), some (.int born), some (.int many), some (.nl (cuts'.map .int)), some (.nl []), some (.nl []), some (.nl (counts'.map .int)), x8', none, none] h' ∧ jE hB h' n (C + 3 * m) ∧ Grow born counts' cuts' ∧ counts'.length = counts.length + m
 | 0, C, h, counts, cuts, x8, S, _, g, _ => ⟨counts, cuts, x8, h, rfl, by rw [show C + 3 * ((0 : Nat) : Int) = C by omega]; exact S, g, rfl⟩
 | m + 1, C, h, counts, cuts, x8, S, hC, g, hl => by
   have hcl := g.cl
   obtain ⟨r, h1, e1, S1, r0, r1⟩ := gj (m := 3) S (by omega) (by decide) (by decide)
   obtain ⟨z, h2, e2, S2, z0, z9⟩ := Ja S1 (by omega)
   have hc : counts.length < big := vL (by omega)
   have hk : cuts.length < big := vL (by omega)
   by_cases hr : r = 0
   · subst hr
     obtain ⟨counts', cuts', x8', h', e3, S3, g3, l3⟩ := abd m (C + 3) h2 (counts ++ [z]) (cuts ++ [born + counts.length - 1]) (some (.int counts.length)) (by rw [show C + 3 = C + 1 + 2 by omega]; exact S2) (by omega) (agc g z0 z9) (by rw [an9, aoo]; omega)
     refine ⟨counts', cuts', x8', h', ?_, by rw [show C + 3 * ((m + 1 : Nat) : Int) = C + 3 + 3 * (m : Int) by omega]; exact S3, g3, by rw [l3, an9, aoo]; omega⟩
     rw [Ao, ← e3]
     have el : (((counts ++ [z]).length : Nat) : Int) = (counts.length : Int) + 1 := by rw [an9, aoo]; omega
     rw [el]
     simp [fB, aK, yF, bD, az, eE, fH, cR, oM, uZ, aC, aX, aG, ak, M.bind, M.ret, M.opt, aa, D.own, D.fz, mC, aD, bJ, e1, oJ, bR, dU, ie, e2, hc, hk]
   · have ht : counts[counts.length - 1]? = some counts[counts.length - 1] := aoc (by omega)
     generalize counts[counts.length - 1] = t at ht
     have hb : ∀ h : Hh, bT h (.nl (counts.map .int)) (.int (-1)) = some (.int t) := fun h => Q8 ht
     have hr' : (r == 0) = false := beq_eq_false_iff_ne.mpr hr
     obtain ⟨counts', cuts', x8', h', e3, S3, g3, l3⟩ := abd m (C + 3) h2 (counts ++ [t + z]) cuts (some (.int counts.length)) (by rw [show C + 3 = C + 1 + 2 by omega]; exact S2) (by omega) (aib g ht z0 z9) (by rw [an9, aoo]; omega)
     refine ⟨counts', cuts', x8', h', ?_, by rw [show C + 3 * ((m + 1 : Nat) : Int) = C + 3 + 3 * (m : Int) by omega]; exact S3, g3, by rw [l3, an9, aoo]; omega⟩
     rw [Ao, ← e3]
     have el : (((counts ++ [t + z]).length : Nat) : Int) = (counts.length : Int) + 1 := by rw [an9, aoo]; omega
     rw [el]
     simp [fB, aK, yF, bD, az, eE, fH, cR, oM, uZ, aC, aX, aG, ak, M.bind, M.ret, M.opt, aa, D.own, D.fz, mC, aD, bJ, e1, oJ, hr', bR, dU, ie, e2, hc, hk, bM, iY, au, aA, Cv, hb]
theorem abe {hB : Hh} {n : Nat} {size born many : Int} {a b c d y : Option D} : ∀ (gaps : List Int) (C : Int) (h : Hh) (ends : List (Int × Int)) (x10 : Option D), jE hB h n C → C + 4 * gaps.length ≤ 80000 → ends.length + gaps.length ≤ 200 →
 ∃ ends' x10' h', fB (aK 10) yG (gaps.map .int) [some (.ref n), some (.int size), some (.int born), some (.int many), a, some (.nl (ends.map pairD)), b, c, d, y, x10] h =
   .ok .nx [some (.ref n), some (.int size), some (.int born), some (.int many), a, some (.nl ((ends ++ ends').map pairD)), b, c, d, y, x10'] h' ∧ jE hB h' n (C + 4 * gaps.length) ∧ (ends'.map (·.1)).Sublist gaps ∧ ∀ p ∈ ends', 1 ≤ p.2 ∧ p.2 ≤ 2 ^ 198
 | [], C, h, ends, x10, S, _, _ => ⟨[], x10, h, by rw [aob]; rfl, by rw [show C + 4 * (([] : List Int).length : Int) = C by simp]; exact S, List.Sublist.slnil, by simp⟩
 | g :: gaps, C, h, ends, x10, S, hC, hl => by
   rw [an4] at hC hl
   obtain ⟨r, h1, e1, S1, r0, r1⟩ := gj (m := 2) S (by omega) (by decide) (by decide)
   have hk : ends.length < big := vL (by omega)
   by_cases hr : r = 0
   · subst hr
     obtain ⟨z, h2, e2, S2, z0, z9⟩ := Ja S1 (by omega)
     obtain ⟨ends', x10', h', e3, S3, sub, p3⟩ := abe gaps (C + 4) h2 (ends ++ [(g, 1 + z)]) (some (.int g)) (S2.up (by omega)) (by omega) (by rw [an9, aoo]; omega)
     refine ⟨(g, 1 + z) :: ends', x10', h', ?_, by rw [an4, show C + 4 * ((gaps.length + 1 : Nat) : Int) = C + 4 + 4 * (gaps.length : Int) by omega]; exact S3, sub.cons_cons g, fun p hp => ?_⟩
     · have e4 : ends ++ (g, 1 + z) :: ends' = ends ++ [(g, 1 + z)] ++ ends' := by simp
       rw [e4, ← e3]
       have b2 : 2 ≤ big := by decide
       simp [fB, aK, yG, bD, az, eE, fH, cR, oM, uZ, aC, aX, aG, ak, M.bind, M.ret, M.opt, aa, D.own, D.fz, mC, aD, bJ, e1, oJ, bR, e2, hk, ig, b2, pairD]
     · rcases List.mem_cons.mp hp with q | q
       · rw [q]
         show 1 ≤ 1 + z ∧ 1 + z ≤ 2 ^ 198
         omega
       · exact p3 p q
   · have hr' : (r == 0) = false := beq_eq_false_iff_ne.mpr hr
     obtain ⟨ends', x10', h', e3, S3, sub, p3⟩ := abe gaps (C + 4) h1 ends (some (.int g)) (S1.up (by omega)) (by omega) (by omega)
     refine ⟨ends', x10', h', ?_, by rw [an4, show C + 4 * ((gaps.length + 1 : Nat) : Int) = C + 4 + 4 * (gaps.length : Int) by omega]; exact S3, sub.cons g, p3⟩
     rw [← e3]
     simp [fB, aK, yG, bD, az, eE, aC, aX, aG, ak, M.bind, M.ret, M.opt, aa, D.own, D.fz, mC, aD, bJ, e1, oJ, hr']
theorem abf {hB : Hh} {n : Nat} {size born many : Int} {a b c x9 x10 : Option D} : ∀ (m : Nat) (lo : Int) (C : Int) (h : Hh) (gone : List Int) (x8 : Option D), jE hB h n C → C + m ≤ 80000 → gone.length + m ≤ 200 →
 ∃ gone' x8' h', fB (aK 8) yH (gH lo m) [some (.ref n), some (.int size), some (.int born), some (.int many), a, b, some (.nl (gone.map .int)), c, x8, x9, x10] h =
   .ok .nx [some (.ref n), some (.int size), some (.int born), some (.int many), a, b, some (.nl ((gone ++ gone').map .int)), c, x8', x9, x10] h' ∧ jE hB h' n (C + m) ∧ gone'.Pairwise (· < ·) ∧ ∀ x ∈ gone', lo ≤ x ∧ x < lo + m
 | 0, lo, C, h, gone, x8, S, _, _ => ⟨[], x8, h, by rw [aob]; rfl, by rw [show C + ((0 : Nat) : Int) = C by omega]; exact S, List.Pairwise.nil, by simp⟩
 | m + 1, lo, C, h, gone, x8, S, hC, hl => by
   obtain ⟨r, h1, e1, S1, r0, r1⟩ := gj (m := 4) S (by omega) (by decide) (by decide)
   have hk : gone.length < big := vL (by omega)
   by_cases hr : r = 0
   · subst hr
     obtain ⟨gone', x8', h', e3, S3, as, p3⟩ := abf m (lo + 1) (C + 1) h1 (gone ++ [lo]) (some (.int lo)) S1 (by omega) (by rw [an9, aoo]; omega)
     refine ⟨lo :: gone', x8', h', ?_, by rw [show C + ((m + 1 : Nat) : Int) = C + 1 + (m : Int) by omega]; exact S3, List.Pairwise.cons (fun x hx => by have := p3 x hx; omega) as, fun x hx => ?_⟩
     · have e4 : gone ++ lo :: gone' = gone ++ [lo] ++ gone' := by simp
       rw [e4, ← e3, Ao]
       simp [fB, aK, yH, bD, az, eE, fH, cR, oM, uZ, aC, aX, aG, ak, M.bind, M.ret, M.opt, aa, D.own, D.fz, mC, aD, bJ, e1, oJ, hk]
     · rcases List.mem_cons.mp hx with q | q
       · omega
       · have := p3 x q
         omega
   · have hr' : (r == 0) = false := beq_eq_false_iff_ne.mpr hr
     obtain ⟨gone', x8', h', e3, S3, as, p3⟩ := abf m (lo + 1) (C + 1) h1 gone (some (.int lo)) S1 (by omega) (by omega)
     refine ⟨gone', x8', h', ?_, by rw [show C + ((m + 1 : Nat) : Int) = C + 1 + (m : Int) by omega]; exact S3, as, fun x hx => by have := p3 x hx; omega⟩
     rw [← e3, Ao]
     simp [fB, aK, yH, bD, az, eE, aC, aX, aG, ak, M.bind, M.ret, M.opt, aa, D.own, D.fz, mC, aD, bJ, e1, oJ, hr']
theorem ags {hB : Hh} {n : Nat} {size born : Int} {counts cuts : List Int} {ends : List (Int × Int)} {q : D} {C : Int} {h : Hh} {x8 x9 x10 : Option D} (hq : q = .nl (cuts.map .int) ∨ q = .fl (cuts.map .int)) (S : jE hB h n C) (hC : C ≤ 51000) (b0 : 0 ≤ born) (b1 : born ≤ 10) (hl : counts.length ≤ 10) :
 ∃ gone fr' h', yI [some (.ref n), some (.int size), some (.int born), some (.int counts.length), some q, some (.nl (ends.map pairD)), some (.nl []), some (.nl (counts.map .int)), x8, x9, x10] h = .ok (.rt (sS born counts cuts ends gone)) fr' h' ∧
   jE hB h' n (C + counts.length) ∧ gone.Pairwise (· < ·) ∧ ∀ x ∈ gone, born ≤ x ∧ x < born + counts.length := by
 obtain ⟨gone, x8', h', e, S', as, p⟩ := abf (n := n) (size := size) (born := born) (many := counts.length) (a := some q) (b := some (.nl (ends.map pairD))) (c := some (.nl (counts.map .int))) (x9 := x9) (x10 := x10) counts.length born C h [] x8 S (by omega) (by simp; omega)
 have s1 : nW born = true := vM (by omega) (by omega)
 have s2 : nW (born + counts.length) = true := vM (by omega) (by omega)
 have e5 : (born + (counts.length : Int) - born).toNat = counts.length := by omega
 simp only [aoa, aof] at e
 have b5 : 5 ≤ big := by decide
 rcases hq with rfl | rfl
 · refine ⟨gone, [some (.ref n), some (.int size), some (.int born), some (.int counts.length), some (.fl (cuts.map .int)), some (.fl (ends.map pairD)), some (.fl (gone.map .int)), some (.fl (counts.map .int)), x8', x9, x10], h', ?_, S', as, p⟩
   simp [yI, az, dJ, DK, aa, M.bind, M.ret, M.opt, aX, aC, bR, D.own, D.fz, s1, s2, e5, e, aV, ig, ak, sS, b5]
 · refine ⟨gone, [some (.ref n), some (.int size), some (.int born), some (.int counts.length), some (.fl (cuts.map .int)), some (.fl (ends.map pairD)), some (.fl (gone.map .int)), some (.fl (counts.map .int)), x8', x9, x10], h', ?_, S', as, p⟩
   simp [yI, az, dJ, DK, aa, M.bind, M.ret, M.opt, aX, aC, bR, D.own, D.fz, s1, s2, e5, e, aV, ig, ak, sS, b5]
theorem abg {hB : Hh} {n : Nat} {size born : Int} {counts cuts gaps : List Int} {q : D} {C : Int} {h : Hh} {x8 x10 : Option D} (hq : q = .nl (cuts.map .int) ∨ q = .fl (cuts.map .int)) (S : jE hB h n C) (hC : C ≤ 50500) (b0 : 0 ≤ born) (b1 : born ≤ 10) (hl : counts.length ≤ 10) (hg : gaps.length ≤ 10) :
 ∃ ends gone fr' h', Ds [some (.ref n), some (.int size), some (.int born), some (.int counts.length), some q, some (.nl []), some (.nl []), some (.nl (counts.map .int)), x8, some (.nl (gaps.map .int)), x10] h = .ok (.rt (sS born counts cuts ends gone)) fr' h' ∧
   jE hB h' n (C + 50) ∧ (ends.map (·.1)).Sublist gaps ∧ (∀ p ∈ ends, 1 ≤ p.2 ∧ p.2 ≤ 2 ^ 198) ∧ gone.Pairwise (· < ·) ∧ ∀ x ∈ gone, born ≤ x ∧ x < born + counts.length := by
 obtain ⟨ends, x10', h1, e1, S1, sub, p1⟩ := abe (n := n) (size := size) (born := born) (many := counts.length) (a := some q) (b := some (.nl [])) (c := some (.nl (counts.map .int))) (d := x8) (y := some (.fl (gaps.map .int))) gaps C h [] x10 S (by omega) (by simp; omega)
 simp only [aoa, aof] at e1
 obtain ⟨gone, fr', h', e2, S2, as, p2⟩ := ags (n := n) (size := size) (born := born) (counts := counts) (cuts := cuts) (ends := ends) (q := q) (x8 := x8) (x9 := some (.fl (gaps.map .int))) (x10 := x10') hq S1 (by omega) b0 b1 hl
 refine ⟨ends, gone, fr', h', ?_, S2.up (by omega), sub, p1, as, p2⟩
 simp [Ds, az, dJ, iU, aa, M.bind, M.ret, M.opt, D.own, D.fz, D.its, D.der, e1, e2]
theorem agt {hB : Hh} {n : Nat} {size born : Int} {counts cuts : List Int} {C : Int} {h : Hh} {x8 x9 x10 : Option D} (S : jE hB h n C) (hC : C ≤ 50500) (b0 : 0 ≤ born) (b1 : born ≤ 10) (hl : counts.length ≤ 9) (hg : cuts.length ≤ 9) :
 ∃ ends gone fr' h', vG [some (.ref n), some (.int size), some (.int born), some (.int counts.length), some (.nl (cuts.map .int)), some (.nl []), some (.nl []), some (.nl (counts.map .int)), x8, x9, x10] h = .ok (.rt (sS born counts cuts ends gone)) fr' h' ∧
   jE hB h' n (C + 50) ∧ (ends.map (·.1)).Sublist (cuts ++ if born + counts.length < size then [born + counts.length - 1] else []) ∧ (∀ p ∈ ends, 1 ≤ p.2 ∧ p.2 ≤ 2 ^ 198) ∧ gone.Pairwise (· < ·) ∧ ∀ x ∈ gone, born ≤ x ∧ x < born + counts.length := by
 by_cases hs : born + counts.length < size
 · obtain ⟨ends, gone, fr', h', e, z⟩ := abg (n := n) (size := size) (born := born) (counts := counts) (cuts := cuts) (gaps := cuts ++ [born + counts.length - 1]) (q := .fl (cuts.map .int)) (x8 := x8) (x10 := x10) (.inr rfl) S hC b0 b1 (by omega) (by simp; omega)
   rw [if_pos hs]
   refine ⟨ends, gone, fr', h', ?_, z⟩
   have bg : (cuts.map D.int).length + 1 ≤ big := by
    rw [an2]
    exact Nat.le_of_lt (vL (by omega))
   have b1' : 1 ≤ big := by decide
   rw [aol, an1, aoa] at e
   rw [an2] at bg
   simp [vG, az, bA, Ad, aC, aX, bR, aa, M.bind, M.ret, M.opt, D.own, D.fz, cInt, hs, fJ, ak, dU, ie, mC, b1', bg, e]
 · obtain ⟨ends, gone, fr', h', e, z⟩ := abg (n := n) (size := size) (born := born) (counts := counts) (cuts := cuts) (gaps := cuts) (q := .nl (cuts.map .int)) (x8 := x8) (x10 := x10) (.inl rfl) S hC b0 b1 (by omega) (by omega)
   rw [if_neg hs, aob]
   refine ⟨ends, gone, fr', h', ?_, z⟩
   simp [vG, az, bA, Ad, aC, aX, bR, aa, au, aA, gh, D.its, D.der, M.bind, M.ret, M.opt, D.own, D.fz, cInt, hs, e]
theorem abh {hB : Hh} {n : Nat} {size born : Int} {k : Nat} {C : Int} {h : Hh} (S : jE hB h n C) (hC : C ≤ 50400) (b0 : 0 ≤ born) (b1 : born ≤ 10) (hk : k ≤ 8) (hf : born + (k + 1 : Nat) ≤ size) :
 ∃ counts cuts ends gone fr' h', yK [some (.ref n), some (.int size), some (.int born), some (.int (k + 1 : Nat)), some (.nl []), some (.nl []), some (.nl []), none, none, none, none] h = .ok (.rt (sS born counts cuts ends gone)) fr' h' ∧ jE hB h' n (C + 80) ∧ qN 198 size born counts cuts ends gone := by
 obtain ⟨z, h1, e1, S1, z0, z9⟩ := Ja S (by omega)
 have g1 : Grow born [z] [] := ⟨fun c hc => by rw [aot] at hc; omega, List.Pairwise.nil, fun x hx => (by cases hx), fun i a b ea eb => by
  have := (List.getElem?_eq_some_iff.mp eb).1
  simp at this, by simp, fun i c e => by
  have q := (List.getElem?_eq_some_iff.mp e).1
  have q0 : i = 0 := by simpa using q
  subst q0
  have e' : z = c := by simpa using e
  omega⟩
 obtain ⟨counts, cuts, x8, h2, e2, S2, g2, l2⟩ := abd (n := n) (size := size) (born := born) (many := (k + 1 : Nat)) k (C + 2) h1 [z] [] none S1 (by omega) g1 (by simp; omega)
 have lc : counts.length = k + 1 := by rw [l2, aoo]; omega
 have cl := g2.cl
 obtain ⟨ends, gone, fr', h', e3, S3, sub, p1, as, p2⟩ := agt (n := n) (size := size) (born := born) (counts := counts) (cuts := cuts) (x8 := x8) (x9 := none) (x10 := none) S2 (by omega) b0 b1 (by omega) (by omega)
 refine ⟨counts, cuts, ends, gone, fr', h', ?_, S3.up (by omega), ⟨b0, g2, by rw [lc]; exact hf, sub, p1, as, p2⟩⟩
 rw [lc] at e3
 have s1 : nW 1 = true := vM (by omega) (by omega)
 have s2 : nW ((k : Int) + 1) = true := vM (by omega) (by omega)
 have e5 : ((k : Int) + 1 - 1).toNat = k := by omega
 have b1' : 1 ≤ big := by decide
 simp only [aoo, an1, aoa, Int.natCast_one, Int.natCast_add] at e2 e3
 simp only [Int.natCast_add, Int.natCast_one]
 have st1 : yK [some (.ref n), some (.int size), some (.int born), some (.int ((k : Int) + 1)), some (.nl []), some (.nl []), some (.nl []), none, none, none, none] h =
  yJ [some (.ref n), some (.int size), some (.int born), some (.int ((k : Int) + 1)), some (.nl []), some (.nl []), some (.nl []), some (.nl [.int z]), none, none, none] h1 := by
  simp [yK, az, bA, fJ, ak, aX, aG, aa, D.own, D.fz, M.bind, M.ret, M.opt, aD, bJ, e1, b1']
 have st2 : yJ [some (.ref n), some (.int size), some (.int born), some (.int ((k : Int) + 1)), some (.nl []), some (.nl []), some (.nl []), some (.nl [.int z]), none, none, none] h1 =
  vG [some (.ref n), some (.int size), some (.int born), some (.int ((k : Int) + 1)), some (.nl (cuts.map .int)), some (.nl []), some (.nl []), some (.nl (counts.map .int)), x8, none, none] h2 := by
  have r : (DK (mC (.int 1)) (aa 3)) [some (.ref n), some (.int size), some (.int born), some (.int ((k : Int) + 1)), some (.nl []), some (.nl []), some (.nl []), some (.nl [.int z]), none, none, none] h1 = .ok (gH 1 k) [some (.ref n), some (.int size), some (.int born), some (.int ((k : Int) + 1)), some (.nl []), some (.nl []), some (.nl []), some (.nl [.int z]), none, none, none] h1 := by
   have q : (if nW 1 && nW ((k : Int) + 1) then some (gH 1 ((k : Int) + 1 - 1).toNat) else none) = some (gH 1 k) := by
    rw [s1, s2, e5]
    rfl
   unfold DK
   rw [M.bind_ok (show mC (.int 1) _ _ = .ok (.int 1) _ h1 from rfl), M.bind_ok (show aa 3 _ _ = .ok (.int ((k : Int) + 1)) _ h1 from rfl)]
   show M.opt (if nW 1 && nW ((k : Int) + 1) then some (gH 1 ((k : Int) + 1 - 1).toNat) else none) _ h1 = _
   rw [q]
   rfl
  unfold yJ az dJ
  rw [M.bind_ok ((M.bind_ok r).trans e2)]
 rw [st1, st2]
 exact e3
theorem Ze {hB : Hh} {n : Nat} {size : Int} {C : Int} {h : Hh} (S : jE hB h n C) (hC : C ≤ 50300) (h2 : 2 ≤ size) (h4 : size ≤ 4) :
 ∃ born counts cuts ends gone h', qP [.ref n, .int size] h = .ok (sS born counts cuts ends gone) [] h' ∧ jE hB h' n (C + 90) ∧ qN 198 size born counts cuts ends gone := by
 have b5 : 5 ≤ big := by decide
 have b0' : 0 ≤ big := by decide
 obtain ⟨r, h1, e1, S1, r0, r1⟩ := gj (m := 2) S (by omega) (by decide) (by decide)
 by_cases hr : r = 1
 · subst hr
   obtain ⟨born, h2', e2, S2, b0, b1⟩ := gj (m := size) S1 (by omega) (by omega) (by omega)
   obtain ⟨mm, h3, e3, S3, m0, m1⟩ := gj (m := size - born) S2 (by omega) (by omega) (by omega)
   obtain ⟨k, rfl⟩ := Int.eq_ofNat_of_zero_le m0
   obtain ⟨counts, cuts, ends, gone, fr', h', e4, S4, L4⟩ := abh (n := n) (size := size) (born := born) (k := k) S3 (by omega) b0 (by omega) (by omega) (by omega)
   refine ⟨born, counts, cuts, ends, gone, h', ?_, S4.up (by omega), L4⟩
   simp only [Int.natCast_add, Int.natCast_one] at e4
   have ec : (1 : Int) + (k : Int) = (k : Int) + 1 := by omega
   simp [qP, bO, Eh, Dt, startF, az, Zk, ak, mC, aa, D.own, D.fz, fJ, M.bind, M.ret, M.opt, Mj, b5, bD, aC, aX, aG, aD, bJ, e1, oJ, bA, e2, dU, ie, e3, bR, ec, e4]
 · have hr' : (r == 1) = false := beq_eq_false_iff_ne.mpr hr
   obtain ⟨k, hk⟩ := Int.eq_ofNat_of_zero_le (show 0 ≤ size - 1 by omega)
   have hz : size = ((k + 1 : Nat) : Int) := by omega
   obtain ⟨counts, cuts, ends, gone, fr', h', e4, S4, L4⟩ := abh (n := n) (size := size) (born := 0) (k := k) S1 (by omega) (by omega) (by omega) (by omega) (by omega)
   refine ⟨0, counts, cuts, ends, gone, h', ?_, S4.up (by omega), L4⟩
   rw [← hz] at e4
   simp [qP, bO, Eh, Dt, startF, az, Zk, ak, mC, aa, D.own, D.fz, fJ, M.bind, M.ret, M.opt, Mj, b5, bD, aC, aX, aG, aD, bJ, e1, oJ, hr', e4]
theorem adn {hB : Hh} {n : Nat} {size : Int} {C : Int} {h : Hh} (S : jE hB h n C) (hC : C ≤ 50300) (h2 : 2 ≤ size) (h4 : size ≤ 4) :
 ∃ born counts cuts ends gone h', qP [.ref n, .int size] h = .ok (sS born counts cuts ends gone) [] h' ∧ jE hB h' n (C + 90) ∧ Life size born counts cuts ends gone := by
 obtain ⟨born, counts, cuts, ends, gone, h', e, S', l⟩ := Ze S hC h2 h4
 exact ⟨born, counts, cuts, ends, gone, h', e, S', l.up (by decide)⟩
end L
namespace L
open PySem PySem.Spec L2 Pk
section
variable {h : Hh} {n N s z : Nat} {l : Lv} {C : Int}
theorem ain {L : List D} (S : Src h s C) (hC : C ≤ 100000) (hsz : z ≠ s) (hz : h[z]? = some (.nl L)) (h0 : 0 < L.length) (hl : L.length ≤ 1000) :
 ∃ (i : Nat) (d : D) (h' : Hh), L[i]? = some d ∧ nQ [.ref s, .ref z] h = .ok d [] h' ∧ jE h h' s (C + 1) := by
 obtain ⟨r, h', e, S', r0, r1⟩ := gj (m := (L.length : Int)) S.u hC (by omega) (by omega)
 have hi : r.toNat < L.length := by omega
 have hz' : h'[z]? = some (.nl L) := (S'.2.at_ z hsz).trans hz
 refine ⟨r.toNat, L[r.toNat], h', aoc hi, ?_, S'⟩
 have ln : bW h (.ref z) = some (.int (L.length : Int)) := by
  unfold bW
  dsimp only
  rw [Xq hz]
  rfl
 have bi : bT h' (.ref z) (.int r) = some L[r.toNat] := by
  rw [Ul hz', ael r0, aoc hi]
 generalize L[r.toNat] = dd at *
 apply Wp.eq
 simp only [↓ada, ↓du, startF, an1, aoa, an4, an8, Nat.zero_add, Nat.reduceAdd, Nat.reduceSub, aoh, aob, aN, ↓aeD, ↓dY, ↓tM, an7, an3, aM, ↓fQ, ↓fM, ↓cU, ↓bj, an5, iG, cA, ↓d7, ↓cY, ln, aQ, ↓bU, fO, e, ↓cH, tZ, bi, dX, and_self]
def yq (l : Lv) (b : Int) : Lv := ⟨l.born, l.counts.map (· * b), l.cuts, l.ends.map fun p => (p.1, p.2 * b), l.gone⟩
theorem ado (N : Nat) : (2 : Int) ^ (N + 2) = 4 * 2 ^ N := by
 rw [Int.pow_add]
 omega
theorem mul_get {cs : List Int} {b x : Int} {i : Nat} (e : (cs.map (· * b))[i]? = some x) : ∃ a, cs[i]? = some a ∧ x = a * b := by
 rw [aos] at e
 obtain ⟨a, ea, rfl⟩ := Option.map_eq_some_iff.mp e
 exact ⟨a, ea, rfl⟩
theorem okM (o : l.okN N (n : Int)) {b : Int} (b1 : 1 ≤ b) (b4 : b ≤ 4) : (yq l b).okN (N + 2) (n : Int) := by
 have h2 : (0 : Int) < 2 ^ N := by exact_mod_cast Nat.two_pow_pos N
 have len : (yq l b).counts.length = l.counts.length := an2 _
 refine ⟨o.b0, ⟨fun c hc => ?_, o.g.asc, fun x hx => by rw [len]; exact o.g.cin x hx, fun i x y ex ey hxy => ?_, by rw [len]; exact o.g.cl, fun i c e => ?_⟩, by rw [len]; exact o.fit, ?_, fun p hp => ?_, o.asc, fun x hx => by rw [len]; exact o.gin x hx⟩
 · obtain ⟨q, hq, rfl⟩ := List.mem_map.mp hc
   exact Int.mul_nonneg (o.g.pos q hq) (by omega)
 · obtain ⟨a, ea, rfl⟩ := mul_get ex
   obtain ⟨a', ea', rfl⟩ := mul_get ey
   exact o.g.fall i a a' ea ea' (Int.lt_of_mul_lt_mul_right hxy (by omega))
 · obtain ⟨a, ea, rfl⟩ := mul_get e
   have t := o.g.top i a ea
   have a0 := o.g.pos a (aop ea)
   have c : a * b ≤ (((i : Int) + 1) * 2 ^ N) * 4 := Int.mul_le_mul t b4 (by omega) (Int.mul_nonneg (by omega) (by omega))
   rw [ado, ← Int.mul_assoc, Int.mul_comm _ 4, Int.mul_assoc, Int.mul_comm 4]
   exact c
 · show ((l.ends.map fun p => (p.1, p.2 * b)).map (·.1)).Sublist (l.cuts ++ if l.born + ((yq l b).counts.length : Int) < (n : Int) then [l.born + ((yq l b).counts.length : Int) - 1] else [])
   rw [len, aoj]
   exact o.sub
 · obtain ⟨q, hq, rfl⟩ := List.mem_map.mp hp
   have ⟨q1, q2⟩ := o.pos q hq
   have a : 1 * 1 ≤ q.2 * b := Int.mul_le_mul q1 b1 (by omega) (by omega)
   have c : q.2 * b ≤ 2 ^ N * 4 := Int.mul_le_mul q2 b4 (by omega) (by omega)
   rw [ado]
   exact ⟨by simpa using a, by omega⟩
end
end L
namespace L
open PySem PySem.Spec L2 Pk
theorem ae0 {i : Int} {n : Nat} (h0 : 0 ≤ i) (hn : 0 < n) (h : i < 2 ^ n) : i.natAbs.log2 < n := by
 refine PySem.Flt.log2_lt_of hn ?_
 have e : ((i.natAbs : Nat) : Int) = i := Int.natAbs_of_nonneg h0
 have e2 : ((2 ^ n : Nat) : Int) = (2 : Int) ^ n := by simp
 omega
theorem acF {i j : Int} (i0 : 0 ≤ i) (i1 : i < 2 ^ 400) (j0 : 0 ≤ j) (j1 : j < 2 ^ 400) : Tz i j = true := by
 have a := ae0 i0 (by decide) i1
 have b := ae0 j0 (by decide) j1
 exact decide_eq_true (by omega)
section
variable {h h1 h2 : Hh} {n N s z : Nat} {l : Lv} {C t : Int}
theorem aio (hN : N ≤ 300) : (2 : Int) ^ N ≤ 2 ^ 300 := by exact_mod_cast Nat.pow_le_pow_right (by decide) hN
theorem W0 (o : l.okN N (n : Int)) (hN : N ≤ 300) (h4 : n ≤ 4) {b : Int} (b1 : 1 ≤ b) (b4 : b ≤ 4) : rQ [l.d, .int b] h = .ok (yq l b).d [] h := by
 have p3 := aio hN
 have h2 : (0 : Int) < 2 ^ N := by exact_mod_cast Nat.two_pow_pos N
 have c4 := Rb o h4
 have el := WY o (by omega)
 have q1 : (l.counts.map D.int).length ≤ 100000 := by rw [an2]; omega
 have q2 : (l.ends.map pairD).length ≤ 100000 := by rw [an2]; omega
 have l1 := fun x2 x3 x4 x5 x6 x8 x9 => wH (vs := [7]) (g := ug) (t := uh) (e := ul) (fr := [some l.d, some (.int b), x2, x3, x4, x5, x6, none, x8, x9]) (h := h) (F := D.int) (G := fun c => .int (c * b)) (xs := l.counts) (fun c hc => by
  have c0 := o.g.pos c hc
  have c1 : c < 2 ^ 400 := by
   obtain ⟨i, hi, e⟩ := List.getElem_of_mem hc
   have t := o.g.top i c (by rw [aoc hi, e])
   have : ((i : Int) + 1) * 2 ^ N ≤ 4 * 2 ^ 300 := Int.mul_le_mul (by omega) p3 (by omega) (by omega)
   have : (4 : Int) * 2 ^ 300 < 2 ^ 400 := by decide
   omega
  have cm : Tz c b = true := acF c0 c1 (by omega) (Int.lt_of_le_of_lt b4 (by decide))
  simp only [↓jU, ↓V7, ↓cJ, an6, an5, aN, ↓V8, ↓dF, fD, ↓V9, ↓cZ, ↓bj, an7, an3, aM, bZ, cA, zf, cm, cG, cV, and_self])
 have l2 := fun x2 x3 x4 x5 x6 x7 => wH (vs := [8, 9]) (g := uo) (t := uv) (e := uw) (fr := [some l.d, some (.int b), x2, x3, x4, x5, x6, x7, none, none]) (h := h) (F := pairD) (G := fun p => .tup [.int p.1, .int (p.2 * b)]) (xs := l.ends) (fun p hp => by
  obtain ⟨x, y⟩ := p
  have ⟨q1, q2⟩ := o.pos (x, y) hp
  have : (2 : Int) ^ 300 < 2 ^ 400 := by decide
  have cm : Tz y b = true := acF (by omega) (by omega) (by omega) (Int.lt_of_le_of_lt b4 (by decide))
  simp only [↓jU, ↓Wb, yo, ↓rJ, an4, an8, Nat.zero_add, Nat.reduceAdd, ↓pD, ↓cJ, an6, an5, aN, ↓rH, ↓Wc, ↓dF, fD, ↓We, ↓Bj, ↓cU, ↓bj, an7, an3, aM, bZ, cA, ↓cZ, zf, cm, ↓bU, cO, Nat.reduceLeDiff, cG, cV, and_self])
 have f1 : (l.counts.map fun c => D.int (c * b)) = (l.counts.map (· * b)).map .int := by rw [aoj]; rfl
 have f2 : (l.ends.map fun p => D.tup [.int p.1, .int (p.2 * b)]) = (l.ends.map fun p => (p.1, p.2 * b)).map pairD := by rw [aoj]; rfl
 simp only [f1] at l1
 simp only [f2] at l2
 show rQ [l.d, .int b] h = .ok (.tup [.int l.born, .fl ((l.counts.map (· * b)).map .int), .fl (l.cuts.map .int), .fl ((l.ends.map fun p => (p.1, p.2 * b)).map pairD), .fl (l.gone.map .int)]) [] h
 rw [show l.d = .tup [.int l.born, .fl (l.counts.map .int), .fl (l.cuts.map .int), .fl (l.ends.map pairD), .fl (l.gone.map .int)] from rfl] at *
 apply Wp.eq
 simp only [↓Zb, ↓du, startF, an1, aoa, an4, an8, Nat.zero_add, Nat.reduceAdd, Nat.reduceSub, aom, aoh, aog, aof, aN, ↓aaV, ↓cW, ↓Le, ↓bj, an3, an5, aM, Ai, cA, ↓rJ, ↓pD, ↓cJ, an6, ↓rH, cC, ↓dY, ↓Bj, ↓cU, an7, bZ, ↓fQ, ↓tY, ↓oN, xY, vq, aQ, cO, q1, cG, cV, l1, ↓cH, q2, l2, ↓bU, Nat.reduceLeDiff, vY, dX, and_self]
theorem ajR {cs : List Int} {c : Int} (ec : l.counts = cs ++ [c]) (c4 : l.counts.length ≤ 4) (e1 : bV [.ref s, .int 3] h = .ok (.int 0) [] h1) (e2 : bV [.ref s, .int 3] h1 = .ok (.int t) [] h2) :
 m7 [.ref s, l.d] h = .ok (Lv.mk l.born (cs ++ [c + 1 + t]) l.cuts l.ends l.gone).d [] h2 := by
 have b1 : cs.length + 1 ≤ 100000 := by
  rw [ec, an9] at c4
  omega
 unfold Lv.d sS
 dsimp only
 rw [ec]
 apply Wp.eq
 simp only [↓Gj, ↓du, startF, aol, an1, aoa, an4, an8, Nat.zero_add, Nat.reduceAdd, Nat.reduceSub, aom, aoh, aog, aof, aN, ↓Iu, ↓cW, ↓Le, ↓bj, an7, an3, an6, an5, aM, Ai, cA, ↓rJ, ↓pD, ↓cJ, ↓rH, cC, ↓BV, ↓dH, ↓fM, ↓cU, iG, ↓gQ, ↓bU, fO, aob, e1, ↓cH, ↓BR, ↓eV, ↓cZ, bZ, iV, decide_true, aQ, fD, ↓dY, ↓Bj, ↓fQ, ↓tM, ↓RP, ↓Zr, ↓VG, ↓d7, afP, Int.reduceNeg, RW, Xr, ajB, List.dropLast_concat, ↓qD, aaE, akp, List.getLast?_concat, qu, e2, tZ, cO, Nat.reduceLeDiff, vY, ahR, an2, b1, ↓reduceIte, xY, QC, dX, and_self]
theorem ajS (e1 : bV [.ref s, .int 3] h = .ok (.int 1) [] h1) : m7 [.ref s, l.d] h = .ok (Lv.mk l.born l.counts l.cuts (l.ends.drop 1) l.gone).d [] h1 := by
 unfold Lv.d sS
 dsimp only
 have c := aer (l := l.ends.map pairD) (k := 1) (by decide)
 rw [show (1 : Int).toNat = 1 from rfl, ← List.map_drop] at c
 apply Wp.eq
 simp only [↓Gj, ↓du, startF, an1, aoa, an4, an8, Nat.zero_add, Nat.reduceAdd, Nat.reduceSub, aom, aoh, aog, aof, aN, ↓Iu, ↓cW, ↓Le, ↓bj, an7, an3, an6, an5, aM, Ai, cA, ↓rJ, ↓pD, ↓cJ, ↓rH, cC, ↓BV, ↓dH, ↓fM, ↓cU, iG, ↓gQ, ↓bU, fO, aob, e1, ↓cH, ↓BR, ↓eV, ↓cZ, bZ, iV, Int.reduceEq, decide_false, aQ, ↓dF, ↓dY, ↓DY, decide_true, fD, ↓Bj, xY, ↓fQ, ↓tM, ↓RP, ↓VG, RW, ↓Zr, Xr, c, cO, Nat.reduceLeDiff, vY, dX, and_self]
theorem ajT (e1 : bV [.ref s, .int 3] h = .ok (.int 2) [] h1) : m7 [.ref s, l.d] h = .ok (Lv.mk l.born l.counts l.cuts l.ends (l.gone.drop 1)).d [] h1 := by
 unfold Lv.d sS
 dsimp only
 have c := aer (l := l.gone.map D.int) (k := 1) (by decide)
 rw [show (1 : Int).toNat = 1 from rfl, ← List.map_drop] at c
 apply Wp.eq
 simp only [↓Gj, ↓du, startF, an1, aoa, an4, an8, Nat.zero_add, Nat.reduceAdd, Nat.reduceSub, aom, aoh, aog, aof, aN, ↓Iu, ↓cW, ↓Le, ↓bj, an7, an3, an6, an5, aM, Ai, cA, ↓rJ, ↓pD, ↓cJ, ↓rH, cC, ↓BV, ↓dH, ↓fM, ↓cU, iG, ↓gQ, ↓bU, fO, aob, e1, ↓cH, ↓BR, ↓eV, ↓cZ, bZ, iV, Int.reduceEq, decide_false, aQ, ↓dF, ↓dY, ↓DY, ↓Bj, xY, ↓fQ, ↓tM, ↓RP, ↓VG, RW, ↓Zr, Xr, c, cO, Nat.reduceLeDiff, vY, dX, and_self]
theorem ok0 {cs : List Int} {c : Int} (o : l.okN N (n : Int)) (hN : 2 ≤ N) (ec : l.counts = cs ++ [c]) (t0 : 0 ≤ t) (t2 : t ≤ 2) : (Lv.mk l.born (cs ++ [c + 1 + t]) l.cuts l.ends l.gone).okN (N + 2) (n : Int) := by
 have h2 : (4 : Int) ≤ 2 ^ N := by exact_mod_cast Nat.pow_le_pow_right (n := 2) (by decide) hN
 have len : (cs ++ [c + 1 + t]).length = l.counts.length := by rw [ec, an9, an9]; rfl
 have low : ∀ (i : Nat) (x : Int), (cs ++ [c + 1 + t])[i]? = some x → ∃ a, l.counts[i]? = some a ∧ a ≤ x ∧ x ≤ a + 3 ∧ (i + 1 < l.counts.length → x = a) := fun i x e => by
  rw [ec]
  rcases Am e with q | ⟨q1, q2⟩
  · refine ⟨x, ?_, by omega, by omega, fun _ => rfl⟩
    rw [aox (List.getElem?_eq_some_iff.mp q).1]
    exact q
  · subst q1 q2
    refine ⟨c, ?_, by omega, by omega, fun hh => ?_⟩
    · rw [aow (Nat.le_refl _), Nat.sub_self]
      rfl
    · rw [an9] at hh
      have e1 : [c].length = 1 := rfl
      omega
 refine ⟨o.b0, ⟨fun x hx => ?_, o.g.asc, fun x hx => by rw [len]; exact o.g.cin x hx, fun i x y ex ey hxy => ?_, by rw [len]; exact o.g.cl, fun i x e => ?_⟩, by rw [len]; exact o.fit, by rw [len]; exact o.sub, fun p hp => ?_, o.asc, fun x hx => by rw [len]; exact o.gin x hx⟩
 · obtain ⟨i, hi, e⟩ := List.getElem_of_mem hx
   obtain ⟨a, ea, h1, _, _⟩ := low i x (by rw [aoc hi, e])
   have := o.g.pos a (aop ea)
   omega
 · obtain ⟨a, ea, _, _, h3⟩ := low i x ex
   obtain ⟨b, eb, h4, _, _⟩ := low (i + 1) y ey
   have := h3 (List.getElem?_eq_some_iff.mp eb).1
   exact o.g.fall i a b ea eb (by omega)
 · obtain ⟨a, ea, _, h3, _⟩ := low i x e
   have t := o.g.top i a ea
   have : (1 : Int) * 2 ^ N ≤ ((i : Int) + 1) * 2 ^ N := Int.mul_le_mul_of_nonneg_right (by omega) (by omega)
   rw [ado, ← Int.mul_assoc, Int.mul_comm _ 4, Int.mul_assoc]
   omega
 · have := o.pos p hp
   rw [ado]
   omega
theorem ok1 (o : l.okN N (n : Int)) : (Lv.mk l.born l.counts l.cuts (l.ends.drop 1) l.gone).okN N (n : Int) :=
 ⟨o.b0, o.g, o.fit, ((List.drop_sublist 1 l.ends).map _).trans o.sub, fun p hp => o.pos p (List.mem_of_mem_drop hp), o.asc, o.gin⟩
theorem ok2 (o : l.okN N (n : Int)) : (Lv.mk l.born l.counts l.cuts l.ends (l.gone.drop 1)).okN N (n : Int) :=
 ⟨o.b0, o.g, o.fit, o.sub, o.pos, o.asc.sublist (List.drop_sublist 1 l.gone), fun x hx => o.gin x (List.mem_of_mem_drop hx)⟩
end
end L
namespace L
open PySem PySem.Spec L2 Pk
structure Rj (n s z : Nat) (h : Hh) (C : Int) (k : Nat) (ls : List Lv) : Prop where
 src : Src h s C
 cell : h[z]? = some (.nl (ls.map Lv.d))
 len : ls.length ≤ k
 ok : ∀ l ∈ ls, l.okN (200 + 2 * k) (n : Int)
section
variable {n s z k : Nat} {h : Hh} {C : Int} {ls : List Lv}
theorem Rj.app {hX : Hh} {C' : Int} {l : Lv} (S : Rj n s z h C k ls) (hsz : z ≠ s) (U : jE h hX s C') (o : l.okN (200 + 2 * (k + 1)) (n : Int)) : Rj n s z (hX.set z (.nl (ls.map Lv.d ++ [l.d]))) C' (k + 1) (ls ++ [l]) where
 src := by
  obtain ⟨a, b, c, e, q⟩ := U.1
  exact ⟨a, b, c, by rw [aoq hsz]; exact e, q⟩
 cell := by
  have zl : z < hX.length := (List.getElem?_eq_some_iff.mp ((U.2.at_ z hsz).trans S.cell)).1
  rw [aor zl, aol]
  rfl
 len := by
  rw [an9]
  have := S.len
  have e1 : [l].length = 1 := rfl
  omega
 ok := fun l' hl => by
  rcases List.mem_append.mp hl with hl | hl
  · exact qN.up (by omega) (S.ok l' hl)
  · rw [List.mem_singleton.mp hl]
    exact o
theorem ne_nil {L : List Lv} (hz : h[z]? = some (.nl (L.map Lv.d))) : aaA h (.ref z) (.nl []) = some (!decide (L = [])) := by
 have e1 : D.toPd h (.ref z) = some (Em.lv.list.f L) := by
  show (D.lstP h (.ref z)).map PyData.list = _
  rw [af5 Em.lv hz aeM]
  rfl
 have e2 : (D.nl []).toP = some (Em.lv.list.f []) := aep Em.lv aeM []
 unfold aaA acZ
 rw [e1, e2]
 dsimp only
 rw [Em.lv.list.shaped (a := L) (fun _ _ => trivial) (by decide), Em.lv.list.shaped (a := []) (fun _ _ => trivial) (by decide), Em.lv.list.eq]
 rfl
theorem ajU (S : Rj n s z h C k ls) (hsz : z ≠ s) (hk : k ≤ 11) (hC : C ≤ 40000) (h2 : 2 ≤ n) (h4 : n ≤ 4) {x0 x1 x5 x6 x7 x8 : Option D} :
 ∃ y6 ls' h', Aa [x0, x1, some (.ref s), some (.int (n : Int)), some (.ref z), x5, x6, x7, x8] h = .ok .nx [x0, x1, some (.ref s), some (.int (n : Int)), some (.ref z), x5, some (.int y6), x7, x8] h' ∧ Rj n s z h' (C + 100) (k + 1) ls' := by
 have ll := S.len
 have big1 : (ls.map Lv.d).length < 100000 := by rw [an2]; omega
 have nn := ne_nil S.cell
 have ap : ∀ d : D, uZ d (ls.map Lv.d) = some (ls.map Lv.d ++ [d]) := fun d => by
  unfold uZ
  rw [if_pos (show _ < big from big1)]
 have road0 : ∀ (h1 : Hh) (C1 : Int), jE h h1 s C1 → C1 ≤ C + 1 → ∃ l h', qP [.ref s, .int (n : Int)] h1 = .ok (Lv.d l) [] h' ∧ jE h h' s (C + 100) ∧ l.okN (200 + 2 * (k + 1)) (n : Int) := fun h1 C1 U hC1 => by
  obtain ⟨born, counts, cuts, ends, gone, h', e, U', lf⟩ := adn U (by omega) (size := (n : Int)) (by omega) (by omega)
  exact ⟨⟨born, counts, cuts, ends, gone⟩, h', e, U'.up (by omega), qN.up (by omega) lf⟩
 have keep : ∀ hX : Hh, hX[z]? = some (.nl (ls.map Lv.d)) → hX.set z (.nl (ls.map Lv.d)) = hX := fun hX e => aa7 e
 by_cases hn : ls = []
 · have nn := nn.trans (show _ = some false by rw [decide_eq_true hn]; rfl)
   obtain ⟨l, h', e, U, o⟩ := road0 h C S.src.u (by omega)
   have zc := (U.2.at_ z hsz).trans S.cell
   have kp := keep h S.cell
   have ld : l.d.own = false := rfl
   have lf : l.d.fz = l.d := rfl
   have ap := ap l.d
   have S' := S.app hsz U o
   have cell := S.cell
   refine ⟨0, _, _, ?_, S'⟩
   generalize l.d = LD at *
   generalize ls.map Lv.d = LS at *
   apply Wp.eq
   simp only [↓Iv, ↓cW, ↓dH, ↓DY, ↓cZ, ↓bj, an7, an3, an6, an5, aM, iG, cA, ↓qD, ↓bU, an8, cO, Nat.reduceLeDiff, nn, aQ, ↓gQ, aN, cC, ↓zE, ↓eV, bZ, iV, decide_true, fD, ↓pX, ↓qX, ↓vp, cell, lY, ↓fQ, ↓fM, ↓cU, an4, Nat.zero_add, Nat.reduceAdd, fO, aob, kp, e, ↓cH, zc, lf, pY, tX, ↓zB, ↓Bh, Int.reduceEq, decide_false, ↓dF, and_self, and_true, true_and]
   exact big1
 · have nn := nn.trans (show _ = some true by rw [decide_eq_false hn]; rfl)
   obtain ⟨r, h1, e1, U1, r0, r1⟩ := gj (m := 4) S.src.u (by omega) (by decide) (by decide)
   have zc1 := (U1.2.at_ z hsz).trans S.cell
   have kp1 := keep h1 zc1
   have hr : r = 0 ∨ r = 1 ∨ r = 2 ∨ r = 3 := by omega
   have lp : 0 < (ls.map Lv.d).length := by
    rw [an2]
    exact List.length_pos_iff.mpr hn
   have pick : ∃ (l : Lv) (hX : Hh), l ∈ ls ∧ nQ [.ref s, .ref z] h1 = .ok l.d [] hX ∧ jE h hX s (C + 1 + 1) := by
    obtain ⟨i, d, hX, ei, e, U⟩ := ain U1.1 (by omega) hsz zc1 lp (by rw [an2]; omega)
    rw [aos] at ei
    obtain ⟨l, el, rfl⟩ := Option.map_eq_some_iff.mp ei
    exact ⟨l, hX, aop el, e, ⟨U.1, U1.2.trans U.2⟩⟩
   rcases hr with rfl | rfl | rfl | rfl
   · obtain ⟨l, h', e, U, o⟩ := road0 h1 (C + 1) U1 (by omega)
     have zc := (U.2.at_ z hsz).trans S.cell
     have ld : l.d.own = false := rfl
     have lf : l.d.fz = l.d := rfl
     have ap := ap l.d
     have S' := S.app hsz U o
     refine ⟨0, _, _, ?_, S'⟩
     generalize l.d = LD at *
     generalize ls.map Lv.d = LS at *
     apply Wp.eq
     simp only [↓Iv, ↓cW, ↓dH, ↓DY, ↓cZ, ↓bj, an7, an3, an6, an5, aM, iG, cA, ↓qD, ↓bU, an8, cO, Nat.reduceLeDiff, nn, aQ, fD, ↓fM, ↓cU, an4, ↓gQ, Nat.zero_add, Nat.reduceAdd, fO, aob, e1, ↓cH, aN, cC, ↓zE, ↓eV, bZ, iV, decide_true, ↓pX, ↓qX, ↓vp, zc1, lY, ↓fQ, kp1, e, zc, lf, pY, tX, ↓zB, ↓Bh, Int.reduceEq, decide_false, ↓dF, and_self, and_true, true_and]
     exact big1
   · obtain ⟨l, hX, hm, e, U⟩ := pick
     obtain ⟨t, hY, e3, U3, t0, t1⟩ := gj (m := 4) U (by omega) (by decide) (by decide)
     have ol := S.ok l hm
     have ts := W0 (h := hY) (b := 1 + t) ol (by omega) h4 (by omega) (by omega)
     have o : (yq l (1 + t)).okN (200 + 2 * (k + 1)) (n : Int) := by
      have := okM ol (b := 1 + t) (by omega) (by omega)
      rwa [show 200 + 2 * k + 2 = 200 + 2 * (k + 1) by omega] at this
     have zc := (U3.2.at_ z hsz).trans S.cell
     have ld : l.d.own = false := rfl
     have lf : l.d.fz = l.d := rfl
     have md : (yq l (1 + t)).d.own = false := rfl
     have mf : (yq l (1 + t)).d.fz = (yq l (1 + t)).d := rfl
     have ap := ap (yq l (1 + t)).d
     have S' := S.app hsz (U3.up (C' := C + 100) (by omega)) o
     refine ⟨1, _, _, ?_, S'⟩
     generalize (yq l (1 + t)).d = MD at *
     generalize l.d = LD at *
     generalize ls.map Lv.d = LS at *
     apply Wp.eq
     simp only [↓Iv, ↓cW, ↓dH, ↓DY, ↓cZ, ↓bj, an7, an3, an6, an5, aM, iG, cA, ↓qD, ↓bU, an8, cO, Nat.reduceLeDiff, nn, aQ, fD, ↓fM, ↓cU, an4, ↓gQ, Nat.zero_add, Nat.reduceAdd, fO, aob, e1, ↓cH, aN, cC, ↓zE, ↓eV, bZ, iV, Int.reduceEq, decide_false, ↓dF, ↓zB, ↓Bh, decide_true, ↓pX, ↓qX, ↓vp, zc1, lY, ↓fQ, kp1, e, e3, tZ, qu, lf, ts, zc, mf, pY, tX, and_self, and_true, true_and]
     exact big1
   · obtain ⟨l, hX, hm, e, U⟩ := pick
     obtain ⟨t, hY, e3, U3, t0, t1⟩ := gj (m := 4) U (by omega) (by decide) (by decide)
     have ol := S.ok l hm
     have ts := W0 (h := hY) (b := 1 + t) ol (by omega) h4 (by omega) (by omega)
     have o : (yq l (1 + t)).okN (200 + 2 * (k + 1)) (n : Int) := by
      have := okM ol (b := 1 + t) (by omega) (by omega)
      rwa [show 200 + 2 * k + 2 = 200 + 2 * (k + 1) by omega] at this
     have zc := (U3.2.at_ z hsz).trans S.cell
     have ld : l.d.own = false := rfl
     have lf : l.d.fz = l.d := rfl
     have md : (yq l (1 + t)).d.own = false := rfl
     have mf : (yq l (1 + t)).d.fz = (yq l (1 + t)).d := rfl
     have ap := ap (yq l (1 + t)).d
     have S' := S.app hsz (U3.up (C' := C + 100) (by omega)) o
     refine ⟨2, _, _, ?_, S'⟩
     generalize (yq l (1 + t)).d = MD at *
     generalize l.d = LD at *
     generalize ls.map Lv.d = LS at *
     apply Wp.eq
     simp only [↓Iv, ↓cW, ↓dH, ↓DY, ↓cZ, ↓bj, an7, an3, an6, an5, aM, iG, cA, ↓qD, ↓bU, an8, cO, Nat.reduceLeDiff, nn, aQ, fD, ↓fM, ↓cU, an4, ↓gQ, Nat.zero_add, Nat.reduceAdd, fO, aob, e1, ↓cH, aN, cC, ↓zE, ↓eV, bZ, iV, Int.reduceEq, decide_false, ↓dF, ↓zB, ↓Bh, decide_true, ↓pX, ↓qX, ↓vp, zc1, lY, ↓fQ, kp1, e, e3, tZ, qu, lf, ts, zc, mf, pY, tX, and_self, and_true, true_and]
     exact big1
   · obtain ⟨l, hX, hm, e, U⟩ := pick
     have ol := S.ok l hm
     have mv : ∃ (l' : Lv) (hY : Hh), m7 [.ref s, l.d] hX = .ok l'.d [] hY ∧ jE h hY s (C + 100) ∧ l'.okN (200 + 2 * (k + 1)) (n : Int) := by
      obtain ⟨q, hY, e3, U3, q0, q1⟩ := gj (m := 3) U (by omega) (by decide) (by decide)
      have hq : q = 0 ∨ q = 1 ∨ q = 2 := by omega
      rcases hq with rfl | rfl | rfl
      · obtain ⟨t, hZ, e4, U4, t0, t1⟩ := gj (m := 3) U3 (by omega) (by decide) (by decide)
        rcases List.eq_nil_or_concat l.counts with ec | ⟨cs, c, ec⟩
        · have := ol.g.cl
          rw [ec] at this
          exact absurd this (by simp)
        · rw [List.concat_eq_append] at ec
          have o := ok0 ol (by omega) ec t0 (by omega)
          rw [show 200 + 2 * k + 2 = 200 + 2 * (k + 1) by omega] at o
          exact ⟨_, hZ, ajR ec (Rb ol h4) e3 e4, U4.up (by omega), o⟩
      · exact ⟨_, hY, ajS e3, U3.up (by omega), qN.up (by omega) (ok1 ol)⟩
      · exact ⟨_, hY, ajT e3, U3.up (by omega), qN.up (by omega) (ok2 ol)⟩
     obtain ⟨l', hY, ts, U3, o⟩ := mv
     have zc := (U3.2.at_ z hsz).trans S.cell
     have ld : l.d.own = false := rfl
     have lf : l.d.fz = l.d := rfl
     have md : l'.d.own = false := rfl
     have mf : l'.d.fz = l'.d := rfl
     have ap := ap l'.d
     have S' := S.app hsz U3 o
     refine ⟨3, _, _, ?_, S'⟩
     generalize l'.d = MD at *
     generalize l.d = LD at *
     generalize ls.map Lv.d = LS at *
     apply Wp.eq
     simp only [↓Iv, ↓cW, ↓dH, ↓DY, ↓cZ, ↓bj, an7, an3, an6, an5, aM, iG, cA, ↓qD, ↓bU, an8, cO, Nat.reduceLeDiff, nn, aQ, fD, ↓fM, ↓cU, an4, ↓gQ, Nat.zero_add, Nat.reduceAdd, fO, aob, e1, ↓cH, aN, cC, ↓zE, ↓eV, bZ, iV, Int.reduceEq, decide_false, ↓dF, ↓zB, ↓Bh, decide_true, ↓pX, ↓qX, ↓vp, zc1, lY, ↓fQ, kp1, e, lf, ts, zc, mf, pY, tX, and_self, and_true, true_and]
     exact big1
theorem agu {g : D → M Unit} {b : M Fl} {d : D} {ds : List D} {fr fr1 fr2 : Fr} {h h1 h2 : Hh} (e1 : g d fr h = .ok () fr1 h1) (e2 : b fr1 h1 = .ok .nx fr2 h2) : fB g b (d :: ds) fr h = fB g b ds fr2 h2 := by
 simp only [fB, e1, e2]
theorem ae1 (hsz : z ≠ s) (h2 : 2 ≤ n) (h4 : n ≤ 4) {x0 x1 x7 x8 : Option D} : ∀ (ds : List D) (k : Nat) (C : Int) (ls : List Lv) (h : Hh) (x5 x6 : Option D), Rj n s z h C k ls → k + ds.length ≤ 12 → C + 100 * ds.length ≤ 40000 →
 ∃ y5 y6 ls' h' C', fB (aK 5) Aa ds [x0, x1, some (.ref s), some (.int (n : Int)), some (.ref z), x5, x6, x7, x8] h = .ok .nx [x0, x1, some (.ref s), some (.int (n : Int)), some (.ref z), y5, y6, x7, x8] h' ∧ Rj n s z h' C' (k + ds.length) ls'
 | [], k, C, ls, h, x5, x6, S, _, _ => ⟨x5, x6, ls, h, C, rfl, S⟩
 | d :: ds, k, C, ls, h, x5, x6, S, hk, hC => by
   rw [an4] at hk hC
   obtain ⟨y6, ls1, h1, e1, S1⟩ := ajU S hsz (by omega) (by omega) h2 h4 (x0 := x0) (x1 := x1) (x5 := some d) (x6 := x6) (x7 := x7) (x8 := x8)
   obtain ⟨z5, z6, ls2, h2', C2, e2, S2⟩ := ae1 hsz h2 h4 (x0 := x0) (x1 := x1) (x7 := x7) (x8 := x8) ds (k + 1) (C + 100) ls1 h1 (some d) (some (.int y6)) S1 (by omega) (by omega)
   refine ⟨z5, z6, ls2, h2', C2, ?_, by rw [an4, show k + (ds.length + 1) = k + 1 + ds.length by omega]; exact S2⟩
   rw [← e2]
   exact agu rfl e1
end
theorem ajV {ns : List Int} {k : Nat} (hk : k ≤ 62) (h : Hh) (x2 x3 x4 x5 x6 x7 x8 : Option D) : Wp (Jz [some (.kl (ns.map .int)), some (.int k), x2, x3, x4, x5, x6, x7, x8] h) (fun f fr _ => (f = .nx ∨ f = .ct) ∧ ∃ x1 ys, fr = some (.kl (ns.map .int)) :: x1 :: ys ∧ ys.length = 9 - 2) nY := by
 obtain ⟨a, b, e1, b0, b1⟩ := abN (h := h) (ns := ns) hk
 have S1 : Src (h ++ [.nl [.int a, .int b, .int 0]]) h.length 0 := ⟨a, b, 0, by rw [aow (Nat.le_refl _), Nat.sub_self]; rfl, b0, b1, by decide, by decide⟩
 obtain ⟨r, h2, e2, S2, r0, r1⟩ := gj (m := 3) S1.u (by decide) (by decide) (by decide)
 obtain ⟨n, hn⟩ : ∃ n : Nat, 2 + r = (n : Int) := ⟨(2 + r).toNat, by omega⟩
 have hl2 : h2.length = h.length + 1 := S2.2.len.trans (by rw [an9]; rfl)
 have S3 : Src (h2 ++ [.nl []]) h.length 1 := by
  obtain ⟨a', b', c', q1, q⟩ := S2.1
  exact ⟨a', b', c', by rw [aox (by omega)]; exact q1, q⟩
 obtain ⟨m, h3, e3, U3, m0, m1⟩ := gj (m := 12) S3.u (by decide) (by decide) (by decide)
 have hsz : h2.length ≠ h.length := by omega
 have St : Rj n h.length h2.length h3 2 0 [] := ⟨U3.1, by rw [U3.2.at_ _ hsz, aow (Nat.le_refl _), Nat.sub_self]; rfl, Nat.le_refl _, fun l hl => by cases hl⟩
 have ml : (gH 0 m.toNat).length = m.toNat := acD _
 obtain ⟨y5, y6, ls, h4, C4, e4, S4⟩ := ae1 (x0 := some (.kl (ns.map .int))) (x1 := some (.int (k : Int))) (x7 := x7) (x8 := x8) hsz (by omega) (by omega) (gH 0 m.toNat) 0 2 [] h3 x5 x6 St (by rw [ml]; omega) (by rw [ml]; omega)
 have len4 := S4.len
 rw [ml] at len4
 obtain ⟨y7, y8, h5, e5⟩ := ajP S4.cell S4.ok (by omega) (by omega) (by omega) (x0 := some (.kl (ns.map .int))) (x1 := some (.int (k : Int))) (x2 := some (.ref h.length)) (x5 := y5) (x6 := y6) (x7 := x7) (x8 := x8)
 have sm : nW m = true := Fg (by omega) (by omega)
 have rl : (gH 0 m.toNat).length ≤ 100000 := by rw [ml]; omega
 have hB : ∃ B, B = Aa := ⟨_, rfl⟩
 obtain ⟨B, hB⟩ := hB
 rw [← hB] at e4
 have hT : ∃ B, B = wM := ⟨_, rfl⟩
 obtain ⟨T, hT⟩ := hT
 rw [← hT] at e5
 simp only [↓aeE, ↓cW, ↓dH, ↓ack, ↓fM, ↓cU, ↓bj, an3, an5, an4, Nat.reduceSub, aM, aju, cA, an7, an6, bZ, ↓bU, an8, Nat.zero_add, Nat.reduceAdd, fO, aob, e1, ↓cH, Ff, aN, cC, ↓abI, ↓cZ, ↓gQ, ↓fQ, iG, e2, tZ, qu, hn, aQ, ↓abH, ↓qD, cO, Nat.reduceLeDiff, ↓abG, ↓tO, ↓Dd, Vw, e3, sm, ↓reduceIte, ← hB, e4, ← hT, e5, reduceCtorEq, true_and]
 exact ⟨.inl trivial, _, _, rfl, rfl⟩
theorem plain (ns : List Int) (hl : ns.length ≤ 63) : ∃ fr h, ac5 [.kl (ns.map Pk.D.int)] [] = .ok (.bl true) fr h := by
 unfold ac5 ac4
 refine ah0 (by decide) (by decide) (by decide) fun k xs h hk hx => ?_
 match xs, hx with
 | [x2, x3, x4, x5, x6, x7, x8], _ => exact ajV (by omega) h x2 x3 x4 x5 x6 x7 x8
end L
namespace L
open PySem PySem.Spec PyProof.Rows L2
instance : PF (PySem.Challenge.rw_countrestarts_k11_gathered).prog := ⟨by kernel_rfl, by kernel_rfl⟩
theorem facts {P : Program} [PF P] {w : World} {K : PySem.W.Frag} {h : Heap} {mg : Str → Option Value} {f : Addr} (X : K.In h) (G : h.Ns mainGlobals mg) (hfa : mg ("law" : Str) = some (.ref f)) (c : aW K) :
 ∃ fd : FuncData, (∀ (s : Shared) (v : Value), BindsTo s fd ⟨[v], []⟩ [("_law_script", v)]) ∧ ∀ base : Heap, K.In base → base.Ns mainGlobals mg → FnOk P w K mg base (L2.CX P w) 9 f fd ["_law_script"] (Pk.spF K (T K) 1 ac5) := by
 obtain ⟨fd, F⟩ := c.def_ (fn.length - 1) (d := agE) rfl
 have e := hfa.symm.trans (He.glo_ok X G (c.fact (fa.length - 1) (f := .he (.glo "law")) rfl))
 cases e
 have b := FunD.bindsA (ps := ["_law_script"]) F fun _ _ _ _ _ _ us hl => match us, hl with | [_], _ => rfl
 exact ⟨fd, fun s v => b s [v] rfl, fun base Y Gb => Pk.fn_sim F aiR (af9 c Y Gb)⟩
end L
open PySem PySem.W PySem.Calls PyProof.Rows
theorem PySem.Challenge.cw_countrestarts_k11_gathered_holds : PySem.Challenge.rw_countrestarts_k11_gathered.Holds := by
 w_on; o_law
 refine HandSHeadRun.head_any (r := OpenLaw.row PySem.Challenge.rw_countrestarts_k11_gathered) (q := L.vw) (H := L.hk) (ob := L.ob) (M := 20000) (loose := L.names) (d := HandSHeadRun.topDef (OpenLaw.row PySem.Challenge.rw_countrestarts_k11_gathered).prog 36) (kwd := []) L.ob_eq
  (by kernel_rfl) (fun s => by kernel_rfl) L.run (by kernel_rfl) (by kernel_rfl) (by kernel_rfl) (by rfl) (by first | assumption | decide +kernel) (by decide +kernel) ⟨rfl, rfl, rfl, rfl, rfl, by decide +kernel⟩ ?hw ?hc
 case hw => w_witness2
 case hc =>
  refine L2.walk_ofE (l := PySem.Challenge.rw_countrestarts_k11_gathered) (n := 63) (k := 9) (x := "_law_script") (CX := L2.CX0) rfl (by decide) (by kernel_rfl) ⟨rfl, by decide, by decide⟩ ?F (fun _ _ _ _ z => z)
  intro w mg fa h Y G hmg0
  obtain ⟨K, KX, c⟩ := Y
  have hmg : mg ("law" : PySem.Str) = some (.ref fa) := by
   have e : (HandSHeadRun.topDef (OpenLaw.row PySem.Challenge.rw_countrestarts_k11_gathered).prog 36).name = ("law" : PySem.Str) := by kernel_rfl
   rw [← e]
   exact hmg0
  obtain ⟨fd, hb, hF⟩ := L.facts (P := (PySem.Challenge.rw_countrestarts_k11_gathered).prog) (w := w) KX G hmg c
  exact ⟨K, fd, _, KX, hb, fun H a ns hl _ hS => (let ⟨fr, h, e⟩ := L.plain ns hl; Pk.law_sp hS e), fun base Y Gb => Pk.fn_cx0 (hF base Y Gb)⟩
