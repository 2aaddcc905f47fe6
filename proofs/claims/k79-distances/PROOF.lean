import PyProof.Rows.All
import Wide.All
import OpenK.AllK
import Wide.FinOn
import HandS.ForMost
import HandS.Exc
import HandS.IsInst
import HandS.Wide
import HandS.TupAny
import HandS.Conv
import HandS.Deep
import HandS.Property
import HandS.MakeKwOnly
import HandS.SortInts
import HandS.RaiseMore
import HandS.Style
import HandS.Zip
import HandS.CallSlots
import HandS.Defaults
import HandS.HeadHook1
import HandS.HeadHook2
import HandS.HeadHook3
import HandS.HeadHook4
import HandS.HeadEnd
import HandS.ExcIs
import HandS.ExcField
import KE.GoesMore
import PyProof.EnumMake
import PyProof.EnumFor
import HandS.Iter
import HandS.Star
import KE.KExcSuper
import KE.KSuper
import HandS.ExcInit
import KE.KStateDown
import HandS.Head0
import HandS.Head1
import HandS.Head2
import PySem.Challenge.RW_countrestarts_k79_distances
import KE.KExcIs
import HandS.TryOnly
import HandS.TryMany
import HandS.ClsMeth
import HandS.OwnEq
import PyProof.CallFns
import HandS.FStr
import PyProof.Rows.StrWeight2
import PyProof.Rows.StrSplitJoin
import PyProof.Rows.StrFin3
import HandS.ExcOwn
import KE.GoesSet
import HandS.Strs
import KE.KTupSum
import PyProof.Rows.RuleN_abs
import KE.KOpsOwn
import KE.KMethU
import HandS.Dict
import HandS.Flow
import HandS.MethStar
import HandS.GenList
import HandS.GenYield
import KE.GoesZip
import KE.GoesEnum
import HandS.GenCall
import KE.SortData
import KE.SortLaws
import KE.KDictList
import HandS.Text
import HandS.StrMore
import KE.KxField
import PyProof.StrBlock2
import HandS.ReplaceLit
import HandS.ReplaceDef
set_option Elab.async false
set_option linter.all false
set_option maxRecDepth 100000
set_option maxHeartbeats 40000000
set_option autoImplicit false
open List renaming map_cons → ala, append_nil → alb, map_nil → alc, length_cons → ald, drop_zero → ale, set_cons_succ → alf, set_cons_zero → alg, cons_append → alh, length_nil → ali, getElem?_cons_zero → alj, replicate_succ → alk, nil_append → alm, take_succ_cons → aln, take_zero → alo, drop_succ_cons → alp, replicate_zero → alq, getElem?_cons_succ → alr, mem_cons_self → als, lookup → alu, getElem?_eq_getElem → alv, length_map → alw, getElem?_set_ne → alx, getElem?_set_self → aly, mem_cons_of_mem → alz, length_set → alA, mem_of_getElem? → alB, mem_cons → alC, length_append → alD, getElem?_append_right → alE, getElem?_map → alF
namespace Pk
open PySem PySem.Spec L2
inductive D where
 | non | bl (b : Bool) | int (i : Int) | str (s : Str)
 | tup (l : List D) | fl (l : List D) | nl (l : List D) | kl (l : List D)
 | obj (c : Nat) (fs : List D) | no (c : Nat) (fs : List D) | ref (n : Nat) | cls (c : Nat) | ty (t : String)
 | sl (lo hi : Option Int)
 /-- a dict with tuples for keys, in a cell: its keys, its values -/
 | dc (ks : List (List (Sum Int Str))) (ds : List D)
 /-- a dict with ints and texts for keys, in a cell -/
 | dk (ks : List (Sum Int Str)) (ds : List D)
 deriving Inhabited
def D.own : D → Bool
 | .nl _ => true
 | .no _ _ => true
 | _ => false
def D.fz : D → D
 | .nl l => .fl l
 | .no c fs => .obj c fs
 | d => d
abbrev Fr := List (Option D)
abbrev Hh := List D
structure Tb where
 cad : Nat → Addr
 fld : Nat → List Str
structure Wd where
 F : Hp
 I : List Addr
def Wd.le (w w' : Wd) : Prop := (∀ a o, w.F a = some o → w'.F a = some o) ∧ ∃ r, w'.I = w.I ++ r
theorem Wd.le_refl (w : Wd) : w.le w := ⟨fun _ _ h => h, [], by simp⟩
theorem Wd.le_trans {a b c : Wd} (x : a.le b) (y : b.le c) : a.le c :=
 ⟨fun p o h => y.1 p o (x.1 p o h), by
  obtain ⟨r, e⟩ := x.2
  obtain ⟨q, f⟩ := y.2
  exact ⟨r ++ q, by rw [f, e, List.append_assoc]⟩⟩
theorem Wd.le_at {w w' : Wd} (x : w.le w') {n : Nat} {a : Addr} (h : w.I[n]? = some a) : w'.I[n]? = some a := by
 obtain ⟨r, e⟩ := x.2
 rw [e, List.getElem?_append_left (List.getElem?_eq_some_iff.mp h).1]
 exact h
theorem Wd.le_mem {w w' : Wd} (x : w.le w') {a : Addr} (h : a ∈ w.I) : a ∈ w'.I := by
 obtain ⟨r, e⟩ := x.2
 rw [e]
 exact List.mem_append_left _ h
theorem ae6 {F F' : Hp} (x : ∀ a o, F a = some o → F' a = some o) {a : Addr} {u : HO} (h : Rd F a u) : Rd F' a u := by
 rcases h with h | ⟨o, h⟩
 · exact .inl (x _ _ h)
 · exact .inr ⟨o, x _ _ h⟩
theorem BW {K : PySem.W.Frag} {F F' : Hp} (x : ∀ a o, F a = some o → F' a = some o) {a : Addr} {vs : List V} (h : SqL K F a vs) : SqL K F' a vs := by
 rcases h with h | h
 · exact .inl (ae6 x h)
 · exact .inr h
theorem wZ {K : PySem.W.Frag} {F F' : Hp} (x : ∀ a o, F a = some o → F' a = some o) {a : Addr} {vs : List V} (h : SqT K F a vs) : SqT K F' a vs := by
 rcases h with h | h
 · exact .inl (ae6 x h)
 · exact .inr h
def SlO (a : Addr) (lo hi : Option Int) (h : Heap) : Prop := ∃ vl vu, h.IsSliceOf a vl vu .none ∧ IsPart vl lo ∧ IsPart vu hi
mutual
inductive sS (K : PySem.W.Frag) (T : Tb) (w : Wd) : V → D → Prop where
 | non : sS K T w .non .non
 | bl (b : Bool) : sS K T w (.bl b) (.bl b)
 | int (i : Int) : sS K T w (.int i) (.int i)
 | str (s : Str) : sS K T w (.str s) (.str s)
 | tup {a : Addr} {vs : List V} {ds : List D} : SqT K w.F a vs → aJ K T w vs ds → sS K T w (.ref a) (.tup ds)
 | fl {a : Addr} {vs : List V} {ds : List D} : w.F a = some (.lst vs) → aJ K T w vs ds → sS K T w (.ref a) (.fl ds)
 | kl {a : Addr} {vs : List V} {ds : List D} : SqL K w.F a vs → aJ K T w vs ds → sS K T w (.ref a) (.kl ds)
 | obj {a dx : Addr} {c : Nat} {vs : List V} {ds : List D} : w.F a = some (.ins (T.cad c) dx ((T.fld c).zip vs)) → aJ K T w vs ds → sS K T w (.ref a) (.obj c ds)
 | ref {a : Addr} {n : Nat} : w.I[n]? = some a → sS K T w (.ref a) (.ref n)
 | cls (c : Nat) : sS K T w (.ref (T.cad c)) (.cls c)
 | ty (t : String) : sS K T w (.ty t) (.ty t)
 | sl {a : Addr} {lo hi : Option Int} : w.F a = some (.ext (SlO a lo hi)) → sS K T w (.ref a) (.sl lo hi)
inductive aJ (K : PySem.W.Frag) (T : Tb) (w : Wd) : List V → List D → Prop where
 | nil : aJ K T w [] []
 | cons {v : V} {d : D} {vs : List V} {ds : List D} : sS K T w v d → aJ K T w vs ds → aJ K T w (v :: vs) (d :: ds)
end
section
variable {K : PySem.W.Frag} {T : Tb} {w w' : Wd}
mutual
theorem sS.mono (x : w.le w') : ∀ {v : V} {d : D}, sS K T w v d → sS K T w' v d
 | _, _, .non => .non
 | _, _, .bl b => .bl b
 | _, _, .int i => .int i
 | _, _, .str s => .str s
 | _, _, .tup h t => .tup (wZ x.1 h) (aJ.mono x t)
 | _, _, .fl h t => .fl (x.1 _ _ h) (aJ.mono x t)
 | _, _, .kl h t => .kl (BW x.1 h) (aJ.mono x t)
 | _, _, .obj h t => .obj (x.1 _ _ h) (aJ.mono x t)
 | _, _, .ref h => .ref (Wd.le_at x h)
 | _, _, .cls c => .cls c
 | _, _, .ty t => .ty t
 | _, _, .sl h => .sl (x.1 _ _ h)
theorem aJ.mono (x : w.le w') : ∀ {vs : List V} {ds : List D}, aJ K T w vs ds → aJ K T w' vs ds
 | _, _, .nil => .nil
 | _, _, .cons h t => .cons (sS.mono x h) (aJ.mono x t)
end
theorem aJ.length : ∀ {vs : List V} {ds : List D}, aJ K T w vs ds → vs.length = ds.length
 | _, _, .nil => rfl
 | _, _, .cons _ t => congrArg Nat.succ (aJ.length t)
theorem aJ.get : ∀ {vs : List V} {ds : List D} {i : Nat} {d : D}, aJ K T w vs ds → ds[i]? = some d → ∃ v, vs[i]? = some v ∧ sS K T w v d
 | _, _, _, _, .nil, e => by simp at e
 | _, _, 0, _, .cons h _, e => by
   simp at e
   subst e
   exact ⟨_, rfl, h⟩
 | _, _, i + 1, d, .cons _ t, e => by
   obtain ⟨v, h1, h2⟩ := aJ.get (i := i) (d := d) t (by simpa using e)
   exact ⟨v, by simpa using h1, h2⟩
theorem aJ.append : ∀ {vs us : List V} {ds es : List D}, aJ K T w vs ds → aJ K T w us es → aJ K T w (vs ++ us) (ds ++ es)
 | _, _, _, _, .nil, t => t
 | _, _, _, _, .cons h r, t => .cons h (aJ.append r t)
theorem aJ.drop : ∀ {vs : List V} {ds : List D} (n : Nat), aJ K T w vs ds → aJ K T w (vs.drop n) (ds.drop n)
 | _, _, 0, h => h
 | _, _, _ + 1, .nil => .nil
 | _, _, n + 1, .cons _ t => aJ.drop n t
theorem aJ.take : ∀ {vs : List V} {ds : List D} (n : Nat), aJ K T w vs ds → aJ K T w (vs.take n) (ds.take n)
 | _, _, 0, _ => .nil
 | _, _, _ + 1, .nil => .nil
 | _, _, n + 1, .cons h t => .cons h (aJ.take n t)
theorem aJ.set : ∀ {vs : List V} {ds : List D} {v : V} {d : D} (n : Nat), aJ K T w vs ds → sS K T w v d → aJ K T w (vs.set n v) (ds.set n d)
 | _, _, _, _, _, .nil, _ => .nil
 | _, _, _, _, 0, .cons _ t, h => .cons h t
 | _, _, _, _, n + 1, .cons h t, k => .cons h (aJ.set n t k)
theorem aJ.ints : ∀ {vs : List V} {is : List Int}, aJ K T w vs (is.map D.int) → vs = is.map V.int
 | _, [], .nil => rfl
 | _, i :: is, .cons h t => by
   cases h
   rw [aJ.ints t]
   rfl
end
structure Bs where
 w0 : Wd
 H0 : Hp
 P : List (Addr × HO)
 /-- where an __init__'s own instance is: in slot 0, as long as that holds an object of the body's own -/
 me : Option Addr
abbrev Bs.of (w : Wd) (H : Hp) : Bs := ⟨w, H, [], none⟩
structure Own (B : Bs) (w : Wd) (p : Addr) : Prop where
 f : w.F p = none
 i : p ∉ w.I
 e : B.H0 p = none
 p : ∀ q ∈ B.P, q.1 ≠ p
inductive Am (K : PySem.W.Frag) (T : Tb) (w : Wd) : HO → D → Prop where
 | lst {vs : List V} {ds : List D} : aJ K T w vs ds → Am K T w (.lst vs) (.nl ds)
 | obj {dx : Addr} {c : Nat} {vs : List V} {ds : List D} : aJ K T w vs ds → Am K T w (.ins (T.cad c) dx ((T.fld c).zip vs)) (.no c ds)
theorem Am.own {K : PySem.W.Frag} {T : Tb} {w : Wd} {o : HO} {d : D} (x : Am K T w o d) : d.own = true := by
 cases x <;> rfl
theorem Am.mono {K : PySem.W.Frag} {T : Tb} {w w' : Wd} {o : HO} {d : D} (l : w.le w') (x : Am K T w o d) : Am K T w' o d := by
 cases x with
 | lst r => exact .lst (r.mono l)
 | obj r => exact .obj (r.mono l)
theorem Am.fz {K : PySem.W.Frag} {T : Tb} {w w' : Wd} {o : HO} {d : D} {p : Addr} (l : w.le w') (e : w'.F p = some o) (x : Am K T w o d) : sS K T w' (.ref p) d.fz := by
 cases x with
 | lst r => exact .fl e (r.mono l)
 | obj r => exact .obj e (r.mono l)
theorem Nt {K : PySem.W.Frag} {T : Tb} {w : Wd} {v : V} {d : D} (r : sS K T w v d) : d.own = false := by
 cases r <;> rfl
theorem afx {K : PySem.W.Frag} {T : Tb} {w : Wd} {v : V} {d : D} (r : sS K T w v d) : d.fz = d := by
 cases r <;> rfl
theorem Do {K : PySem.W.Frag} {T : Tb} {w : Wd} {v : V} {d : D} (o : d.own = true) (r : sS K T w v d) : False := by
 rw [Nt r] at o
 cases o
theorem acK (d : D) : d.fz.own = false := by
 cases d <;> rfl
inductive Nu (K : PySem.W.Frag) (T : Tb) (B : Bs) (w : Wd) (H : Hp) : Option V → Option D → Prop where
 | none {v : Option V} : Nu K T B w H v none
 | val {v : V} {d : D} : sS K T w v d → Nu K T B w H (some v) (some d)
 | own {p : Addr} {o : HO} {d : D} : Own B w p → H p = some o → Am K T w o d → Nu K T B w H (some (.ref p)) (some d)
inductive Ht (K : PySem.W.Frag) (T : Tb) (w : Wd) : HO → D → Prop where
 | lst {vs : List V} {ds : List D} : aJ K T w vs ds → Ht K T w (.lst vs) (.nl ds)
 | obj {dx : Addr} {c : Nat} {vs : List V} {ds : List D} : aJ K T w vs ds → Ht K T w (.ins (T.cad c) dx ((T.fld c).zip vs)) (.no c ds)
 | dct {ks : List (List Key)} {vs : List V} {ds : List D} : ks.length = ds.length → aJ K T w vs ds → Ht K T w (.dT (ks.zip vs)) (.dc ks ds)
 | dkt {ks : List Key} {vs : List V} {ds : List D} : ks.length = ds.length → aJ K T w vs ds → Ht K T w (.dK (ks.zip vs)) (.dk ks ds)
theorem Am.cel {K : PySem.W.Frag} {T : Tb} {w : Wd} {o : HO} {d : D} (x : Am K T w o d) : Ht K T w o d := by
 cases x with
 | lst r => exact .lst r
 | obj r => exact .obj r
theorem Ht.mono {K : PySem.W.Frag} {T : Tb} {w w' : Wd} {o : HO} {d : D} (l : w.le w') (x : Ht K T w o d) : Ht K T w' o d := by
 cases x with
 | lst r => exact .lst (r.mono l)
 | obj r => exact .obj (r.mono l)
 | dct h r => exact .dct h (r.mono l)
 | dkt h r => exact .dkt h (r.mono l)
def Mh (K : PySem.W.Frag) (T : Tb) (w : Wd) (H : Hp) (a : Addr) (d : D) : Prop := ∃ o, H a = some o ∧ Ht K T w o d
def Fv (σ : St) (fr : Fr) (i : Nat) (p : Addr) : Prop := σ[i]? = some (some (.ref p)) ∧ ∃ d, fr[i]? = some (some d) ∧ d.own = true
structure Rel (K : PySem.W.Frag) (T : Tb) (B : Bs) (w : Wd) (σ : St) (H : Hp) (fr : Fr) (h : Hh) : Prop where
 le : B.w0.le w
 nF : ∀ a, w.F a ≠ none → B.w0.F a ≠ none ∨ B.H0 a = none
 nI : ∀ a ∈ w.I, a ∈ B.w0.I ∨ B.H0 a = none
 keep : ∀ a o, B.H0 a = some o → a ∉ B.w0.I → H a = some o
 prot : ∀ q ∈ B.P, H q.1 = some q.2 ∧ w.F q.1 = none ∧ q.1 ∉ w.I
 sub : ∀ a o, w.F a = some o → H a = some o
 len : w.I.length = h.length
 nd : w.I.Nodup
 dis : ∀ a ∈ w.I, w.F a = none
 cel : ∀ (n : Nat) a c, w.I[n]? = some a → h[n]? = some c → Mh K T w H a c
 fl : fr.length = σ.length
 sl : ∀ (i : Nat) s d, σ[i]? = some s → fr[i]? = some d → Nu K T B w H s d
 sep : ∀ i j p, i ≠ j → Fv σ fr i p → Fv σ fr j p → False
 me : ∀ x d, B.me = some x → fr[0]? = some (some d) → d.own = true → σ[0]? = some (some (.ref x))
section
variable {K : PySem.W.Frag} {T : Tb} {B : Bs} {w w' : Wd} {σ : St} {H H' : Hp} {fr : Fr} {h : Hh}
theorem Rel.nP (R : Rel K T B w σ H fr h) {p : Addr} (np : H p = none) : w.F p = none ∧ p ∉ w.I ∧ (∀ q ∈ B.P, q.1 ≠ p) := by
 refine ⟨?_, fun hm => ?_, fun q hq e => ?_⟩
 · cases e : w.F p with
   | none => rfl
   | some o =>
     have := R.sub p o e
     rw [np] at this
     cases this
 · obtain ⟨n, hn, e⟩ := List.getElem_of_mem hm
   have hl : n < h.length := by rw [← R.len]; exact hn
   obtain ⟨o, q, _⟩ := R.cel n p h[n] (by rw [alv hn, e]) (alv hl)
   rw [np] at q
   cases q
 · have z := (R.prot q hq).1
   rw [e, np] at z
   cases z
theorem Rel.iSome (R : Rel K T B w σ H fr h) {a : Addr} (hm : a ∈ w.I) : H a ≠ none := fun np => (R.nP np).2.1 hm
theorem Mh.keep {a : Addr} {c : D} (x : w.le w') (e : H' a = H a) (z : Mh K T w H a c) : Mh K T w' H' a c := by
 obtain ⟨o, q, r⟩ := z
 exact ⟨o, by rw [e]; exact q, r.mono x⟩
theorem Rel.grow (R : Rel K T B w σ H fr h) (x : w.le w') (eI : w'.I = w.I) (hk : ∀ a o, H a = some o → H' a = some o) (hF : ∀ a o, w'.F a = some o → H' a = some o)
 (hn : ∀ a, w'.F a ≠ none → w.F a ≠ none ∨ H a = none) (he : ∀ a, H a = none → B.H0 a = none ∨ True) : Rel K T B w' σ H' fr h where
 le := Wd.le_trans R.le x
 nF := fun a ha => by
  rcases hn a ha with q | q
  · exact R.nF a q
  · right
    cases e : B.H0 a with
    | none => rfl
    | some o =>
      by_cases hm : a ∈ B.w0.I
      · exact absurd q (R.iSome (Wd.le_mem R.le hm))
      · have := R.keep a o e hm
        rw [q] at this
        cases this
 nI := fun a ha => R.nI a (by rw [← eI]; exact ha)
 keep := fun a o e hm => hk a o (R.keep a o e hm)
 prot := fun q hq => by
  obtain ⟨h1, h2, h3⟩ := R.prot q hq
  refine ⟨hk _ _ h1, ?_, by rw [eI]; exact h3⟩
  cases e : w'.F q.1 with
  | none => rfl
  | some o =>
    rcases hn q.1 (by rw [e]; simp) with z | z
    · exact absurd h2 z
    · rw [h1] at z
      cases z
 sub := hF
 len := by rw [eI]; exact R.len
 nd := by rw [eI]; exact R.nd
 dis := fun a ha => by
  have hm : a ∈ w.I := by rw [← eI]; exact ha
  cases e : w'.F a with
  | none => rfl
  | some o =>
    rcases hn a (by rw [e]; simp) with z | z
    · exact absurd (R.dis a hm) z
    · exact absurd z (R.iSome hm)
 cel := fun n a c e1 e2 => by
  have e1' : w.I[n]? = some a := by rw [← eI]; exact e1
  have z := R.cel n a c e1' e2
  refine Mh.keep x ?_ z
  have hs := R.iSome (alB e1')
  cases q : H a with
  | none => exact absurd q hs
  | some o => exact hk a o q
 fl := R.fl
 sl := fun i s d e1 e2 => by
  have z := R.sl i s d e1 e2
  cases z with
  | none => exact .none
  | val r => exact .val (r.mono x)
  | own o e r =>
    refine .own ⟨?_, by rw [eI]; exact o.i, o.e, o.p⟩ (hk _ _ e) (r.mono x)
    cases q : w'.F _ with
    | none => rfl
    | some u =>
      rcases hn _ (by rw [q]; simp) with z | z
      · exact absurd o.f z
      · rw [e] at z
        cases z
 sep := R.sep
 me := R.me
def Wd.add (w : Wd) (p : Addr) (o : HO) : Wd := ⟨upd w.F p o, w.I⟩
theorem Wd.le_add {p : Addr} {o : HO} (e : w.F p = none) : w.le (w.add p o) :=
 ⟨fun a u h => by
  show upd w.F p o a = some u
  rw [upd_ne (ne_of_none h e)]
  exact h, [], by simp [Wd.add]⟩
theorem Rel.laid (R : Rel K T B w σ H fr h) {p : Addr} {o : HO} (np : H p = none) : Rel K T B (w.add p o) σ (upd H p o) fr h := by
 refine R.grow (Wd.le_add (R.nP np).1) rfl (fun a u e => ?_) (fun a u e => ?_) (fun a e => ?_) (fun _ _ => .inr trivial)
 · rw [upd_ne (ne_of_none e np)]
   exact e
 · have e' : upd w.F p o a = some u := e
   by_cases ha : a = p
   · subst ha
     rw [upd_same] at e' ⊢
     exact e'
   · rw [upd_ne ha] at e' ⊢
     exact R.sub a u e'
 · have e' : upd w.F p o a ≠ none := e
   by_cases ha : a = p
   · subst ha
     exact .inr np
   · rw [upd_ne ha] at e'
     exact .inl e'
theorem Rel.temp (R : Rel K T B w σ H fr h) {p : Addr} {o : HO} (np : H p = none) : Rel K T B w σ (upd H p o) fr h :=
 R.grow (Wd.le_refl w) rfl (fun a u e => by rw [upd_ne (ne_of_none e np)]; exact e) (fun a u e => by rw [upd_ne (ne_of_none (R.sub a u e) np)]; exact R.sub a u e) (fun a e => .inl e) (fun _ _ => .inr trivial)
theorem Rel.own_new (R : Rel K T B w σ H fr h) {p : Addr} (np : H p = none) : Own B w p := by
 obtain ⟨h1, h2, h3⟩ := R.nP np
 refine ⟨h1, h2, ?_, h3⟩
 cases e : B.H0 p with
 | none => rfl
 | some o =>
   by_cases hm : p ∈ B.w0.I
   · exact absurd np (R.iSome (Wd.le_mem R.le hm))
   · have := R.keep p o e hm
     rw [np] at this
     cases this
def Fw (σ : St) (fr : Fr) (p : Addr) : Prop := ∀ i, ¬ Fv σ fr i p
theorem Rel.loose_new (R : Rel K T B w σ H fr h) {p : Addr} (np : H p = none) : Fw σ fr p := fun i ⟨e1, d, e2, od⟩ => by
 have z := R.sl i _ _ e1 e2
 cases z with
 | val r => exact Do od r
 | own o e r =>
   rw [np] at e
   cases e
theorem Rel.freeze (R : Rel K T B w σ H fr h) {p : Addr} {o : HO} (O : Own B w p) (l : Fw σ fr p) (e : H p = some o) : Rel K T B (w.add p o) σ H fr h where
 le := Wd.le_trans R.le (Wd.le_add O.f)
 nF := fun a ha => by
  have e' : upd w.F p o a ≠ none := ha
  by_cases hp : a = p
  · subst hp
    exact .inr O.e
  · rw [upd_ne hp] at e'
    exact R.nF a e'
 nI := R.nI
 keep := R.keep
 prot := fun q hq => by
  obtain ⟨h1, h2, h3⟩ := R.prot q hq
  refine ⟨h1, ?_, h3⟩
  show upd w.F p o q.1 = none
  rw [upd_ne (O.p q hq)]
  exact h2
 sub := fun a u ha => by
  have e' : upd w.F p o a = some u := ha
  by_cases hp : a = p
  · subst hp
    rw [upd_same] at e'
    rw [← e']
    exact e
  · rw [upd_ne hp] at e'
    exact R.sub a u e'
 len := R.len
 nd := R.nd
 dis := fun a ha => by
  show upd w.F p o a = none
  have hne : a ≠ p := fun z => O.i (by rw [← z]; exact ha)
  rw [upd_ne hne]
  exact R.dis a ha
 cel := fun n a c e1 e2 => Mh.keep (Wd.le_add O.f) rfl (R.cel n a c e1 e2)
 fl := R.fl
 sl := fun i s d e1 e2 => by
  have z := R.sl i s d e1 e2
  cases z with
  | none => exact .none
  | val r => exact .val (r.mono (Wd.le_add O.f))
  | @own q _ _ o' e' r =>
    refine .own ⟨?_, o'.i, o'.e, o'.p⟩ e' (r.mono (Wd.le_add O.f))
    show upd w.F p o q = none
    have hne : q ≠ p := fun z => l i ⟨by rw [← z]; exact e1, _, e2, r.own⟩
    rw [upd_ne hne]
    exact o'.f
 sep := R.sep
 me := R.me
theorem Pn {σ : St} {fr : Fr} {i j : Nat} {s : Option V} {d : Option D} {p : Addr} (hi : i ≠ j) (o : Fv (σ.set j s) (fr.set j d) i p) : Fv σ fr i p := by
 obtain ⟨e1, dd, e2, od⟩ := o
 rw [alx (Ne.symm hi)] at e1 e2
 exact ⟨e1, dd, e2, od⟩
theorem Rel.set_slot (R : Rel K T B w σ H fr h) {i : Nat} {s : Option V} {d : Option D} (r : Nu K T B w H s d) (hp : ∀ p d', s = some (.ref p) → d = some d' → d'.own = true → Fw σ fr p) (hm : i = 0 → ∀ d', d = some d' → d'.own = false) : Rel K T B w (σ.set i s) H (fr.set i d) h :=
 { R with
   me := fun x d' bx e od => by
    by_cases hi : i = 0
    · subst hi
      have l2 : 0 < fr.length := by
       have := (List.getElem?_eq_some_iff.mp e).1
       rwa [alA] at this
      rw [aly l2] at e
      rw [hm rfl d' (Option.some.inj e)] at od
      cases od
    · rw [alx hi] at e ⊢
      exact R.me x d' bx e od
   fl := by rw [alA, alA]; exact R.fl
   sl := fun j s' d' e1 e2 => by
    by_cases hj : i = j
    · subst hj
      have l1 : i < σ.length := by
       have := (List.getElem?_eq_some_iff.mp e1).1
       rwa [alA] at this
      rw [aly l1] at e1
      rw [aly (by rw [R.fl]; exact l1)] at e2
      cases e1
      cases e2
      exact r
    · rw [alx hj] at e1 e2
      exact R.sl j s' d' e1 e2
   sep := fun a b p hab o1 o2 => by
    have key : ∀ a b, a ≠ b → a = i → Fv (σ.set i s) (fr.set i d) a p → Fv (σ.set i s) (fr.set i d) b p → False := fun a b hab ha o1 o2 => by
     subst ha
     have o2' := Pn (Ne.symm hab) o2
     obtain ⟨e1, dd, e2, od⟩ := o1
     have l1 : a < σ.length := by
      have := (List.getElem?_eq_some_iff.mp e1).1
      rwa [alA] at this
     rw [aly l1] at e1
     rw [aly (by rw [R.fl]; exact l1)] at e2
     cases e1
     cases e2
     exact hp p dd rfl rfl od b o2'
    by_cases ha : a = i
    · exact key a b hab ha o1 o2
    · by_cases hb : b = i
      · exact key b a (Ne.symm hab) hb o2 o1
      · exact R.sep a b p hab (Pn ha o1) (Pn hb o2) }
theorem Rel.drop_slot (R : Rel K T B w σ H fr h) (i : Nat) : Rel K T B w σ H (fr.set i none) h :=
 { R with
   me := fun x d' bx e od => by
    by_cases hi : i = 0
    · subst hi
      have l2 : 0 < fr.length := by
       have := (List.getElem?_eq_some_iff.mp e).1
       rwa [alA] at this
      rw [aly l2] at e
      cases e
    · rw [alx hi] at e
      exact R.me x d' bx e od
   fl := by rw [alA]; exact R.fl
   sl := fun j s' d' e1 e2 => by
    by_cases hj : i = j
    · subst hj
      have l2 : i < fr.length := by
       have := (List.getElem?_eq_some_iff.mp e2).1
       rwa [alA] at this
      rw [aly l2] at e2
      cases e2
      exact .none
    · rw [alx hj] at e2
      exact R.sl j s' d' e1 e2
   sep := fun a b p hab o1 o2 => by
    have key : ∀ a, Fv σ (fr.set i none) a p → Fv σ fr a p := fun a o => by
     obtain ⟨e1, dd, e2, od⟩ := o
     by_cases ha : i = a
     · subst ha
       have l2 : i < fr.length := by
        have := (List.getElem?_eq_some_iff.mp e2).1
        rwa [alA] at this
       rw [aly l2] at e2
       cases e2
     · rw [alx ha] at e2
       exact ⟨e1, dd, e2, od⟩
    exact R.sep a b p hab (key a o1) (key b o2) }
theorem Rel.freeze_slot (R : Rel K T B w σ H fr h) {i : Nat} {d : D} (e : fr[i]? = some (some d)) (od : d.own = true) :
 ∃ p o, σ[i]? = some (some (.ref p)) ∧ H p = some o ∧ Am K T w o d ∧ w.F p = none ∧ Rel K T B (w.add p o) σ H (fr.set i (some d.fz)) h := by
 have l2 : i < fr.length := (List.getElem?_eq_some_iff.mp e).1
 have l1 : i < σ.length := by rw [← R.fl]; exact l2
 have e1 : σ[i]? = some σ[i] := alv l1
 have z := R.sl i _ _ e1 e
 generalize hs : σ[i] = s at z e1
 cases z with
 | val r => exact (Do od r).elim
 | @own p o _ O eH r =>
   refine ⟨p, o, e1, eH, r, O.f, ?_⟩
   have R1 := R.drop_slot i
   have lo : Fw σ (fr.set i none) p := fun j q => by
    obtain ⟨q1, dq, q2, oq⟩ := q
    by_cases hj : i = j
    · subst hj
      rw [aly l2] at q2
      cases q2
    · rw [alx hj] at q2
      exact R.sep i j p hj ⟨e1, d, e, od⟩ ⟨q1, dq, q2, oq⟩
   have R2 := R1.freeze O lo eH
   have R3 := R2.set_slot (i := i) (s := some (.ref p)) (d := some d.fz) (.val (r.fz (Wd.le_add O.f) (by show upd w.F p _ p = _; rw [upd_same]))) (fun _ _ _ q oq => by
    cases q
    rw [acK] at oq
    cases oq) (fun _ d' q => by
    cases q
    exact acK d)
   rw [List.set_set] at R3
   have es : σ.set i (some (.ref p)) = σ := by
    have := List.set_getElem_self (as := σ) (h := l1)
    rw [hs] at this
    exact this
   rw [es] at R3
   exact R3
theorem YB {α : Type} : ∀ {l : List α} {i j : Nat} {a : α}, l.Nodup → l[i]? = some a → l[j]? = some a → i = j
 | [], _, _, _, _, e, _ => by simp at e
 | b :: l, 0, 0, _, _, _, _ => rfl
 | b :: l, 0, j + 1, a, n, e1, e2 => by
   simp at e1 e2
   subst e1
   exact absurd (alB e2) (List.nodup_cons.mp n).1
 | b :: l, i + 1, 0, a, n, e1, e2 => by
   simp at e1 e2
   subst e2
   exact absurd (alB e1) (List.nodup_cons.mp n).1
 | b :: l, i + 1, j + 1, a, n, e1, e2 => by
   simp at e1 e2
   rw [YB (List.nodup_cons.mp n).2 e1 e2]
theorem Rel.change_slot (R : Rel K T B w σ H fr h) {i : Nat} {d d' : D} {p : Addr} {o o' : HO} (e1 : σ[i]? = some (some (.ref p))) (e : fr[i]? = some (some d)) (O : Own B w p) (eH : H p = some o) (od : d.own = true) (r' : Am K T w o' d') :
 Rel K T B w σ (upd H p o') (fr.set i (some d')) h := by
 have l2 : i < fr.length := (List.getElem?_eq_some_iff.mp e).1
 have l1 : i < σ.length := by rw [← R.fl]; exact l2
 refine { R with keep := fun a u ha hm => ?_, prot := fun q hq => ?_, sub := fun a u ha => ?_, cel := fun n a c q1 q2 => ?_, fl := by rw [alA]; exact R.fl, sl := fun j s dj q1 q2 => ?_, sep := fun a b q hab o1 o2 => ?_, me := fun x dx bx q od' => ?_ }
 · rw [upd_ne (fun z => by rw [z, O.e] at ha; cases ha)]
   exact R.keep a u ha hm
 · obtain ⟨h1, h2, h3⟩ := R.prot q hq
   exact ⟨by rw [upd_ne (O.p q hq)]; exact h1, h2, h3⟩
 · rw [upd_ne (fun z => by rw [z, O.f] at ha; cases ha)]
   exact R.sub a u ha
 · refine Mh.keep (Wd.le_refl w) ?_ (R.cel n a c q1 q2)
   exact upd_ne (fun z => O.i (z ▸ alB q1))
 · by_cases hj : i = j
   · subst hj
     rw [e1] at q1
     rw [aly l2] at q2
     cases q1
     cases q2
     exact .own O upd_same r'
   · rw [alx hj] at q2
     have z := R.sl j s dj q1 q2
     cases z with
     | none => exact .none
     | val r => exact .val r
     | @own q u _ O' eH' rr =>
       refine .own O' ?_ rr
       have hne : q ≠ p := fun z => R.sep i j p hj ⟨e1, d, e, od⟩ ⟨by rw [← z]; exact q1, _, q2, rr.own⟩
       rw [upd_ne hne]
       exact eH'
 · have key : ∀ a, Fv σ (fr.set i (some d')) a q → Fv σ fr a q := fun a ⟨q1, dq, q2, oq⟩ => by
    by_cases ha : i = a
    · subst ha
      exact ⟨q1, d, e, od⟩
    · rw [alx ha] at q2
      exact ⟨q1, dq, q2, oq⟩
   exact R.sep a b q hab (key a o1) (key b o2)
 · by_cases hi : i = 0
   · subst hi
     exact R.me x d bx e od
   · rw [alx hi] at q
     exact R.me x dx bx q od'
theorem Rel.change_cell (R : Rel K T B w σ H fr h) {n : Nat} {a : Addr} {d d' : D} {o' : HO} (e1 : w.I[n]? = some a) (e : h[n]? = some d) (r' : Ht K T w o' d') : Rel K T B w σ (upd H a o') fr (h.set n d') := by
 have hm : a ∈ w.I := alB e1
 have lh : n < h.length := (List.getElem?_eq_some_iff.mp e).1
 refine { R with keep := fun b u hb hn => ?_, prot := fun q hq => ?_, sub := fun b u hb => ?_, len := by rw [alA]; exact R.len, cel := fun k b c q1 q2 => ?_, sl := fun j s dj q1 q2 => ?_ }
 · rw [upd_ne (fun z => by
    subst z
    rcases R.nI _ hm with q | q
    · exact hn q
    · rw [q] at hb
      cases hb)]
   exact R.keep b u hb hn
 · obtain ⟨h1, h2, h3⟩ := R.prot q hq
   have hne : q.1 ≠ a := fun z => h3 (by rw [z]; exact hm)
   exact ⟨by rw [upd_ne hne]; exact h1, h2, h3⟩
 · rw [upd_ne (fun z => by rw [z, R.dis a hm] at hb; cases hb)]
   exact R.sub b u hb
 · by_cases hk : n = k
   · subst hk
     rw [e1] at q1
     rw [aly lh] at q2
     cases q1
     cases q2
     exact ⟨o', upd_same, r'⟩
   · rw [alx hk] at q2
     refine Mh.keep (Wd.le_refl w) (upd_ne fun z => ?_) (R.cel k b c q1 q2)
     subst z
     exact hk (YB R.nd e1 q1)
 · have z := R.sl j s dj q1 q2
   cases z with
   | none => exact .none
   | val r => exact .val r
   | @own q u _ O' eH' rr =>
     have hne : q ≠ a := fun z => O'.i (by rw [z]; exact hm)
     exact .own O' (by rw [upd_ne hne]; exact eH') rr
theorem Rel.to_cellO (R : Rel K T B w σ H fr h) {p : Addr} {o : HO} {d : D} (O : Own B w p) (lo : Fw σ fr p) (e : H p = some o) (r : Ht K T w o d) : Rel K T B ⟨w.F, w.I ++ [p]⟩ σ H fr (h ++ [d]) := by
 have le : w.le ⟨w.F, w.I ++ [p]⟩ := ⟨fun _ _ q => q, [p], rfl⟩
 refine ⟨Wd.le_trans R.le le, R.nF, fun a ha => ?_, R.keep, fun q hq => ?_, R.sub, ?_, ?_, fun a ha => ?_, fun n a c q1 q2 => ?_, R.fl, fun j s dj q1 q2 => ?_, R.sep, R.me⟩
 · rcases List.mem_append.mp ha with q | q
   · exact R.nI a q
   · rw [List.mem_singleton] at q
     subst q
     exact .inr O.e
 · obtain ⟨h1, h2, h3⟩ := R.prot q hq
   refine ⟨h1, h2, fun z => ?_⟩
   rcases List.mem_append.mp z with y | y
   · exact h3 y
   · rw [List.mem_singleton] at y
     exact O.p q hq y
 · show (w.I ++ [p]).length = (h ++ [d]).length
   rw [alD, alD, R.len]
   rfl
 · show (w.I ++ [p]).Nodup
   rw [List.nodup_append]
   exact ⟨R.nd, by simp, fun a ha b hb => by
    rw [List.mem_singleton] at hb
    subst hb
    exact fun z => O.i (z ▸ ha)⟩
 · rcases List.mem_append.mp ha with q | q
   · exact R.dis a q
   · rw [List.mem_singleton] at q
     subst q
     exact O.f
 · have q1' : (w.I ++ [p])[n]? = some a := q1
   by_cases hn : n < w.I.length
   · rw [List.getElem?_append_left hn] at q1'
     rw [List.getElem?_append_left (by rw [← R.len]; exact hn)] at q2
     exact Mh.keep le rfl (R.cel n a c q1' q2)
   · have hn' : w.I.length ≤ n := Nat.le_of_not_lt hn
     rw [alE hn'] at q1'
     rw [alE (by rw [← R.len]; exact hn'), ← R.len] at q2
     cases k : n - w.I.length with
     | zero =>
       rw [k] at q1' q2
       cases q1'
       cases q2
       exact ⟨o, e, r.mono le⟩
     | succ m =>
       rw [k] at q1'
       simp at q1'
 · have z := R.sl j s dj q1 q2
   cases z with
   | none => exact .none
   | val r => exact .val (r.mono le)
   | @own q u _ O' eH' rr =>
     refine .own ⟨O'.f, fun z => ?_, O'.e, O'.p⟩ eH' (rr.mono le)
     rcases List.mem_append.mp z with y | y
     · exact O'.i y
     · rw [List.mem_singleton] at y
       exact lo j ⟨by rw [← y]; exact q1, _, q2, rr.own⟩
theorem Rel.to_cell (R : Rel K T B w σ H fr h) {p : Addr} {o : HO} {d : D} (O : Own B w p) (lo : Fw σ fr p) (e : H p = some o) (r : Am K T w o d) : Rel K T B ⟨w.F, w.I ++ [p]⟩ σ H fr (h ++ [d]) := R.to_cellO O lo e r.cel
theorem M4 {i : Nat} {p : Addr} : ¬ Fv [] [] i p := fun ⟨q, _⟩ => by simp at q
theorem Rel.enter (R : Rel K T B w σ H fr h) : Rel K T (Bs.of w H) w [] H [] h where
 le := Wd.le_refl w
 nF := fun _ q => .inl q
 nI := fun _ q => .inl q
 keep := fun _ _ q _ => q
 prot := fun _ q => by cases q
 sub := R.sub
 len := R.len
 nd := R.nd
 dis := R.dis
 cel := R.cel
 fl := rfl
 sl := fun _ _ _ q => by simp at q
 sep := fun _ _ _ _ q => (M4 q).elim
 me := fun _ _ _ q _ => by simp at q
theorem Rel.unframe (R : Rel K T B w σ H fr h) : Rel K T B w [] H [] h where
 le := R.le
 nF := R.nF
 nI := R.nI
 keep := R.keep
 prot := R.prot
 sub := R.sub
 len := R.len
 nd := R.nd
 dis := R.dis
 cel := R.cel
 fl := rfl
 sl := fun _ _ _ q => by simp at q
 sep := fun _ _ _ _ q => (M4 q).elim
 me := fun _ _ _ q _ => by simp at q
theorem Rel.back {h' : Hh} (R : Rel K T B w σ H fr h) (x : w.le w') (C : Rel K T (Bs.of w H) w' [] H' [] h') : Rel K T B w' σ H' fr h' where
 le := Wd.le_trans R.le x
 nF := fun a ha => by
  rcases C.nF a ha with q | q
  · exact R.nF a q
  · exact .inr (R.own_new q).e
 nI := fun a ha => by
  rcases C.nI a ha with q | q
  · exact R.nI a q
  · exact .inr (R.own_new q).e
 keep := fun a o e hm => C.keep a o (R.keep a o e hm) fun z => by
  rcases R.nI a z with q | q
  · exact hm q
  · rw [q] at e
    cases e
 prot := fun q hq => by
  obtain ⟨h1, h2, h3⟩ := R.prot q hq
  refine ⟨C.keep _ _ h1 h3, ?_, fun z => ?_⟩
  · cases e : w'.F q.1 with
    | none => rfl
    | some o =>
      rcases C.nF q.1 (by rw [e]; simp) with y | y
      · exact absurd h2 y
      · have y' : H q.1 = none := y
        rw [h1] at y'
        cases y'
  · rcases C.nI _ z with y | y
    · exact h3 y
    · have y' : H q.1 = none := y
      rw [h1] at y'
      cases y'
 sub := C.sub
 len := C.len
 nd := C.nd
 dis := C.dis
 cel := C.cel
 fl := R.fl
 sl := fun i s d e1 e2 => by
  have z := R.sl i s d e1 e2
  cases z with
  | none => exact .none
  | val r => exact .val (r.mono x)
  | @own p o _ O eH rr =>
    refine .own ⟨?_, fun z => ?_, O.e, O.p⟩ (C.keep _ _ eH O.i) (rr.mono x)
    · cases e : w'.F p with
      | none => rfl
      | some o =>
        rcases C.nF p (by rw [e]; simp) with y | y
        · exact absurd O.f y
        · have y' : H p = none := y
          rw [eH] at y'
          cases y'
    · rcases C.nI _ z with y | y
      · exact O.i y
      · have y' : H p = none := y
        rw [eH] at y'
        cases y'
 sep := R.sep
 me := R.me
end
end Pk
namespace Pk
open PySem PySem.Spec L2
structure bh where
 c : Nat
 fs : List D
inductive R (α : Type) where
 | ok (a : α) (fr : Fr) (h : Hh)
 | exc (x : bh) (fr : Fr) (h : Hh)
 | err
abbrev M (α : Type) := Fr → Hh → R α
def M.ret {α : Type} (a : α) : M α := fun fr h => .ok a fr h
def M.bind {α β : Type} (m : M α) (f : α → M β) : M β := fun fr h => match m fr h with
 | .ok a fr h => f a fr h
 | .exc x fr h => .exc x fr h
 | .err => .err
def M.opt {α : Type} (o : Option α) : M α := fun fr h => match o with
 | some a => .ok a fr h
 | none => .err
@[simp] theorem M.bind_ret {α β : Type} (a : α) (f : α → M β) : (M.ret a).bind f = f a := rfl
@[simp] theorem M.ret_ap {α : Type} (a : α) (fr : Fr) (h : Hh) : M.ret a fr h = .ok a fr h := rfl
@[simp] theorem M.opt_some {α : Type} (a : α) (fr : Fr) (h : Hh) : M.opt (some a) fr h = .ok a fr h := rfl
@[simp] theorem M.opt_none {α : Type} (fr : Fr) (h : Hh) : M.opt (none : Option α) fr h = .err := rfl
theorem M.bind_ok {α β : Type} {m : M α} {f : α → M β} {fr fr1 : Fr} {h h1 : Hh} {a : α} (e : m fr h = .ok a fr1 h1) : m.bind f fr h = f a fr1 h1 := by
 unfold M.bind
 rw [e]
theorem M.bind_exc {α β : Type} {m : M α} {f : α → M β} {fr fr1 : Fr} {h h1 : Hh} {x : bh} (e : m fr h = .exc x fr1 h1) : m.bind f fr h = .exc x fr1 h1 := by
 unfold M.bind
 rw [e]
theorem M.bind_err {α β : Type} {m : M α} {f : α → M β} {fr : Fr} {h : Hh} (e : m fr h = .err) : m.bind f fr h = .err := by
 unfold M.bind
 rw [e]
def V5 (K : PySem.W.Frag) (T : Tb) (w : Wd) (x : bh) (cls : Value) (dd : Option Addr) : Prop :=
 cls = .ref (T.cad x.c) ∧ ((x.fs = [] ∧ dd = none) ∨ ∃ d vs, dd = some d ∧ w.F d = some (.xd ((T.fld x.c).zip vs)) ∧ aJ K T w vs x.fs)
section
variable {α β : Type}
def bz (K : PySem.W.Frag) (T : Tb) (B : Bs) (W : WX) (VR : Wd → Hp → Fr → β → α → Prop) (w : Wd) (σ : L2.St) (r : R α) (Q : β → Hp → Prop) : Prop :=
 match r with
 | .ok d fr h => ∀ w' H' v, w.le w' → Rel K T B w' σ H' fr h → VR w' H' fr v d → Q v H'
 | .exc x fr h => ∀ w' H' cls dd, w.le w' → Rel K T B w' σ H' fr h → V5 K T w' x cls dd → W cls dd σ H'
 | .err => False
end
abbrev wD (β α : Type) := PySem.W.Frag → Tb → Bs → L2.St → Wd → Hp → Fr → β → α → Prop
def vV : wD V D := fun K T _ _ w _ _ v d => sS K T w v d
def vE : wD V D := fun K T B σ w H fr v d => sS K T w v d ∨ ∃ p o, v = .ref p ∧ Own B w p ∧ Fw σ fr p ∧ H p = some o ∧ Am K T w o d
def vO : wD V D := fun K T _ _ w H _ v d => sS K T w v d ∨ ∃ p o, v = .ref p ∧ H p = some o ∧ Am K T w o d
def vB : wD Bool Bool := fun _ _ _ _ _ _ _ b c => b = c
def vA : wD (List V) (List D) := fun K T _ _ w _ _ vs ds => aJ K T w vs ds
def v5 {α β : Type} (run : L2.St → Hp → (β → Hp → Prop) → Prop) (K : PySem.W.Frag) (T : Tb) (W : WX) (VR : wD β α) (m : M α) : Prop :=
 ∀ (B : Bs) (w : Wd) (σ : L2.St) (H : Hp) (fr : Fr) (h : Hh) (Q : β → Hp → Prop), Rel K T B w σ H fr h → bz K T B W (VR K T B σ) w σ (m fr h) Q → run σ H Q
section
variable {α β γ δ : Type} {K : PySem.W.Frag} {T : Tb} {B : Bs} {W : WX} {w w' : Wd} {σ : L2.St} {H : Hp}
theorem bz.le {VR : Wd → Hp → Fr → β → α → Prop} {r : R α} {Q : β → Hp → Prop} (x : w.le w') (p : bz K T B W VR w σ r Q) : bz K T B W VR w' σ r Q := by
 cases r with
 | ok d fr h => exact fun w2 H2 v y => p w2 H2 v (Wd.le_trans x y)
 | exc e fr h => exact fun w2 H2 c d y => p w2 H2 c d (Wd.le_trans x y)
 | err => exact p
theorem bz.imp {VR : Wd → Hp → Fr → β → α → Prop} {r : R α} {Q Q' : β → Hp → Prop} (p : bz K T B W VR w σ r Q) (hq : ∀ v H, Q v H → Q' v H) : bz K T B W VR w σ r Q' := by
 cases r with
 | ok d fr h => exact fun w2 H2 v y r z => hq _ _ (p w2 H2 v y r z)
 | exc e fr h => exact p
 | err => exact p
theorem bz.bind {VR : Wd → Hp → Fr → γ → δ → Prop} {VR' : Wd → Hp → Fr → β → α → Prop} {m : M δ} {f : δ → M α} {fr : Fr} {h : Hh} {Q : β → Hp → Prop} {Q' : γ → Hp → Prop} (p : bz K T B W VR' w σ (m.bind f fr h) Q)
 (k : ∀ d fr1 h1 w1 H1 v, m fr h = .ok d fr1 h1 → w.le w1 → Rel K T B w1 σ H1 fr1 h1 → VR w1 H1 fr1 v d → bz K T B W VR' w1 σ (f d fr1 h1) Q → Q' v H1) : bz K T B W VR w σ (m fr h) Q' := by
 cases e : m fr h with
 | ok d fr1 h1 =>
   rw [M.bind_ok e] at p
   exact fun w1 H1 v x r z => k d fr1 h1 w1 H1 v e x r z (p.le x)
 | exc y fr1 h1 =>
   rw [M.bind_exc e] at p
   exact p
 | err =>
   rw [M.bind_err e] at p
   exact p
theorem v5.bind {run1 : L2.St → Hp → (γ → Hp → Prop) → Prop} {run2 : γ → L2.St → Hp → (β → Hp → Prop) → Prop} {VR1 : wD γ δ} {VR : wD β α} {m : M δ} {f : δ → M α} (s1 : v5 run1 K T W VR1 m)
 (s2 : ∀ B w σ H fr h d v Q, Rel K T B w σ H fr h → VR1 K T B σ w H fr v d → bz K T B W (VR K T B σ) w σ (f d fr h) Q → run2 v σ H Q) :
 v5 (fun σ H Q => run1 σ H fun v H1 => run2 v σ H1 Q) K T W VR (m.bind f) := fun B w σ H fr h Q r p =>
 s1 B w σ H fr h _ r (p.bind fun d fr1 h1 w1 H1 v e x r1 z p1 => s2 B w1 σ H1 fr1 h1 d v Q r1 z p1)
end
structure WE (X : Cx) (e : Expr) (σ : L2.St) (H : Hp) (Q : VK) : Prop where
 go : ∀ pins s, Inv X pins σ H s → wpAny (model X.prog X.w) X.A (eval e X.env) (EP X pins σ Q) X.xe s
structure WT (X : Cx) (e : Expr) (σ : L2.St) (H : Hp) (Q : Bool → Hp → Prop) : Prop where
 go : ∀ pins s, Inv X pins σ H s → wpAny (model X.prog X.w) X.A (isTrue e X.env (eval e X.env)) (TP X pins σ Q) X.xe s
structure WW (X : Cx) (e : Expr) (σ : L2.St) (H : Hp) (Q : Bool → Hp → Prop) : Prop where
 go : ∀ whole pins s, Inv X pins σ H s → wpAny (model X.prog X.w) X.A (isTrue e X.env whole) (TP X pins σ Q) X.xe s
structure WA (X : Cx) (es : List Expr) (σ : L2.St) (H : Hp) (Q : List V → Hp → Prop) : Prop where
 go : ∀ pos pins s, Inv X pins σ H s → wpAny (model X.prog X.w) X.A (spliced (backTo pos (starEach es X.env))) (AP X pins σ Q) X.xe s
structure WS (X : Cx) (st : Stmt) (D : Ends) (σ : L2.St) (H : Hp) : Prop where
 go : ∀ pins s, Inv X pins σ H s → wpAny (model X.prog X.w) X.A (exec st X.env) (SP X pins D) X.xe s
structure YC (X : Cx) (st : List Stmt) (D : Ends) (σ : L2.St) (H : Hp) : Prop where
 go : ∀ pins s, Inv X pins σ H s → wpAny (model X.prog X.w) X.A (execs st X.env) (SP X pins D) X.xe s
def rM (X : Cx) (f : Value → Value → Sem Value) : R2 := fun x y H Q => ∀ pins s σ v u, Inv X pins σ H s → RelV x v → RelV y u → wpAny (model X.prog X.w) X.A (f v u) (EP X pins σ Q) X.xe s
def uM (X : Cx) (f : Value → Sem Value) : V → Hp → VK → Prop := fun x H Q => ∀ pins s σ v, Inv X pins σ H s → RelV x v → wpAny (model X.prog X.w) X.A (f v) (EP X pins σ Q) X.xe s
def cM (X : Cx) (f : Value) : List V → Hp → VK → Prop := fun xs H Q => ∀ pins s σ us, Inv X pins σ H s → Vals xs us → wpAny (model X.prog X.w) X.A (call f us) (EP X pins σ Q) X.xe s
section
variable {X : Cx} {e : Expr} {es : List Expr} {st : Stmt} {sts : List Stmt}
theorem nU : PE X e (WE X e) := ⟨fun pins s σ H Q I h => h.go pins s I⟩
theorem Gz : PT X e (WT X e) := ⟨fun pins s σ H Q I h => h.go pins s I⟩
theorem YD : PW X e (WW X e) := ⟨fun wh pins s σ H Q I h => h.go wh pins s I⟩
theorem Kg : PA X es (WA X es) := ⟨fun pos pins s σ H Q I h => h.go pos pins s I⟩
theorem acL : PS X st (WS X st) := ⟨fun pins s σ H D I h => h.go pins s I⟩
theorem Ce : PSs X sts (YC X sts) := ⟨fun pins s σ H D I h => h.go pins s I⟩
theorem vm {t : TE} (p : PE X e t) {σ : L2.St} {H : Hp} {Q : VK} (h : t σ H Q) : WE X e σ H Q := ⟨fun pins s I => p.run pins s σ H Q I h⟩
theorem UV {t : TT} (p : PT X e t) {σ : L2.St} {H : Hp} {Q : Bool → Hp → Prop} (h : t σ H Q) : WT X e σ H Q := ⟨fun pins s I => p.run pins s σ H Q I h⟩
theorem Yg {t : TT} (p : PW X e t) {σ : L2.St} {H : Hp} {Q : Bool → Hp → Prop} (h : t σ H Q) : WW X e σ H Q := ⟨fun wh pins s I => p.run wh pins s σ H Q I h⟩
theorem Rv {t : TA} (p : PA X es t) {σ : L2.St} {H : Hp} {Q : List V → Hp → Prop} (h : t σ H Q) : WA X es σ H Q := ⟨fun pos pins s I => p.run pos pins s σ H Q I h⟩
theorem Ac {t : TS} (p : PS X st t) {D : Ends} {σ : L2.St} {H : Hp} (h : t D σ H) : WS X st D σ H := ⟨fun pins s I => p.run pins s σ H D I h⟩
theorem V6 {t : TS} (p : PSs X sts t) {D : Ends} {σ : L2.St} {H : Hp} (h : t D σ H) : YC X sts D σ H := ⟨fun pins s I => p.run pins s σ H D I h⟩
theorem Kh {f : Value → Value → Sem Value} : OpR X f (rM X f) := fun pins s σ H x y v u Q I rx ry h => h pins s σ v u I rx ry
theorem Cz {f : Value → Value → Sem Value} {r : R2} (o : OpR X f r) {x y : V} {H : Hp} {Q : VK} (h : r x y H Q) : rM X f x y H Q := fun pins s σ v u I rx ry => o pins s σ H x y v u Q I rx ry h
theorem agB {f : Value → Sem Value} : UnR X f (uM X f) := fun pins s σ H x v Q I rx h => h pins s σ v I rx
theorem ahZ {f : Value → Sem Value} {r : V → Hp → VK → Prop} (o : UnR X f r) {x : V} {H : Hp} {Q : VK} (h : r x H Q) : uM X f x H Q := fun pins s σ v I rx => o pins s σ H x v Q I rx h
theorem Uc {f : Value} : CallR X f (cM X f) := fun pins s σ H xs us Q I r h => h pins s σ us I r
theorem yj {f : Value} {r : List V → Hp → VK → Prop} (o : CallR X f r) {xs : List V} {H : Hp} {Q : VK} (h : r xs H Q) : cM X f xs H Q := fun pins s σ us I rr => o pins s σ H xs us Q I rr h
end
abbrev zR (X : Cx) (T : Tb) (W : WX) (e : Expr) (m : M D) : Prop := v5 (WE X e) X.K T W vE m
abbrev cP (X : Cx) (T : Tb) (W : WX) (e : Expr) (m : M D) : Prop := v5 (WE X e) X.K T W vV m
abbrev GF (X : Cx) (T : Tb) (W : WX) (e : Expr) (m : M Bool) : Prop := v5 (WT X e) X.K T W vB m
abbrev Ud (X : Cx) (T : Tb) (W : WX) (e : Expr) (m : M Bool) : Prop := v5 (WW X e) X.K T W vB m
abbrev CQ (X : Cx) (T : Tb) (W : WX) (es : List Expr) (m : M (List D)) : Prop := v5 (WA X es) X.K T W vA m
abbrev V7 (X : Cx) (T : Tb) (W : WX) (e : Expr) (m : M D) : Prop := v5 (WE X e) X.K T W vO m
def nQ (m : M D) : M D := m.bind fun d => M.ret d.fz
def mC (d : D) : M D := M.ret d
def ak (i : Nat) : M D := fun fr h => match fr[i]? with
 | some (some d) => if d.own then .ok d.fz (fr.set i (some d.fz)) h else .ok d fr h
 | _ => .err
def yN (i : Nat) : M D := fun fr h => match fr[i]? with
 | some (some d) => .ok d (fr.set i none) h
 | _ => .err
def g8 (i : Nat) : M D := fun fr h => match fr[i]? with
 | some (some d) => .ok d fr h
 | _ => .err
section
variable {X : Cx} {T : Tb} {W : WX} {e a b c : Expr} {es : List Expr} {m ma mb mc : M D} {pos : Pos}
theorem V8 {α β : Type} {run : L2.St → Hp → (β → Hp → Prop) → Prop} {K : PySem.W.Frag} {VR VR' : wD β α} {m : M α} (s : v5 run K T W VR m) (h : ∀ B σ w H fr v d, VR K T B σ w H fr v d → VR' K T B σ w H fr v d) : v5 run K T W VR' m :=
 fun B w σ H fr hh Q r p => s B w σ H fr hh Q r (by
  cases q : m fr hh with
  | ok d fr1 h1 =>
    rw [q] at p
    exact fun w1 H1 v x r1 z => p w1 H1 v x r1 (h _ _ _ _ _ _ _ z)
  | exc y fr1 h1 => rw [q] at p; exact p
  | err => rw [q] at p; exact p)
theorem vg (s : cP X T W e m) : zR X T W e m := V8 s fun _ _ _ _ _ _ _ z => .inl z
theorem vq (s : cP X T W e m) : V7 X T W e m := V8 s fun _ _ _ _ _ _ _ z => .inl z
theorem Jg (s : zR X T W e m) : V7 X T W e m := V8 s fun _ _ _ _ _ _ _ z => by
 rcases z with z | ⟨p, o, e1, _, _, e2, r⟩
 · exact .inl z
 · exact .inr ⟨p, o, e1, e2, r⟩
theorem sV (s : zR X T W e m) : cP X T W e (nQ m) := fun B w σ H fr h Q r p => s B w σ H fr h Q r (by
 refine bz.bind (VR := vE X.K T B σ) p fun d fr1 h1 w1 H1 v eq x r1 z p1 => ?_
 rcases z with z | ⟨p', o, rfl, O, lo, eH, rd⟩
 · rw [afx z] at p1
   exact p1 w1 H1 v (Wd.le_refl _) r1 z
 · exact p1 (w1.add p' o) H1 (.ref p') (Wd.le_add O.f) (r1.freeze O lo eH) (rd.fz (Wd.le_add O.f) (by show upd w1.F p' _ p' = _; rw [upd_same])))
theorem aO {i : Int} {j : Nat} : cP X T W (.Constant (.int i) j pos) (mC (.int i)) := fun B w σ H fr h Q r p => vm pe_int (p w H _ (Wd.le_refl _) r (.int i))
theorem Rx {i : Bool} {j : Nat} : cP X T W (.Constant (.bool i) j pos) (mC (.bl i)) := fun B w σ H fr h Q r p => vm pe_bl (p w H _ (Wd.le_refl _) r (.bl i))
theorem aA {i : Str} {j : Nat} : cP X T W (.Constant (.str i) j pos) (mC (.str i)) := fun B w σ H fr h Q r p => vm pe_str (p w H _ (Wd.le_refl _) r (.str i))
theorem vz {K : PySem.W.Frag} {T : Tb} {B : Bs} {w : Wd} {σ : L2.St} {H : Hp} {fr : Fr} {h : Hh} (R : Rel K T B w σ H fr h) {i : Nat} {d : D} (e : fr[i]? = some (some d)) :
 ∃ v, σ[i]? = some (some v) ∧ Nu K T B w H (some v) (some d) := by
 have l2 : i < fr.length := (List.getElem?_eq_some_iff.mp e).1
 have l1 : i < σ.length := by rw [← R.fl]; exact l2
 have e1 : σ[i]? = some σ[i] := alv l1
 have z := R.sl i _ _ e1 e
 generalize σ[i] = s at z e1
 cases z with
 | val r => exact ⟨_, e1, .val r⟩
 | own O eH r => exact ⟨_, e1, .own O eH r⟩
theorem ao (i : Nat) {x : Str} (hN : X.N[i]? = some x := by rfl) (hv : Vis X.env.scope x := by first | exact Or.inl rfl | exact Or.inr (Or.inl rfl) | exact Or.inr (Or.inr rfl)) (hd : (x == ("__debug__" : Str)) = false := by decide)
 (hcd : (x == ("__classdict__" : Str)) = false := by decide) : cP X T W (.Name x pos) (ak i) := fun B w σ H fr h Q r p => vm (pe_var hN hv hd hcd) (by
 unfold ak at p
 split at p
 · rename_i d e1
   cases od : d.own with
   | true =>
     rw [od] at p
     obtain ⟨q, o, e2, eH, rd, nf, r1⟩ := r.freeze_slot e1 od
     exact ⟨_, e2, p (w.add q o) H (.ref q) (Wd.le_add nf) r1 (rd.fz (Wd.le_add nf) (by show upd w.F q _ q = _; rw [upd_same]))⟩
   | false =>
     rw [od] at p
     obtain ⟨v, e2, z⟩ := vz r e1
     cases z with
     | val rd => exact ⟨v, e2, p w H v (Wd.le_refl _) r rd⟩
     | own O eH rd =>
       rw [rd.own] at od
       cases od
 · exact p.elim)
theorem uI (i : Nat) {x : Str} (hN : X.N[i]? = some x := by rfl) (hv : Vis X.env.scope x := by first | exact Or.inl rfl | exact Or.inr (Or.inl rfl) | exact Or.inr (Or.inr rfl)) (hd : (x == ("__debug__" : Str)) = false := by decide)
 (hcd : (x == ("__classdict__" : Str)) = false := by decide) : V7 X T W (.Name x pos) (g8 i) := fun B w σ H fr h Q r p => vm (pe_var hN hv hd hcd) (by
 unfold g8 at p
 split at p
 · rename_i d e1
   obtain ⟨v, e2, z⟩ := vz r e1
   refine ⟨v, e2, p w H v (Wd.le_refl _) r ?_⟩
   cases z with
   | val rd => exact .inl rd
   | own O eH rd => exact .inr ⟨_, _, rfl, eH, rd⟩
 · exact p.elim)
theorem Hu (i : Nat) {x : Str} (hN : X.N[i]? = some x := by rfl) (hv : Vis X.env.scope x := by first | exact Or.inl rfl | exact Or.inr (Or.inl rfl) | exact Or.inr (Or.inr rfl)) (hd : (x == ("__debug__" : Str)) = false := by decide)
 (hcd : (x == ("__classdict__" : Str)) = false := by decide) : zR X T W (.Name x pos) (yN i) := fun B w σ H fr h Q r p => vm (pe_var hN hv hd hcd) (by
 unfold yN at p
 split at p
 · rename_i d e1
   obtain ⟨v, e2, z⟩ := vz r e1
   refine ⟨v, e2, p w H v (Wd.le_refl _) (r.drop_slot i) ?_⟩
   cases z with
   | val rd => exact .inl rd
   | @own q o _ O eH rd =>
     refine .inr ⟨q, o, rfl, O, fun j z => ?_, eH, rd⟩
     obtain ⟨q1, dq, q2, oq⟩ := z
     by_cases hj : i = j
     · subst hj
       rw [aly (List.getElem?_eq_some_iff.mp e1).1] at q2
       cases q2
     · rw [alx hj] at q2
       exact r.sep i j q hj ⟨e2, d, e1, rd.own⟩ ⟨q1, dq, q2, oq⟩
 · exact p.elim)
def big : Nat := 100000
theorem xF {n : Nat} (h : n ≤ big) : n ≤ sizeLine := Nat.le_trans h (by decide)
def D.der (h : Hh) : D → D
 | .ref n => (h[n]?).getD .non
 | d => d
def D.its (h : Hh) (d : D) : Option (List D) := match d.der h with
 | .tup l => some l
 | .fl l => some l
 | .kl l => some l
 | .nl l => some l
 | _ => none
theorem Hv {K : PySem.W.Frag} {T : Tb} {B : Bs} {w : Wd} {σ : L2.St} {H : Hp} {fr : Fr} {h : Hh} {v : V} {d : D} {ds : List D} (R : Rel K T B w σ H fr h) (z : vO K T B σ w H fr v d) (e : d.its h = some ds) :
 ∃ p vs, v = .ref p ∧ aJ K T w vs ds ∧ (SqL K H p vs ∨ SqT K H p vs) := by
 rcases z with z | ⟨p, o, rfl, eH, z⟩
 · cases z with
   | tup s r =>
     have e' : some _ = some ds := e
     cases e'
     exact ⟨_, _, rfl, r, .inr (wZ R.sub s)⟩
   | fl s r =>
     have e' : some _ = some ds := e
     cases e'
     exact ⟨_, _, rfl, r, .inl (SqL.of (R.sub _ _ s))⟩
   | kl s r =>
     have e' : some _ = some ds := e
     cases e'
     exact ⟨_, _, rfl, r, .inl (BW R.sub s)⟩
   | @ref a n s =>
     have ln : n < h.length := by
      rw [← R.len]
      exact (List.getElem?_eq_some_iff.mp s).1
     obtain ⟨o, q, rr⟩ := R.cel n a h[n] s (alv ln)
     have e0 : (h[n]?).getD .non = h[n] := by rw [alv ln]; rfl
     unfold D.its D.der at e
     dsimp only at e
     rw [e0] at e
     generalize h[n] = c at rr e
     cases rr with
     | lst r =>
       have e' : some _ = some ds := e
       cases e'
       exact ⟨_, _, rfl, r, .inl (SqL.of q)⟩
     | obj r => cases e
     | dct _ r => cases e
     | dkt _ r => cases e
   | non => cases e
   | bl _ => cases e
   | int _ => cases e
   | str _ => cases e
   | obj _ _ => cases e
   | cls _ => cases e
   | ty _ => cases e
   | sl _ => cases e
 · cases z with
   | lst r =>
     have e' : some _ = some ds := e
     cases e'
     exact ⟨_, _, rfl, r, .inl (SqL.of eH)⟩
   | obj r => cases e
def bf {α : Type} (f : Hh → D → D → Option α) (ma mb : M D) : M α := ma.bind fun x => mb.bind fun y fr h => M.opt (f h x y) fr h
theorem V9 {α β : Type} {VR2 : wD V D} {VR : wD β α} {f : Hh → D → D → Option α} {r : V → V → Hp → (β → Hp → Prop) → Prop} (sa : cP X T W a ma) (sb : v5 (WE X b) X.K T W VR2 mb)
 (hr : ∀ B w σ H fr h x y d e z Q, Rel X.K T B w σ H fr h → sS X.K T w x d → VR2 X.K T B σ w H fr y e → f h d e = some z → (∀ w' H' v, w.le w' → Rel X.K T B w' σ H' fr h → VR X.K T B σ w' H' fr v z → Q v H') → r x y H Q) :
 v5 (fun σ H Q => WE X a σ H fun x H1 => WE X b σ H1 fun y H2 => r x y H2 Q) X.K T W VR (bf f ma mb) := fun B w σ H fr h Q r1 p =>
 sa B w σ H fr h _ r1 (bz.bind (VR := vV X.K T B σ) p fun d fr1 h1 w1 H1 x e1 l1 r1 rx p1 => sb B w1 σ H1 fr1 h1 _ r1 (bz.bind (VR := VR2 X.K T B σ) p1 fun e fr2 h2 w2 H2 y e2 l2 r2 ry p2 => by
  cases q : f h2 d e with
  | none => rw [q] at p2; exact p2.elim
  | some z =>
    rw [q] at p2
    exact hr B w2 σ H2 fr2 h2 x y d e z Q r2 (rx.mono l2) ry q p2))
end
end Pk
namespace Pk
open PySem PySem.Spec L2
structure Cq (X : Cx) (T : Tb) (W : WX) (k : Nat) : Prop where
 calm : X.calm = true
 nd : X.N.Nodup
 room : Room k X.A
 takes : Takes X W
 po : PassesOwn (model X.prog X.w) X.A X.env X.xe
theorem Cq.u {X : Cx} {T : Tb} {W : WX} {k : Nat} (C : Cq X T W k) : X.A.units + 65 < cLine := by
 have := C.room.un
 omega
section
variable {X : Cx} {T : Tb} {W : WX} {k : Nat} {e a b c : Expr} {es : List Expr} {m ma mb mc : M D} {pos : Pos}
mutual
def D.toP : D → Option PyData
 | .non => some .none
 | .bl b => some (.bool b)
 | .int i => some (.int i)
 | .str s => some (.str s)
 | .tup l => (D.toPs l).map .tuple
 | .fl l => (D.toPs l).map .list
 | .kl l => (D.toPs l).map .list
 | .nl l => (D.toPs l).map .list
 | _ => none
def D.toPs : List D → Option (List PyData)
 | [] => some []
 | d :: ds => match D.toP d, D.toPs ds with
   | some p, some ps => some (p :: ps)
   | _, _ => none
end
section
variable {K : PySem.W.Frag} {w : Wd} {H : Hp}
mutual
theorem Yh (hs : ∀ a o, w.F a = some o → H a = some o) : ∀ {v : V} {d : D} {p : PyData}, sS K T w v d → d.toP = some p → Dp K H v p
 | _, _, _, .non, e => by cases e; exact .non
 | _, _, _, .bl b, e => by cases e; exact .bl b
 | _, _, _, .int i, e => by cases e; exact .int i
 | _, _, _, .str s, e => by cases e; exact .str s
 | _, _, _, .tup s r, e => by
   unfold D.toP at e
   obtain ⟨ps, e1, e2⟩ := Option.map_eq_some_iff.mp e
   subst e2
   exact .tup (wZ hs s) (Pq hs r e1)
 | _, _, _, .fl s r, e => by
   unfold D.toP at e
   obtain ⟨ps, e1, e2⟩ := Option.map_eq_some_iff.mp e
   subst e2
   exact .lst (SqL.of (hs _ _ s)) (Pq hs r e1)
 | _, _, _, .kl s r, e => by
   unfold D.toP at e
   obtain ⟨ps, e1, e2⟩ := Option.map_eq_some_iff.mp e
   subst e2
   exact .lst (BW hs s) (Pq hs r e1)
 | _, _, _, .obj _ _, e => by cases e
 | _, _, _, .ref _, e => by cases e
 | _, _, _, .cls _, e => by cases e
 | _, _, _, .ty _, e => by cases e
 | _, _, _, .sl _, e => by cases e
theorem Pq (hs : ∀ a o, w.F a = some o → H a = some o) : ∀ {vs : List V} {ds : List D} {ps : List PyData}, aJ K T w vs ds → D.toPs ds = some ps → DpAll K H vs ps
 | _, _, _, .nil, e => by cases e; exact .nil
 | _, _, _, @aJ.cons _ _ _ _ d _ ds h t, e => by
   unfold D.toPs at e
   cases e1 : d.toP with
   | none => rw [e1] at e; cases e
   | some p =>
     cases e2 : D.toPs ds with
     | none => rw [e1, e2] at e; cases e
     | some ps =>
       rw [e1, e2] at e
       cases e
       exact .cons (Yh hs h e1) (Pq hs t e2)
end
theorem acM {B : Bs} {σ : L2.St} {fr : Fr} {h : Hh} {v : V} {d : D} {p : PyData} (R : Rel K T B w σ H fr h) (z : vO K T B σ w H fr v d) (e : d.toP = some p) : Dp K H v p := by
 rcases z with z | ⟨q, o, rfl, eH, z⟩
 · exact Yh R.sub z e
 · cases z with
   | lst r =>
     unfold D.toP at e
     obtain ⟨ps, e1, e2⟩ := Option.map_eq_some_iff.mp e
     subst e2
     exact .lst (SqL.of eH) (Pq R.sub r e1)
   | obj r => cases e
end
def uA (h : Hh) : D → D → Option D
 | .int i, .int j => some (.int (i + j))
 | .str a, .str b => if a.length + b.length ≤ big then some (.str (a ++ b)) else none
 | .tup a, .tup b => if a.length + b.length ≤ big then some (.tup (a ++ b)) else none
 | .fl a, .fl b => if a.length + b.length ≤ big then some (.nl (a ++ b)) else none
 | _, _ => none
theorem Ue {w : Wd} {K : PySem.W.Frag} {v : V} {ds : List D} (r : sS K T w v (.fl ds)) : ∃ a vs, v = .ref a ∧ w.F a = some (.lst vs) ∧ aJ K T w vs ds := by
 cases r with
 | fl s t => exact ⟨_, _, rfl, s, t⟩
theorem JW {w : Wd} {K : PySem.W.Frag} {v : V} {ds : List D} (r : sS K T w v (.tup ds)) : ∃ a vs, v = .ref a ∧ SqT K w.F a vs ∧ aJ K T w vs ds := by
 cases r with
 | tup s t => exact ⟨_, _, rfl, s, t⟩
theorem vG {w : Wd} {K : PySem.W.Frag} {v : V} {i : Int} (r : sS K T w v (.int i)) : v = .int i := by
 cases r
 rfl
theorem agC {w : Wd} {K : PySem.W.Frag} {v : V} {i : Bool} (r : sS K T w v (.bl i)) : v = .bl i := by
 cases r
 rfl
theorem wJ {w : Wd} {K : PySem.W.Frag} {v : V} {i : Str} (r : sS K T w v (.str i)) : v = .str i := by
 cases r
 rfl
theorem Ry {K : PySem.W.Frag} {B : Bs} {w : Wd} {σ : L2.St} {H : Hp} {fr : Fr} {h : Hh} {p : Addr} {vs : List V} {ds : List D} {Q : V → Hp → Prop} (R : Rel K T B w σ H fr h) (r : aJ K T w vs ds) (np : H p = none)
 (q : ∀ w' H' v, w.le w' → Rel K T B w' σ H' fr h → sS K T w' v (.tup ds) → Q v H') : Q (.ref p) (upd H p (.tup vs)) :=
 q (w.add p (.tup vs)) _ _ (Wd.le_add (R.nP np).1) (R.laid np) (.tup (SqT.of (by show upd w.F p _ p = _; rw [upd_same])) (r.mono (Wd.le_add (R.nP np).1)))
theorem Rz {K : PySem.W.Frag} {B : Bs} {w : Wd} {σ : L2.St} {H : Hp} {fr : Fr} {h : Hh} {p : Addr} {vs : List V} {ds : List D} {Q : V → Hp → Prop} (R : Rel K T B w σ H fr h) (r : aJ K T w vs ds) (np : H p = none)
 (q : ∀ w' H' v, w.le w' → Rel K T B w' σ H' fr h → vE K T B σ w' H' fr v (.nl ds) → Q v H') : Q (.ref p) (upd H p (.lst vs)) :=
 q w _ _ (Wd.le_refl w) (R.temp np) (.inr ⟨p, _, rfl, R.own_new np, R.loose_new np, upd_same, .lst r⟩)
theorem vQ (sa : cP X T W a ma) (sb : cP X T W b mb) : zR X T W (.BinOp a .Add b pos) (bf uA ma mb) := fun B w σ H fr h Q r1 p =>
 vm (pe_op Kh nU nU) (V9 (VR := vE) sa sb (fun B w σ H fr h x y d e z Q R rx ry q k => by
  unfold uA at q
  split at q
  · cases q
    rw [vG rx, vG ry]
    exact Cz op_add ⟨_, _, rfl, rfl, k w H _ (Wd.le_refl _) R (.inl (.int _))⟩
  · split at q
    · rename_i hl
      cases q
      rw [wJ rx, wJ ry]
      exact Cz op_add_str ⟨_, _, rfl, rfl, xF hl, k w H _ (Wd.le_refl _) R (.inl (.str _))⟩
    · cases q
  · split at q
    · rename_i ds es hl
      cases q
      obtain ⟨p1, vs, rfl, s1, r1⟩ := JW rx
      obtain ⟨p2, us, rfl, s2, r2⟩ := JW ry
      refine Cz op_catA ⟨p1, p2, vs, us, rfl, rfl, wZ R.sub s1, wZ R.sub s2, by rw [r1.length, r2.length]; exact xF hl, fun e0 => ?_, fun _ e0 => ?_, fun _ _ p np => ?_⟩
      · subst e0
        cases r1
        exact k w H _ (Wd.le_refl _) R (.inl ry)
      · subst e0
        cases r2
        rw [alb] at k
        exact k w H _ (Wd.le_refl _) R (.inl rx)
      · exact Ry R (r1.append r2) np fun w' H' v l R' r' => k w' H' v l R' (.inl r')
    · cases q
  · split at q
    · rename_i ds es hl
      cases q
      obtain ⟨p1, vs, rfl, s1, r1⟩ := Ue rx
      obtain ⟨p2, us, rfl, s2, r2⟩ := Ue ry
      refine Cz op_cat ⟨p1, p2, vs, us, rfl, rfl, R.sub _ _ s1, R.sub _ _ s2, by rw [r1.length, r2.length]; exact xF hl, fun p np => ?_⟩
      exact Rz R (r1.append r2) np k
    · cases q
  · cases q) B w σ H fr h Q r1 p)
def Cu (C : Int → Int → Bool) (g : Int → Int → Int) (_ : Hh) : D → D → Option D
 | .int i, .int j => if C i j then some (.int (g i j)) else none
 | _, _ => none
theorem Kl {op : Operator} {P : Int → Int → Prop} {C : Int → Int → Bool} {g : Int → Int → Int} (o : OpR X (binaryOp op) (rI P fun i j => .int (g i j))) (hC : ∀ i j, C i j = true → P i j) (sa : cP X T W a ma) (sb : cP X T W b mb) :
 cP X T W (.BinOp a op b pos) (bf (Cu C g) ma mb) := fun B w σ H fr h Q r1 p =>
 vm (pe_op Kh nU nU) (V9 (VR := vV) sa sb (fun B w σ H fr h x y d e z Q R rx ry q k => by
  unfold Cu at q
  split at q
  · split at q
    · rename_i hc
      cases q
      rw [vG rx, vG ry]
      exact Cz o ⟨_, _, rfl, rfl, hC _ _ hc, k w H _ (Wd.le_refl _) R (.int _)⟩
    · cases q
  · cases q) B w σ H fr h Q r1 p)
def YF (_ _ : Int) : Bool := true
def abx (i j : Int) : Bool := decide (i.natAbs.log2 + j.natAbs.log2 < 1000000)
def adI (_ j : Int) : Bool := decide (0 < j)
def aby (_ j : Int) : Bool := decide (0 < j) && decide (j.natAbs.log2 < 9000)
def Wb (i j : Int) : Bool := decide (0 ≤ j) && decide (j ≤ 1000000) && decide (i.natAbs < 2 ^ 64)
abbrev YG := Cu YF (fun i j => i - j)
abbrev abz := Cu abx (fun i j => i * j)
abbrev Wc := Cu adI (fun i j => i % j)
abbrev adJ := Cu aby (fun i j => i / j)
abbrev abA := Cu Wb (fun i j => i ^ j.toNat)
theorem afy : OpR X (binaryOp .Sub) (rI (fun _ _ => True) fun i j => .int (i - j)) := fun pins s σ H x y v u Q I rx ry ⟨i, j, e1, e2, _, q⟩ => op_sub pins s σ H x y v u Q I rx ry ⟨i, j, e1, e2, q⟩
theorem acN (sa : cP X T W a ma) (sb : cP X T W b mb) : cP X T W (.BinOp a .Sub b pos) (bf YG ma mb) := Kl afy (fun _ _ _ => trivial) sa sb
theorem YH (sa : cP X T W a ma) (sb : cP X T W b mb) : cP X T W (.BinOp a .Mult b pos) (bf abz ma mb) := Kl op_mulW (fun i j h => by
 have h' : decide (i.natAbs.log2 + j.natAbs.log2 < 1000000) = true := h
 have h2 : i.natAbs.log2 + j.natAbs.log2 < 1000000 := of_decide_eq_true h'
 exact h2) sa sb
theorem Pr (sa : cP X T W a ma) (sb : cP X T W b mb) : cP X T W (.BinOp a .Mod b pos) (bf Wc ma mb) := Kl op_mod (fun _ j h => by
 have h' : decide (0 < j) = true := h
 exact of_decide_eq_true h') sa sb
theorem acO (sa : cP X T W a ma) (sb : cP X T W b mb) : cP X T W (.BinOp a .FloorDiv b pos) (bf adJ ma mb) := Kl op_fdivW (fun _ _ h => by
 obtain ⟨h1, h2⟩ := Bool.and_eq_true_iff.mp h
 exact ⟨of_decide_eq_true h1, of_decide_eq_true h2⟩) sa sb
theorem YJ (sa : cP X T W a ma) (sb : cP X T W b mb) : cP X T W (.BinOp a .Pow b pos) (bf abA ma mb) := Kl op_pow (fun _ _ h => by
 obtain ⟨h1, h3⟩ := Bool.and_eq_true_iff.mp h
 obtain ⟨h1, h2⟩ := Bool.and_eq_true_iff.mp h1
 exact ⟨of_decide_eq_true h1, of_decide_eq_true h2, of_decide_eq_true h3⟩) sa sb
def Hz : D → Option D
 | .int i => some (.int (-i))
 | _ => none
def iy {α : Type} (f : Hh → D → Option α) (ma : M D) : M α := ma.bind fun x fr h => M.opt (f h x) fr h
theorem abB {α β : Type} {VR1 : wD V D} {VR : wD β α} {f : Hh → D → Option α} {r : V → Hp → (β → Hp → Prop) → Prop} (sa : v5 (WE X a) X.K T W VR1 ma)
 (hr : ∀ B w σ H fr h x d z Q, Rel X.K T B w σ H fr h → VR1 X.K T B σ w H fr x d → f h d = some z → (∀ w' H' v, w.le w' → Rel X.K T B w' σ H' fr h → VR X.K T B σ w' H' fr v z → Q v H') → r x H Q) :
 v5 (fun σ H Q => WE X a σ H fun x H1 => r x H1 Q) X.K T W VR (iy f ma) := fun B w σ H fr h Q r1 p =>
 sa B w σ H fr h _ r1 (bz.bind (VR := VR1 X.K T B σ) p fun d fr1 h1 w1 H1 x e1 l1 r1 rx p1 => by
  cases q : f h1 d with
  | none => rw [q] at p1; exact p1.elim
  | some z =>
    rw [q] at p1
    exact hr B w1 σ H1 fr1 h1 x d z Q r1 rx q p1)
theorem Pu (sa : cP X T W a ma) : cP X T W (.UnaryOp .USub a pos) (iy (fun _ => Hz) ma) := fun B w σ H fr h Q r1 p =>
 vm (pe_un agB nU) (abB (VR := vV) sa (fun B w σ H fr h x d z Q R rx q k => by
  unfold Hz at q
  split at q
  · cases q
    rw [vG rx]
    exact ahZ un_neg ⟨_, rfl, k w H _ (Wd.le_refl _) R (.int _)⟩
  · cases q) B w σ H fr h Q r1 p)
def CG (X : Cx) (T : Tb) (VR2 : wD V D) (op : CmpOp) (f : Hh → D → D → Option Bool) : Prop :=
 ∀ B w σ H fr h x y d e c Q, Rel X.K T B w σ H fr h → sS X.K T w x d → VR2 X.K T B σ w H fr y e → f h d e = some c → Q (.bl c) H → rM X (compareOp op) x y H Q
def cInt (p : Int → Int → Bool) (_ : Hh) : D → D → Option Bool
 | .int i, .int j => some (p i j)
 | _, _ => none
theorem RB {op : CmpOp} {p : Int → Int → Bool} (o : OpR X (compareOp op) (rI0 fun i j => .bl (p i j))) : CG X T vV op (cInt p) := fun B w σ H fr h x y d e c Q R rx ry q k => by
 unfold cInt at q
 split at q
 · cases q
   rw [vG rx, vG ry]
   exact Cz o ⟨_, _, rfl, rfl, k⟩
 · cases q
abbrev Om := cInt fun i j => decide (i < j)
abbrev cLe := cInt fun i j => decide (i ≤ j)
abbrev cGt := cInt fun i j => decide (j < i)
abbrev cGe := cInt fun i j => decide (j ≤ i)
theorem cmp_lt : CG X T vV .Lt Om := RB op_lt
theorem cmp_le : CG X T vV .LtE cLe := RB op_le
theorem cmp_gt : CG X T vV .Gt cGt := RB op_gt
theorem cmp_ge : CG X T vV .GtE cGe := RB op_ge
def u9 (_ : Hh) (d e : D) : Option Bool := match d.toP, e.toP with
 | some p, some q => if SeqAt.shaped p && SeqAt.shaped q then some (PyData.eqv p q) else none
 | _, _ => none
def JF (h : Hh) (d e : D) : Option Bool := (u9 h d e).map (!·)
theorem YK {h : Hh} {d e : D} {c : Bool} (q : u9 h d e = some c) : ∃ p p', d.toP = some p ∧ e.toP = some p' ∧ SeqAt.shaped p = true ∧ SeqAt.shaped p' = true ∧ c = PyData.eqv p p' := by
 unfold u9 at q
 split at q
 · rename_i p p' e1 e2
   split at q
   · rename_i hs
     obtain ⟨h1, h2⟩ := Bool.and_eq_true_iff.mp hs
     cases q
     exact ⟨p, p', e1, e2, h1, h2, rfl⟩
   · cases q
 · cases q
theorem cmp_eq (C : Cq X T W k) : CG X T vO .Eq u9 := fun B w σ H fr h x y d e c Q R rx ry q kk => by
 obtain ⟨p, p', e1, e2, s1, s2, rfl⟩ := YK q
 exact Cz (op_eqD (by have := C.u; omega)) ⟨p, p', Yh R.sub rx e1, acM R ry e2, s1, s2, kk⟩
theorem Km (C : Cq X T W k) : CG X T vO .NotEq JF := fun B w σ H fr h x y d e c Q R rx ry q kk => by
 obtain ⟨c', q', rfl⟩ := Option.map_eq_some_iff.mp q
 obtain ⟨p, p', e1, e2, s1, s2, rfl⟩ := YK q'
 exact Cz (op_neD (by have := C.u; omega)) ⟨p, p', Yh R.sub rx e1, acM R ry e2, s1, s2, kk⟩
def D.flat : D → Bool
 | .non => true
 | .bl _ => true
 | .int _ => true
 | .str _ => true
 | _ => false
def D.eqf : D → D → Bool
 | .non, .non => true
 | .bl a, .bl b => a == b
 | .bl a, .int b => (if a then 1 else 0) == b
 | .int a, .bl b => a == (if b then 1 else 0)
 | .int a, .int b => a == b
 | .str a, .str b => a == b
 | _, _ => false
theorem Ug {K : PySem.W.Frag} {w : Wd} {v : V} {d : D} (r : sS K T w v d) (f : d.flat = true) : flatV v = true := by
 cases r <;> first | rfl | cases f
theorem Px {K : PySem.W.Frag} {w : Wd} : ∀ {vs : List V} {ds : List D}, aJ K T w vs ds → ds.all D.flat = true → vs.all flatV = true
 | _, _, .nil, _ => rfl
 | _, _, .cons h t, f => by
   rw [List.all_cons, Bool.and_eq_true] at f ⊢
   exact ⟨Ug h f.1, Px t f.2⟩
theorem afz {K : PySem.W.Frag} {w : Wd} {v u : V} {d e : D} (r : sS K T w v d) (s : sS K T w u e) : eqV v u = D.eqf d e := by
 cases r <;> cases s <;> rfl
theorem We {K : PySem.W.Frag} {w : Wd} {u : V} {e : D} (s : sS K T w u e) : ∀ {vs : List V} {ds : List D}, aJ K T w vs ds → inV u vs = ds.any fun z => D.eqf z e
 | _, _, .nil => rfl
 | _, _, @aJ.cons _ _ _ v d vs ds h t => by
   have q := We s t
   unfold inV at q ⊢
   rw [List.any_cons, List.any_cons, afz h s, q]
def CJ (h : Hh) (x y : D) : Option Bool := match x, y with
 | .str c, .str z => if c.length = 1 then some (decide (c.cps.toList.headD 0 ∈ z.cps.toList)) else some (!(Builtin.Str.occurrences z c 0 z.length 1).isEmpty)
 | x, y => match y.its h with
   | some l => if x.flat && l.all D.flat then some (l.any fun z => D.eqf z x) else none
   | none => none
def Py (h : Hh) (x y : D) : Option Bool := (CJ h x y).map (!·)
theorem str1 {c : Str} (h : c.length = 1) : c = ⟨#[c.cps.toList.headD 0]⟩ := by
 obtain ⟨⟨l⟩⟩ := c
 have h' : l.length = 1 := h
 match l, h' with
 | [x], _ => rfl
theorem PB : CG X T vO .In CJ := fun B w σ H fr h x y d e c Q R rx ry q kk => by
 unfold CJ at q
 split at q
 · rename_i cc z
   have ey : y = .str z := by
    rcases ry with ry | ⟨_, _, _, _, r⟩
    · exact wJ ry
    · cases r
   rw [wJ rx, ey]
   split at q
   · rename_i h1
     cases q
     exact Cz op_in_sign ⟨_, z, by rw [← str1 h1], rfl, kk⟩
   · cases q
     exact Cz op_in_str ⟨cc, z, rfl, rfl, kk⟩
 · split at q
   · rename_i l el
     split at q
     · rename_i hf
       obtain ⟨f1, f2⟩ := Bool.and_eq_true_iff.mp hf
       cases q
       obtain ⟨p, vs, rfl, rl, sq⟩ := Hv R ry el
       refine Cz op_in_seq ⟨p, vs, rfl, sq, Ug rx f1, Px rl f2, ?_⟩
       rw [if_neg Bool.false_ne_true, We rx rl]
       exact kk
     · cases q
   · cases q
theorem Wf : CG X T vO .NotIn Py := fun B w σ H fr h x y d e c Q R rx ry q kk => by
 obtain ⟨c', q', rfl⟩ := Option.map_eq_some_iff.mp q
 clear q
 have q := q'
 clear q'
 unfold CJ at q
 split at q
 · rename_i cc z
   have ey : y = .str z := by
    rcases ry with ry | ⟨_, _, _, _, r⟩
    · exact wJ ry
    · cases r
   rw [wJ rx, ey]
   split at q
   · rename_i h1
     cases q
     exact Cz op_notIn_sign ⟨_, z, by rw [← str1 h1], rfl, kk⟩
   · cases q
     exact Cz op_notin_str ⟨cc, z, rfl, rfl, kk⟩
 · split at q
   · rename_i l el
     split at q
     · rename_i hf
       obtain ⟨f1, f2⟩ := Bool.and_eq_true_iff.mp hf
       cases q
       obtain ⟨p, vs, rfl, rl, sq⟩ := Hv R ry el
       refine Cz op_notIn_seq ⟨p, vs, rfl, sq, Ug rx f1, Px rl f2, ?_⟩
       rw [if_pos rfl, We rx rl]
       exact kk
     · cases q
   · cases q
def D.isNon : D → Bool
 | .non => true
 | _ => false
def cIs (_ : Hh) (d e : D) : Option Bool := if e.isNon then some d.isNon else none
def agD (_ : Hh) (d e : D) : Option Bool := if e.isNon then some (!d.isNon) else none
theorem uo {op : CmpOp} {VR2 : wD V D} {f : Hh → D → D → Option Bool} (o : CG X T VR2 op f) (sa : cP X T W a ma) (sb : v5 (WE X b) X.K T W VR2 mb) (hm : behindInMarks op b = false := by with_unfolding_all rfl) :
 GF X T W (.Compare a [op] [b] pos) (bf f ma mb) := fun B w σ H fr h Q r1 p =>
 UV (pt_cmpR Kh nU nU hm) (V9 (VR := vB) (r := fun x y H Q => rM X (compareOp op) x y H fun z H' => ∃ k, z = .bl k ∧ Q k H') sa sb (fun B w σ H fr h x y d e z Q R rx ry q k =>
  o B w σ H fr h x y d e z _ R rx ry q ⟨z, rfl, k w H z (Wd.le_refl _) R rfl⟩) B w σ H fr h Q r1 p)
def mBl (m : M Bool) : M D := m.bind fun b => M.ret (.bl b)
theorem YL {op : CmpOp} {VR2 : wD V D} {f : Hh → D → D → Option Bool} (o : CG X T VR2 op f) (sa : cP X T W a ma) (sb : v5 (WE X b) X.K T W VR2 mb) (hm : behindInMarks op b = false := by with_unfolding_all rfl) :
 cP X T W (.Compare a [op] [b] pos) (bf (fun h x y => (f h x y).map .bl) ma mb) := fun B w σ H fr h Q r1 p =>
 vm (pe_cmpR Kh nU nU hm) (V9 (VR := vV) sa sb (fun B w σ H fr h x y d e z Q R rx ry q k => by
  obtain ⟨c, q', rfl⟩ := Option.map_eq_some_iff.mp q
  exact o B w σ H fr h x y d e c _ R rx ry q' (k w H _ (Wd.le_refl _) R (.bl c))) B w σ H fr h Q r1 p)
def M5 (f g : Hh → D → D → Option Bool) (ma mb mc : M D) : M Bool := ma.bind fun x => mb.bind fun y fr h => match f h x y with
 | some true => (mc.bind fun z fr h => M.opt (g h y z) fr h) fr h
 | some false => .ok false fr h
 | none => .err
theorem adK {op op' : CmpOp} {f g : Hh → D → D → Option Bool} (o : CG X T vV op f) (o' : CG X T vV op' g) (sa : cP X T W a ma) (sb : cP X T W b mb) (sc : cP X T W c mc) (hm : lastMarks [op, op'] [b, c] = false := by with_unfolding_all rfl) :
 GF X T W (.Compare a [op, op'] [b, c] pos) (M5 f g ma mb mc) := fun B w σ H fr h Q r1 p =>
 UV (pt_chain Kh Kh nU nU nU hm) (sa B w σ H fr h _ r1 (bz.bind (VR := vV X.K T B σ) p fun d fr1 h1 w1 H1 x e1 l1 r1 rx p1 => sb B w1 σ H1 fr1 h1 _ r1 (bz.bind (VR := vV X.K T B σ) p1 fun e fr2 h2 w2 H2 y e2 l2 r2 ry p2 => by
  cases q : f h2 d e with
  | none => rw [q] at p2; exact p2.elim
  | some k =>
    rw [q] at p2
    cases k with
    | false => exact o B w2 σ H2 fr2 h2 x y d e false _ r2 (rx.mono l2) ry q ⟨false, rfl, ⟨false, rfl, p2 w2 H2 false (Wd.le_refl _) r2 rfl⟩⟩
    | true => exact o B w2 σ H2 fr2 h2 x y d e true _ r2 (rx.mono l2) ry q ⟨true, rfl, by
     show WE X c σ H2 _
     exact sc B w2 σ H2 fr2 h2 _ r2 (bz.bind (VR := vV X.K T B σ) p2 fun z fr3 h3 w3 H3 zv e3 l3 r3 rz p3 => by
      cases q' : g h3 e z with
      | none => rw [q'] at p3; exact p3.elim
      | some k' =>
        rw [q'] at p3
        exact o' B w3 σ H3 fr3 h3 y zv e z k' _ r3 (ry.mono l3) rz q' ⟨k', rfl, p3 w3 H3 k' (Wd.le_refl _) r3 rfl⟩)⟩)))
def D.tb : D → Option Bool
 | .bl b => some b
 | _ => none
theorem agF {K : PySem.W.Frag} {B : Bs} {σ : L2.St} {w : Wd} {H : Hp} {fr : Fr} {v : V} {d : D} {b : Bool} (r : vO K T B σ w H fr v d) (e : d.tb = some b) : v = .bl b := by
 rcases r with r | ⟨_, _, _, _, r⟩
 · cases r <;> first | (cases e; rfl) | cases e
 · cases r <;> cases e
def D.tru (h : Hh) (d : D) : Option Bool := match d with
 | .non => some false
 | .bl b => some b
 | .int i => some (i != 0)
 | .str z => if z.length ≤ big then some ((z.length : Int) != 0) else none
 | d => (d.its h).map fun l => !l.isEmpty
theorem Xm {K : PySem.W.Frag} {w : Wd} {vs : List V} {ds : List D} (r : aJ K T w vs ds) : vs.isEmpty = ds.isEmpty := by
 cases r <;> rfl
theorem CT (s : V7 X T W e m) (he : ∀ whole, isTrue e X.env whole = (do let v ← whole; standAt e.pos; holding [v] (truthy v)) := by intro _; rfl) : GF X T W e (iy D.tru m) := fun B w σ H fr h Q r1 p =>
 UV (pt_truth nU he) (abB (VR := vB) (r := fun x H Q => ∃ k, TruV X.K x H k ∧ Q k H) s (fun B w σ H fr h x d z Q R rx q k => by
  refine ⟨z, ?_, k w H z (Wd.le_refl _) R rfl⟩
  have viaIts : ∀ {l : List D}, d.its h = some l → (!l.isEmpty) = z → TruV X.K x H z := fun {l} el ez => by
   obtain ⟨p, vs, rfl, rl, sq⟩ := Hv R rx el
   rcases sq with sq | sq
   · exact .inl ⟨vs, sq, by rw [← ez, Xm rl]⟩
   · exact .inr (.inl ⟨vs, sq, by rw [← ez, Xm rl]⟩)
  unfold D.tru at q
  split at q
  · rcases rx with rx | ⟨_, _, _, _, rx⟩
    · cases rx
      cases q
      rfl
    · cases rx
  · rcases rx with rx | ⟨_, _, _, _, rx⟩
    · cases rx
      cases q
      rfl
    · cases rx
  · rcases rx with rx | ⟨_, _, _, _, rx⟩
    · cases rx
      cases q
      rfl
    · cases rx
  · split at q
    · rename_i hl
      rcases rx with rx | ⟨_, _, _, _, rx⟩
      · cases rx
        cases q
        exact ⟨xF hl, rfl⟩
      · cases rx
    · cases q
  · obtain ⟨l, e1, e2⟩ := Option.map_eq_some_iff.mp q
    exact viaIts e1 e2) B w σ H fr h Q r1 p)
def Ju (m : M Bool) : M Bool := m.bind fun b => M.ret !b
def Mi (m n : M Bool) : M Bool := m.bind fun b => if b then n else M.ret false
def TJ (m n : M Bool) : M Bool := m.bind fun b => if b then M.ret true else n
variable {n ta tb tc : M Bool} {rest : List Expr}
theorem UW (s : GF X T W a n) : GF X T W (.UnaryOp .Not a pos) (Ju n) := fun B w σ H fr h Q r1 p =>
 UV (pt_not Gz) (s B w σ H fr h _ r1 (bz.bind (VR := vB X.K T B σ) p fun d fr1 h1 w1 H1 x e1 l1 r1 rx p1 => by
  have rx' : x = d := rx
  subst rx'
  exact p1 w1 H1 _ (Wd.le_refl _) r1 rfl))
theorem U0 (s : Ud X T W e n) : GF X T W e n := fun B w σ H fr h Q r1 p => UV YD.pt (s B w σ H fr h Q r1 p)
theorem Wg (s : GF X T W a ta) : Ud X T W (.BoolOp .And [a] pos) ta := fun B w σ H fr h Q r1 p => Yg (pw_and1 Gz) (s B w σ H fr h Q r1 p)
theorem acQ (s : GF X T W a ta) : Ud X T W (.BoolOp .Or [a] pos) ta := fun B w σ H fr h Q r1 p => Yg (pw_or1 Gz) (s B w σ H fr h Q r1 p)
theorem YM (s : GF X T W a ta) (t : Ud X T W (.BoolOp .And (b :: rest) pos) tb) : Ud X T W (.BoolOp .And (a :: b :: rest) pos) (Mi ta tb) := fun B w σ H fr h Q r1 p =>
 Yg (pw_and Gz YD) (s B w σ H fr h _ r1 (bz.bind (VR := vB X.K T B σ) p fun d fr1 h1 w1 H1 x e1 l1 r1 rx p1 => by
  have rx' : x = d := rx
  subst rx'
  cases x with
  | true => exact t B w1 σ H1 fr1 h1 Q r1 p1
  | false => exact p1 w1 H1 false (Wd.le_refl _) r1 rfl))
theorem abC (s : GF X T W a ta) (t : Ud X T W (.BoolOp .Or (b :: rest) pos) tb) : Ud X T W (.BoolOp .Or (a :: b :: rest) pos) (TJ ta tb) := fun B w σ H fr h Q r1 p =>
 Yg (pw_or Gz YD) (s B w σ H fr h _ r1 (bz.bind (VR := vB X.K T B σ) p fun d fr1 h1 w1 H1 x e1 l1 r1 rx p1 => by
  have rx' : x = d := rx
  subst rx'
  cases x with
  | false => exact t B w1 σ H1 fr1 h1 Q r1 p1
  | true => exact p1 w1 H1 true (Wd.le_refl _) r1 rfl))
def abD (m : M D) : M D := m.bind fun d => M.opt (d.tb.map fun b => .bl (!b))
def RD (m n : M D) : M D := m.bind fun d => match d.tb with
 | some true => n
 | some false => M.ret (.bl false)
 | none => M.opt none
def adL (m n : M D) : M D := m.bind fun d => match d.tb with
 | some true => M.ret (.bl true)
 | some false => n
 | none => M.opt none
theorem agG {op : BoolOp} (s : cP X T W a ma) : cP X T W (.BoolOp op [a] pos) ma := fun B w σ H fr h Q r1 p => vm (pe_one nU) (s B w σ H fr h Q r1 p)
theorem agH (s : cP X T W a ma) (t : cP X T W (.BoolOp .And (b :: rest) pos) mb) : cP X T W (.BoolOp .And (a :: b :: rest) pos) (RD ma mb) := fun B w σ H fr h Q r1 p =>
 vm (pe_and nU nU) (s B w σ H fr h _ r1 (bz.bind (VR := vV X.K T B σ) p fun d fr1 h1 w1 H1 x e1 l1 r1 rx p1 => by
  cases q : d.tb with
  | none => rw [q] at p1; exact p1.elim
  | some c =>
    rw [q] at p1
    refine ⟨c, agF (fr := fr1) (B := B) (σ := σ) (H := H1) (.inl rx) q, ?_⟩
    cases c with
    | true => exact t B w1 σ H1 fr1 h1 Q r1 p1
    | false => exact p1 w1 H1 _ (Wd.le_refl _) r1 (.bl _)))
def Ao {α : Type} (t : M Bool) (m n : M α) : M α := t.bind fun b => if b then m else n
theorem s_if {VR : wD V D} (st : GF X T W c tc) (sa : v5 (WE X a) X.K T W VR ma) (sb : v5 (WE X b) X.K T W VR mb) : v5 (WE X (.IfExp c a b pos)) X.K T W VR (Ao tc ma mb) := fun B w σ H fr h Q r1 p =>
 vm (pe_ifExp Gz nU nU) (st B w σ H fr h _ r1 (bz.bind (VR := vB X.K T B σ) p fun d fr1 h1 w1 H1 x e1 l1 r1 rx p1 => by
  have rx' : x = d := rx
  subst rx'
  cases x with
  | true => exact sa B w1 σ H1 fr1 h1 Q r1 p1
  | false => exact sb B w1 σ H1 fr1 h1 Q r1 p1))
def ah0 : Expr → Bool
 | .Starred .. => true
 | _ => false
theorem uD {e : Expr} {es : List Expr} {env : Env} (h : ah0 e = false) : starEach (e :: es) env = (false, eval e env) :: starEach es env := by
 cases e <;> first | (cases h; done) | rfl
def aa : List (M D) → M (List D)
 | [] => M.ret []
 | m :: ms => m.bind fun d => (aa ms).bind fun ds => M.ret (d :: ds)
variable {ms : List (M D)}
theorem aN : CQ X T W [] (aa []) := fun B w σ H fr h Q r1 p => Rv pa_nil (p w H _ (Wd.le_refl _) r1 .nil)
theorem aj (s : cP X T W e m) (t : CQ X T W es (aa ms)) (hs : starEach (e :: es) X.env = (false, eval e X.env) :: starEach es X.env := by exact uD rfl) : CQ X T W (e :: es) (aa (m :: ms)) := fun B w σ H fr h Q r1 p =>
 Rv (pa_cons nU Kg hs) (s B w σ H fr h _ r1 (bz.bind (VR := vV X.K T B σ) p fun d fr1 h1 w1 H1 x e1 l1 r1 rx p1 =>
  t B w1 σ H1 fr1 h1 _ r1 (bz.bind (VR := vA X.K T B σ) p1 fun ds fr2 h2 w2 H2 vs e2 l2 r2 rs p2 => p2 w2 H2 _ (Wd.le_refl _) r2 (.cons (rx.mono l2) rs))))
def uX (ms : List (M D)) : M D := (aa ms).bind fun ds => M.opt (if ds.length ≤ big then some (.tup ds) else none)
def yK (ms : List (M D)) : M D := (aa ms).bind fun ds => M.opt (if ds.length ≤ big then some (.nl ds) else none)
theorem vC {x1 : Nat} (s : CQ X T W es (aa ms)) : cP X T W (.Tuple es x1 pos) (uX ms) := fun B w σ H fr h Q r1 p =>
 vm (pe_tup Kg) (s B w σ H fr h _ r1 (bz.bind (VR := vA X.K T B σ) p fun ds fr1 h1 w1 H1 vs e1 l1 r1 rs p1 => by
  by_cases hl : ds.length ≤ big
  · rw [if_pos hl] at p1
    exact ⟨by rw [aJ.length rs]; exact xF hl, fun q nq => Ry r1 rs nq p1⟩
  · rw [if_neg hl] at p1
    exact p1.elim))
theorem Ey (s : CQ X T W es (aa ms)) : zR X T W (.List es pos) (yK ms) := fun B w σ H fr h Q r1 p =>
 vm (pe_lst Kg) (s B w σ H fr h _ r1 (bz.bind (VR := vA X.K T B σ) p fun ds fr1 h1 w1 H1 vs e1 l1 r1 rs p1 => by
  by_cases hl : ds.length ≤ big
  · rw [if_pos hl] at p1
    exact ⟨by rw [aJ.length rs]; exact xF hl, fun q nq => Rz r1 rs nq p1⟩
  · rw [if_neg hl] at p1
    exact p1.elim))
end
end Pk
namespace Pk
open PySem PySem.Spec L2
section
variable {X : Cx} {T : Tb} {W : WX} {k : Nat} {e a b c o : Expr} {es : List Expr} {m ma mb mc : M D} {pos p2 pf : Pos}
def bA (h : Hh) (d i : D) : Option D := match d, i with
 | .str z, .int i => if z.length ≤ big then (atI z.cps.toList i).map fun c => .str ⟨#[c]⟩ else none
 | d, .int i => match d.its h with
   | some l => atI l i
   | none => none
 | _, _ => none
def ixM (X : Cx) : R2 := fun x y H Q => ∀ value slice pins s σ v u, Inv X pins σ H s → RelV x v → RelV y u → subscripted slice false v u = operate [v, u] (getItem v u) → wpAny (model X.prog X.w) X.A (PyProof.Rows.subscriptTail value slice v u) (EP X pins σ Q) X.xe s
theorem acR : IxR X (ixM X) := fun value slice pins s σ H x y v u Q I rx ry h hs => h value slice pins s σ v u I rx ry hs
theorem YQ {r : R2} (o : IxR X r) {x y : V} {H : Hp} {Q : VK} (h : r x y H Q) : ixM X x y H Q := fun value slice pins s σ v u I rx ry hs => o value slice pins s σ H x y v u Q I rx ry h hs
theorem afA {K : PySem.W.Frag} {w : Wd} {vs : List V} {ds : List D} {i : Int} {d : D} (r : aJ K T w vs ds) (e : atI ds i = some d) : ∃ v, atI vs i = some v ∧ sS K T w v d := by
 unfold atI at e ⊢
 rw [r.length]
 cases q : ixN ds.length i with
 | none => rw [q] at e; cases e
 | some j =>
   rw [q] at e
   exact r.get (show ds[j]? = some d from e)
theorem YS {K : PySem.W.Frag} {B : Bs} {σ : L2.St} {w : Wd} {H : Hp} {fr : Fr} {v : V} {z : Str} (r : vO K T B σ w H fr v (.str z)) : v = .str z := by
 rcases r with r | ⟨_, _, _, _, r⟩
 · exact wJ r
 · cases r
theorem acS {B : Bs} {w : Wd} {σ : L2.St} {H : Hp} {fr : Fr} {h : Hh} {x y : V} {d i z : D} {Q : VK} (R : Rel X.K T B w σ H fr h) (rx : vO X.K T B σ w H fr x d) (ry : sS X.K T w y i) (q : bA h d i = some z)
 (k : ∀ v, sS X.K T w v z → Q v H) : ixM X x y H Q := by
 unfold bA at q
 split at q
 · rename_i z' i'
   split at q
   · rename_i hl
     obtain ⟨c, ec, rfl⟩ := Option.map_eq_some_iff.mp q
     rw [YS rx, vG ry]
     exact YQ ix_str ⟨z', i', c, rfl, rfl, xF hl, ec, k _ (.str _)⟩
   · cases q
 · rename_i i' _
   split at q
   · rename_i l el
     obtain ⟨p, vs, rfl, rl, sq⟩ := Hv R rx el
     obtain ⟨v, ev, rv⟩ := afA rl q
     rw [vG ry]
     rcases sq with sq | sq
     · exact YQ ix_list ⟨p, vs, i', v, rfl, rfl, sq, ev, k v rv⟩
     · exact YQ ix_tup ⟨p, vs, i', v, rfl, rfl, sq, ev, k v rv⟩
   · cases q
 · cases q
theorem U3 (sa : cP X T W a ma) (sb : cP X T W b mb) (hs : PlainIx b := by intro _ _; rfl) : cP X T W (.Subscript a b pos) (bf bA ma mb) := fun B w σ H fr h Q r1 p =>
 vm (pe_ix acR nU nU hs) (V9 (VR := vV) sa sb (fun B w σ H fr h x y d e z Q R rx ry q k => acS R (.inl rx) ry q fun v rv => k w H v (Wd.le_refl _) R rv) B w σ H fr h Q r1 p)
def xZ (i : Nat) : M Unit := fun fr h => match fr[i]? with
 | some (some _) => .ok () fr h
 | _ => .err
def bj {α : Type} (i : Nat) (m : M α) (f : Hh → D → α → Option D) : M D := (xZ i).bind fun _ => m.bind fun y => (g8 i).bind fun d fr h => M.opt (f h d y) fr h
theorem YT {K : PySem.W.Frag} {B : Bs} {w : Wd} {σ : L2.St} {H : Hp} {fr : Fr} {h : Hh} {i : Nat} {α β : Type} {VR : Wd → Hp → Fr → β → α → Prop} {m : M α} {Q : β → Hp → Prop} (R : Rel K T B w σ H fr h) (p : bz K T B W VR w σ ((xZ i).bind (fun _ => m) fr h) Q) :
 (∃ v, σ[i]? = some (some v)) ∧ bz K T B W VR w σ (m fr h) Q := by
 cases e1 : fr[i]? with
 | none =>
   have q : xZ i fr h = .err := by unfold xZ; rw [e1]
   rw [M.bind_err q] at p
   exact p.elim
 | some o =>
   cases o with
   | none =>
     have q : xZ i fr h = .err := by unfold xZ; rw [e1]
     rw [M.bind_err q] at p
     exact p.elim
   | some d =>
     have q : xZ i fr h = .ok () fr h := by unfold xZ; rw [e1]
     rw [M.bind_ok q] at p
     obtain ⟨v, e2, z⟩ := vz R e1
     exact ⟨⟨v, e2⟩, p⟩
theorem YW {K : PySem.W.Frag} {B : Bs} {w : Wd} {σ : L2.St} {H : Hp} {fr : Fr} {h : Hh} {i : Nat} {v : V} {α β : Type} {VR : Wd → Hp → Fr → β → α → Prop} {f : D → M α} {Q : β → Hp → Prop} (R : Rel K T B w σ H fr h) (ev : σ[i]? = some (some v))
 (p : bz K T B W VR w σ ((g8 i).bind f fr h) Q) : ∃ d, vO K T B σ w H fr v d ∧ bz K T B W VR w σ (f d fr h) Q := by
 cases e1 : fr[i]? with
 | none =>
   have q : g8 i fr h = .err := by unfold g8; rw [e1]
   rw [M.bind_err q] at p
   exact p.elim
 | some o =>
   cases o with
   | none =>
     have q : g8 i fr h = .err := by unfold g8; rw [e1]
     rw [M.bind_err q] at p
     exact p.elim
   | some d =>
     have q : g8 i fr h = .ok d fr h := by unfold g8; rw [e1]
     rw [M.bind_ok q] at p
     obtain ⟨v', e2, z⟩ := vz R e1
     rw [ev] at e2
     cases e2
     refine ⟨d, ?_, p⟩
     cases z with
     | val rd => exact .inl rd
     | own O eH rd => exact .inr ⟨_, _, rfl, eH, rd⟩
theorem cU (i : Nat) {x : Str} {px : Pos} (sb : cP X T W b mb) (hs : PlainIx b := by intro _ _; rfl) (hN : X.N[i]? = some x := by rfl) (hv : Vis X.env.scope x := by first | exact Or.inl rfl | exact Or.inr (Or.inl rfl) | exact Or.inr (Or.inr rfl)) (hd : (x == ("__debug__" : Str)) = false := by decide)
 (hcd : (x == ("__classdict__" : Str)) = false := by decide) : cP X T W (.Subscript (.Name x px) b pos) (bj i mb bA) := fun B w σ H fr h Q r1 p => by
 obtain ⟨⟨v, ev⟩, p⟩ := YT r1 p
 refine vm (pe_ix acR (pe_var hN hv hd hcd) nU hs) ⟨v, ev, sb B w σ H fr h _ r1 (bz.bind (VR := vV X.K T B σ) p fun y fr1 h1 w1 H1 u e1 l1 r2 ru p1 => ?_)⟩
 obtain ⟨d, rd, p2⟩ := YW r2 ev p1
 cases q : bA h1 d y with
 | none => rw [q] at p2; exact p2.elim
 | some z =>
   rw [q] at p2
   exact acS r2 rd ru q fun v' rv => p2 w1 H1 v' (Wd.le_refl _) r2 rv
def slM (X : Cx) : V → Option Int → Option Int → Hp → VK → Prop := fun x lo hi H Q => ∀ pins s σ v vl vu sl, Inv X pins σ H s → RelV x v → s.heap.IsSliceOf sl vl vu .none → IsPart vl lo → IsPart vu hi →
    ∃ T id, typeLookup (.type T) "__getitem__" = pure (some (.builtin id)) ∧ s.TypeIs v T ∧ wpAny (model X.prog X.w) X.A (getItem v (.ref sl)) (EP X pins σ Q) X.xe s
theorem agJ : SlR X (slM X) := fun pins s σ H x v vl vu lo hi sl Q I rx hs pl pu h => h pins s σ v vl vu sl I rx hs pl pu
theorem YX {r : V → Option Int → Option Int → Hp → VK → Prop} (o : SlR X r) {x : V} {lo hi : Option Int} {H : Hp} {Q : VK} (h : r x lo hi H Q) : slM X x lo hi H Q := fun pins s σ v vl vu sl I rx hs pl pu => o pins s σ H x v vl vu lo hi sl Q I rx hs pl pu h
def WO (X : Cx) (e : Option Expr) : TO := fun σ H Q => ∀ pins s, Inv X pins σ H s → wpAny (model X.prog X.w) X.A (evalPart e X.env) (fun u s' => ∃ o H', Inv X pins σ H' s' ∧ IsPart u o ∧ Q o H') X.xe s
theorem acT {e : Option Expr} : PO X e (WO X e) := ⟨fun pins s σ H Q I h => h pins s I⟩
theorem ah1 {e : Option Expr} {t : TO} (p : PO X e t) {σ : L2.St} {H : Hp} {Q : Option Int → Hp → Prop} (h : t σ H Q) : WO X e σ H Q := fun pins s I => p.run pins s σ H Q I h
def vI : wD (Option Int) (Option Int) := fun _ _ _ _ _ _ _ b c => b = c
abbrev adM (X : Cx) (T : Tb) (W : WX) (e : Option Expr) (m : M (Option Int)) : Prop := v5 (WO X e) X.K T W vI m
def mPn : M (Option Int) := M.ret none
def U4 (m : M D) : M (Option Int) := m.bind fun d => M.opt (match d with | .int i => some (some i) | _ => none)
theorem aaX (s : cP X T W e m) : adM X T W (some e) (U4 m) := fun B w σ H fr h Q r p =>
 ah1 (po_some nU) (s B w σ H fr h _ r (bz.bind (VR := vV X.K T B σ) p fun d fr1 h1 w1 H1 x e1 l1 r1 rx p1 => by
  cases rx with
  | int i => exact ⟨i, rfl, p1 w1 H1 _ (Wd.le_refl _) r1 rfl⟩
  | _ => exact (show False from p1).elim))
def cutD {α : Type} (xs : List α) (lo hi : Option Int) : List α := (xs.drop (HT.sIx xs.length 0 lo)).take (HT.sIx xs.length xs.length hi - HT.sIx xs.length 0 lo)
theorem aaY {K : PySem.W.Frag} {w : Wd} {vs : List V} {ds : List D} {lo hi : Option Int} (r : aJ K T w vs ds) : aJ K T w (cutV vs lo hi) (cutD ds lo hi) := by
 unfold cutV cutD
 rw [r.length]
 exact (r.drop _).take _
def zG (h : Hh) (d : D) (p : Option Int × Option Int) : Option D := match d with
 | .str z => if z.length ≤ big then some (.str (cutS z p.1 p.2)) else none
 | .tup l => some (.tup (cutD l p.1 p.2))
 | d => match d.der h with
   | .fl l => some (.nl (cutD l p.1 p.2))
   | .nl l => some (.nl (cutD l p.1 p.2))
   | .kl l => some (.nl (cutD l p.1 p.2))
   | _ => none
theorem acU {α : Type} {xs : List α} {lo hi : Option Int} (h1 : HT.sIx xs.length 0 lo = 0) (h2 : HT.sIx xs.length xs.length hi = xs.length) : cutD xs lo hi = xs := by
 unfold cutD
 rw [h1, h2, ale, Nat.sub_zero, List.take_length]
theorem afB {K : PySem.W.Frag} {B : Bs} {w : Wd} {σ : L2.St} {H : Hp} {fr : Fr} {h : Hh} {v : V} {d : D} {l : List D} (R : Rel K T B w σ H fr h) (z : vO K T B σ w H fr v d) (e : d.der h = .fl l ∨ d.der h = .nl l ∨ d.der h = .kl l) :
 ∃ p vs, v = .ref p ∧ aJ K T w vs l ∧ SqL K H p vs := by
 rcases z with z | ⟨p, o, rfl, eH, z⟩
 · cases z with
   | fl s r =>
     rcases e with e | e | e <;> cases e
     exact ⟨_, _, rfl, r, SqL.of (R.sub _ _ s)⟩
   | kl s r =>
     rcases e with e | e | e <;> cases e
     exact ⟨_, _, rfl, r, BW R.sub s⟩
   | @ref a n s =>
     have ln : n < h.length := by
      rw [← R.len]
      exact (List.getElem?_eq_some_iff.mp s).1
     obtain ⟨o, q, rr⟩ := R.cel n a h[n] s (alv ln)
     have e0 : D.der h (.ref n) = h[n] := by
      unfold D.der
      dsimp only
      rw [alv ln]
      rfl
     rw [e0] at e
     generalize h[n] = c at rr e
     cases rr with
     | lst r =>
       rcases e with e | e | e <;> cases e
       exact ⟨_, _, rfl, r, SqL.of q⟩
     | obj r => rcases e with e | e | e <;> cases e
     | dct _ r => rcases e with e | e | e <;> cases e
     | dkt _ r => rcases e with e | e | e <;> cases e
   | _ => rcases e with e | e | e <;> cases e
 · cases z with
   | lst r =>
     rcases e with e | e | e <;> cases e
     exact ⟨_, _, rfl, r, SqL.of eH⟩
   | obj r => rcases e with e | e | e <;> cases e
theorem agK {B : Bs} {w : Wd} {σ : L2.St} {H : Hp} {fr : Fr} {h : Hh} {x : V} {d z : D} {lo hi : Option Int} {Q : VK} (R : Rel X.K T B w σ H fr h) (rx : vO X.K T B σ w H fr x d) (q : zG h d (lo, hi) = some z)
 (k : ∀ w' H' v, w.le w' → Rel X.K T B w' σ H' fr h → vE X.K T B σ w' H' fr v z → Q v H') : slM X x lo hi H Q := by
 have fin : ∀ {l : List D}, (d.der h = .fl l ∨ d.der h = .nl l ∨ d.der h = .kl l) → z = .nl (cutD l lo hi) → slM X x lo hi H Q := fun {l} el ez => by
  obtain ⟨p, vs, rfl, rl, sq⟩ := afB R rx el
  subst ez
  exact YX sl_list ⟨p, vs, rfl, sq, fun q nq => Rz R (aaY rl) nq k⟩
 unfold zG at q
 split at q
 · split at q
   · rename_i hl
     cases q
     rw [YS rx]
     exact YX sl_str ⟨_, rfl, xF hl, k w H _ (Wd.le_refl _) R (.inl (.str _))⟩
   · cases q
 · cases q
   rcases rx with rx | ⟨_, _, _, _, r⟩
   · obtain ⟨p, vs, rfl, s, rl⟩ := JW rx
     refine YX sl_tupA ⟨p, vs, rfl, wZ R.sub s, fun hw => ?_, fun _ q nq => Ry R (aaY rl) nq fun w' H' v l R' r' => k w' H' v l R' (.inl r')⟩
     rw [rl.length] at hw
     refine k w H _ (Wd.le_refl _) R (.inl ?_)
     rw [acU hw.1 hw.2]
     exact rx
   · cases r
 · split at q
   · rename_i l el
     exact fin (.inl el) (by cases q; rfl)
   · rename_i l el
     exact fin (.inr (.inl el)) (by cases q; rfl)
   · rename_i l el
     exact fin (.inr (.inr el)) (by cases q; rfl)
   · cases q
def Ld (ml mh : M (Option Int)) : M (Option Int × Option Int) := ml.bind fun l => mh.bind fun u => M.ret (l, u)
variable {lo hi : Option Expr} {ml mh : M (Option Int)}
theorem afC (i : Nat) {x : Str} {px : Pos} (sl : adM X T W lo ml) (sh : adM X T W hi mh) (hN : X.N[i]? = some x := by rfl) (hv : Vis X.env.scope x := by first | exact Or.inl rfl | exact Or.inr (Or.inl rfl) | exact Or.inr (Or.inr rfl)) (hd : (x == ("__debug__" : Str)) = false := by decide)
 (hcd : (x == ("__classdict__" : Str)) = false := by decide) : zR X T W (.Subscript (.Name x px) (.Slice lo hi none p2) pos) (bj i (Ld ml mh) zG) := fun B w σ H fr h Q r1 p => by
 obtain ⟨⟨v, ev⟩, p⟩ := YT r1 p
 have p0 : bz X.K T B W (vE X.K T B σ) w σ ((ml.bind fun l => mh.bind fun u => (g8 i).bind fun d fr h => M.opt (zG h d (l, u)) fr h) fr h) Q := by
  have e : (Ld ml mh).bind (fun y => (g8 i).bind fun d fr h => M.opt (zG h d y) fr h) fr h = (ml.bind fun l => mh.bind fun u => (g8 i).bind fun d fr h => M.opt (zG h d (l, u)) fr h) fr h := by
   unfold Ld M.bind
   cases ml fr h with
   | ok l fr1 h1 => dsimp only; cases mh fr1 h1 <;> rfl
   | exc _ _ _ => rfl
   | err => rfl
  rw [← e]
  exact p
 refine vm (pe_slice agJ (pe_var hN hv hd hcd) acT acT) ⟨v, ev, sl B w σ H fr h _ r1 (bz.bind (VR := vI X.K T B σ) p0 fun l fr1 h1 w1 H1 l' e1 l1 r2 rl p1 => sh B w1 σ H1 fr1 h1 _ r2 (bz.bind (VR := vI X.K T B σ) p1 fun u fr2 h2 w2 H2 u' e2 l2 r3 ru p2 => ?_))⟩
 have rl' : l' = l := rl
 have ru' : u' = u := ru
 subst rl' ru'
 obtain ⟨d, rd, p3⟩ := YW r3 ev p2
 cases q : zG h2 d (l', u') with
 | none => rw [q] at p3; exact p3.elim
 | some z =>
   rw [q] at p3
   exact agK r3 rd q p3
def adN (ma : M D) (ml mh : M (Option Int)) : M D := ma.bind fun d => ml.bind fun l => mh.bind fun u fr h => M.opt (zG h d (l, u)) fr h
variable {x : Str}
theorem agL {VR1 VR : wD V D} {id : String} {f : Hh → D → Option D} (sa : v5 (WE X a) X.K T W VR1 ma) (hr : ∀ B w σ H fr h x d z Q, Rel X.K T B w σ H fr h → VR1 X.K T B σ w H fr x d → f h d = some z → (∀ w' H' v, w.le w' → Rel X.K T B w' σ H' fr h → VR X.K T B σ w' H' fr v z → Q v H') → cM X (.builtin id) [x] H Q)
 (hm : X.mg x = none) (hg : Gl X x := by rfl) (hv : bootBuiltins x = some (.builtin id) := by decide +kernel) (hn : x ≠ "__name__" := by decide) (hdb : (x == ("__debug__" : Str)) = false := by decide)
 (he : starEach (a :: []) X.env = (false, eval a X.env) :: starEach [] X.env := by exact uD rfl) (hpl : (backTo pos (starEach [] X.env)).any (·.1) = false := by rfl) : v5 (WE X (.Call (.Name x pf) [a] [] pos)) X.K T W VR (iy f ma) := fun B w σ H fr h Q r1 p =>
 vm (pe_callB Uc hg hm hv (pa_cons nU pa_nil he) hn hdb he hpl) (abB (r := fun x H Q => cM X (.builtin id) [x] H Q) sa hr B w σ H fr h Q r1 p)
theorem agM {VR1 VR : wD V D} {id : String} {f : Hh → D → Option D} (sa : v5 (WE X a) X.K T W VR1 ma) (hr : ∀ B w σ H fr h x d z Q, Rel X.K T B w σ H fr h → VR1 X.K T B σ w H fr x d → f h d = some z → (∀ w' H' v, w.le w' → Rel X.K T B w' σ H' fr h → VR X.K T B σ w' H' fr v z → Q v H') → cM X (.type id) [x] H Q)
 (hm : X.mg x = none) (hg : Gl X x := by rfl) (hv : bootBuiltins x = some (.type id) := by decide +kernel) (hn : x ≠ "__name__" := by decide) (hdb : (x == ("__debug__" : Str)) = false := by decide)
 (he : starEach (a :: []) X.env = (false, eval a X.env) :: starEach [] X.env := by exact uD rfl) (hpl : (backTo pos (starEach [] X.env)).any (·.1) = false := by rfl) : v5 (WE X (.Call (.Name x pf) [a] [] pos)) X.K T W VR (iy f ma) := fun B w σ H fr h Q r1 p =>
 vm (pe_callTy Uc hg hm hv (pa_cons nU pa_nil he) hn hdb he hpl) (abB (r := fun x H Q => cM X (.type id) [x] H Q) sa hr B w σ H fr h Q r1 p)
def uW (h : Hh) (d : D) : Option D := match d with
 | .str z => if z.length ≤ big then some (.int z.length) else none
 | d => (d.its h).map fun l => .int l.length
theorem Aq (sa : V7 X T W a ma) (hm : X.mg "len" = none) (hg : Gl X "len" := by rfl) (he : starEach (a :: []) X.env = (false, eval a X.env) :: starEach [] X.env := by exact uD rfl) : cP X T W (.Call (.Name "len" pf) [a] [] pos) (iy uW ma) :=
 agL (id := "len") sa (fun B w σ H fr h x d z Q R rx q k => by
  unfold uW at q
  split at q
  · split at q
    · rename_i hl
      cases q
      rw [YS rx]
      exact yj call_len_str ⟨_, rfl, xF hl, k w H _ (Wd.le_refl _) R (.int _)⟩
    · cases q
  · obtain ⟨l, el, rfl⟩ := Option.map_eq_some_iff.mp q
    obtain ⟨p, vs, rfl, rl, sq⟩ := Hv R rx el
    refine yj call_len_seq ⟨p, vs, rfl, sq, ?_⟩
    rw [rl.length]
    exact k w H _ (Wd.le_refl _) R (.int _)) hm hg (by decide +kernel) (by decide) (by decide) he
def xT (_ : Hh) (d : D) : Option D := match d with
 | .int i => some (.int i)
 | .bl b => some (.int (if b then 1 else 0))
 | .str z => if z.length ≤ 640 then (PySem.intText? z).map .int else none
 | _ => none
theorem HD (sa : cP X T W a ma) (hm : X.mg "int" = none) (hg : Gl X "int" := by rfl) (he : starEach (a :: []) X.env = (false, eval a X.env) :: starEach [] X.env := by exact uD rfl) : cP X T W (.Call (.Name "int" pf) [a] [] pos) (iy xT ma) :=
 agM (id := "int") sa (fun B w σ H fr h x d z Q R rx q k => by
  unfold xT at q
  split at q
  · cases q
    rw [vG rx]
    exact yj call_int1 (.inl ⟨_, rfl, k w H _ (Wd.le_refl _) R (.int _)⟩)
  · cases q
    rw [agC rx]
    exact yj call_int1 (.inr ⟨_, rfl, k w H _ (Wd.le_refl _) R (.int _)⟩)
  · split at q
    · rename_i hl
      obtain ⟨n, en, rfl⟩ := Option.map_eq_some_iff.mp q
      rw [wJ rx]
      exact yj call_int_str ⟨_, n, rfl, en, hl, k w H _ (Wd.le_refl _) R (.int _)⟩
    · cases q
  · cases q) hm hg (by decide +kernel) (by decide) (by decide) he
def Nv (_ : Hh) (d : D) : Option D := match d with
 | .int i => some (.int (if i < 0 then -i else i))
 | _ => none
theorem acV (sa : cP X T W a ma) (hm : X.mg "abs" = none) (hg : Gl X "abs" := by rfl) (he : starEach (a :: []) X.env = (false, eval a X.env) :: starEach [] X.env := by exact uD rfl) : cP X T W (.Call (.Name "abs" pf) [a] [] pos) (iy Nv ma) :=
 agL (id := "abs") sa (fun B w σ H fr h x d z Q R rx q k => by
  unfold Nv at q
  split at q
  · cases q
    rw [vG rx]
    exact yj call_abs ⟨_, rfl, k w H _ (Wd.le_refl _) R (.int _)⟩
  · cases q) hm hg (by decide +kernel) (by decide) (by decide) he
def ae8 (h : Hh) (d : D) : Option D := (d.its h).map .nl
def acW (h : Hh) (d : D) : Option D := (d.its h).map .tup
def D.ints : List D → Option (List Int)
 | [] => some []
 | .int i :: r => (D.ints r).map (i :: ·)
 | _ :: _ => none
def D.lints (h : Hh) (d : D) : Option (List Int) := match d.der h with
 | .fl l => D.ints l
 | .nl l => D.ints l
 | .kl l => D.ints l
 | _ => none
def YZ (h : Hh) (d : D) : Option D := (d.lints h).map fun l => .int l.sum
def abE : Int → List Int → Int
 | a, [] => a
 | a, b :: r => abE (if b > a then b else a) r
def agN : Int → List Int → Int
 | a, [] => a
 | a, b :: r => agN (if b < a then b else a) r
def ah2 (h : Hh) (d : D) : Option D := match d.lints h with
 | some (a :: r) => some (.int (abE a r))
 | _ => none
def ajT (h : Hh) (d : D) : Option D := match d.lints h with
 | some (a :: r) => some (.int (agN a r))
 | _ => none
theorem adP {VR2 VR : wD V D} {id : String} {f : Hh → D → D → Option D} (sa : cP X T W a ma) (sb : v5 (WE X b) X.K T W VR2 mb)
 (hr : ∀ B w σ H fr h x y d e z Q, Rel X.K T B w σ H fr h → sS X.K T w x d → VR2 X.K T B σ w H fr y e → f h d e = some z → (∀ w' H' v, w.le w' → Rel X.K T B w' σ H' fr h → VR X.K T B σ w' H' fr v z → Q v H') → cM X (.builtin id) [x, y] H Q)
 (hm : X.mg x = none) (hg : Gl X x := by rfl) (hv : bootBuiltins x = some (.builtin id) := by decide +kernel) (hn : x ≠ "__name__" := by decide) (hdb : (x == ("__debug__" : Str)) = false := by decide)
 (he : starEach (a :: b :: []) X.env = (false, eval a X.env) :: starEach (b :: []) X.env := by exact uD rfl) (he2 : starEach (b :: []) X.env = (false, eval b X.env) :: starEach [] X.env := by exact uD rfl)
 (hpl : (backTo pos (starEach (b :: []) X.env)).any (·.1) = false := by rfl) : v5 (WE X (.Call (.Name x pf) [a, b] [] pos)) X.K T W VR (bf f ma mb) := fun B w σ H fr h Q r1 p =>
 vm (pe_callB Uc hg hm hv (pa_cons nU (pa_cons nU pa_nil he2) he) hn hdb he hpl) (V9 (r := fun x y H Q => cM X (.builtin id) [x, y] H Q) sa sb hr B w σ H fr h Q r1 p)
abbrev RG := Cu YF fun i j => if j > i then j else i
abbrev RJ := Cu YF fun i j => if j < i then j else i
theorem afD (C : Cq X T W k) (sa : cP X T W a ma) (sb : cP X T W b mb) (hm : X.mg "max" = none) (hg : Gl X "max" := by rfl) (he : starEach (a :: b :: []) X.env = (false, eval a X.env) :: starEach (b :: []) X.env := by exact uD rfl) (he2 : starEach (b :: []) X.env = (false, eval b X.env) :: starEach [] X.env := by exact uD rfl)
 (hpl : (backTo pos (starEach (b :: []) X.env)).any (·.1) = false := by rfl) : cP X T W (.Call (.Name "max" pf) [a, b] [] pos) (bf RG ma mb) :=
 adP (id := "max") sa sb (fun B w σ H fr h x y d e z Q R rx ry q kk => by
  unfold RG Cu at q
  split at q
  · cases q
    rw [vG rx, vG ry]
    exact yj (call_max2 C.calm) ⟨_, _, rfl, kk w H _ (Wd.le_refl _) R (.int _)⟩
  · cases q) hm hg (by decide +kernel) (by decide) (by decide) he he2 hpl
theorem afE (C : Cq X T W k) (sa : cP X T W a ma) (sb : cP X T W b mb) (hm : X.mg "min" = none) (hg : Gl X "min" := by rfl) (he : starEach (a :: b :: []) X.env = (false, eval a X.env) :: starEach (b :: []) X.env := by exact uD rfl) (he2 : starEach (b :: []) X.env = (false, eval b X.env) :: starEach [] X.env := by exact uD rfl)
 (hpl : (backTo pos (starEach (b :: []) X.env)).any (·.1) = false := by rfl) : cP X T W (.Call (.Name "min" pf) [a, b] [] pos) (bf RJ ma mb) :=
 adP (id := "min") sa sb (fun B w σ H fr h x y d e z Q R rx ry q kk => by
  unfold RJ Cu at q
  split at q
  · cases q
    rw [vG rx, vG ry]
    exact yj (call_min2 C.calm) ⟨_, _, rfl, kk w H _ (Wd.le_refl _) R (.int _)⟩
  · cases q) hm hg (by decide +kernel) (by decide) (by decide) he he2 hpl
end
end Pk
namespace Pk
open PySem PySem.Spec L2
def Bs.pr (B : Bs) (p : Addr) (o : HO) : Bs := ⟨B.w0, B.H0, (p, o) :: B.P, B.me⟩
section
variable {K : PySem.W.Frag} {T : Tb} {B : Bs} {w w' : Wd} {σ : L2.St} {H H' : Hp} {fr : Fr} {h : Hh} {p : Addr} {o : HO}
theorem Own.pr (O : Own B w p) {q : Addr} {u : HO} (hq : q ≠ p) : Own (B.pr q u) w p := ⟨O.f, O.i, O.e, fun z hz => by
 rcases List.mem_cons.mp hz with e | hz
 · rw [e]
   exact hq
 · exact O.p z hz⟩
theorem Own.unpr {q : Addr} {u : HO} (O : Own (B.pr q u) w p) : Own B w p := ⟨O.f, O.i, O.e, fun z hz => O.p z (alz _ hz)⟩
theorem Rel.protect (R : Rel K T B w σ H fr h) (O : Own B w p) (lo : Fw σ fr p) (e : H p = some o) : Rel K T (B.pr p o) w σ H fr h :=
 { R with
   prot := fun q hq => by
    rcases List.mem_cons.mp hq with z | hq
    · rw [z]
      exact ⟨e, O.f, O.i⟩
    · exact R.prot q hq
   sl := fun i s d e1 e2 => by
    have z := R.sl i s d e1 e2
    cases z with
    | none => exact .none
    | val r => exact .val r
    | @own q u _ O' eH' rr =>
      have hne : p ≠ q := fun z => lo i ⟨by rw [z]; exact e1, _, e2, rr.own⟩
      exact .own (O'.pr hne) eH' rr }
theorem Rel.unprotect (R : Rel K T (B.pr p o) w σ H fr h) (e0 : B.H0 p = none) (hP : ∀ q ∈ B.P, q.1 ≠ p) : Rel K T B w σ H fr h ∧ Own B w p ∧ Fw σ fr p ∧ H p = some o := by
 obtain ⟨h1, h2, h3⟩ := R.prot (p, o) (als)
 refine ⟨{ R with prot := fun q hq => R.prot q (alz _ hq), sl := fun i s d e1 e2 => ?_ }, ⟨h2, h3, e0, hP⟩, fun i ⟨q1, d, q2, od⟩ => ?_, h1⟩
 · have z := R.sl i s d e1 e2
   cases z with
   | none => exact .none
   | val r => exact .val r
   | own O' eH' rr => exact .own O'.unpr eH' rr
 · have z := R.sl i _ _ q1 q2
   cases z with
   | val r => exact Do od r
   | own O' eH' rr => exact O'.p (p, o) (als) rfl
theorem Rel.repr {o' : HO} (R : Rel K T (B.pr p o) w σ H fr h) (e0 : B.H0 p = none) (hP : ∀ q ∈ B.P, q.1 ≠ p) : Rel K T (B.pr p o') w σ (upd H p o') fr h := by
 obtain ⟨R1, O, lo, e⟩ := R.unprotect e0 hP
 refine Rel.protect { R1 with keep := fun a u ha hm => ?_, prot := fun q hq => ?_, sub := fun a u ha => ?_, cel := fun n a c q1 q2 => ?_, sl := fun j s dj q1 q2 => ?_ } O lo upd_same
 · rw [upd_ne (fun z => by rw [z, e0] at ha; cases ha)]
   exact R1.keep a u ha hm
 · obtain ⟨h1, h2, h3⟩ := R1.prot q hq
   exact ⟨by rw [upd_ne (hP q hq)]; exact h1, h2, h3⟩
 · rw [upd_ne (fun z => by rw [z, O.f] at ha; cases ha)]
   exact R1.sub a u ha
 · have hne : a ≠ p := fun z => O.i (by rw [← z]; exact alB q1)
   exact Mh.keep (Wd.le_refl w) (upd_ne hne) (R1.cel n a c q1 q2)
 · have z := R1.sl j s dj q1 q2
   cases z with
   | none => exact .none
   | val r => exact .val r
   | @own q u _ O' eH' rr =>
     have hne : q ≠ p := fun z => lo j ⟨by rw [← z]; exact q1, _, q2, rr.own⟩
     exact .own O' (by rw [upd_ne hne]; exact eH') rr
end
def WG (X : Cx) (tg : Expr) : TG := fun v σ H Q => ∀ pins s u, Inv X pins σ H s → RelV v u → wpAny (model X.prog X.w) X.A (assign tg X.env u) (fun _ s' => ∃ σ' H', Inv X pins σ' H' s' ∧ Q σ' H') X.xe s
structure WI (X : Cx) (tg iter : Expr) (σ : L2.St) (H : Hp) (R : It → Hp → Prop) : Prop where
 go : ∀ pins s, Inv X pins σ H s → wpAny (model X.prog X.w) X.A (eval iter X.env) (fun v s1 => wpAny (model X.prog X.w) X.A (pyIter v) (PIE X pins σ tg R) X.xe s1) X.xe s
def Y0 (X : Cx) (ifs : List Expr) : TT := fun σ H Q => ∀ pins s, Inv X pins σ H s →
    wpAny (model X.prog X.w) X.A (forIn ifs true fun c r => if r = true then do let ok ← isTrue c X.env (eval c X.env); pure (ForInStep.yield ok) else pure (ForInStep.yield r)) (TP X pins σ Q) X.xe s
section
variable {X : Cx} {tg iter : Expr} {ifs : List Expr}
theorem Y4 : PG X tg (WG X tg) := ⟨fun pins s σ H v u Q I r h => h pins s u I r⟩
theorem Y5 : PI X tg iter (WI X tg iter) := ⟨fun pins s σ H R I h => h.go pins s I⟩
theorem ae9 {t : TG} (p : PG X tg t) {v : V} {σ : L2.St} {H : Hp} {Q : L2.St → Hp → Prop} (h : t v σ H Q) : WG X tg v σ H Q := fun pins s u I r => p.run pins s σ H v u Q I r h
theorem afa {t : TI} (p : PI X tg iter t) {σ : L2.St} {H : Hp} {R : It → Hp → Prop} (h : t σ H R) : WI X tg iter σ H R := ⟨fun pins s I => p.run pins s σ H R I h⟩
theorem aaZ {t : TT} (p : PTs X ifs t) {σ : L2.St} {H : Hp} {Q : Bool → Hp → Prop} (h : t σ H Q) : Y0 X ifs σ H Q := fun pins s I => p.run pins s σ H Q I h
end
inductive Hl (K : PySem.W.Frag) (T : Tb) (B : Bs) (σ : L2.St) (w : Wd) (H : Hp) (fr : Fr) : List V → List D → List Addr → Prop where
 | nil : Hl K T B σ w H fr [] [] []
 | val {v : V} {d : D} {vs : List V} {ds : List D} {ps : List Addr} : sS K T w v d → Hl K T B σ w H fr vs ds ps → Hl K T B σ w H fr (v :: vs) (d :: ds) ps
 | own {p : Addr} {o : HO} {d : D} {vs : List V} {ds : List D} {ps : List Addr} : Own B w p → Fw σ fr p → H p = some o → Am K T w o d → p ∉ ps → Hl K T B σ w H fr vs ds ps → Hl K T B σ w H fr (.ref p :: vs) (d :: ds) (p :: ps)
def vEs : wD (List V) (List D) := fun K T B σ w H fr vs ds => ∃ ps, Hl K T B σ w H fr vs ds ps
abbrev Yi (X : Cx) (T : Tb) (W : WX) (es : List Expr) (m : M (List D)) : Prop := v5 (WA X es) X.K T W vEs m
theorem Hl.unpr {K : PySem.W.Frag} {T : Tb} {B : Bs} {σ : L2.St} {w : Wd} {H : Hp} {fr : Fr} {p : Addr} {o : HO} {vs : List V} {ds : List D} {ps : List Addr} (x : Hl K T (B.pr p o) σ w H fr vs ds ps) : Hl K T B σ w H fr vs ds ps ∧ p ∉ ps := by
 induction x with
 | nil => exact ⟨.nil, by simp⟩
 | val r _ ih => exact ⟨.val r ih.1, ih.2⟩
 | @own q u d vs ds ps O lo e r nq _ ih =>
   refine ⟨.own O.unpr lo e r nq ih.1, fun z => ?_⟩
   rcases List.mem_cons.mp z with z | z
   · exact O.p (p, o) (als) z
   · exact ih.2 z
theorem Hl.length {K : PySem.W.Frag} {T : Tb} {B : Bs} {σ : L2.St} {w : Wd} {H : Hp} {fr : Fr} {vs : List V} {ds : List D} {ps : List Addr} (x : Hl K T B σ w H fr vs ds ps) : vs.length = ds.length := by
 induction x with
 | nil => rfl
 | val _ _ ih => exact congrArg Nat.succ ih
 | own _ _ _ _ _ _ ih => exact congrArg Nat.succ ih
theorem bz.pr {α β : Type} {K : PySem.W.Frag} {T : Tb} {B : Bs} {W : WX} {VR VR' : Wd → Hp → Fr → β → α → Prop} {w : Wd} {σ : L2.St} {p : Addr} {o : HO} {r : R α} {Q Q' : β → Hp → Prop} (e0 : B.H0 p = none) (hP : ∀ q ∈ B.P, q.1 ≠ p) (x : bz K T B W VR w σ r Q)
 (k : ∀ d fr h w' H' v, r = .ok d fr h → w.le w' → Rel K T (B.pr p o) w' σ H' fr h → VR' w' H' fr v d → (∀ w2 H2 v2, w.le w2 → Rel K T B w2 σ H2 fr h → VR w2 H2 fr v2 d → Q v2 H2) → Q' v H') : bz K T (B.pr p o) W VR' w σ r Q' := by
 cases r with
 | ok d fr h => exact fun w' H' v l R z => k d fr h w' H' v rfl l R z x
 | exc e fr h => exact fun w' H' c dd l R z => x w' H' c dd l (R.unprotect e0 hP).1 z
 | err => exact x
section
variable {X : Cx} {T : Tb} {W : WX} {e : Expr} {es : List Expr} {m : M D} {ms : List (M D)}
theorem afF : Yi X T W [] (aa []) := fun B w σ H fr h Q r1 p => Rv pa_nil (p w H _ (Wd.le_refl _) r1 ⟨[], .nil⟩)
theorem Uh (s : zR X T W e m) (t : Yi X T W es (aa ms)) (hs : starEach (e :: es) X.env = (false, eval e X.env) :: starEach es X.env := by exact uD rfl) : Yi X T W (e :: es) (aa (m :: ms)) := fun B w σ H fr h Q r1 p =>
 Rv (pa_cons nU Kg hs) (s B w σ H fr h _ r1 (bz.bind (VR := vE X.K T B σ) p fun d fr1 h1 w1 H1 x e1 l1 r1 rx p1 => by
  rcases rx with rx | ⟨q, o, rfl, O, lo, eH, rd⟩
  · exact t B w1 σ H1 fr1 h1 _ r1 (bz.bind (VR := vEs X.K T B σ) p1 fun ds fr2 h2 w2 H2 vs e2 l2 r2 ⟨ps, rs⟩ p2 => p2 w2 H2 _ (Wd.le_refl _) r2 ⟨ps, .val (rx.mono l2) rs⟩)
  · refine t (B.pr q o) w1 σ H1 fr1 h1 _ (r1.protect O lo eH) ?_
    have p1' : bz X.K T B W (vEs X.K T B σ) w1 σ ((aa ms).bind (fun ds => M.ret (d :: ds)) fr1 h1) Q := p1
    cases e2 : aa ms fr1 h1 with
    | ok ds fr2 h2 =>
      rw [M.bind_ok e2] at p1'
      intro w2 H2 vs l2 r2 ⟨ps, rs⟩
      obtain ⟨r3, O3, lo3, eH3⟩ := r2.unprotect O.e O.p
      obtain ⟨rs', np⟩ := rs.unpr
      exact p1' w2 H2 (.ref q :: vs) l2 r3 ⟨q :: ps, .own O3 lo3 eH3 (rd.mono l2) np rs'⟩
    | exc y fr2 h2 =>
      rw [M.bind_exc e2] at p1'
      exact fun w' H' c dd l R z => p1' w' H' c dd l (R.unprotect O.e O.p).1 z
    | err =>
      rw [M.bind_err e2] at p1'
      exact p1'))
end
def RK (is : List Nat) (σ' σ : L2.St) : Prop := σ'.length = σ.length ∧ ∀ j : Nat, j ∉ is → σ'[j]? = σ[j]?
def PL (X : Cx) (T : Tb) (is : List Nat) (tg : Expr) (mg : D → M Unit) : Prop := ∀ B w σ H fr h x d (Q : L2.St → Hp → Prop), Rel X.K T B w σ H fr h → sS X.K T w x d →
 (match mg d fr h with
  | .ok _ fr' h' => ∀ w' σ' H', w.le w' → Rel X.K T B w' σ' H' fr' h' → RK is σ' σ → Q σ' H'
  | _ => False) → WG X tg x σ H Q
def Yj (X : Cx) (T : Tb) (is : List Nat) (tgs : List Expr) (mg : List D → M Unit) : Prop := ∃ t, PGs X tgs t ∧ ∀ B w σ H fr h xs ds (Q : L2.St → Hp → Prop), Rel X.K T B w σ H fr h → aJ X.K T w xs ds →
 (match mg ds fr h with
  | .ok _ fr' h' => ∀ w' σ' H', w.le w' → Rel X.K T B w' σ' H' fr' h' → RK is σ' σ → Q σ' H'
  | _ => False) → t xs σ H Q
def wF (i : Nat) (d : D) : M Unit := fun fr h => .ok () (fr.set i (some d)) h
def Ny : List D → M Unit
 | [] => M.ret ()
 | _ => M.opt none
def BX (g : D → M Unit) (gs : List D → M Unit) : List D → M Unit
 | [] => M.opt none
 | d :: ds => (g d).bind fun _ => gs ds
def Le (n : Nat) (gs : List D → M Unit) (d : D) : M Unit := match d with
 | .tup l => if l.length = n then gs l else M.opt none
 | _ => M.opt none
section
variable {X : Cx} {T : Tb} {W : WX} {k : Nat} {pos : Pos} {tg : Expr} {tgs : List Expr} {g : D → M Unit} {gs : List D → M Unit} {is js : List Nat}
theorem yV (C : Cq X T W k) (i : Nat) {x : Str} (hi : X.N[i]? = some x := by rfl) (hx : Loc X.env.scope x := by first | exact Or.inl rfl | exact Or.inr rfl) (hf : X.fn x = true ∨ X.env.scope.names.lookup x = some .local := by first | exact .inl rfl | exact .inr rfl) :
 PL X T [i] (.Name x pos) (wF i) := fun B w σ H fr h v d Q R rd p => ae9 (pg_name C.nd hi hx hf) (p w _ H (Wd.le_refl _) (R.set_slot (.val rd) (fun _ _ _ e od => by
 cases e
 exact (Do od rd).elim) fun _ _ e => by
 cases e
 exact Nt rd) ⟨alA, fun j hj => by
  rw [alx]
  intro e
  exact hj (by simp [e])⟩)
theorem aa0 : Yj X T [] [] Ny := ⟨_, pgs_nil, fun B w σ H fr h vs ds Q R rd p => by
 cases rd with
 | nil => exact ⟨rfl, p w σ H (Wd.le_refl _) R ⟨rfl, fun _ _ => rfl⟩⟩
 | cons _ _ => exact p.elim⟩
theorem Nz (s : PL X T is tg g) (t : Yj X T js tgs gs) (hs : (assignEach (tg :: tgs) X.env).map (·.2) = assign tg X.env :: (assignEach tgs X.env).map (·.2) := by rfl) : Yj X T (is ++ js) (tg :: tgs) (BX g gs) := by
 obtain ⟨u, pu, t⟩ := t
 refine ⟨_, pgs_cons Y4 pu hs, fun B w σ H fr h vs ds Q R rd p => ?_⟩
 cases rd with
 | nil => exact p.elim
 | @cons v d vr dr r rr =>
   refine ⟨v, vr, rfl, s B w σ H fr h v d _ R r ?_⟩
   have p' : (match (g d).bind (fun _ => gs dr) fr h with
    | .ok _ fr' h' => ∀ w' σ' H', w.le w' → Rel X.K T B w' σ' H' fr' h' → RK (is ++ js) σ' σ → Q σ' H'
    | _ => False) := p
   cases e : g d fr h with
   | ok _ fr1 h1 =>
     rw [M.bind_ok e] at p'
     intro w1 σ1 H1 l1 R1 k1
     refine t B w1 σ1 H1 fr1 h1 vr dr Q R1 (rr.mono l1) ?_
     cases e2 : gs dr fr1 h1 with
     | ok _ fr2 h2 =>
       rw [e2] at p'
       exact fun w2 σ2 H2 l2 R2 k2 => p' w2 σ2 H2 (Wd.le_trans l1 l2) R2 ⟨k2.1.trans k1.1, fun j hj => by
        rw [List.mem_append, not_or] at hj
        rw [k2.2 j hj.2, k1.2 j hj.1]⟩
     | exc _ _ _ => rw [e2] at p'; exact p'
     | err => rw [e2] at p'; exact p'
   | exc y fr1 h1 =>
     rw [M.bind_exc e] at p'
     exact p'.elim
   | err =>
     rw [M.bind_err e] at p'
     exact p'.elim
theorem acX (C : Cq X T W k) {kk : Nat} {n : Nat} (t : Yj X T is tgs gs) (hn : (assignEach tgs X.env).length = n := by rfl) (hst : (assignEach tgs X.env).findIdx? (·.1) = none := by rfl) : PL X T is (.Tuple tgs kk pos) (Le n gs) := by
 obtain ⟨u, pu, t⟩ := t
 refine fun B w σ H fr h x d Q R rd p => ae9 (pg_tup C.calm pu hn hst) ?_
 cases d with
 | tup l =>
   have p' : (match (if l.length = n then gs l else M.opt none) fr h with
    | .ok _ fr' h' => ∀ w' σ' H', w.le w' → Rel X.K T B w' σ' H' fr' h' → RK is σ' σ → Q σ' H'
    | _ => False) := p
   by_cases hl : l.length = n
   · rw [if_pos hl] at p'
     obtain ⟨a, vs, rfl, sq, rl⟩ := JW rd
     exact ⟨a, vs, rfl, wZ R.sub sq, rl.length.trans hl, t B w σ H fr h vs l Q R rl p'⟩
   · rw [if_neg hl] at p'
     exact p'.elim
 | _ => exact (show False from p).elim
def Dq : List Nat → List D → Fr → Option Fr
 | [], [], fr => some fr
 | i :: is, d :: ds, fr => Dq is ds (fr.set i (some d))
 | _, _, _ => none
theorem Rel.putV {K : PySem.W.Frag} {B : Bs} {w : Wd} {σ : L2.St} {H : Hp} {fr : Fr} {h : Hh} {v : V} {d : D} (R : Rel K T B w σ H fr h) (i : Nat) (r : sS K T w v d) : Rel K T B w (σ.set i (some v)) H (fr.set i (some d)) h :=
 R.set_slot (.val r) (fun _ _ _ e od => by
  cases e
  exact (Do od r).elim) fun _ _ e => by
  cases e
  exact Nt r
theorem Rel.put {K : PySem.W.Frag} {B : Bs} {w : Wd} {σ : L2.St} {H : Hp} {fr : Fr} {h : Hh} {v : V} {d : D} (R : Rel K T B w σ H fr h) (i : Nat) (hi : i ≠ 0) (x : vE K T B σ w H fr v d) : Rel K T B w (σ.set i (some v)) H (fr.set i (some d)) h := by
 rcases x with r | ⟨p, o, rfl, O, lo, e, r⟩
 · exact R.putV i r
 · exact R.set_slot (.own O e r) (fun q d' e1 e2 od => by
    cases e1
    cases e2
    exact lo) fun z => (hi z).elim
theorem acY {σ : L2.St} {fr : Fr} {i : Nat} {v : V} {d : D} {p : Addr} (lo : Fw σ fr p) (hv : d.own = true → v ≠ .ref p) : Fw (σ.set i (some v)) (fr.set i (some d)) p := fun j z => by
 obtain ⟨e1, dd, e2, od⟩ := z
 by_cases hj : i = j
 · subst hj
   have l1 : i < σ.length := by
    have := (List.getElem?_eq_some_iff.mp e1).1
    rwa [alA] at this
   have l2 : i < fr.length := by
    have := (List.getElem?_eq_some_iff.mp e2).1
    rwa [alA] at this
   rw [aly l1] at e1
   rw [aly l2] at e2
   cases e1
   cases e2
   exact hv od rfl
 · rw [alx hj] at e1 e2
   exact lo j ⟨e1, dd, e2, od⟩
theorem Hl.set {K : PySem.W.Frag} {B : Bs} {w : Wd} {σ : L2.St} {H : Hp} {fr : Fr} {vs : List V} {ds : List D} {ps : List Addr} {i : Nat} {v : V} {d : D} (x : Hl K T B σ w H fr vs ds ps) (hv : ∀ p ∈ ps, d.own = true → v ≠ .ref p) :
 Hl K T B (σ.set i (some v)) w H (fr.set i (some d)) vs ds ps := by
 induction x with
 | nil => exact .nil
 | val r _ ih => exact .val r (ih hv)
 | own O lo e r nq _ ih => exact .own O (acY lo (hv _ (als))) e r nq (ih fun q hq => hv q (alz _ hq))
def Yk (X : Cx) (T : Tb) (is : List Nat) (tgs : List Expr) : Prop := ∃ t, PGs X tgs t ∧ ∀ B w σ H fr fr' h xs ds ps (Q : L2.St → Hp → Prop), Rel X.K T B w σ H fr h → Hl X.K T B σ w H fr xs ds ps → Dq is ds fr = some fr' →
 (∀ σ', Rel X.K T B w σ' H fr' h → Q σ' H) → t xs σ H Q
theorem afG : Yk X T [] [] := ⟨_, pgs_nil, fun B w σ H fr fr' h xs ds ps Q R rs e q => by
 cases rs with
 | nil =>
   cases e
   exact ⟨rfl, q σ R⟩
 | val _ _ => cases e
 | own _ _ _ _ _ _ => cases e⟩
theorem Ui (C : Cq X T W k) (i : Nat) {x : Str} (t : Yk X T is tgs) (hs : (assignEach (.Name x pos :: tgs) X.env).map (·.2) = assign (.Name x pos) X.env :: (assignEach tgs X.env).map (·.2) := by rfl)
 (hi : X.N[i]? = some x := by rfl) (hx : Loc X.env.scope x := by first | exact Or.inl rfl | exact Or.inr rfl) (hf : X.fn x = true ∨ X.env.scope.names.lookup x = some .local := by first | exact .inl rfl | exact .inr rfl) (h0 : i ≠ 0 := by decide) : Yk X T (i :: is) (.Name x pos :: tgs) := by
 obtain ⟨u, pu, t⟩ := t
 refine ⟨_, pgs_cons (pg_name C.nd hi hx hf) pu hs, fun B w σ H fr fr' h xs ds ps Q R rs e q => ?_⟩
 cases rs with
 | nil => cases e
 | val r rr => exact ⟨_, _, rfl, t B w _ H _ fr' h _ _ _ Q (R.put i h0 (.inl r)) (rr.set fun p _ od => (Do od r).elim) e q⟩
 | own O lo eH r nq rr => exact ⟨_, _, rfl, t B w _ H _ fr' h _ _ _ Q (R.put i h0 (.inr ⟨_, _, rfl, O, lo, eH, r⟩)) (rr.set fun p hp _ z => by
  cases z
  exact nq hp) e q⟩
end
def vJ : wD It (List D) := fun K T _ _ w _ _ J ds => ∀ i w1 H1, w.le w1 → (∀ a o, w1.F a = some o → H1 a = some o) →
 (ds.length ≤ i → J.stop i H1) ∧ ∀ d, ds[i]? = some d → J.go i H1 ∧ ∀ x H2, J.yld i H1 x H2 → ∀ B σ fr h, Rel K T B w1 σ H1 fr h → ∃ w2, w1.le w2 ∧ Rel K T B w2 σ H2 fr h ∧ sS K T w2 x d
abbrev Wh (X : Cx) (T : Tb) (W : WX) (tg iter : Expr) (m : M (List D)) : Prop := v5 (WI X tg iter) X.K T W vJ m
section
variable {X : Cx} {T : Tb} {W : WX} {k : Nat} {pos p pf tpos : Pos} {tg e a b : Expr} {m ma mb : M D}
def Lf (m : M D) : M (List D) := m.bind fun d => M.opt (d.its [])
theorem afH {K : PySem.W.Frag} {w : Wd} {v : V} {d : D} {l : List D} (r : sS K T w v d) (e : d.its [] = some l) : ∃ p vs, v = .ref p ∧ aJ K T w vs l ∧ (SqT K w.F p vs ∨ SqL K w.F p vs) := by
 cases r with
 | tup s r =>
   have e' : some _ = some l := e
   cases e'
   exact ⟨_, _, rfl, r, .inl s⟩
 | fl s r =>
   have e' : some _ = some l := e
   cases e'
   exact ⟨_, _, rfl, r, .inr (SqL.of s)⟩
 | kl s r =>
   have e' : some _ = some l := e
   cases e'
   exact ⟨_, _, rfl, r, .inr s⟩
 | ref s => cases e
 | _ => cases e
def aiT (K : PySem.W.Frag) (tl : TE) : TI := fun σ H R => tl σ H fun x H1 => ∃ a, x = .ref a ∧ (((∃ xs, SqT K H1 a xs) ∧ R (Itt K a) H1) ∨ ((∃ xs, SqL K H1 a xs) ∧ R (Itl K a) H1))
open PyProof.Rows in
theorem agO {l : Expr} {tl : TE} (hl : PE X l tl) : PI X tg l (aiT X.K tl) := by
 refine ⟨fun pins s σ H R I h => ?_⟩
 refine thn (hl.run pins s σ H _ I h) fun v s1 ⟨x, H1, I1, r1, q1⟩ => ?_
 obtain ⟨a, e, ⟨⟨xs, hq⟩, q⟩ | ⟨⟨xs, hq⟩, q⟩⟩ := q1
 · subst e
   cases r1
   obtain ⟨its, rv, p, hz⟩ := I1.tuple hq
   refine wpAny_pyIter_tuple (show s1.heap.IsTuple a its.toArray from p) ?_
   refine ⟨s1.heap.objs.size, [s1.heap.objs.size], _, _, H1, rfl, I1.kept (t' := s1.toks) fun b o e => Heap.get?_push_of_some _ e, turn_tuple a _, ⟨_, Heap.get?_push_size _ rfl, rfl, rfl⟩, fun b hb => ?_, q⟩
   have e : b = s1.heap.objs.size := by simpa using hb
   subst e
   exact I1.fpOk (Nat.le_refl _) (I1.hok.fresh (Nat.le_refl _))
 · subst e
   cases r1
   obtain ⟨its, rv, p, hz⟩ := I1.list hq
   refine wpAny_pyIter_list p.isList ?_
   refine ⟨s1.heap.objs.size, [s1.heap.objs.size], _, _, H1, rfl, I1.kept (t' := s1.toks) fun b o e => Heap.get?_push_of_some _ e, turn_list a _, ⟨_, Heap.get?_push_size _ rfl, rfl, rfl⟩, fun b hb => ?_, q⟩
   have e : b = s1.heap.objs.size := by simpa using hb
   subst e
   exact I1.fpOk (Nat.le_refl _) (I1.hok.fresh (Nat.le_refl _))
theorem agP {K : PySem.W.Frag} {B : Bs} {σ : L2.St} {w : Wd} {H : Hp} {fr : Fr} {a : Addr} {vs : List V} {l : List D} (sq : SqT K w.F a vs) (rl : aJ K T w vs l) : vJ K T B σ w H fr (Itt K a) l := fun i w2 H2 l2 hs => ⟨fun hi => ⟨vs, wZ hs (wZ l2.1 sq), by rw [rl.length]; exact hi⟩, fun d' hd => by
 obtain ⟨v, hv, rv⟩ := rl.get hd
 refine ⟨⟨vs, v, wZ hs (wZ l2.1 sq), hv⟩, fun y H3 hy B' σ' fr' h' R' => ?_⟩
 obtain ⟨rfl, hy⟩ := hy
 have z := hy vs (wZ hs (wZ l2.1 sq))
 rw [hv] at z
 cases z
 exact ⟨w2, Wd.le_refl _, R', rv.mono l2⟩⟩
theorem agQ {K : PySem.W.Frag} {B : Bs} {σ : L2.St} {w : Wd} {H : Hp} {fr : Fr} {a : Addr} {vs : List V} {l : List D} (sq : SqL K w.F a vs) (rl : aJ K T w vs l) : vJ K T B σ w H fr (Itl K a) l := fun i w2 H2 l2 hs => ⟨fun hi => ⟨vs, BW hs (BW l2.1 sq), by rw [rl.length]; exact hi⟩, fun d' hd => by
 obtain ⟨v, hv, rv⟩ := rl.get hd
 refine ⟨⟨vs, v, BW hs (BW l2.1 sq), hv⟩, fun y H3 hy B' σ' fr' h' R' => ?_⟩
 obtain ⟨rfl, hy⟩ := hy
 have z := hy vs (BW hs (BW l2.1 sq))
 rw [hv] at z
 cases z
 exact ⟨w2, Wd.le_refl _, R', rv.mono l2⟩⟩
theorem PN (s : cP X T W e m) : Wh X T W tg e (Lf m) := fun B w σ H fr h Q r p => afa (agO nU) (s B w σ H fr h _ r (bz.bind (VR := vV X.K T B σ) p fun d fr1 h1 w1 H1 x e1 l1 r1 rx p1 => by
 cases q : d.its [] with
 | none => rw [q] at p1; exact p1.elim
 | some l =>
   rw [q] at p1
   obtain ⟨a, vs, rfl, rl, sq⟩ := afH rx q
   refine ⟨a, rfl, ?_⟩
   rcases sq with sq | sq
   · exact .inl ⟨⟨vs, wZ r1.sub sq⟩, p1 w1 H1 (Itt X.K a) (Wd.le_refl _) r1 (agP sq rl)⟩
   · exact .inr ⟨⟨vs, BW r1.sub sq⟩, p1 w1 H1 (Itl X.K a) (Wd.le_refl _) r1 (agQ sq rl)⟩))
def Jv (lo : Int) (n : Nat) : List D := (List.range n).map fun (i : Nat) => D.int (lo + (i : Int))
def Oo (i : Int) : Bool := decide (-(2 ^ 62) ≤ i) && decide (i < 2 ^ 62)
theorem agR {i : Int} (h : Oo i = true) : -(2 ^ 62) ≤ i ∧ i < 2 ^ 62 := by
 obtain ⟨h1, h2⟩ := Bool.and_eq_true_iff.mp h
 exact ⟨of_decide_eq_true h1, of_decide_eq_true h2⟩
def yO (m : M D) : M (List D) := m.bind fun d => M.opt (match d with
 | .int j => if Oo j then some (Jv 0 j.toNat) else none
 | _ => none)
def abF (ma mb : M D) : M (List D) := ma.bind fun x => mb.bind fun y => M.opt (match x, y with
 | .int i, .int j => if Oo i && Oo j then some (Jv i (j - i).toNat) else none
 | _, _ => none)
theorem agS {K : PySem.W.Frag} {B : Bs} {σ : L2.St} {w : Wd} {H : Hp} {fr : Fr} (lo : Int) (n : Nat) : vJ K T B σ w H fr (Itr lo n) (Jv lo n) := fun i w2 H2 l2 hs => ⟨fun hi => by
 have hi' : (Jv lo n).length ≤ i := hi
 unfold Jv at hi'
 rw [alw, List.length_range] at hi'
 exact hi', fun d' hd => by
 unfold Jv at hd
 rw [alF] at hd
 obtain ⟨j, hj, rfl⟩ := Option.map_eq_some_iff.mp hd
 obtain ⟨hl, ej⟩ := List.getElem?_eq_some_iff.mp hj
 rw [List.length_range] at hl
 rw [List.getElem_range] at ej
 subst ej
 refine ⟨hl, fun y H3 hy B' σ' fr' h' R' => ?_⟩
 obtain ⟨rfl, rfl⟩ := hy
 exact ⟨w2, Wd.le_refl _, R', .int _⟩⟩
theorem RL (s : cP X T W a ma) (hm : X.mg "range" = none) (hg : Gl X "range" := by rfl) (hs : starEach [a] X.env = [(false, eval a X.env)] := by rfl) : Wh X T W tg (.Call (.Name "range" p) [a] [] pos) (yO ma) := fun B w σ H fr h Q r p =>
 afa (pi_range1 hg hm (pa_cons nU pa_nil (hs.trans (by rfl))) hs) (s B w σ H fr h _ r (bz.bind (VR := vV X.K T B σ) p fun d fr1 h1 w1 H1 x e1 l1 r1 rx p1 => by
  cases rx with
  | int j =>
    dsimp only at p1
    cases hj : Oo j with
    | false => rw [hj] at p1; exact (show False from p1).elim
    | true =>
      rw [hj] at p1
      obtain ⟨h1', h2'⟩ := agR hj
      exact ⟨j, rfl, h1', h2', p1 w1 H1 (Itr 0 j.toNat) (Wd.le_refl _) r1 (agS 0 _)⟩
  | _ => exact (show False from p1).elim))
end
end Pk
namespace Pk
open PySem PySem.Spec L2
inductive Fl where
 | nx | brk | ct | rt (d : D)
def sY (K : PySem.W.Frag) (T : Tb) (B : Bs) (W : WX) (w : Wd) (r : R Fl) (D : Ends) : Prop :=
 match r with
 | .ok .nx fr h => ∀ w' σ' H', w.le w' → Rel K T B w' σ' H' fr h → D.nx σ' H'
 | .ok .brk fr h => ∀ w' σ' H', w.le w' → Rel K T B w' σ' H' fr h → D.bk σ' H'
 | .ok .ct fr h => ∀ w' σ' H', w.le w' → Rel K T B w' σ' H' fr h → D.ct σ' H'
 | .ok (.rt d) fr h => ∀ w' σ' H' v, w.le w' → Rel K T B w' σ' H' fr h → vE K T B σ' w' H' fr v d → D.rt v H'
 | .exc x fr h => ∀ w' σ' H' cls dd, w.le w' → Rel K T B w' σ' H' fr h → V5 K T w' x cls dd → W cls dd σ' H'
 | .err => False
def Ar (X : Cx) (T : Tb) (W : WX) (st : Stmt) (m : M Fl) : Prop := ∀ (B : Bs) (w : Wd) (σ : L2.St) (H : Hp) (fr : Fr) (h : Hh) (D : Ends), Rel X.K T B w σ H fr h → sY X.K T B W w (m fr h) D → WS X st D σ H
def Fy (X : Cx) (T : Tb) (W : WX) (sts : List Stmt) (m : M Fl) : Prop := ∀ (B : Bs) (w : Wd) (σ : L2.St) (H : Hp) (fr : Fr) (h : Hh) (D : Ends), Rel X.K T B w σ H fr h → sY X.K T B W w (m fr h) D → YC X sts D σ H
section
variable {K : PySem.W.Frag} {T : Tb} {B : Bs} {W : WX} {w w' : Wd} {σ : L2.St} {H : Hp}
theorem sY.le {r : R Fl} {D : Ends} (x : w.le w') (p : sY K T B W w r D) : sY K T B W w' r D := by
 cases r with
 | ok f fr h =>
   cases f with
   | rt d => exact fun w2 σ2 H2 v y => p w2 σ2 H2 v (Wd.le_trans x y)
   | _ => exact fun w2 σ2 H2 y => p w2 σ2 H2 (Wd.le_trans x y)
 | exc e fr h => exact fun w2 σ2 H2 c d y => p w2 σ2 H2 c d (Wd.le_trans x y)
 | err => exact p
theorem sY.bind {α β : Type} {VR : Wd → Hp → Fr → β → α → Prop} {m : M α} {f : α → M Fl} {fr : Fr} {h : Hh} {D : Ends} {Q : β → Hp → Prop} (p : sY K T B W w (m.bind f fr h) D)
 (k : ∀ d fr1 h1 w1 H1 v, m fr h = .ok d fr1 h1 → w.le w1 → Rel K T B w1 σ H1 fr1 h1 → VR w1 H1 fr1 v d → sY K T B W w1 (f d fr1 h1) D → Q v H1) : bz K T B W VR w σ (m fr h) Q := by
 cases e : m fr h with
 | ok d fr1 h1 =>
   rw [M.bind_ok e] at p
   exact fun w1 H1 v x r z => k d fr1 h1 w1 H1 v e x r z (p.le x)
 | exc y fr1 h1 =>
   rw [M.bind_exc e] at p
   exact fun w1 H1 c dd x r z => p w1 σ H1 c dd x r z
 | err =>
   rw [M.bind_err e] at p
   exact p
end
def az (m n : M Fl) : M Fl := m.bind fun f => match f with
 | .nx => n
 | f => M.ret f
def uw (t : M Bool) (m n : M Fl) : M Fl := t.bind fun b => if b then m else n
def tL {α : Type} (m : M α) : M Fl := m.bind fun _ => M.ret .nx
def ie (m : M D) : M Fl := m.bind fun d => M.ret (.rt d)
def cQ (i : Nat) (m : M D) : M Fl := m.bind fun d fr h => .ok .nx (fr.set i (some d)) h
def PP (m : M D) (g : D → M Unit) : M Fl := m.bind fun d fr h => match g d fr h with
 | .ok _ fr h => .ok .nx fr h
 | _ => .err
def U5 (is : List Nat) (m : M (List D)) : M Fl := m.bind fun ds fr h => match Dq is ds fr with
 | some fr' => if ds.length ≤ big then .ok .nx fr' h else .err
 | none => .err
section
variable {X : Cx} {T : Tb} {W : WX} {k : Nat} {pos pos' p2 : Pos} {e a b c : Expr} {st : Stmt} {sts as bs : List Stmt} {m : M D} {s n : M Fl} {t : M Bool} {es : List Expr}
theorem vf : Fy X T W [] (M.ret .nx) := fun B w σ H fr h D R p => V6 pss_nil (p w σ H (Wd.le_refl _) R)
theorem aC (s1 : Ar X T W st s) (s2 : Fy X T W sts n) : Fy X T W (st :: sts) (az s n) := fun B w σ H fr h D R p =>
 V6 (pss_cons acL Ce) (s1 B w σ H fr h _ R (by
  unfold az at p
  cases e : s fr h with
  | ok f fr1 h1 =>
    rw [M.bind_ok e] at p
    cases f with
    | nx => exact fun w1 σ1 H1 l R1 => s2 B w1 σ1 H1 fr1 h1 D R1 (p.le l)
    | _ => exact p
  | exc y fr1 h1 => rw [M.bind_exc e] at p; exact p
  | err => rw [M.bind_err e] at p; exact p))
theorem cR (s1 : Ar X T W st s) : Fy X T W [st] s := fun B w σ H fr h D R p => V6 (pss_one acL) (s1 B w σ H fr h _ R p)
theorem agT : Ar X T W (.Continue pos) (M.ret .ct) := fun B w σ H fr h D R p => Ac ps_continue (p w σ H (Wd.le_refl _) R)
theorem vR {VR : wD V D} (s : v5 (WE X e) X.K T W VR m) (hs : swapsWith e none pos.line X.env = pure false := by rfl) : Ar X T W (.Expr e pos) (tL m) := fun B w σ H fr h D R p =>
 Ac (ps_expr nU hs) (s B w σ H fr h _ R (sY.bind (VR := VR X.K T B σ) p fun d fr1 h1 w1 H1 v e1 l1 r1 rx p1 => p1 w1 σ H1 (Wd.le_refl _) r1))
theorem s_ret (s : zR X T W e m) : Ar X T W (.Return (some e) pos) (ie m) := fun B w σ H fr h D R p =>
 Ac (ps_ret nU) (s B w σ H fr h _ R (sY.bind (VR := vE X.K T B σ) p fun d fr1 h1 w1 H1 v e1 l1 r1 rx p1 => p1 w1 σ H1 v (Wd.le_refl _) r1 rx))
theorem vH (st : GF X T W c t) (sa : Fy X T W as s) (sb : Fy X T W bs n) : Ar X T W (.If c as bs pos) (uw t s n) := fun B w σ H fr h D R p =>
 Ac (ps_if Gz Ce Ce) (st B w σ H fr h _ R (sY.bind (VR := vB X.K T B σ) p fun d fr1 h1 w1 H1 x e1 l1 r1 rx p1 => by
  have rx' : x = d := rx
  subst rx'
  cases x with
  | true => exact sa B w1 σ H1 fr1 h1 D r1 p1
  | false => exact sb B w1 σ H1 fr1 h1 D r1 p1))
theorem afI : Ar X T W st (fun _ _ => .err) := fun B w σ H fr h D R p => p.elim
theorem vZ (C : Cq X T W k) (i : Nat) {x : Str} (s : zR X T W e m) (hs : swapsWith e (some (.Name x pos')) pos.line X.env = pure false := by rfl) (hi : X.N[i]? = some x := by rfl) (hx : Loc X.env.scope x := by first | exact Or.inl rfl | exact Or.inr rfl)
 (hf : X.fn x = true ∨ X.env.scope.names.lookup x = some .local := by first | exact .inl rfl | exact .inr rfl) (h0 : i ≠ 0 := by decide) : Ar X T W (.Assign [.Name x pos'] e pos) (cQ i m) := fun B w σ H fr h D R p =>
 Ac (ps_set C.nd hi hx nU hs hf) (s B w σ H fr h _ R (sY.bind (VR := vE X.K T B σ) p fun d fr1 h1 w1 H1 v e1 l1 r1 rx p1 => p1 w1 _ H1 (Wd.le_refl _) (r1.put i h0 rx)))
theorem vL (C : Cq X T W k) (i : Nat) {x : Str} (s : cP X T W e m) (hs : swapsWith e (some (.Name x pos')) pos.line X.env = pure false := by rfl) (hi : X.N[i]? = some x := by rfl) (hx : Loc X.env.scope x := by first | exact Or.inl rfl | exact Or.inr rfl)
 (hf : X.fn x = true ∨ X.env.scope.names.lookup x = some .local := by first | exact .inl rfl | exact .inr rfl) : Ar X T W (.Assign [.Name x pos'] e pos) (cQ i m) := fun B w σ H fr h D R p =>
 Ac (ps_set C.nd hi hx nU hs hf) (s B w σ H fr h _ R (sY.bind (VR := vV X.K T B σ) p fun d fr1 h1 w1 H1 v e1 l1 r1 rx p1 => p1 w1 _ H1 (Wd.le_refl _) (r1.putV i rx)))
theorem s_asg {tg : Expr} {is : List Nat} {g : D → M Unit} (s : cP X T W e m) (sg : PL X T is tg g) (hs : swapsWithSole [tg] e pos.line X.env = pure false := by rfl) (hw : swappedStores [tg] e X.env = pure none := by rfl)
 (h1 : (assignEach [tg] X.env).map (·.2) = [assign tg X.env] := by rfl) : Ar X T W (.Assign [tg] e pos) (PP m g) := fun B w σ H fr h D R p =>
 Ac (ps_asg nU Y4 hs hw h1) (s B w σ H fr h _ R (sY.bind (VR := vV X.K T B σ) p fun d fr1 h1 w1 H1 v e1 l1 r1 rx p1 => sg B w1 σ H1 fr1 h1 v d _ r1 rx (by
  cases e2 : g d fr1 h1 with
  | ok u fr2 h2 =>
    rw [e2] at p1
    exact fun w2 σ2 H2 l2 r2 _ => p1 w2 σ2 H2 l2 r2
  | exc y fr2 h2 =>
    rw [e2] at p1
    exact p1.elim
  | err =>
    rw [e2] at p1
    exact p1.elim)))
theorem Hl.temp {K : PySem.W.Frag} {B : Bs} {σ : L2.St} {w : Wd} {H : Hp} {fr : Fr} {vs : List V} {ds : List D} {ps : List Addr} {p : Addr} {o : HO} (x : Hl K T B σ w H fr vs ds ps) (np : H p = none) : Hl K T B σ w (upd H p o) fr vs ds ps := by
 induction x with
 | nil => exact .nil
 | val r _ ih => exact .val r ih
 | own O lo e r nq _ ih => exact .own O lo (by rw [upd_ne (ne_of_none e np)]; exact e) r nq ih
theorem Y6 : ∀ (is : List Nat) (ds : List D) (fr fr' : Fr), Dq is ds fr = some fr' → ds.length = is.length
 | [], [], _, _, _ => rfl
 | [], _ :: _, _, _, q => by cases q
 | _ :: _, [], _, _, q => by cases q
 | _ :: is, _ :: ds, _, fr', q => congrArg Nat.succ (Y6 is ds _ fr' q)
theorem agU (C : Cq X T W k) {tgs : List Expr} {is : List Nat} {kk x1 : Nat} {n : Nat} {ms : M (List D)} (se : Yi X T W es ms) (g : Yk X T is tgs) (hn : (assignEach tgs X.env).length = n := by rfl) (hl : is.length = n := by rfl) (hst : (assignEach tgs X.env).findIdx? (·.1) = none := by rfl)
 (hs : swapsWithSole [.Tuple tgs kk pos'] (.Tuple es x1 p2) pos.line X.env = pure false := by rfl) (hw : swappedStores [.Tuple tgs kk pos'] (.Tuple es x1 p2) X.env = pure none := by rfl)
 (h1 : (assignEach [.Tuple tgs kk pos'] X.env).map (·.2) = [assign (.Tuple tgs kk pos') X.env] := by rfl) : Ar X T W (.Assign [.Tuple tgs kk pos'] (.Tuple es x1 p2) pos) (U5 is ms) := by
 obtain ⟨u, pu, g⟩ := g
 refine fun B w σ H fr h D R p => Ac (ps_asg (pe_tup Kg) (pg_tup C.calm pu hn hst) hs hw h1) (se B w σ H fr h _ R (sY.bind (VR := vEs X.K T B σ) p fun ds fr1 h1 w1 H1 vs e1 l1 r1 ⟨ps, rs⟩ p1 => ?_))
 cases q : Dq is ds fr1 with
 | none => rw [q] at p1; exact p1.elim
 | some fr' =>
   rw [q] at p1
   dsimp only at p1
   by_cases hb : ds.length ≤ big
   · rw [if_pos hb] at p1
     refine ⟨by rw [rs.length]; exact xF hb, fun a na => ⟨a, vs, rfl, SqT.of upd_same, ?_, ?_⟩⟩
     · rw [rs.length, Y6 _ _ _ _ q, hl]
     · exact g B w1 σ (upd H1 a (.tup vs)) fr1 fr' h1 vs ds ps _ (r1.temp na) (rs.temp na) q fun σ' R' => p1 w1 σ' _ (Wd.le_refl _) R'
   · rw [if_neg hb] at p1
     exact p1.elim
end
end Pk
namespace Pk
open PySem PySem.Spec L2
def CV (g : D → M Unit) (b : M Fl) : List D → M Fl
 | [] => M.ret .nx
 | d :: ds => fun fr h => match g d fr h with
   | .ok _ fr h => match b fr h with
     | .ok .nx fr h => CV g b ds fr h
     | .ok .ct fr h => CV g b ds fr h
     | .ok .brk fr h => .ok .nx fr h
     | .ok (.rt d) fr h => .ok (.rt d) fr h
     | .exc x fr h => .exc x fr h
     | .err => .err
   | _ => .err
def zr (l : M (List D)) (g : D → M Unit) (b : M Fl) : M Fl := l.bind fun ds => CV g b ds
def yc (t : M Bool) (b : M Fl) : Nat → M Fl
 | 0 => fun _ _ => .err
 | n + 1 => fun fr h => match t fr h with
   | .ok true fr h => match b fr h with
     | .ok .nx fr h => yc t b n fr h
     | .ok .ct fr h => yc t b n fr h
     | .ok .brk fr h => .ok .nx fr h
     | .ok (.rt d) fr h => .ok (.rt d) fr h
     | .exc x fr h => .exc x fr h
     | .err => .err
   | .ok false fr h => .ok .nx fr h
   | .exc x fr h => .exc x fr h
   | .err => .err
section
variable {X : Cx} {T : Tb} {W : WX} {k : Nat} {pos pos' : Pos} {tg iter c : Expr} {body : List Stmt} {li : M (List D)} {g : D → M Unit} {b : M Fl} {is : List Nat} {t : M Bool}
theorem Yl (C : Cq X T W k) (si : Wh X T W tg iter li) (sg : PL X T is tg g) (sb : Fy X T W body b) (hs : ∀ x, foldedSetIterable iter X.env x = pure x := by intro _; rfl) : Ar X T W (.For tg iter body [] pos) (zr li g b) := fun B w σ H fr h D R p =>
 Ac (ps_for C.po C.calm Y5 Y4 Ce hs) (si B w σ H fr h _ R (sY.bind (VR := vJ X.K T B σ) p fun ds fr1 h1 w1 H1 J e1 l1 r1 vj p1 => by
  refine ⟨fun i m σ H => m = ds.length - i ∧ i ≤ ds.length ∧ ∃ w' fr' h', w1.le w' ∧ Rel X.K T B w' σ H fr' h' ∧ sY X.K T B W w' (CV g b (ds.drop i) fr' h') D, ⟨ds.length, by simp, Nat.zero_le _, w1, fr1, h1, Wd.le_refl _, r1, p1⟩, ?_⟩
  rintro i m σ2 H2 ⟨rfl, hi, w2, fr2, h2, l2, r2, p2⟩
  obtain ⟨js, jg⟩ := vj i w2 H2 l2 r2.sub
  by_cases hlt : i < ds.length
  · obtain ⟨go, y⟩ := jg ds[i] (alv hlt)
    refine .inr ⟨go, fun σ' H' => ∃ w' fr' h', w1.le w' ∧ Rel X.K T B w' σ' H' fr' h' ∧ sY X.K T B W w' (CV g b (ds.drop (i + 1)) fr' h') D, fun σ' H' q => ⟨ds.length - (i + 1), by omega, rfl, hlt, q⟩, fun x H3 yx => ?_⟩
    obtain ⟨w3, l3, r3, rx⟩ := y x H3 yx B σ2 fr2 h2 r2
    have ed : ds.drop i = ds[i] :: ds.drop (i + 1) := List.drop_eq_getElem_cons hlt
    rw [ed] at p2
    refine sg B w3 σ2 H3 fr2 h2 x ds[i] _ r3 rx ?_
    unfold CV at p2
    cases e2 : g ds[i] fr2 h2 with
    | ok u fr3 h3 =>
      rw [e2] at p2
      intro w4 σ4 H4 l4 r4 _
      refine sb B w4 σ4 H4 fr3 h3 _ r4 ?_
      have l34 : w1.le w4 := Wd.le_trans l2 (Wd.le_trans l3 l4)
      dsimp only at p2
      cases e3 : b fr3 h3 with
      | ok f fr4 h4 =>
        rw [e3] at p2
        cases f with
        | nx => exact fun w5 σ5 H5 l5 r5 => ⟨w5, fr4, h4, Wd.le_trans l34 l5, r5, p2.le (Wd.le_trans (Wd.le_trans l3 l4) l5)⟩
        | ct => exact fun w5 σ5 H5 l5 r5 => ⟨w5, fr4, h4, Wd.le_trans l34 l5, r5, p2.le (Wd.le_trans (Wd.le_trans l3 l4) l5)⟩
        | brk => exact fun w5 σ5 H5 l5 r5 => p2 w5 σ5 H5 (Wd.le_trans (Wd.le_trans l3 l4) l5) r5
        | rt d => exact fun w5 σ5 H5 v l5 r5 rv => p2 w5 σ5 H5 v (Wd.le_trans (Wd.le_trans l3 l4) l5) r5 rv
      | exc y fr4 h4 =>
        rw [e3] at p2
        exact fun w5 σ5 H5 cc dd l5 r5 z => p2 w5 σ5 H5 cc dd (Wd.le_trans (Wd.le_trans l3 l4) l5) r5 z
      | err => rw [e3] at p2; exact p2
    | exc y fr3 h3 => rw [e2] at p2; exact p2
    | err => rw [e2] at p2; exact p2
  · have e : i = ds.length := by omega
    subst e
    rw [List.drop_length] at p2
    exact .inl ⟨js (Nat.le_refl _), p2 w2 σ2 H2 (Wd.le_refl _) r2⟩))
theorem s_while (C : Cq X T W k) (n : Nat) (st : GF X T W c t) (sb : Fy X T W body b) : Ar X T W (.While c body [] pos) (yc t b n) := fun B w σ H fr h D R p =>
 Ac (ps_while C.po Gz Ce) ⟨fun m σ H => ∃ w' fr' h', w.le w' ∧ Rel X.K T B w' σ H fr' h' ∧ sY X.K T B W w' (yc t b m fr' h') D, ⟨n, w, fr, h, Wd.le_refl _, R, p⟩, fun m σ2 H2 ⟨w2, fr2, h2, l2, r2, p2⟩ => by
  cases m with
  | zero => exact (show False from p2).elim
  | succ m =>
    unfold yc at p2
    refine st B w2 σ2 H2 fr2 h2 _ r2 ?_
    cases e2 : t fr2 h2 with
    | ok c fr3 h3 =>
      rw [e2] at p2
      intro w3 H3 v l3 r3 rv
      have rv' : v = c := rv
      subst rv'
      cases v with
      | false => exact p2 w3 σ2 H3 l3 r3
      | true =>
        rw [if_pos rfl]
        refine ⟨fun σ' H' => ∃ w' fr' h', w.le w' ∧ Rel X.K T B w' σ' H' fr' h' ∧ sY X.K T B W w' (yc t b m fr' h') D, fun σ' H' q => ⟨m, Nat.lt_succ_self m, q⟩, ?_⟩
        refine sb B w3 σ2 H3 fr3 h3 _ r3 ?_
        dsimp only at p2
        cases e3 : b fr3 h3 with
        | ok f fr4 h4 =>
          rw [e3] at p2
          cases f with
          | nx => exact fun w5 σ5 H5 l5 r5 => ⟨w5, fr4, h4, Wd.le_trans l2 (Wd.le_trans l3 l5), r5, p2.le (Wd.le_trans l3 l5)⟩
          | ct => exact fun w5 σ5 H5 l5 r5 => ⟨w5, fr4, h4, Wd.le_trans l2 (Wd.le_trans l3 l5), r5, p2.le (Wd.le_trans l3 l5)⟩
          | brk => exact fun w5 σ5 H5 l5 r5 => p2 w5 σ5 H5 (Wd.le_trans l3 l5) r5
          | rt d => exact fun w5 σ5 H5 v l5 r5 rv => p2 w5 σ5 H5 v (Wd.le_trans l3 l5) r5 rv
        | exc y fr4 h4 =>
          rw [e3] at p2
          exact fun w5 σ5 H5 cc dd l5 r5 z => p2 w5 σ5 H5 cc dd (Wd.le_trans l3 l5) r5 z
        | err => rw [e3] at p2; exact p2
    | exc y fr3 h3 =>
      rw [e2] at p2
      exact fun w3 H3 cc dd l3 r3 z => p2 w3 σ2 H3 cc dd l3 r3 z
    | err => rw [e2] at p2; exact p2⟩
end
def WF : WX := fun _ _ _ _ => False
def vU (fr : Fr) : List Nat → Fr
 | [] => fr
 | v :: vs => (vU fr vs).set v none
theorem PQ (fr : Fr) : ∀ vs : List Nat, (vU fr vs).length = fr.length
 | [] => rfl
 | v :: vs => by unfold vU; rw [alA, PQ fr vs]
theorem P0 {fr : Fr} {i : Nat} : ∀ {vs : List Nat}, i ∉ vs → (vU fr vs)[i]? = fr[i]?
 | [], _ => rfl
 | v :: vs, h => by
   unfold vU
   rw [alC, not_or] at h
   rw [alx (Ne.symm h.1), P0 h.2]
theorem HF {fr : Fr} {i : Nat} {d : D} : ∀ {vs : List Nat}, i ∈ vs → (vU fr vs)[i]? ≠ some (some d)
 | [], h => by cases h
 | v :: vs, h => by
   unfold vU
   by_cases e : v = i
   · subst e
     by_cases l : v < (vU fr vs).length
     · rw [aly l]
       exact fun z => by cases z
     · rw [List.getElem?_eq_none (by rw [alA]; omega)]
       exact fun z => by cases z
   · rw [alx e]
     rcases List.mem_cons.mp h with z | z
     · exact absurd z.symm e
     · exact HF z
theorem wipe_out {σ : L2.St} {i : Nat} : ∀ {vs : List Nat}, i ∉ vs → (wipe σ vs)[i]? = σ[i]?
 | [], _ => rfl
 | v :: vs, h => by
   unfold wipe
   rw [alC, not_or] at h
   rw [alx (Ne.symm h.1), wipe_out h.2]
theorem afJ {σ : L2.St} {i : Nat} {v : V} {vs : List Nat} (h : i ∈ vs) : (wipe σ vs)[i]? ≠ some (some v) := fun z => (wipe_some z).2 h
section
variable {K : PySem.W.Frag} {T : Tb} {B : Bs} {w w' : Wd} {σ σ' : L2.St} {H H' : Hp} {fr fr' : Fr} {h : Hh}
theorem Rel.refr (R : Rel K T B w σ H fr h) (fl : fr'.length = σ'.length) (hs : ∀ (i : Nat) (d : D), fr'[i]? = some (some d) → fr[i]? = some (some d) ∧ σ'[i]? = σ[i]?) : Rel K T B w σ' H fr' h :=
 { R with
   me := fun x d bx e od => by
    obtain ⟨h1, h2⟩ := hs 0 d e
    rw [h2]
    exact R.me x d bx h1 od
   fl := fl
   sl := fun i s d e1 e2 => by
    cases d with
    | none => exact .none
    | some d =>
      obtain ⟨h1, h2⟩ := hs i d e2
      rw [h2] at e1
      exact R.sl i s (some d) e1 h1
   sep := fun i j p hij ⟨a1, d1, a2, a3⟩ ⟨b1, d2, b2, b3⟩ => by
    obtain ⟨h1, h2⟩ := hs i d1 a2
    obtain ⟨h3, h4⟩ := hs j d2 b2
    rw [h2] at a1
    rw [h4] at b1
    exact R.sep i j p hij ⟨a1, d1, h1, a3⟩ ⟨b1, d2, h3, b3⟩ }
theorem Rel.wipe (R : Rel K T B w σ H fr h) (vs : List Nat) : Rel K T B w (wipe σ vs) H (vU fr vs) h := by
 refine R.refr (by rw [PQ, wipe_length]; exact R.fl) fun i d e => ?_
 by_cases hi : i ∈ vs
 · exact absurd e (HF hi)
 · rw [P0 hi] at e
   exact ⟨e, wipe_out hi⟩
end
def FJ (vs : List Nat) (g : D → M Unit) (t : M Bool) (e : M D) (d : D) : M (Option D) := fun fr h => match g d fr h with
 | .ok _ fr h => match t fr h with
   | .ok true fr h => match e fr h with
     | .ok y fr h => .ok (some y) (vU fr vs) h
     | _ => .err
   | .ok false fr h => .ok none (vU fr vs) h
   | _ => .err
 | _ => .err
def Gf {α : Type} : Option α → List α → List α
 | some y, r => y :: r
 | none, r => r
def zU (vs : List Nat) (g : D → M Unit) (t : M Bool) (e : M D) : List D → M (List D)
 | [] => M.ret []
 | d :: ds => (FJ vs g t e d).bind fun o => (zU vs g t e ds).bind fun r => M.ret (Gf o r)
def U6 (vs : List Nat) : M Unit := fun fr h => .ok () (vU fr vs) h
def Hm (vs : List Nat) (l : M (List D)) (g : D → M Unit) (t : M Bool) (e : M D) : M D := l.bind fun ds => (U6 vs).bind fun _ => if ds.length ≤ big then (zU vs g t e ds).bind fun r => M.ret (.nl r) else M.opt none
section
variable {X : Cx} {T : Tb} {W : WX} {k : Nat} {pos pos' : Pos} {tg iter elt c : Expr} {ifs : List Expr} {li : M (List D)} {g : D → M Unit} {b : M Fl} {is : List Nat} {t : M Bool} {me : M D} {scope : Scope} {own : List (Str × Nat)}
theorem adQ {σ σ2 : L2.St} {vs is : List Nat} (hl : σ2.length = σ.length) (hi : ∀ i ∈ is, i ∈ vs) (hk : ∀ (j : Nat), j ∉ is → σ2[j]? = (wipe σ vs)[j]?) : wipe σ2 vs = wipe σ vs := by
 refine List.ext_getElem? fun j => ?_
 by_cases hj : j ∈ vs
 · have key : ∀ τ : L2.St, τ.length = σ.length → (wipe τ vs)[j]? = if j < σ.length then some none else none := fun τ hτ => by
    by_cases hjl : j < σ.length
    · rw [if_pos hjl]
      have hjl' : j < (wipe τ vs).length := by rw [wipe_length, hτ]; exact hjl
      rw [alv hjl']
      cases e : (wipe τ vs)[j] with
      | none => rfl
      | some v => exact absurd (by rw [alv hjl', e]) (afJ (σ := τ) (v := v) hj)
    · rw [if_neg hjl]
      exact List.getElem?_eq_none (by rw [wipe_length, hτ]; omega)
   rw [key σ2 hl, key σ rfl]
 · rw [wipe_out hj, hk j fun z => hj (hi j z), wipe_out hj]
def GB (X : Cx) (scope : Scope) (tg : Expr) : TG := fun v σ H Q => ∀ (s : Shared) (H0 : Hp) (C : Addr) (cl : List (Str × Addr)) (fp : List Addr), WG (X.blk s H0 scope (compEnvC scope cl C X.env) fp) tg v σ H Q
def TB (X : Cx) (scope : Scope) (ifs : List Expr) : TT := fun σ H Q => ∀ (s : Shared) (H0 : Hp) (C : Addr) (cl : List (Str × Addr)) (fp : List Addr), Y0 (X.blk s H0 scope (compEnvC scope cl C X.env) fp) ifs σ H Q
def EB (X : Cx) (scope : Scope) (e : Expr) : TE := fun σ H Q => ∀ (s : Shared) (H0 : Hp) (C : Addr) (cl : List (Str × Addr)) (fp : List Addr), WE (X.blk s H0 scope (compEnvC scope cl C X.env) fp) e σ H Q
theorem acZ {B : Bs} {w : Wd} {σ : L2.St} {H : Hp} {fr : Fr} {h : Hh} {Q : VK} (si : Wh X T W tg iter li) (hi : ∀ i ∈ is, i ∈ own.map (·.2))
 (sg : ∀ (s : Shared) (H0 : Hp) (C : Addr) (cl : List (Str × Addr)) (fp : List Addr), PL (X.blk s H0 scope (compEnvC scope cl C X.env) fp) T is tg g)
 (st : ∀ (s : Shared) (H0 : Hp) (C : Addr) (cl : List (Str × Addr)) (fp : List Addr), v5 (Y0 (X.blk s H0 scope (compEnvC scope cl C X.env) fp) ifs) X.K T WF vB t)
 (se : ∀ (s : Shared) (H0 : Hp) (C : Addr) (cl : List (Str × Addr)) (fp : List Addr), cP (X.blk s H0 scope (compEnvC scope cl C X.env) fp) T WF elt me)
 (R : Rel X.K T B w σ H fr h) (p : bz X.K T B W (vE X.K T B σ) w σ (Hm (own.map (·.2)) li g t me fr h) Q) : tLc (WI X tg iter) (GB X scope tg) (TB X scope ifs) (EB X scope elt) (own.map (·.2)) σ H Q := by
 refine si B w σ H fr h _ R (bz.bind (VR := vJ X.K T B σ) p fun ds fr0 h0 w1 H1 J e1 l1 r0 vj p0 => ?_)
 generalize hvs : own.map (·.2) = vs at hi p0 ⊢
 intro A0 nD
 have p1 : bz X.K T B W (vE X.K T B σ) w1 σ ((if ds.length ≤ big then (zU vs g t me ds).bind fun r => M.ret (.nl r) else M.opt none) (vU fr0 vs) h0) Q := p0
 by_cases hb : ds.length ≤ big
 · rw [if_pos hb] at p1
   have rD := r0.temp (o := .lst []) nD
   have OD : Own B w1 A0 := r0.own_new nD
   refine ⟨fun i m H => m = ds.length - i ∧ i ≤ ds.length ∧ ∃ w' fr' h' acc vs', w1.le w' ∧ aJ X.K T w' vs' acc ∧ acc.length ≤ i ∧ Rel X.K T (B.pr A0 (.lst vs')) w' (wipe σ vs) H fr' h' ∧ (∀ j ∈ vs, ∀ d, fr'[j]? ≠ some (some d)) ∧
    bz X.K T B W (vE X.K T B σ) w' σ (((zU vs g t me (ds.drop i)).bind fun r => M.ret (D.nl (acc ++ r))) fr' h') Q, ⟨ds.length, by simp, Nat.zero_le _, w1, vU fr0 vs, h0, [], [], Wd.le_refl _, .nil, Nat.zero_le _,
     (rD.wipe vs).protect OD (fun i ⟨z1, dd, z2, z3⟩ => r0.loose_new nD i (by
      by_cases hj : i ∈ vs
      · exact absurd z2 (HF hj)
      · rw [P0 hj] at z2
        rw [wipe_out hj] at z1
        exact ⟨z1, dd, z2, z3⟩)) upd_same, fun j hj d => HF hj, p1⟩, ?_⟩
   rintro i m H2 ⟨rfl, hil, w2, fr2, h2, acc, us, l2, ra, la, r2, hw2, p2⟩
   have hP := OD.p
   obtain ⟨js, jg⟩ := vj i w2 H2 l2 r2.sub
   by_cases hlt : i < ds.length
   · obtain ⟨go, y⟩ := jg ds[i] (alv hlt)
     have ed : ds.drop i = ds[i] :: ds.drop (i + 1) := List.drop_eq_getElem_cons hlt
     rw [ed] at p2
     refine .inr ⟨go, fun H' => ∃ w' fr' h' acc vs', w1.le w' ∧ aJ X.K T w' vs' acc ∧ acc.length ≤ i + 1 ∧ Rel X.K T (B.pr A0 (.lst vs')) w' (wipe σ vs) H' fr' h' ∧ (∀ j ∈ vs, ∀ d, fr'[j]? ≠ some (some d)) ∧
      bz X.K T B W (vE X.K T B σ) w' σ (((zU vs g t me (ds.drop (i + 1))).bind fun r => M.ret (D.nl (acc ++ r))) fr' h') Q, fun H' q => ⟨ds.length - (i + 1), by omega, rfl, hlt, q⟩, fun x H3 yx => ?_⟩
     obtain ⟨w3, l3, r3, rx⟩ := y x H3 yx (B.pr A0 (.lst us)) (wipe σ vs) fr2 h2 r2
     have turn : ∃ o fr' h', FJ vs g t me ds[i] fr2 h2 = .ok o fr' h' ∧ bz X.K T B W (vE X.K T B σ) w2 σ (((zU vs g t me (ds.drop (i + 1))).bind fun r => M.ret (D.nl (acc ++ Gf o r))) fr' h') Q := by
      have p2' : bz X.K T B W (vE X.K T B σ) w2 σ (((FJ vs g t me ds[i]).bind fun o => (zU vs g t me (ds.drop (i + 1))).bind fun r => M.ret (D.nl (acc ++ Gf o r))) fr2 h2) Q := by
       have ee : ((zU vs g t me (ds[i] :: ds.drop (i + 1))).bind fun r => M.ret (D.nl (acc ++ r))) fr2 h2 = ((FJ vs g t me ds[i]).bind fun o => (zU vs g t me (ds.drop (i + 1))).bind fun r => M.ret (D.nl (acc ++ Gf o r))) fr2 h2 := by
        show M.bind (M.bind _ _) _ fr2 h2 = _
        unfold M.bind
        cases FJ vs g t me ds[i] fr2 h2 with
        | ok o fr' h' => dsimp only; cases zU vs g t me (ds.drop (i + 1)) fr' h' <;> rfl
        | exc _ _ _ => rfl
        | err => rfl
       rw [← ee]
       exact p2
      cases q : FJ vs g t me ds[i] fr2 h2 with
      | ok o fr' h' =>
        rw [M.bind_ok q] at p2'
        exact ⟨o, fr', h', rfl, p2'⟩
      | exc y fr' h' =>
        exfalso
        unfold FJ at q
        split at q
        · split at q
          · split at q <;> cases q
          · cases q
          · cases q
        · cases q
      | err =>
        rw [M.bind_err q] at p2'
        exact p2'.elim
     obtain ⟨o, fro, ho, qt, p3⟩ := turn
     have upw : ∀ {u2 : L2.St} {w' : Wd} {H' : Hp} {fr' : Fr} {h' : Hh} {B' : Bs}, wipe u2 vs = wipe σ vs → Rel X.K T B' w' u2 H' fr' h' → Rel X.K T B' w' (wipe σ vs) H' (vU fr' vs) h' := fun {u2 w' H' fr' h' B'} e R' => by
      rw [← e]
      exact R'.wipe vs
     intro s0 H0 C cl fp
     refine sg s0 H0 C cl fp (B.pr A0 (.lst us)) w3 (wipe σ vs) H3 fr2 h2 x ds[i] _ r3 rx ?_
     unfold FJ at qt
     cases q1 : g ds[i] fr2 h2 with
     | exc _ _ _ => rw [q1] at qt; cases qt
     | err => rw [q1] at qt; cases qt
     | ok _ fr3 h3 =>
       rw [q1] at qt
       dsimp only at qt
       intro w4 σ4 H4 l4 r4 k4
       have ew : wipe σ4 vs = wipe σ vs := adQ (k4.1.trans (wipe_length σ vs)) hi k4.2
       refine ⟨ew, fun s0 H0 C cl fp => st s0 H0 C cl fp (B.pr A0 (.lst us)) w4 σ4 H4 fr3 h3 _ r4 ?_⟩
       cases q2 : t fr3 h3 with
       | exc _ _ _ => rw [q2] at qt; cases qt
       | err => rw [q2] at qt; cases qt
       | ok b fr4 h4 =>
         rw [q2] at qt
         intro w5 H5 v l5 r5 rv
         have rv' : v = b := rv
         subst rv'
         cases v with
         | false =>
           dsimp only at qt
           cases qt
           simp only [Bool.false_eq_true, if_false]
           exact ⟨w5, _, _, acc, us, Wd.le_trans l2 (Wd.le_trans l3 (Wd.le_trans l4 l5)), ra.mono (Wd.le_trans l3 (Wd.le_trans l4 l5)), Nat.le_succ_of_le la, upw ew r5, fun j hj d => HF hj, p3.le (Wd.le_trans l3 (Wd.le_trans l4 l5))⟩
         | true =>
           dsimp only at qt
           simp only [if_true]
           intro s0 H0 C cl fp
           refine se s0 H0 C cl fp (B.pr A0 (.lst us)) w5 σ4 H5 fr4 h4 _ r5 ?_
           cases q3 : me fr4 h4 with
           | exc _ _ _ => rw [q3] at qt; cases qt
           | err => rw [q3] at qt; cases qt
           | ok yd fr5 h5 =>
             rw [q3] at qt
             cases qt
             intro w6 H6 yv l6 r6 ry
             have hD6 : H6 A0 = some (.lst us) := (r6.prot (A0, .lst us) (als)).1
             have lall : w2.le w6 := Wd.le_trans l3 (Wd.le_trans l4 (Wd.le_trans l5 l6))
             refine ⟨us, hD6, ?_, w6, _, _, acc ++ [yd], us ++ [yv], Wd.le_trans l2 lall, (ra.mono lall).append (.cons ry .nil), ?_, (upw ew r6).repr OD.e OD.p, fun j hj d => HF hj, ?_⟩
             · rw [ra.length]
               have : big < sizeLine := by decide
               omega
             · rw [alD]
               show acc.length + 1 ≤ i + 1
               omega
             · have e9 : ∀ r : List _, acc ++ Gf (some yd) r = acc ++ [yd] ++ r := fun r => by
                show acc ++ yd :: r = _
                rw [List.append_assoc]
                rfl
               simp only [e9] at p3
               exact p3.le lall
   · have e : i = ds.length := by omega
     subst e
     rw [List.drop_length] at p2
     obtain ⟨r3, O3, lo3, eD⟩ := r2.unprotect OD.e OD.p
     refine .inl ⟨js (Nat.le_refl _), ?_⟩
     have p3 : bz X.K T B W (vE X.K T B σ) w2 σ (.ok (D.nl (acc ++ [])) fr2 h2) Q := p2
     rw [alb] at p3
     have r4 : Rel X.K T B w2 σ H2 fr2 h2 := r3.refr (by rw [← wipe_length σ vs]; exact r3.fl) fun j d ej => ⟨ej, by
      by_cases hj : j ∈ vs
      · exact absurd ej (hw2 j hj d)
      · exact (wipe_out hj).symm⟩
     refine p3 w2 H2 (.ref A0) (Wd.le_refl _) r4 (.inr ⟨A0, _, rfl, O3, fun j ⟨z1, dd, z2, z3⟩ => lo3 j ⟨?_, dd, z2, z3⟩, eD, .lst ra⟩)
     by_cases hj : j ∈ vs
     · exact absurd z2 (hw2 j hj dd)
     · rw [wipe_out hj]
       exact z1
 · rw [if_neg hb] at p1
   exact p1.elim
theorem Ym (C : Cq X T W k) (own : List (Str × Nat)) (si : Wh X T W tg iter li) (hi : ∀ i ∈ is, i ∈ own.map (·.2))
 (sg : ∀ (s : Shared) (H0 : Hp) (C : Addr) (cl : List (Str × Addr)) (fp : List Addr), PL (X.blk s H0 scope (compEnvC scope cl C X.env) fp) T is tg g)
 (st : ∀ (s : Shared) (H0 : Hp) (C : Addr) (cl : List (Str × Addr)) (fp : List Addr), v5 (Y0 (X.blk s H0 scope (compEnvC scope cl C X.env) fp) ifs) X.K T WF vB t)
 (se : ∀ (s : Shared) (H0 : Hp) (C : Addr) (cl : List (Str × Addr)) (fp : List Addr), cP (X.blk s H0 scope (compEnvC scope cl C X.env) fp) T WF elt me)
 (ok : BlkOk X.N X.env.scope scope own) (hs : ∀ x, foldedSetIterable iter X.env x = pure x := by intro _; rfl) : zR X T W (.ListComp elt [⟨tg, iter, ifs, 0⟩] scope pos) (Hm (own.map (·.2)) li g t me) := fun B w σ H fr h Q R p =>
 vm (pe_lc C.calm C.nd Y5 ok (fun s H C cl fp => ⟨fun pins s' σ H v u Q I r hh => hh s _ C cl fp pins s' u I r⟩) (fun s H C cl fp => ⟨fun pins s' σ H Q I hh => hh s _ C cl fp pins s' I⟩) (fun s H C cl fp => ⟨fun pins s' σ H Q I hh => (hh s _ C cl fp).go pins s' I⟩) hs) (acZ si hi sg st se R p)
theorem afK (C : Cq X T W k) (j : Nat) {y : Str} {py spos : Pos} (own : List (Str × Nat)) (si : Wh X T W tg iter li) (hi : ∀ i ∈ is, i ∈ own.map (·.2))
 (sg : ∀ (s : Shared) (H0 : Hp) (C : Addr) (cl : List (Str × Addr)) (fp : List Addr), PL (X.blk s H0 scope (compEnvC scope cl C X.env) fp) T is tg g)
 (st : ∀ (s : Shared) (H0 : Hp) (C : Addr) (cl : List (Str × Addr)) (fp : List Addr), v5 (Y0 (X.blk s H0 scope (compEnvC scope cl C X.env) fp) ifs) X.K T WF vB t)
 (se : ∀ (s : Shared) (H0 : Hp) (C : Addr) (cl : List (Str × Addr)) (fp : List Addr), cP (X.blk s H0 scope (compEnvC scope cl C X.env) fp) T WF elt me)
 (ok : BlkOk X.N X.env.scope scope own) (hsw : swapsWith (.ListComp elt [⟨tg, iter, ifs, 0⟩] scope pos) (some (.Name y py)) spos.line X.env = pure true) (hy : X.N[j]? = some y := by rfl) (j0 : j ≠ 0 := by decide) (hyl : X.env.scope.names.lookup y = some .local := by rfl)
 (hs : ∀ x, foldedSetIterable iter X.env x = pure x := by intro _; rfl) : Ar X T W (.Assign [.Name y py] (.ListComp elt [⟨tg, iter, ifs, 0⟩] scope pos) spos) (cQ j (Hm (own.map (·.2)) li g t me)) := fun B w σ H fr h D R p =>
 Ac (ps_setLc C.calm C.nd hy hyl hsw Y5 ok (fun s H C cl fp => ⟨fun pins s' σ H v u Q I r hh => hh s _ C cl fp pins s' u I r⟩) (fun s H C cl fp => ⟨fun pins s' σ H Q I hh => hh s _ C cl fp pins s' I⟩) (fun s H C cl fp => ⟨fun pins s' σ H Q I hh => (hh s _ C cl fp).go pins s' I⟩) hs)
  (acZ si hi sg st se R (sY.bind (VR := vE X.K T B σ) p fun d fr1 h1 w1 H1 v e1 l1 r1 rx p1 => p1 w1 _ H1 (Wd.le_refl _) (r1.put j j0 rx)))
theorem Wi : v5 (Y0 X []) X.K T W vB (M.ret true) := fun B w σ H fr h Q R p => aaZ pts_nil (p w H true (Wd.le_refl _) R rfl)
theorem aa1 (s : GF X T W c t) : v5 (Y0 X [c]) X.K T W vB t := fun B w σ H fr h Q R p => aaZ (pts_one Gz) (s B w σ H fr h Q R p)
theorem Cq.blk (C : Cq X T W k) {s : Shared} {H0 : Hp} {A0 : Addr} {cl : List (Str × Addr)} {fp : List Addr} : Cq (X.blk s H0 scope (compEnvC scope cl A0 X.env) fp) T WF k :=
 ⟨C.calm, C.nd, C.room, fun u s' ⟨_, _, _, _, _, _, _, _, _, _, _, _, _, _, _, _, w⟩ => w.elim, fun _ _ z => z.elim⟩
end
def nM (i : Nat) (f : List D → Option (List D)) : M Unit := fun fr h => match fr[i]? with
 | some (some (.nl l)) => match f l with
   | some l' => .ok () (fr.set i (some (.nl l'))) h
   | none => .err
 | some (some (.ref n)) => match h[n]? with
   | some (.nl l) => match f l with
     | some l' => .ok () fr (h.set n (.nl l'))
     | none => .err
   | _ => .err
 | _ => .err
def xf (d : D) (f : List D → Option (List D)) : M Unit := fun fr h => match d with
 | .ref n => match h[n]? with
   | some (.nl l) => match f l with
     | some l' => .ok () fr (h.set n (.nl l'))
     | none => .err
   | _ => .err
 | _ => .err
def wG (l : List D) : Option (List D) := some l
def Gg (d : D) (l : List D) : Option (List D) := if l.length < big then some (l ++ [d]) else none
def HH (j : D) (d : D) (l : List D) : Option (List D) := match j with
 | .int j => (ixN l.length j).map fun n => l.set n d
 | _ => none
def Qa (_ : List D) : Option (List D) := some []
def JK (K : PySem.W.Frag) (T : Tb) (B : Bs) (w : Wd) (σ : L2.St) (H : Hp) (v : V) (f : List D → Option (List D)) (fr' : Fr) (h' : Hh) : Prop :=
 ∃ p vs l l', v = .ref p ∧ H p = some (.lst vs) ∧ aJ K T w vs l ∧ f l = some l' ∧ ∀ vs', aJ K T w vs' l' → Rel K T B w σ (upd H p (.lst vs')) fr' h'
section
variable {K : PySem.W.Frag} {T : Tb} {B : Bs} {w : Wd} {σ : L2.St} {H : Hp} {fr : Fr} {h : Hh}
theorem Uj (R : Rel K T B w σ H fr h) {n : Nat} {v : V} (rv : sS K T w v (.ref n)) {f : List D → Option (List D)} {l l' : List D} (e : h[n]? = some (.nl l)) (ef : f l = some l') : JK K T B w σ H v f fr (h.set n (.nl l')) := by
 cases rv with
 | @ref a n s =>
   obtain ⟨o, q, rr⟩ := R.cel n a _ s e
   cases rr with
   | lst r => exact ⟨a, _, l, l', rfl, q, r, ef, fun vs' rs => R.change_cell s e (.lst rs)⟩
theorem aa2 {α β : Type} {VR : Wd → Hp → Fr → β → α → Prop} {W : WX} {d : D} {v : V} {f : List D → Option (List D)} {m : M α} {Q : β → Hp → Prop} (R : Rel K T B w σ H fr h) (rv : sS K T w v d) (p : bz K T B W VR w σ ((xf d f).bind (fun _ => m) fr h) Q) :
 ∃ fr' h', JK K T B w σ H v f fr' h' ∧ bz K T B W VR w σ (m fr' h') Q := by
 cases q : xf d f fr h with
 | ok u fr' h' =>
   rw [M.bind_ok q] at p
   refine ⟨fr', h', ?_, p⟩
   unfold xf at q
   split at q
   · split at q
     · split at q
       · cases q
         exact Uj R rv (by assumption) (by assumption)
       · cases q
     · cases q
   · cases q
 | exc y fr' h' =>
   exfalso
   unfold xf at q
   split at q
   · split at q
     · split at q <;> cases q
     · cases q
   · cases q
 | err =>
   rw [M.bind_err q] at p
   exact p.elim
theorem NB {α β : Type} {VR : Wd → Hp → Fr → β → α → Prop} {W : WX} {i : Nat} {v : V} {f : List D → Option (List D)} {m : M α} {Q : β → Hp → Prop} (R : Rel K T B w σ H fr h) (ev : σ[i]? = some (some v)) (p : bz K T B W VR w σ ((nM i f).bind (fun _ => m) fr h) Q) :
 ∃ fr' h', JK K T B w σ H v f fr' h' ∧ bz K T B W VR w σ (m fr' h') Q := by
 cases q : nM i f fr h with
 | ok u fr' h' =>
   rw [M.bind_ok q] at p
   refine ⟨fr', h', ?_, p⟩
   unfold nM at q
   split at q
   · rename_i l e1
     split at q
     · rename_i l' ef
       cases q
       obtain ⟨v', e2, z⟩ := vz R e1
       rw [ev] at e2
       cases e2
       cases z with
       | val r => cases r
       | own O eH r =>
         cases r with
         | lst r => exact ⟨_, _, l, l', rfl, eH, r, ef, fun vs' rs => R.change_slot ev e1 O eH rfl (.lst rs)⟩
     · cases q
   · rename_i n e1
     split at q
     · split at q
       · cases q
         obtain ⟨v', e2, z⟩ := vz R e1
         rw [ev] at e2
         cases e2
         cases z with
         | val r => exact Uj R r (by assumption) (by assumption)
         | own O eH r => cases r
       · cases q
     · cases q
   · cases q
 | exc y fr' h' =>
   exfalso
   unfold nM at q
   split at q
   · split at q <;> cases q
   · split at q
     · split at q <;> cases q
     · cases q
   · cases q
 | err =>
   rw [M.bind_err q] at p
   exact p.elim
end
def U7 (i : Nat) (m : M D) : M D := (nM i wG).bind fun _ => m.bind fun d => (nM i (Gg d)).bind fun _ => M.ret .non
def abG (i : Nat) : M D := (nM i Qa).bind fun _ => M.ret .non
def Iz (mo m : M D) : M D := mo.bind fun o => (xf o wG).bind fun _ => m.bind fun d => (xf o (Gg d)).bind fun _ => M.ret .non
def abH (mo : M D) : M D := mo.bind fun o => (xf o Qa).bind fun _ => M.ret .non
section
variable {X : Cx} {T : Tb} {W : WX} {k : Nat} {apos cpos px : Pos} {e o : Expr} {m mo : M D}
theorem Y7 {K : PySem.W.Frag} {B : Bs} {w : Wd} {σ : L2.St} {H : Hp} {v : V} {f : List D → Option (List D)} {fr' : Fr} {h' : Hh} (z : JK K T B w σ H v f fr' h') : tyV K "list" v H := by
 obtain ⟨p, vs, l, l', rfl, e, _⟩ := z
 exact .inl ⟨rfl, vs, SqL.of e⟩
theorem Uk {K : PySem.W.Frag} {B : Bs} {w : Wd} {σ : L2.St} {H : Hp} {v : V} {fr' : Fr} {h' : Hh} (z : JK K T B w σ H v wG fr' h') : Rel K T B w σ H fr' h' := by
 obtain ⟨p, vs, l, l', rfl, e, r, ef, k⟩ := z
 have e1 : l = l' := Option.some.inj ef
 subst e1
 have z := k vs r
 have : upd H p (.lst vs) = H := by
  funext a
  unfold upd
  split
  · rename_i h
    rw [h, e]
  · rfl
 rw [this] at z
 exact z
theorem aa3 {K : PySem.W.Frag} {B : Bs} {w : Wd} {σ : L2.St} {H : Hp} {v y : V} {d : D} {fr' : Fr} {h' : Hh} {Q : VK} (z : JK K T B w σ H v (Gg d) fr' h') (ry : sS K T w y d) (q : ∀ H', Rel K T B w σ H' fr' h' → Q .non H') : rAppend v [y] H Q := by
 obtain ⟨p, vs, l, l', rfl, e, r, ef, k⟩ := z
 unfold Gg at ef
 by_cases hl : l.length < big
 · rw [if_pos hl] at ef
   cases ef
   exact ⟨p, vs, y, rfl, rfl, e, by rw [r.length]; exact Nat.lt_of_lt_of_le hl (by decide), q _ (k _ (r.append (.cons ry .nil)))⟩
 · rw [if_neg hl] at ef
   cases ef
theorem afL (i : Nat) {x : Str} (s : cP X T W e m) (hN : X.N[i]? = some x := by rfl) (hv : Vis X.env.scope x := by first | exact Or.inl rfl | exact Or.inr (Or.inl rfl) | exact Or.inr (Or.inr rfl)) (hd : (x == ("__debug__" : Str)) = false := by decide)
 (hcd : (x == ("__classdict__" : Str)) = false := by decide)
 (hbase : attributeBase (.Name x px) "append" X.env (eval (.Name x px) X.env) = eval (.Name x px) X.env := by rfl)
 (hfew : ((backTo cpos (starEach (e :: []) X.env)).all (fun x => !x.1) && (backToKw cpos (keywordEach [] X.env)).all (fun x => x.1.isSome)
  && decide ((e :: []).length + ([] : List Keyword).length + (if ([] : List Keyword).isEmpty then 0 else 1) < 30)) = true := by rfl)
 (hline : (apos.endLine == cpos.line) = true := by rfl) (hs : starEach (e :: []) X.env = (false, eval e X.env) :: starEach [] X.env := by exact uD rfl) (hplain : (backTo cpos (starEach [] X.env)).any (·.1) = false := by rfl) :
 cP X T W (.Call (.Attribute (.Name x px) "append" apos) [e] [] cpos) (U7 i m) := fun B w σ H fr h Q R p => by
 have hh : ∃ v, σ[i]? = some (some v) := by
  cases e1 : fr[i]? with
  | none =>
    have q : nM i wG fr h = .err := by unfold nM; rw [e1]
    have p' : bz X.K T B W (vV X.K T B σ) w σ ((nM i wG).bind _ fr h) Q := p
    rw [M.bind_err q] at p'
    exact p'.elim
  | some o =>
    cases o with
    | none =>
      have q : nM i wG fr h = .err := by unfold nM; rw [e1]
      have p' : bz X.K T B W (vV X.K T B σ) w σ ((nM i wG).bind _ fr h) Q := p
      rw [M.bind_err q] at p'
      exact p'.elim
    | some d =>
      obtain ⟨v, e2, _⟩ := vz R e1
      exact ⟨v, e2⟩
 obtain ⟨v, ev⟩ := hh
 obtain ⟨fr1, h1, z1, p1⟩ := NB (VR := vV X.K T B σ) R ev p
 have R1 := Uk z1
 refine vm (pe_bm PySem.F.plainAttrs_list PySem.F.slot_list_append PySem.F.type_list_append mt_append (pe_var hN hv hd hcd) (pa_cons nU pa_nil hs) hbase hfew hline hs hplain) ⟨v, ev, Y7 z1, s B w σ H fr1 h1 _ R1 (bz.bind (VR := vV X.K T B σ) p1 fun d fr2 h2 w2 H2 y e2 l2 r2 ry p2 => ?_)⟩
 obtain ⟨fr3, h3, z3, p3⟩ := NB (VR := vV X.K T B σ) r2 ev p2
 exact aa3 z3 ry fun H' R' => p3 w2 H' .non (Wd.le_refl _) R' .non
theorem Wj (so : cP X T W o mo) (s : cP X T W e m)
 (hbase : attributeBase o "append" X.env (eval o X.env) = eval o X.env := by rfl)
 (hfew : ((backTo cpos (starEach (e :: []) X.env)).all (fun x => !x.1) && (backToKw cpos (keywordEach [] X.env)).all (fun x => x.1.isSome)
  && decide ((e :: []).length + ([] : List Keyword).length + (if ([] : List Keyword).isEmpty then 0 else 1) < 30)) = true := by rfl)
 (hline : (apos.endLine == cpos.line) = true := by rfl) (hs : starEach (e :: []) X.env = (false, eval e X.env) :: starEach [] X.env := by exact uD rfl) (hplain : (backTo cpos (starEach [] X.env)).any (·.1) = false := by rfl) :
 cP X T W (.Call (.Attribute o "append" apos) [e] [] cpos) (Iz mo m) := fun B w σ H fr h Q R p => by
 refine vm (pe_bm PySem.F.plainAttrs_list PySem.F.slot_list_append PySem.F.type_list_append mt_append nU (pa_cons nU pa_nil hs) hbase hfew hline hs hplain) (so B w σ H fr h _ R (bz.bind (VR := vV X.K T B σ) p fun od fr0 h0 w0 H0 ov e0 l0 r0 ro p0 => ?_))
 obtain ⟨fr1, h1, z1, p1⟩ := aa2 (VR := vV X.K T B σ) r0 ro p0
 have R1 := Uk z1
 refine ⟨Y7 z1, s B w0 σ H0 fr1 h1 _ R1 (bz.bind (VR := vV X.K T B σ) p1 fun d fr2 h2 w2 H2 y e2 l2 r2 ry p2 => ?_)⟩
 obtain ⟨fr3, h3, z3, p3⟩ := aa2 (VR := vV X.K T B σ) r2 (ro.mono l2) p2
 exact aa3 z3 ry fun H' R' => p3 w2 H' .non (Wd.le_refl _) R' .non
def Lg (i : Nat) (m mi : M D) : M Fl := m.bind fun d => (xZ i).bind fun _ => mi.bind fun j => (nM i (HH j d)).bind fun _ => M.ret .nx
def abI (mo m mi : M D) : M Fl := m.bind fun d => mo.bind fun o => mi.bind fun j => (xf o (HH j d)).bind fun _ => M.ret .nx
end
end Pk
namespace Pk
open PySem PySem.Spec L2
section
variable {K : PySem.W.Frag} {T : Tb} {B : Bs} {w : Wd} {σ : L2.St} {H : Hp} {fr : Fr} {h : Hh}
theorem ac0 {i : Nat} {v : V} {f : List D → Option (List D)} (R : Rel K T B w σ H fr h) (ev : σ[i]? = some (some v)) : nM i f fr h = .err ∨ ∃ fr' h', nM i f fr h = .ok () fr' h' ∧ JK K T B w σ H v f fr' h' := by
 cases q : nM i f fr h with
 | ok u fr' h' =>
   right
   refine ⟨fr', h', rfl, ?_⟩
   unfold nM at q
   split at q
   · rename_i l e1
     split at q
     · rename_i l' ef
       cases q
       obtain ⟨v', e2, z⟩ := vz R e1
       rw [ev] at e2
       cases e2
       cases z with
       | val r => cases r
       | own O eH r =>
         cases r with
         | lst r => exact ⟨_, _, l, l', rfl, eH, r, ef, fun vs' rs => R.change_slot ev e1 O eH rfl (.lst rs)⟩
     · cases q
   · rename_i n e1
     split at q
     · split at q
       · cases q
         obtain ⟨v', e2, z⟩ := vz R e1
         rw [ev] at e2
         cases e2
         cases z with
         | val r => exact Uj R r (by assumption) (by assumption)
         | own O eH r => cases r
       · cases q
     · cases q
   · cases q
 | exc y fr' h' =>
   exfalso
   unfold nM at q
   split at q
   · split at q <;> cases q
   · split at q
     · split at q <;> cases q
     · cases q
   · cases q
 | err => exact .inl rfl
end
section
variable {X : Cx} {T : Tb} {W : WX} {k : Nat} {pos px tpos : Pos} {e o j : Expr} {m mo mj : M D}
theorem agV {K : PySem.W.Frag} {B : Bs} {w : Wd} {σ : L2.St} {H : Hp} {v y u : V} {d jd : D} {fr' : Fr} {h' : Hh} {Q : Hp → Prop} (z : JK K T B w σ H v (HH jd d) fr' h') (ry : sS K T w y d) (rj : sS K T w u jd) (q : ∀ H', Rel K T B w σ H' fr' h' → Q H') : rSetL v u y H Q := by
 obtain ⟨p, vs, l, l', rfl, e, r, ef, k⟩ := z
 unfold HH at ef
 split at ef
 · rename_i i
   obtain ⟨n, en, rfl⟩ := Option.map_eq_some_iff.mp ef
   rw [vG rj]
   exact ⟨p, vs, i, n, rfl, rfl, e, by rw [r.length]; exact en, q _ (k _ (r.set n ry))⟩
 · cases ef
theorem ac1 (i : Nat) {x : Str} (s : cP X T W e m) (sj : cP X T W j mj) (hN : X.N[i]? = some x := by rfl) (hv : Vis X.env.scope x := by first | exact Or.inl rfl | exact Or.inr (Or.inl rfl) | exact Or.inr (Or.inr rfl)) (hd : (x == ("__debug__" : Str)) = false := by decide)
 (hcd : (x == ("__classdict__" : Str)) = false := by decide)
 (ha : ∀ v, assign (.Subscript (.Name x px) j tpos) X.env v = (do
  let ov ← holding [v] (eval (.Name x px) X.env)
  let iv ← holding [v, ov] (eval j X.env)
  standAt tpos
  holding [v, ov, iv] (setItem ov iv v)
  release [v, ov, iv] []) := by intro _; rfl)
 (hs : swapsWithSole [.Subscript (.Name x px) j tpos] e pos.line X.env = pure false := by rfl) (hw : swappedStores [.Subscript (.Name x px) j tpos] e X.env = pure none := by rfl)
 (h1 : (assignEach [.Subscript (.Name x px) j tpos] X.env).map (·.2) = [assign (.Subscript (.Name x px) j tpos) X.env] := by rfl) : Ar X T W (.Assign [.Subscript (.Name x px) j tpos] e pos) (Lg i m mj) := fun B w σ H fr h D R p =>
 Ac (ps_asg nU (pg_sub (pe_var hN hv hd hcd) nU set_list ha) hs hw h1) (s B w σ H fr h _ R (sY.bind (VR := vV X.K T B σ) p fun d fr1 h1 w1 H1 v e1 l1 r1 rx p1 => by
  have p1' : sY X.K T B W w1 ((xZ i).bind (fun _ => mj.bind fun j => (nM i (HH j d)).bind fun _ => M.ret .nx) fr1 h1) D := p1
  cases es : fr1[i]? with
  | none =>
    have q : xZ i fr1 h1 = .err := by unfold xZ; rw [es]
    rw [M.bind_err q] at p1'
    exact p1'.elim
  | some os =>
    cases os with
    | none =>
      have q : xZ i fr1 h1 = .err := by unfold xZ; rw [es]
      rw [M.bind_err q] at p1'
      exact p1'.elim
    | some ds =>
      have q : xZ i fr1 h1 = .ok () fr1 h1 := by unfold xZ; rw [es]
      rw [M.bind_ok q] at p1'
      obtain ⟨ov, ev, _⟩ := vz r1 es
      refine ⟨ov, ev, sj B w1 σ H1 fr1 h1 _ r1 (sY.bind (VR := vV X.K T B σ) p1' fun jd fr2 h2 w2 H2 jv e2 l2 r2 rj p2 => ?_)⟩
      have p2' : sY X.K T B W w2 ((nM i (HH jd d)).bind (fun _ => M.ret .nx) fr2 h2) D := p2
      rcases ac0 (f := HH jd d) r2 ev with q | ⟨fr3, h3, q, z⟩
      · rw [M.bind_err q] at p2'
        exact p2'.elim
      · rw [M.bind_ok q] at p2'
        exact agV z (rx.mono l2) rj fun H' R' => p2' w2 σ H' (Wd.le_refl _) R'))
def IK (m : M D) : M D := m.bind fun d fr h => if d.own then .ok (.ref h.length) fr (h ++ [d]) else .err
theorem Wk (s : zR X T W e m) : cP X T W e (IK m) := fun B w σ H fr h Q R p => s B w σ H fr h Q R (bz.bind (VR := vE X.K T B σ) p fun d fr1 h1 w1 H1 v e1 l1 r1 rx p1 => by
 rcases rx with rx | ⟨q, o, rfl, O, lo, eH, rd⟩
 · have p1' : bz X.K T B W (vV X.K T B σ) w1 σ (if d.own then .ok (.ref h1.length) fr1 (h1 ++ [d]) else .err) Q := p1
   rw [Nt rx] at p1'
   exact (show False from p1').elim
 · have p1' : bz X.K T B W (vV X.K T B σ) w1 σ (if d.own then .ok (.ref h1.length) fr1 (h1 ++ [d]) else .err) Q := p1
   rw [rd.own] at p1'
   have R2 := r1.to_cell O lo eH rd
   exact p1' ⟨w1.F, w1.I ++ [q]⟩ H1 (.ref q) ⟨fun _ _ z => z, [q], rfl⟩ R2 (.ref (by
    rw [← r1.len]
    show (w1.I ++ [q])[w1.I.length]? = some q
    rw [alE (Nat.le_refl _), Nat.sub_self]
    rfl)))
theorem NK {α : Type} {f : Str} : ∀ {fs : List Str} {vs : List α} {i : Nat}, fs.Nodup → fs[i]? = some f → (fs.zip vs).lookup f = vs[i]?
 | [], _, _, _, e => by simp at e
 | g :: fs, [], i, _, _ => by simp
 | g :: fs, v :: vs, 0, _, e => by
   simp at e
   subst e
   simp [alu]
 | g :: fs, v :: vs, i + 1, n, e => by
   have hf : f ∈ fs := alB (by simpa using e)
   have hne : (f == g) = false := by
    rw [beq_eq_false_iff_ne]
    rintro rfl
    exact (List.nodup_cons.mp n).1 hf
   show alu f ((g, v) :: fs.zip vs) = (v :: vs)[i + 1]?
   rw [List.lookup_cons, hne]
   show (fs.zip vs).lookup f = _
   rw [NK (List.nodup_cons.mp n).2 (by simpa using e)]
   simp
theorem Y8 {f : Str} {y : V} : ∀ {fs : List Str} {vs : List V} {i : Nat}, fs.Nodup → fs[i]? = some f → i ≤ vs.length → putF f y (fs.zip vs) = fs.zip (if i < vs.length then vs.set i y else vs ++ [y])
 | [], _, _, _, e, _ => by simp at e
 | g :: fs, [], i, _, e, hl => by
   have h0 : i = 0 := by simpa using hl
   subst h0
   simp at e
   subst e
   simp [putF]
 | g :: fs, v :: vs, 0, _, e, _ => by
   simp at e
   subst e
   show putF g y ((g, v) :: fs.zip vs) = _
   unfold putF
   rw [if_pos rfl, if_pos (show 0 < (v :: vs).length from Nat.succ_pos _)]
   rfl
 | g :: fs, v :: vs, i + 1, n, e, hl => by
   have hf : f ∈ fs := alB (by simpa using e)
   have hne : ¬ g = f := by
    rintro rfl
    exact (List.nodup_cons.mp n).1 hf
   show putF f y ((g, v) :: fs.zip vs) = _
   unfold putF
   rw [if_neg hne, Y8 (List.nodup_cons.mp n).2 (i := i) (by simpa using e) (by simpa using hl)]
   by_cases h : i < vs.length
   · rw [if_pos h, if_pos (by simpa using h)]
     rfl
   · rw [if_neg h, if_neg (by simpa using h)]
     rfl
structure Qc (X : Cx) (T : Tb) (f : Str) (ix : Nat → Option Nat) : Prop where
 cls : ∀ c i, ix c = some i → Cls X.K (T.cad c)
 na : ∀ c i, ix c = some i → NoAttr X.K (T.cad c) f
 nd : ∀ c i, ix c = some i → (T.fld c).Nodup ∧ (T.fld c).length < 1000
 at_ : ∀ c i, ix c = some i → (T.fld c)[i]? = some f
def D.ins (h : Hh) (d : D) : Option (Nat × List D) := match d.der h with
 | .obj c fs => some (c, fs)
 | .no c fs => some (c, fs)
 | _ => none
def uY (ix : Nat → Option Nat) (h : Hh) (d : D) : Option D := match d.ins h with
 | some (c, fs) => match ix c with
   | some i => fs[i]?
   | none => none
 | none => none
theorem RM {K : PySem.W.Frag} {B : Bs} {w : Wd} {σ : L2.St} {H : Hp} {fr : Fr} {h : Hh} {v : V} {d : D} {c : Nat} {fs : List D} (R : Rel K T B w σ H fr h) (z : vO K T B σ w H fr v d) (e : d.ins h = some (c, fs)) :
 ∃ a dx vs, v = .ref a ∧ H a = some (.ins (T.cad c) dx ((T.fld c).zip vs)) ∧ aJ K T w vs fs := by
 rcases z with z | ⟨p, o, rfl, eH, z⟩
 · cases z with
   | obj s r =>
     cases e
     exact ⟨_, _, _, rfl, R.sub _ _ s, r⟩
   | @ref a n s =>
     have ln : n < h.length := by
      rw [← R.len]
      exact (List.getElem?_eq_some_iff.mp s).1
     obtain ⟨o, q, rr⟩ := R.cel n a h[n] s (alv ln)
     have e0 : D.der h (.ref n) = h[n] := by
      unfold D.der
      dsimp only
      rw [alv ln]
      rfl
     unfold D.ins at e
     rw [e0] at e
     generalize h[n] = cc at rr e
     cases rr with
     | lst r => cases e
     | dct _ r => cases e
     | dkt _ r => cases e
     | obj r =>
       cases e
       exact ⟨_, _, _, rfl, q, r⟩
   | _ => cases e
 · cases z with
   | lst r => cases e
   | obj r =>
     cases e
     exact ⟨_, _, _, rfl, eH, r⟩
theorem zg {f : Str} {ix : Nat → Option Nat} (F : Qc X T f ix) (s : V7 X T W o mo) (hb : attributeBase o f X.env (eval o X.env) = eval o X.env := by rfl) : cP X T W (.Attribute o f pos) (iy (uY ix) mo) := fun B w σ H fr h Q R p =>
 vm (pe_fld nU hb) (s B w σ H fr h _ R (bz.bind (VR := vO X.K T B σ) p fun d fr1 h1 w1 H1 v e1 l1 r1 rx p1 => by
  have p1' : bz X.K T B W (vV X.K T B σ) w1 σ (M.opt (uY ix h1 d) fr1 h1) Q := p1
  cases q : uY ix h1 d with
  | none => rw [q] at p1'; exact p1'.elim
  | some z =>
    rw [q] at p1'
    unfold uY at q
    split at q
    · rename_i c fs ei
      split at q
      · rename_i i ec
        obtain ⟨a, dx, vs, rfl, eH, rs⟩ := RM r1 rx ei
        obtain ⟨v, ev, rv⟩ := rs.get q
        exact ⟨a, _, dx, _, v, rfl, eH, F.cls c i ec, F.na c i ec, by rw [NK (F.nd c i ec).1 (F.at_ c i ec)]; exact ev, p1' w1 H1 v (Wd.le_refl _) r1 rv⟩
      · cases q
    · cases q))
def wY (i : Nat) (d : D) (fs : List D) : Option (List D) := if i ≤ fs.length then some (if i < fs.length then fs.set i d else fs ++ [d]) else none
def Ez (j : Nat) (ix : Nat → Option Nat) (d : D) : M Unit := fun fr h => match fr[j]? with
 | some (some (.no c fs)) => match ix c with
   | some i => match wY i d fs with
     | some fs' => .ok () (fr.set j (some (.no c fs'))) h
     | none => .err
   | none => .err
 | some (some (.ref n)) => match h[n]? with
   | some (.no c fs) => match ix c with
     | some i => match wY i d fs with
       | some fs' => .ok () fr (h.set n (.no c fs'))
       | none => .err
     | none => .err
   | _ => .err
 | _ => .err
def xq (j : Nat) (ix : Nat → Option Nat) (m : M D) : M Fl := m.bind fun d => (Ez j ix d).bind fun _ => M.ret .nx
theorem Xn {K : PySem.W.Frag} {w : Wd} {f : Str} {c i : Nat} {fs fs' : List D} {vs : List V} {y : V} {d : D} (nd : (T.fld c).Nodup) (at_ : (T.fld c)[i]? = some f) (rs : aJ K T w vs fs) (ry : sS K T w y d) (e : wY i d fs = some fs') :
 ∃ vs', putF f y ((T.fld c).zip vs) = (T.fld c).zip vs' ∧ aJ K T w vs' fs' := by
 unfold wY at e
 by_cases hi : i ≤ fs.length
 · rw [if_pos hi] at e
   cases e
   refine ⟨_, Y8 nd at_ (by rw [rs.length]; exact hi), ?_⟩
   rw [rs.length]
   by_cases hl : i < fs.length
   · rw [if_pos hl, if_pos hl]
     exact rs.set i ry
   · rw [if_neg hl, if_neg hl]
     exact rs.append (.cons ry .nil)
 · rw [if_neg hi] at e
   cases e
theorem HJ (j : Nat) {x f : Str} {ix : Nat → Option Nat} (F : Qc X T f ix) (s : cP X T W e m) (hs : swapsWith e (some (.Attribute (.Name x px) f tpos)) pos.line X.env = pure false := by rfl)
 (hN : X.N[j]? = some x := by rfl) (hv : Vis X.env.scope x := by first | exact Or.inl rfl | exact Or.inr (Or.inl rfl) | exact Or.inr (Or.inr rfl)) (hd : (x == ("__debug__" : Str)) = false := by decide)
 (hcd : (x == ("__classdict__" : Str)) = false := by decide) : Ar X T W (.Assign [.Attribute (.Name x px) f tpos] e pos) (xq j ix m) := fun B w σ H fr h D R p =>
 Ac (ps_fld (pe_var hN hv hd hcd) nU hs) (s B w σ H fr h _ R (sY.bind (VR := vV X.K T B σ) p fun d fr1 h1 w1 H1 y e1 l1 r1 ry p1 => by
  have p1' : sY X.K T B W w1 ((Ez j ix d).bind (fun _ => M.ret .nx) fr1 h1) D := p1
  have fin : ∀ {c i : Nat} {a dx : Addr} {vs : List V} {fs fs' : List Pk.D}, ix c = some i → H1 a = some (.ins (T.cad c) dx ((T.fld c).zip vs)) → aJ X.K T w1 vs fs → wY i d fs = some fs' → (∀ vs', aJ X.K T w1 vs' fs' → D.nx σ (upd H1 a (.ins (T.cad c) dx ((T.fld c).zip vs')))) → σ[j]? = some (some (.ref a)) →
   ∃ v, σ[j]? = some (some v) ∧ ∃ a C dx fs, v = .ref a ∧ H1 a = some (.ins C dx fs) ∧ Cls X.K C ∧ NoAttr X.K C f ∧ fs.length < 1000 ∧ D.nx σ (upd H1 a (.ins C dx (putF f y fs))) := fun {c i a dx vs fs fs'} ec eH rs ep kk es => by
   obtain ⟨vs', e1, rs'⟩ := Xn (F.nd c i ec).1 (F.at_ c i ec) rs ry ep
   refine ⟨_, es, a, _, dx, _, rfl, eH, F.cls c i ec, F.na c i ec, ?_, ?_⟩
   · rw [List.length_zip]
     have := (F.nd c i ec).2
     omega
   · rw [e1]
     exact kk vs' rs'
  cases q : Ez j ix d fr1 h1 with
  | err => rw [M.bind_err q] at p1'; exact p1'.elim
  | exc z fr2 h2 =>
    exfalso
    unfold Ez at q
    repeat' (first | (split at q) | (cases q))
  | ok u fr2 h2 =>
    rw [M.bind_ok q] at p1'
    have p2 : ∀ w' σ' H', w1.le w' → Rel X.K T B w' σ' H' fr2 h2 → D.nx σ' H' := p1'
    unfold Ez at q
    split at q
    · rename_i c fs es
      split at q
      · rename_i i ec
        split at q
        · rename_i fs' ep
          cases q
          obtain ⟨v, e2, z⟩ := vz r1 es
          cases z with
          | val r => cases r
          | own O eH r =>
            cases r with
            | obj r => exact fin ec eH r ep (fun vs' rs' => p2 w1 σ _ (Wd.le_refl _) (r1.change_slot e2 es O eH rfl (.obj rs'))) e2
        · cases q
      · cases q
    · rename_i n es
      split at q
      · rename_i c fs en
        split at q
        · rename_i i ec
          split at q
          · rename_i fs' ep
            cases q
            obtain ⟨v, e2, z⟩ := vz r1 es
            cases z with
            | val r =>
              cases r with
              | ref sI =>
                obtain ⟨o, qo, rr⟩ := r1.cel n _ _ sI en
                cases rr with
                | obj r => exact fin ec qo r ep (fun vs' rs' => p2 w1 σ _ (Wd.le_refl _) (r1.change_cell sI en (.obj rs'))) e2
            | own O eH r => cases r
          · cases q
        · cases q
      · cases q
    · cases q))
end
end Pk
namespace Pk
open PySem PySem.Spec L2
abbrev Fn := List D → Hh → R D
def startF (n : Nat) (ds : List D) : Fr := ds.map some ++ List.replicate (n - ds.length) none
def sX (n : Nat) (m : M Fl) : Fn := fun ds h => match m (startF n ds) h with
 | .ok (.rt d) _ h => .ok d [] h
 | .ok .nx _ h => .ok .non [] h
 | .ok _ _ _ => .err
 | .exc x _ h => .exc x [] h
 | .err => .err
def runI (c n : Nat) (m : M Fl) : Fn := fun ds h => match m (startF n (.no c [] :: ds)) h with
 | .ok .nx fr h => match (fr : Fr)[0]? with
   | some (some (D.no c' fs)) => if c' = c then .ok (.no c fs) [] h else .err
   | _ => .err
 | .ok _ _ _ => .err
 | .exc x _ h => .exc x [] h
 | .err => .err
def spF (K : PySem.W.Frag) (T : Tb) (n : Nat) (F : Fn) : Sp := fun vs H Q E => ∃ w h ds, Rel K T (Bs.of w H) w [] H [] h ∧ aJ K T w vs ds ∧ ds.length = n ∧ bz K T (Bs.of w H) (fun c d _ H' => E c d H') (vE K T (Bs.of w H) []) w [] (F ds h) Q
def vN (K : PySem.W.Frag) (T : Tb) (w : Wd) (G : Hp) (x : Addr) (w' : Wd) (H' : Hp) (_ : Fr) (v : V) (d : D) : Prop := v = .non ∧ Own (Bs.of w G) w' x ∧ ∃ o, H' x = some o ∧ Am K T w' o d
def spI (K : PySem.W.Frag) (T : Tb) (c n : Nat) (F : Fn) : Sp := fun vs H Q E => ∃ w h ds G x dx us, vs = .ref x :: us ∧ G x = none ∧ H = upd G x (.ins (T.cad c) dx []) ∧ Rel K T (Bs.of w G) w [] G [] h ∧ aJ K T w us ds ∧ ds.length + 1 = n ∧
 bz K T (Bs.of w G) (fun c d _ H' => E c d H') (vN K T w G x) w [] (F ds h) Q
section
variable {K : PySem.W.Frag} {T : Tb} {B : Bs} {w w' : Wd} {σ : L2.St} {H H' : Hp} {fr : Fr} {h : Hh}
theorem Ot {n : Nat} {ds : List D} (hl : ds.length ≤ n) : (startF n ds).length = n := by
 unfold startF
 rw [alD, alw, List.length_replicate]
 omega
theorem Jh {n i : Nat} {ds : List D} {d : D} (e : (startF n ds)[i]? = some (some d)) : ds[i]? = some d := by
 unfold startF at e
 by_cases hi : i < ds.length
 · rw [List.getElem?_append_left (by simpa using hi), alF] at e
   cases q : ds[i]? with
   | none => rw [q] at e; cases e
   | some a => rw [q] at e; cases e; rfl
 · rw [alE (by simpa using hi), List.getElem?_replicate] at e
   split at e <;> cases e
theorem Y9 {N : List Str} {vs : List V} {i : Nat} {v : V} (e : vs[i]? = some v) : (L2.start N vs)[i]? = some (some v) := by
 unfold L2.start
 have hi : i < vs.length := (List.getElem?_eq_some_iff.mp e).1
 rw [List.getElem?_append_left (by simpa using hi), alF, e]
 rfl
theorem Xo {N : List Str} {vs : List V} (hl : vs.length ≤ N.length) : (L2.start N vs).length = N.length := by
 unfold L2.start
 rw [alD, alw, List.length_replicate]
 omega
theorem Rel.start (R : Rel K T B w [] H [] h) {N : List Str} {vs : List V} {ds : List D} (rs : aJ K T w vs ds) (hl : ds.length ≤ N.length) : Rel K T B w (L2.start N vs) H (startF N.length ds) h :=
 { R with
   me := fun x d bx e od => by
    obtain ⟨v, ev, rv⟩ := rs.get (Jh e)
    exact (Do od rv).elim
   fl := by rw [Ot hl, Xo (by rw [rs.length]; exact hl)]
   sl := fun i s d e1 e2 => by
    cases d with
    | none => exact .none
    | some d =>
      obtain ⟨v, ev, rv⟩ := rs.get (Jh e2)
      rw [Y9 ev] at e1
      cases e1
      exact .val rv
   sep := fun i j p hij ⟨_, d, e, od⟩ _ => by
    obtain ⟨v, ev, rv⟩ := rs.get (Jh e)
    exact Do od rv }
theorem Rel.startI (R : Rel K T B w [] H [] h) {N : List Str} {x dx : Addr} {c : Nat} {vs : List V} {ds : List D} (hB : B.me = some x) (nx : H x = none) (rs : aJ K T w vs ds) (hl : ds.length + 1 ≤ N.length) :
 Rel K T B w (L2.start N (.ref x :: vs)) (upd H x (.ins (T.cad c) dx [])) (startF N.length (.no c [] :: ds)) h := by
 have R1 : Rel K T B w [] (upd H x (.ins (T.cad c) dx [])) [] h := R.temp nx
 have O : Own B w x := R.own_new nx
 have sl : ∀ (i : Nat) s d, (L2.start N (.ref x :: vs))[i]? = some s → (startF N.length (.no c [] :: ds))[i]? = some d → Nu K T B w (upd H x (.ins (T.cad c) dx [])) s d := fun i s d e1 e2 => by
  cases d with
  | none => exact .none
  | some d =>
    have q := Jh e2
    cases i with
    | zero =>
      cases q
      cases e1
      exact .own O upd_same (by
       have z : Am K T w (.ins (T.cad c) dx ((T.fld c).zip [])) (.no c []) := .obj .nil
       rw [List.zip_nil_right] at z
       exact z)
    | succ i =>
      obtain ⟨v, ev, rv⟩ := rs.get (show ds[i]? = some d from q)
      have e3 : (L2.start N (.ref x :: vs))[i + 1]? = some (some v) := Y9 (show (V.ref x :: vs)[i + 1]? = some v from ev)
      rw [e3] at e1
      cases e1
      exact .val rv
 have hown : ∀ (i : Nat) d, (startF N.length (.no c [] :: ds))[i]? = some (some d) → d.own = true → i = 0 := fun i d e od => by
  cases i with
  | zero => rfl
  | succ i =>
    have q := Jh e
    obtain ⟨v, ev, rv⟩ := rs.get (show ds[i]? = some d from q)
    exact (Do od rv).elim
 refine { R1 with fl := ?_, sl := sl, sep := fun i j p hij ⟨_, d, e, od⟩ ⟨_, d', e', od'⟩ => hij ((hown i d e od).trans (hown j d' e' od').symm), me := fun y d bx e od => ?_ }
 · rw [Ot (by simpa using hl), Xo (by rw [ald, rs.length]; exact hl)]
 · have bx' : some x = some y := hB.symm.trans bx
   cases bx'
   rfl
theorem Rel.unme {m : Option Addr} {w0 : Wd} {G : Hp} (R : Rel K T ⟨w0, G, [], m⟩ w [] H [] h) : Rel K T (Bs.of w0 G) w [] H [] h := { R with me := (fun _ _ _ q _ => by simp at q), sl := fun _ _ _ q => by simp at q }
theorem Rel.ofme {x : Addr} {w0 : Wd} {G : Hp} (R : Rel K T (Bs.of w0 G) w [] H [] h) : Rel K T ⟨w0, G, [], some x⟩ w [] H [] h := { R with me := (fun _ _ _ q _ => by simp at q), sl := fun _ _ _ q => by simp at q }
end
section
variable {P : Program} {w : World} {K : PySem.W.Frag} {mg : Str → Option Value} {base : Heap} {T : Tb} {k : Nat} {x qual : Str} {params : Arguments} {body : List Stmt} {scope : Scope} {dvs : List V} {kws : List (Str × V)} {f : Addr} {fd : FuncData} {N ps : List Str}
abbrev Cxd (P : Program) (w : World) (K : PySem.W.Frag) (mg : Str → Option Value) (base : Heap) (N : List Str) (qual : Str) (scope : Scope) (f : Addr) (cdv : Value) (A : Around) (outer : List Env) (s : Shared) (H : Hp) (E : XK) : Cx := cxOf (L2.CX P w) P w K mg base N qual scope f cdv A outer s H E
def WX.up (E : XK) : WX := fun c d _ H' => E c d H'
def Does (P : Program) (w : World) (K : PySem.W.Frag) (mg : Str → Option Value) (base : Heap) (T : Tb) (k : Nat) (N : List Str) (qual : Str) (scope : Scope) (body : List Stmt) (m : M Fl) : Prop :=
 ∀ (f : Addr) (cdv : Value) (A : Around) (outer : List Env) (s : Shared) (H : Hp) (E : XK), Cq (Cxd P w K mg base N qual scope f cdv A outer s H E) T (WX.up E) k → Fy (Cxd P w K mg base N qual scope f cdv A outer s H E) T (WX.up E) body m
theorem Yn (S : FnScope N ps scope) {cdv : Value} {A : Around} {outer : List Env} {s : Shared} {H : Hp} {E : XK} (hr : Room k (A.deeper (PyProof.Rows.envOfC qual scope s.heap.objs.size f cdv))) : Cq (Cxd P w K mg base N qual scope f cdv A outer s H E) T (WX.up E) k :=
 ⟨rfl, S.nd, hr, takes_of rfl rfl rfl rfl, passes_of rfl⟩
theorem fn_sim (F : FunD K x qual params body scope dvs kws f fd) (S : FnScope N ps scope) {m : M Fl} (dm : Does P w K mg base T k N qual scope body m) : FnOk P w K mg base (L2.CX P w) (k + 1) f fd ps (spF K T ps.length (sX N.length m)) := by
 refine F.ok S (fun vs H Q E ⟨w, h, ds, _, rs, hl, _⟩ => rs.length.trans hl) fun cdv A outer s H vs Q E hr ⟨w, h, ds, R, rs, hl, post⟩ => ⟨YC _ body, Ce, ?_⟩
 have hpl : ps.length ≤ N.length := by
  have := congrArg List.length S.pre
  rw [List.length_take] at this
  omega
 refine dm f cdv A outer s H E (Yn S hr) (Bs.of w H) w _ H (startF N.length ds) h _ (R.start rs (by rw [hl]; exact hpl)) ?_
 unfold sX at post
 cases e : m (startF N.length ds) h with
 | ok fl fr h' =>
   rw [e] at post
   cases fl with
   | nx => exact fun w' σ' H' l R' => post w' H' .non l R'.unframe (.inl .non)
   | rt d => exact fun w' σ' H' v l R' rv => post w' H' v l R'.unframe (by
    rcases rv with rv | ⟨p, o, rfl, O, lo, eH, rd⟩
    · exact .inl rv
    · exact .inr ⟨p, o, rfl, O, fun i => M4, eH, rd⟩)
   | brk => exact post.elim
   | ct => exact post.elim
 | exc y fr h' =>
   rw [e] at post
   exact fun w' σ' H' c dd l R' z => post w' H' c dd l R'.unframe z
 | err => rw [e] at post; exact post
theorem afM (c : Nat) (F : FunD K x qual params body scope dvs kws f fd) (S : FnScope N ps scope) {m : M Fl} (dm : Does P w K mg base T k N qual scope body m) : FnOk P w K mg base (L2.CX P w) (k + 1) f fd ps (spI K T c ps.length (runI c N.length m)) := by
 refine F.ok S (fun vs H Q E ⟨w, h, ds, G, x, dx, us, ev, _, _, _, rs, hl, _⟩ => by rw [ev, ald, rs.length]; exact hl) fun cdv A outer s H vs Q E hr ⟨w, h, ds, G, x, dx, us, ev, nx, eH, R, rs, hl, post⟩ => ⟨YC _ body, Ce, ?_⟩
 have hpl : ps.length ≤ N.length := by
  have := congrArg List.length S.pre
  rw [List.length_take] at this
  omega
 subst ev eH
 refine dm f cdv A outer s _ E (Yn S hr) ⟨w, G, [], some x⟩ w _ _ (startF N.length (.no c [] :: ds)) h _ (R.ofme.startI rfl nx rs (by rw [hl]; exact hpl)) ?_
 unfold runI at post
 cases e : m (startF N.length (.no c [] :: ds)) h with
 | ok fl fr h' =>
   rw [e] at post
   cases fl with
   | nx =>
     intro w' σ' H' l R'
     dsimp only at post
     cases e0 : (fr : Fr)[0]? with
     | none => rw [e0] at post; exact post.elim
     | some od =>
       rw [e0] at post
       cases od with
       | none => exact post.elim
       | some d =>
         cases d with
         | no c' fs =>
           dsimp only at post
           by_cases hc : c' = c
           · rw [if_pos hc] at post
             subst hc
             have s0 := R'.me x _ rfl e0 rfl
             obtain ⟨v, ev, z⟩ := vz R' e0
             rw [s0] at ev
             cases ev
             cases z with
             | val r => cases r
             | own O eH r => exact post w' H' .non l R'.unframe.unme ⟨rfl, ⟨O.f, O.i, O.e, fun q hq => by cases hq⟩, _, eH, r⟩
           · rw [if_neg hc] at post
             exact post.elim
         | _ => exact post.elim
   | rt d => exact post.elim
   | brk => exact post.elim
   | ct => exact post.elim
 | exc y fr h' =>
   rw [e] at post
   exact fun w' σ' H' c dd l R' z => post w' H' c dd l R'.unframe.unme z
 | err => rw [e] at post; exact post
end
end Pk
namespace Pk
open PySem PySem.Spec L2
structure WKw (X : Cx) (kws : List Keyword) (σ : L2.St) (H : Hp) (Q : List V → Hp → Prop) : Prop where
 go : ∀ pos pins s, Inv X pins σ H s → wpAny (model X.prog X.w) X.A (evalAll ((backToKw pos (keywordEach kws X.env)).map (·.2))) (AP X pins σ Q) X.xe s
abbrev aki (X : Cx) (T : Tb) (W : WX) (kws : List Keyword) (m : M (List D)) : Prop := v5 (WKw X kws) X.K T W vA m
section
variable {X : Cx} {T : Tb} {W : WX} {e : Expr} {kws : List Keyword} {m : M D} {ms : List (M D)} {nm : Option Str} {kpos : Pos}
end
def v4 (fr : Fr) : R D → R D
 | .ok d _ h => .ok d fr h
 | .exc x _ h => .exc x fr h
 | .err => .err
theorem RN {K : PySem.W.Frag} {T : Tb} {B : Bs} {W : WX} {w : Wd} {σ : L2.St} {H : Hp} {fr : Fr} {h : Hh} {n : Nat} {F : Fn} {vs : List V} {ds : List D} {Q : VK} (R : Rel K T B w σ H fr h) (rs : aJ K T w vs ds) (hl : ds.length = n)
 (p : bz K T B W (vE K T B σ) w σ (v4 fr (F ds h)) Q) : spF K T n F vs H Q (fun c d H' => W c d σ H') := by
 refine ⟨w, h, ds, R.enter, rs, hl, ?_⟩
 cases e : F ds h with
 | ok d fr' h' =>
   rw [e] at p
   intro w' H' v l R' rv
   have ef : fr' = [] := by
    have := R'.fl
    exact List.length_eq_zero_iff.mp this
   subst ef
   have R2 := R.back l R'
   refine p w' H' v l R2 ?_
   rcases rv with rv | ⟨q, o, rfl, O, lo, eH, rd⟩
   · exact .inl rv
   · have nq : H q = none := O.e
     refine .inr ⟨q, o, rfl, ⟨O.f, O.i, (R.own_new nq).e, (R.own_new nq).p⟩, fun i z => R.loose_new nq i z, eH, rd⟩
 | exc y fr' h' =>
   rw [e] at p
   intro w' H' c dd l R' z
   have ef : fr' = [] := by
    have := R'.fl
    exact List.length_eq_zero_iff.mp this
   subst ef
   exact p w' H' c dd l (R.back l R') z
 | err => rw [e] at p; exact p
theorem adR {K : PySem.W.Frag} {T : Tb} {B : Bs} {W : WX} {w : Wd} {σ : L2.St} {H : Hp} {fr : Fr} {h : Hh} {n c : Nat} {F : Fn} {vs : List V} {ds : List D} {Q : VK} {x dx : Addr} (R : Rel K T B w σ H fr h) (rs : aJ K T w vs ds) (hl : ds.length + 1 = n)
 (nx : H x = none) (nd : H dx = none) (ne : dx ≠ x)
 (p : bz K T B W (vE K T B σ) w σ (v4 fr (F ds h)) Q) : spI K T c n F (.ref x :: vs) (upd (upd H dx (.own x)) x (.ins (T.cad c) dx [])) (fun v H2 => v = .non ∧ Q (.ref x) H2) (fun c d H' => W c d σ H') := by
 have R1 : Rel K T B w σ (upd H dx (.own x)) fr h := R.temp nd
 have nx1 : (upd H dx (.own x)) x = none := by rw [upd_ne (Ne.symm ne)]; exact nx
 refine ⟨w, h, ds, upd H dx (.own x), x, dx, vs, rfl, nx1, rfl, R1.enter, rs, hl, ?_⟩
 cases e : F ds h with
 | ok d fr' h' =>
   rw [e] at p
   intro w' H' v l R' ⟨ev, O, o, eH, rd⟩
   have ef : fr' = [] := by
    have := R'.fl
    exact List.length_eq_zero_iff.mp this
   subst ef
   exact ⟨ev, p w' H' (.ref x) l (R1.back l R') (.inr ⟨x, o, rfl, ⟨O.f, O.i, (R1.own_new nx1).e, (R1.own_new nx1).p⟩, fun i z => R1.loose_new nx1 i z, eH, rd⟩)⟩
 | exc y fr' h' =>
   rw [e] at p
   intro w' H' c dd l R' z
   have ef : fr' = [] := by
    have := R'.fl
    exact List.length_eq_zero_iff.mp this
   subst ef
   exact p w' H' c dd l (R1.back l R') z
 | err => rw [e] at p; exact p
structure Bn (K : PySem.W.Frag) (T : Tb) (fd : FuncData) (ps : List Str) (n : Nat) (ks : List Str) (gD : List D → List D → List D) : Prop where
 ex : ∃ (g : List Value → List Value → List Value) (gV : List V → List V → List V), KBn K fd ps n ks g gV ∧
  ∀ (w : Wd) (vs zs : List V) (ds es : List D), aJ K T w vs ds → aJ K T w zs es → ds.length = n → es.length = ks.length → aJ K T w (gV vs zs) (gD ds es) ∧ (gD ds es).length = ps.length
def aH (dfl : List D) (ds _ : List D) : List D := ds ++ dfl
structure v7 (P : Program) (w : World) (K : PySem.W.Frag) (mg : Str → Option Value) (base : Heap) (T : Tb) (k : Nat) (f : Addr) (fd : FuncData) (ps : List Str) (F : Fn) : Prop where
 ok : FnOk P w K mg base (L2.CX P w) k f fd ps (spF K T ps.length F)
 kp : PySem.W.keepIn K (.ref f) = true
structure FnI (P : Program) (w : World) (K : PySem.W.Frag) (mg : Str → Option Value) (base : Heap) (T : Tb) (k c : Nat) (f : Addr) (fd : FuncData) (ps : List Str) (F : Fn) : Prop where
 ok : FnOk P w K mg base (L2.CX P w) k f fd ps (spI K T c ps.length F)
 made : Mk K (T.cad c) f
def bD (n m : Nat) (F : Fn) (gD : List D → List D → List D) (ma mk : M (List D)) : M D := ma.bind fun ds => mk.bind fun es fr h => if ds.length = n ∧ es.length = m then v4 fr (F (gD ds es) h) else .err
theorem vo {K : PySem.W.Frag} {T : Tb} {fd : FuncData} {ps : List Str} (h : Binds K fd ps []) : Bn K T fd ps ps.length [] (aH []) :=
 ⟨fun us _ => us, fun vs _ => vs, ⟨fun s us ws X l1 _ => by
  have b := h s us X (by rw [alb]; exact l1)
  rw [alb] at b
  exact b, fun r _ => r⟩, fun w vs zs ds es rs _ hl _ => ⟨by
   show aJ K T w vs (ds ++ [])
   rw [alb]
   exact rs, by
   show (ds ++ []).length = _
   rw [alb]
   exact hl⟩⟩
section
variable {X : Cx} {T : Tb} {W : WX} {k kk n : Nat} {f C : Addr} {fd : FuncData} {ps ks : List Str} {F : Fn} {x m : Str} {p pos apos : Pos} {e o : Expr} {es : List Expr} {kws : List Keyword} {mo : M D} {ma mk : M (List D)} {gD : List D → List D → List D}
theorem Wl {pins : List (Addr × Obj)} {σ : L2.St} {H : Hp} {s : Shared} {Q : VK} {us ws : List Value} {vs zs : List V} {g : List Value → List Value → List Value} {gV : List V → List V → List V} {sp : Sp} (F : FnOk X.prog X.w X.K X.mg X.base (L2.CX X.prog X.w) kk f fd ps sp) (hr : Room kk X.A) (hb : KBn X.K fd ps n ks g gV) (tk : Takes X W)
 (I : Inv X pins σ H s) (r : Vals vs us) (rz : Vals zs ws) (l1 : vs.length = n) (l2 : zs.length = ks.length) (h : sp (gV vs zs) H Q (fun c d H' => W c d σ H')) : wpAny (model X.prog X.w) X.A (call (.ref f) us (ks.zip ws)) (EP X pins σ Q) X.xe s := by
 have r2 := hb.rel r rz
 refine wpAny_call (codeAny_mono (F.run X.A X.stack s H ⟨us, ks.zip ws⟩ (g us ws) (gV vs zs) Q _ hr I.env0 (hb.to s us ws I.kIn (r.length.symm.trans l1) (rz.length.symm.trans l2)) r2 h) fun r s' hq => ?_)
 cases r with
 | error e => exact passAt tk σ pins H s e s' I hq
 | ok fl =>
   cases fl with
   | ret u => exact I.after hq
   | next => exact False.elim hq
   | brk => exact False.elim hq
   | cont => exact False.elim hq
theorem run_mk {pins : List (Addr × Obj)} {σ : L2.St} {H : Hp} {s : Shared} {Q : VK} {us ws : List Value} {vs zs : List V} {g : List Value → List Value → List Value} {gV : List V → List V → List V} {sp : Sp} (M : Mk X.K C f) (F : FnOk X.prog X.w X.K X.mg X.base (L2.CX X.prog X.w) kk f fd ps sp) (hr : Room (kk + 1) X.A) (hb : KBn X.K fd ps (n + 1) ks g gV) (tk : Takes X W)
 (I : Inv X pins σ H s) (r : Vals vs us) (rz : Vals zs ws) (l1 : vs.length = n) (l2 : zs.length = ks.length)
 (h : ∀ x dx, H x = none → H dx = none → dx ≠ x → sp (gV (.ref x :: vs) zs) (upd (upd H dx (.own x)) x (.ins C dx [])) (fun v H2 => v = .non ∧ Q (.ref x) H2) (fun c d H' => W c d σ H')) :
 wpAny (model X.prog X.w) X.A (call (.ref C) us (ks.zip ws)) (EP X pins σ Q) X.xe s := by
 have hq := h (s.heap.objs.size + 1) s.heap.objs.size (I.hok.fresh (Nat.le_succ _)) (I.hok.fresh (Nat.le_refl _)) (Nat.ne_of_lt (Nat.lt_succ_self _))
 have I2 := Inv.made (C := C) I
 have r1 : Vals (V.ref (s.heap.objs.size + 1) :: vs) (Value.ref (s.heap.objs.size + 1) :: us) := .cons rfl r
 have r2 := hb.rel r1 rz
 have n1 : (Value.ref (s.heap.objs.size + 1) :: us).length = n + 1 := by
  rw [ald, ← r.length, l1]
 refine wpAny_call (make_map (f := f) I.kIn M.makes M.init (beq_iff_eq.mp M.fn) (codeAny_mono (F.run _ X.stack _ _ ⟨Value.ref (s.heap.objs.size + 1) :: us, ks.zip ws⟩ (g (Value.ref (s.heap.objs.size + 1) :: us) ws) _ _ _ (hr.make C us (ks.zip ws))
  (I2.env0.make C us (ks.zip ws)) (hb.to _ (Value.ref (s.heap.objs.size + 1) :: us) ws I2.kIn n1 (rz.length.symm.trans l2)) r2 hq) fun r s' hq' => ?_))
 cases r with
 | error e => exact passAt tk σ pins _ _ e s' I2 hq'
 | ok fl =>
   cases fl with
   | ret u =>
     obtain ⟨v, H', I3, rv, ev, q3⟩ := I2.after hq'
     subst ev
     exact ⟨rv, ⟨V.ref (s.heap.objs.size + 1), H', I3, rfl, q3⟩⟩
   | next => exact False.elim hq'
   | brk => exact False.elim hq'
   | cont => exact False.elim hq'
theorem NP {B : Bs} {w : Wd} {σ : L2.St} {H : Hp} {fr : Fr} {h : Hh} {m : Nat} {vs zs : List V} {ds es : List D} {Q : VK} {gV : List V → List V → List V} (hg : ∀ (w : Wd) (vs zs : List V) (ds es : List D), aJ X.K T w vs ds → aJ X.K T w zs es → ds.length = n → es.length = m → aJ X.K T w (gV vs zs) (gD ds es) ∧ (gD ds es).length = ps.length)
 (R : Rel X.K T B w σ H fr h) (rs : aJ X.K T w vs ds) (rz : aJ X.K T w zs es) (p : bz X.K T B W (vE X.K T B σ) w σ (if ds.length = n ∧ es.length = m then v4 fr (F (gD ds es) h) else .err) Q) :
 vs.length = n ∧ zs.length = m ∧ spF X.K T ps.length F (gV vs zs) H Q (fun c d H' => W c d σ H') := by
 by_cases hl : ds.length = n ∧ es.length = m
 · rw [if_pos hl] at p
   obtain ⟨r2, l2⟩ := hg w vs zs ds es rs rz hl.1 hl.2
   exact ⟨rs.length.trans hl.1, rz.length.trans hl.2, RN R r2 l2 p⟩
 · rw [if_neg hl] at p
   exact p.elim
theorem sU (C : Cq X T W k) (F0 : v7 X.prog X.w X.K X.mg X.base T kk f fd ps F) (hk : kk ≤ k) (bn : Bn X.K T fd ps n [] gD) (hm : X.mg x = some (.ref f)) (sa : CQ X T W (e :: es) ma) (hg : Gl X x := by rfl) (hdb : (x == ("__debug__" : Str)) = false := by decide)
 (he : starEach (e :: es) X.env = (false, eval e X.env) :: starEach es X.env := by exact uD rfl) (hpl : (backTo pos (starEach es X.env)).any (·.1) = false := by rfl) : zR X T W (.Call (.Name x p) (e :: es) [] pos) (bD n 0 F gD ma (aa [])) := fun B w σ H fr h Q R pp => WE.mk <| fun pins s I => by
 obtain ⟨g, gV, hb, hgD⟩ := bn.ex
 refine wpAny_Call_Name_kw (ld_glob I hg hm ?_ hdb)
 refine PySem.W.callWith_K (h₀ := X.base) I.ok.mod.kin F0.kp (thn ((sa B w σ H fr h _ R (bz.bind (VR := vA X.K T B σ) pp fun ds fr1 h1 w1 H1 vs e1 l1 r1 rs p1 => NP hgD r1 rs .nil p1)).go pos pins s I) fun us s1 ⟨vs, H1, I1, r, q⟩ => ⟨I1.kIn, ?_⟩) he hpl
 exact Wl (ws := []) F0.ok (C.room.mono hk) hb C.takes I1 r .nil q.1 rfl q.2.2
end
end Pk
namespace Pk
open PySem PySem.Spec L2
structure BnI (K : PySem.W.Frag) (T : Tb) (fd : FuncData) (ps : List Str) (n : Nat) (ks : List Str) (gD : List D → List D → List D) : Prop where
 ex : ∃ (g : List Value → List Value → List Value) (gV gW : List V → List V → List V), KBn K fd ps (n + 1) ks g gV ∧ (∀ x vs zs, vs.length = n → zs.length = ks.length → gV (x :: vs) zs = x :: gW vs zs) ∧
  ∀ (w : Wd) (vs zs : List V) (ds es : List D), aJ K T w vs ds → aJ K T w zs es → ds.length = n → es.length = ks.length → aJ K T w (gW vs zs) (gD ds es) ∧ (gD ds es).length + 1 = ps.length
theorem aa5 {K : PySem.W.Frag} {T : Tb} {fd : FuncData} {ps : List Str} (n : Nat) (h : Binds K fd ps []) (hn : n + 1 = ps.length) : BnI K T fd ps n [] (aH []) :=
 ⟨fun us _ => us, fun vs _ => vs, fun vs _ => vs, ⟨fun s us ws X l1 _ => by
  have b := h s us X (by rw [alb, l1]; exact hn)
  rw [alb] at b
  exact b, fun r _ => r⟩, fun _ _ _ _ _ => rfl, fun w vs zs ds es rs _ hl _ => ⟨by
   show aJ K T w vs (ds ++ [])
   rw [alb]
   exact rs, by
   show (ds ++ []).length + 1 = _
   rw [alb, hl]
   exact hn⟩⟩
section
variable {X : Cx} {T : Tb} {W : WX} {k kk n c : Nat} {f : Addr} {fd : FuncData} {ps ks : List Str} {F : Fn} {x m : Str} {p pos apos : Pos} {e o : Expr} {es : List Expr} {kws : List Keyword} {mo : M D} {ma mk : M (List D)} {gD : List D → List D → List D}
theorem adS {B : Bs} {w : Wd} {σ : L2.St} {H : Hp} {fr : Fr} {h : Hh} {m : Nat} {vs zs : List V} {ds es : List D} {Q : VK} {gV gW : List V → List V → List V} (hv : ∀ x vs zs, vs.length = n → zs.length = m → gV (x :: vs) zs = x :: gW vs zs)
 (hg : ∀ (w : Wd) (vs zs : List V) (ds es : List D), aJ X.K T w vs ds → aJ X.K T w zs es → ds.length = n → es.length = m → aJ X.K T w (gW vs zs) (gD ds es) ∧ (gD ds es).length + 1 = ps.length)
 (R : Rel X.K T B w σ H fr h) (rs : aJ X.K T w vs ds) (rz : aJ X.K T w zs es) (p : bz X.K T B W (vE X.K T B σ) w σ (if ds.length = n ∧ es.length = m then v4 fr (F (gD ds es) h) else .err) Q) :
 vs.length = n ∧ zs.length = m ∧ ∀ x dx, H x = none → H dx = none → dx ≠ x → spI X.K T c ps.length F (gV (.ref x :: vs) zs) (upd (upd H dx (.own x)) x (.ins (T.cad c) dx [])) (fun v H2 => v = .non ∧ Q (.ref x) H2) (fun c d H' => W c d σ H') := by
 by_cases hl : ds.length = n ∧ es.length = m
 · rw [if_pos hl] at p
   obtain ⟨r2, l2⟩ := hg w vs zs ds es rs rz hl.1 hl.2
   refine ⟨rs.length.trans hl.1, rz.length.trans hl.2, fun x dx nx nd ne => ?_⟩
   rw [hv _ _ _ (rs.length.trans hl.1) (rz.length.trans hl.2)]
   exact adR R r2 l2 nx nd ne p
 · rw [if_neg hl] at p
   exact p.elim
theorem aa6 (C : Cq X T W k) (F0 : FnI X.prog X.w X.K X.mg X.base T kk c f fd ps F) (hk : kk + 1 ≤ k) (bn : BnI X.K T fd ps n [] gD) (hm : X.mg x = some (.ref (T.cad c))) (sa : CQ X T W (e :: es) ma) (hg : Gl X x := by rfl) (hdb : (x == ("__debug__" : Str)) = false := by decide)
 (he : starEach (e :: es) X.env = (false, eval e X.env) :: starEach es X.env := by exact uD rfl) (hpl : (backTo pos (starEach es X.env)).any (·.1) = false := by rfl) : zR X T W (.Call (.Name x p) (e :: es) [] pos) (bD n 0 F gD ma (aa [])) := fun B w σ H fr h Q R pp => WE.mk <| fun pins s I => by
 obtain ⟨g, gV, gW, hb, hv, hgD⟩ := bn.ex
 refine wpAny_Call_Name_kw (ld_glob I hg hm ?_ hdb)
 refine PySem.W.callWith_K (h₀ := X.base) I.ok.mod.kin F0.made.kp (thn ((sa B w σ H fr h _ R (bz.bind (VR := vA X.K T B σ) pp fun ds fr1 h1 w1 H1 vs e1 l1 r1 rs p1 => adS (c := c) hv hgD r1 rs .nil p1)).go pos pins s I) fun us s1 ⟨vs, H1, I1, r, q⟩ => ⟨I1.kIn, ?_⟩) he hpl
 exact run_mk (ws := []) F0.made F0.ok (C.room.mono hk) hb C.takes I1 r .nil q.1 rfl q.2.2
theorem GJ {α : Type} {f : Str} : ∀ {fs : List Str} {vs : List α}, f ∉ fs → (fs.zip vs).lookup f = none
 | [], _, _ => rfl
 | g :: fs, [], _ => by simp
 | g :: fs, v :: vs, h => by
   rw [alC, not_or] at h
   show alu f ((g, v) :: fs.zip vs) = none
   rw [List.lookup_cons, beq_eq_false_iff_ne.mpr h.1]
   exact GJ h.2
structure Lh (X : Cx) (T : Tb) (k : Nat) (m : Str) (mt : Nat → Option Fn) (n : Nat) (ks : List Str) (gD : List D → List D → List D) : Prop where
 ex : ∀ c F, mt c = some F → ∃ (kk : Nat) (f : Addr) (fd : FuncData) (ps : List Str), Cls X.K (T.cad c) ∧ Meth X.K (T.cad c) m f ∧ v7 X.prog X.w X.K X.mg X.base T kk f fd ps F ∧ Bn X.K T fd ps (n + 1) ks gD ∧ m ∉ T.fld c ∧ kk ≤ k
def fnOf (mt : Nat → Option Fn) (h : Hh) (o : D) : Option Fn := match o.ins h with
 | some (c, _) => mt c
 | none => none
def ux (n m : Nat) (mt : Nat → Option Fn) (gD : List D → List D → List D) (mo : M D) (ma mk : M (List D)) : M D := mo.bind fun o fr h => match fnOf mt h o with
 | some F => (bD (n + 1) m F gD (ma.bind fun ds => M.ret (o :: ds)) mk) fr h
 | none => .err
theorem Xp {B : Bs} {w : Wd} {σ : L2.St} {H : Hp} {fr : Fr} {h : Hh} {mt : Nat → Option Fn} {v : V} {d : D} {G : Fn} (M : Lh X T k m mt n ks gD) (R : Rel X.K T B w σ H fr h) (rv : sS X.K T w v d) (e : fnOf mt h d = some G) :
 ∃ (kk : Nat) (f : Addr) (fd : FuncData) (ps : List Str) (a C dx : Addr) (fs : List (Str × V)), v = .ref a ∧ H a = some (.ins C dx fs) ∧ fs.lookup m = none ∧ Cls X.K C ∧ Meth X.K C m f ∧ v7 X.prog X.w X.K X.mg X.base T kk f fd ps G ∧ Bn X.K T fd ps (n + 1) ks gD ∧ kk ≤ k := by
 unfold fnOf at e
 split at e
 · rename_i c fs ei
   obtain ⟨kk, f, fd, ps, c1, c2, c3, c4, c5, c6⟩ := M.ex c G e
   obtain ⟨a, dx, vs, rfl, eH, rs⟩ := RM R (.inl rv) ei
   exact ⟨kk, f, fd, ps, a, T.cad c, dx, _, rfl, eH, GJ c5, c1, c2, c3, c4, c6⟩
 · cases e
theorem HQ {pl : Sem Bool} {mt : Nat → Option Fn} (C : Cq X T W k) (Mf : Lh X T k m mt n [] gD) (so : cP X T W o mo) (sa : CQ X T W (e :: es) ma)
 (hst : starEach (e :: es) X.env = (false, eval e X.env) :: starEach es X.env := by exact uD rfl) (hpl : (backTo pos (starEach es X.env)).any (·.1) = false := by rfl)
 (ht : eval (.Call (.Attribute o m apos) (e :: es) [] pos) X.env = (do
  let ov ← eval o X.env
  standAt apos.atName
  let (f, first) ← holding [ov] (getMethod ov m pl)
  callWith pos f first (backTo pos (starEach (e :: es) X.env)) (backToKw pos (keywordEach [] X.env))) := by rfl) :
 zR X T W (.Call (.Attribute o m apos) (e :: es) [] pos) (ux n 0 mt gD mo ma (aa [])) := fun B w σ H fr h Q R pp => WE.mk <| fun pins s I => by
 refine PySem.W.methodCall_KW (pl := pl) (thn ((so B w σ H fr h (fun v H1 => ∃ (kk : Nat) (f : Addr) (fd : FuncData) (ps : List Str) (a C dx : Addr) (fs : List (Str × V)) (G : Fn), v = .ref a ∧ H1 a = some (.ins C dx fs) ∧ fs.lookup m = none ∧ Cls X.K C ∧ Meth X.K C m f ∧ v7 X.prog X.w X.K X.mg X.base T kk f fd ps G ∧ Bn X.K T fd ps (n + 1) [] gD ∧ kk ≤ k ∧
  ∀ g gV, KBn X.K fd ps (n + 1) [] g gV → (∀ (w : Wd) (vs zs : List V) (ds es : List D), aJ X.K T w vs ds → aJ X.K T w zs es → ds.length = n + 1 → es.length = ([] : List Str).length → aJ X.K T w (gV vs zs) (gD ds es) ∧ (gD ds es).length = ps.length) →
    WA X (e :: es) σ H1 fun vs H2 => (.ref a :: vs).length = n + 1 ∧ spF X.K T ps.length G (gV (.ref a :: vs) []) H2 Q (fun c d H' => W c d σ H')) R (bz.bind (VR := vV X.K T B σ) pp fun d fr1 h1 w1 H1 v e1 l1 r1 rv p1 => ?_)).go pins s I) fun u s1 ⟨x, H1, I1, rx, kk, f, fd, ps, a, Cl, dx, fs, G, ex, ea, l, c1, c2, c3, c4, c5, q⟩ => ?_) ht
 · have p1' : bz X.K T B W (vE X.K T B σ) w1 σ (match fnOf mt h1 d with | some F => (bD (n + 1) 0 F gD (ma.bind fun ds => M.ret (d :: ds)) (aa [])) fr1 h1 | none => .err) Q := p1
   cases ef : fnOf mt h1 d with
   | none => rw [ef] at p1'; exact p1'.elim
   | some G =>
     rw [ef] at p1'
     obtain ⟨kk, f, fd, ps, a, Cl, dx, fs, rfl, eH, l, c1, c2, c3, c4, c5⟩ := Xp Mf r1 rv ef
     refine ⟨kk, f, fd, ps, a, Cl, dx, fs, G, rfl, eH, l, c1, c2, c3, c4, c5, fun g gV hb hgD => ?_⟩
     have p2 : bz X.K T B W (vE X.K T B σ) w1 σ ((ma.bind fun ds fr h => if (d :: ds).length = n + 1 ∧ ([] : List D).length = 0 then v4 fr (G (gD (d :: ds) []) h) else .err) fr1 h1) Q := by
      have ee : (bD (n + 1) 0 G gD (ma.bind fun ds => M.ret (d :: ds)) (aa [])) fr1 h1 = (ma.bind fun ds fr h => if (d :: ds).length = n + 1 ∧ ([] : List D).length = 0 then v4 fr (G (gD (d :: ds) []) h) else .err) fr1 h1 := by
       unfold bD M.bind
       cases ma fr1 h1 <;> rfl
      rw [← ee]
      exact p1'
     refine sa B w1 σ H1 fr1 h1 _ r1 (bz.bind (VR := vA X.K T B σ) p2 fun ds fr2 h2 w2 H2 vs e2 l2 r2 rs p3 => ?_)
     have q := NP (n := n + 1) (m := 0) (zs := []) (es := []) hgD r2 (.cons (rv.mono l2) rs) .nil p3
     exact ⟨q.1, q.2.2⟩
 · subst ex
   obtain rfl : u = Value.ref a := rx
   obtain ⟨g, gV, hb, hgD⟩ := c4.ex
   refine getmeth_ok I1 ea c1 c2 l ?_
   refine PySem.W.callWith_K (first := [.ref a]) (h₀ := X.base) I.ok.mod.kin c2.kp (thn ((q g gV hb hgD).go pos pins s1 I1) fun us s2 ⟨vs, H2, I2, r, q2⟩ => ⟨I2.kIn, ?_⟩) hst hpl
   exact Wl (us := .ref a :: us) (ws := []) (vs := .ref a :: vs) c3.ok (C.room.mono c5) hb C.takes I2 (.cons rfl r) .nil q2.1 rfl q2.2
theorem xg {pl : Sem Bool} {mt : Nat → Option Fn} (C : Cq X T W k) (Mf : Lh X T k m mt 0 [] gD) (so : cP X T W o mo)
 (ht : eval (.Call (.Attribute o m apos) [] [] pos) X.env = (do
  let ov ← eval o X.env
  standAt apos.atName
  let (f, first) ← holding [ov] (getMethod ov m pl)
  callWith pos f first (backTo pos (starEach [] X.env)) (backToKw pos (keywordEach [] X.env))) := by rfl) :
 zR X T W (.Call (.Attribute o m apos) [] [] pos) (ux 0 0 mt gD mo (aa []) (aa [])) := fun B w σ H fr h Q R pp => WE.mk <| fun pins s I => by
 refine PySem.W.methodCall_KW (pl := pl) (thn ((so B w σ H fr h (fun v H1 => ∃ (kk : Nat) (f : Addr) (fd : FuncData) (ps : List Str) (a C dx : Addr) (fs : List (Str × V)) (G : Fn), v = .ref a ∧ H1 a = some (.ins C dx fs) ∧ fs.lookup m = none ∧ Cls X.K C ∧ Meth X.K C m f ∧ v7 X.prog X.w X.K X.mg X.base T kk f fd ps G ∧ Bn X.K T fd ps (0 + 1) [] gD ∧ kk ≤ k ∧
  ∀ g gV, KBn X.K fd ps (0 + 1) [] g gV → (∀ (w : Wd) (vs zs : List V) (ds es : List D), aJ X.K T w vs ds → aJ X.K T w zs es → ds.length = 0 + 1 → es.length = ([] : List Str).length → aJ X.K T w (gV vs zs) (gD ds es) ∧ (gD ds es).length = ps.length) →
    spF X.K T ps.length G (gV [.ref a] []) H1 Q (fun c d H' => W c d σ H')) R (bz.bind (VR := vV X.K T B σ) pp fun d fr1 h1 w1 H1 v e1 l1 r1 rv p1 => ?_)).go pins s I) fun u s1 ⟨x, H1, I1, rx, kk, f, fd, ps, a, Cl, dx, fs, G, ex, ea, l, c1, c2, c3, c4, c5, q⟩ => ?_) ht
 · have p1' : bz X.K T B W (vE X.K T B σ) w1 σ (match fnOf mt h1 d with | some F => (bD (0 + 1) 0 F gD ((aa []).bind fun ds => M.ret (d :: ds)) (aa [])) fr1 h1 | none => .err) Q := p1
   cases ef : fnOf mt h1 d with
   | none => rw [ef] at p1'; exact p1'.elim
   | some G =>
     rw [ef] at p1'
     obtain ⟨kk, f, fd, ps, a, Cl, dx, fs, rfl, eH, l, c1, c2, c3, c4, c5⟩ := Xp Mf r1 rv ef
     refine ⟨kk, f, fd, ps, a, Cl, dx, fs, G, rfl, eH, l, c1, c2, c3, c4, c5, fun g gV hb hgD => ?_⟩
     exact (NP (n := 0 + 1) (m := 0) (zs := []) (es := []) (ds := [d]) hgD r1 (.cons rv .nil) .nil p1').2.2
 · subst ex
   obtain rfl : u = Value.ref a := rx
   obtain ⟨g, gV, hb, hgD⟩ := c4.ex
   refine getmeth_ok I1 ea c1 c2 l ?_
   exact PySem.W.callWith_K0 (first := [.ref a]) I1.kIn c2.kp (Wl (us := [.ref a]) (ws := []) (vs := [.ref a]) c3.ok (C.room.mono c5) hb C.takes I1 (.cons rfl .nil) .nil rfl rfl (q g gV hb hgD))
structure afc (X : Cx) (T : Tb) (k : Nat) (m : Str) (mt : Nat → Option Fn) : Prop where
 ex : ∀ c F, mt c = some F → ∃ (kk : Nat) (pa f : Addr) (fd : FuncData) (ps : List Str), Cls X.K (T.cad c) ∧ PropOf X.K (T.cad c) m pa f ∧ v7 X.prog X.w X.K X.mg X.base T kk f fd ps F ∧ Binds X.K fd ps [] ∧ ps.length = 1 ∧ kk + 1 ≤ k
def IV (mt : Nat → Option Fn) (mo : M D) : M D := mo.bind fun o fr h => match fnOf mt h o with
 | some F => match F [o] h with
   | .ok d _ h => .ok d fr h
   | _ => .err
 | none => .err
theorem aaH {X : Cx} : Passes (L2.CX X.prog X.w) X.nox (fun _ _ _ => False) := fun pins σ H s e s' I c => by
 obtain ⟨a, B, H', cls, d, rfl, fl, hok, ub, na, os, ag, hE⟩ := c
 exact hE.elim
theorem Wm {mt : Nat → Option Fn} (C : Cq X T W k) (M : afc X T k m mt) (so : cP X T W o mo) (hab : attributeBase o m X.env (eval o X.env) = eval o X.env := by rfl) : zR X T W (.Attribute o m pos) (IV mt mo) := fun B w σ H fr h Q R pp => WE.mk <| fun pins s I => by
 refine attr_of hab (thn ((so B w σ H fr h (fun v H1 => ∃ (kk : Nat) (pa f : Addr) (fd : FuncData) (ps : List Str) (a C dx : Addr) (fs : List (Str × V)) (G : Fn), v = .ref a ∧ H1 a = some (.ins C dx fs) ∧ Cls X.K C ∧ PropOf X.K C m pa f ∧ v7 X.prog X.w X.K X.mg X.base T kk f fd ps G ∧ Binds X.K fd ps [] ∧ kk + 1 ≤ k ∧ spF X.K T ps.length G [.ref a] H1 Q (fun _ _ _ => False))
  R (bz.bind (VR := vV X.K T B σ) pp fun d fr1 h1 w1 H1 v e1 l1 r1 rv p1 => ?_)).go pins s I) fun u s1 ⟨x, H1, I1, rx, kk, pa, f, fd, ps, a, Cl, dx, fs, G, ex, ea, c1, c2, c3, c4, c5, q⟩ => ?_)
 · have p1' : bz X.K T B W (vE X.K T B σ) w1 σ (match fnOf mt h1 d with | some F => (match F [d] h1 with | .ok d _ h => .ok d fr1 h | _ => .err) | none => .err) Q := p1
   cases ef : fnOf mt h1 d with
   | none => rw [ef] at p1'; exact p1'.elim
   | some G =>
     rw [ef] at p1'
     have ei : ∃ c fs, d.ins h1 = some (c, fs) ∧ mt c = some G := by
      unfold fnOf at ef
      split at ef
      · rename_i c fs ei
        exact ⟨c, fs, ei, ef⟩
      · cases ef
     obtain ⟨c, fs, ei, em⟩ := ei
     obtain ⟨kk, pa, f, fd, ps, c1, c2, c3, c4, c5, c6⟩ := M.ex c G em
     obtain ⟨a, dx, vs, rfl, eH, rs⟩ := RM r1 (.inl rv) ei
     refine ⟨kk, pa, f, fd, ps, a, T.cad c, dx, _, G, rfl, eH, c1, c2, c3, c4, c6, ?_⟩
     have z := RN (W := WF) (n := ps.length) (F := G) (Q := Q) r1 (.cons rv .nil) (show [d].length = ps.length from c5.symm) (by
      dsimp only at p1'
      cases e : G [d] h1 with
      | ok d' fr' h' => rw [e] at p1'; exact p1'
      | exc _ _ _ => rw [e] at p1'; exact p1'.elim
      | err => rw [e] at p1'; exact p1'.elim)
     exact z
 · subst ex
   obtain rfl : u = Value.ref a := rx
   exact getprop_ok (dvs := []) I1 ea c1 c2 c3.ok (C.room.mono c5) c4 .nil aaH q
end
end Pk
namespace Pk
open PySem PySem.Spec L2
section
variable {X : Cx} {T : Tb} {W : WX} {k c : Nat} {x : Str} {pos : Pos}
theorem agW (hm : X.mg x = some (.ref (T.cad c))) (hg : Gl X x := by rfl) (hd : (x == ("__debug__" : Str)) = false := by decide) : cP X T W (.Name x pos) (mC (.cls c)) := fun B w σ H fr h Q r p =>
 vm (pe_glob (v := .ref (T.cad c)) hg hm rfl hd) (p w H _ (Wd.le_refl _) r (.cls c))
theorem afd {t : String} (hm : X.mg x = none) (hg : Gl X x := by rfl) (hv : bootBuiltins x = some (.type t) := by decide +kernel) (hn : x ≠ "__name__" := by decide) (hd : (x == ("__debug__" : Str)) = false := by decide) : cP X T W (.Name x pos) (mC (.ty t)) := fun B w σ H fr h Q r p =>
 vm (pe_bltn (v := .ty t) hg hm hv rfl hn hd) (p w H _ (Wd.le_refl _) r (.ty t))
structure Qe (X : Cx) (T : Tb) (x : Str) (d : D) : Prop where
 ex : ∃ (u : Value) (v : V), X.mg x = some u ∧ RelV v u ∧ sS X.K T ⟨fun _ => none, []⟩ v d
theorem Wd.le_bot (w : Wd) : Wd.le ⟨fun _ => none, []⟩ w := by
 refine ⟨fun a o q => ?_, w.I, rfl⟩
 have q' : (none : Option HO) = some o := q
 cases q'
theorem Ji {d : D} (F : Qe X T x d) (hg : Gl X x := by rfl) (hd : (x == ("__debug__" : Str)) = false := by decide) : cP X T W (.Name x pos) (mC d) := fun B w σ H fr h Q r p => by
 obtain ⟨u, v, hm, ru, rd⟩ := F.ex
 exact vm (pe_glob hg hm ru hd) (p w H _ (Wd.le_refl _) r (rd.mono (Wd.le_bot w)))
end
inductive Tg where
 | b (t : String) | o (c : Nat)
 deriving DecidableEq
def Tg.v (T : Tb) : Tg → Value
 | .b t => .type t
 | .o c => .ref (T.cad c)
def D.tag (h : Hh) (d : D) : Option Tg := match d.der h with
 | .non => some (.b "NoneType")
 | .bl _ => some (.b "bool")
 | .int _ => some (.b "int")
 | .str _ => some (.b "str")
 | .tup _ => some (.b "tuple")
 | .fl _ => some (.b "list")
 | .nl _ => some (.b "list")
 | .kl _ => some (.b "list")
 | .obj c _ => some (.o c)
 | .no c _ => some (.o c)
 | _ => none
def D.ctag : D → Option Tg
 | .ty t => some (.b t)
 | .cls c => some (.o c)
 | _ => none
structure abJ (K : PySem.W.Frag) (C : Addr) : Prop where
 cls : Cls K C
 ha : PySem.W.findIn K (.ref C) "__class__" = some (some (.builtin "object.__class__"))
 hn : PySem.W.specialIn K (.builtin "object.__class__") "__get__" = some (some (.builtin "getset_descriptor.__get__"))
 htk : PySem.W.takesIn K (.builtin "object.__class__") = some true
 hm : PySem.W.mroIn K C (.type "object") = some true
structure Wn (K : PySem.W.Frag) (T : Tb) (tab : Tg → Tg → Option Bool) : Prop where
 kit : ∀ t u b, tab t u = some b → PySem.W.kitOne K (t.v T) (u.v T) = some b
 ins : ∀ c u b, tab (.o c) u = some b → abJ K (T.cad c)
def NQ : List String := ["NoneType", "bool", "int", "str", "tuple", "list"]
def Za (a b : String) : Option Bool := if NQ.contains a && NQ.contains b then some (a == b || (a == "bool" && b == "int")) else none
theorem afN : ∀ a b r, Za a b = some r → kitB a b = some r := by
 have key : ∀ a ∈ NQ, ∀ b ∈ NQ, kitB a b = Za a b := by decide +kernel
 intro a b r h
 unfold Za at h
 split at h
 · rename_i hh
   obtain ⟨h1, h2⟩ := Bool.and_eq_true_iff.mp hh
   rw [key a (List.contains_iff_mem.mp h1) b (List.contains_iff_mem.mp h2)]
   unfold Za
   rw [if_pos hh]
   exact h
 · cases h
def Lj : List D → Option (List Tg)
 | [] => some []
 | d :: ds => match d.ctag, Lj ds with
   | some u, some us => some (u :: us)
   | _, _ => none
def Ko (tab : Tg → Tg → Option Bool) (t : Tg) : List Tg → Option Bool
 | [] => some false
 | u :: us => match tab t u with
   | some true => some true
   | some false => Ko tab t us
   | none => none
def Jw (tab : Tg → Tg → Option Bool) (h : Hh) (d c : D) : Option D := match d.tag h with
 | some t => match c with
   | .tup l => match Lj l with
     | some (u :: us) => (Ko tab t (u :: us)).map .bl
     | _ => none
   | c => match c.ctag with
     | some u => (tab t u).map .bl
     | none => none
 | none => none
section
variable {X : Cx} {T : Tb} {W : WX} {k : Nat} {pos pf : Pos} {a b : Expr} {ma mb : M D} {tab : Tg → Tg → Option Bool}
theorem Ul {K : PySem.W.Frag} {w : Wd} {v : V} {d : D} {u : Tg} (r : sS K T w v d) (e : d.ctag = some u) : ClsV v (u.v T) := by
 cases r <;> cases e
 · exact .own _
 · exact .ty _
theorem RP {K : PySem.W.Frag} {B : Bs} {w : Wd} {σ : L2.St} {H : Hp} {fr : Fr} {h : Hh} {v : V} {d : D} {t u : Tg} {bb : Bool} (F : Wn K T tab) (R : Rel K T B w σ H fr h) (rv : vO K T B σ w H fr v d) (e : d.tag h = some t) (e2 : tab t u = some bb) : TyX K H v (t.v T) := by
 have sqT : ∀ {a : Addr} {vs : List V}, SqT K H a vs → TyX K H (.ref a) (.type "tuple") := fun {a vs} q => by
  rcases q with (q | ⟨o, q⟩) | ⟨o, its, n, q1, q2, _⟩
  · exact .base (.tup q)
  · exact .fTuple q
  · exact .kTuple q1 q2
 have sqL : ∀ {a : Addr} {vs : List V}, SqL K H a vs → TyX K H (.ref a) (.type "list") := fun {a vs} q => by
  rcases q with (q | ⟨o, q⟩) | ⟨o, its, n, q1, q2, _⟩
  · exact .base (.lst q)
  · exact .base (.frz q)
  · exact .kList q1 q2
 have ins : ∀ {c : Nat} {a dx : Addr} {fs : List (Str × V)}, tab (.o c) u = some bb → H a = some (.ins (T.cad c) dx fs) → TyX K H (.ref a) (.ref (T.cad c)) := fun {c a dx fs} q eH => by
  have i := F.ins c u bb q
  exact .base (.ins eH i.cls i.ha i.hn i.htk i.hm)
 rcases rv with rv | ⟨p, o, rfl, eH, rv⟩
 · cases rv with
   | non => cases e; exact .base .non
   | bl b => cases e; exact .base (.bl b)
   | int i => cases e; exact .base (.int i)
   | str s => cases e; exact .base (.str s)
   | tup s r => cases e; exact sqT (wZ R.sub s)
   | fl s r => cases e; exact .base (.lst (R.sub _ _ s))
   | kl s r => cases e; exact sqL (BW R.sub s)
   | obj s r => cases e; exact ins e2 (R.sub _ _ s)
   | @ref a n s =>
     have ln : n < h.length := by
      rw [← R.len]
      exact (List.getElem?_eq_some_iff.mp s).1
     obtain ⟨o, q, rr⟩ := R.cel n a h[n] s (alv ln)
     have e0 : D.der h (.ref n) = h[n] := by
      unfold D.der
      dsimp only
      rw [alv ln]
      rfl
     unfold D.tag at e
     rw [e0] at e
     generalize h[n] = cc at rr e
     cases rr with
     | lst r => cases e; exact .base (.lst q)
     | obj r => cases e; exact ins e2 q
     | dct _ r => cases e
     | dkt _ r => cases e
   | cls _ => cases e
   | ty _ => cases e
   | sl _ => cases e
 · cases rv with
   | lst r => cases e; exact .base (.lst eH)
   | obj r => cases e; exact ins e2 eH
theorem Qg {K : PySem.W.Frag} {w : Wd} : ∀ {vs : List V} {ds : List D} {us : List Tg}, aJ K T w vs ds → Lj ds = some us → Paired ClsV vs (us.map (Tg.v T))
 | _, _, _, .nil, e => by cases e; exact .nil
 | _, _, _, @aJ.cons _ _ _ v d vs ds r rr, e => by
   unfold Lj at e
   cases e1 : d.ctag with
   | none => rw [e1] at e; cases e
   | some u =>
     cases e2 : Lj ds with
     | none => rw [e1, e2] at e; cases e
     | some us =>
       rw [e1, e2] at e
       cases e
       exact .cons (Ul r e1) (Qg rr e2)
theorem NT {K : PySem.W.Frag} {t : Tg} {bb : Bool} (F : Wn K T tab) : ∀ {us : List Tg}, Ko tab t us = some bb → PySem.W.kitAny K (t.v T) (us.map (Tg.v T)) = some bb
 | [], e => by cases e; exact kitAny_nil
 | u :: us, e => by
   unfold Ko at e
   cases et : tab t u with
   | none => rw [et] at e; cases e
   | some b1 =>
     rw [et] at e
     cases b1 with
     | false => exact kitAny_cons (F.kit t u false et) (fun _ => NT F e) (fun z => by cases z)
     | true =>
       cases e
       exact kitAny_cons (F.kit t u true et) (fun z => by cases z) (fun _ => rfl)
theorem TQ {t : Tg} {bb : Bool} {us : List Tg} (e : Ko tab t us = some bb) : us = [] ∨ ∃ u b, tab t u = some b := by
 cases us with
 | nil => exact .inl rfl
 | cons u us =>
   right
   unfold Ko at e
   cases et : tab t u with
   | none => rw [et] at e; cases e
   | some b => exact ⟨u, b, et⟩
theorem Xq : CallR X (.builtin "isinstance") (fun xs H Q => ∃ (x : V) (tp : Addr) (cs : List V) (t : Value) (us : List Value) (b : Bool), xs = [x, .ref tp] ∧ SqT X.K H tp cs ∧ Paired ClsV cs us ∧ TyX X.K H x t ∧ PySem.W.kitAny X.K t us = some b ∧ Q (.bl b) H) := by
 intro pins s σ H xs us Q I r h
 obtain ⟨x, tp, cs, t, ws, b, rfl, hT, k, ty, e, q⟩ := h
 obtain ⟨u1, u2, rfl, r1, r2⟩ := vals2 r
 cases (show u2 = Value.ref tp from r2)
 obtain ⟨P, Z, p, hx⟩ := kit_of I r1 ty
 obtain ⟨its, rv, pl, _⟩ := I.tuple hT
 obtain ⟨o, h1, h2, n, h3⟩ := pl
 have e3 := ClsV.all k rv
 subst e3
 obtain ⟨oc, od, dt, sl⟩ := o
 simp only at h2 h3
 subst h2 h3
 exact PySem.W.kia_tup Z I.kIn p h1 e hx fun tk => ⟨.bl b, H, I.tok tk, rfl, q⟩
theorem ac3 (F : Wn X.K T tab) (sa : cP X T W a ma) (sb : cP X T W b mb) (hm : X.mg "isinstance" = none) (hg : Gl X "isinstance" := by rfl) (he : starEach (a :: b :: []) X.env = (false, eval a X.env) :: starEach (b :: []) X.env := by exact uD rfl) (he2 : starEach (b :: []) X.env = (false, eval b X.env) :: starEach [] X.env := by exact uD rfl)
 (hpl : (backTo pos (starEach (b :: []) X.env)).any (·.1) = false := by rfl) : cP X T W (.Call (.Name "isinstance" pf) [a, b] [] pos) (bf (Jw tab) ma mb) :=
 adP (id := "isinstance") sa sb (fun B w σ H fr h x y d e z Q R rx ry q kk => by
  have ry : sS X.K T w y e := ry
  unfold Jw at q
  cases et : d.tag h with
  | none => rw [et] at q; cases q
  | some t =>
    rw [et] at q
    have one : ∀ u, e.ctag = some u → (tab t u).map D.bl = some z → cM X (.builtin "isinstance") [x, y] H Q := fun u ec eq => by
     obtain ⟨bb, eb, rfl⟩ := Option.map_eq_some_iff.mp eq
     exact yj call_isi ⟨x, y, t.v T, u.v T, bb, rfl, Ul ry ec, RP F R (.inl rx) et eb, F.kit t u bb eb, kk w H _ (Wd.le_refl _) R (.bl bb)⟩
    cases e with
    | tup l =>
      dsimp only at q
      cases ec : Lj l with
      | none => rw [ec] at q; cases q
      | some us =>
        rw [ec] at q
        cases us with
        | nil => cases q
        | cons u us =>
          obtain ⟨bb, eb, rfl⟩ := Option.map_eq_some_iff.mp q
          obtain ⟨p, vs, rfl, sq, rs⟩ := JW ry
          have ty : TyX X.K H x (t.v T) := by
           rcases TQ eb with z | ⟨u', b', z⟩
           · cases z
           · exact RP F R (.inl rx) et z
          exact yj Xq ⟨x, p, vs, t.v T, (u :: us).map (Tg.v T), bb, rfl, wZ R.sub sq, Qg rs ec, ty, NT F eb, kk w H _ (Wd.le_refl _) R (.bl bb)⟩
    | cls c => exact one _ rfl q
    | ty t => exact one _ rfl q
    | _ => cases q) hm hg (by decide +kernel) (by decide) (by decide) he he2 hpl
end
end Pk
namespace Pk
open PySem PySem.Spec L2
structure PD where
 adr : PySem.W.Frag → Addr
 name : Str
 qual : Str
 params : Arguments
 body : List Stmt
 scope : Scope
 dfl : List He.Dv
 kwd : List (Str × He.Dv)
 /-- an __init__ that says super() -/
 clo : Bool
def Zb (K : PySem.W.Frag) (a : Addr) : He.FnW := match K.lookup a with
 | some ⟨_, _, .func fd, _⟩ => some (fd.name, fd.qualname, fd.params, fd.body, fd.scope, fd.globals, fd.closure.map (fun q => (q.1, 0)), fd.builtins)
 | _ => none
def PD.val (d : PD) : He.FnW := some (d.name, d.qual, d.params, .stmts d.body, d.scope, mainGlobals, if d.clo then [("__class__", 0)] else [], builtinsNs)
def PD.dvs (K : PySem.W.Frag) (d : PD) : List V := d.dfl.map (He.Dv.v K)
def PD.kws (K : PySem.W.Frag) (d : PD) : List (Str × V) := d.kwd.map fun q => (q.1, q.2.v K)
def PD.ok (K : PySem.W.Frag) (d : PD) : Bool := PySem.W.keepIn K (.ref (d.adr K)) && (match K.lookup (d.adr K) with
 | some ⟨_, _, .func fd, _⟩ => PySem.W.codeIn K fd.code d.qual && (He.dflB K fd.defaults (d.dvs K) && He.kwdB K fd.kwdefaults (d.kws K))
 | _ => false)
theorem PD.funD {K : PySem.W.Frag} {d : PD} (hc : d.clo = false) (e : Zb K (d.adr K) = d.val) (c : d.ok K = true) : ∃ fd, FunD K d.name d.qual d.params d.body d.scope (d.dvs K) (d.kws K) (d.adr K) fd := by
 obtain ⟨kp, c2⟩ := He.ba c
 unfold Zb at e
 cases q : K.lookup (d.adr K) with
 | none =>
   rw [q] at c2
   cases c2
 | some o =>
   obtain ⟨oc, od, dt, osl⟩ := o
   rw [q] at c2 e
   cases dt with
   | func fd =>
     obtain ⟨n1, n2, n3, n4, n5, n6, n7, n8, n9, n10, n11, n12, n13, n14, n15⟩ := fd
     unfold PD.val at e
     rw [hc] at e
     have e2 : (some (n1, n2, n3, n4, n5, n6, n7.map (fun q => (q.1, 0)), n15) : He.FnW) = some (d.name, d.qual, d.params, .stmts d.body, d.scope, mainGlobals, [], builtinsNs) := e
     simp only [Option.some.injEq, Prod.mk.injEq, List.map_eq_nil_iff] at e2
     obtain ⟨h1, h2, h3, h4, h5, h6, h7, h8⟩ := e2
     subst h1 h2 h3 h4 h5 h6 h7 h8
     have c3 : (PySem.W.codeIn K n13 d.qual && (He.dflB K n8 (d.dvs K) && He.kwdB K n9 (d.kws K))) = true := c2
     obtain ⟨k1, k2⟩ := He.ba c3
     obtain ⟨k3, k4⟩ := He.ba k2
     exact ⟨_, ⟨oc, od, n8, n9, n10, n11, n12, n13, n14, osl, rfl, q, k1, He.dflB_ok k3, He.kwdB_ok k4⟩, kp⟩
   | _ => cases c2
def pgA (K : PySem.W.Frag) (C : Addr) (f : Str) : Addr := match PySem.W.findIn K (.ref C) f with
 | some (some (.ref p)) => (match PySem.W.recIn K p "property" with
   | some (.ref g :: _) => g
   | _ => 0)
 | _ => 0
def kwA (a : PySem.W.Frag → Addr) (x : Str) (K : PySem.W.Frag) : Addr := match K.lookup (a K) with
 | some ⟨_, _, .func fd, _⟩ => (match fd.kwdefaults with
   | .ref d => (match PySem.W.nsIn K d x with
     | some (some (.ref b)) => b
     | _ => 0)
   | _ => 0)
 | _ => 0
def dfA (a : PySem.W.Frag → Addr) (i : Nat) (K : PySem.W.Frag) : Addr := match K.lookup (a K) with
 | some ⟨_, _, .func fd, _⟩ => (match fd.defaults with
   | .ref T => (match K.lookup T with
     | some ⟨_, _, .seq its _, _⟩ => (match its.toList[i]? with
       | some (.ref b) => b
       | _ => 0)
     | _ => 0)
   | _ => 0)
 | _ => 0
def abK (K : PySem.W.Frag) (a : Addr) (vs : List He.Dv) : Bool := match K.lookup a with
 | some ⟨.type c, _, .seq its _, _⟩ => decide (c = "tuple") && (decide (its.size ≤ sizeLine) && He.relAll (vs.map (He.Dv.v K)) its.toList)
 | _ => false
theorem RQ {K : PySem.W.Frag} {a : Addr} {vs : List He.Dv} (h : abK K a vs = true) (H : Hp) : SqT K H a (vs.map (He.Dv.v K)) := by
 unfold abK at h
 cases q : K.lookup a with
 | none =>
   rw [q] at h
   cases h
 | some o =>
   obtain ⟨oc, od, dt, osl⟩ := o
   rw [q] at h
   cases oc with
   | type c =>
     cases dt with
     | seq its n =>
       obtain ⟨h1, h2⟩ := He.ba (show (decide (c = "tuple") && (decide (its.size ≤ sizeLine) && He.relAll (vs.map (He.Dv.v K)) its.toList)) = true from h)
       obtain ⟨h3, h4⟩ := He.ba h2
       exact .inr ⟨_, its, n, q, congrArg Value.type (of_decide_eq_true h1), rfl, of_decide_eq_true h3, He.relAll_ok h4⟩
     | _ => cases h
   | _ => cases dt <;> cases h
inductive Fx where
 | he (f : He.Fa)
 | prop (x f : Str)
 | ins (x : Str)
 | kit (t u : Tg) (b : Bool)
 | tup (a : PySem.W.Frag → Addr) (vs : List He.Dv)
 | slf (x : Str)
 /-- an own error class whose __init__ says super(): its fields, the file -/
 | own (x file : Str) (fs : List Str)
 /-- an error class as isinstance wants it -/
 | exi (x : Str)
 /-- a class that is no kind of number -/
 | nsb (x : Str)
 /-- anything else that is to be seen -/
 | raw (p : PySem.W.Frag → Bool)
def Tbo (cn : Nat → Str) (fld : Nat → List Str) (K : PySem.W.Frag) : Tb := ⟨fun c => He.ga K (cn c), fld⟩
def aiU (K : PySem.W.Frag) (C : Addr) : Bool := match K.lookup C with
 | some ⟨.type "type", _, .cls cd, sl⟩ => (match cd.mro, sl.toList with
   | .ref C' :: bm, [_, _, _, _, some (.builtin n), _] => C' == C && (n == "ValueError.__new__" && (!cd.hasDel && (cd.hasDict && (PySem.HandSPX.refsVE bm && He.eqO (PySem.W.alongIn K "__init__" bm) (some (some (.builtin "ValueError.__init__")))))))
   | _, _ => false)
 | _ => false
def aiV (K : PySem.W.Frag) (C f : Addr) (file : Str) : Bool := match K.lookup f with
 | some ⟨_, _, .func fd, _⟩ => (match fd.closure, fd.defaults, fd.code with
   | [(_, cc)], .none, .ref cda => (match K.lookup cc with
       | some ⟨_, _, .cell (some (.ref a)), _⟩ => decide (a = C)
       | _ => false) && (PySem.W.codeIn K (.ref cda) fd.qualname && (match K.lookup cda with
       | some ⟨_, _, Data.fields vs, _⟩ => (match (vs[2]? : Option Value) with
         | some (.str fi _) => decide (fi = file)
         | _ => false)
       | _ => false))
   | _, _, _ => false)
 | _ => false
def aiW (K : PySem.W.Frag) (C f : Addr) (file : Str) (fs : List Str) : Bool :=
 aiU K C && (He.eqO (PySem.W.findIn K (.ref C) "__setattr__") (some (some (.builtin "object.__setattr__"))) && (He.eqO (PySem.W.findIn K (.ref C) "__init__") (some (some (.ref f))) && (decide (PySem.W.typeIn K (.ref f) = some (.type "function")) &&
  (decide (PySem.W.subIn K (.ref C) (.type "ValueError") = some true) && (decide (PySem.W.mroIn K C (.ref C) = some true) && (He.eqO (PySem.W.nsIn K cStatics "thirdparty.any") (some none) && (aiV K C f file && (fs.all (fun y => He.eqO (PySem.W.findIn K (.ref C) y) (some none)) &&
  (PySem.W.keepIn K (.ref C) && (decide (PySem.W.subIn K (.ref C) (.type "BaseException") = some true) && (decide (PySem.W.typeIn K (.ref C) = some (.type "type")) && (He.eqO (PySem.W.findIn K (.ref C) "__getattribute__") (some (some (.builtin "BaseException.__getattribute__"))) &&
  (He.eqO (PySem.W.findIn K (.ref C) "__getattr__") (some none) && PySem.W.hasDictIn K C)))))))))))))
def aiX (K : PySem.W.Frag) (C : Addr) : Bool :=
 He.eqO (PySem.W.findIn K (.ref C) "__getattribute__") (some (some (.builtin "BaseException.__getattribute__"))) && (He.eqO (PySem.W.findIn K (.ref C) "__getattr__") (some none) && (decide (PySem.W.subIn K (.ref C) (.type "BaseException") = some true) && (PySem.W.hasDictIn K C &&
  (He.eqO (PySem.W.findIn K (.ref C) "__class__") (some (some (.builtin "object.__class__"))) && (He.eqO (PySem.W.specialIn K (.builtin "object.__class__") "__get__") (some (some (.builtin "getset_descriptor.__get__"))) && (decide (PySem.W.takesIn K (.builtin "object.__class__") = some true) && decide (PySem.W.mroIn K C (.type "object") = some true)))))))
def Fx.ok (cn : Nat → Str) (K : PySem.W.Frag) : Fx → Bool
 | .he f => f.ok K
 | .prop x f => He.eqO (PySem.W.findIn K (.ref (He.ga K x)) f) (some (some (.ref (He.ma K (He.ga K x) f)))) && (He.eqO (PySem.W.specialIn K (.ref (He.ma K (He.ga K x) f)) "__get__") (some (some (.builtin "property.__get__"))) &&
  (decide (PySem.W.takesIn K (.ref (He.ma K (He.ga K x) f)) = some true) && (match PySem.W.recIn K (He.ma K (He.ga K x) f) "property" with
   | some (.ref g :: _) => decide (g = pgA K (He.ga K x) f)
   | _ => false)))
 | .ins x => (He.Fa.cls x).ok K && (He.eqO (PySem.W.findIn K (.ref (He.ga K x)) "__class__") (some (some (.builtin "object.__class__"))) && (He.eqO (PySem.W.specialIn K (.builtin "object.__class__") "__get__") (some (some (.builtin "getset_descriptor.__get__"))) &&
  (decide (PySem.W.takesIn K (.builtin "object.__class__") = some true) && decide (PySem.W.mroIn K (He.ga K x) (.type "object") = some true))))
 | .kit t u b => decide (PySem.W.kitOne K (t.v (Tbo cn (fun _ => []) K)) (u.v (Tbo cn (fun _ => []) K)) = some b)
 | .tup a vs => abK K (a K) vs
 | .slf x => PySem.W.selfFirst K (He.ga K x)
 | .nsb x => decide (PySem.W.subIn K (.ref (He.ga K x)) (.type "int") = some false) && decide (PySem.W.subIn K (.ref (He.ga K x)) (.type "bool") = some false)
 | .exi x => aiX K (He.ga K x)
 | .raw p => p K
 | .own x file fs => aiW K (He.ga K x) (He.ma K (He.ga K x) "__init__") file fs
section
variable {K : PySem.W.Frag} {cn : Nat → Str} {fld : Nat → List Str}
theorem ac5 {p : PySem.W.Frag → Bool} (c : (Fx.raw p).ok cn K = true) : p K = true := c
theorem afO {x f : Str} (c : (Fx.prop x f).ok cn K = true) : PropOf K (He.ga K x) f (He.ma K (He.ga K x) f) (pgA K (He.ga K x) f) := by
 obtain ⟨c1, c⟩ := He.ba c
 obtain ⟨c2, c⟩ := He.ba c
 obtain ⟨c3, c4⟩ := He.ba c
 refine ⟨He.eqO_ok c1, He.eqO_ok c2, of_decide_eq_true c3, ?_⟩
 split at c4
 · rename_i g rest e
   rw [e, of_decide_eq_true c4]
   exact ⟨rest, rfl⟩
 · cases c4
theorem EY {x : Str} (c : (Fx.ins x).ok cn K = true) : abJ K (He.ga K x) := by
 obtain ⟨c1, c⟩ := He.ba c
 obtain ⟨c2, c⟩ := He.ba c
 obtain ⟨c3, c⟩ := He.ba c
 obtain ⟨c4, c5⟩ := He.ba c
 exact ⟨He.cls_ok c1, He.eqO_ok c2, He.eqO_ok c3, of_decide_eq_true c4, of_decide_eq_true c5⟩
theorem Fd {t u : Tg} {b : Bool} (c : (Fx.kit t u b).ok cn K = true) : PySem.W.kitOne K (t.v (Tbo cn fld K)) (u.v (Tbo cn fld K)) = some b := by
 have h := of_decide_eq_true c
 cases t <;> cases u <;> exact h
end
abbrev AlP : Type := Bool × List He.FnW
def agY (cn : Nat → Str) (fa : List Fx) (fn : List PD) (K : PySem.W.Frag) : AlP := ((fa.all fun f => f.ok cn K) && fn.all fun d => d.ok K, fn.map fun d => Zb K (d.adr K))
def agZ (fn : List PD) : AlP := (true, fn.map PD.val)
def RW (cn : Nat → Str) (fa : List Fx) (fn : List PD) (K : PySem.W.Frag) : Prop := agY cn fa fn K = agZ fn
def ah3 (o : Obj) : List Addr := (match o.dict with
 | some d => [d]
 | none => []) ++ match o.data with
 | .seq its _ => its.toList.flatMap He.refV
 | .dict es _ => es.toList.flatMap fun e => He.refV e.val
 | .func fd => He.refV fd.code ++ (He.refV fd.defaults ++ (He.refV fd.kwdefaults ++ fd.closure.map (·.2)))
 | .cls cd => cd.ns :: (cd.mro.drop 1).flatMap He.refV
 | .fields vs => vs.toList.flatMap He.refV
 | .cell (some v) => He.refV v
 | _ => []
def asF (g : Addr → Option Obj) : Nat → List Addr → List Addr
 | 0, l => l
 | n + 1, l => l ++ asF g n (l.flatMap fun a => match g a with
   | some o => ah3 o
   | none => [])
def asP (g : Addr → Option Obj) (n : Nat) : List Addr := asF g n [mainGlobals] ++ [cStatics]
def obsPG (n : Nat) (cn : Nat → Str) (fa : List Fx) (fn : List PD) (g : Addr → Option Obj) : AlP := agY cn fa fn (He.frG g (asP g n))
def hookP (n : Nat) (cn : Nat → Str) (fa : List Fx) (fn : List PD) : PySem.W.Hook where
 α := AlP
 obs := fun s => obsPG n cn fa fn s.heap.get?
 val := fun _ => agZ fn
 says := fun _ h => ∃ K : PySem.W.Frag, K.In h ∧ RW cn fa fn K
 of := fun _ _ e => ⟨_, He.frG_in, e⟩
 keeps := fun _ _ _ ⟨K, hK, c⟩ k => ⟨K, PySem.W.Frag.In.keeps hK k, c⟩
theorem obsPG_eq {n : Nat} {cn : Nat → Str} {fa : List Fx} {fn : List PD} {g : Addr → Option Obj} {s : Shared} (h : ∀ a, g a = s.heap.get? a) : obsPG n cn fa fn g = (hookP n cn fa fn).obs s := by
 have e : g = s.heap.get? := funext h
 rw [e] <;> rfl
section
variable {cn : Nat → Str} {fa : List Fx} {fn : List PD} {K : PySem.W.Frag}
theorem RW.fact (c : RW cn fa fn K) (i : Nat) {f : Fx} (h : fa[i]? = some f := by rfl) : f.ok cn K = true := by
 have c1 := (He.ba (show ((fa.all fun f => f.ok cn K) && fn.all fun d => d.ok K) = true from congrArg (fun z : AlP => z.1) c)).1
 exact List.all_eq_true.mp c1 f (alB h)
theorem RW.def_ (c : RW cn fa fn K) (i : Nat) {d : PD} (h : fn[i]? = some d := by rfl) (hc : d.clo = false := by rfl) : ∃ fd, FunD K d.name d.qual d.params d.body d.scope (d.dvs K) (d.kws K) (d.adr K) fd := by
 have c2 := (He.ba (show ((fa.all fun f => f.ok cn K) && fn.all fun d => d.ok K) = true from congrArg (fun z : AlP => z.1) c)).2
 have e : fn.map (fun d => Zb K (d.adr K)) = fn.map PD.val := congrArg (fun z : AlP => z.2) c
 have e2 : (fn.map fun d => Zb K (d.adr K))[i]? = (fn.map PD.val)[i]? := by rw [e]
 rw [alF, alF, h] at e2
 exact PD.funD hc (Option.some.inj e2) (List.all_eq_true.mp c2 d (alB h))
end
theorem U8 {K : PySem.W.Frag} {T : Tb} {w : Wd} : ∀ ns : List Int, aJ K T w (ns.map V.int) (ns.map D.int)
 | [] => .nil
 | i :: r => .cons (.int i) (U8 r)
theorem law_sp {K : PySem.W.Frag} {T : Tb} {F : Fn} {H : Hp} {a : Addr} {ns : List Int} (hq : SqL K H a (ns.map V.int)) {fr : Fr} {h : Hh} (e : F [.kl (ns.map D.int)] [] = .ok (.bl true) fr h) : spF K T 1 F [.ref a] H (fun v _ => v = .bl true) (fun _ _ _ => False) := by
 refine ⟨⟨H, []⟩, [], [.kl (ns.map D.int)], ⟨Wd.le_refl _, fun _ q => .inl q, fun _ q => (by cases q), fun _ _ q _ => q, fun _ q => (by cases q), fun _ _ q => q, rfl, List.nodup_nil, fun _ q => (by cases q), fun _ _ _ q => (by simp at q), rfl, fun _ _ _ q => (by simp at q), fun _ _ _ _ q => (M4 q).elim, fun _ _ _ q _ => (by simp at q)⟩, .cons (.kl hq (U8 ns)) .nil, rfl, ?_⟩
 rw [e]
 intro w' H' v l R rv
 rcases rv with rv | ⟨p, o, _, _, _, _, r⟩
 · cases rv
   rfl
 · cases r
def pick {α : Type} (is : List Nat) (l : List α) : List α := is.filterMap fun i => l[i]?
def gKw {α : Type} (is : List Nat) (us mv ws : List α) : List α := us ++ pick is (ws ++ mv)
end Pk
namespace PySem
namespace EnT
abbrev itO (l : Addr) : Obj := { cls := .type "tuple_iterator", data := .fields #[.ref l, .int 0 0] }
abbrev enO (it : Addr) : Obj := { cls := .type "enumerate", data := .fields #[.none, .bool false, .ref it, rawInt 0, .none, .none] }
theorem Ry (l : Addr) (items : Array Value) (n : Nat) (dct : Option Addr) (sl : Array (Option Value)) :
 Meets (Builtin.«enumerate.__new__» ⟨[.type "enumerate", .ref l], []⟩) (fun _ R s => s.heap.get? l = some { cls := .type "tuple", dict := dct, data := .seq items n, slots := sl } ∧
  R (.ok (.ret (.ref (s.heap.push (itO l)).objs.size))) { s with heap := (s.heap.push (itO l)).push (enO s.heap.objs.size) }) := by
 refine .of_wp fun prog w A R s h => ?_
 obtain ⟨hp, g, d, tk, os⟩ := s
 obtain ⟨hl, h⟩ := h
 have hsub := sub_enumerate
 have hT : Heap.IsTuple (Shared.heap ⟨hp, g, d, tk, os⟩) l items := ⟨_, hl, rfl, n, rfl⟩
 wp_walk using AutoSeq1.wpAny_loadPart' hl
 refine wpAny_stack_any fun st => wpAny_pure ?_
 split
 · rename_i c _ _ _ _ _
   cases (c == Value.type "enumerate") <;> (wp_walk using AutoSeq1.wpAny_loadPart' hl, wpAny_pyIter_tuple hT; exact ⟨_, rfl, h⟩)
 · wp_walk using AutoSeq1.wpAny_loadPart' hl, wpAny_pyIter_tuple hT
   exact ⟨_, rfl, h⟩
section
variable {prog : Program} {w : World} {A : Around} {E : Value → Shared → Prop} {s : Shared}
end
end EnT
end PySem
namespace L2
open PySem PySem.Spec PyProof.Rows
def ItE (K : PySem.W.Frag) (a : Addr) : It :=
 ⟨fun i H => ∃ (xs : List V) (x : V), SqT K H a xs ∧ xs[i]? = some x, fun i H v H' => ∃ T x, v = .ref T ∧ H T = none ∧ H' = upd H T (.tup [.int (i : Nat), x]) ∧ ∀ xs, SqT K H a xs → xs[i]? = some x, fun i H => ∃ xs : List V, SqT K H a xs ∧ xs.length ≤ i⟩
def akj (K : PySem.W.Frag) (ta : TA) : TI := fun σ H R => ta σ H fun vs H1 => ∃ a xs, vs = [.ref a] ∧ ((SqL K H1 a xs ∧ R (Ite K a) H1) ∨ (SqT K H1 a xs ∧ R (ItE K a) H1))
end L2
namespace Pk
open PySem PySem.Spec L2
def FP : Nat → List D → List D
 | _, [] => []
 | i, d :: ds => .tup [.int (i : Int), d] :: FP (i + 1) ds
def D.lst : D → Option (List D)
 | .fl l => some l
 | .kl l => some l
 | .tup l => some l
 | _ => none
def Yo (m : M D) : M (List D) := m.bind fun d => M.opt (d.lst.map (FP 0))
section
variable {X : Cx} {T : Tb} {W : WX} {k kk : Nat} {pos p tpos : Pos} {elts : List Expr} {a : Expr} {ma : M D}
end
end Pk
namespace Pk
open PySem PySem.Spec L2
inductive AllL {β : Type} (Q : Nat → β → Prop) : List (Nat × β) → Prop where
 | nil : AllL Q []
 | cons {a : Nat} {b : β} {l : List (Nat × β)} : Q a b → AllL Q l → AllL Q ((a, b) :: l)
theorem vh {β : Type} {Q : Nat → β → Prop} : ∀ {l : List (Nat × β)}, AllL Q l → ∀ c i, alu c l = some i → Q c i
 | _, .nil, _, _, e => by cases e
 | _, @AllL.cons _ _ a b l q r, c, i, e => by
   rw [List.lookup_cons] at e
   cases h : c == a with
   | true =>
     rw [h] at e
     cases e
     rw [beq_iff_eq.mp h]
     exact q
   | false =>
     rw [h] at e
     exact vh r c i e
def ag0 (rows : List ((Tg × Tg) × Bool)) (t u : Tg) : Option Bool := match t, u with
 | .b a, .b b => Za a b
 | t, u => alu (t, u) rows
inductive GP (K : PySem.W.Frag) (T : Tb) : List ((Tg × Tg) × Bool) → Prop where
 | nil : GP K T []
 | b {a : String} {c : Nat} {r : Bool} {l : List ((Tg × Tg) × Bool)} : PySem.W.kitOne K (Tg.v T (.b a)) (Tg.v T (.o c)) = some r → GP K T l → GP K T (((.b a, .o c), r) :: l)
 | o {c : Nat} {u : Tg} {r : Bool} {l : List ((Tg × Tg) × Bool)} : PySem.W.kitOne K (Tg.v T (.o c)) (u.v T) = some r → abJ K (T.cad c) → GP K T l → GP K T (((.o c, u), r) :: l)
theorem M6 {K : PySem.W.Frag} {T : Tb} : ∀ {l : List ((Tg × Tg) × Bool)}, GP K T l → ∀ t u b, alu (t, u) l = some b → PySem.W.kitOne K (t.v T) (u.v T) = some b ∧ ∀ c, t = .o c → abJ K (T.cad c)
 | _, .nil, _, _, _, e => by cases e
 | _, @GP.b _ _ a c r l q rr, t, u, b, e => by
   rw [List.lookup_cons] at e
   cases h : (t, u) == (Tg.b a, Tg.o c) with
   | true =>
     rw [h] at e
     cases e
     cases beq_iff_eq.mp h
     exact ⟨q, fun c' z => by cases z⟩
   | false =>
     rw [h] at e
     exact M6 rr t u b e
 | _, @GP.o _ _ c u' r l q i rr, t, u, b, e => by
   rw [List.lookup_cons] at e
   cases h : (t, u) == (Tg.o c, u') with
   | true =>
     rw [h] at e
     cases e
     cases beq_iff_eq.mp h
     exact ⟨q, fun c' z => by cases z; exact i⟩
   | false =>
     rw [h] at e
     exact M6 rr t u b e
theorem ag1 {K : PySem.W.Frag} {T : Tb} {l : List ((Tg × Tg) × Bool)} (h : GP K T l) : Wn K T (ag0 l) := by
 refine ⟨fun t u b e => ?_, fun c u b e => ?_⟩
 · cases t with
   | b a =>
     cases u with
     | b a' => exact kit_ty (afN _ _ _ e)
     | o c => exact (M6 h _ _ _ e).1
   | o c => exact (M6 h _ _ _ e).1
 · exact (M6 h _ _ _ e).2 c rfl
def uJ (is : List Nat) (md : List D) (ds es : List D) : List D := ds ++ pick is (es ++ md)
theorem fn_cx0 {P : Program} {w : World} {K : PySem.W.Frag} {mg : Str → Option Value} {base : Heap} {k : Nat} {f : Addr} {fd : FuncData} {ps : List Str} {sp : Sp} (F : FnOk P w K mg base (L2.CX P w) k f fd ps sp) :
 FnOk P w K mg base CX0 k f fd ps (fun vs H Q _ => sp vs H Q fun _ _ _ => False) := by
 refine ⟨fun vs H Q _ q => F.len vs H Q _ q, fun A outer s H args us vs Q E hr e0 hb r hsp => codeAny_mono (F.run A outer s H args us vs Q _ hr e0 hb r hsp) fun r s' hq => ?_⟩
 cases r with
 | error e =>
   obtain ⟨a, B, H', cls, d, rfl, fl, hok, ub, na, os, ag, hE⟩ := (show L2.CX P w outer H s (fun _ _ _ => False) e s' from hq)
   exact hE.elim
 | ok fl => cases fl <;> exact hq
end Pk
namespace Pk
open PySem PySem.Spec L2
section
variable {P : Program} {w : World} {K : PySem.W.Frag} {mg : Str → Option Value} {base : Heap} {T : Tb} {k : Nat} {x qual : Str} {params : Arguments} {body : List Stmt} {scope : Scope} {dvs : List V} {kws : List (Str × V)} {f : Addr} {fd : FuncData} {N ps : List Str}
end
structure FnS (P : Program) (w : World) (K : PySem.W.Frag) (mg : Str → Option Value) (base : Heap) (T : Tb) (k c : Nat) (f : Addr) (n : Nat) (ks : List Str) (F : Fn) : Prop where
 run : ∀ (A : Around) (outer : List Env) (s : Shared) (H : Hp) (u0 : Value) (ur ws : List Value) (v0 : V) (vr zs : List V) (Q : VK) (E : XK), Room k A → Env0 P w K mg base A outer s H → RelV v0 u0 → Vals vr ur → Vals zs ws → zs.length = ks.length → vr.length ≤ sizeLine →
  (∀ p, H p = none → spI K T c n F (v0 :: (zs ++ [.ref p])) (upd H p (.tup vr)) Q E) → codeAny (model P w) A (.call (.ref f) ⟨u0 :: ur, ks.zip ws⟩) (CR (L2.CX P w) outer P w H s Q E) s
 made : Mk K (T.cad c) f
section
variable {P : Program} {w : World} {K : PySem.W.Frag} {mg : Str → Option Value} {base : Heap} {T : Tb} {k : Nat} {x qual : Str} {params : Arguments} {body : List Stmt} {scope : Scope} {f : Addr} {fd : FuncData} {N : List Str} {p0 pv : Str} {ks : List Str}
end
def U9 (ds es : List D) : List D := es ++ [.tup ds]
def abL (m : Nat) (F : Fn) (ma : M D) (mk : M (List D)) : M D := ma.bind fun d => mk.bind fun es fr h => match d.its [] with
 | some ds => if ds.length ≤ big ∧ es.length = m then v4 fr (F (U9 ds es) h) else .err
 | none => .err
section
variable {X : Cx} {T : Tb} {W : WX} {k kk n c : Nat} {f : Addr} {ks : List Str} {F : Fn} {x : Str} {p pos apos : Pos} {e : Expr} {es : List Expr} {kws : List Keyword} {ma : M (List D)} {mo : M D} {mk : M (List D)}
end
section
open PySem.W
variable {M' : Model} {A : Around} {E : Value → Shared → Prop} {s : Shared}
end
section
variable {X : Cx} {T : Tb} {W : WX} {k kk n c : Nat} {f : Addr} {ks : List Str} {F : Fn} {x : Str} {p sp_ pos apos : Pos} {e : Expr} {kws : List Keyword} {mo : M D} {mk : M (List D)}
end
end Pk
namespace Pk
open PySem PySem.Spec L2
structure akk (X : Cx) (T : Tb) (k : Nat) (op : Operator) (mt : Nat → Option Fn) : Prop where
 ex : ∀ c F, mt c = some F → ∃ (kk : Nat) (f : Addr) (fd : FuncData) (ps : List Str), Cls X.K (T.cad c) ∧ Meth X.K (T.cad c) (PySem.dunder op.info.2) f ∧ PySem.W.selfFirst X.K (T.cad c) = true ∧ v7 X.prog X.w X.K X.mg X.base T kk f fd ps F ∧ Bn X.K T fd ps 2 [] (aH []) ∧ kk ≤ k
def JL (h : Hh) (x y : D) : Option Nat := match x.ins h, y.ins h with
 | some (c, _), some (c', _) => if c = c' then some c else none
 | _, _ => none
def RX (mt : Nat → Option Fn) (h : Hh) (x y : D) : Option Fn := match JL h x y with
 | some c => mt c
 | none => none
def adT (mt : Nat → Option Fn) (ma mb : M D) : M D := ma.bind fun x => mb.bind fun y fr h => match RX mt h x y with
 | some F => v4 fr (F [x, y] h)
 | none => .err
section
variable {X : Cx} {T : Tb} {W : WX} {k : Nat} {a b : Expr} {ma mb : M D} {pos : Pos} {op : Operator}
end
end Pk
namespace PySem
namespace ExS
open PySem.W PySem.Calls PyProof.Rows PySem.HandSPX
abbrev asg (f : Str) (q1 q2 q3 q4 : Pos) : Stmt := .Assign [.Attribute (.Name "self" q1) f q2] (.Name f q3) q4
abbrev sup (e : Expr) (p0 p1 p2 p3 p4 : Pos) : Stmt := .Expr (.Call (.Attribute (.Call (.Name "super" p0) [] [] p1) "__init__" p2) [e] [] p3) p4
structure R4 (prog : Program) (K : Frag) (C fI : Addr) (params : Arguments) (body : List Stmt) (scope : Scope) (qual : Str) : Prop where
 cls : ∃ nm q N bs bm sn sub ab col dd k0 k1 k2 k3 k5, K.lookup C = some (excClassObj nm q C N bs bm true sn sub ab col dd k0 k1 k2 k3 k5 "ValueError.__new__") ∧ refsVE bm = true ∧ alongIn K "__init__" bm = some (some (.builtin "ValueError.__init__"))
 sa : findIn K (.ref C) "__setattr__" = some (some (.builtin "object.__setattr__"))
 iC : findIn K (.ref C) "__init__" = some (some (.ref fI))
 tC : typeIn K (.ref fI) = some (.type "function")
 subB : subIn K (.ref C) (.type "ValueError") = some true
 subC : mroIn K C (.ref C) = some true
 opq : nsIn K cStatics "thirdparty.any" = some none
 top : (prog.main.scope.names.lookup ("super" : Str)).isSome = false
 fn : ∃ (oc : Value) (od : Option Addr) (kV doc pm : Value) (an : Option Addr) (cda : Addr) (ct : Value) (osl : Array (Option Value)) (cc : Addr),
  K.lookup fI = some ⟨oc, od, .func (ksFn "__init__" qual params body scope .none kV doc pm an (.ref cda) ct cc), osl⟩ ∧ codeIn K (.ref cda) qual = true ∧
  (∃ (ccl : Value) (cdd : Option Addr) (vs : Array Value) (ccs : Array (Option Value)) (file : Str) (tf : Tok), K.lookup cda = some ⟨ccl, cdd, .fields vs, ccs⟩ ∧ vs[2]? = some (.str file tf) ∧ ((prog.main.file : Str) == file) = true) ∧
  ∃ (cl : Value) (cld : Option Addr) (csl : Array (Option Value)), K.lookup cc = some ⟨cl, cld, .cell (some (.ref C)), csl⟩
section
variable {prog : Program} {w : World} {M : Model} {A : Around} {E : Value → Shared → Prop} {s : Shared}
theorem adU {t : Sem Value} {Q : List Value → Shared → Prop} (h : wpAny M A t (fun v s => Q [v] s) E s) : wpAny M A (spliced [(false, t)]) Q E s := by
 unfold spliced
 refine wpAny_bind (wpAny_mono h (fun v s' h' => ?_) fun _ _ x => x)
 refine wpAny_bind (wpAny_pure ?_)
 refine wpAny_bind (wpAny_holding ?_)
 exact Calls.spliced_nil (wpAny_pure h')
theorem afP {h : Heap} {g : Array GenState} {d : Drawn} {t : Nat} {os : OsState} {nm q : Str} {C N : Addr} {bs bm : List Value} {hdct : Bool} {sn : List Str} {sub : List Value} {ab : Bool} {col : Option Bool} {dd : Option Addr} {k0 k1 k2 k3 k5 : Option Value} {u x t0 : Addr} {rest : List Value} {Q : Value → Shared → Prop}
 (hC : h.get? C = some (excClassObj nm q C N bs bm hdct sn sub ab col dd k0 k1 k2 k3 k5 "ValueError.__new__")) (he : h.get? x = some (excO C t0)) (hu : h.get? u = some (kxs_mw "ValueError.__init__" x)) (hz : rest.length ≤ sizeLine)
 (hq : ∀ h' t1, (∀ b o, b ≠ x → h.get? b = some o → h'.get? b = some o) → h'.get? x = some (excO C t1) → Q .none ⟨h', g, d, t, os⟩) :
 wpAny (model prog w) A (call (.ref u) rest) Q E ⟨h, g, d, t, os⟩ := by
 refine wpAny_call (codeAny_of_tree ?_)
 show wpAny _ A.in1 (callAny (.ref u) ⟨rest, []⟩) _ _ _
 simp only [callAny]
 refine wpAny_bind (wpAny_load hu ?_)
 simp only [kxs_mw, show (Value.type "method-wrapper" == Value.type "method" || Value.type "method-wrapper" == Value.type "builtin_function_or_method" || Value.type "method-wrapper" == Value.type "method-wrapper") = true by decide, if_true]
 refine KFB.if_so (by decide) ?_
 refine wpAny_bind (check_bound_init F.excBase_ValueError.toExcCallFacts hC he rfl ?_)
 refine wpAny_bind (wpAny_pure (wpAny_pure ?_))
 refine ⟨plainId_quiet F.excBase_ValueError.init.plain _, codeAny_builtin F.excBase_ValueError.initEntry ?_⟩
 exact exc_init_tree (cls := .ref C) (t0 := t0) (dv := none) (c2 := .none) (c3 := .none) (b4 := .bool false) he hz fun h' k e' _ => hq h' _ k e'
end
theorem afQ {K : Frag} {h : Heap} {b : Addr} (X : K.In h) (hb : h.objs.size ≤ b) : K.lookup b = none := by
 cases e : K.lookup b with
 | none => rfl
 | some o => exact absurd (Heap.lt_size (X _ _ e)) (Nat.not_lt.mpr hb)
theorem Zd {K : Frag} {h h' : Heap} {x : Addr} (X : K.In h) (hx : K.lookup x = none) (k : ∀ b o, b ≠ x → h.get? b = some o → h'.get? b = some o) : K.In h' := fun a o e =>
 k a o (fun z => by rw [z, hx] at e; cases e) (X a o e)
section
variable {prog : Program} {w : World} {A : Around} {R : Result → Shared → Prop} {s : Shared} {K : Frag} {C fI : Addr} {params : Arguments} {scope : Scope} {qual : Str} {ex : Expr} {p0 p1 p2 p3 p4 : Pos} {rest : List Stmt} {mg mb : Str → Option Value}
theorem enter (T : R4 prog K C fI params (sup ex p0 p1 p2 p3 p4 :: rest) scope qual) {x t0 : Addr} {us : List Value} {binds : List (Str × Value)} (X : K.In s.heap) (hlim : s.heap.NoLimit) (hx : s.heap.get? x = some (excO C t0)) (hnx : K.lookup x = none) (hroom : A.depth < recursionLimit)
 (hG : s.heap.Ns mainGlobals mg) (hg : mg "super" = none) (hB : s.heap.Ns builtinsNs mb) (hb : mb "super" = some (.type "super"))
 (hbind : ∀ (kV doc pm : Value) (an : Option Addr) (cdv ct : Value) (cc : Addr), bindArgs (ksFn "__init__" qual params (sup ex p0 p1 p2 p3 p4 :: rest) scope .none kV doc pm an cdv ct cc) ⟨.ref x :: us, []⟩ = pure binds)
 (hself : binds.reverse.lookup ("self" : Str) = some (.ref x)) (hloc : ∀ y ∈ binds, scope.names.lookup y.1 = some .local)
 (hcell : ∀ y ∈ scope.names, y.2 ≠ .cell) (hp : ∃ ar : Arg, (params.posonlyargs ++ params.args).head? = some ar ∧ ar.arg = "self") (hks : scope.names.lookup ("super" : Str) = some .globalImplicit) (hkc : scope.names.lookup ("__class__" : Str) = some .free) (hka : scope.names.lookup ("self" : Str) = some .local)
 (hco : scope.isCoroutine = false) (hgen : scope.isGenerator = false) (hk : scope.kind = .function)
 (hE : ∀ (cda cc : Addr) (L : Addr) (A' : Around) (h : Heap) (g : Array GenState) (d : Drawn) (t : Nat) (os : OsState) (E' : Value → Shared → Prop) (Q : Value → Shared → Prop), (∀ b o, s.heap.get? b = some o → h.get? b = some o) → h.Ns L (fun y => binds.reverse.lookup y) → (∀ v t', Q v ⟨h, g, d, t', os⟩) → wpAny (model prog w) A' (eval ex (ksEnv qual scope L fI (.ref cda) cc)) Q E' ⟨h, g, d, t, os⟩)
 (hin : ∀ (cda cc L : Addr), interactive (ksEnv qual scope L fI (.ref cda) cc) = false)
 (hev : ∀ (cda cc L : Addr), ∃ pl : Sem Bool, eval (.Call (.Attribute (.Call (.Name "super" p0) [] [] p1) "__init__" p2) [ex] [] p3) (ksEnv qual scope L fI (.ref cda) cc) = (do
  let ov ← attributeBase (.Call (.Name "super" p0) [] [] p1) "__init__" (ksEnv qual scope L fI (.ref cda) cc) (eval (.Call (.Name "super" p0) [] [] p1) (ksEnv qual scope L fI (.ref cda) cc))
  standAt p2.atName
  let (f, first) ← holding [ov] (getMethod ov "__init__" pl)
  callWith p3 f first (backTo p3 (starEach [ex] (ksEnv qual scope L fI (.ref cda) cc))) []))
 (hsw : ∀ (cda cc L : Addr), swapsWith (.Call (.Attribute (.Call (.Name "super" p0) [] [] p1) "__init__" p2) [ex] [] p3) none p4.line (ksEnv qual scope L fI (.ref cda) cc) = pure false)
 (hst : ∀ env : Env, starEach [ex] env = [(false, eval ex env)])
 (hq : ∀ (cda cc : Addr) h' tk t1, (∀ b o, b ≠ x → s.heap.get? b = some o → h'.get? b = some o) → h'.get? x = some (excO C t1) → h'.Ns s.heap.objs.size (fun y => binds.reverse.lookup y) →
  wpAny (model prog w) (A.deeper (ksEnv qual scope s.heap.objs.size fI (.ref cda) cc)) (execs rest (ksEnv qual scope s.heap.objs.size fI (.ref cda) cc)) (fun f s' => R (.ok (.ret (match f with | .ret v => v | _ => .none))) s')
   (fun _ _ => False) { s with heap := h', toks := tk }) : codeAny (model prog w) A (.call (.ref fI) ⟨.ref x :: us, []⟩) R s := by
 obtain ⟨oc, od, kV, doc, pm, an, cda, ct, osl, cc, ho, hcd, ⟨ccl, cdd, vs, ccs, file, tf, hcode, hvs, hfile⟩, cl, cld, csl, hcel⟩ := T.fn
 obtain ⟨nm, q, N, bs, bm, sn, sub, ab, col, dd, k0, k1, k2, k3, k5, hC, hbm, hal⟩ := T.cls
 obtain ⟨ar, hp, har⟩ := hp
 have hcl : clsIn K C = some { name := nm, bases := bs, mro := .ref C :: bm, ns := N, qualname := q, hasDict := true, slotNames := sn, subclasses := sub, abstract := ab, collection := col, hasDel := false } := by unfold clsIn; rw [hC] <;> rfl
 refine ks_codeAny_call_defAt (fd := ksFn "__init__" qual params (sup ex p0 p1 p2 p3 p4 :: rest) scope .none kV doc pm an (.ref cda) ct cc) (body := sup ex p0 p1 p2 p3 p4 :: rest) (binds := binds) hroom (X _ _ ho) rfl hlim (codeRec_of X hcd) rfl (BindsTo.of_eq (hbind kV doc pm an (.ref cda) ct cc)) hcell hloc (fun h₁ hns hk₁ => ?_) hco hgen hk
 obtain ⟨hp0, g, d, t, os⟩ := s
 show wpAt (model prog w) (A.deeper (ksEnv qual scope hp0.objs.size fI (.ref cda) cc)) (.func (sup ex p0 p1 p2 p3 p4 :: rest) (ksEnv qual scope hp0.objs.size fI (.ref cda) cc)) (execs (sup ex p0 p1 p2 p3 p4 :: rest) (ksEnv qual scope hp0.objs.size fI (.ref cda) cc)) _ _ _
 have X₁ : K.In h₁ := X.keeps hk₁
 have hx₁ := hk₁ _ _ hx
 have hC₁ := X₁ _ _ hC
 have hxC : x ≠ C := fun z => by
  rw [z, hC₁] at hx₁
  cases hx₁
 obtain ⟨pl, hev⟩ := hev cda cc hp0.objs.size
 refine ks_wpAt_execs_cons (ks_wpAt_Expr_any (ks_wpAt_MethodCall (pl := pl) ?_ hev) (hin _ _ _) (hsw _ _ _))
 refine ks_wpAt_super_base (fd := ksFn "__init__" qual params (sup ex p0 p1 p2 p3 p4 :: rest) scope .none kV doc pm an (.ref cda) ct cc) hks hkc (by decide) rfl (X₁ _ _ ho) rfl hp rfl (X₁ _ _ hcode) rfl hvs hfile T.top ?_
 refine ks_loadName_global hk hks (Calls.loadGlobal_builtin (hG.keeps hk₁) hg (hB.keeps hk₁) hb ⟨rfl, ?_⟩)
 refine wpAny_loadName_free hk hkc rfl ⟨_, X₁ _ _ hcel, rfl⟩ ?_
 rw [har]
 refine wpAny_loadName_local hk hka hns hself ?_
 refine ks_wpAny_isType_cls hC₁ rfl ⟨rfl, ?_⟩
 refine ks_wpAny_call_super hC₁ rfl hx₁ rfl (fun c e => by cases e) (looks_mroIn X₁ T.subC) (fun h₂ hso k₂ => ?_)
 have X₂ : K.In h₂ := X₁.keeps k₂
 have hx₂ := k₂ _ _ hx₁
 have I₂ : InstAt h₂ x (excO C t0) C none := ⟨hx₂, rfl, rfl, trivial⟩
 refine kxs_getMethod kxs_ValueError hso (looks_opaque X₂ T.opq) (l₀ := .ref C :: bm) ((looks_clsIn X₂ hcl).andThen .now) (by simp [List.dropWhile_cons]) X₂ hal (I₂.type.andThen (looks_subIn X₂ T.subB)) hxC rfl ?_
 have k₃ : ∀ b o, h₂.get? b = some o → (h₂.push (kxs_mw "ValueError.__init__" x)).get? b = some o := fun b o e => Heap.get?_push_of_some _ e
 have hu : (h₂.push (kxs_mw "ValueError.__init__" x)).get? h₂.objs.size = some (kxs_mw "ValueError.__init__" x) := Heap.get?_push_at rfl rfl
 refine kxs_callWith (i := "ValueError.__init__") (x := x) (by rw [hst]; rfl) ?_
 rw [hst]
 refine evalArgs_plain ?_
 show wpAny _ _ (spliced [(false, eval ex (ksEnv qual scope hp0.objs.size fI (.ref cda) cc))]) _ _ _
 refine adU (hE cda cc hp0.objs.size _ _ _ _ _ _ _ _ (fun b o e => k₃ _ _ (k₂ _ _ (hk₁ _ _ e))) ((hns.keeps k₂).keeps k₃) fun v t' => ⟨hu, ?_⟩)
 refine afP (k₃ _ _ (k₂ _ _ hC₁)) (k₃ _ _ hx₂) hu (by show 1 ≤ sizeLine; decide) fun h₄ t1 k₄ hx₄ => ?_
 have hxL : hp0.objs.size ≠ x := Nat.ne_of_gt (Heap.lt_size hx)
 refine wpAt_of_wpAny (wpAny_mono (hq cda cc h₄ _ t1 (fun b o hb e => k₄ b o hb (k₃ _ _ (k₂ _ _ (hk₁ _ _ e)))) hx₄ ?_) (fun _ _ z => z) fun _ _ z => z.elim)
 obtain ⟨o, es, ep, eo, r⟩ := (hns.keeps k₂).keeps k₃
 exact ⟨o, es, ep, k₄ _ _ hxL eo, r⟩
end
abbrev TY : Type := Str × Pos × Pos × Pos × Pos
abbrev Qh (gs : List TY) : List Stmt := gs.map fun g => asg g.1 g.2.1 g.2.2.1 g.2.2.2.1 g.2.2.2.2
theorem CW {α : Type} (f g : Str) (y : α) (fs : List (Str × α)) : ((f, y) :: fs).lookup g = if g = f then some y else fs.lookup g := by
 by_cases h : g = f
 · subst h
   simp [alu]
 · have e : (g == f) = false := by simpa using h
   rw [if_neg h]
   simp [alu, e]
theorem Um {α : Type} {y : Str} : ∀ {l : List (Str × α)} {v : α}, l.lookup y = some v → y ∈ l.map (·.1)
 | [], v, h => by cases h
 | (f, z) :: l, v, h => by
   rw [CW] at h
   by_cases e : y = f
   · rw [e]; exact als ..
   · rw [if_neg e] at h
     exact alz _ (Um h)
theorem Ze {α : Type} {y : Str} : ∀ (l r : List (Str × α)), (l ++ r).lookup y = match l.lookup y with | some v => some v | none => r.lookup y
 | [], r => rfl
 | (f, z) :: l, r => by
   rw [alh, CW, CW]
   by_cases e : y = f
   · rw [if_pos e, if_pos e]
   · rw [if_neg e, if_neg e]; exact Ze l r
theorem look_none {α : Type} {y : Str} {l : List (Str × α)} (h : y ∉ l.map (·.1)) : l.lookup y = none := by
 cases e : l.lookup y with
 | none => rfl
 | some v => exact absurd (Um e) h
theorem Zf {α : Type} {y : Str} : ∀ {l : List (Str × α)}, (l.map (·.1)).Nodup → l.reverse.lookup y = l.lookup y
 | [], _ => rfl
 | (f, z) :: l, h => by
   rw [ala, List.nodup_cons] at h
   have e1 : ((f, z) :: l).lookup y = if y = f then some z else l.lookup y := CW f y z l
   have e2 : [(f, z)].lookup y = if y = f then some z else none := CW f y z []
   rw [List.reverse_cons, Ze, Zf h.2, e1, e2]
   by_cases e : y = f
   · subst e
     rw [look_none h.1, if_pos rfl]
   · rw [if_neg e, if_neg e]
     cases l.lookup y <;> rfl
structure StX (h0 h : Heap) (x C : Addr) (done : List (Str × Value)) : Prop where
 keep : ∀ b o, b ≠ x → h0.get? b = some o → h.get? b = some o
 big : h0.objs.size ≤ h.objs.size
 at_ : ∃ (t1 : Addr) (dv : Option Addr), h.get? x = some { cls := .ref C, dict := dv, data := .fields #[.ref t1, .none, .none, .none, .bool false, .none] } ∧
  ((done = [] ∧ dv = none) ∨ ∃ (dx : Addr) (m : Str → Option Value), dv = some dx ∧ h0.objs.size ≤ dx ∧ dx ≠ x ∧ h.Ns1 dx m ∧ ∀ y, m y = done.lookup y)
section
variable {prog : Program} {w : World} {A : Around} {E : Value → Shared → Prop} {K : Frag} {C fI L x : Addr} {scope : Scope} {qual : Str} {cda cc : Addr} {m : Str → Option Value} {h0 : Heap} {g : Array GenState} {d : Drawn} {os : OsState} {Q : Flow → Shared → Prop} {cd : ClassData}
theorem stores (X0 : K.In h0) (hnx : K.lookup x = none) (hLx : L ≠ x) (hL0 : L < h0.objs.size) (hcl : clsIn K C = some cd) (hm : refsVE cd.mro = true) (hh : cd.hasDict = true) (sa : findIn K (.ref C) "__setattr__" = some (some (.builtin "object.__setattr__"))) (hk : scope.kind = .function) (hself : m "self" = some (.ref x)) (ls : scope.names.lookup ("self" : Str) = some .local)
 (hsw : ∀ g : TY, swapsWith (.Name g.1 g.2.2.2.1) (some (.Attribute (.Name "self" g.2.1) g.1 g.2.2.1)) g.2.2.2.2.line (ksEnv qual scope L fI (.ref cda) cc) = pure false) (hns0 : h0.Ns L m) :
 ∀ (gs : List TY) (vs : List Value) (done : List (Str × Value)) (h : Heap) (t : Nat), (∀ g ∈ gs, (g.1 == ("__debug__" : Str)) = false ∧ scope.names.lookup g.1 = some .local ∧ findIn K (.ref C) g.1 = some none) → gs.length = vs.length → (∀ (i : Nat) (f : Str) (v : Value), (gs.map (·.1))[i]? = some f → vs[i]? = some v → m f = some v) → done.length + gs.length ≤ 500 → StX h0 h x C done →
   (∀ h' t', StX h0 h' x C (((gs.map (·.1)).zip vs).reverse ++ done) → Q .next ⟨h', g, d, t', os⟩) → wpAny (model prog w) A (execs (Qh gs) (ksEnv qual scope L fI (.ref cda) cc)) Q E ⟨h, g, d, t, os⟩
 | [], vs, done, h, t, _, hl, _, _, S, hq => by
   cases vs with
   | nil => exact wpAny_execs_nil (hq h t S)
   | cons v vs => cases hl
 | a :: gs, vs, done, h, t, hg, hl, hv, hlen, S, hq => by
   cases vs with
   | nil => cases hl
   | cons v vs =>
     obtain ⟨n1, n2, n3⟩ := hg a als
     have hva : m a.1 = some v := hv 0 a.1 v rfl rfl
     obtain ⟨t1, dv, hx, hd⟩ := S.at_
     have X : K.In h := Zd X0 hnx S.keep
     have hns : h.Ns L m := by
      obtain ⟨o, es, ep, eo, r⟩ := hns0
      exact ⟨o, es, ep, S.keep _ _ hLx eo, r⟩
     have go : ∀ h' t', StX h0 h' x C ((a.1, v) :: done) → wpAny (model prog w) A (execs (Qh gs) (ksEnv qual scope L fI (.ref cda) cc)) Q E ⟨h', g, d, t', os⟩ := fun h' t' S' => by
      refine stores X0 hnx hLx hL0 hcl hm hh sa hk hself ls hsw hns0 gs vs ((a.1, v) :: done) h' t' (fun b hb => hg b (alz _ hb)) (Nat.succ.inj hl) (fun i f u e1 e2 => hv (i + 1) f u e1 e2) (by simp only [ald] at hlen ⊢; omega) S' fun h2 t2 S2 => hq h2 t2 ?_
      have e : ((List.map (·.1) (a :: gs)).zip (v :: vs)).reverse ++ done = ((gs.map (·.1)).zip vs).reverse ++ (a.1, v) :: done := by
       simp
      rw [e]
      exact S2
     refine wpAny_execs_cons (plainObj_wpAny_Assign_Attribute ?_ (hsw a))
     refine wpAny_Name (wpAny_loadName_local hk (show (ksEnv qual scope L fI (.ref cda) cc).kindOf a.1 = some .local from n2) hns hva ?_) n1
     refine wpAny_Name (wpAny_loadName_local hk (show (ksEnv qual scope L fI (.ref cda) cc).kindOf "self" = some .local from ls) hns hself ?_) (by decide)
     rcases hd with ⟨rfl, rfl⟩ | ⟨dx, m0, rfl, dn, dne, hn1, hmm⟩
     · refine set_plain X (ox := { cls := .ref C, dict := none, data := .fields #[.ref t1, .none, .none, .none, .bool false, .none] }) (od := none) ⟨hx, rfl, rfl, trivial⟩ sa ?_
       refine exc_osa X hx hcl hm hh n3 (fun h₃ tk₃ dx k₃ dn dne hx₃ hn₃ => ?_)
       have zz : dx < h₃.objs.size := by
        obtain ⟨o, es, ep, eo, _⟩ := hn₃
        exact Heap.lt_size eo
       refine go h₃ _ ⟨fun b o hb e => k₃ b o hb (S.keep b o hb e), Nat.le_of_lt (Nat.lt_of_le_of_lt (Nat.le_trans S.big dn) zz), t1, some dx, hx₃, .inr ⟨dx, _, rfl, Nat.le_trans S.big dn, dne, hn₃, fun y => ?_⟩⟩
       · rw [CW]
         rfl
     · obtain ⟨oD, es, ep, hoD, r⟩ := id hn1
       have hw : Within m0 (done.map (·.1)) := fun y hy => by
        rw [hmm y] at hy
        cases e : done.lookup y with
        | none => exact absurd e hy
        | some u => exact Um e
       refine set_plain X (ox := { cls := .ref C, dict := some dx, data := .fields #[.ref t1, .none, .none, .none, .bool false, .none] }) (od := some oD) ⟨hx, rfl, rfl, hoD⟩ sa ?_
       refine OEX.osa_old X hx hn1 hw (by rw [alw]; omega) hcl hm hh n3 (fun h₃ tk₃ k₃ hn₃ => ?_)
       have zz : dx < h₃.objs.size := by
        obtain ⟨o, es, ep, eo, _⟩ := hn₃
        exact Heap.lt_size eo
       refine go h₃ _ ⟨fun b o hb e => k₃ b o (fun z => ?_) (S.keep b o hb e), Nat.le_of_lt (Nat.lt_of_le_of_lt dn zz), t1, some dx, k₃ _ _ (Ne.symm dne) hx, .inr ⟨dx, _, rfl, dn, dne, hn₃, fun y => ?_⟩⟩
       · rw [z] at e
         exact absurd (Heap.lt_size e) (Nat.not_lt.mpr dn)
       · rw [CW, hmm y]
end
structure Zg (K : Frag) (params : Arguments) (scope : Scope) (qual : Str) (ex : Expr) (p0 p1 p2 p3 p4 : Pos) (gs : List TY) (Ok : L2.Hp → List L2.V → Prop) : Prop where
 bind : ∀ (kV doc pm : Value) (an : Option Addr) (cdv ct : Value) (cc x : Addr) (us : List Value), us.length = gs.length → bindArgs (ksFn "__init__" qual params (sup ex p0 p1 p2 p3 p4 :: Qh gs) scope .none kV doc pm an cdv ct cc) ⟨.ref x :: us, []⟩ = pure ((("self" : Str) :: gs.map (·.1)).zip (.ref x :: us))
 nd : (("self" : Str) :: gs.map (·.1)).Nodup
 len : gs.length ≤ 100
 loc : ∀ y ∈ ("self" : Str) :: gs.map (·.1), scope.names.lookup y = some .local
 dbg : ∀ g ∈ gs, (g.1 == ("__debug__" : Str)) = false
 cell : ∀ y ∈ scope.names, y.2 ≠ .cell
 hp : ∃ ar : Arg, (params.posonlyargs ++ params.args).head? = some ar ∧ ar.arg = "self"
 ks : scope.names.lookup ("super" : Str) = some .globalImplicit
 kc : scope.names.lookup ("__class__" : Str) = some .free
 co : scope.isCoroutine = false
 gen : scope.isGenerator = false
 k : scope.kind = .function
 hE : ∀ (H0 : L2.Hp) (vs : List L2.V) (us : List Value), Ok H0 vs → L2.Vals vs us → vs.length = gs.length → ∀ (cda cc L x fI : Addr) (prog : Program) (w : World) (A' : Around) (h0 h : Heap) (g : Array GenState) (d : Drawn) (t : Nat) (os : OsState) (E' : Value → Shared → Prop) (Q : Value → Shared → Prop), K.In h → L2.HOk prog w H0 h0 → (∀ b o, h0.get? b = some o → h.get? b = some o) →
  h.Ns L (fun y => ((("self" : Str) :: gs.map (·.1)).zip (Value.ref x :: us)).reverse.lookup y) → (∀ v t', Q v ⟨h, g, d, t', os⟩) → wpAny (model prog w) A' (eval ex (ksEnv qual scope L fI (.ref cda) cc)) Q E' ⟨h, g, d, t, os⟩
 hin : ∀ (fI cda cc L : Addr), interactive (ksEnv qual scope L fI (.ref cda) cc) = false
 hev : ∀ (fI cda cc L : Addr), ∃ pl : Sem Bool, eval (.Call (.Attribute (.Call (.Name "super" p0) [] [] p1) "__init__" p2) [ex] [] p3) (ksEnv qual scope L fI (.ref cda) cc) = (do
     let ov ← attributeBase (.Call (.Name "super" p0) [] [] p1) "__init__" (ksEnv qual scope L fI (.ref cda) cc) (eval (.Call (.Name "super" p0) [] [] p1) (ksEnv qual scope L fI (.ref cda) cc))
     standAt p2.atName
     let (f, first) ← holding [ov] (getMethod ov "__init__" pl)
     callWith p3 f first (backTo p3 (starEach [ex] (ksEnv qual scope L fI (.ref cda) cc))) [])
 hsw : ∀ (fI cda cc L : Addr), swapsWith (.Call (.Attribute (.Call (.Name "super" p0) [] [] p1) "__init__" p2) [ex] [] p3) none p4.line (ksEnv qual scope L fI (.ref cda) cc) = pure false
 hst : ∀ env : Env, starEach [ex] env = [(false, eval ex env)]
 hsw2 : ∀ (fI cda cc L : Addr) (g : TY), swapsWith (.Name g.1 g.2.2.2.1) (some (.Attribute (.Name "self" g.2.1) g.1 g.2.2.1)) g.2.2.2.2.line (ksEnv qual scope L fI (.ref cda) cc) = pure false
theorem zip_get {α : Type} : ∀ {ps : List Str} {us : List α} {i : Nat} {f : Str} {v : α}, ps.Nodup → ps[i]? = some f → us[i]? = some v → (ps.zip us).lookup f = some v
 | [], _, i, f, v, _, e, _ => by simp at e
 | _ :: _, [], i, f, v, _, _, e => by simp at e
 | p :: ps, u :: us, 0, f, v, _, e1, e2 => by
   simp at e1 e2
   subst e1 e2
   simp [alu]
 | p :: ps, u :: us, i + 1, f, v, nd, e1, e2 => by
   rw [List.nodup_cons] at nd
   have e1' : ps[i]? = some f := by simpa using e1
   have e2' : us[i]? = some v := by simpa using e2
   rw [List.zip_cons_cons, CW, if_neg (fun z => nd.1 (by rw [← z]; exact alB e1'))]
   exact zip_get nd.2 e1' e2'
theorem adV {α : Type} {ps : List Str} {us : List α} (hl : ps.length = us.length) : (ps.zip us).map (·.1) = ps := by
 rw [List.map_fst_zip]
 omega
section
variable {prog : Program} {w : World} {A : Around} {R : Result → Shared → Prop} {s : Shared} {K : Frag} {C fI : Addr} {params : Arguments} {scope : Scope} {qual : Str} {ex : Expr} {p0 p1 p2 p3 p4 : Pos} {gs : List TY} {Ok : L2.Hp → List L2.V → Prop} {H0 : L2.Hp} {h00 : Heap} {mg mb : Str → Option Value}
theorem adW (T : R4 prog K C fI params (sup ex p0 p1 p2 p3 p4 :: Qh gs) scope qual) (S : Zg K params scope qual ex p0 p1 p2 p3 p4 gs Ok) (hno : ∀ g ∈ gs, findIn K (.ref C) g.1 = some none) {x t0 : Addr} {vs : List L2.V} {us : List Value} (X : K.In s.heap) (hlim : s.heap.NoLimit) (hx : s.heap.get? x = some (excO C t0)) (hnx : K.lookup x = none) (hroom : A.depth < recursionLimit)
 (hG : s.heap.Ns mainGlobals mg) (hg : mg "super" = none) (hB : s.heap.Ns builtinsNs mb) (hb : mb "super" = some (.type "super")) (hH : L2.HOk prog w H0 h00) (kp0 : ∀ b o, h00.get? b = some o → s.heap.get? b = some o) (ok : Ok H0 vs) (rv : L2.Vals vs us) (hl : vs.length = gs.length)
 (hq : ∀ h' tk, StX s.heap h' x C ((gs.map (·.1)).zip us).reverse → R (.ok (.ret .none)) { s with heap := h', toks := tk }) : codeAny (model prog w) A (.call (.ref fI) ⟨.ref x :: us, []⟩) R s := by
 have hlu : us.length = gs.length := by rw [← rv.length]; exact hl
 have keys : (((("self" : Str) :: gs.map (·.1)).zip (Value.ref x :: us)).map (·.1)) = ("self" : Str) :: gs.map (·.1) := adV (by simp [hlu])
 have hrev : ∀ y, ((("self" : Str) :: gs.map (·.1)).zip (Value.ref x :: us)).reverse.lookup y = ((("self" : Str) :: gs.map (·.1)).zip (Value.ref x :: us)).lookup y := fun y => Zf (by rw [keys]; exact S.nd)
 have hself : ((("self" : Str) :: gs.map (·.1)).zip (Value.ref x :: us)).reverse.lookup ("self" : Str) = some (.ref x) := by
  rw [hrev]
  exact zip_get S.nd (i := 0) rfl rfl
 refine enter T (mg := mg) (mb := mb) (binds := (("self" : Str) :: gs.map (·.1)).zip (.ref x :: us)) X hlim hx hnx hroom hG hg hB hb (fun kV doc pm an cdv ct cc => S.bind kV doc pm an cdv ct cc x us hlu) hself (fun y hy => S.loc y.1 (List.of_mem_zip hy).1) S.cell S.hp S.ks S.kc (S.loc _ als) S.co S.gen S.k
  (fun cda cc L A' h g d t os E' Q hk hn hq' => S.hE H0 vs us ok rv hl cda cc L x fI prog w A' h00 h g d t os E' Q (X.keeps hk) hH (fun b o e => hk b o (kp0 b o e)) hn hq') (S.hin fI) (S.hev fI) (S.hsw fI) S.hst fun cda cc h' tk t1 k hx' hns => ?_
 obtain ⟨nm, q, N, bs, bm, sn, sub, ab, col, dd, k0, k1, k2, k3, k5, hC, hbm, hal⟩ := T.cls
 have hcl : clsIn K C = some { name := nm, bases := bs, mro := .ref C :: bm, ns := N, qualname := q, hasDict := true, slotNames := sn, subclasses := sub, abstract := ab, collection := col, hasDel := false } := by unfold clsIn; rw [hC] <;> rfl
 have X' : K.In h' := Zd X hnx k
 have hsz : s.heap.objs.size < h'.objs.size := by
  obtain ⟨o, es, ep, eo, _⟩ := hns
  exact Heap.lt_size eo
 obtain ⟨hp0, g, d, t, os⟩ := s
 refine stores (C := C) (x := x) (L := hp0.objs.size) (h0 := h') (m := fun y => ((("self" : Str) :: gs.map (·.1)).zip (Value.ref x :: us)).reverse.lookup y) X' hnx (Nat.ne_of_gt (Heap.lt_size hx)) hsz hcl (show refsVE (.ref C :: bm) = true from hbm) rfl T.sa S.k hself (S.loc _ als) (S.hsw2 fI cda cc _) hns gs us [] h' tk
  (fun b hb' => ⟨S.dbg b hb', S.loc b.1 (alz _ (List.mem_map_of_mem hb')), hno b hb'⟩) hlu.symm (fun i f v e1 e2 => by
   show alu f _ = _
   rw [hrev]
   exact zip_get S.nd (i := i + 1) (by simpa using e1) (by simpa using e2)) (by have := S.len; simp only [ali]; omega) ⟨fun b o hb' e => e, Nat.le_refl _, t1, none, hx', .inl ⟨rfl, rfl⟩⟩ fun h2 t2 S2 => ?_
 rw [alb] at S2
 refine hq h2 t2 ⟨fun b o hb' e => S2.keep b o hb' (k b o hb' e), Nat.le_trans (Nat.le_of_lt hsz) S2.big, ?_⟩
 obtain ⟨t3, dv, e1, e2⟩ := S2.at_
 refine ⟨t3, dv, e1, ?_⟩
 rcases e2 with e2 | ⟨dx, m, q1, q2, q3, q4, q5⟩
 · exact .inl e2
 · exact .inr ⟨dx, m, q1, Nat.le_trans (Nat.le_of_lt hsz) q2, q3, q4, q5⟩
end
end ExS
end PySem
namespace PySem
namespace ExS
open PySem.W PySem.Calls PyProof.Rows PySem.HandSPX
structure MadeX (h h' : Heap) (e C : Addr) (fs : List (Str × Value)) : Prop where
 keep : ∀ b o, h.get? b = some o → h'.get? b = some o
 new : h.objs.size ≤ e
 at_ : ∃ (t1 : Addr) (dv : Option Addr), h'.get? e = some { cls := .ref C, dict := dv, data := .fields #[.ref t1, .none, .none, .none, .bool false, .none] } ∧
  ((fs = [] ∧ dv = none) ∨ ∃ (dx : Addr) (m : Str → Option Value), dv = some dx ∧ h.objs.size ≤ dx ∧ dx ≠ e ∧ h'.Ns1 dx m ∧ ∀ y, m y = fs.lookup y)
section
variable {prog : Program} {w : World} {A : Around} {R : Result → Shared → Prop} {s : Shared} {K : Frag} {C fI : Addr} {params : Arguments} {scope : Scope} {qual : Str} {ex : Expr} {p0 p1 p2 p3 p4 : Pos} {gs : List TY} {Ok : L2.Hp → List L2.V → Prop} {H0 : L2.Hp} {mg mb : Str → Option Value}
theorem small {l : List Value} {n : Nat} (e : l.length = n) (h : n ≤ 100) : l.length ≤ sizeLine := by
 have : (100 : Nat) ≤ sizeLine := by decide
 omega
theorem made (T : R4 prog K C fI params (sup ex p0 p1 p2 p3 p4 :: Qh gs) scope qual) (S : Zg K params scope qual ex p0 p1 p2 p3 p4 gs Ok) (hno : ∀ g ∈ gs, findIn K (.ref C) g.1 = some none) {vs : List L2.V} {us : List Value} (X : K.In s.heap) (hlim : s.heap.NoLimit) (hroom : A.depth + 1 < recursionLimit)
 (hG : s.heap.Ns mainGlobals mg) (hg : mg "super" = none) (hB : s.heap.Ns builtinsNs mb) (hb : mb "super" = some (.type "super")) (hH : L2.HOk prog w H0 s.heap) (ok : Ok H0 vs) (rv : L2.Vals vs us) (hl : vs.length = gs.length)
 (hq : ∀ h' tk e, MadeX s.heap h' e C ((gs.map (·.1)).zip us).reverse → R (.ok (.ret (.ref e))) { s with heap := h', toks := tk }) : codeAny (model prog w) A (.call (.ref C) ⟨us, []⟩) R s := by
 have hlu : us.length = gs.length := by rw [← rv.length]; exact hl
 obtain ⟨nm, q, N, bs, bm, sn, sub, ab, col, dd, k0, k1, k2, k3, k5, hC, hbm, hal⟩ := T.cls
 obtain ⟨hp, g, dr, tk, os⟩ := s
 have k : ∀ b o, hp.get? b = some o → ((hp.push (kdv_tup us)).push (excO C hp.objs.size)).get? b = some o := fun b o e => Heap.get?_push_of_some _ (Heap.get?_push_of_some _ e)
 have hget : ((hp.push (kdv_tup us)).push (excO C hp.objs.size)).get? (hp.objs.size + 1) = some (excO C hp.objs.size) := by heap_get
 have hnx : K.lookup (hp.objs.size + 1) = none := afQ X (Nat.le_succ _)
 refine call_own F.excBase_ValueError (fun X => refsVE_contains X bm hbm) (X _ _ hC) (looks_findIn X T.iC) (fun self => bind_fn X self T.tC) (small hlu S.len) ?_
 refine adW (s := ⟨(hp.push (kdv_tup us)).push (excO C hp.objs.size), g, dr, tk, os⟩) T S hno (X.keeps k) (hlim.keeps k) hget hnx ?_ (hG.keeps k) hg (hB.keeps k) hb hH k ok rv hl fun h' tk' S' => ?_
 · show A.depth + 1 < recursionLimit
   exact hroom
 · have old : ∀ b o, hp.get? b = some o → h'.get? b = some o := fun b o e => S'.keep b o (Nat.ne_of_lt (Nat.lt_succ_of_lt (Heap.lt_size e))) (k b o e)
   refine ⟨rfl, hq h' tk' (hp.objs.size + 1) ⟨old, Nat.le_succ _, ?_⟩⟩
   obtain ⟨t1, dv, e1, e2⟩ := S'.at_
   refine ⟨t1, dv, e1, ?_⟩
   rcases e2 with ⟨e2, e3⟩ | ⟨dx, m, q1, q2, q3, q4, q5⟩
   · exact .inl ⟨e2, e3⟩
   · refine .inr ⟨dx, m, q1, ?_, q3, q4, q5⟩
     have z : hp.objs.size + 1 + 1 ≤ dx := by
      first
       | (simpa only [Heap.size_push] using q2)
       | exact q2
       | (have q := q2; rw [Heap.size_push, Heap.size_push] at q; exact q)
     exact Nat.le_trans (Nat.le_trans (Nat.le_succ _) (Nat.le_succ _)) z
end
end ExS
end PySem
namespace Pk
open PySem PySem.Spec PyProof.Rows L2
open PySem.ExS (R4 Zg sup Qh TY)
structure ExC (P : Program) (K : PySem.W.Frag) (T : Tb) (c : Nat) (Ok : Hp → List V → Prop) : Prop where
 tx : ∃ (fI : Addr) (params : Arguments) (scope : Scope) (qual : Str) (ex : Expr) (p0 p1 p2 p3 p4 : Pos) (gs : List TY),
  R4 P K (T.cad c) fI params (sup ex p0 p1 p2 p3 p4 :: Qh gs) scope qual ∧ Zg K params scope qual ex p0 p1 p2 p3 p4 gs Ok ∧ (∀ g ∈ gs, PySem.W.findIn K (.ref (T.cad c)) g.1 = some none) ∧ T.fld c = gs.map (·.1) ∧ (T.fld c).Nodup
 kC : PySem.W.keepIn K (.ref (T.cad c)) = true
 exC : PySem.W.subIn K (.ref (T.cad c)) (.type "BaseException") = some true
 tyC : PySem.W.typeIn K (.ref (T.cad c)) = some (.type "type")
section
variable {X : Cx} {T : Tb} {W : WX} {k c : Nat} {x : Str} {a : Expr} {es : List Expr} {ma : M (List D)} {p pos pos2 : Pos} {Ok : Hp → List V → Prop}
def akl (T : Tb) (c : Nat) (Ok : Hp → List V → Prop) (ta : TA) : L2.St → Hp → XK → Prop := fun σ H Q => ta σ H fun vs H1 => Ok H1 vs ∧ vs.length = (T.fld c).length ∧
 (T.fld c = [] → Q (.ref (T.cad c)) none H1) ∧ (∀ d, H1 d = none → Q (.ref (T.cad c)) (some d) (upd H1 d (.xd ((T.fld c).zip vs))))
end
end Pk
namespace PySem
namespace ExS
open PySem.W PySem.Calls PyProof.Rows PySem.HandSPX
end ExS
end PySem
namespace Pk
open PySem PySem.Spec PyProof.Rows L2
open PySem.ExS (R4 Zg sup Qh TY)
section
variable {params : Arguments} {scope : Scope} {qual : Str}
end
section
variable {X : Cx} {T : Tb} {W : WX} {k c n : Nat} {x : Str} {a : Expr} {es : List Expr} {ma : M (List D)} {p pos pos2 : Pos} {Ok : Hp → List V → Prop} {chk : List D → Bool}
def Zh (c n : Nat) (chk : List D → Bool) (ma : M (List D)) : M Fl := ma.bind fun ds fr h => if ds.length = n ∧ chk ds = true then .exc ⟨c, ds⟩ fr h else .err
end
end Pk
namespace Pk
open PySem PySem.Spec PyProof.Rows L2
def Va (K : PySem.W.Frag) (C : Addr) : Bool := PySem.W.readsIn K C (.type "type") && He.eqO (PySem.W.specialIn K (.ref C) "__getattribute__") (some (some (.builtin "type.__getattribute__")))
def cmA (K : PySem.W.Frag) (C : Addr) (m : Str) : Addr := match PySem.W.findCls K (.ref C) (.type "type") m with
 | some (.get _ (.ref p) _ _) => (match PySem.W.recIn K p "classmethod" with
   | some (.ref g :: _) => g
   | _ => 0)
 | _ => 0
def cmX (K : PySem.W.Frag) (C : Addr) (m : Str) : Bool := Va K C && (match PySem.W.findCls K (.ref C) (.type "type") m with
 | some (.get (.builtin i) (.ref p) .none (.ref C')) => decide (i = "classmethod.__get__") && (decide (C' = C) && ((match PySem.W.recIn K p "classmethod" with
   | some (.ref g :: _) => decide (g = cmA K C m)
   | _ => false) && PySem.W.fnIn K (cmA K C m)))
 | _ => false)
def bmX (K : PySem.W.Frag) (C : Addr) (m : Str) : Bool := He.eqO (PySem.W.specialIn K (.ref (He.ma K C m)) "__get__") (some (some (.builtin "function.__get__"))) && (decide (PySem.W.takesIn K (.ref (He.ma K C m)) = some false) && (decide (PySem.W.copiedNames.contains m = false) && PySem.W.fnIn K (He.ma K C m)))
end Pk
namespace L
open PySem PySem.Spec L2 Pk
def cn : Nat → Str
 | 0 => "Tokens"
 | 1 => "Term"
 | _ => "?"
def top (i : Nat) : Stmt := PySem.Challenge.pw_countrestarts_k79_distances.main.body.getD i (.Pass ⟨0, 0, 0, 0⟩)
abbrev zH : Stmt := top 49
abbrev Ou : List Str := ["_law_script", "_law_at", "_law_cell", "_law_large"]
abbrev Jx : List Str := ["_law_script", "_law_at"]
theorem Wo : FnScope Ou Jx (defScope zH) := ⟨rfl, rfl, rfl, by decide +kernel, rfl, by decide +kernel, by decide +kernel⟩
def Jy : PD := ⟨fun K => He.ga K "_law_source", "_law_source", "_law_source", defArgs zH, defBody zH, defScope zH, [], [], false⟩
abbrev xG : Stmt := inClass (top 40) 1
abbrev Kr : List Str := ["self", "readings", "node"]
abbrev Gh : List Str := ["self", "readings", "node"]
theorem SN : FnScope Kr Gh (defScope xG) := ⟨rfl, rfl, rfl, by decide +kernel, rfl, by decide +kernel, by decide +kernel⟩
def Gi : PD := ⟨fun K => He.ma K (He.ga K "Term") "__init__", "__init__", "Term.__init__", defArgs xG, defBody xG, defScope xG, [], [], false⟩
abbrev ym : Stmt := top 44
abbrev Ln : List Str := ["node", "measure", "start", "stop", "found", "filling"]
abbrev GX : List Str := ["node"]
theorem Uo : FnScope Ln GX (defScope ym) := ⟨rfl, rfl, rfl, by decide +kernel, rfl, by decide +kernel, by decide +kernel⟩
def GZ : PD := ⟨fun K => He.ga K "variant_nodes", "variant_nodes", "variant_nodes", defArgs ym, defBody ym, defScope ym, [], [], false⟩
abbrev Dr : Stmt := top 45
abbrev Vb : List Str := ["leaf", "node"]
abbrev NZ : List Str := ["leaf"]
theorem aaI : FnScope Vb NZ (defScope Dr) := ⟨rfl, rfl, rfl, by decide +kernel, rfl, by decide +kernel, by decide +kernel⟩
def N5 : PD := ⟨fun K => He.ga K "variants", "variants", "variants", defArgs Dr, defBody Dr, defScope Dr, [], [], false⟩
abbrev Cg : Stmt := top 50
abbrev T5 : List Str := ["_law_source_here", "_law_many", "_law_digit", "_law_mixed"]
abbrev Mj : List Str := ["_law_source_here", "_law_many"]
theorem Zi : FnScope T5 Mj (defScope Cg) := ⟨rfl, rfl, rfl, by decide +kernel, rfl, by decide +kernel, by decide +kernel⟩
def Ml : PD := ⟨fun K => He.ga K "_law_draw", "_law_draw", "_law_draw", defArgs Cg, defBody Cg, defScope Cg, [], [], false⟩
abbrev Ds : Stmt := top 23
abbrev Vc : List Str := ["text", "at", "end", "signs"]
abbrev N6 : List Str := ["text", "at"]
theorem aaJ : FnScope Vc N6 (defScope Ds) := ⟨rfl, rfl, rfl, by decide +kernel, rfl, by decide +kernel, by decide +kernel⟩
def N7 : PD := ⟨fun K => He.ga K "word_end", "word_end", "word_end", defArgs Ds, defBody Ds, defScope Ds, [], [], false⟩
abbrev wL : Stmt := inClass (top 24) 0
abbrev Jj : List Str := ["self", "text", "readings", "at", "end"]
abbrev CZ : List Str := ["self", "text", "readings"]
theorem O7 : FnScope Jj CZ (defScope wL) := ⟨rfl, rfl, rfl, by decide +kernel, rfl, by decide +kernel, by decide +kernel⟩
def Dc : PD := ⟨fun K => He.ma K (He.ga K "Tokens") "__init__", "__init__", "Tokens.__init__", defArgs wL, defBody wL, defScope wL, [], [], false⟩
abbrev wM : Stmt := inClass (top 24) 1
abbrev Jk : List Str := ["self"]
abbrev Dd : List Str := ["self"]
theorem O8 : FnScope Jk Dd (defScope wM) := ⟨rfl, rfl, rfl, by decide +kernel, rfl, by decide +kernel, by decide +kernel⟩
def De : PD := ⟨fun K => He.ma K (He.ga K "Tokens") "upcoming", "upcoming", "Tokens.upcoming", defArgs wM, defBody wM, defScope wM, [], [], false⟩
abbrev yo : Stmt := inClass (top 24) 4
abbrev Lp : List Str := ["self", "word"]
abbrev G3 : List Str := ["self", "word"]
theorem Uq : FnScope Lp G3 (defScope yo) := ⟨rfl, rfl, rfl, by decide +kernel, rfl, by decide +kernel, by decide +kernel⟩
def G4 : PD := ⟨fun K => He.ma K (He.ga K "Tokens") "skips", "skips", "Tokens.skips", defArgs yo, defBody yo, defScope yo, [], [], false⟩
abbrev vX : Stmt := inClass (top 24) 5
abbrev Gv : List Str := ["self"]
abbrev Av : List Str := ["self"]
theorem Mp : FnScope Gv Av (defScope vX) := ⟨rfl, rfl, rfl, by decide +kernel, rfl, by decide +kernel, by decide +kernel⟩
def Ax : PD := ⟨fun K => He.ma K (He.ga K "Tokens") "sees_number", "sees_number", "Tokens.sees_number", defArgs vX, defBody vX, defScope vX, [], [], false⟩
abbrev yW : Stmt := inClass (top 24) 2
abbrev M7 : List Str := ["self"]
abbrev HR : List Str := ["self"]
theorem Vd : FnScope M7 HR (defScope yW) := ⟨rfl, rfl, rfl, by decide +kernel, rfl, by decide +kernel, by decide +kernel⟩
def HS : PD := ⟨fun K => He.ma K (He.ga K "Tokens") "fail", "fail", "Tokens.fail", defArgs yW, defBody yW, defScope yW, [], [], false⟩
abbrev yX : Stmt := inClass (top 24) 3
abbrev M8 : List Str := ["self", "allowed", "word"]
abbrev Wr : List Str := ["self", "allowed"]
theorem Ve : FnScope M8 Wr (defScope yX) := ⟨rfl, rfl, rfl, by decide +kernel, rfl, by decide +kernel, by decide +kernel⟩
def HW : PD := ⟨fun K => He.ma K (He.ga K "Tokens") "take", "take", "Tokens.take", defArgs yX, defBody yX, defScope yX, [], [], false⟩
abbrev xH : Stmt := inClass (top 24) 6
abbrev Ks : List Str := ["self", "low", "high", "word"]
abbrev Gj : List Str := ["self", "low", "high"]
theorem SQ : FnScope Ks Gj (defScope xH) := ⟨rfl, rfl, rfl, by decide +kernel, rfl, by decide +kernel, by decide +kernel⟩
def Gk : PD := ⟨fun K => He.ma K (He.ga K "Tokens") "number", "number", "Tokens.number", defArgs xH, defBody xH, defScope xH, [], [], false⟩
abbrev Ay : Stmt := top 25
abbrev Qi : List Str := ["tokens", "start", "stop"]
abbrev Ku : List Str := ["tokens"]
theorem XF : FnScope Qi Ku (defScope Ay) := ⟨rfl, rfl, rfl, by decide +kernel, rfl, by decide +kernel, by decide +kernel⟩
def Kv : PD := ⟨fun K => He.ga K "read_slice", "read_slice", "read_slice", defArgs Ay, defBody Ay, defScope Ay, [], [], false⟩
abbrev yZ : Stmt := top 26
abbrev M9 : List Str := ["tokens", "kind", "measure", "fillings", "filling", "start", "stop"]
abbrev HX : List Str := ["tokens", "kind", "measure", "fillings"]
theorem Vf : FnScope M9 HX (defScope yZ) := ⟨rfl, rfl, rfl, by decide +kernel, rfl, by decide +kernel, by decide +kernel⟩
def HY : PD := ⟨fun K => He.ga K "read_filling", "read_filling", "read_filling", defArgs yZ, defBody yZ, defScope yZ, [], [], false⟩
abbrev Ci : Stmt := top 27
abbrev T6 : List Str := ["tokens", "word", "start", "stop", "measure", "fillings"]
abbrev Mq : List Str := ["tokens"]
theorem Zj : FnScope T6 Mq (defScope Ci) := ⟨rfl, rfl, rfl, by decide +kernel, rfl, by decide +kernel, by decide +kernel⟩
def Mr : PD := ⟨fun K => He.ga K "read_leaf", "read_leaf", "read_leaf", defArgs Ci, defBody Ci, defScope Ci, [], [], false⟩
abbrev Cj : Stmt := top 28
abbrev T7 : List Str := ["tokens", "inner", "word", "left", "right"]
abbrev Ms : List Str := ["tokens"]
theorem Zk : FnScope T7 Ms (defScope Cj) := ⟨rfl, rfl, rfl, by decide +kernel, rfl, by decide +kernel, by decide +kernel⟩
def Mu : PD := ⟨fun K => He.ga K "read_atom", "read_atom", "read_atom", defArgs Cj, defBody Cj, defScope Cj, [], [], false⟩
abbrev za : Stmt := top 29
abbrev Nb : List Str := ["tokens", "is_negative", "inner", "factor"]
abbrev Ib : List Str := ["tokens", "is_negative"]
theorem Vg : FnScope Nb Ib (defScope za) := ⟨rfl, rfl, rfl, by decide +kernel, rfl, by decide +kernel, by decide +kernel⟩
def Ie : PD := ⟨fun K => He.ga K "read_product", "read_product", "read_product", defArgs za, defBody za, defScope za, [], [], false⟩
abbrev Ck : Stmt := top 30
abbrev T8 : List Str := ["tokens", "found", "sign"]
abbrev Mv : List Str := ["tokens"]
theorem Zm : FnScope T8 Mv (defScope Ck) := ⟨rfl, rfl, rfl, by decide +kernel, rfl, by decide +kernel, by decide +kernel⟩
def Mw : PD := ⟨fun K => He.ga K "read_term", "read_term", "read_term", defArgs Ck, defBody Ck, defScope Ck, [], [], false⟩
abbrev JX : Stmt := top 31
abbrev aa7 : List Str := ["text", "readings", "tokens", "found"]
abbrev Ws : List Str := ["text", "readings"]
theorem adX : FnScope aa7 Ws (defScope JX) := ⟨rfl, rfl, rfl, by decide +kernel, rfl, by decide +kernel, by decide +kernel⟩
def Wt : PD := ⟨fun K => He.ga K "parse", "parse", "parse", defArgs JX, defBody JX, defScope JX, [], [], false⟩
abbrev Az : Stmt := inClass (top 40) 2
abbrev Ql : List Str := ["cls", "text", "readings"]
abbrev Kw : List Str := ["cls", "text", "readings"]
theorem XH : FnScope Ql Kw (defScope Az) := ⟨rfl, rfl, rfl, by decide +kernel, rfl, by decide +kernel, by decide +kernel⟩
def Ky : PD := ⟨fun K => cmA K (He.ga K "Term") "read", "read", "Term.read", defArgs Az, defBody Az, defScope Az, [], [], false⟩
abbrev xJ : Stmt := top 53
abbrev Kz : List Str := ["_law_node", "_law_place"]
abbrev Gm : List Str := ["_law_node"]
theorem S8 : FnScope Kz Gm (defScope xJ) := ⟨rfl, rfl, rfl, by decide +kernel, rfl, by decide +kernel, by decide +kernel⟩
def Gn : PD := ⟨fun K => He.ga K "_law_leaf_text", "_law_leaf_text", "_law_leaf_text", defArgs xJ, defBody xJ, defScope xJ, [], [], false⟩
abbrev yq : Stmt := top 46
abbrev Lq : List Str := ["one", "other", "at"]
abbrev G5 : List Str := ["one", "other"]
theorem Ur : FnScope Lq G5 (defScope yq) := ⟨rfl, rfl, rfl, by decide +kernel, rfl, by decide +kernel, by decide +kernel⟩
def G6 : PD := ⟨fun K => He.ga K "node_distance", "node_distance", "node_distance", defArgs yq, defBody yq, defScope yq, [], [], false⟩
abbrev Dt : Stmt := top 47
abbrev Vh : List Str := ["one", "other"]
abbrev N8 : List Str := ["one", "other"]
theorem aaK : FnScope Vh N8 (defScope Dt) := ⟨rfl, rfl, rfl, by decide +kernel, rfl, by decide +kernel, by decide +kernel⟩
def Oa : PD := ⟨fun K => He.ga K "distance", "distance", "distance", defArgs Dt, defBody Dt, defScope Dt, [], [], false⟩
abbrev Gx : Stmt := top 51
abbrev Xr : List Str := ["_law_source_here", "_law_some"]
abbrev Qm : List Str := ["_law_source_here", "_law_some"]
theorem abM : FnScope Xr Qm (defScope Gx) := ⟨rfl, rfl, rfl, by decide +kernel, rfl, by decide +kernel, by decide +kernel⟩
def Qn : PD := ⟨fun K => He.ga K "_law_of", "_law_of", "_law_of", defArgs Gx, defBody Gx, defScope Gx, [], [], false⟩
abbrev Cm : Stmt := top 52
abbrev T9 : List Str := ["_law_source_here", "_law_size", "_law_low", "_law_high", "_law_road", "_law_word"]
abbrev Mx : List Str := ["_law_source_here", "_law_size"]
theorem Zo : FnScope T9 Mx (defScope Cm) := ⟨rfl, rfl, rfl, by decide +kernel, rfl, by decide +kernel, by decide +kernel⟩
def Mz : PD := ⟨fun K => He.ga K "_law_leaf", "_law_leaf", "_law_leaf", defArgs Cm, defBody Cm, defScope Cm, [], [], false⟩
abbrev Ba : Stmt := top 54
abbrev Qo : List Str := ["_law_text", "_law_words", "_law_measure"]
abbrev KC : List Str := ["_law_text"]
theorem XJ : FnScope Qo KC (defScope Ba) := ⟨rfl, rfl, rfl, by decide +kernel, rfl, by decide +kernel, by decide +kernel⟩
def KD : PD := ⟨fun K => He.ga K "_law_parts", "_law_parts", "_law_parts", defArgs Ba, defBody Ba, defScope Ba, [], [], false⟩
abbrev Bb : Stmt := top 21
abbrev Qp : List Str := ["node", "inner"]
abbrev KH : List Str := ["node"]
theorem XM : FnScope Qp KH (defScope Bb) := ⟨rfl, rfl, rfl, by decide +kernel, rfl, by decide +kernel, by decide +kernel⟩
def KJ : PD := ⟨fun K => He.ga K "write_leaf", "write_leaf", "write_leaf", defArgs Bb, defBody Bb, defScope Bb, [], [], false⟩
abbrev Cp : Stmt := top 20
abbrev Ua : List Str := ["node", "kinds", "text"]
abbrev MF : List Str := ["node", "kinds"]
theorem Zq : FnScope Ua MF (defScope Cp) := ⟨rfl, rfl, rfl, by decide +kernel, rfl, by decide +kernel, by decide +kernel⟩
def MJ : PD := ⟨fun K => He.ga K "bracketed", "bracketed", "bracketed", defArgs Cp, defBody Cp, defScope Cp, [], [], false⟩
abbrev JZ : Stmt := top 22
abbrev aa8 : List Str := ["node", "inner", "sign", "kinds"]
abbrev Bc : List Str := ["node"]
theorem Zr : FnScope aa8 Bc (defScope JZ) := ⟨rfl, rfl, rfl, by decide +kernel, rfl, by decide +kernel, by decide +kernel⟩
def d_write : PD := ⟨fun K => He.ga K "write", "write", "write", defArgs JZ, defBody JZ, defScope JZ, [], [], false⟩
abbrev Be : Stmt := inClass (top 40) 3
abbrev Qq : List Str := ["self"]
abbrev KN : List Str := ["self"]
theorem XN : FnScope Qq KN (defScope Be) := ⟨rfl, rfl, rfl, by decide +kernel, rfl, by decide +kernel, by decide +kernel⟩
def KQ : PD := ⟨fun K => pgA K (He.ga K "Term") "text", "text", "Term.text", defArgs Be, defBody Be, defScope Be, [], [], false⟩
abbrev R5 : Stmt := top 55
abbrev afg : List Str := ["_law_script", "_law_at", "_law_source_here", "_law_size", "_law_found", "_law_place", "_law_other", "_law_told", "_law_due", "_law_one", "_law_two", "_law_part"]
abbrev ah4 : List Str := ["_law_script"]
theorem ag5 : FnScope afg ah4 (defScope R5) := ⟨rfl, rfl, rfl, by decide +kernel, rfl, by decide +kernel, by decide +kernel⟩
def afh : PD := ⟨fun K => He.ga K "law", "law", "law", defArgs R5, defBody R5, defScope R5, [], [], false⟩
def fa : List Fx := [.he (.free "len"),
 .he (.free "abs"),
 .he (.free "int"),
 .he (.glo "variant_nodes"),
 .he (.glo "Term"),
 .he (.glo "word_end"),
 .he (.glo "read_slice"),
 .he (.glo "read_filling"),
 .he (.glo "read_leaf"),
 .he (.glo "read_atom"),
 .he (.glo "read_product"),
 .he (.glo "Tokens"),
 .he (.glo "read_term"),
 .he (.glo "parse"),
 .he (.free "str"),
 .he (.glo "node_distance"),
 .he (.glo "_law_draw"),
 .he (.glo "_law_of"),
 .he (.glo "write"),
 .he (.glo "write_leaf"),
 .he (.glo "bracketed"),
 .he (.free "min"),
 .he (.free "max"),
 .he (.free "range"),
 .he (.glo "_law_source"),
 .he (.glo "_law_leaf"),
 .he (.glo "_law_leaf_text"),
 .he (.glo "variants"),
 .he (.glo "distance"),
 .he (.glo "_law_parts"),
 .he (.free "isinstance"),
 .he (.free "bool"),
 .he (.cls "Tokens"),
 .he (.noat "Tokens" "readings"),
 .he (.cls "Term"),
 .he (.noat "Term" "readings"),
 .he (.noat "Term" "node"),
 .he (.noat "Tokens" "words"),
 .he (.noat "Tokens" "places"),
 .he (.noat "Tokens" "spot"),
 .prop "Term" "text",
 .he (.meth "Tokens" "upcoming"),
 .he (.meth "Tokens" "fail"),
 .he (.meth "Tokens" "skips"),
 .he (.meth "Tokens" "sees_number"),
 .he (.meth "Tokens" "number"),
 .he (.meth "Tokens" "take"),
 .raw (fun K => bmX K (He.ga K "Tokens") "take"),
 .he (.glo "FILLINGS"),
 .tup (fun K => He.ga K "FILLINGS") [.str "raw", .str "zero", .str "held"],
 .he (.glo "TOTALS"),
 .tup (fun K => He.ga K "TOTALS") [.str "zero", .str "held"],
 .he (.str "LETTERS" "abcdefghijklmnopqrstuvwxyz"),
 .he (.str "DIGITS" "0123456789"),
 .he (.glo "OF_TOTALS"),
 .tup (fun K => He.ga K "OF_TOTALS") [.str "first", .str "last", .str "change", .str "rises"],
 .he (.glo "MEASURES"),
 .tup (fun K => He.ga K "MEASURES") [.str "first", .str "last", .str "top", .str "low", .str "change", .str "rises", .str "told"],
 .he (.int "MOST" 1000000),
 .raw (fun K => cmX K (He.ga K "Term") "read"),
 .he (.mkr "Term"),
 .he (.mkr "Tokens"),
 .ins "Tokens",
 .ins "Term",
 .kit (.o 0) (.b "bool") false,
 .kit (.o 0) (.b "int") false,
 .kit (.o 0) (.b "str") false,
 .kit (.o 0) (.b "tuple") false,
 .kit (.o 0) (.b "list") false,
 .kit (.o 1) (.b "bool") false,
 .kit (.o 1) (.b "int") false,
 .kit (.o 1) (.b "str") false,
 .kit (.o 1) (.b "tuple") false,
 .kit (.o 1) (.b "list") false,
 .he (.glo "law")]
def fn : List PD := [Jy, Gi, GZ, N5, Ml, N7, Dc, De, G4, Ax, HS, HW, Gk, Kv, HY, Mr, Mu, Ie, Mw, Wt, Ky, Gn, G6, Oa, Qn, Mz, KD, KJ, MJ, d_write, KQ, afh]
abbrev bB (K : PySem.W.Frag) : Prop := RW cn fa fn K
section
open PySem PySem.Spec PyProof.Rows L2
abbrev Rw : PySem.W.OpenRow := PySem.W.OpenLaw.row PySem.Challenge.rw_countrestarts_k79_distances
abbrev hk : PySem.W.Hook := Pk.hookP 7 cn fa fn
def ob (s : PySem.W.SharedT) : Pk.AlP := Pk.obsPG 7 cn fa fn (HandSHeadRun.getT s)
theorem ob_eq (s : PySem.W.SharedT) : ob s = hk.obs s.abs := Pk.obsPG_eq (HandSHeadRun.getT_eq s)
def names : List PySem.Str := "_wall" :: "CountError" :: "Unlike" :: "BadTerm" :: "BadText" :: "filled" :: "amounts" :: "rises_of" :: "told_of" :: "measure_of" :: "leaf_number" :: "measure_of_totals" :: "LETTERS" :: "DIGITS" :: "MEASURES" :: "OF_TOTALS" :: "MOST" :: "bracketed" :: "write_leaf" :: "write" :: "word_end" :: "Tokens" :: "read_slice" :: "read_filling" :: "read_leaf" :: "read_atom" :: "read_product" :: "read_term" :: "parse" :: "is_integer" :: "View" :: "view_of" :: "totals_of" :: "value_of" :: "Term" :: "FILLINGS" :: "TOTALS" :: "variant_nodes" :: "variants" :: "node_distance" :: "distance" :: "_law_source" :: "_law_draw" :: "_law_of" :: "_law_leaf" :: "_law_leaf_text" :: "_law_parts" :: []
theorem aiY {α β γ δ : Type} {o : Option α} {f : α → β} {g : α → γ} {k : α → δ} {a : β} {b : γ} {c : δ} (h1 : o.map f = some a) (h2 : o.map g = some b) (h3 : o.map k = some c) : o.map (fun s => (f s, g s, k s)) = some (a, b, c) := by
 cases o with
 | none => cases h1
 | some s =>
   cases h1
   cases h2
   cases h3
   rfl
abbrev vw : Program := PySem.W.view Rw.prog [55]
noncomputable abbrev ends (w : World) (os : PySem.OsState) : Option PySem.W.SharedT := HandSHeadRun.endF (HandSHeadRun.stepQ (HandSHeadRun.denQ HandSHeadRun.tabQ) Rw.prog w) 20000 Rw.prog w os
open PySem.W PySem.Calls HandSHeadRun in
set_option maxHeartbeats 0 in
theorem ah5 (w : World) (os : PySem.OsState) : (ends w os).map (fun s => looksF Rw.prog (boot_heap w.params) s.abs) = some true := by
 kernel_rfl
open PySem.W PySem.Calls HandSHeadRun in
set_option maxHeartbeats 0 in
theorem ah6 (w : World) (os : PySem.OsState) : (ends w os).map (fun s => seenQ vw names (importedModules Rw.prog.main.body) (fun s => xlAt vw [] s && recOk Rw.toRowW.records s) s.abs) = some (openGood vw names) := by
 kernel_rfl
abbrev fr0 (s : PySem.W.SharedT) : PySem.W.Frag := He.frG (HandSHeadRun.getT s) (Pk.asP (HandSHeadRun.getT s) 7)
abbrev nh : Nat := fn.length / 2
set_option maxHeartbeats 0 in
theorem ag6 (w : World) (os : PySem.OsState) : (ends w os).map (fun s => fa.all fun f => f.ok cn (fr0 s)) = some true := by
 kernel_rfl
set_option maxHeartbeats 0 in
theorem ag7 (w : World) (os : PySem.OsState) : (ends w os).map (fun s => (fn.take nh).all fun d => d.ok (fr0 s)) = some true := by
 kernel_rfl
set_option maxHeartbeats 0 in
theorem ag8 (w : World) (os : PySem.OsState) : (ends w os).map (fun s => (fn.drop nh).all fun d => d.ok (fr0 s)) = some true := by
 kernel_rfl
theorem all2 {α : Type} {l : List α} {p : α → Bool} {m : Nat} (h1 : (l.take m).all p = true) (h2 : (l.drop m).all p = true) : l.all p = true := by
 rw [← List.take_append_drop m l, List.all_append, h1, h2]
 rfl
theorem aiZ {α : Type} {o : Option α} {f g k b : α → Bool} (h1 : o.map f = some true) (h2 : o.map g = some true) (h3 : o.map k = some true) (h : ∀ s, f s = true → g s = true → k s = true → b s = true) : o.map b = some true := by
 cases o with
 | none => cases h1
 | some s => exact congrArg some (h s (Option.some.inj h1) (Option.some.inj h2) (Option.some.inj h3))
theorem ah7 (w : World) (os : PySem.OsState) : (ends w os).map (fun s => (ob s).1) = some true :=
 aiZ (ag6 w os) (ag7 w os) (ag8 w os) fun s h1 h2 h3 => (show ((fa.all fun f => f.ok cn (fr0 s)) && fn.all fun d => d.ok (fr0 s)) = true by rw [h1, all2 h2 h3]; rfl)
abbrev nq : Nat := fn.length / 3
set_option maxHeartbeats 0 in
theorem ag9 (w : World) (os : PySem.OsState) : (ends w os).map (fun s => (ob s).2.take nq) = some ((fn.map Pk.PD.val).take nq) := by
 kernel_rfl
set_option maxHeartbeats 0 in
theorem aha (w : World) (os : PySem.OsState) : (ends w os).map (fun s => ((ob s).2.drop nq).take nq) = some (((fn.map Pk.PD.val).drop nq).take nq) := by
 kernel_rfl
set_option maxHeartbeats 0 in
theorem ahb (w : World) (os : PySem.OsState) : (ends w os).map (fun s => ((ob s).2.drop nq).drop nq) = some (((fn.map Pk.PD.val).drop nq).drop nq) := by
 kernel_rfl
theorem ahc {α : Type} {l x : List α} {m : Nat} (h1 : l.take m = x.take m) (h2 : l.drop m = x.drop m) : l = x := by
 rw [← List.take_append_drop m l, h1, h2, List.take_append_drop]
theorem ai0 {α β : Type} {o : Option α} {f : α → List β} {x : List β} {m : Nat} (h1 : o.map (fun s => (f s).take m) = some (x.take m)) (h2 : o.map (fun s => ((f s).drop m).take m) = some ((x.drop m).take m)) (h3 : o.map (fun s => ((f s).drop m).drop m) = some ((x.drop m).drop m)) : o.map f = some x := by
 cases o with
 | none => cases h1
 | some s => exact congrArg some (ahc (Option.some.inj h1) (ahc (Option.some.inj h2) (Option.some.inj h3)))
theorem ah8 (w : World) (os : PySem.OsState) : (ends w os).map (fun s => (ob s).2) = some (fn.map Pk.PD.val) := ai0 (ag9 w os) (aha w os) (ahb w os)
theorem ai1 {α β γ : Type} {o : Option α} {f : α → β × γ} {a : β} {b : γ} (h1 : o.map (fun s => (f s).1) = some a) (h2 : o.map (fun s => (f s).2) = some b) : o.map f = some (a, b) := by
 cases o with
 | none => cases h1
 | some s =>
   have e1 := Option.some.inj h1
   have e2 := Option.some.inj h2
   exact congrArg some (Prod.ext e1 e2)
theorem run (w : World) : HandSHeadRun.RunEq Rw vw hk ob 20000 names w := fun os => aiY (ah5 w os) (ah6 w os) (ai1 (ah7 w os) (ah8 w os))
end
end L
namespace Pk
open PySem PySem.Spec L2
def Zt {α β : Type} (P : Wd → L2.St → Prop) (run : L2.St → Hp → (β → Hp → Prop) → Prop) (K : PySem.W.Frag) (T : Tb) (W : WX) (VR : wD β α) (m : M α) : Prop :=
 ∀ (B : Bs) (w : Wd) (σ : L2.St) (H : Hp) (fr : Fr) (h : Hh) (Q : β → Hp → Prop), P w σ → Rel K T B w σ H fr h → bz K T B W (VR K T B σ) w σ (m fr h) Q → run σ H Q
def akm (P : Wd → L2.St → Prop) : Prop := ∀ w w' σ, w.le w' → P w σ → P w' σ
abbrev SqE (P : Wd → L2.St → Prop) (X : Cx) (T : Tb) (W : WX) (e : Expr) (m : M D) : Prop := Zt P (WE X e) X.K T W vE m
abbrev SqV (P : Wd → L2.St → Prop) (X : Cx) (T : Tb) (W : WX) (e : Expr) (m : M D) : Prop := Zt P (WE X e) X.K T W vV m
abbrev akn (P : Wd → L2.St → Prop) (X : Cx) (T : Tb) (W : WX) (e : Expr) (m : M Bool) : Prop := Zt P (WT X e) X.K T W vB m
abbrev SqW (P : Wd → L2.St → Prop) (X : Cx) (T : Tb) (W : WX) (e : Expr) (m : M Bool) : Prop := Zt P (WW X e) X.K T W vB m
abbrev SqA (P : Wd → L2.St → Prop) (X : Cx) (T : Tb) (W : WX) (es : List Expr) (m : M (List D)) : Prop := Zt P (WA X es) X.K T W vA m
section
variable {P : Wd → L2.St → Prop} {X : Cx} {T : Tb} {W : WX} {a b c e : Expr} {es rest : List Expr} {m ma mb : M D} {n ta tb tc : M Bool} {ms : List (M D)} {pos : Pos}
end
def IW (P : Wd → L2.St → Prop) (K : PySem.W.Frag) (T : Tb) (B : Bs) (W : WX) (w : Wd) (r : R Fl) (D : Ends) : Prop :=
 match r with
 | .ok .nx fr h => ∀ w' σ' H', w.le w' → P w' σ' → Rel K T B w' σ' H' fr h → D.nx σ' H'
 | r => sY K T B W w r D
def SqS (P : Wd → L2.St → Prop) (X : Cx) (T : Tb) (W : WX) (st : Stmt) (m : M Fl) : Prop := ∀ (B : Bs) (w : Wd) (σ : L2.St) (H : Hp) (fr : Fr) (h : Hh) (D : Ends), P w σ → Rel X.K T B w σ H fr h → IW P X.K T B W w (m fr h) D → WS X st D σ H
def abN (P : Wd → L2.St → Prop) (X : Cx) (T : Tb) (W : WX) (sts : List Stmt) (m : M Fl) : Prop := ∀ (B : Bs) (w : Wd) (σ : L2.St) (H : Hp) (fr : Fr) (h : Hh) (D : Ends), P w σ → Rel X.K T B w σ H fr h → IW P X.K T B W w (m fr h) D → YC X sts D σ H
section
variable {P : Wd → L2.St → Prop} {K : PySem.W.Frag} {T : Tb} {B : Bs} {W : WX} {w w' : Wd} {σ : L2.St} {H : Hp}
theorem IW.of {r : R Fl} {D : Ends} (p : sY K T B W w r D) : IW P K T B W w r D := by
 cases r with
 | ok f fr h =>
   cases f with
   | nx => exact fun w' σ' H' l _ r => p w' σ' H' l r
   | _ => exact p
 | exc e fr h => exact p
 | err => exact p
theorem IW.le {r : R Fl} {D : Ends} (x : w.le w') (p : IW P K T B W w r D) : IW P K T B W w' r D := by
 cases r with
 | ok f fr h =>
   cases f with
   | nx => exact fun w2 σ2 H2 y => p w2 σ2 H2 (Wd.le_trans x y)
   | brk => exact sY.le x (show sY K T B W w (.ok .brk fr h) D from p)
   | ct => exact sY.le x (show sY K T B W w (.ok .ct fr h) D from p)
   | rt d => exact sY.le x (show sY K T B W w (.ok (.rt d) fr h) D from p)
 | exc e fr h => exact sY.le (D := D) (r := .exc e fr h) x p
 | err => exact p
theorem IW.bind {α β : Type} {VR : Wd → Hp → Fr → β → α → Prop} {m : M α} {f : α → M Fl} {fr : Fr} {h : Hh} {D : Ends} {Q : β → Hp → Prop} (p : IW P K T B W w (m.bind f fr h) D)
 (k : ∀ d fr1 h1 w1 H1 v, m fr h = .ok d fr1 h1 → w.le w1 → Rel K T B w1 σ H1 fr1 h1 → VR w1 H1 fr1 v d → IW P K T B W w1 (f d fr1 h1) D → Q v H1) : bz K T B W VR w σ (m fr h) Q := by
 cases e : m fr h with
 | ok d fr1 h1 =>
   rw [M.bind_ok e] at p
   exact fun w1 H1 v x r z => k d fr1 h1 w1 H1 v e x r z (p.le x)
 | exc y fr1 h1 =>
   rw [M.bind_exc e] at p
   exact fun w1 H1 c dd x r z => p w1 σ H1 c dd x r z
 | err =>
   rw [M.bind_err e] at p
   exact p.elim
end
section
variable {P : Wd → L2.St → Prop} {X : Cx} {T : Tb} {W : WX} {k : Nat} {pos pos' p2 : Pos} {e a b c : Expr} {st : Stmt} {sts as bs : List Stmt} {m : M D} {s n : M Fl} {t : M Bool}
end
def PX (K : PySem.W.Frag) (T : Tb) (i : Nat) (a : Addr) (x : bh) (cls : Value) (dd : Option Addr) : Wd → L2.St → Prop := fun w σ => σ[i]? = some (some (.ref a)) ∧ V5 K T w x cls dd
theorem V5.mono {K : PySem.W.Frag} {T : Tb} {w w' : Wd} {x : bh} {cls : Value} {dd : Option Addr} (l : w.le w') (h : V5 K T w x cls dd) : V5 K T w' x cls dd :=
 ⟨h.1, h.2.imp id fun ⟨d, vs, e1, e2, e3⟩ => ⟨d, vs, e1, l.1 _ _ e2, e3.mono l⟩⟩
section
variable {K : PySem.W.Frag} {T : Tb} {i j : Nat} {a : Addr} {x : bh} {cls : Value} {dd : Option Addr}
theorem ahd (h : j ≠ i := by decide) : ∀ w σ v, PX K T i a x cls dd w σ → PX K T i a x cls dd w (σ.set j v) := fun w σ v h' => ⟨by rw [alx h]; exact h'.1, h'.2⟩
end
structure Su (X : Cx) (T : Tb) (i : Nat) (a : Addr) (oe : Obj) (cls : Value) (dd : Option Addr) (pn : List (Addr × Obj)) (y : bh) : Prop where
 hz : Zc cls dd oe
 hf : ∃ vs, oe.data = .fields vs
theorem Su.st {X : Cx} {T : Tb} {i j : Nat} {a : Addr} {oe : Obj} {cls : Value} {dd : Option Addr} {pn : List (Addr × Obj)} {y : bh} (_ : Su X T i a oe cls dd pn y) (h : j ≠ i := by decide) : ∀ w σ v, PX X.K T i a y cls dd w σ → PX X.K T i a y cls dd w (σ.set j v) := ahd h
structure ako (K : PySem.W.Frag) (T : Tb) (tab : Tg → Tg → Option Bool) : Prop where
 kit : ∀ t u b, tab t u = some b → PySem.W.kitOne K (t.v T) (u.v T) = some b
 exc : ∀ c u b, tab (.o c) u = some b → L2.ExcC K (T.cad c)
def adY (tab : Tg → Tg → Option Bool) (c : Nat) (d : D) : Option Bool := match d with
 | .tup l => match Lj l with
   | some (u :: us) => Ko tab (.o c) (u :: us)
   | _ => none
 | d => match d.ctag with
   | some u => tab (.o c) u
   | none => none
def adZ (tab : Tg → Tg → Option Bool) (c : Nat) (mb : M D) : M D := mb.bind fun d => M.opt ((adY tab c d).map .bl)
def DkX (H : Hp) (dd : Option Addr) : Prop := dd = none ∨ ∃ d0 fs, dd = some d0 ∧ H d0 = some (.xd fs)
def akp (K : PySem.W.Frag) (C a : Addr) (dd : Option Addr) : List V → Hp → VK → Prop := fun xs H Q => ∃ (y : V) (b : Bool), xs = [.ref a, y] ∧ L2.ExcC K C ∧ DkX H dd ∧
 ((∃ cv, ClsV y cv ∧ PySem.W.kitOne K (.ref C) cv = some b) ∨ ∃ tp cs us, y = .ref tp ∧ L2.SqT K H tp cs ∧ Paired ClsV cs us ∧ PySem.W.kitAny K (.ref C) us = some b) ∧ Q (.bl b) H
section
variable {X : Cx} {T : Tb} {W : WX} {k i : Nat} {a : Addr} {oe : Obj} {cls : Value} {dd : Option Addr} {x : bh} {pn : List (Addr × Obj)} {tab : Tg → Tg → Option Bool} {b : Expr} {mb : M D} {n : Str} {np pf pos : Pos}
def mXf (j : Nat) (x : bh) : M D := fun fr h => match x.fs[j]? with
 | some d => .ok d fr h
 | none => .err
structure XfF (K : PySem.W.Frag) (T : Tb) (f : Str) (ix : Nat → Option Nat) : Prop where
 at_ : ∀ c j, ix c = some j → (T.fld c)[j]? = some f ∧ (T.fld c).Nodup ∧ XfC K (T.cad c) ∧ PySem.W.findIn K (.ref (T.cad c)) f = some none
def mXF (ix : Nat → Option Nat) (x : bh) : M D := match ix x.c with
 | some j => mXf j x
 | none => fun _ _ => .err
end
def ad0 (i : Nat) (r : R Fl) : R Fl := match r with
 | .ok .nx fr h => .ok .nx (fr.set i none) h
 | .ok .brk fr h => .ok .brk (fr.set i none) h
 | .ok .ct fr h => .ok .ct (fr.set i none) h
 | r => r
def abO (i : Nat) (cond : Nat → Option Bool) (mb : M Fl) (ms : bh → M Fl) : M Fl := fun fr h => match mb fr h with
 | .exc x fr1 h1 => match cond x.c with
   | some true => if i < fr1.length then ad0 i (ms x (fr1.set i none) h1) else .err
   | some false => .exc x fr1 h1
   | none => .err
 | r => r
def abP (cond : Nat → Option Bool) (mb : M Fl) (ms : bh → M Fl) : M Fl := fun fr h => match mb fr h with
 | .exc x fr1 h1 => match cond x.c with
   | some true => ms x fr1 h1
   | some false => .exc x fr1 h1
   | none => .err
 | r => r
section
variable {X : Cx} {T : Tb} {W : WX} {k : Nat} {x n : Str} {c : Value} {cond : Nat → Option Bool} {body suite : List Stmt} {b₀ : Stmt} {np pos pos' : Pos} {mb : M Fl} {ms : bh → M Fl}
end
end Pk
namespace PySem
namespace OwO
open PySem.W PySem.Calls PyProof.Rows
section
variable {prog : Program} {w : World} {A : Around} {E : Value → Shared → Prop} {s : Shared} {K : Frag} {x C L f : Addr} {h₀ : Heap} {m : Str → Option Value} {ox : Obj} {od : Option Obj} {t : String} {b : Value} {op : Operator} {Q : Value → Shared → Prop}
def akq (Q : Option Value → Shared → Prop) (v : Value) (s : Shared) : Prop := v ≠ .notImplemented ∧ Q (some v) s
end
section
variable {prog : Program} {w : World} {A : Around} {E : Value → Shared → Prop} {s : Shared} {x C dx : Addr}
end
end OwO
end PySem
namespace Pk
open PySem PySem.Spec L2
structure akr (X : Cx) (T : Tb) (k : Nat) (mt : Nat → Option Fn) : Prop where
 ex : ∀ c F, mt c = some F → ∃ (kk : Nat) (f : Addr) (fd : FuncData) (ps : List Str), Cls X.K (T.cad c) ∧ Meth X.K (T.cad c) (PySem.dunder "mul") f ∧ PySem.W.selfFirst X.K (T.cad c) = true ∧ v7 X.prog X.w X.K X.mg X.base T kk f fd ps F ∧ Bn X.K T fd ps 2 [] (aH []) ∧ kk ≤ k ∧
  ∃ g, PySem.W.findIn X.K (.ref (T.cad c)) (PySem.dunderR "mul") = some (some (.ref g))
structure ajU (X : Cx) (T : Tb) (k : Nat) (mt : Nat → Option Fn) : Prop where
 ex : ∀ c F, mt c = some F → ∃ (kk : Nat) (f : Addr) (fd : FuncData) (ps : List Str), Cls X.K (T.cad c) ∧ Meth X.K (T.cad c) (PySem.dunderR "mul") f ∧ PySem.W.selfFirst X.K (T.cad c) = true ∧ v7 X.prog X.w X.K X.mg X.base T kk f fd ps F ∧ Bn X.K T fd ps 2 [] (aH []) ∧ kk ≤ k ∧
  (∃ g, PySem.W.findIn X.K (.ref (T.cad c)) (PySem.dunder "mul") = some (some (.ref g))) ∧ PySem.W.subIn X.K (.ref (T.cad c)) (.type "int") = some false ∧ PySem.W.subIn X.K (.ref (T.cad c)) (.type "bool") = some false
def D.bty (h : Hh) (d : D) : Option String := match d.tag h with
 | some (.b t) => some t
 | _ => none
def abQ (mt : Nat → Option Fn) (ma mb : M D) : M D := ma.bind fun x => mb.bind fun y fr h => match fnOf mt h x, y.bty h with
 | some F, some _ => v4 fr (F [x, y] h)
 | _, _ => .err
def D.smp : D → Bool
 | .non => true
 | .bl _ => true
 | .int _ => true
 | _ => false
def abR (mt : Nat → Option Fn) (ma mb : M D) : M D := ma.bind fun x => mb.bind fun y fr h => match fnOf mt h y, x.smp with
 | some F, true => v4 fr (F [y, x] h)
 | _, _ => .err
section
variable {X : Cx} {T : Tb} {W : WX} {k : Nat} {a b : Expr} {ma mb : M D} {pos : Pos}
end
end Pk
namespace Pk
open PySem PySem.Spec L2
def ai2 (l : List ((Tg × Tg) × Bool)) : Tg → Tg → Option Bool := fun t u => alu (t, u) l
inductive abS (K : PySem.W.Frag) (T : Tb) : List ((Tg × Tg) × Bool) → Prop where
 | nil : abS K T []
 | cons {c : Nat} {u : Tg} {b : Bool} {l : List ((Tg × Tg) × Bool)} (q : PySem.W.kitOne K (.ref (T.cad c)) (u.v T) = some b) (i : L2.ExcC K (T.cad c)) (r : abS K T l) : abS K T (((.o c, u), b) :: l)
end Pk
namespace Pk
open PySem PySem.Spec L2
def Qs (mt : Nat → Option Fn) (o : D) (as : List D) : M D := fun fr h => match fnOf mt h o with
 | some F => match F (o :: as) h with
   | .ok d _ h => .ok d fr h
   | _ => .err
 | none => .err
def Yp (mt : Nat → Option Fn) (o : D) (as : List D) : M D := fun fr h => match fnOf mt h o with
 | some F => v4 fr (F (o :: as) h)
 | none => .err
section
variable {X : Cx} {T : Tb} {W : WX} {k kk j n : Nat} {f C : Addr} {fd : FuncData} {ps ks : List Str} {F : Fn} {m : Str} {pos pf : Pos} {a b : Expr} {ma mb : M D}
structure OwnRun (X : Cx) (T : Tb) (k n : Nat) (m : Str) (v : V) (H : Hp) (vs : List V) (Q : VK) (E : XK) : Prop where
 ex : ∃ (kk : Nat) (f : Addr) (fd : FuncData) (ps : List Str) (a C dx : Addr) (fs : List (Str × V)) (G : Fn), v = .ref a ∧ H a = some (.ins C dx fs) ∧ Cls X.K C ∧ Meth X.K C m f ∧ v7 X.prog X.w X.K X.mg X.base T kk f fd ps G ∧ kk ≤ k ∧
  ∃ g gV, KBn X.K fd ps (n + 1) [] g gV ∧ spF X.K T ps.length G (gV (.ref a :: vs) []) H Q E
def abT (d : D) : M D := fun fr h => match d with
 | .int i => if 0 ≤ i ∧ i < 2 ^ 60 then .ok (.int i) fr h else .err
 | _ => .err
def abU (mt : Nat → Option Fn) (ma : M D) : M D := ma.bind fun o => (Qs mt o []).bind abT
def abV (mt : Nat → Option Fn) (ma mb : M D) : M D := ma.bind fun o => mb.bind fun i => Yp mt o [i]
def aks (X : Cx) (T : Tb) (W : WX) (VR2 : wD V D) (op : CmpOp) (g : D → D → M Bool) : Prop :=
 ∀ B w σ H fr h x y d e Q, Rel X.K T B w σ H fr h → sS X.K T w x d → VR2 X.K T B σ w H fr y e → bz X.K T B W (vB X.K T B σ) w σ (g d e fr h) Q → rM X (compareOp op) x y H (fun z H' => ∃ c, z = .bl c ∧ Q c H')
def ad1 {α : Type} (g : D → D → M α) (ma mb : M D) : M α := ma.bind fun x => mb.bind fun y => g x y
def tbM (d : D) : M Bool := M.opt d.tb
def gIn (mt : Nat → Option Fn) (c : Bool → Bool) (x o : D) : M Bool := (Qs mt o [x]).bind fun d => (tbM d).bind fun b => M.ret (c b)
end
end Pk
namespace PySem
namespace OwE
open PySem.W PySem.Calls PyProof.Rows
section
variable {prog : Program} {w : World} {M : Model} {A : Around} {E : Value → Shared → Prop} {s : Shared} {K : Frag} {x C f : Addr} {ox : Obj} {od : Option Obj} {b tb : Value}
end
end OwE
end PySem
namespace Pk
open PySem PySem.Spec L2
def eqX (K : PySem.W.Frag) (C : Addr) : Bool := He.eqO (PySem.W.findIn K (.ref C) "__ne__") (some (some (.builtin "object.__ne__"))) && (decide (PySem.W.mroIn K C (.type "object") = some true) && (NQ.all (fun t => PySem.W.notFirst K C (.type t)) && NQ.all fun t => decide (PySem.W.subIn K (.ref C) (.type t) = some false)))
structure EqX (K : PySem.W.Frag) (C : Addr) : Prop where
 ne : PySem.W.findIn K (.ref C) "__ne__" = some (some (.builtin "object.__ne__"))
 ob : PySem.W.mroIn K C (.type "object") = some true
 nf : ∀ t ∈ NQ, PySem.W.notFirst K C (.type t) = true
 nb : ∀ t ∈ NQ, PySem.W.subIn K (.ref C) (.type t) = some false
structure EqF (K : PySem.W.Frag) (T : Tb) (mt : Nat → Option Fn) : Prop where
 ex : ∀ c F, mt c = some F → EqX K (T.cad c)
def gEq (mt : Nat → Option Fn) (c : Bool → Bool) (x y : D) : M Bool := fun fr h => if (y.bty h).isSome || (JL h x y).isSome then ((Qs mt x [y]).bind fun d => (tbM d).bind fun b => M.ret (c b)) fr h else .err
section
variable {X : Cx} {T : Tb} {W : WX} {k j : Nat}
end
end Pk
namespace Pk
open PySem PySem.Spec L2
theorem ac7 {K : PySem.W.Frag} {C : Addr} (h : Va K C = true) : ClX.CRead K C (.type "type") := by
 obtain ⟨c1, c2⟩ := He.ba h
 exact ⟨c1, He.eqO_ok c2⟩
def ccA (K : PySem.W.Frag) (C : Addr) (f : Str) : Addr := match PySem.W.findCls K (.ref C) (.type "type") f with
 | some (.val (.ref a)) => a
 | _ => 0
def ajV (K : PySem.W.Frag) (C : Addr) (f : Str) (vs : List He.Dv) : Bool := Va K C && ((match PySem.W.findCls K (.ref C) (.type "type") f with
 | some (.val (.ref a)) => decide (a = ccA K C f)
 | _ => false) && abK K (ccA K C f) vs)
structure ajW (X : Cx) (T : Tb) (c : Nat) (f : Str) (d : D) : Prop where
 ex : ∃ (u : Value) (v : V), ClX.CRead X.K (T.cad c) (.type "type") ∧ ClX.CVal X.K (T.cad c) (.type "type") f v u ∧ sS X.K T ⟨fun _ => none, []⟩ v d
section
variable {X : Cx} {T : Tb} {W : WX} {k c : Nat} {x f : Str} {p pos : Pos} {d : D}
end
end Pk
namespace PySem
namespace OwB
open PySem.W PySem.Calls PyProof.Rows
section
variable {prog : Program} {w : World} {A : Around} {E : Value → Shared → Prop} {s : Shared} {K : Frag} {x C f : Addr} {ox : Obj} {od : Option Obj}
def aji (Q : Bool → Shared → Prop) (v : Value) (s' : Shared) : Prop := match v with
 | .int n _ => (0 ≤ n ∧ n < 2 ^ 63) ∧ Q (n != 0) { s' with toks := s'.toks + 1 }
 | _ => False
end
end OwB
end PySem
namespace Pk
open PySem PySem.Spec L2
section
variable {X : Cx} {T : Tb} {W : WX} {k kk j n c : Nat} {pos pf px apos cpos p : Pos} {a b e : Expr} {es : List Expr} {ma mb m : M D} {m1 : M (List D)} {x f : Str}
structure NoB (K : PySem.W.Frag) (T : Tb) (mt : Nat → Option Fn) : Prop where
 ex : ∀ c F, mt c = some F → PySem.W.findIn K (.ref (T.cad c)) "__bool__" = some none
def akt (K : PySem.W.Frag) (C : Addr) : Bool := He.eqO (PySem.W.findIn K (.ref C) "__bool__") (some none)
def Zu (mt : Nat → Option Fn) (ma : M D) : M D := ma.bind fun o => (Qs mt o []).bind fun d => (abT d).bind fun d => M.opt (match d with
 | .int i => some (.bl (i != 0))
 | _ => none)
theorem aJ.eraseIdx {K : PySem.W.Frag} {w : Wd} : ∀ {vs : List V} {ds : List D} (n : Nat), aJ K T w vs ds → aJ K T w (vs.eraseIdx n) (ds.eraseIdx n)
 | _, _, _, .nil => .nil
 | _, _, 0, .cons _ t => t
 | _, _, n + 1, .cons h t => .cons h (aJ.eraseIdx n t)
def J5 (i : Nat) (d : D) : M D := fun fr h => match fr[i]?, d with
 | some (some (.nl l)), .int j => if -(2 ^ 63) ≤ j ∧ j < 2 ^ 63 then (match seqIndex? j l.length with
   | some q => (match l[q]? with
     | some y => .ok y (fr.set i (some (.nl (l.eraseIdx q)))) h
     | none => .err)
   | none => .err) else .err
 | _, _ => .err
def abW (i : Nat) (m : M D) : M D := (nM i wG).bind fun _ => m.bind fun d => J5 i d
theorem ad2 {A : Around} {pins : List (Addr × Obj)} {σ : L2.St} {H : Hp} {s : Shared} {Q : VK} {us : List Value} {vs : List V} {g : List Value → List Value → List Value} {gV : List V → List V → List V} {sp : Sp} {E : XK} {f : Addr} {fd : FuncData} {ps : List Str} (F : FnOk X.prog X.w X.K X.mg X.base (L2.CX X.prog X.w) kk f fd ps sp) (hr : Room kk A) (e0 : Env0 X.prog X.w X.K X.mg X.base A X.stack s H) (hb : KBn X.K fd ps n [] g gV)
 (hx : ∀ e s', L2.CX X.prog X.w X.stack H s E e s' → X.xe e s') (I : Inv X pins σ H s) (r : Vals vs us) (l1 : vs.length = n) (h : sp (gV vs []) H Q E) :
 codeAny (model X.prog X.w) A (.call (.ref f) ⟨us, []⟩) (fun r s' => match r with | .ok (.ret v) => EP X pins σ Q v s' | .ok _ => False | .error e => X.xe e s') s := by
 have r2 := hb.rel r (.nil : Vals [] [])
 refine codeAny_mono (F.run A X.stack s H ⟨us, []⟩ (g us []) (gV vs []) Q _ hr e0 (hb.to s us [] I.kIn (r.length.symm.trans l1) rfl) r2 h) fun r s' hq => ?_
 cases r with
 | error e => exact hx e s' hq
 | ok fl =>
   cases fl with
   | ret u => exact I.after hq
   | next => exact False.elim hq
   | brk => exact False.elim hq
   | cont => exact False.elim hq
structure CmF (X : Cx) (T : Tb) (k c : Nat) (m : Str) (n : Nat) (F : Fn) : Prop where
 ex : ∃ (kk : Nat) (p f : Addr) (fd : FuncData) (ps : List Str), ClX.CRead X.K (T.cad c) (.type "type") ∧ ClX.CMet X.K (T.cad c) (.type "type") m p f ∧ v7 X.prog X.w X.K X.mg X.base T kk f fd ps F ∧ Bn X.K T fd ps (n + 1) [] (aH []) ∧ kk ≤ k
theorem ahh {K : PySem.W.Frag} {C : Addr} {m : Str} (h : cmX K C m = true) : ClX.CRead K C (.type "type") ∧ ∃ p, ClX.CMet K C (.type "type") m p (cmA K C m) := by
 obtain ⟨c1, h⟩ := He.ba h
 refine ⟨ac7 c1, ?_⟩
 split at h
 · rename_i i p C' e
   obtain ⟨h1, h⟩ := He.ba h
   obtain ⟨h2, h⟩ := He.ba h
   obtain ⟨h3, h4⟩ := He.ba h
   have e1 := of_decide_eq_true h1
   have e2 := of_decide_eq_true h2
   subst e1 e2
   refine ⟨p, e, ?_, h4⟩
   split at h3
   · rename_i g rest er
     rw [er, of_decide_eq_true h3]
     exact ⟨rest, rfl⟩
   · cases h3
 · cases h
def Zv (n c : Nat) (F : Fn) (ma : M (List D)) : M D := ma.bind fun ds fr h => if ds.length = n then v4 fr (F (.cls c :: ds) h) else .err
theorem ah9 {F : Fn} {me : Str} {pl : Sem Bool} (C : Cq X T W k) (Cf : CmF X T k c me n F) (hm : X.mg x = some (.ref (T.cad c))) (sa : CQ X T W (e :: es) m1) (hg : Gl X x := by rfl) (hdb : (x == ("__debug__" : Str)) = false := by decide)
 (hst : starEach (e :: es) X.env = (false, eval e X.env) :: starEach es X.env := by exact uD rfl) (hpl : (backTo pos (starEach es X.env)).any (·.1) = false := by rfl)
 (ht : eval (.Call (.Attribute (.Name x p) me apos) (e :: es) [] pos) X.env = (do
  let ov ← eval (.Name x p) X.env
  standAt apos.atName
  let (f, first) ← holding [ov] (getMethod ov me pl)
  callWith pos f first (backTo pos (starEach (e :: es) X.env)) (backToKw pos (keywordEach [] X.env))) := by rfl) :
 zR X T W (.Call (.Attribute (.Name x p) me apos) (e :: es) [] pos) (Zv n c F m1) := fun B w σ H fr h Q R pp => WE.mk <| fun pins s I => by
 obtain ⟨kk, pa, f, fd, ps, cr, cm, fp, bn, hk⟩ := Cf.ex
 obtain ⟨g, gV, hb, hgD⟩ := bn.ex
 refine PySem.W.methodCall_KW (pl := pl) (thn (((agW (T := T) (W := W) (c := c) hm hg hdb) B w σ H fr h (fun v H1 => v = .ref (T.cad c) ∧ WA X (e :: es) σ H1 fun vs H2 => vs.length = n ∧ spF X.K T ps.length F (gV (.ref (T.cad c) :: vs) []) H2 Q (fun c d H' => W c d σ H')) R (fun w1 H1 v l1 R1 rv => ?_)).go pins s I) fun u s1 ⟨z, H1, I1, rx, ez, q⟩ => ?_) ht
 · cases rv with
   | cls _ =>
     refine ⟨rfl, sa B w1 σ H1 fr h _ R1 (bz.bind (VR := vA X.K T B σ) (pp.le l1) fun ds fr2 h2 w2 H2 vs e2 l2 r2 rs p3 => ?_)⟩
     have p4 : bz X.K T B W (vE X.K T B σ) w2 σ (if ds.length = n then v4 fr2 (F (.cls c :: ds) h2) else .err) Q := p3
     by_cases hl : ds.length = n
     · rw [if_pos hl] at p4
       have p5 : bz X.K T B W (vE X.K T B σ) w2 σ (if (D.cls c :: ds).length = n + 1 ∧ ([] : List D).length = 0 then v4 fr2 (F (aH [] (D.cls c :: ds) []) h2) else .err) Q := by
        rw [if_pos ⟨by rw [ald, hl], rfl⟩]
        show bz X.K T B W (vE X.K T B σ) w2 σ (v4 fr2 (F (D.cls c :: ds ++ []) h2)) Q
        rw [alb]
        exact p4
       exact ⟨rs.length.trans hl, (NP (n := n + 1) (m := 0) (zs := []) (es := []) (ds := D.cls c :: ds) hgD r2 (.cons (.cls c) rs) .nil p5).2.2⟩
     · rw [if_neg hl] at p4
       exact p4.elim
 · subst ez
   obtain rfl : u = Value.ref (T.cad c) := rx
   refine ClX.getmethcm_ok I1 cr cm fun s2 I2 => ?_
   refine ClX.callwith_cm I2 (ClX.base_none I1 (Nat.le_refl _)) cm.fi (thn (q.go pos _ s2 I2) fun us s3 ⟨vs, H2, I3, rv, l, q2⟩ => ⟨⟨ClX.pin_at I3, I3.kIn⟩, ?_⟩) hst hpl
   have cx : ∀ e s', L2.CX X.prog X.w X.stack H2 s3 (fun c d H' => W c d σ H') e s' → X.xe e s' := fun e s' z => passAt C.takes σ _ H2 s3 e s' I3 z
   have z := wpAny_call (PySem.W.method_call (ClX.pin_at I3) (ad2 (n := n + 1) (us := .ref (T.cad c) :: us) (vs := .ref (T.cad c) :: vs) fp.ok (C.room.mono hk) I3.env0 hb cx I3 (.cons rfl rv) (by rw [ald, l]) q2))
   exact thn z fun _ _ y => ClX.unpinE y
end
end Pk
namespace Pk
open PySem PySem.Spec L2
section
variable {X : Cx} {T : Tb} {W : WX} {k : Nat} {b : Expr} {mb : M D} {pos px : Pos}
def ajX (X : Cx) (T : Tb) (op : CmpOp) (f : Hh → D → D → Option Bool) : Prop :=
 ∀ B w σ H fr h x y d e c Q, Rel X.K T B w σ H fr h → vO X.K T B σ w H fr x d → vO X.K T B σ w H fr y e → f h d e = some c → Q (.bl c) H → rM X (compareOp op) x y H Q
def Zw (i : Nat) (f : Hh → D → D → Option Bool) (mb : M D) : M Bool := (xZ i).bind fun _ => mb.bind fun y => (g8 i).bind fun d fr h => M.opt (f h d y) fr h
end
end Pk
namespace PySem
namespace OwR
open PySem.W PySem.Calls PyProof.Rows
open PySem.AutoSeq1 (wpAny_loadPart')
section
variable {K : Frag} {x C : Addr} {ox : Obj} {od : Option Obj}
end
section
variable {prog : Program} {w : World} {A : Around} {E : Value → Shared → Prop} {s : Shared} {K : Frag} {x C f : Addr} {ox : Obj} {od : Option Obj} {a : Value} {t : String}
def ad3 (prog : Program) (w : World) (A : Around) (E : Value → Shared → Prop) (s : Shared) (a : Value) (nm : Str) (x : Addr) : Prop := ∀ P' : Option Value → Shared → Prop, P' none s → wpAny (model prog w) A (tryCompare a nm (.ref x)) P' E s
theorem right (op : CmpOp) {Q : Value → Shared → Prop} (hu : A.units < cLine) (X : K.In s.heap) (I : InstAt s.heap x ox C od) (h1 : oneThing? op a (.ref x) = none) (ha : Looks (model prog w) s.heap (typeOf a) (.type t)) (hn : subIn K (.ref C) (.type t) = some false)
 (hd : ad3 prog w A E s a (cmpInfo op).2.1 x) (h : wpAny (model prog w) A (tryCompare (.ref x) (cmpInfo op).2.2 a) (fun r s' => ∃ v, r = some v ∧ Q v s') E s) : wpAny (model prog w) A (richCompare op a (.ref x)) Q E s := by
 unfold richCompare
 simp only [h1]
 refine wpAny_holding (wpAny_bind (wpAny_cRoomFor hu ?_))
 refine wpAny_bind (ha.here (wpAny_bind (I.type.here ?_)))
 rw [if_pos (show ((Value.type t != Value.ref C) = true) from rfl)]
 refine wpAny_bind ((looks_subIn X hn).here ?_)
 simp only [Bool.false_eq_true, if_false]
 refine wpAny_bind (hd _ ?_)
 simp only [Bool.not_false, if_true]
 refine wpAny_bind (wpAny_mono h (fun r s' z => ?_) fun _ _ e => e)
 obtain ⟨v, rfl, q⟩ := z
 exact wpAny_pure q
end
end OwR
end PySem
namespace Pk
open PySem PySem.Spec L2
def ad4 (mt : Nat → Option Fn) (c : Bool → Bool) (x y : D) : M Bool := fun fr h => match fnOf mt h x with
 | some _ => gEq mt c x y fr h
 | none => if (x.bty h).isSome then ((Qs mt y [x]).bind fun d => (tbM d).bind fun b => M.ret (c b)) fr h else .err
section
variable {X : Cx} {T : Tb} {W : WX} {k j : Nat}
end
end Pk
namespace Pk
open PySem PySem.Spec L2
def ai3 (_ : Hh) : D → D → Option Bool
 | .bl a, .bl b => some (decide (a = b))
 | _, _ => none
def aia (_ : Hh) : D → D → Option Bool
 | .bl a, .bl b => some (!decide (a = b))
 | _, _ => none
section
variable {X : Cx} {T : Tb}
end
end Pk
namespace PySem
namespace OwT
open PySem.W PySem.Calls PyProof.Rows PySem.SeqAt
open PySem.AutoSeq1 (wpAny_loadPart')
section
variable {prog : Program} {w : World} {A : Around} {R : Result → Shared → Prop}
end
end OwT
end PySem
namespace Pk
open PySem PySem.Spec L2
mutual
def D.sim : D → D → Bool
 | .int i, .int j => i == j
 | .bl a, .bl b => a == b
 | .str a, .str b => a == b
 | .tup l, .tup m => D.sims l m
 | _, _ => true
def D.sims : List D → List D → Bool
 | d :: ds, e :: es => D.sim d e && D.sims ds es
 | [], [] => true
 | _, _ => false
end
section
variable {X : Cx} {T : Tb} {W : WX} {k j : Nat} {w : Wd} {pins : List (Addr × Obj)} {σ : L2.St} {H : Hp} {s : Shared}
mutual
theorem afR (I : Inv X pins σ H s) (sub : ∀ a o, w.F a = some o → H a = some o) : ∀ {v : V} {d : D}, sS X.K T w v d → ∀ {e : D}, sS X.K T w v e → D.sim d e = true
 | _, _, .tup h1 t1, _, r2 => by
   cases r2 with
   | tup h2 t2 =>
     have := I.tuple_inj (wZ sub h1) (wZ sub h2)
     subst this
     exact Zx I sub t1 t2
   | _ => rfl
 | _, _, .int i, _, r2 => by cases r2; simp [D.sim]
 | _, _, .bl b, _, r2 => by cases r2; simp [D.sim]
 | _, _, .str z, _, r2 => by cases r2; simp [D.sim]
 | _, _, .non, _, _ => rfl
 | _, _, .fl _ _, _, _ => rfl
 | _, _, .kl _ _, _, _ => rfl
 | _, _, .obj _ _, _, _ => rfl
 | _, _, .ref _, _, _ => rfl
 | _, _, .cls _, _, _ => rfl
 | _, _, .ty _, _, _ => rfl
 | _, _, .sl _, _, _ => rfl
theorem Zx (I : Inv X pins σ H s) (sub : ∀ a o, w.F a = some o → H a = some o) : ∀ {vs : List V} {ds : List D}, aJ X.K T w vs ds → ∀ {es : List D}, aJ X.K T w vs es → D.sims ds es = true
 | _, _, .nil, _, r2 => by cases r2; rfl
 | _, _, .cons h t, _, r2 => by
   cases r2 with
   | cons h2 t2 =>
     show (_ && _) = true
     rw [afR I sub h h2, Zx I sub t t2]
     rfl
end
noncomputable def pPair (mt : Nat → Option Fn) (nf : Nat → Nat) (h : Hh) : D → D → Option Bool
 | .obj c l, .obj c' m => if c = c' ∧ l.length = nf c ∧ m.length = nf c then match mt c with
  | some F => match F [.obj c l, .obj c m] h with
    | .ok (.bl b) _ h' => open Classical in if h' = h ∧ (b = true ∨ D.sims l m = false) then some b else none
    | _ => none
  | none => none
  else none
 | _, _ => none
noncomputable def ad5 (mt : Nat → Option Fn) (nf : Nat → Nat) (h : Hh) : List D → List D → Option Bool
 | d :: ds, e :: es => (pPair mt nf h d e).bind fun b => if b then ad5 mt nf h ds es else some false
 | [], [] => some true
 | _, _ => some false
noncomputable def abX (mt : Nat → Option Fn) (nf : Nat → Nat) (h : Hh) : D → D → Option Bool
 | .tup l, .tup m => ad5 mt nf h l m
 | _, _ => none
noncomputable def ad6 (mt : Nat → Option Fn) (nf : Nat → Nat) (x y : D) : M Bool := fun fr h => M.opt (abX mt nf h x y) fr h
structure NfF (T : Tb) (mt : Nat → Option Fn) (nf : Nat → Nat) : Prop where
 ex : ∀ c F, mt c = some F → (T.fld c).length = nf c
end
end Pk
namespace L2
open PySem PySem.Spec PyProof.Rows
def endsAt (oi : Option Nat) (D : Ends) : Ends := match oi with
 | none => D
 | some i => { nx := fun σ' H' => D.nx (σ'.set i none) H', rt := D.rt, bk := fun σ' H' => D.bk (σ'.set i none) H', ct := fun σ' H' => D.ct (σ'.set i none) H' }
def aba (oi : Option Nat) (σ : St) (a : Addr) : St := match oi with
 | none => σ
 | some i => σ.set i (some (.ref a))
abbrev Vi := Value × Option Nat × (Addr → Value → Option Addr → TS)
def ai4 (K : PySem.W.Frag) (Wout : WX) (D : Ends) : List Vi → WX
 | [] => Wout
 | (c, oi, ts) :: r => fun cls d σ H => ∃ b, PySem.W.exmOne K cls c = some b ∧ (b = true → ∀ a, H a = none → ts a cls d (endsAt oi D) (aba oi σ a) H) ∧ (b = false → ai4 K Wout D r cls d σ H)
inductive Vj (X : Cx) : Option Str → Option Nat → Prop
 | no : Vj X none none
 | at_ {n : Str} {i : Nat} (hi : X.N[i]? = some n) (hln : X.env.kindOf n = some .local) : Vj X (some n) (some i)
inductive Qt (X : Cx) : List ExceptHandler → List Vi → Prop
 | nil : Qt X [] []
 | cons {x : Str} {c : Value} {ts : Addr → Value → Option Addr → TS} {b₀ : Stmt} {suite : List Stmt} {np pos' : Pos} {nm : Option Str} {oi : Option Nat} {hds : List ExceptHandler} {l : List Vi} (hc : Names X x c) (hn : Vj X nm oi)
  (hsu : ∀ (a : Addr) (oe : Obj) (cls : Value) (d : Option Addr) (pn : List (Addr × Obj)), Zc cls d oe → (∃ vs, oe.data = .fields vs) → PSs (X.suite a ((a, oe) :: pn)) (b₀ :: suite) (ts a cls d)) (r : Qt X hds l) :
  Qt X (.ExceptHandler (some (.Name x np)) nm (b₀ :: suite) pos' :: hds) ((c, oi, ts) :: l)
section
variable {X : Cx} {body : List Stmt} {h₀ : ExceptHandler} {hds : List ExceptHandler} {l : List Vi} {pos : Pos} {tb : WX → TS} {Wout : WX}
end
end L2
namespace Pk
open PySem PySem.Spec L2
abbrev Hd := Option Nat × (Nat → Option Bool) × (bh → M Fl)
def zK : List Hd → bh → M Fl
 | [], x => fun fr h => .exc x fr h
 | (oi, cond, ms) :: r, x => fun fr h => match cond x.c with
   | some true => match oi with
     | some i => if i < fr.length then ad0 i (ms x (fr.set i none) h) else .err
     | none => ms x fr h
   | some false => zK r x fr h
   | none => .err
def abY (cs : List Hd) (mb : M Fl) : M Fl := fun fr h => match mb fr h with
 | .exc x fr1 h1 => zK cs x fr1 h1
 | r => r
section
variable {X : Cx} {T : Tb} {W : WX} {k : Nat} {body : List Stmt} {h₀ : ExceptHandler} {hds : List ExceptHandler} {pos : Pos} {mb : M Fl} {cs : List Hd}
inductive Qu (X : Cx) (T : Tb) (W : WX) : List ExceptHandler → List Hd → Prop
 | nil : Qu X T W [] []
 | named {x n : Str} {c : Value} {cond : Nat → Option Bool} {b₀ : Stmt} {suite : List Stmt} {np pos' : Pos} {i : Nat} {ms : bh → M Fl} {hds : List ExceptHandler} {l : List Hd} (hi : X.N[i]? = some n) (hln : X.env.kindOf n = some .local) (hc : Names X x c)
  (hcond : ∀ cc b, cond cc = some b → PySem.W.exmOne X.K (.ref (T.cad cc)) c = some b)
  (hsu : ∀ (a : Addr) (oe : Obj) (cls : Value) (d : Option Addr) (pn : List (Addr × Obj)) (y : bh), Su X T i a oe cls d pn y → abN (PX X.K T i a y cls d) (X.suite a ((a, oe) :: pn)) T W (b₀ :: suite) (ms y))
  (r : Qu X T W hds l) : Qu X T W (.ExceptHandler (some (.Name x np)) (some n) (b₀ :: suite) pos' :: hds) ((some i, cond, ms) :: l)
 | only {x : Str} {c : Value} {cond : Nat → Option Bool} {b₀ : Stmt} {suite : List Stmt} {np pos' : Pos} {ms : bh → M Fl} {hds : List ExceptHandler} {l : List Hd} (hc : Names X x c)
  (hcond : ∀ cc b, cond cc = some b → PySem.W.exmOne X.K (.ref (T.cad cc)) c = some b)
  (hsu : ∀ (a : Addr) (oe : Obj) (pn : List (Addr × Obj)) (y : bh), abN (fun _ _ => True) (X.suite a ((a, oe) :: pn)) T W (b₀ :: suite) (ms y))
  (r : Qu X T W hds l) : Qu X T W (.ExceptHandler (some (.Name x np)) none (b₀ :: suite) pos' :: hds) ((none, cond, ms) :: l)
end
end Pk
namespace Pk
open PySem PySem.Spec L2
section
variable {P : Wd → L2.St → Prop} {X : Cx} {T : Tb} {W : WX} {a b : Expr} {ma mb : M D} {pos pf : Pos} {x : Str} {tab : Tg → Tg → Option Bool}
end
end Pk
namespace Pk
open PySem PySem.Spec L2
def aib (_ : Hh) : D → Option D
 | .bl b => some (.str (if b then "True" else "False"))
 | _ => none
def ac8 (_ : Hh) : D → Option D
 | .bl b => some (.bl b)
 | .int i => some (.bl (i != 0))
 | _ => none
section
variable {X : Cx} {T : Tb} {W : WX} {a : Expr} {ma : M D} {pos pf : Pos}
end
end Pk
namespace Pk
open PySem PySem.Spec PyProof.Rows L2
def ajY : List Stmt → Expr
 | .Expr (.Call _ [e] _ _) _ :: _ => e
 | _ => .Name "" ⟨0, 0, 0, 0⟩
def abZ : List D → Option (List Str)
 | [] => some []
 | .str s :: r => (abZ r).map (s :: ·)
 | _ => none
def ajj (K : PySem.W.Frag) (H : Hp) (vs : List V) : Prop := ∃ (a : Addr) (ss : List Str), vs = [.ref a] ∧ SqT K H a (ss.map V.str) ∧ (ss.map (·.length)).sum + ss.length ≤ 1000
def ai5 (ds : List D) : Bool := match ds with
 | [.tup l] => match abZ l with
   | some ss => decide ((ss.map (·.length)).sum + ss.length ≤ 1000)
   | none => false
 | _ => false
inductive JP (scope : Scope) (m : Str → Option Value) : List Expr → List Str → Prop
 | nil : JP scope m [] []
 | con {z : Str} {j : Nat} {pos : Pos} {es : List Expr} {ys : List Str} (hz : z.length ≤ 2000) (r : JP scope m es ys) : JP scope m (.Constant (.str z) j pos :: es) (z :: ys)
 | int {f : Str} {i : Int} {t : Tok} {pos pos2 : Pos} {es : List Expr} {ys : List Str} (hl : scope.names.lookup f = some .local) (hd : (f == ("__debug__" : Str)) = false) (hm : m f = some (.int i t)) (hi : i.natAbs.log2 < 1920) (r : JP scope m es ys) : JP scope m (.FormattedValue (.Name f pos) (-1) none pos2 :: es) (toString i :: ys)
 | str {f y : Str} {t : Tok} {pos pos2 : Pos} {es : List Expr} {ys : List Str} (hl : scope.names.lookup f = some .local) (hd : (f == ("__debug__" : Str)) = false) (hm : m f = some (.str y t)) (hy : y.length ≤ 2000) (r : JP scope m es ys) : JP scope m (.FormattedValue (.Name f pos) (-1) none pos2 :: es) (y :: ys)
section
variable {scope : Scope} {qual : Str} {m : Str → Option Value} {L fI cda cc : Addr} {prog : Program} {w : World} {A' : Around} {h : Heap} {g : Array GenState} {d : Drawn} {os : OsState} {E' : Value → Shared → Prop}
end
end Pk
namespace L2
open PySem PySem.Spec PyProof.Rows
def Zy (X : Cx) (te : Expr) (tst : Value → Option Bool) : Prop :=
 ∀ (a : Addr) (oe : Obj) (pn pins : List (Addr × Obj)) (σ : St) (H : Hp) (s : Shared) (cls : Value) (b : Bool) (Q : Bool → Shared → Prop) (E : Value → Shared → Prop), Inv (X.suite a ((a, oe) :: pn)) pins σ H s → PySem.W.Looks (model X.prog X.w) s.heap (typeOf (.ref a)) cls → tst cls = some b →
   (∀ h', (∀ q o, s.heap.get? q = some o → h'.get? q = some o) → Q b { s with heap := h' }) →
   wpAny (model X.prog X.w) (X.A.mark (some (.ref a))) (eval te X.env) (fun c s1 => wpAny (model X.prog X.w) (X.A.mark (some (.ref a))) (excMatches (.ref a) c) Q E s1) E s
abbrev R6 := (Value → Option Bool) × Option Nat × (Addr → Value → Option Addr → TS)
def aic (Wout : WX) (D : Ends) : List R6 → WX
 | [] => Wout
 | (c, oi, ts) :: r => fun cls d σ H => ∃ b, c cls = some b ∧ (b = true → ∀ a, H a = none → ts a cls d (endsAt oi D) (aba oi σ a) H) ∧ (b = false → aic Wout D r cls d σ H)
inductive Us (X : Cx) : List ExceptHandler → List R6 → Prop
 | nil : Us X [] []
 | cons {te : Expr} {c : Value → Option Bool} {ts : Addr → Value → Option Addr → TS} {b₀ : Stmt} {suite : List Stmt} {pos' : Pos} {nm : Option Str} {oi : Option Nat} {hds : List ExceptHandler} {l : List R6} (hc : Zy X te c) (hn : Vj X nm oi)
  (hsu : ∀ (a : Addr) (oe : Obj) (cls : Value) (d : Option Addr) (pn : List (Addr × Obj)), Zc cls d oe → (∃ vs, oe.data = .fields vs) → PSs (X.suite a ((a, oe) :: pn)) (b₀ :: suite) (ts a cls d)) (r : Us X hds l) :
  Us X (.ExceptHandler (some te) nm (b₀ :: suite) pos' :: hds) ((c, oi, ts) :: l)
section
variable {X : Cx} {body : List Stmt} {h₀ : ExceptHandler} {hds : List ExceptHandler} {l : List R6} {pos : Pos} {tb : WX → TS} {Wout : WX}
end
end L2
namespace Pk
open PySem PySem.Spec L2
section
variable {X : Cx} {T : Tb} {W : WX} {k : Nat} {body : List Stmt} {h₀ : ExceptHandler} {hds : List ExceptHandler} {pos : Pos} {mb : M Fl} {cs : List Hd}
inductive Qv (X : Cx) (T : Tb) (W : WX) : List ExceptHandler → List Hd → Prop
 | nil : Qv X T W [] []
 | named {te : Expr} {n : Str} {tst : Value → Option Bool} {cond : Nat → Option Bool} {b₀ : Stmt} {suite : List Stmt} {pos' : Pos} {i : Nat} {ms : bh → M Fl} {hds : List ExceptHandler} {l : List Hd} (hi : X.N[i]? = some n) (hln : X.env.kindOf n = some .local) (hc : Zy X te tst)
  (hcond : ∀ cc b, cond cc = some b → tst (.ref (T.cad cc)) = some b)
  (hsu : ∀ (a : Addr) (oe : Obj) (cls : Value) (d : Option Addr) (pn : List (Addr × Obj)) (y : bh), Su X T i a oe cls d pn y → abN (PX X.K T i a y cls d) (X.suite a ((a, oe) :: pn)) T W (b₀ :: suite) (ms y))
  (r : Qv X T W hds l) : Qv X T W (.ExceptHandler (some te) (some n) (b₀ :: suite) pos' :: hds) ((some i, cond, ms) :: l)
 | only {te : Expr} {tst : Value → Option Bool} {cond : Nat → Option Bool} {b₀ : Stmt} {suite : List Stmt} {pos' : Pos} {ms : bh → M Fl} {hds : List ExceptHandler} {l : List Hd} (hc : Zy X te tst)
  (hcond : ∀ cc b, cond cc = some b → tst (.ref (T.cad cc)) = some b)
  (hsu : ∀ (a : Addr) (oe : Obj) (pn : List (Addr × Obj)) (y : bh), abN (fun _ _ => True) (X.suite a ((a, oe) :: pn)) T W (b₀ :: suite) (ms y))
  (r : Qv X T W hds l) : Qv X T W (.ExceptHandler (some te) none (b₀ :: suite) pos' :: hds) ((none, cond, ms) :: l)
def aku (K : PySem.W.Frag) (C : Addr) : Bool := PySem.W.excIn K C [.type "ValueError", .type "Exception", .type "BaseException", .type "object"] "ValueError.__new__" && (PySem.W.keepIn K (.ref C) && (decide (PySem.W.subIn K (.ref C) (.type "BaseException") = some true) && decide (PySem.W.typeIn K (.ref C) = some (.type "type"))))
structure ExB (K : PySem.W.Frag) (C : Addr) : Prop where
 q : PySem.W.excIn K C [.type "ValueError", .type "Exception", .type "BaseException", .type "object"] "ValueError.__new__" = true
 kC : PySem.W.keepIn K (.ref C) = true
 exC : PySem.W.subIn K (.ref C) (.type "BaseException") = some true
 tyC : PySem.W.typeIn K (.ref C) = some (.type "type")
def Wu (c : Nat) (ma : M D) : M Fl := ma.bind fun _ fr h => .exc ⟨c, []⟩ fr h
end
section
variable {P : Wd → L2.St → Prop} {X : Cx} {T : Tb} {W : WX} {a b e : Expr} {m ma mb : M D} {pos : Pos}
end
end Pk
namespace Pk
open PySem PySem.Spec L2
def KR : List D → List D → List D
 | a :: as, b :: bs => .tup [a, b] :: KR as bs
 | _, _ => []
def Zz : D → D → Option (List D)
 | .tup l, .tup m => some (KR l m)
 | .fl l, .fl m => some (KR l m)
 | .fl l, .kl m => some (KR l m)
 | .kl l, .fl m => some (KR l m)
 | .kl l, .kl m => some (KR l m)
 | _, _ => none
def ad7 (ma mb : M D) : M (List D) := ma.bind fun x => mb.bind fun y => M.opt (Zz x y)
section
variable {X : Cx} {T : Tb} {W : WX} {k kk : Nat} {pos p tpos : Pos} {elts : List Expr} {a b : Expr} {ma mb : M D}
end
section
variable {P : Wd → L2.St → Prop} {X : Cx} {T : Tb} {W : WX} {k : Nat} {a b e : Expr} {m ma mb : M D} {pos : Pos}
end
def Wv (n : Nat) (gs : List D → M Unit) (d : D) : M Unit := match d with
 | .tup l => if l.length = n then gs l else M.opt none
 | .fl l => if l.length = n then gs l else M.opt none
 | _ => M.opt none
def akv (_ : Hh) : D → D → Option D
 | .fl l, .int k => if 0 ≤ k ∧ k < 1000 ∧ l.length ≤ 100 then some (.nl (List.replicate k.toNat l).flatten) else none
 | _, _ => none
section
variable {X : Cx} {T : Tb} {W : WX} {k kk n : Nat} {is : List Nat} {tgs : List Expr} {gs : List D → M Unit} {pos : Pos} {a b : Expr} {ma mb : M D}
end
def putS : List Nat → List V → L2.St → L2.St
 | i :: is, v :: vs, σ => putS is vs (σ.set i (some v))
 | _, _, σ => σ
section
variable {X : Cx} {T : Tb} {W : WX} {k : Nat} {a b c : Expr} {pos : Pos}
end
end Pk
namespace Pk
open PySem PySem.Spec PyProof.Rows L2
section
variable {prog : Program} {w : World} {A : Around} {E : Value → Shared → Prop} {s : Shared} {l : Addr} {its : List Value} {ns : List Int} {Q : Value → Shared → Prop}
end
def ajZ (K : PySem.W.Frag) : List V → Hp → VK → Prop := fun vs H Q => ∃ (a : Addr) (ns : List Int), vs = [V.ref a] ∧ SqT K H a (ns.map V.int) ∧ 0 < ns.length ∧ ∀ m, m ∈ ns → (∀ y, y ∈ ns → y ≤ m) → Q (.int m) H
section
variable {X : Cx} {T : Tb} {W : WX} {k : Nat} {e a b c : Expr} {es : List Expr} {m ma mb mc : M D} {pos pf : Pos}
def aj0 (h : Hh) (d : D) : Option D := match d with
 | .tup l => match D.ints l with
   | some (a :: r) => some (.int (abE a r))
   | _ => none
 | _ => ah2 h d
end
end Pk
namespace Pk
open PySem PySem.Spec PyProof.Rows L2
section
variable {P : Program} {w : World} {A : Around} {E : Value → Shared → Prop} {s : Shared} {env : Env} {x : Str} {pe pt px p0 pc pos : Pos} {iter : Expr} {scope : Scope} {cl : List (Str × Addr)} {c : Int} {k0 : Nat} {Q : Value → Shared → Prop}
def ai6 (ns : List Int) (c : Int) (i : Nat) (k : Int) : Bool := decide (k ∈ (ns.take i).filter fun k => decide (k > c))
end
def ahi (a : Int) : List Int → List Int
 | [] => [a]
 | b :: l => if a < b then a :: b :: l else if a = b then b :: l else b :: ahi a l
def afi : List Int → List Int
 | [] => []
 | a :: l => ahi a (afi l)
section
variable {X : L2.Cx} {T : Tb} {W : WX} {k : Nat} {a iter : Expr} {ma : M D} {pf pos pe pt px p0 pc pos2 : Pos} {x : Str} {scope : Scope} {cl : List (Str × Addr)} {c : Int} {k0 : Nat}
def vSt (w0 : World) (c : Int) : wD V D := fun _ _ _ _ _ H _ v d => ∃ p is n, v = .ref p ∧ d = .fl (is.map .int) ∧ H p = some (SetO w0 p (ai6 is c is.length) n) ∧ n ≤ is.length ∧ is.length ≤ 50
def bTI : D → Option D
 | .tup l => match D.ints l with
   | some is => if is.length ≤ 50 then some (.fl (is.map .int)) else none
   | none => none
 | _ => none
def ajt (c : Int) (_ : Hh) (d : D) : Option D := match d with
 | .fl l => match D.ints l with
   | some is => some (.nl ((afi (is.filter fun k => decide (k > c))).map .int))
   | none => none
 | _ => none
def ahj (a : Int) : List Int → List Int
 | [] => [a]
 | b :: l => if a ≤ b then a :: b :: l else b :: ahj a l
def afj : List Int → List Int
 | [] => []
 | a :: l => ahj a (afj l)
def ajk (h : Hh) (d : D) : Option D := match d.lints h with
 | some is => if is.length < 64 then some (.nl ((afj is).map .int)) else none
 | none => none
end
end Pk
namespace Pk
open PySem PySem.Spec L2
def vJC : wD It (Nat × List D × List D) := fun K T B _ w _ _ J x => ∀ i w1 σ1 H1 fr1 h1, w.le w1 → Rel K T B w1 σ1 H1 fr1 h1 → h1[x.1]? = some (.nl x.2.1) →
 (x.2.2.length ≤ i → J.stop i H1) ∧ ∀ d, x.2.2[i]? = some d → J.go i H1 ∧ ∀ y H2, J.yld i H1 y H2 → ∃ w2, w1.le w2 ∧ Rel K T B w2 σ1 H2 fr1 h1 ∧ sS K T w2 y d
open Classical in
noncomputable def Vk (n : Nat) (l : List D) (g : D → M Unit) (b : M Fl) : List D → M Fl
 | [] => fun fr h => if h[n]? = some (.nl l) then .ok .nx fr h else .err
 | d :: ds => fun fr h => if h[n]? = some (.nl l) then (match g d fr h with
   | .ok _ fr h => match b fr h with
     | .ok .nx fr h => Vk n l g b ds fr h
     | .ok .ct fr h => Vk n l g b ds fr h
     | .ok .brk fr h => .ok .nx fr h
     | .ok (.rt d) fr h => .ok (.rt d) fr h
     | .exc x fr h => .exc x fr h
     | .err => .err
   | _ => .err) else .err
noncomputable def Qw (li : M (Nat × List D × List D)) (g : D → M Unit) (b : M Fl) : M Fl := li.bind fun x => Vk x.1 x.2.1 g b x.2.2
def Lr (h : Hh) (d : D) : Option (Nat × List D) := match d with
 | .ref n => match h[n]? with
   | some (.nl l) => some (n, l)
   | _ => none
 | _ => none
def Ww (m : M D) : M (Nat × List D × List D) := m.bind fun d fr h => M.opt ((Lr h d).map fun x => (x.1, x.2, x.2)) fr h
def ad8 (h : Hh) (d e : D) : Option (Nat × List D × List D) := match Lr h d, e with
 | some (n, l), .fl m => some (n, l, KR l m)
 | _, _ => none
def ab0 (ma mb : M D) : M (Nat × List D × List D) := ma.bind fun d => mb.bind fun e fr h => M.opt (ad8 h d e) fr h
section
variable {X : Cx} {T : Tb} {W : WX} {k kk : Nat} {pos p tpos : Pos} {tg iter a c : Expr} {elts : List Expr} {body : List Stmt} {g : D → M Unit} {b : M Fl} {is : List Nat} {li : M (Nat × List D × List D)} {ma mb : M D}
theorem aid {w w' : Wd} {n : Nat} {q : Addr} (l : w.le w') (h : w.I[n]? = some q) : w'.I[n]? = some q := by
 obtain ⟨r, e⟩ := l.2
 rw [e, List.getElem?_append_left (List.getElem?_eq_some_iff.mp h).1]
 exact h
end
end Pk
namespace PySem
namespace SlK
open Sem (wp)
open PySem.W PySem.Calls PyProof.Rows
section
variable {prog : Program} {w : World} {A : Around} {E : Value → Shared → Prop} {h : Heap} {g : Array GenState} {d : Drawn} {t : Nat} {os : OsState} {a : Addr} {o : Obj}
end
section
variable {prog : Program} {w : World} {A : Around} {E : Value → Shared → Prop} {s : Shared} {K : Frag} {x C L f : Addr} {h₀ : Heap} {m : Str → Option Value} {ox : Obj} {od : Option Obj}
end
end SlK
end PySem
namespace Pk
open PySem PySem.Spec L2
def akx (K : PySem.W.Frag) (C : Addr) : Bool := PySem.W.noSeq K C
structure aky (K : PySem.W.Frag) (T : Tb) (mt : Nat → Option Fn) : Prop where
 ex : ∀ c F, mt c = some F → PySem.W.noSeq K (T.cad c) = true
section
variable {X : Cx} {T : Tb} {W : WX} {k kk j n c : Nat} {pos pf px p2 : Pos} {a b e : Expr} {es : List Expr} {lo hi : Option Expr} {ma mb m : M D} {ml mh : M (Option Int)} {x : Str}
def ZC (mt : Nat → Option Fn) (ma : M D) (ml mh : M (Option Int)) : M D := ma.bind fun o => ml.bind fun l => mh.bind fun u => Yp mt o [.sl l u]
def ai7 (t : String) : Bool := ["int", "bool", "str", "tuple", "list"].contains t
def Yq (tab : Tg → Tg → Option Bool) (h : Hh) (d c : D) : Option D := match d with
 | .sl _ _ => match c with
   | .ty t => if ai7 t then some (.bl false) else none
   | _ => none
 | d => Jw tab h d c
theorem ZD {tab : Tg → Tg → Option Bool} (F : Wn X.K T tab) {B : Bs} {w : Wd} {σ : L2.St} {H : Hp} {fr : Fr} {h : Hh} {x y : V} {d e z : D} {Q : VK} (R : Rel X.K T B w σ H fr h) (rx : sS X.K T w x d) (ry : sS X.K T w y e) (q : Jw tab h d e = some z)
 (kk : ∀ w' H' v, w.le w' → Rel X.K T B w' σ H' fr h → vV X.K T B σ w' H' fr v z → Q v H') : cM X (.builtin "isinstance") [x, y] H Q := by
 unfold Jw at q
 cases et : d.tag h with
 | none => rw [et] at q; cases q
 | some t =>
   rw [et] at q
   have one : ∀ u, e.ctag = some u → (tab t u).map D.bl = some z → cM X (.builtin "isinstance") [x, y] H Q := fun u ec eq => by
    obtain ⟨bb, eb, rfl⟩ := Option.map_eq_some_iff.mp eq
    exact yj call_isi ⟨x, y, t.v T, u.v T, bb, rfl, Ul ry ec, RP F R (.inl rx) et eb, F.kit t u bb eb, kk w H _ (Wd.le_refl _) R (.bl bb)⟩
   cases e with
   | tup l =>
     dsimp only at q
     cases ec : Lj l with
     | none => rw [ec] at q; cases q
     | some us =>
       rw [ec] at q
       cases us with
       | nil => cases q
       | cons u us =>
         obtain ⟨bb, eb, rfl⟩ := Option.map_eq_some_iff.mp q
         obtain ⟨p, vs, rfl, sq, rs⟩ := JW ry
         have ty : TyX X.K H x (t.v T) := by
          rcases TQ eb with z | ⟨u', b', z⟩
          · cases z
          · exact RP F R (.inl rx) et z
         exact yj Xq ⟨x, p, vs, t.v T, (u :: us).map (Tg.v T), bb, rfl, wZ R.sub sq, Qg rs ec, ty, NT F eb, kk w H _ (Wd.le_refl _) R (.bl bb)⟩
   | cls c => exact one _ rfl q
   | ty t => exact one _ rfl q
   | _ => cases q
def R7 (h : Hh) (d i : D) : Option D := match i with
 | .sl lo hi => match d.der h with
   | .fl l => some (.nl (cutD l lo hi))
   | .nl l => some (.nl (cutD l lo hi))
   | .kl l => some (.nl (cutD l lo hi))
   | _ => none
 | i => bA h d i
end
end Pk
namespace Pk
open PySem PySem.Spec L2
section
variable {X : Cx} {T : Tb} {W : WX} {k kk j n c : Nat} {pos pf px p2 p pr : Pos} {a b e : Expr} {es : List Expr} {ma mb m : M D} {ms : List (M D)} {x : Str}
def ai8 (a b : Int) : Bool := decide (-(2 ^ 62) ≤ a) && decide (a < 2 ^ 62) && decide (-(2 ^ 62) ≤ b) && decide (b < 2 ^ 62) && decide ((b - a).toNat ≤ 2 ^ 24)
def rgD (a b : Int) : List D := (List.range (b - a).toNat).map fun i => D.int (a + (i : Nat))
def bRg (x y : D) : Option D := match x, y with
 | .int a, .int b => if ai8 a b then some (.nl (rgD a b)) else none
 | _, _ => none
def ZF (ma : M D) : M D := ma.bind fun n => M.opt (bRg (.int 0) n)
def ZG (ma mb : M D) : M D := ma.bind fun a => mb.bind fun b => M.opt (bRg a b)
def Oc (i : Nat) (f : Int → Int → Int) (m : M D) : M Fl := fun fr h => match fr[i]? with
 | some (some (.int a)) => (m.bind fun d fr h => match d with
   | .int b => .ok .nx (fr.set i (some (.int (f a b)))) h
   | _ => .err) fr h
 | _ => .err
theorem s_aug {op : Operator} {f : Int → Int → Int} (C : Cq X T W k) (i : Nat) (ho : PIp X op (ipI f)) (s : cP X T W e m) (hN : X.N[i]? = some x := by rfl) (hx : Loc X.env.scope x := by first | exact Or.inl rfl | exact Or.inr rfl) (hf : X.fn x = true ∨ X.env.scope.names.lookup x = some .local := by first | exact .inl rfl | exact .inr rfl) :
 Ar X T W (.AugAssign (.Name x px) op e pos) (Oc i f m) := fun B w σ H fr h D R p => by
 unfold Oc at p
 split at p
 · rename_i a e1
   obtain ⟨v, e2, z⟩ := vz R e1
   have ev : v = .int a := by
    cases z with
    | val r => exact vG r
    | own O eH r => cases r
   subst ev
   refine Ac (ps_aug C.nd hN hx nU ho hf) ⟨.int a, e2, s B w σ H fr h _ R (sY.bind (VR := vV X.K T B σ) p fun d fr1 h1 w1 H1 v e3 l1 r1 rd p1 => ?_)⟩
   cases d with
   | int b => exact ⟨a, b, rfl, vG rd, p1 w1 _ H1 (Wd.le_refl _) (r1.putV i (.int _))⟩
   | _ => exact (show False from p1).elim
 · exact p.elim
def ZJ (d : D) : Option D := match d with
 | .str y => if y.length ≤ big then some (.str y) else none
 | .int i => if i.natAbs.log2 < 1920 then some (.str (toString i)) else none
 | _ => none
def yL (m : M D) : M D := m.bind fun d => M.opt (ZJ d)
theorem wN (s : cP X T W e m) : cP X T W (.FormattedValue e (-1) none pos) (yL m) := fun B w σ H fr h Q R p =>
 vm (pe_fmt nU) (s B w σ H fr h _ R (bz.bind (VR := vV X.K T B σ) p fun d fr1 h1 w1 H1 v e1 l1 r1 rd p1 => by
  have p1 : bz X.K T B W (vV X.K T B σ) w1 σ (M.opt (ZJ d) fr1 h1) Q := p1
  unfold ZJ at p1
  split at p1
  · split at p1
    · rename_i hl
      exact .inl ⟨_, wJ rd, xF hl, p1 w1 H1 _ (Wd.le_refl _) r1 (.str _)⟩
    · exact p1.elim
  · split at p1
    · rename_i hl
      exact .inr ⟨_, vG rd, hl, p1 w1 H1 _ (Wd.le_refl _) r1 (.str _)⟩
    · exact p1.elim
  · exact p1.elim))
def vS : wD Str Str := fun _ _ _ _ _ _ _ b c => b = c
def Ov : List (M D) → Str → M Str
 | [], acc => M.ret acc
 | m :: ms, acc => m.bind fun d => match d with
   | .str y => if (acc ++ y).length ≤ big then Ov ms (acc ++ y) else M.opt none
   | _ => M.opt none
def ab1 (X : Cx) (T : Tb) (W : WX) (es : List Expr) (ms : List (M D)) : Prop := ∀ acc, v5 (fun σ H Q => tJs (es.map fun e => (WE X e : TE)) acc σ H Q) X.K T W vS (Ov ms acc)
theorem ac9 : ∀ es : List Expr, PJ X es (es.map fun e => (WE X e : TE))
 | [] => .nil
 | _ :: es => .cons nU (ac9 es)
theorem Fe : ab1 X T W [] [] := fun acc B w σ H fr h Q R p => p w H acc (Wd.le_refl _) R rfl
theorem sO (s : cP X T W e m) (t : ab1 X T W es ms) : ab1 X T W (e :: es) (m :: ms) := fun acc B w σ H fr h Q R p =>
 s B w σ H fr h (fun x H1 => ∃ y : Str, x = .str y ∧ (acc ++ y).length ≤ sizeLine ∧ tJs (es.map fun e => (WE X e : TE)) (acc ++ y) σ H1 Q) R (bz.bind (VR := vV X.K T B σ) p fun d fr1 h1 w1 H1 v e1 l1 r1 rd p1 => by
   cases d with
   | str y =>
     have p2 : bz X.K T B W (vS X.K T B σ) w1 σ ((if (acc ++ y).length ≤ big then Ov ms (acc ++ y) else M.opt none) fr1 h1) Q := p1
     by_cases hl : (acc ++ y).length ≤ big
     · rw [if_pos hl] at p2
       exact ⟨y, wJ rd, xF hl, t (acc ++ y) B w1 σ H1 fr1 h1 Q r1 p2⟩
     · rw [if_neg hl] at p2
       exact p2.elim
   | _ => exact (show False from p1).elim)
def Bo (ms : List (M D)) : M D := (Ov ms Str.empty).bind fun s => M.ret (.str s)
theorem yP {v1 v2 : Expr} {rest : List Expr} (s : ab1 X T W (v1 :: v2 :: rest) ms) : cP X T W (.JoinedStr (v1 :: v2 :: rest) pos) (Bo ms) := fun B w σ H fr h Q R p =>
 vm (pe_joined (ac9 _)) (s Str.empty B w σ H fr h _ R (bz.bind (VR := vS X.K T B σ) p fun d fr1 h1 w1 H1 v e1 l1 r1 rd p1 => by
  have rd' : v = d := rd
  subst rd'
  exact p1 w1 H1 _ (Wd.le_refl _) r1 (.str _)))
end
structure WM (X : Cx) (cs : List MatchCase) (z : Str) (D : Ends) (σ : L2.St) (H : Hp) : Prop where
 go : ∀ pins s t first, Inv X pins σ H s → wpAny (model X.prog X.w) X.A (matchCases cs X.env (.str z t) first) (SP X pins D) X.xe s
structure ab2 (X : Cx) (p : Pattern) (ss : List Str) : Prop where
 go : ∀ (z : Str) pins (σ : L2.St) (H : Hp) s t (R : Option (List (Str × Value)) → Shared → Prop), Inv X pins σ H s → (∀ s', Inv X pins σ H s' → R (if ss.contains z then some [] else none) s') → wpAny (model X.prog X.w) X.A (matchPattern p X.env (.str z t)) R X.xe s
structure Yr (X : Cx) (ps : List Pattern) (ss : List Str) : Prop where
 go : ∀ (z : Str) pins (σ : L2.St) (H : Hp) s t (R : Option (List (Str × Value)) → Shared → Prop), Inv X pins σ H s → (∀ s', Inv X pins σ H s' → R (if ss.contains z then some [] else none) s') → wpAny (model X.prog X.w) X.A (matchFirst ps X.env (.str z t)) R X.xe s
section
variable {X : Cx} {T : Tb} {W : WX} {pos p2 : Pos} {e : Expr} {m : M D} {cs : List MatchCase} {ms : List (List Str × M Fl)} {body : List Stmt} {mb : M Fl} {pt : Pattern} {pts : List Pattern} {ss ts : List Str} {y : Str} {jj : Nat}
theorem J8 : ab2 X (.MatchValue (.Constant (.str y) jj p2) pos) [y] := ⟨fun z pins σ H s t R I q => by
 refine wpAny_matchPattern_Value ?_
 refine thn ((vm (X := X) (e := .Constant (.str y) jj p2) pe_str (σ := σ) (H := H) (Q := fun v H1 => v = .str y ∧ H1 = H) (And.intro rfl rfl)).go pins s I) fun v s1 ⟨x, H1, I1, r1, ex, eH⟩ => ?_
 subst ex eH
 have o := op_eq (X := X) pins s1 σ H1 (.str z) (.str y) (.str z t) v (fun w H2 => w = .bl (decide (V.str z = V.str y)) ∧ H2 = H1) I1 ⟨_, rfl⟩ r1 ⟨rfl, rfl, rfl⟩
 refine thn o fun c s2 ⟨cv, H2, I2, rc, ec, eH⟩ => ?_
 subst ec eH
 obtain rfl : c = Value.bool _ := rc
 refine wpAny_truthy_bool ?_
 have key := q s2 I2
 have e1 : ([y] : List Str).contains z = decide (V.str z = V.str y) := by
  rw [List.contains_cons]
  by_cases h : z = y
  · subst h
    simp
  · have h2 : ¬ (V.str z = V.str y) := fun w => h (V.str.inj w)
    simp [h, h2]
 rw [e1] at key
 cases hb : decide (V.str z = V.str y) with
 | true => rw [hb] at key; exact key
 | false => rw [hb] at key; exact key⟩
theorem ZK : Yr X [] [] := ⟨fun z pins σ H s t R I q => wpAny_matchFirst_nil (q s I)⟩
theorem Ls (h : ab2 X pt ss) (t : Yr X pts ts) : Yr X (pt :: pts) (ss ++ ts) := ⟨fun z pins σ H s tk R I q => by
 refine wpAny_matchFirst_cons (h.go z pins σ H s tk _ I fun s1 I1 => ?_)
 have ec : (ss ++ ts).contains z = (ss.contains z || ts.contains z) := by
  rw [Bool.eq_iff_iff]
  simp
 cases hz : ss.contains z with
 | true =>
   have := q s1 I1
   rw [ec, hz] at this
   exact this
 | false =>
   refine t.go z pins σ H s1 tk _ I1 fun s2 I2 => ?_
   have := q s2 I2
   rw [ec, hz] at this
   exact this⟩
theorem ada (h : Yr X pts ss) (hn : namesOfAll (pts.take 1) = [] := by rfl) : ab2 X (.MatchOr pts pos) ss := ⟨fun z pins σ H s t R I q => by
 refine wpAny_matchPattern_Or (h.go z pins σ H s t _ I fun s1 I1 => ?_)
 have := q s1 I1
 cases hz : ss.contains z with
 | true =>
   rw [hz] at this
   show R (some ((namesOfAll (pts.take 1)).filterMap _)) s1
   rw [hn]
   exact this
 | false =>
   rw [hz] at this
   exact this⟩
def ab3 (X : Cx) (T : Tb) (W : WX) (cs : List MatchCase) (m : Str → M Fl) : Prop := ∀ z, ∀ (B : Bs) (w : Wd) (σ : L2.St) (H : Hp) (fr : Fr) (h : Hh) (D : Ends), Rel X.K T B w σ H fr h → sY X.K T B W w (m z fr h) D → WM X cs z D σ H
def Df : List (List Str × M Fl) → Str → M Fl
 | [], _ => M.ret .nx
 | (ss, b) :: r, z => if ss.contains z then b else Df r z
theorem ahk : ab3 X T W [] (Df []) := fun z B w σ H fr h D R p => ⟨fun pins s t first I => wpAny_matchCases_nil ⟨σ, H, I, p w σ H (Wd.le_refl _) R⟩⟩
theorem R8 (hp : ab2 X pt ss) (hb : Fy X T W body mb) (t : ab3 X T W cs (Df ms)) : ab3 X T W (⟨pt, none, body⟩ :: cs) (Df ((ss, mb) :: ms)) := fun z B w σ H fr h D R p => ⟨fun pins s tk first I => by
 refine wpAny_matchCases_cons (hp.go z pins σ H s tk _ I fun s1 I1 => ?_)
 have p' : sY X.K T B W w ((if ss.contains z then mb else Df ms z) fr h) D := p
 cases hz : ss.contains z with
 | true =>
   rw [hz] at p'
   exact wpAny_assignInOrder_none ((hb B w σ H fr h D R p').go pins s1 I1)
 | false =>
   rw [hz] at p'
   exact (t z B w σ H fr h D R p').go pins s1 tk false I1⟩
def Qx (m : M D) (f : Str → M Fl) : M Fl := m.bind fun d => match d with
 | .str z => f z
 | _ => fun _ _ => .err
theorem afS {f : Str → M Fl} (s : cP X T W e m) (t : ab3 X T W cs f) : Ar X T W (.Match e cs pos) (Qx m f) := fun B w σ H fr h D R p => ⟨fun pins s1 I => by
 refine wpAny_Match (thn ((s B w σ H fr h (fun x H1 => ∃ z, x = .str z ∧ WM X cs z D σ H1) R (sY.bind (VR := vV X.K T B σ) p fun d fr1 h1 w1 H1 v e1 l1 r1 rd p1 => ?_)).go pins s1 I) fun v s2 ⟨x, H1, I1, rx, z, ex, q⟩ => ?_)
 · cases d with
   | str z => exact ⟨z, wJ rd, t z B w1 σ H1 fr1 h1 D r1 p1⟩
   | _ => exact (show False from p1).elim
 · subst ex
   obtain ⟨tk, rfl⟩ := rx
   exact q.go pins s2 tk true I1⟩
end
end Pk
namespace Pk
open PySem PySem.Spec L2
section
variable {X : Cx} {T : Tb} {W : WX} {k : Nat} {pos pf : Pos} {a : Expr} {ma : M D}
def R9 (_ : Hh) (d : D) : Option D := match d with
 | .int i => if i.natAbs.log2 < 1920 then some (.str (toString i)) else none
 | .str z => some (.str z)
 | _ => none
theorem abd (sa : cP X T W a ma) (hm : X.mg "str" = none) (hg : Gl X "str" := by rfl) (he : starEach (a :: []) X.env = (false, eval a X.env) :: starEach [] X.env := by exact uD rfl) : cP X T W (.Call (.Name "str" pf) [a] [] pos) (iy R9 ma) :=
 agM (id := "str") sa (fun B w σ H fr h x d z Q R rx q k => by
  unfold R9 at q
  split at q
  · split at q
    · rename_i hl
      cases q
      rw [vG rx]
      exact yj call_str_int ⟨_, rfl, hl, k w H _ (Wd.le_refl _) R (.str _)⟩
    · cases q
  · cases q
    rw [wJ rx]
    exact yj SkE.call_str_str ⟨_, rfl, k w H _ (Wd.le_refl _) R (.str _)⟩
  · cases q) hm hg (by decide +kernel) (by decide) (by decide) he
end
end Pk
namespace Pk
open PySem PySem.Spec L2
section
variable {X : Cx} {T : Tb} {W : WX} {k j : Nat} {pos : Pos} {a b : Expr} {ma mb : M D}
end
end Pk
namespace Pk
open PySem PySem.Spec PyProof.Rows L2
section
variable {prog : Program} {w : World} {A : Around} {E : Value → Shared → Prop} {s : Shared} {l : Addr} {its : List Value} {ns : List Int} {Q : Value → Shared → Prop}
end
def aj1 (K : PySem.W.Frag) : List V → Hp → VK → Prop := fun vs H Q => ∃ (a : Addr) (ns : List Int), vs = [V.ref a] ∧ SqT K H a (ns.map V.int) ∧ Q (.int ns.sum) H
section
variable {X : Cx} {T : Tb} {W : WX} {k : Nat} {e a b c : Expr} {es : List Expr} {m ma mb mc : M D} {pos pf : Pos}
def Ys (h : Hh) (d : D) : Option D := match d with
 | .tup l => (D.ints l).map fun l => .int l.sum
 | _ => YZ h d
end
end Pk
namespace PySem
namespace OwA
open PySem.W PySem.Calls PyProof.Rows
section
variable {prog : Program} {w : World} {A : Around} {E : Value → Shared → Prop} {s : Shared} {K : Frag} {x C L f : Addr} {h₀ : Heap} {m : Str → Option Value} {ox : Obj} {od : Option Obj}
end
end OwA
end PySem
namespace Pk
open PySem PySem.Spec L2
section
variable {X : Cx} {T : Tb} {W : WX} {k j : Nat} {pos pf : Pos} {a b : Expr} {ma mb : M D}
def ad9 (mt : Nat → Option Fn) (ma : M D) : M D := ma.bind fun o => Qs mt o []
def aj2 (K : PySem.W.Frag) (C : Addr) (f : Str) (i : Int) : Bool := Va K C && (match PySem.W.findCls K (.ref C) (.type "type") f with
 | some (.val (.int j _)) => decide (j = i)
 | _ => false)
end
end Pk
namespace PySem
namespace OwO
open PySem.W PySem.Calls PyProof.Rows
section
variable {prog : Program} {w : World} {A : Around} {E : Value → Shared → Prop} {s : Shared} {x C dx : Addr}
end
structure NmOk (nm : String) : Prop where
 n0 : fillsNumberSlot (.type "NoneType") nm = pure false
 n1 : fillsNumberSlot (.type "str") nm = pure false
 n2 : fillsNumberSlot (.type "list") nm = pure false
 n3 : fillsNumberSlot (.type "tuple") nm = pure false
 i0 : fillsNumberSlot (.type "int") nm = pure true
 b0 : fillsNumberSlot (.type "bool") nm = pure true
 i1 : numberSlotInPython (.type "int") nm = pure false
 b1 : numberSlotInPython (.type "bool") nm = pure false
 i2 : ∃ tk, typeLookup (.type "int") (dunderR nm) = pure tk
 b2 : ∃ tk, typeLookup (.type "bool") (dunderR nm) = pure tk
 ti : ∀ (prog : Program) (w : World) (A : Around) (E : Value → Shared → Prop) (s : Shared) (x C dx : Addr) (a : Int) (t : Tok), s.heap.get? x = some (instObj C dx) → ∀ P' : Option Value → Shared → Prop, P' none s → wpAny (model prog w) A (tryMethod (.int a t) (PySem.dunder nm) (.ref x)) P' E s
 tb : ∀ (prog : Program) (w : World) (A : Around) (E : Value → Shared → Prop) (s : Shared) (x C dx : Addr) (a : Bool), s.heap.get? x = some (instObj C dx) → ∀ P' : Option Value → Shared → Prop, P' none s → wpAny (model prog w) A (tryMethod (.bool a) (PySem.dunder nm) (.ref x)) P' E s
end OwO
end PySem
namespace Pk
open PySem PySem.Spec L2
structure OpF (X : Cx) (T : Tb) (k : Nat) (nm : String) (mt : Nat → Option Fn) : Prop where
 ok : PySem.OwO.NmOk nm
 ex : ∀ c F, mt c = some F → ∃ (kk : Nat) (f : Addr) (fd : FuncData) (ps : List Str), Cls X.K (T.cad c) ∧ Meth X.K (T.cad c) (PySem.dunder nm) f ∧ PySem.W.selfFirst X.K (T.cad c) = true ∧ v7 X.prog X.w X.K X.mg X.base T kk f fd ps F ∧ Bn X.K T fd ps 2 [] (aH []) ∧ kk ≤ k ∧
  ∃ g, PySem.W.findIn X.K (.ref (T.cad c)) (PySem.dunderR nm) = some (some (.ref g))
structure akz (X : Cx) (T : Tb) (k : Nat) (nm : String) (mt : Nat → Option Fn) : Prop where
 ex : ∀ c F, mt c = some F → ∃ (kk : Nat) (f : Addr) (fd : FuncData) (ps : List Str), Cls X.K (T.cad c) ∧ Meth X.K (T.cad c) (PySem.dunderR nm) f ∧ PySem.W.selfFirst X.K (T.cad c) = true ∧ v7 X.prog X.w X.K X.mg X.base T kk f fd ps F ∧ Bn X.K T fd ps 2 [] (aH []) ∧ kk ≤ k ∧
  (∃ g, PySem.W.findIn X.K (.ref (T.cad c)) (PySem.dunder nm) = some (some (.ref g))) ∧ PySem.W.subIn X.K (.ref (T.cad c)) (.type "int") = some false ∧ PySem.W.subIn X.K (.ref (T.cad c)) (.type "bool") = some false
def Yt (mtl mtr : Nat → Option Fn) (h : Hh) (x y : D) : Option (Fn × Bool) := match JL h x y with
 | some c => (mtl c).map fun F => (F, false)
 | none => match fnOf mtl h x, y.bty h with
   | some F, some _ => some (F, false)
   | _, _ => match fnOf mtr h y, x.smp with
     | some F, true => some (F, true)
     | _, _ => none
def aea (mtl mtr : Nat → Option Fn) (ma mb : M D) : M D := ma.bind fun x => mb.bind fun y fr h => match Yt mtl mtr h x y with
 | some (F, false) => v4 fr (F [x, y] h)
 | some (F, true) => v4 fr (F [y, x] h)
 | none => .err
section
variable {X : Cx} {T : Tb} {W : WX} {k : Nat} {a b : Expr} {ma mb : M D} {pos : Pos} {op : Operator}
theorem Od {e : Expr} : cP X T W e (fun _ _ => .err) := fun B w σ H fr h Q R p => p.elim
def ZL (X : Cx) (T : Tb) (W : WX) (k : Nat) (σ : L2.St) (f : Addr) (x y : V) (H2 : Hp) (Q : VK) : Prop :=
 ∃ (kk : Nat) (fd : FuncData) (ps : List Str) (G : Fn), v7 X.prog X.w X.K X.mg X.base T kk f fd ps G ∧ Bn X.K T fd ps 2 [] (aH []) ∧ kk ≤ k ∧
   ∀ g gV, KBn X.K fd ps 2 [] g gV → (∀ (w : Wd) (vs zs : List V) (ds es : List D), aJ X.K T w vs ds → aJ X.K T w zs es → ds.length = 2 → es.length = ([] : List Str).length → aJ X.K T w (gV vs zs) (aH [] ds es) ∧ (aH [] ds es).length = ps.length) →
     spF X.K T ps.length G (gV [x, y] []) H2 Q (fun c d H' => W c d σ H')
def ajv (X : Cx) (T : Tb) (W : WX) (k : Nat) (op : Operator) (σ : L2.St) (x y : V) (H2 : Hp) (Q : VK) : Prop :=
 (∃ (p1 p2 C dx dy f : Addr) (fs gs : List (Str × V)), x = .ref p1 ∧ y = .ref p2 ∧ H2 p1 = some (.ins C dx fs) ∧ H2 p2 = some (.ins C dy gs) ∧ Meth X.K C (PySem.dunder op.info.2) f ∧ PySem.W.selfFirst X.K C = true ∧ ZL X T W k σ f x y H2 Q) ∨
 (∃ (p1 C dx f g : Addr) (fs : List (Str × V)) (t : String), x = .ref p1 ∧ H2 p1 = some (.ins C dx fs) ∧ TyX X.K H2 y (.type t) ∧ t ∈ NQ ∧ Meth X.K C (PySem.dunder op.info.2) f ∧ PySem.W.selfFirst X.K C = true ∧ PySem.W.findIn X.K (.ref C) (PySem.dunderR op.info.2) = some (some (.ref g)) ∧ ZL X T W k σ f x y H2 Q) ∨
 (∃ (p1 C dx f g : Addr) (fs : List (Str × V)), y = .ref p1 ∧ H2 p1 = some (.ins C dx fs) ∧ (x = .non ∨ (∃ bb, x = .bl bb) ∨ ∃ i, x = .int i) ∧ Meth X.K C (PySem.dunderR op.info.2) f ∧ PySem.W.selfFirst X.K C = true ∧ PySem.W.findIn X.K (.ref C) (PySem.dunder op.info.2) = some (some (.ref g)) ∧ PySem.W.subIn X.K (.ref C) (.type "int") = some false ∧ PySem.W.subIn X.K (.ref C) (.type "bool") = some false ∧ ZL X T W k σ f y x H2 Q)
end
end Pk
namespace Pk
open PySem PySem.Spec L2
def D.lstP (h : Hh) (d : D) : Option (List PyData) := match d.der h with
 | .fl l => D.toPs l
 | .nl l => D.toPs l
 | .kl l => D.toPs l
 | _ => none
section
variable {K : PySem.W.Frag} {T : Tb} {B : Bs} {w : Wd} {σ : L2.St} {H : Hp} {fr : Fr} {h : Hh} {v : V} {d : D} {ps : List PyData}
end
section
variable {X : Cx} {T : Tb} {W : WX} {k : Nat}
def ai9 (h : Hh) (x y : D) : Option Bool := match x.toP, y.lstP h with
 | some p, some ps => if SeqAt.shaped p && SeqAt.shaped (.list ps) then some (ps.any fun z => PyData.eqv z p) else none
 | _, _ => none
def aj3 (h : Hh) (x y : D) : Option Bool := (ai9 h x y).map (!·)
def J9 (h : Hh) (o x : D) : Option D := match x.toP, o.lstP h with
 | some p, some ps => if SeqAt.shaped p && SeqAt.shaped (.list ps) then (ps.findIdx? fun z => PyData.eqv z p).map (fun j => .int (j : Nat)) else none
 | _, _ => none
def ZM (mo m : M D) : M D := mo.bind fun o fr h => if (o.lstP h).isSome then m.bind (fun x fr h => M.opt (J9 h o x) fr h) fr h else .err
variable {e o : Expr} {m mo : M D} {cpos apos : Pos}
end
end Pk
namespace Pk
open PySem PySem.Spec L2
def akA (ix : Nat → Option Nat) (x : D) : M D := fun fr h => M.opt (uY ix h x) fr h
section
variable {X : Cx} {T : Tb} {W : WX} {k j : Nat} {apos pos : Pos} {o b : Expr} {mo mb : M D} {f : Str} {ix : Nat → Option Nat}
end
end Pk
namespace Pk
open PySem PySem.Spec L2
def vJD : wD It (Nat × List D × List D) := fun K T _ _ w _ _ J x => ∀ i w1 B1 σ1 H1 fr1 h1, w.le w1 → Rel K T B1 w1 σ1 H1 fr1 h1 → h1[x.1]? = some (.nl x.2.1) →
 (x.2.2.length ≤ i → J.stop i H1) ∧ ∀ d, x.2.2[i]? = some d → J.go i H1 ∧ ∀ y H2, J.yld i H1 y H2 → ∃ w2, w1.le w2 ∧ Rel K T B1 w2 σ1 H2 fr1 h1 ∧ sS K T w2 y d
open Classical in
noncomputable def Yu (n : Nat) (l : List D) (vs : List Nat) (g : D → M Unit) (t : M Bool) (e : M D) : List D → M (List D)
 | [] => fun fr h => if h[n]? = some (.nl l) then .ok [] fr h else .err
 | d :: ds => fun fr h => if h[n]? = some (.nl l) then ((FJ vs g t e d).bind fun o => (Yu n l vs g t e ds).bind fun r => M.ret (Gf o r)) fr h else .err
noncomputable def ZP (vs : List Nat) (l : M (Nat × List D × List D)) (g : D → M Unit) (t : M Bool) (e : M D) : M D := l.bind fun x => (U6 vs).bind fun _ => if x.2.2.length ≤ big then (Yu x.1 x.2.1 vs g t e x.2.2).bind fun r => M.ret (.nl r) else M.opt none
section
variable {X : Cx} {T : Tb} {W : WX} {k : Nat} {pos pos' : Pos} {tg iter elt c e : Expr} {ifs : List Expr} {li : M (Nat × List D × List D)} {g : D → M Unit} {b : M Fl} {is : List Nat} {t : M Bool} {m me : M D} {scope : Scope} {own : List (Str × Nat)} {body : List Stmt}
end
section
variable {X : Cx} {T : Tb} {W : WX} {k : Nat} {pos : Pos} {tg iter elt : Expr} {ifs : List Expr} {lj : M (List D)} {g : D → M Unit} {is : List Nat} {t : M Bool} {me : M D} {scope : Scope} {own : List (Str × Nat)}
end
end Pk
namespace Pk
open PySem PySem.Spec L2
def keyD : D → Option Key
 | .int i => some (.inl i)
 | .str s => some (.inr s)
 | _ => none
def afk : List D → Option (List Key)
 | [] => some []
 | d :: ds => (keyD d).bind fun k => (afk ds).map fun ks => k :: ks
def valD : List (List Key) → List D → List Key → Option D
 | k' :: ks, d :: ds, k => if k' = k then some d else valD ks ds k
 | _, _, _ => none
def ahl (ks : List (List Key)) (k : List Key) : Bool := ks.any fun k' => decide (k' = k)
def aie (ks : List (List Key)) (k : List Key) : List (List Key) := if ahl ks k = true then ks else ks ++ [k]
def aif {α : Type} (ks : List (List Key)) (ds : List α) (k : List Key) (v : α) : List α := if ahl ks k = true then List.zipWith (fun k' d => if k' = k then v else d) ks ds else ds ++ [v]
def afl (ds : List D) : Option (List Key) := if ds.length ≤ big then afk ds else none
def adb (h : Hh) (d : D) : Option (Nat × List (List Key) × List D) := match d with
 | .ref n => match h[n]? with
   | some (.dc ks ds) => some (n, ks, ds)
   | _ => none
 | _ => none
def ab4 (h : Hh) (o : D) (ks : List D) : Option D := (adb h o).bind fun x => (afl ks).bind fun k => valD x.2.1 x.2.2 k
def Yv (h : Hh) (o : D) (ks : List D) (d : D) : Option Hh := (adb h o).bind fun x => (afl ks).bind fun k => if x.2.1.length ≤ big then some (h.set x.1 (.dc (aie x.2.1 k) (aif x.2.1 x.2.2 k d))) else none
def afm : M D := fun fr h => .ok (.ref h.length) fr (h ++ [.dc [] []])
def ab5 (mo : M D) (ms : List (M D)) : M D := mo.bind fun o => (aa ms).bind fun ks fr h => M.opt (ab4 h o ks) fr h
def ab6 (mo : M D) (ms : List (M D)) (mv : M D) : M Fl := mv.bind fun d => mo.bind fun o => (aa ms).bind fun ks fr h => match Yv h o ks d with
 | some h' => .ok .nx fr h'
 | none => .err
section
variable {X : Cx} {T : Tb} {W : WX} {k x1 : Nat} {pos tpos pos' : Pos} {o e : Expr} {es : List Expr} {mo m : M D} {ms : List (M D)}
end
end Pk
namespace Pk
open PySem PySem.Spec L2
def akB (K : PySem.W.Frag) (ta : TE) (f : Str) : TG := fun v σ H Q => ta σ H fun x H1 => ∃ a C dx fs, x = .ref a ∧ H1 a = some (.ins C dx fs) ∧ Cls K C ∧ NoAttr K C f ∧ fs.length < 1000 ∧ Q σ (upd H1 a (.ins C dx (putF f v fs)))
section
variable {X : Cx} {o : Expr} {f : Str} {pos : Pos} {ta : TE}
end
def ab7 (j : Nat) (ix : Nat → Option Nat) (d : D) : M Unit := fun fr h => match fr[j]? with
 | some (some (.ref n)) => match h[n]? with
   | some (.no c fs) => match ix c with
     | some i => match wY i d fs with
       | some fs' => .ok () fr (h.set n (.no c fs'))
       | none => .err
     | none => .err
   | _ => .err
 | _ => .err
section
variable {X : Cx} {T : Tb} {W : WX} {k kk n c : Nat} {px tpos p pos : Pos} {f : Addr} {fd : FuncData} {ps : List Str} {F : Fn} {x : Str} {e : Expr} {es : List Expr} {ma mk : M (List D)} {gD : List D → List D → List D}
structure FnC (P : Program) (w : World) (K : PySem.W.Frag) (mg : Str → Option Value) (base : Heap) (T : Tb) (k c : Nat) (f : Addr) (fd : FuncData) (ps : List Str) (F : Fn) : Prop where
 ok : FnOk P w K mg base (L2.CX P w) k f fd ps (spF K T ps.length F)
 made : Mk K (T.cad c) f
def ab8 (fr : Fr) (n : Nat) : R D → R D
 | .ok .non _ h => .ok (.ref n) fr h
 | .ok _ _ _ => .err
 | .exc x _ h => .exc x fr h
 | .err => .err
def Nf (c n m : Nat) (F : Fn) (gD : List D → List D → List D) (ma mk : M (List D)) : M D := ma.bind fun ds => mk.bind fun es fr h => if ds.length = n ∧ es.length = m then ab8 fr h.length (F (.ref h.length :: gD ds es) (h ++ [.no c []])) else .err
theorem adc {B : Bs} {w : Wd} {σ : L2.St} {H : Hp} {fr : Fr} {h : Hh} {m : Nat} {vs zs : List V} {ds es : List D} {Q : VK} {gV gW : List V → List V → List V} (hv : ∀ x vs zs, vs.length = n → zs.length = m → gV (x :: vs) zs = x :: gW vs zs)
 (hg : ∀ (w : Wd) (vs zs : List V) (ds es : List D), aJ X.K T w vs ds → aJ X.K T w zs es → ds.length = n → es.length = m → aJ X.K T w (gW vs zs) (gD ds es) ∧ (gD ds es).length + 1 = ps.length)
 (R : Rel X.K T B w σ H fr h) (rs : aJ X.K T w vs ds) (rz : aJ X.K T w zs es) (p : bz X.K T B W (vV X.K T B σ) w σ (if ds.length = n ∧ es.length = m then ab8 fr h.length (F (.ref h.length :: gD ds es) (h ++ [.no c []])) else .err) Q) :
 vs.length = n ∧ zs.length = m ∧ ∀ x dx, H x = none → H dx = none → dx ≠ x → spF X.K T ps.length F (gV (.ref x :: vs) zs) (upd (upd H dx (.own x)) x (.ins (T.cad c) dx [])) (fun v H2 => v = .non ∧ Q (.ref x) H2) (fun c d H' => W c d σ H') := by
 by_cases hl : ds.length = n ∧ es.length = m
 · rw [if_pos hl] at p
   obtain ⟨r2, l2⟩ := hg w vs zs ds es rs rz hl.1 hl.2
   refine ⟨rs.length.trans hl.1, rz.length.trans hl.2, fun x dx nx nd ne => ?_⟩
   rw [hv _ _ _ (rs.length.trans hl.1) (rz.length.trans hl.2)]
   have R1 : Rel X.K T B w σ (upd H dx (.own x)) fr h := R.temp nd
   have nx1 : (upd H dx (.own x)) x = none := by rw [upd_ne (Ne.symm ne)]; exact nx
   have co : Ht X.K T w (.ins (T.cad c) dx []) (.no c []) := by
    have z : Ht X.K T w (.ins (T.cad c) dx ((T.fld c).zip [])) (.no c []) := .obj .nil
    rw [List.zip_nil_right] at z
    exact z
   have R2 := (R1.temp (o := .ins (T.cad c) dx []) nx1).to_cellO (R1.own_new nx1) (R1.loose_new nx1) upd_same co
   have le : w.le ⟨w.F, w.I ++ [x]⟩ := ⟨fun _ _ z => z, [x], rfl⟩
   have rx : sS X.K T ⟨w.F, w.I ++ [x]⟩ (.ref x) (.ref h.length) := .ref (by
    rw [← R.len]
    show (w.I ++ [x])[w.I.length]? = some x
    rw [alE (Nat.le_refl _), Nat.sub_self]
    rfl)
   refine RN (B := B) (σ := σ) (fr := fr) (W := W) R2 (.cons rx (r2.mono le)) (by rw [ald]; exact l2) ?_
   revert p
   cases F (.ref h.length :: gD ds es) (h ++ [.no c []]) with
   | ok d fr' h' =>
     cases d with
     | non =>
       intro p w' H' v l R' rv
       have ev : v = .non := by
        rcases rv with rv | ⟨q, o, _, _, _, _, rd⟩
        · cases rv; rfl
        · cases rd
       exact ⟨ev, p w' H' (.ref x) (Wd.le_trans le l) R' (rx.mono l)⟩
     | _ => exact fun p => p.elim
   | exc y fr' h' => exact fun p w' H' c dd l R' z => p w' H' c dd (Wd.le_trans le l) R' z
   | err => exact fun p => p.elim
 · rw [if_neg hl] at p
   exact p.elim
theorem aeb (C : Cq X T W k) (F0 : FnC X.prog X.w X.K X.mg X.base T kk c f fd ps F) (hk : kk + 1 ≤ k) (bn : BnI X.K T fd ps n [] gD) (hm : X.mg x = some (.ref (T.cad c))) (sa : CQ X T W (e :: es) ma) (hg : Gl X x := by rfl) (hdb : (x == ("__debug__" : Str)) = false := by decide)
 (he : starEach (e :: es) X.env = (false, eval e X.env) :: starEach es X.env := by exact uD rfl) (hpl : (backTo pos (starEach es X.env)).any (·.1) = false := by rfl) : cP X T W (.Call (.Name x p) (e :: es) [] pos) (Nf c n 0 F gD ma (aa [])) := fun B w σ H fr h Q R pp => WE.mk <| fun pins s I => by
 obtain ⟨g, gV, gW, hb, hv, hgD⟩ := bn.ex
 refine wpAny_Call_Name_kw (ld_glob I hg hm ?_ hdb)
 refine PySem.W.callWith_K (h₀ := X.base) I.ok.mod.kin F0.made.kp (thn ((sa B w σ H fr h _ R (bz.bind (VR := vA X.K T B σ) pp fun ds fr1 h1 w1 H1 vs e1 l1 r1 rs p1 => adc (c := c) hv hgD r1 rs .nil p1)).go pos pins s I) fun us s1 ⟨vs, H1, I1, r, q⟩ => ⟨I1.kIn, ?_⟩) he hpl
 exact run_mk (ws := []) F0.made F0.ok (C.room.mono hk) hb C.takes I1 r .nil q.1 rfl q.2.2
end
def aj4 (h : Hh) (d e : D) : Option D := match d, e with
 | .fl a, .ref n => match h[n]? with
   | some (.nl b) => if a.length + b.length ≤ big then some (.nl (a ++ b)) else none
   | _ => none
 | _, _ => none
section
variable {X : Cx} {T : Tb} {W : WX} {pos : Pos} {a b : Expr} {ma mb : M D}
end
end Pk
namespace Pk
open PySem PySem.Spec L2
def Vl (m : M D) : M (Nat × List D × List D) := m.bind fun d fr h => M.opt ((Lr h d).map fun x => (x.1, x.2, FP 0 x.2)) fr h
section
variable {X : Cx} {T : Tb} {W : WX} {p pos tpos : Pos} {kk : Nat} {elts : List Expr} {a : Expr} {ma : M D}
end
end Pk
namespace Pk
open PySem PySem.Spec L2
def Bf (j : Nat) (ix : Nat → Option Nat) (f : Int → Int → Int) (m : M D) : M Fl := fun fr h => match fr[j]? with
 | some (some (.ref n)) => match h[n]? with
   | some (.no c fs) => match ix c with
     | some i => match fs[i]? with
       | some (.int a) => (m.bind fun d fr h => match d with
         | .int b => match h[n]? with
           | some (.no c' fs') => if c' = c then match wY i (.int (f a b)) fs' with
            | some fs'' => .ok .nx fr (h.set n (.no c fs''))
            | none => .err
            else .err
           | _ => .err
         | _ => .err) fr h
       | _ => .err
     | none => .err
   | _ => .err
 | _ => .err
section
variable {X : Cx} {T : Tb} {W : WX} {k : Nat} {px pos tpos apos cpos : Pos} {e o : Expr} {m mo : M D}
theorem abe {K : PySem.W.Frag} {B : Bs} {w : Wd} {σ : L2.St} {H : Hp} {fr : Fr} {h : Hh} {n c : Nat} {a : Addr} {fs : List D} (R : Rel K T B w σ H fr h) (ha : w.I[n]? = some a) (hc : h[n]? = some (.no c fs)) :
 ∃ dx vs, H a = some (.ins (T.cad c) dx ((T.fld c).zip vs)) ∧ aJ K T w vs fs := by
 obtain ⟨o, eH, ro⟩ := R.cel n a _ ha hc
 cases ro with
 | obj r => exact ⟨_, _, eH, r⟩
theorem Ut {op : Operator} {f : Int → Int → Int} (j : Nat) {x fn : Str} {ix : Nat → Option Nat} (F : Qc X T fn ix) (ho : InOp X op (fun x y H Q => ∃ i j, x = V.int i ∧ y = V.int j ∧ Q (V.int (f i j)) H)) (s : cP X T W e m)
 (hN : X.N[j]? = some x := by rfl) (hv : Vis X.env.scope x := by first | exact Or.inl rfl | exact Or.inr (Or.inl rfl) | exact Or.inr (Or.inr rfl)) (hd : (x == ("__debug__" : Str)) = false := by decide)
 (hcd : (x == ("__classdict__" : Str)) = false := by decide) : Ar X T W (.AugAssign (.Attribute (.Name x px) fn tpos) op e pos) (Bf j ix f m) := fun B w σ H fr h D R p => by
 unfold Bf at p
 split at p
 · rename_i n e1
   split at p
   · rename_i c fs ec
     split at p
     · rename_i i ei
       split at p
       · rename_i a ea
         obtain ⟨v, e2, z⟩ := vz R e1
         cases z with
         | own O eH r => cases r
         | val r =>
           cases r with
           | @ref q _ s1 =>
             obtain ⟨dx, vs, eH, rs⟩ := abe R s1 ec
             obtain ⟨v0, ev0, rv0⟩ := rs.get ea
             rw [vG rv0] at ev0
             refine Ac (ps_fldaug (pe_var hN hv hd hcd) nU ho) ⟨_, e2, q, T.cad c, dx, (T.fld c).zip vs, .int a, rfl, eH, F.cls c i ei, F.na c i ei, (NK (F.nd c i ei).1 (F.at_ c i ei)).trans ev0, ?_⟩
             refine s B w σ H fr h _ R (sY.bind (VR := vV X.K T B σ) p fun d fr1 h1 w1 H1 y e3 l1 r1 ry p1 => ?_)
             cases d with
             | int b =>
               dsimp only at p1
               split at p1
               · rename_i c' fs' ec'
                 by_cases hc : c' = c
                 · subst hc
                   rw [if_pos rfl] at p1
                   split at p1
                   · rename_i fs'' ep
                     have s1' : w1.I[n]? = some q := aid l1 s1
                     obtain ⟨dx', vs', eH', rs'⟩ := abe r1 s1' ec'
                     obtain ⟨vs'', ez, rs''⟩ := Xn (F.nd c' i ei).1 (F.at_ c' i ei) rs' (.int (f a b)) ep
                     refine ⟨a, b, rfl, vG ry, dx', (T.fld c').zip vs', eH', ?_, ?_⟩
                     · rw [List.length_zip]
                       have := (F.nd c' i ei).2
                       omega
                     · rw [ez]
                       exact p1 w1 σ _ (Wd.le_refl _) (r1.change_cell s1' ec' (.obj rs''))
                   · exact (show False from p1).elim
                 · rw [if_neg hc] at p1
                   exact (show False from p1).elim
               · exact (show False from p1).elim
             | _ => exact (show False from p1).elim
       · exact p.elim
     · exact p.elim
   · exact p.elim
 · exact p.elim
theorem Uu {X : Cx} : InOp X .Add (fun x y H Q => ∃ i j, x = V.int i ∧ y = V.int j ∧ Q (V.int (i + j)) H) := in_add
def ZQ (d : D) (l : List D) : Option (List D) := match d with
 | .fl r => if l.length + r.length ≤ big then some (l ++ r) else none
 | _ => none
def Vm (i : Nat) (m : M D) : M D := (nM i wG).bind fun _ => m.bind fun d => (nM i (ZQ d)).bind fun _ => M.ret .non
theorem afT {K : PySem.W.Frag} {B : Bs} {w : Wd} {σ : L2.St} {H : Hp} {v y : V} {d : D} {fr fr' : Fr} {h h' : Hh} {Q : VK} (R : Rel K T B w σ H fr h) (z : JK K T B w σ H v (ZQ d) fr' h') (ry : sS K T w y d) (q : ∀ H', Rel K T B w σ H' fr' h' → Q .non H') : rExtend v [y] H Q := by
 obtain ⟨p, vs, l, l', rfl, e, r, ef, k⟩ := z
 unfold ZQ at ef
 split at ef
 · rename_i rr
   split at ef
   · rename_i hl
     cases ef
     obtain ⟨b, zs, rfl, eF, rz⟩ := Ue ry
     exact ⟨p, b, vs, zs, rfl, rfl, e, R.sub _ _ eF, by rw [r.length, rz.length]; exact Nat.le_trans hl (by decide), q _ (k _ (r.append rz))⟩
   · cases ef
 · cases ef
theorem afU (i : Nat) {x : Str} (s : cP X T W e m) (hN : X.N[i]? = some x := by rfl) (hv : Vis X.env.scope x := by first | exact Or.inl rfl | exact Or.inr (Or.inl rfl) | exact Or.inr (Or.inr rfl)) (hd : (x == ("__debug__" : Str)) = false := by decide)
 (hcd : (x == ("__classdict__" : Str)) = false := by decide)
 (hbase : attributeBase (.Name x px) "extend" X.env (eval (.Name x px) X.env) = eval (.Name x px) X.env := by rfl)
 (hfew : ((backTo cpos (starEach (e :: []) X.env)).all (fun x => !x.1) && (backToKw cpos (keywordEach [] X.env)).all (fun x => x.1.isSome)
  && decide ((e :: []).length + ([] : List Keyword).length + (if ([] : List Keyword).isEmpty then 0 else 1) < 30)) = true := by rfl)
 (hline : (apos.endLine == cpos.line) = true := by rfl) (hs : starEach (e :: []) X.env = (false, eval e X.env) :: starEach [] X.env := by exact uD rfl) (hplain : (backTo cpos (starEach [] X.env)).any (·.1) = false := by rfl) :
 cP X T W (.Call (.Attribute (.Name x px) "extend" apos) [e] [] cpos) (Vm i m) := fun B w σ H fr h Q R p => by
 have hh : ∃ v, σ[i]? = some (some v) := by
  cases e1 : fr[i]? with
  | none =>
    have q : nM i wG fr h = .err := by unfold nM; rw [e1]
    have p' : bz X.K T B W (vV X.K T B σ) w σ ((nM i wG).bind _ fr h) Q := p
    rw [M.bind_err q] at p'
    exact p'.elim
  | some o =>
    cases o with
    | none =>
      have q : nM i wG fr h = .err := by unfold nM; rw [e1]
      have p' : bz X.K T B W (vV X.K T B σ) w σ ((nM i wG).bind _ fr h) Q := p
      rw [M.bind_err q] at p'
      exact p'.elim
    | some d =>
      obtain ⟨v, e2, _⟩ := vz R e1
      exact ⟨v, e2⟩
 obtain ⟨v, ev⟩ := hh
 obtain ⟨fr1, h1, z1, p1⟩ := NB (VR := vV X.K T B σ) R ev p
 have R1 := Uk z1
 refine vm (pe_bm PySem.F.plainAttrs_list PySem.F.slot_list_extend PySem.F.type_list_extend mt_extend (pe_var hN hv hd hcd) (pa_cons nU pa_nil hs) hbase hfew hline hs hplain) ⟨v, ev, Y7 z1, s B w σ H fr1 h1 _ R1 (bz.bind (VR := vV X.K T B σ) p1 fun d fr2 h2 w2 H2 y e2 l2 r2 ry p2 => ?_)⟩
 obtain ⟨fr3, h3, z3, p3⟩ := NB (VR := vV X.K T B σ) r2 ev p2
 exact afT r2 z3 ry fun H' R' => p3 w2 H' .non (Wd.le_refl _) R' .non
end
def zb (i : Nat) (f : Hh → D → D → Option Bool) (m mt : M D) (b : M Fl) : Nat → M Fl
 | 0 => fun _ _ => .err
 | n + 1 => m.bind fun d fr h => (mt.bind fun t fr h => match f h d t with
   | some true => (match b fr h with
     | .ok .nx fr h => zb i f m mt b n fr h
     | .ok .ct fr h => zb i f m mt b n fr h
     | .ok .brk fr h => .ok .nx fr h
     | .ok (.rt d) fr h => .ok (.rt d) fr h
     | .exc x fr h => .exc x fr h
     | .err => .err)
   | some false => .ok .nx fr h
   | none => .err) (fr.set i (some d)) h
section
variable {X : Cx} {T : Tb} {W : WX} {k : Nat} {pos px npos cpos : Pos} {e t : Expr} {m mt : M D} {body : List Stmt} {b : M Fl} {x : Str}
theorem aec {op : CmpOp} {f : Hh → D → D → Option Bool} (C : Cq X T W k) (n i : Nat) (ho : CG X T vO op f) (s : cP X T W e m) (st : cP X T W t mt) (sb : Fy X T W body b) (hN : X.N[i]? = some x := by rfl) (hx : Loc X.env.scope x := by first | exact Or.inl rfl | exact Or.inr rfl)
 (hf : X.fn x = true ∨ X.env.scope.names.lookup x = some .local := by first | exact .inl rfl | exact .inr rfl) (hm : behindInMarks op t = false := by first | exact nobehind _ (by decide) (by decide) | rfl) :
 Ar X T W (.While (.Compare (.NamedExpr (.Name x px) e npos) [op] [t] cpos) body [] pos) (zb i f m mt b n) := fun B w σ H fr h D R p =>
 Ac (ps_whileW C.po (ptw_cmp Kh (pew_named C.nd hN hx (pew_of nU) hf) nU hm) Ce pss_nil)
  ⟨fun q σ H => ∃ w' fr' h', w.le w' ∧ Rel X.K T B w' σ H fr' h' ∧ sY X.K T B W w' (zb i f m mt b q fr' h') D, ⟨n, w, fr, h, Wd.le_refl _, R, p⟩, fun q σ2 H2 ⟨w2, fr2, h2, l2, r2, p2⟩ => by
  cases q with
  | zero => exact (show False from p2).elim
  | succ q =>
    unfold zb at p2
    refine s B w2 σ2 H2 fr2 h2 _ r2 (sY.bind (VR := vV X.K T B σ2) p2 fun d fr3 h3 w3 H3 v e3 l3 r3 rd p3 => ?_)
    have r4 := r3.putV i rd
    refine st B w3 (σ2.set i (some v)) H3 (fr3.set i (some d)) h3 _ r4 (sY.bind (VR := vV X.K T B (σ2.set i (some v))) p3 fun d' fr5 h5 w5 H5 v' e5 l5 r5 rd' p5 => ?_)
    cases ef : f h5 d d' with
    | none => rw [ef] at p5; exact (show False from p5).elim
    | some c =>
      rw [ef] at p5
      refine ho B w5 _ H5 fr5 h5 v v' d d' c _ r5 (rd.mono l5) (.inl rd') ef ⟨c, rfl, ?_⟩
      cases c with
      | false => exact p5 w5 _ H5 (Wd.le_refl _) r5
      | true =>
        rw [if_pos rfl]
        refine ⟨fun σ' H' => ∃ w' fr' h', w.le w' ∧ Rel X.K T B w' σ' H' fr' h' ∧ sY X.K T B W w' (zb i f m mt b q fr' h') D, fun σ' H' z => ⟨q, Nat.lt_succ_self q, z⟩, ?_⟩
        refine sb B w5 _ H5 fr5 h5 _ r5 ?_
        dsimp only at p5
        have l25 : w2.le w5 := Wd.le_trans l3 l5
        cases e6 : b fr5 h5 with
        | ok fl fr6 h6 =>
          rw [e6] at p5
          cases fl with
          | nx => exact fun w7 σ7 H7 l7 r7 => ⟨w7, fr6, h6, Wd.le_trans l2 (Wd.le_trans l25 l7), r7, sY.le l7 p5⟩
          | ct => exact fun w7 σ7 H7 l7 r7 => ⟨w7, fr6, h6, Wd.le_trans l2 (Wd.le_trans l25 l7), r7, sY.le l7 p5⟩
          | brk => exact fun w7 σ7 H7 l7 r7 => p5 w7 σ7 H7 l7 r7
          | rt d => exact fun w7 σ7 H7 v l7 r7 rv => p5 w7 σ7 H7 v l7 r7 rv
        | exc y fr6 h6 =>
          rw [e6] at p5
          exact fun w7 σ7 H7 cc dd l7 r7 z => p5 w7 σ7 H7 cc dd l7 r7 z
        | err => rw [e6] at p5; exact p5⟩
end
end Pk
namespace Pk
open PySem PySem.Spec L2
section
variable {P : Program} {w : World} {K : PySem.W.Frag} {mg : Str → Option Value} {base : Heap} {T : Tb} {k : Nat} {x qual : Str} {params : Arguments} {body : List Stmt} {scope : Scope} {dvs : List V} {kws : List (Str × V)} {f : Addr} {fd : FuncData} {N ps : List Str} {p0 pv : Str}
theorem aed (S : FnScope N ps scope) {m : M Fl} (dm : Does P w K mg base T k N qual scope body m) (cdv : Value) (A : Around) (outer : List Env) (s : Shared) (H : Hp) (vs : List V) (Q : VK) (E : XK)
 (hr : Room k (A.deeper (PyProof.Rows.envOfC qual scope s.heap.objs.size f cdv))) (sp : spF K T ps.length (sX N.length m) vs H Q E) :
 ∃ t, PSs (Cxd P w K mg base N qual scope f cdv A outer s H E) body t ∧ t { nx := fun _ H' => Q .non H', rt := Q } (L2.start N vs) H := by
 obtain ⟨w, h, ds, R, rs, hl, post⟩ := sp
 refine ⟨YC _ body, Ce, ?_⟩
 have hpl : ps.length ≤ N.length := by
  have := congrArg List.length S.pre
  rw [List.length_take] at this
  omega
 refine dm f cdv A outer s H E (Yn S hr) (Bs.of w H) w _ H (startF N.length ds) h _ (R.start rs (by rw [hl]; exact hpl)) ?_
 unfold sX at post
 cases e : m (startF N.length ds) h with
 | ok fl fr h' =>
   rw [e] at post
   cases fl with
   | nx => exact fun w' σ' H' l R' => post w' H' .non l R'.unframe (.inl .non)
   | rt d => exact fun w' σ' H' v l R' rv => post w' H' v l R'.unframe (by
    rcases rv with rv | ⟨p, o, rfl, O, lo, eH, rd⟩
    · exact .inl rv
    · exact .inr ⟨p, o, rfl, O, fun i => M4, eH, rd⟩)
   | brk => exact post.elim
   | ct => exact post.elim
 | exc y fr h' =>
   rw [e] at post
   exact fun w' σ' H' c dd l R' z => post w' H' c dd l R'.unframe z
 | err => rw [e] at post; exact post
end
def spM (K : PySem.W.Frag) (T : Tb) (F : Fn) : Sp := fun vs H Q E => ∃ ws rest, vs = ws ++ rest ∧ ws.length = 1 ∧ rest.length ≤ sizeLine ∧ ∀ p, H p = Option.none → spF K T 2 F (ws ++ [V.ref p]) (upd H p (.tup rest)) Q E
structure ZR (P : Program) (w : World) (K : PySem.W.Frag) (mg : Str → Option Value) (base : Heap) (T : Tb) (k : Nat) (f : Addr) (F : Fn) : Prop where
 run : FnR P w K mg base (L2.CX P w) k f (spM K T F)
section
variable {P : Program} {w : World} {K : PySem.W.Frag} {mg : Str → Option Value} {base : Heap} {T : Tb} {k : Nat} {x qual : Str} {params : Arguments} {body : List Stmt} {scope : Scope} {f : Addr} {fd : FuncData} {N : List Str} {p0 pv : Str}
theorem afV (F : FunD K x qual params body scope [] [] f fd) (S : FnScope N ([p0] ++ [pv]) scope) {m : M Fl} (dm : Does P w K mg base T k N qual scope body m)
 (h0 : ∀ (kV doc pm : Value) (an : Option Addr) (cdv ct a : Value), bindArgs (PySem.W.fnOf x qual params body scope .none kV doc pm an cdv ct) ⟨[a], []⟩ = (newTuple [] >>= fun t => pure [(p0, a), (pv, t)]))
 (h1 : ∀ (kV doc pm : Value) (an : Option Addr) (cdv ct a r : Value) (rs : List Value), bindArgs (PySem.W.fnOf x qual params body scope .none kV doc pm an cdv ct) ⟨a :: r :: rs, []⟩ = (newTuple (r :: rs) >>= fun t => pure [(p0, a), (pv, t)])) :
 ZR P w K mg base T (k + 1) f (sX N.length m) := by
 obtain ⟨oc, od, dV, kV, doc, pm, an, cdv, ct, osl, rfl, lk, hcd, hD, hK⟩ := F.ex
 have edV : dV = .none := by
  rcases hD with ⟨_, e⟩ | ⟨e, _⟩
  · exact e
  · exact absurd rfl e
 subst edV
 exact ⟨StX.fn_star (ps := [p0]) (pv := pv) lk hcd S StX.cxUp (StX.bind_star1 (B := fun us => bindArgs _ ⟨us, []⟩) (h0 kV doc pm an cdv ct) (h1 kV doc pm an cdv ct))
  fun A outer s H vs Q E hr sp => aed S dm cdv A outer s H vs Q E hr sp⟩
end
def sW (mt : Nat → Option Fn) (mo : M D) (ma : M (List D)) : M D := mo.bind fun o fr h => match fnOf mt h o with
 | some F => (ma.bind fun ds fr h => if ds.length ≤ big then v4 fr (F [o, .tup ds] h) else .err) fr h
 | none => .err
def zV (m : M D) (ma : M (List D)) : M (List D) := m.bind fun d fr h => match d.its h with
 | some l => (ma.bind fun r => M.ret (l ++ r)) fr h
 | none => .err
def Lw (m : M D) (ma : M (List D)) : M (List D) := m.bind fun d => ma.bind fun r => M.ret (d :: r)
structure Qy (X : Cx) (T : Tb) (k : Nat) (m : Str) (mt : Nat → Option Fn) : Prop where
 ex : ∀ c F, mt c = some F → ∃ (kk : Nat) (f : Addr), Cls X.K (T.cad c) ∧ BMeth X.K (T.cad c) m f ∧ ZR X.prog X.w X.K X.mg X.base T kk f F ∧ m ∉ T.fld c ∧ kk ≤ k
section
variable {X : Cx} {T : Tb} {W : WX} {k kk : Nat} {f : Addr} {F : Fn} {m : Str} {p sp_ pos apos : Pos} {e o : Expr} {es : List Expr} {mo me : M D} {ma : M (List D)} {mt : Nat → Option Fn}
theorem Wx {sp : Sp} {pins : List (Addr × Obj)} {σ : L2.St} {H : Hp} {s : Shared} {Q : VK} {us : List Value} {vs : List V} (F0 : FnR X.prog X.w X.K X.mg X.base (L2.CX X.prog X.w) kk f sp) (hr : Room kk X.A) (tk : Takes X W)
 (I : Inv X pins σ H s) (r : Vals vs us) (h : sp vs H Q (fun c d H' => W c d σ H')) :
 codeAny (model X.prog X.w) X.A (.call (.ref f) ⟨us, []⟩) (fun r s' => match r with | .ok (.ret v) => EP X pins σ Q v s' | .ok _ => False | .error e => X.xe e s') s := by
 refine codeAny_mono (F0 X.A X.stack s H us vs Q _ hr I.env0 r h) fun r s' hq => ?_
 cases r with
 | error e => exact passAt tk σ pins _ _ e s' I hq
 | ok fl =>
   cases fl with
   | ret u => exact I.after hq
   | next => exact False.elim hq
   | brk => exact False.elim hq
   | cont => exact False.elim hq
theorem Qz {B : Bs} {w : Wd} {σ : L2.St} {H : Hp} {fr : Fr} {h : Hh} {v : V} {d : D} {vs : List V} {ds : List D} {Q : VK} (R : Rel X.K T B w σ H fr h) (rv : sS X.K T w v d) (rs : aJ X.K T w vs ds) (hb : ds.length ≤ big)
 (pp : bz X.K T B W (vE X.K T B σ) w σ (v4 fr (F [d, .tup ds] h)) Q) : spM X.K T F (v :: vs) H Q (fun c d H' => W c d σ H') := by
 refine ⟨[v], vs, rfl, rfl, by rw [rs.length]; exact xF hb, fun p np => ?_⟩
 have R1 := R.laid (o := .tup vs) np
 have le := Wd.le_add (p := p) (o := .tup vs) (R.nP np).1
 exact RN R1 (ds := [d, .tup ds]) (.cons (rv.mono le) (.cons (.tup (.inl (.inl (by show upd w.F p _ p = _; rw [upd_same]))) (rs.mono le)) .nil)) rfl (pp.le le)
theorem Oe {B : Bs} {w : Wd} {σ : L2.St} {H : Hp} {fr : Fr} {h : Hh} {v : V} {d : D} {G : Fn} (M : Qy X T k m mt) (R : Rel X.K T B w σ H fr h) (rv : sS X.K T w v d) (e : fnOf mt h d = some G) :
 ∃ (kk : Nat) (f : Addr) (a C dx : Addr) (fs : List (Str × V)), v = .ref a ∧ H a = some (.ins C dx fs) ∧ fs.lookup m = none ∧ Cls X.K C ∧ BMeth X.K C m f ∧ ZR X.prog X.w X.K X.mg X.base T kk f G ∧ kk ≤ k := by
 unfold fnOf at e
 split at e
 · rename_i c fs ei
   obtain ⟨kk, f, c1, c2, c3, c4, c5⟩ := M.ex c G e
   obtain ⟨a, dx, vs, rfl, eH, rs⟩ := RM R (.inl rv) ei
   exact ⟨kk, f, a, T.cad c, dx, _, rfl, eH, GJ c4, c1, c2, c3, c5⟩
 · cases e
theorem v8 {pl : Sem Bool} (C : Cq X T W k) (Mf : Qy X T k m mt) (so : cP X T W o mo) (sa : CQ X T W (e :: es) ma)
 (hst : starEach (e :: es) X.env = (false, eval e X.env) :: starEach es X.env := by exact uD rfl) (hpl : (backTo pos (starEach es X.env)).any (·.1) = false := by rfl)
 (ht : eval (.Call (.Attribute o m apos) (e :: es) [] pos) X.env = (do
  let ov ← eval o X.env
  standAt apos.atName
  let (f, first) ← holding [ov] (getMethod ov m pl)
  callWith pos f first (backTo pos (starEach (e :: es) X.env)) (backToKw pos (keywordEach [] X.env))) := by rfl) :
 zR X T W (.Call (.Attribute o m apos) (e :: es) [] pos) (sW mt mo ma) := fun B w σ H fr h Q R pp => WE.mk <| fun pins s I => by
 refine PySem.W.methodCall_KW (pl := pl) (thn ((so B w σ H fr h (fun v H1 => ∃ (kk : Nat) (f : Addr) (a C dx : Addr) (fs : List (Str × V)) (G : Fn), v = .ref a ∧ H1 a = some (.ins C dx fs) ∧ fs.lookup m = none ∧ Cls X.K C ∧ BMeth X.K C m f ∧ ZR X.prog X.w X.K X.mg X.base T kk f G ∧ kk ≤ k ∧
  WA X (e :: es) σ H1 fun vs H2 => spM X.K T G (.ref a :: vs) H2 Q (fun c d H' => W c d σ H')) R (bz.bind (VR := vV X.K T B σ) pp fun d fr1 h1 w1 H1 v e1 l1 r1 rv p1 => ?_)).go pins s I) fun u s1 ⟨x, H1, I1, rx, kk, f, a, Cl, dx, fs, G, ex, ea, l, c1, c2, c3, c5, q⟩ => ?_) ht
 · have p1' : bz X.K T B W (vE X.K T B σ) w1 σ (match fnOf mt h1 d with | some F => (ma.bind fun ds fr h => if ds.length ≤ big then v4 fr (F [d, .tup ds] h) else .err) fr1 h1 | none => .err) Q := p1
   cases ef : fnOf mt h1 d with
   | none => rw [ef] at p1'; exact p1'.elim
   | some G =>
     rw [ef] at p1'
     obtain ⟨kk, f, a, Cl, dx, fs, rfl, eH, l, c1, c2, c3, c5⟩ := Oe Mf r1 rv ef
     refine ⟨kk, f, a, Cl, dx, fs, G, rfl, eH, l, c1, c2, c3, c5, sa B w1 σ H1 fr1 h1 _ r1 (bz.bind (VR := vA X.K T B σ) p1' fun ds fr2 h2 w2 H2 vs e2 l2 r2 rs p3 => ?_)⟩
     by_cases hb : ds.length ≤ big
     · rw [if_pos hb] at p3
       exact Qz r2 (rv.mono l2) rs hb p3
     · rw [if_neg hb] at p3
       exact p3.elim
 · subst ex
   obtain rfl : u = Value.ref a := rx
   refine getmeth_ok I1 ea c1 c2.mt l ?_
   exact PySem.W.callWith_K (first := [.ref a]) (h₀ := X.base) I.ok.mod.kin c2.mt.kp (thn (q.go pos pins s1 I1) fun us s2 ⟨vs, H2, I2, r, q2⟩ => ⟨I2.kIn, wpAny_call (Wx (us := .ref a :: us) (vs := .ref a :: vs) c3.run (C.room.mono c5) C.takes I2 (.cons rfl r) q2)⟩) hst hpl
theorem afW (s : cP X T W e me) (t : CQ X T W es ma) (hs : starEach (.Starred e p :: es) X.env = (true, eval e X.env) :: starEach es X.env := by rfl) : CQ X T W (.Starred e p :: es) (zV me ma) := fun B w σ H fr h Q R pp =>
 Rv (StX.pa_star nU Kg hs) (s B w σ H fr h _ R (bz.bind (VR := vV X.K T B σ) pp fun d fr1 h1 w1 H1 v e1 l1 r1 rv p1 => by
  cases q : d.its h1 with
  | none => rw [q] at p1; exact p1.elim
  | some l =>
    rw [q] at p1
    obtain ⟨a, vs, rfl, rs, sq⟩ := Hv r1 (.inl rv) q
    exact ⟨a, vs, rfl, sq.symm, t B w1 σ H1 fr1 h1 _ r1 (bz.bind (VR := vA X.K T B σ) p1 fun ds fr2 h2 w2 H2 us e2 l2 r2 ru p2 => p2 w2 H2 _ (Wd.le_refl _) r2 ((rs.mono l2).append ru))⟩))
theorem ZS (s : cP X T W e me) (t : CQ X T W es ma) (hs : starEach (e :: es) X.env = (false, eval e X.env) :: starEach es X.env := by exact uD rfl) : CQ X T W (e :: es) (Lw me ma) := fun B w σ H fr h Q R pp =>
 Rv (pa_cons nU Kg hs) (s B w σ H fr h _ R (bz.bind (VR := vV X.K T B σ) pp fun d fr1 h1 w1 H1 v e1 l1 r1 rv p1 =>
  t B w1 σ H1 fr1 h1 _ r1 (bz.bind (VR := vA X.K T B σ) p1 fun ds fr2 h2 w2 H2 us e2 l2 r2 ru p2 => p2 w2 H2 _ (Wd.le_refl _) r2 (.cons (rv.mono l2) ru))))
theorem aee {B : Bs} {w1 : Wd} {σ : L2.St} {H1 : Hp} {fr1 : Fr} {h1 : Hh} {a g q : Addr} {d : D} {G : Fn} {Q : VK} (r1 : Rel X.K T B w1 σ H1 fr1 h1) (rv : sS X.K T w1 (.ref a) d) (nq : H1 q = none) (sa : CQ X T W es ma)
 (p1 : bz X.K T B W (vE X.K T B σ) w1 σ ((ma.bind fun ds fr h => if ds.length ≤ big then v4 fr (G [d, .tup ds] h) else .err) fr1 h1) Q) :
 WA X es σ (upd H1 q (.met g a)) fun vs H2 => H2 q = some (.met g a) ∧ spM X.K T G (.ref a :: vs) H2 Q (fun c d H' => W c d σ H') := by
 have O : Own B w1 q := r1.own_new nq
 have r2 : Rel X.K T (B.pr q (.met g a)) w1 σ (upd H1 q (.met g a)) fr1 h1 := (r1.temp (o := .met g a) nq).protect O (r1.loose_new nq) upd_same
 refine sa (B.pr q (.met g a)) w1 σ _ fr1 h1 _ r2 ?_
 cases e : ma fr1 h1 with
 | ok ds fr2 h2 =>
   rw [M.bind_ok e] at p1
   intro w2 H2 vs l2 r3 rs
   obtain ⟨r4, O4, lo4, eq⟩ := r3.unprotect O.e O.p
   by_cases hb : ds.length ≤ big
   · rw [if_pos hb] at p1
     exact ⟨eq, Qz r4 (rv.mono l2) rs hb (p1.le l2)⟩
   · rw [if_neg hb] at p1
     exact p1.elim
 | exc y fr2 h2 =>
   rw [M.bind_exc e] at p1
   exact fun w' H' c dd l R' z => p1 w' H' c dd l (R'.unprotect O.e O.p).1 z
 | err =>
   rw [M.bind_err e] at p1
   exact p1.elim
theorem ZV {M : Model} {A : Around} {E : Value → Shared → Prop} {s : Shared} {env : Env} {Q : Value → Shared → Prop} (hbase : attributeBase o m env (eval o env) = eval o env)
 (hform : methodCallForm (es.length + ([] : List Keyword).length) (backTo pos (starEach es env)) [] = false) (hpos : methodCallPos false o env apos pos = pure pos)
 (h : wpAny M A (eval o env) (fun ov s₁ => wpAny M A (getAttr ov m true) (fun f s₂ => wpAny M A (callWith pos f [] (backTo pos (starEach es env)) []) Q E s₂) E s₁) E s) :
 wpAny M A (eval (.Call (.Attribute o m apos) es [] pos) env) Q E s := by
 have hke : backToKw pos (keywordEach [] env) = [] := rfl
 have hcal : ∀ ov, calleeOf false o env ov m = (getAttr ov m true >>= fun v => pure (v, [])) := fun _ => rfl
 rw [arm_eval_Call, hbase, hke]
 refine wpAny_bind (wpAny_mono h (fun ov s₁ h₁ => ?_) fun _ _ x => x)
 refine wpAny_bind (wpAny_standAt ?_)
 unfold methodCall
 rw [hform, hpos, hcal]
 refine wpAny_bind (wpAny_holding (wpAny_bind (wpAny_mono h₁ (fun f s₂ h₂ => wpAny_pure ?_) fun _ _ x => x)))
 exact wpAny_bind (wpAny_pure h₂)
theorem aef (C : Cq X T W k) (Mf : Qy X T k m mt) (so : cP X T W o mo) (sa : CQ X T W (e :: es) ma) (hbase : attributeBase o m X.env (eval o X.env) = eval o X.env := by rfl)
 (hst : starEach (e :: es) X.env = (false, eval e X.env) :: starEach es X.env := by exact uD rfl) (hany : (backTo pos (starEach (e :: es) X.env)).any (·.1) = true := by rfl)
 (hform : methodCallForm ((e :: es).length + ([] : List Keyword).length) (backTo pos (starEach (e :: es) X.env)) [] = false := by rfl) (hpos : methodCallPos false o X.env apos pos = pure pos := by rfl) :
 zR X T W (.Call (.Attribute o m apos) (e :: es) [] pos) (sW mt mo ma) := fun B w σ H fr h Q R pp => WE.mk <| fun pins s I => by
 refine ZV hbase hform hpos (thn ((so B w σ H fr h (fun v H1 => ∃ (kk : Nat) (f : Addr) (a C dx : Addr) (fs : List (Str × V)) (G : Fn), v = .ref a ∧ H1 a = some (.ins C dx fs) ∧ fs.lookup m = none ∧ Cls X.K C ∧ BMeth X.K C m f ∧ ZR X.prog X.w X.K X.mg X.base T kk f G ∧ kk ≤ k ∧
  ∀ q, H1 q = none → WA X (e :: es) σ (upd H1 q (.met f a)) fun vs H2 => H2 q = some (.met f a) ∧ spM X.K T G (.ref a :: vs) H2 Q (fun c d H' => W c d σ H')) R (bz.bind (VR := vV X.K T B σ) pp fun d fr1 h1 w1 H1 v e1 l1 r1 rv p1 => ?_)).go pins s I) fun u s1 ⟨x, H1, I1, rx, kk, f, a, Cl, dx, fs, G, ex, ea, l, c1, c2, c3, c5, q⟩ => ?_)
 · have p1' : bz X.K T B W (vE X.K T B σ) w1 σ (match fnOf mt h1 d with | some F => (ma.bind fun ds fr h => if ds.length ≤ big then v4 fr (F [d, .tup ds] h) else .err) fr1 h1 | none => .err) Q := p1
   cases ef : fnOf mt h1 d with
   | none => rw [ef] at p1'; exact p1'.elim
   | some G =>
     rw [ef] at p1'
     obtain ⟨kk, f, a, Cl, dx, fs, rfl, eH, l, c1, c2, c3, c5⟩ := Oe Mf r1 rv ef
     exact ⟨kk, f, a, Cl, dx, fs, G, rfl, eH, l, c1, c2, c3, c5, fun q nq => aee r1 rv nq sa p1'⟩
 · subst ex
   obtain rfl : u = Value.ref a := rx
   refine getbound_ok I1 ea c1 c2 l fun q1 s2 hq1 I2 => ?_
   rw [hst]
   refine PySem.W.ks_call (P := PySem.W.MethP X.K q1 f (.ref a)) (by rw [← hst]; exact hany) (PySem.W.keeps_M c2.fi) (Calls.evalArgs_plain ?_)
   have z := (q q1 hq1).go pos pins s2 I2
   rw [hst] at z
   refine thn z fun us s3 ⟨vs, H2, I3, rv, hm, hsp⟩ => ⟨met_P I3 hm, ?_⟩
   exact wpAny_call (PySem.W.method_call (met_P I3 hm).1 (Wx (us := Value.ref a :: us) (vs := V.ref a :: vs) c3.run (C.room.mono c5) C.takes I3 (.cons rfl rv) hsp))
theorem ZW (C : Cq X T W k) (Mf : Qy X T k m mt) (so : cP X T W o mo) (s1 : cP X T W e me) (hbase : attributeBase o m X.env (eval o X.env) = eval o X.env := by rfl) :
 zR X T W (.Call (.Attribute o m apos) [.Starred e p] [] pos) (sW mt mo (zV me (aa []))) := fun B w σ H fr h Q R pp => WE.mk <| fun pins s I => by
 refine starcall_of hbase (thn ((so B w σ H fr h (fun v H1 => ∃ (kk : Nat) (f : Addr) (a C dx : Addr) (fs : List (Str × V)) (G : Fn), v = .ref a ∧ H1 a = some (.ins C dx fs) ∧ fs.lookup m = none ∧ Cls X.K C ∧ BMeth X.K C m f ∧ ZR X.prog X.w X.K X.mg X.base T kk f G ∧ kk ≤ k ∧
  ∀ q, H1 q = none → WE X e σ (upd H1 q (.met f a)) fun y H2 => ∃ b vs, y = .ref b ∧ (SqT X.K H2 b vs ∨ SqL X.K H2 b vs) ∧ H2 q = some (.met f a) ∧ spM X.K T G (.ref a :: vs) H2 Q (fun c d H' => W c d σ H')) R (bz.bind (VR := vV X.K T B σ) pp fun d fr1 h1 w1 H1 v e1 l1 r1 rv p1 => ?_)).go pins s I) fun u s1 ⟨x, H1, I1, rx, kk, f, a, Cl, dx, fs, G, ex, ea, l, c1, c2, c3, c5, q⟩ => ?_)
 · have p1' : bz X.K T B W (vE X.K T B σ) w1 σ (match fnOf mt h1 d with | some F => ((zV me (aa [])).bind fun ds fr h => if ds.length ≤ big then v4 fr (F [d, .tup ds] h) else .err) fr1 h1 | none => .err) Q := p1
   cases ef : fnOf mt h1 d with
   | none => rw [ef] at p1'; exact p1'.elim
   | some G =>
     rw [ef] at p1'
     replace p1' : bz X.K T B W (vE X.K T B σ) w1 σ ((zV me (aa [])).bind (fun ds fr h => if ds.length ≤ big then v4 fr (G [d, .tup ds] h) else .err) fr1 h1) Q := p1'
     obtain ⟨kk, f, a, Cl, dx, fs, rfl, eH, l, c1, c2, c3, c5⟩ := Oe Mf r1 rv ef
     refine ⟨kk, f, a, Cl, dx, fs, G, rfl, eH, l, c1, c2, c3, c5, fun q nq => ?_⟩
     have O : Own B w1 q := r1.own_new nq
     have r2 : Rel X.K T (B.pr q (.met f a)) w1 σ (upd H1 q (.met f a)) fr1 h1 := (r1.temp (o := .met f a) nq).protect O (r1.loose_new nq) upd_same
     refine s1 (B.pr q (.met f a)) w1 σ _ fr1 h1 _ r2 ?_
     cases e2 : me fr1 h1 with
     | ok d2 fr2 h2 =>
       intro w2 H2 y l2 r3 ry
       obtain ⟨r4, O4, lo4, eq⟩ := r3.unprotect O.e O.p
       cases e3 : d2.its h2 with
       | none =>
         exfalso
         have e4 : zV me (aa []) fr1 h1 = .err := by
          unfold zV
          rw [M.bind_ok e2, e3]
         rw [M.bind_err e4] at p1'
         exact p1'
       | some ds =>
         have e4 : zV me (aa []) fr1 h1 = .ok ds fr2 h2 := by
          unfold zV
          rw [M.bind_ok e2, e3]
          show Pk.R.ok (ds ++ []) fr2 h2 = _
          rw [alb]
         rw [M.bind_ok e4] at p1'
         obtain ⟨b, vs, rfl, rs, sq⟩ := Hv r3 (.inl ry) e3
         by_cases hb : ds.length ≤ big
         · rw [if_pos hb] at p1'
           exact ⟨b, vs, rfl, sq.symm, eq, Qz r4 (rv.mono l2) rs hb (p1'.le l2)⟩
         · rw [if_neg hb] at p1'
           exact p1'.elim
     | exc y fr2 h2 =>
       have e4 : zV me (aa []) fr1 h1 = .exc y fr2 h2 := by
        unfold zV
        rw [M.bind_exc e2]
       rw [M.bind_exc e4] at p1'
       exact fun w' H' c dd l R' z => p1' w' H' c dd l (R'.unprotect O.e O.p).1 z
     | err =>
       have e4 : zV me (aa []) fr1 h1 = .err := by
        unfold zV
        rw [M.bind_err e2]
       rw [M.bind_err e4] at p1'
       exact p1'.elim
 · subst ex
   obtain rfl : u = Value.ref a := rx
   refine getbound_ok I1 ea c1 c2 l fun q1 s2 hq1 I2 => ?_
   refine PySem.W.ks_call (P := PySem.W.MethP X.K q1 f (.ref a)) rfl (PySem.W.keeps_M c2.fi) (PySem.W.ks_lone ?_)
   refine thn ((q q1 hq1).go pins s2 I2) fun v s3 ⟨y, H2, I3, ry, t, vs, ey, ht, hm, hsp⟩ => ?_
   subst ey
   obtain rfl : v = Value.ref t := ry
   refine StX.star_any I3 ht fun us s4 I4 rv => ⟨met_P I4 hm, ?_⟩
   exact wpAny_call (PySem.W.method_call (met_P I4 hm).1 (Wx (us := Value.ref a :: us) (vs := V.ref a :: vs) c3.run (C.room.mono c5) C.takes I4 (.cons rfl rv) hsp))
end
theorem ahm {K : PySem.W.Frag} {C : Addr} {m : Str} (h : bmX K C m = true) (hm : L2.Meth K C m (He.ma K C m)) : BMeth K C m (He.ma K C m) := by
 obtain ⟨c1, h⟩ := He.ba h
 obtain ⟨c2, h⟩ := He.ba h
 obtain ⟨c3, c4⟩ := He.ba h
 exact ⟨hm, He.eqO_ok c1, of_decide_eq_true c2, of_decide_eq_true c3, c4⟩
end Pk
namespace Pk
open PySem PySem.Spec PyProof.Rows L2 GenW
section
variable {prog : Program} {w : World} {A : Around} {R : GenEnd} {Y : Protocol} {n : Nat} {s₀ : Shared} {c : Code} {fs : List Frame} {s : Shared} {env : Env} {K : Flow → Sem PySem.Fin} {J : Value → Sem PySem.Fin} {gd : Bool → Bool} {lv : List Value → List Value}
abbrev aj5 (env : Env) (e : Value) : Sem PySem.Fin := (do noteFrame e env; theTreesLotGoes e : Sem Unit).wrap (fun _ => .raise e) .raise id id
abbrev turned (target : Expr) (it : Value) (body : List Stmt) (env : Env) : Flow → Sem PySem.Fin := fun f => match f with
 | .next | .cont => .pure (.again (.forLoop target it body [] env))
 | .brk => .pure (.done .next)
 | .ret v => .pure (.done (.ret v))
end
end Pk
namespace Pk
open PySem PySem.Spec PyProof.Rows L2 GenW
section
variable {M : Model} {A : Around} {R : GenEnd} {Y : Protocol} {n : Nat} {s₀ : Shared} {c : Code} {fs : List Frame} {s : Shared} {env : Env} {K : Flow → Sem PySem.Fin} {J : Value → Sem PySem.Fin} {gd : Bool → Bool} {lv : List Value → List Value}
end
section
variable {X : Cx} {tg : Expr}
def aj6 (wi : TI) (g : TG) (tb : TGn) : TGn := fun D ys σ H => wi σ H fun J H1 => ∃ W : Nat → Nat → List V → L2.St → Hp → Prop, (∃ m, W 0 m ys σ H1) ∧ ∀ i m ys σ H, W i m ys σ H →
 (J.stop i H ∧ D.nx ys σ H) ∨ (J.go i H ∧ ∃ N : List V → L2.St → Hp → Prop, (∀ ys' σ' H', N ys' σ' H' → ∃ m', m' < m ∧ W (i + 1) m' ys' σ' H') ∧ ∀ x H', J.yld i H x H' → g x σ H' fun σ2 H2 => tb { D with nx := N, ct := N, bk := D.nx } ys σ2 H2)
end
end Pk
namespace Pk
open PySem PySem.Spec PyProof.Rows L2
def ab9 (ma : M (List D)) : M D := ma.bind fun ds => M.opt (if ds.length ≤ big then some (.tup ds) else none)
section
variable {X : Cx} {T : Tb} {W : WX} {es : List Expr} {ma : M (List D)} {pos : Pos}
end
def ahn (vs vs1 : List Nat) (g : D → M Unit) (t : M Bool) (l1 : M (List D)) (g1 : D → M Unit) (t1 : M Bool) (e : M D) (acc : List D) (d : D) : M (List D) := fun fr h => match g d fr h with
 | .ok _ fr h => match t fr h with
   | .ok true fr h => match l1 fr h with
     | .ok ds1 fr h => if acc.length + ds1.length ≤ big then (match zU vs1 g1 t1 e ds1 (vU fr vs1) h with
       | .ok r fr h => .ok (acc ++ r) (vU fr vs) h
       | _ => .err) else .err
     | _ => .err
   | .ok false fr h => .ok acc (vU fr vs) h
   | _ => .err
 | _ => .err
def afn (vs vs1 : List Nat) (g : D → M Unit) (t : M Bool) (l1 : M (List D)) (g1 : D → M Unit) (t1 : M Bool) (e : M D) : List D → List D → M (List D)
 | acc, [] => M.ret acc
 | acc, d :: ds => (ahn vs vs1 g t l1 g1 t1 e acc d).bind fun acc' => afn vs vs1 g t l1 g1 t1 e acc' ds
def akC (vs vs1 : List Nat) (l : M (List D)) (g : D → M Unit) (t : M Bool) (l1 : M (List D)) (g1 : D → M Unit) (t1 : M Bool) (e : M D) : M D := l.bind fun ds => (U6 vs).bind fun _ => (afn vs vs1 g t l1 g1 t1 e [] ds).bind fun r => M.ret (.nl r)
section
variable {X : Cx} {T : Tb} {W : WX} {k : Nat} {pos pos' : Pos} {tg iter elt tg1 iter1 : Expr} {ifs ifs1 : List Expr} {li l1 : M (List D)} {g g1 : D → M Unit} {is is1 vs1 : List Nat} {t t1 : M Bool} {me : M D} {scope : Scope} {own : List (Str × Nat)}
def IB (X : Cx) (scope : Scope) (tg iter : Expr) : TI := fun σ H R => ∀ (s : Shared) (H0 : Hp) (C : Addr) (cl : List (Str × Addr)) (fp : List Addr), WI (X.blk s H0 scope (compEnvC scope cl C X.env) fp) tg iter σ H R
end
end Pk
namespace Pk
open PySem PySem.Spec PyProof.Rows L2 GenW
structure WGS (X : Cx) (st : Stmt) (D : GEnds) (ys : List V) (σ : L2.St) (H : Hp) : Prop where
 go : ∀ (A : Around) (S : Addr) (ip : List (Addr × Obj)) (R : GenEnd) (n : Nat) (s₀ : Shared) (c : Code) (fs : List Frame) (K : Flow → Sem PySem.Fin) (J : Value → Sem PySem.Fin) (gd : Bool → Bool) (lv : List Value → List Value) (s : Shared),
  GC X S ip A c fs gd → n + ys.length = sizeLine → GK X S ip A R c fs K J D → GI X S ip ys σ H s →
  Seg (model X.prog X.w) A R (GY X S) n s₀ c ((exec st X.env).wrap K J gd lv) fs s
structure aja (X : Cx) (st : List Stmt) (D : GEnds) (ys : List V) (σ : L2.St) (H : Hp) : Prop where
 go : ∀ (A : Around) (S : Addr) (ip : List (Addr × Obj)) (R : GenEnd) (n : Nat) (s₀ : Shared) (c : Code) (fs : List Frame) (K : Flow → Sem PySem.Fin) (J : Value → Sem PySem.Fin) (gd : Bool → Bool) (lv : List Value → List Value) (s : Shared),
  GC X S ip A c fs gd → n + ys.length = sizeLine → GK X S ip A R c fs K J D → GI X S ip ys σ H s →
  Seg (model X.prog X.w) A R (GY X S) n s₀ c ((execs st X.env).wrap K J gd lv) fs s
section
variable {X : Cx} {st : Stmt} {sts : List Stmt} {D : GEnds} {ys : List V} {σ : L2.St} {H : Hp}
end
def Vn (K : PySem.W.Frag) (T : Tb) (B : Bs) (w : Wd) (r : R (List D)) (E : GEnds) : Prop := match r with
 | .ok ds fr h => ∀ w' σ' H' vs, w.le w' → Rel K T B w' σ' H' fr h → aJ K T w' vs ds → E.nx vs σ' H'
 | _ => False
def aj7 (X : Cx) (T : Tb) (st : Stmt) (m : List D → M (List D)) : Prop := ∀ (B : Bs) (w : Wd) (σ : L2.St) (H : Hp) (fr : Fr) (h : Hh) (E : GEnds) (vs : List V) (ds : List D), Rel X.K T B w σ H fr h → aJ X.K T w vs ds → Vn X.K T B w (m ds fr h) E → WGS X st E vs σ H
def aho (X : Cx) (T : Tb) (sts : List Stmt) (m : List D → M (List D)) : Prop := ∀ (B : Bs) (w : Wd) (σ : L2.St) (H : Hp) (fr : Fr) (h : Hh) (E : GEnds) (vs : List V) (ds : List D), Rel X.K T B w σ H fr h → aJ X.K T w vs ds → Vn X.K T B w (m ds fr h) E → aja X sts E vs σ H
def ajx (m : M Fl) (ds : List D) : M (List D) := fun fr h => match m fr h with
 | .ok .nx fr h => .ok ds fr h
 | _ => .err
def gNil (ds : List D) : M (List D) := M.ret ds
def aj8 (m n : List D → M (List D)) (ds : List D) : M (List D) := (m ds).bind n
def ajy (me : M D) (ds : List D) : M (List D) := me.bind fun d => if ds.length < big then M.ret (ds ++ [d]) else fun _ _ => .err
def ahp (g : D → M Unit) (b : List D → M (List D)) : List D → List D → M (List D)
 | [], out => M.ret out
 | d :: ds, out => (g d).bind fun _ => (b out).bind fun out' => ahp g b ds out'
def aj9 (l : M (List D)) (g : D → M Unit) (b : List D → M (List D)) (out : List D) : M (List D) := l.bind fun ds => ahp g b ds out
section
variable {X : Cx} {T : Tb} {W : WX} {k : Nat} {st : Stmt} {sts body : List Stmt} {m n : List D → M (List D)} {b : List D → M (List D)} {pos yp : Pos} {e tg iter : Expr} {me : M D} {li : M (List D)} {g : D → M Unit} {is : List Nat}
theorem Vn.le {K : PySem.W.Frag} {T : Tb} {B : Bs} {w w' : Wd} {r : R (List D)} {E : GEnds} (l : w.le w') (p : Vn K T B w r E) : Vn K T B w' r E := by
 cases r with
 | ok ds fr h => exact fun w2 σ' H' vs l2 r rs => p w2 σ' H' vs (Wd.le_trans l l2) r rs
 | exc _ _ _ => exact p
 | err => exact p
end
end Pk
namespace Pk
open PySem PySem.Spec PyProof.Rows L2 GenW
abbrev ZX := List D → Hh → R (List D)
def akD (n : Nat) (m : List D → M (List D)) : ZX := fun ds h => match m [] (startF n ds) h with
 | .ok ys _ h => .ok ys [] h
 | _ => .err
def ajb (K : PySem.W.Frag) (T : Tb) (n : Nat) (F : ZX) : SpG := fun vs H Q _ => ∃ w h ds, Rel K T (Bs.of w H) w [] H [] h ∧ aJ K T w vs ds ∧ ds.length = n ∧ match F ds h with
 | .ok ys _ h' => ∀ w' H' vs', w.le w' → Rel K T (Bs.of w H) w' [] H' [] h' → aJ K T w' vs' ys → Q vs' H'
 | _ => False
def aka (P : Program) (w : World) (K : PySem.W.Frag) (mg : Str → Option Value) (base : Heap) (T : Tb) (k : Nat) (N : List Str) (qual : Str) (scope : Scope) (body : List Stmt) (m : List D → M (List D)) : Prop :=
 ∀ (f : Addr) (cdv : Value) (A : Around) (outer : List Env) (s : Shared) (H : Hp) (E : XK) (pn : List (Addr × Obj)), Cq (gcxOf P w K mg base N qual scope f cdv A outer s H E pn) T (WX.up E) k → aho (gcxOf P w K mg base N qual scope f cdv A outer s H E pn) T body m
section
variable {P : Program} {w : World} {K : PySem.W.Frag} {mg : Str → Option Value} {base : Heap} {T : Tb} {k : Nat} {name qual : Str} {params : Arguments} {body : List Stmt} {scope : Scope} {f : Addr} {N ps : List Str} {dV kV doc pm cdv ct oc : Value} {an od : Option Addr} {osl : Array (Option Value)}
end
end Pk
namespace Pk
open PySem PySem.Spec PyProof.Rows L2 GenW
def aig (mt : Nat → Option ZX) (h : Hh) (o : D) : Option ZX := match o.ins h with
 | some (c, _) => mt c
 | none => none
def ajz (mt : Nat → Option ZX) (mo : M D) : M D := mo.bind fun o fr h => match aig mt h o with
 | some F => match F [o] h with
   | .ok ys _ h => .ok (.nl ys) fr h
   | _ => .err
 | none => .err
structure ajA (X : Cx) (T : Tb) (kk : Nat) (m : Str) (mt : Nat → Option ZX) : Prop where
 ex : ∀ c F, mt c = some F → ∃ (f : Addr) (fd : FuncData) (ps : List Str), Cls X.K (T.cad c) ∧ Meth X.K (T.cad c) m f ∧ GFn X.prog X.w X.K X.mg X.base kk f fd ps (ajb X.K T 1 F) ∧ Binds X.K fd ps [] ∧ m ∉ T.fld c
def WPG (X : Cx) (k : Nat) (e : Expr) (E : XK) : TGen := fun σ H cont => ∀ pins s, Inv X pins σ H s → wpAny (model X.prog X.w) X.A (eval e X.env)
    (fun u s' => ∃ H1 sc ex, Inv X pins σ H1 sc ∧ ExOk X pins ex ∧ GMade X.prog X.w k X.stack H1 sc ex cont E u s') X.xe s
section
variable {X : Cx} {T : Tb} {W : WX} {k kk : Nat} {m nm : Str} {p pos pos' apos : Pos} {o e : Expr} {mo : M D} {mt : Nat → Option ZX} {E : XK}
end
section
variable {P : Program} {w : World} {K : PySem.W.Frag} {mg : Str → Option Value} {base : Heap} {T : Tb} {k : Nat} {x qual : Str} {params : Arguments} {body : List Stmt} {scope : Scope} {f : Addr} {fd : FuncData} {N ps : List Str} {dvs : List V} {kws : List (Str × V)}
end
end Pk
namespace L2
open PySem PySem.Spec PyProof.Rows
def Xu (K : PySem.W.Frag) : Bool → Hp → Addr → List V → Prop
 | true, H, a, xs => SqT K H a xs
 | false, H, a, xs => SqL K H a xs
def akE : Bool → Heap → Addr → Addr → Nat → Prop
 | true, h, it, a, i => h.IsTupleIter it a i
 | false, h, it, a, i => h.IsListIter it a i
def Isk : Bool → Heap → Addr → Array Value → Prop
 | true, h, a, xs => h.IsTuple a xs
 | false, h, a, xs => h.IsList a xs
def itOb : Bool → Addr → Obj
 | true, t => { cls := .type "tuple_iterator", data := .fields #[.ref t, .int 0 0] }
 | false, t => { cls := .type "list_iterator", data := .fields #[.ref t, .int 0 0] }
def ajc (K : PySem.W.Frag) (k1 k2 : Bool) (a b : Addr) : It :=
 ⟨fun i H => ∃ xs ys x y, Xu K k1 H a xs ∧ Xu K k2 H b ys ∧ xs[i]? = some x ∧ ys[i]? = some y,
  fun i H v H' => ∃ T x y, v = V.ref T ∧ H T = none ∧ H' = upd H T (.tup [x, y]) ∧ (∀ xs, Xu K k1 H a xs → xs[i]? = some x) ∧ ∀ ys, Xu K k2 H b ys → ys[i]? = some y,
  fun i H => ∃ xs ys, Xu K k1 H a xs ∧ Xu K k2 H b ys ∧ (xs.length ≤ i ∨ ys.length ≤ i)⟩
def akb (K : PySem.W.Frag) (ta : TA) : TI := fun σ H R => ta σ H fun vs H1 => ∃ k1 k2 a b xs ys, vs = [.ref a, .ref b] ∧ Xu K k1 H1 a xs ∧ Xu K k2 H1 b ys ∧ R (ajc K k1 k2 a b) H1
end L2
namespace Pk
open PySem PySem.Spec L2
def aca (h : Hh) (d e : D) : Option (Nat × List D × List D) := match Lr h d, e with
 | some (n, l), .fl m => some (n, l, KR l m)
 | some (n, l), .tup m => some (n, l, KR l m)
 | _, _ => none
def ZZ (ma mb : M D) : M (Nat × List D × List D) := ma.bind fun d => mb.bind fun e fr h => M.opt (aca h d e) fr h
section
variable {X : Cx} {T : Tb} {W : WX} {k kk : Nat} {pos p tpos : Pos} {tg iter a c : Expr} {elts : List Expr} {body : List Stmt} {g : D → M Unit} {b : M Fl} {is : List Nat} {li : M (Nat × List D × List D)} {ma mb : M D}
end
end Pk
namespace GenP
open PySem PySem.Spec
def noG : Frame → Bool
 | .gen .. => false
 | .ret .. => true
def Yw : Frame → Frame
 | .gen _ _ _ c p => .ret (fun _ => .unsupported "") none false [] c p []
 | f => f
theorem aaL (f : Frame) : (Yw f).where_ = f.where_ := by cases f <;> rfl
def Yx : GenState → GenState
 | .suspended _ l c p fs cl => .suspended (fun _ => .unsupported "") l c p (fs.map Yw) cl
 | st => st
def QC : GenState → Bool
 | .fresh _ => false
 | _ => true
def clean : GenState → Bool
 | .suspended _ _ _ _ fs _ => fs.all noG
 | _ => true
theorem ade (st : GenState) : (Yx st).seen = st.seen := by
 cases st with
 | suspended k l c p fs cl =>
   show (_, some ((c, p) :: List.map Frame.where_ (fs.map Yw))) = (_, some ((c, p) :: List.map Frame.where_ fs))
   rw [List.map_map, show Frame.where_ ∘ Yw = Frame.where_ from funext aaL]
 | _ => rfl
theorem adf (st : GenState) : (Yx st).bare = st.bare := by cases st <;> rfl
structure PS (D : Nat → Prop) (s t : Shared) : Prop where
 heap : s.heap = t.heap
 drawn : s.drawn = t.drawn
 toks : s.toks = t.toks
 os : s.os = t.os
 size : s.gens.size = t.gens.size
 dead : ∀ i, D i → ∃ st, t.gens[i]? = some st ∧ QC st = true ∧ s.gens[i]? = some (Yx st)
 live : ∀ i, ¬ D i → s.gens[i]? = t.gens[i]? ∧ ∀ st, t.gens[i]? = some st → clean st = true
theorem PS.seen {D : Nat → Prop} {s t : Shared} (P : PS D s t) {g : Nat} {st : GenState} (h : s.gens[g]? = some st) : ∃ st', t.gens[g]? = some st' ∧ st'.seen = st.seen := by
 by_cases hd : D g
 · obtain ⟨st', e1, e2, e3⟩ := P.dead g hd
   rw [h] at e3
   cases e3
   exact ⟨st', e1, (ade st').symm⟩
 · exact ⟨st, (P.live g hd).1.symm.trans h, rfl⟩
theorem PS.set {D : Nat → Prop} {s t : Shared} (P : PS D s t) {g : Nat} (hd : ¬ D g) {st : GenState} (hc : clean st = true) : PS D (s.setGen g st) (t.setGen g st) where
 heap := P.heap
 drawn := P.drawn
 toks := P.toks
 os := P.os
 size := by show (s.gens.setIfInBounds g st).size = (t.gens.setIfInBounds g st).size; simp [P.size]
 dead := fun i hi => by
  have ne : g ≠ i := fun e => hd (e ▸ hi)
  obtain ⟨st', e1, e2, e3⟩ := P.dead i hi
  exact ⟨st', by show (t.gens.setIfInBounds g st)[i]? = _; rw [Array.getElem?_setIfInBounds_ne ne]; exact e1, e2, by show (s.gens.setIfInBounds g st)[i]? = _; rw [Array.getElem?_setIfInBounds_ne ne]; exact e3⟩
 live := fun i hi => by
  obtain ⟨e1, e2⟩ := P.live i hi
  show (s.gens.setIfInBounds g st)[i]? = (t.gens.setIfInBounds g st)[i]? ∧ ∀ x, (t.gens.setIfInBounds g st)[i]? = some x → _
  by_cases ne : g = i
  · subst ne
    rw [Array.getElem?_setIfInBounds_self, Array.getElem?_setIfInBounds_self, P.size]
    refine ⟨rfl, fun x hx => ?_⟩
    split at hx
    · cases hx; exact hc
    · cases hx
  · rw [Array.getElem?_setIfInBounds_ne ne, Array.getElem?_setIfInBounds_ne ne]
    exact ⟨e1, e2⟩
theorem PS.push {D : Nat → Prop} {s t : Shared} (P : PS D s t) (c : Code) : PS D { s with gens := s.gens.push (.fresh c) } { t with gens := t.gens.push (.fresh c) } where
 heap := P.heap
 drawn := P.drawn
 toks := P.toks
 os := P.os
 size := by simp [P.size]
 dead := fun i hi => by
  obtain ⟨st', e1, e2, e3⟩ := P.dead i hi
  have l1 := (Array.getElem?_eq_some_iff.mp e1).1
  refine ⟨st', ?_, e2, ?_⟩
  · show (t.gens.push _)[i]? = _
    rw [Array.getElem?_push_lt l1, ← e1, Array.getElem?_eq_getElem l1]
  · have l2 := (Array.getElem?_eq_some_iff.mp e3).1
    show (s.gens.push _)[i]? = _
    rw [Array.getElem?_push_lt l2, ← e3, Array.getElem?_eq_getElem l2]
 live := fun i hi => by
  obtain ⟨e1, e2⟩ := P.live i hi
  show (s.gens.push _)[i]? = (t.gens.push _)[i]? ∧ ∀ st, (t.gens.push _)[i]? = some st → _
  rw [Array.getElem?_push, Array.getElem?_push, P.size, e1]
  refine ⟨rfl, fun st hst => ?_⟩
  split at hst
  · cases hst; rfl
  · exact e2 st hst
def Kept (D : Nat → Prop) (t t' : Shared) : Prop := (∀ i, D i → t'.gens[i]? = t.gens[i]?) ∧ t.gens.size ≤ t'.gens.size
theorem Kept.trans {D : Nat → Prop} {t t' t2 : Shared} (a : Kept D t t') (b : Kept D t' t2) : Kept D t t2 := ⟨fun i hi => (b.1 i hi).trans (a.1 i hi), Nat.le_trans a.2 b.2⟩
theorem Kept.set {D : Nat → Prop} {t : Shared} {g : Nat} (hd : ¬ D g) (st : GenState) : Kept D t (t.setGen g st) := ⟨fun i hi => Array.getElem?_setIfInBounds_ne fun e => hd (by rw [e]; exact hi), by show t.gens.size ≤ (t.gens.setIfInBounds g st).size; simp⟩
theorem Kept.gens {D : Nat → Prop} {t t' : Shared} (h : t'.gens = t.gens) : Kept D t t' := ⟨fun i _ => by rw [h], by rw [h]; exact Nat.le_refl _⟩
def ajB : End → Bool
 | .ret _ => true
 | .susp _ _ _ _ _ _ fs => fs.all noG
def aeg (u : Shared) : Nat → Prop := fun i => ∃ st, u.gens[i]? = some st ∧ QC st = true
def aiM (u : Shared) : Shared := { u with gens := u.gens.map Yx }
theorem PS.bare {D : Nat → Prop} {s u : Shared} (P : PS D s u) (h : PyProof.Rows.AllBare s.gens) : PyProof.Rows.AllBare u.gens := fun y hy => by
 obtain ⟨i, hi, e⟩ := Array.mem_iff_getElem.mp hy
 have e : u.gens[i]? = some y := by rw [Array.getElem?_eq_getElem hi, e]
 by_cases hd : D i
 · obtain ⟨st, e1, _, e3⟩ := P.dead i hd
   rw [e] at e1
   cases e1
   rw [← adf]
   exact h _ (Array.mem_of_getElem? e3)
 · exact h _ (Array.mem_of_getElem? ((P.live i hd).1.trans e))
end GenP
namespace GenP
open PySem PySem.Spec PyProof.Rows L2 GenW
section
variable {D : Nat → Prop} {s u : Shared} {X : Cx} {pins : List (Addr × Obj)} {σ : L2.St} {H : Hp}
end
abbrev SL := List (Nat × GenState)
def Sl (sl : SL) (s : Shared) : Prop := ∀ p ∈ sl, s.gens[p.1]? = some p.2 ∧ QC p.2 = true
theorem Sl.keep {sl : SL} {u u' : Shared} (h : Sl sl u) (k : Kept (aeg u) u u') : Sl sl u' := fun p hp => by
 obtain ⟨e, hs⟩ := h p hp
 exact ⟨(k.1 p.1 ⟨_, e, hs⟩).trans e, hs⟩
def cutS (n : Nat) (s : Shared) : Shared := { s with heap := { s.heap with objs := s.heap.objs.extract 0 n } }
theorem aeh {n : Nat} {s : Shared} (h : n ≤ s.heap.objs.size) : (cutS n s).heap.objs.size = n := by
 show (s.heap.objs.extract 0 n).size = n
 rw [Array.size_extract]
 omega
section
variable {X : Cx} {pins : List (Addr × Obj)} {σ : L2.St} {H H1 : Hp} {s s1 : Shared} {n : Nat}
structure Low (X : Cx) (pins : List (Addr × Obj)) (n : Nat) : Prop where
 loc : X.env.locals < n
 cel : ∀ (x : Str) (c : Addr), alu x X.env.cells = some c → c < n
 pin : ∀ p ∈ X.pn ++ pins, p.1 < n
end
abbrev E0g : XK := fun _ _ _ => False
structure GD where
 P : Program
 w : World
 K : PySem.W.Frag
 mg : Str → Option Value
 base : Heap
 N : List Str
 qual : Str
 scope : Scope
 f : Addr
 cdv : Value
 A : Around
 outer : List Env
 n : Nat
 g : Nat
 pn : List (Addr × Obj)
def GD.cx (G : GD) (s : Shared) (H : Hp) : Cx := gcxOf G.P G.w G.K G.mg G.base G.N G.qual G.scope G.f G.cdv G.A G.outer s H E0g G.pn
def GD.env (G : GD) : Env := envOfC G.qual G.scope G.n G.f G.cdv
variable {G : GD} {s s0 s1 s2 : Shared} {H H0 H1 H2 : Hp} {pins : List (Addr × Obj)} {σ : L2.St}
end GenP
namespace GenP
open PySem PySem.Spec PyProof.Rows L2 GenW Pk
inductive GSt where
 | go (a : Fr) (h : Hh)
 | out (f : Fl) (a : Fr) (h : Hh)
 | err
inductive GR where
 | go (n : Nat) (a fr : Fr) (h : Hh)
 | out (f : Fl) (a : Fr) (h : Hh)
 | err
abbrev Step := D → Fr → Hh → GSt
abbrev Hn := Step → Nat → Fr → Fr → Hh → GR
def GR.bind (r : GR) (k : Nat → Fr → Fr → Hh → GR) : GR := match r with
 | .go n a fr h => k n a fr h
 | .out f a h => .out f a h
 | .err => .err
def aih : Hn := fun _ n a fr h => .go n a fr h
def ajE (b c : Hn) : Hn := fun st n a fr h => (b st n a fr h).bind (c st)
def ajl (ms : M Fl) : Hn := fun _ n a fr h => match ms fr h with
 | .ok .nx fr h => .go n a fr h
 | _ => .err
def frozen (fr : Fr) : Bool := fr.all fun o => match o with
 | some d => !d.own
 | none => true
def ajm (m : M D) : Hn := fun st n a fr h => match n with
 | 0 => .err
 | n + 1 => match m fr h with
   | .ok d fr h => if frozen fr then (match st d a h with
     | .go a h => .go n a fr h
     | .out f a h => .out f a h
     | .err => .err) else .err
   | _ => .err
def adg (g : D → M Unit) (b : Hn) : List D → Hn
 | [] => aih
 | d :: ds => fun st n a fr h => match g d fr h with
   | .ok _ fr h => (b st n a fr h).bind (adg g b ds st)
   | _ => .err
def akc (li : M (List D)) (g : D → M Unit) (b : Hn) : Hn := fun st n a fr h => match li fr h with
 | .ok ds fr h => adg g b ds st n a fr h
 | _ => .err
def akF (t : M Bool) (b c : Hn) : Hn := fun st n a fr h => match t fr h with
 | .ok true fr h => b st n a fr h
 | .ok false fr h => c st n a fr h
 | _ => .err
def At (G : GD) (T : Tb) (Tok : Fr → Shared → Wd → Hp → Hh → Prop) (sl : SL) (X : Cx) (a : Fr) (w : Wd) (σ : L2.St) (H : Hp) (fr : Fr) (h : Hh) (s : Shared) (pins : List (Addr × Obj)) : Prop :=
 ∃ sw ww Hw hw, Tok a sw ww Hw hw ∧ G.n ≤ sw.heap.objs.size ∧ X = G.cx (cutS G.n sw) Hw ∧ L2.Inv X pins σ H s ∧ Rel G.K T (Bs.of ww Hw) w σ H fr h ∧ Sl ((G.g, .running) :: sl) s ∧ ∀ p ∈ pins, G.n ≤ p.1
def Fam (G : GD) (X : Cx) : Prop := ∃ s H, s.heap.objs.size = G.n ∧ X = G.cx s H
structure Z0 (G : GD) (T : Tb) where
 Tok : Fr → Shared → Wd → Hp → Hh → Prop
 R : GenEnd
 Y : Protocol
 step : Step
 Fin : Fl → Fr → Hh → Prop
 yld : ∀ {sl : SL} {X : Cx} {n : Nat} {s₀ : Shared} {kap : Resume → Shared → Prop} {x : V} {u : Value} {d : D} {a : Fr} {w : Wd} {σ : L2.St} {H : Hp} {fr : Fr} {h : Hh} {s : Shared} {pins : List (Addr × Obj)},
  At G T Tok sl X a w σ H fr h s pins → frozen fr = true → RelV x u → sS G.K T w x d →
  match step d a h with
  | .go a' h' => (∀ {X' : Cx} {w' : Wd} {H' : Hp} {s' : Shared}, w.le w' → At G T Tok sl X' a' w' σ H' fr h' s' pins → kap (.send .none) s' ∧ kap (.send (.bool true)) s') → Y n s₀ u s kap
  | .out f a' h' => Fin f a' h' → Y n s₀ u s kap
  | .err => True
structure ahq (G : GD) (A : Around) (c : Code) (fs : List Frame) (gd : Bool → Bool) : Prop where
 over : A.over c fs = G.A.deeper G.env
 split : splitAtGen fs = none
 guard : fs.any Frame.guarded = false
 gd : gd false = false
section
variable {G : GD} {T : Tb}
def Exc (C : Z0 G T) (A : Around) (c : Code) (fs : List Frame) (J : Value → Sem PySem.Fin) : Prop := ∀ n s₀ X e s, Fam G X → X.xe e s → Seg (model G.P G.w) A C.R C.Y n s₀ c (J e) fs s
def Z3 (C : Z0 G T) (sl : SL) (A : Around) (c : Code) (fs : List Frame) (t : Sem PySem.Fin) (w : Wd) (pins : List (Addr × Obj)) (r : GR) : Prop := match r with
 | .go n a fr h => ∀ {X : Cx} {w' : Wd} {σ : L2.St} {H : Hp} {s s₀ : Shared}, w.le w' → At G T C.Tok sl X a w' σ H fr h s pins → Seg (model G.P G.w) A C.R C.Y n s₀ c t fs s
 | .out f a h => C.Fin f a h
 | .err => False
theorem Z3.le {C : Z0 G T} {sl : SL} {A : Around} {c : Code} {fs : List Frame} {t : Sem PySem.Fin} {w w' : Wd} {pins : List (Addr × Obj)} {r : GR} (l : w.le w') (z : Z3 C sl A c fs t w pins r) : Z3 C sl A c fs t w' pins r := by
 cases r with
 | go n a fr h => exact fun l2 => z (Wd.le_trans l l2)
 | out f a h => exact z
 | err => exact z
def GA (G : GD) (T : Tb) (st : Stmt) (m : Hn) : Prop := ∀ (C : Z0 G T) (sl : SL) (A : Around) (c : Code) (fs : List Frame) (Kf : Flow → Sem PySem.Fin) (J : Value → Sem PySem.Fin) (gd : Bool → Bool) (lv : List Value → List Value) (n : Nat) (s₀ : Shared) (X : Cx) (a : Fr) (w : Wd) (σ : L2.St) (H : Hp) (fr : Fr) (h : Hh) (s : Shared) (pins : List (Addr × Obj)),
 ahq G A c fs gd → Exc C A c fs J → At G T C.Tok sl X a w σ H fr h s pins → Z3 C sl A c fs (Kf .next) w pins (m C.step n a fr h) →
 Seg (model G.P G.w) A C.R C.Y n s₀ c ((exec st G.env).wrap Kf J gd lv) fs s
def GAs (G : GD) (T : Tb) (sts : List Stmt) (m : Hn) : Prop := ∀ (C : Z0 G T) (sl : SL) (A : Around) (c : Code) (fs : List Frame) (Kf : Flow → Sem PySem.Fin) (J : Value → Sem PySem.Fin) (gd : Bool → Bool) (lv : List Value → List Value) (n : Nat) (s₀ : Shared) (X : Cx) (a : Fr) (w : Wd) (σ : L2.St) (H : Hp) (fr : Fr) (h : Hh) (s : Shared) (pins : List (Addr × Obj)),
 ahq G A c fs gd → Exc C A c fs J → At G T C.Tok sl X a w σ H fr h s pins → Z3 C sl A c fs (Kf .next) w pins (m C.step n a fr h) →
 Seg (model G.P G.w) A C.R C.Y n s₀ c ((execs sts G.env).wrap Kf J gd lv) fs s
theorem At.next {Tok : Fr → Shared → Wd → Hp → Hh → Prop} {sl : SL} {X : Cx} {a : Fr} {w w' : Wd} {σ σ' : L2.St} {H H' : Hp} {fr fr' : Fr} {h h' : Hh} {s s' : Shared} {pins : List (Addr × Obj)} (z : At G T Tok sl X a w σ H fr h s pins) (I : L2.Inv X pins σ' H' s')
 (r : ∀ B, Rel G.K T B w σ H fr h → Rel G.K T B w' σ' H' fr' h') (k : Sl ((G.g, .running) :: sl) s → Sl ((G.g, .running) :: sl) s') : At G T Tok sl X a w' σ' H' fr' h' s' pins := by
 obtain ⟨sw, ww, Hw, hw, t, hn, e, _, R, S, hp⟩ := z
 exact ⟨sw, ww, Hw, hw, t, hn, e, I, r _ R, k S, hp⟩
structure GOk (G : GD) (T : Tb) (k : Nat) : Prop where
 cq : ∀ s H, s.heap.objs.size = G.n → Cq (G.cx s H) T (WX.up E0g) k
theorem At.x {Tok : Fr → Shared → Wd → Hp → Hh → Prop} {sl : SL} {X : Cx} {a : Fr} {w : Wd} {σ : L2.St} {H : Hp} {fr : Fr} {h : Hh} {s : Shared} {pins : List (Addr × Obj)} (z : At G T Tok sl X a w σ H fr h s pins) :
 ∃ s' H', s'.heap.objs.size = G.n ∧ X = G.cx s' H' ∧ L2.Inv X pins σ H s ∧ (∃ B, Rel G.K T B w σ H fr h) ∧ Sl ((G.g, .running) :: sl) s := by
 obtain ⟨sw, ww, Hw, hw, _, hn, e, I, R, S, _⟩ := z
 exact ⟨_, _, aeh hn, e, I, ⟨_, R⟩, S⟩
end
end GenP
namespace GenP
open PySem PySem.Spec PyProof.Rows L2 GenW Pk
section
variable {G : GD} {T : Tb}
end
end GenP
namespace GenP
open PySem PySem.Spec PyProof.Rows L2 GenW Pk
def afo (P : Program) (w : World) (K : PySem.W.Frag) (mg : Str → Option Value) (base : Heap) (N : List Str) (qual : Str) (scope : Scope) (body : List Stmt) (f : Addr) (cdv : Value) (outer : List Env) (H : Hp) (vs : List V) (s : Shared) (u : Value) (s' : Shared) : Prop :=
 ∃ a g go, u = .ref a ∧ s.heap.objs.size < a ∧ s'.heap.get? a = some go ∧ (∀ h : Heap, h.get? a = some go → h.IsGen a g) ∧ (∀ v, go.data ≠ .cell v) ∧ s'.gens[g]? = some (.fresh (.func body (envOfC qual scope s.heap.objs.size f cdv))) ∧
   s'.os = s.os ∧ AllBare s'.gens ∧ (∀ b o, s.heap.get? b = some o → s'.heap.get? b = some o) ∧
   ∀ A : Around, A.handled = none → A.frames = some outer → L2.Inv (GD.cx ⟨P, w, K, mg, base, N, qual, scope, f, cdv, A, outer, s.heap.objs.size, g, [(a, go)]⟩ s H) [] (L2.start N vs) H s'
structure ajd (P : Program) (w : World) (K : PySem.W.Frag) (mg : Str → Option Value) (base : Heap) (f : Addr) (fd : FuncData) (ps N : List Str) (qual : Str) (scope : Scope) (body : List Stmt) : Prop where
 ex : ∃ cdv, ∀ (A : Around) (outer : List Env) (s : Shared) (H : Hp) (args : Args) (us : List Value) (vs : List V), A.depth < recursionLimit → A.handled = none → Env0 P w K mg base A outer s H → BindsTo s fd args (ps.zip us) → Vals vs us → vs.length = ps.length →
  codeAny (model P w) A (.call (.ref f) args) (fun r s' => match r with
   | .ok (.ret u) => afo P w K mg base N qual scope body f cdv outer H vs s u s'
   | _ => False) s
section
variable {P : Program} {w : World} {K : PySem.W.Frag} {mg : Str → Option Value} {base : Heap} {x qual : Str} {params : Arguments} {body : List Stmt} {scope : Scope} {f : Addr} {fd : FuncData} {N ps : List Str} {dvs : List V} {kws : List (Str × V)}
end
section
variable {X : Cx} {T : Tb} {W : WX} {k : Nat}
def Yf (X : Cx) (pins : List (Addr × Obj)) (tg : Expr) (body : List Stmt) (a : Addr) (g : Nat) (D : Ends) : Protocol := fun _ _ v s kap => ∀ gs' : GenState, gs'.bare = true →
 wpAny (model X.prog X.w) X.A (assign tg X.env v) (fun _ s2 => wpAny (model X.prog X.w) X.A (execs body X.env) (fun f s3 => match f with
  | .next => (QC gs' = true → s3.gens[g]? = some gs') ∧ s3.heap.IsGen a g ∧ s3.heap.NoLimit ∧ kap (.send .none) (s3.setGen g .running) ∧ kap (.send (.bool true)) (s3.setGen g .running)
  | .cont => (QC gs' = true → s3.gens[g]? = some gs') ∧ s3.heap.IsGen a g ∧ s3.heap.NoLimit ∧ kap (.send .none) (s3.setGen g .running) ∧ kap (.send (.bool true)) (s3.setGen g .running)
  | .brk => ∃ σ' H', L2.Inv X pins σ' H' s3 ∧ D.nx σ' H'
  | .ret u => ∃ x σ' H', L2.Inv X pins σ' H' s3 ∧ RelV x u ∧ D.rt x H') X.xe s2) X.xe (s.setGen g gs')
def Rf (X : Cx) (pins : List (Addr × Obj)) (D : Ends) : GenEnd := fun _ _ r s => (r = .ok (.ret .none) ∨ r = .ok .next) ∧ (∃ σ' H', L2.Inv X pins σ' H' s ∧ D.nx σ' H') ∨ ∃ e, r = .error e ∧ False
def stepF (g : D → M Unit) (b : M Fl) : Step := fun d a h => match g d a h with
 | .ok _ a h => match b a h with
   | .ok .nx a h => .go a h
   | .ok .ct a h => .go a h
   | .ok .brk a h => .out .nx a h
   | .ok (.rt d) a h => .out (.rt d) a h
   | _ => .err
 | _ => .err
def akG (X : Cx) (T : Tb) (B : Bs) (w0 : Wd) (pins : List (Addr × Obj)) : Fr → Shared → Wd → Hp → Hh → Prop := fun a sw ww Hw hw => ∃ σ, L2.Inv X pins σ Hw sw ∧ Rel X.K T B ww σ Hw a hw ∧ w0.le ww
def akH (X : Cx) (T : Tb) (B : Bs) (W : WX) (w0 : Wd) (D : Ends) : Fl → Fr → Hh → Prop := fun f a h => sY X.K T B W w0 (.ok f a h) D
end
end GenP
namespace GenP
open PySem PySem.Spec PyProof.Rows L2 GenW Pk
abbrev Gc (X : Cx) (N : List Str) (qual : Str) (scope : Scope) (f : Addr) (cdv : Value) (n g : Nat) (a : Addr) (go : Obj) : GD := ⟨X.prog, X.w, X.K, X.mg, X.base, N, qual, scope, f, cdv, X.A.in1, X.stack, n, g, [(a, go)]⟩
section
variable {X : Cx} {T : Tb} {W : WX} {k : Nat} {pins : List (Addr × Obj)} {tg : Expr} {body : List Stmt} {gm : D → M Unit} {bm : M Fl} {is : List Nat} {B : Bs} {w0 : Wd} {Dn : Ends}
 {N : List Str} {qual : Str} {scope : Scope} {f : Addr} {cdv : Value} {n g : Nat} {a : Addr} {go : Obj}
structure akI (X : Cx) (pins : List (Addr × Obj)) (N : List Str) (qual : Str) (scope : Scope) (f : Addr) (cdv : Value) (n g : Nat) (a : Addr) (go : Obj) : Prop where
 low : Low X pins n
 cel : (Gc X N qual scope f cdv n g a go).env.cells = []
 na : n < a
 gen : ∀ h : Heap, h.get? a = some go → h.IsGen a g
 dat : ∀ v, go.data ≠ .cell v
 fr : ∀ b ∈ frs X.stack, b < n
end
end GenP
namespace GenP
open PySem PySem.Spec PyProof.Rows L2 GenW Pk
def ajI (P : Program) (w : World) (K : PySem.W.Frag) (mg : Str → Option Value) (base : Heap) (T : Tb) (k : Nat) (N : List Str) (qual : Str) (scope : Scope) (body : List Stmt) (m : Hn) : Prop :=
 ∀ (f : Addr) (cdv : Value) (A : Around) (outer : List Env) (n g : Nat) (pn : List (Addr × Obj)), GOk ⟨P, w, K, mg, base, N, qual, scope, f, cdv, A, outer, n, g, pn⟩ T k → GAs ⟨P, w, K, mg, base, N, qual, scope, f, cdv, A, outer, n, g, pn⟩ T body m
structure WCG (X : Cx) (e : Expr) (N : List Str) (qual : Str) (scope : Scope) (body : List Stmt) (σ : L2.St) (H : Hp) (Q : List V → Hp → Prop) : Prop where
 go : ∀ pins s, L2.Inv X pins σ H s → wpAny (model X.prog X.w) X.A (eval e X.env) (fun u s' => ∃ f cdv vs H1 s1, L2.Inv X pins σ H1 s1 ∧ Q vs H1 ∧ afo X.prog X.w X.K X.mg X.base N qual scope body f cdv X.stack H1 vs s1 u s') X.xe s
abbrev akd (X : Cx) (T : Tb) (W : WX) (e : Expr) (N : List Str) (qual : Str) (scope : Scope) (body : List Stmt) (m : M (List D)) : Prop := v5 (WCG X e N qual scope body) X.K T W vA m
def acb (nN : Nat) (b : Hn) (st : Step) : List D → Fr → Hh → R Fl := fun ds a h => match b st big a (startF nN ds) h with
 | .go _ a _ h => .ok .nx a h
 | .out f a h => .ok f a h
 | .err => .err
def acd (mc : M (List D)) (nN : Nat) (b : Hn) (g : D → M Unit) (bm : M Fl) : M Fl := fun fr h => match mc fr h with
 | .ok ds fr h => acb nN b (stepF g bm) ds fr h
 | .exc x fr h => .exc x fr h
 | .err => .err
section
variable {X : Cx} {T : Tb} {W : WX} {k kk : Nat} {x : Str} {tp pos : Pos} {iter : Expr} {body gbody : List Stmt} {gm : D → M Unit} {bm : M Fl} {is : List Nat} {N ps : List Str} {qual : Str} {scope : Scope} {gb : Hn} {mc : M (List D)}
end
end GenP
namespace GenP
open PySem PySem.Spec PyProof.Rows L2 GenW Pk
def ace (c : Nat) (mo : M D) : M (List D) := mo.bind fun o fr h => match o.ins h with
 | some (c', _) => if c' = c then .ok [o] fr h else .err
 | none => .err
structure ajK (X : Cx) (T : Tb) (m : Str) (c : Nat) (ps N : List Str) (qual : Str) (scope : Scope) (body : List Stmt) : Prop where
 ex : ∃ (f : Addr) (fd : FuncData), Cls X.K (T.cad c) ∧ Meth X.K (T.cad c) m f ∧ ajd X.prog X.w X.K X.mg X.base f fd ps N qual scope body ∧ Binds X.K fd ps [] ∧ m ∉ T.fld c
 one : ps.length = 1
section
variable {X : Cx} {T : Tb} {W : WX} {k c : Nat} {m nm : Str} {p pos pos' apos : Pos} {o e : Expr} {mo : M D} {ps N : List Str} {qual : Str} {scope : Scope} {body : List Stmt}
end
end GenP
namespace Pk
open PySem PySem.Spec L2
def D.enc (d : D) : PyData := d.toP.getD .none
def leD (a b : D) : Bool := PySem.W.dataLe false D.enc a b
def ahr (a : D) : List D → List D
 | [] => [a]
 | b :: l => if leD a b then a :: b :: l else b :: ahr a l
def acf : List D → List D
 | [] => []
 | a :: l => ahr a (acf l)
def abg : List D → Bool
 | [] => true
 | a :: l => l.all (fun b => !leD b a) && abg l
theorem pw_or {α : Type} {R : α → α → Prop} : ∀ {l : List α}, l.Pairwise R → ∀ a ∈ l, ∀ b ∈ l, a = b ∨ R a b ∨ R b a
 | x :: l, h, a, ha, b, hb => by
   obtain ⟨h1, h2⟩ := List.pairwise_cons.mp h
   rcases List.mem_cons.mp ha with ea | ha
   · rcases List.mem_cons.mp hb with eb | hb
     · exact .inl (ea.trans eb.symm)
     · exact .inr (.inl (ea ▸ h1 b hb))
   · rcases List.mem_cons.mp hb with eb | hb
     · exact .inr (.inr (eb ▸ h1 a ha))
     · exact pw_or h2 a ha b hb
def ahs : PyData → Bool
 | .tuple (_ :: _) => true
 | _ => false
def aii : PyData → Bool
 | .none => false
 | .tuple _ => false
 | _ => true
def D.lds (h : Hh) (d : D) : Option (List D) := match d.der h with
 | .fl l => some l
 | .nl l => some l
 | .kl l => some l
 | _ => none
def ajL (h : Hh) (d : D) : Option D := match d.lds h with
 | some l => if l.all (fun d => d.toP.isSome && decide (d.enc.depth ≤ 8)) && (l.all fun a => l.all fun b => PySem.W.alike a.enc b.enc) && (l.all (fun d => ahs d.enc) || l.all (fun d => aii d.enc)) && decide (l.length ≤ big) && abg (acf l) then some (.nl (acf l)) else none
 | none => none
section
variable {X : Cx} {T : Tb} {W : WX} {k : Nat} {a : Expr} {ma : M D} {pf pos : Pos}
end
end Pk
namespace Pk
open PySem PySem.Spec PyProof.Rows L2
def keyB : Key → D
 | .inl i => .int i
 | .inr s => .str s
def valE : List Key → List D → Key → Option D
 | k' :: ks, d :: ds, k => if k' = k then some d else valE ks ds k
 | _, _, _ => none
def aht (ks : List Key) (k : Key) : Bool := ks.any fun k' => decide (k' = k)
def aij (ks : List Key) (k : Key) : List Key := if aht ks k = true then ks else ks ++ [k]
def aik {α : Type} (ks : List Key) (ds : List α) (k : Key) (v : α) : List α := if aht ks k = true then List.zipWith (fun k' d => if k' = k then v else d) ks ds else ds ++ [v]
def cellE (h : Hh) (d : D) : Option (Nat × List Key × List D) := match d with
 | .ref n => match h[n]? with
   | some (.dk ks ds) => some (n, ks, ds)
   | _ => none
 | _ => none
def acg (h : Hh) (o k : D) : Option D := (cellE h o).bind fun x => (keyD k).bind fun k => valE x.2.1 x.2.2 k
def Z4 (h : Hh) (o k z : D) : Option D := (cellE h o).bind fun x => (keyD k).bind fun k => some ((valE x.2.1 x.2.2 k).getD z)
def Yy (h : Hh) (o k d : D) : Option Hh := (cellE h o).bind fun x => (keyD k).bind fun k => if x.2.1.length ≤ big then some (h.set x.1 (.dk (aij x.2.1 k) (aik x.2.1 x.2.2 k d))) else none
def Z5 (h : Hh) (o : D) : Option D := (cellE h o).bind fun x => some (.nl (x.2.1.map keyB))
def afp : M D := fun fr h => .ok (.ref h.length) fr (h ++ [.dk [] []])
def ach (mo mk : M D) : M D := mo.bind fun o => mk.bind fun k fr h => M.opt (acg h o k) fr h
def Z6 (mo mk mz : M D) : M D := mo.bind fun o fr h => if (cellE h o).isSome = true then (mk.bind fun k => mz.bind fun z fr h => M.opt (Z4 h o k z) fr h) fr h else .err
def aci (mo mk mv : M D) : M Fl := mv.bind fun d => mo.bind fun o => mk.bind fun k fr h => match Yy h o k d with
 | some h' => .ok .nx fr h'
 | none => .err
def Z7 (mo : M D) : M D := mo.bind fun o fr h => M.opt (Z5 h o) fr h
section
variable {X : Cx} {e : Expr} {td : TE} {apos cpos p pos : Pos}
def aje (td : TE) : TE := fun σ H Q => td σ H fun x H1 => ∃ d kvs, x = .ref d ∧ H1 d = some (.dK kvs) ∧ ∀ q, H1 q = none → Q (.ref q) (upd H1 q (.lst (kvs.map fun kv => kV kv.1)))
end
section
variable {X : Cx} {T : Tb} {W : WX} {k : Nat} {pos pos' cpos apos p : Pos} {o e f : Expr} {mo mk mz m : M D}
def Wy (i : Nat) (m : M D) : M D := (g8 i).bind fun o fr h => if (o.lstP h).isSome = true then (m.bind fun x => (g8 i).bind fun o fr h => M.opt (J9 h o x) fr h) fr h else .err
end
end Pk
namespace Pk
open PySem PySem.Spec PyProof.Rows L2
def D.toPd (h : Hh) (d : D) : Option PyData := match d with
 | .ref n => (D.lstP h (.ref n)).map .list
 | d => d.toP
def ajf (h : Hh) (d e : D) : Option Bool := match d.toPd h, e.toP with
 | some p, some q => if SeqAt.shaped p && SeqAt.shaped q then some (PyData.eqv p q) else none
 | _, _ => none
def akJ (h : Hh) (d e : D) : Option Bool := (ajf h d e).map (!·)
section
variable {X : Cx} {T : Tb} {W : WX} {k : Nat}
end
end Pk
namespace Pk
open PySem PySem.Spec PyProof.Rows L2
def mCh {α : Type} (t : Fr → Hh → Bool) (m1 m2 : M α) : M α := fun fr h => if t fr h = true then m1 fr h else m2 fr h
def Vo (m : M D) : Fr → Hh → Bool := fun fr h => match m fr h with
 | .ok (.ref _) _ _ => true
 | _ => false
section
variable {X : Cx} {T : Tb} {W : WX} {k : Nat} {pos : Pos} {tg e elt : Expr} {ifs : List Expr} {body : List Stmt} {g : D → M Unit} {b : M Fl} {is : List Nat} {t : M Bool} {m me : M D} {scope : Scope}
noncomputable def ake (m : M D) (g : D → M Unit) (b : M Fl) : M Fl := mCh (Vo m) (Qw (Ww m) g b) (zr (Lf m) g b)
noncomputable def akK (vs : List Nat) (m : M D) (g : D → M Unit) (t : M Bool) (me : M D) : M D := mCh (Vo m) (ZP vs (Ww m) g t me) (Hm vs (Lf m) g t me)
noncomputable def ajM (m : M D) (g : D → M Unit) (b : M Fl) : M Fl := mCh (Vo m) (Qw (Vl m) g b) (zr (Yo m) g b)
end
end Pk
namespace Pk
open PySem PySem.Spec PyProof.Rows L2
def acj {α : Type} : List (Option α) → Option (List α)
 | [] => some []
 | some a :: l => (acj l).map (a :: ·)
 | none :: _ => none
def D.toPh (h : Hh) : Nat → D → Option PyData
 | 0, d => d.toP
 | k + 1, d => match d with
   | .ref n => match h[n]? with
     | some (.nl l) => (acj (l.map (D.toPh h k))).map .list
     | _ => none
   | .fl l => (acj (l.map (D.toPh h k))).map .list
   | .tup l => (acj (l.map (D.toPh h k))).map .tuple
   | d => d.toP
def ajg (h : Hh) (d e : D) : Option Bool := match d.toPh h 3, e.toPh h 3 with
 | some p, some q => if SeqAt.shaped p && SeqAt.shaped q then some (PyData.eqv p q) else none
 | _, _ => none
def akL (h : Hh) (d e : D) : Option Bool := (ajg h d e).map (!·)
section
variable {X : Cx} {T : Tb} {W : WX} {k : Nat}
def akf (n : Nat) (gs : List D → M Unit) (d : D) : M Unit := match d with
 | .tup l => if l.length = n then gs l else M.opt none
 | .fl l => if l.length = n then gs l else M.opt none
 | .ref m => fun fr h => match h[m]? with
   | some (.nl l) => if l.length = n then gs l fr h else .err
   | _ => .err
 | _ => M.opt none
variable {kk n : Nat} {is : List Nat} {tgs : List Expr} {gs : List D → M Unit} {pos : Pos}
variable {tg e elt : Expr} {ifs : List Expr} {g : D → M Unit} {t : M Bool} {m me : M D} {scope : Scope} {js : List Nat}
noncomputable def ajn (j : Nat) (vs : List Nat) (m : M D) (g : D → M Unit) (t : M Bool) (me : M D) : M Fl := mCh (Vo m) (cQ j (ZP vs (Ww m) g t me)) (cQ j (Hm vs (Lf m) g t me))
end
end Pk
namespace Pk
open PySem PySem.Spec PyProof.Rows L2
theorem Z8 {K : PySem.W.Frag} {T : Tb} {w : Wd} : ∀ ys : List Str, aJ K T w (ys.map V.str) (ys.map D.str)
 | [] => .nil
 | y :: ys => .cons (.str y) (Z8 ys)
def QD (f : Str → Option D) (mo : M D) : M D := mo.bind fun o => M.opt (match o with
 | .str a => f a
 | _ => none)
def MK (f : Hh → Str → D → Option D) (mo me : M D) : M D := mo.bind fun o => match o with
 | .str a => me.bind fun y fr h => M.opt (f h a y) fr h
 | _ => M.opt none
def Z9 (g : Str → Str → D) (_ : Hh) (a : Str) (d : D) : Option D := match d with
 | .str b => some (g a b)
 | _ => none
def ack : Nat := 2000000
def ajN (h : Hh) (a : Str) (d : D) : Option D := match d.its h with
 | some ds => match abZ ds with
   | some ys => if (ys.map (·.length)).sum + ys.length * a.length ≤ ack then some (.str (Txt.join a ys)) else none
   | none => none
 | none => none
def Du (_ : Hh) (a : Str) (d : D) : Option D := match d with
 | .str b => if b.length ≠ 0 ∧ a.length ≤ ack then some (.nl ((Txt.split a b).map .str)) else none
 | _ => none
def ajO (a : Str) : Option D := if a.length ≤ ack then some (.nl ((Txt.words a).map .str)) else none
def ajP (a : Str) : Option D := if a.length ≤ big then some (.str (Txt.upper a)) else none
def ajQ (a : Str) : Option D := some (.bl (Txt.isdigit a))
section
variable {X : Cx} {T : Tb} {W : WX} {k : Nat} {pos pf apos : Pos} {a b o e : Expr} {ma mb mo me m : M D}
theorem ail {VR1 VR : wD V D} {id : String} {name : Str} {r : V → List V → Hp → VK → Prop} {f : Hh → Str → D → Option D} (slot : Slot "str" name id) (ty : typeOf (.builtin id) = pure (.type "method_descriptor")) (rule : MtR X id r) (so : cP X T W o mo) (se : v5 (WE X e) X.K T W VR1 me)
 (hr : ∀ B w σ H fr h z y d c Q, Rel X.K T B w σ H fr h → VR1 X.K T B σ w H fr y c → f h z c = some d → (∀ w' H' v, w.le w' → Rel X.K T B w' σ H' fr h → VR X.K T B σ w' H' fr v d → Q v H') → r (.str z) [y] H Q)
 (hs : starEach [e] X.env = [(false, eval e X.env)] := by exact uD rfl) (hbase : attributeBase o name X.env (eval o X.env) = eval o X.env := by rfl) (hline : (apos.endLine == pos.line) = true := by rfl) : v5 (WE X (.Call (.Attribute o name apos) [e] [] pos)) X.K T W VR (MK f mo me) := fun B w σ H fr h Q R p =>
 vm (pe_m1 slot ty rule nU nU hs hbase hline) (so B w σ H fr h _ R (bz.bind (VR := vV X.K T B σ) p fun d fr1 h1 w1 H1 x e1 l1 r1 rx p1 => by
  cases d with
  | str z =>
    rw [wJ rx]
    refine ⟨⟨z, rfl⟩, ?_⟩
    have p1 : bz X.K T B W (VR X.K T B σ) w1 σ ((me.bind fun y fr h => M.opt (f h z y) fr h) fr1 h1) Q := p1
    exact se B w1 σ H1 fr1 h1 _ r1 (bz.bind (VR := VR1 X.K T B σ) p1 fun c fr2 h2 w2 H2 y e2 l2 r2 ry p2 => by
     cases q : f h2 z c with
     | none => rw [q] at p2; exact p2.elim
     | some d =>
       rw [q] at p2
       exact hr B w2 σ H2 fr2 h2 z y d c Q r2 ry q p2)
  | _ => exact (show False from p1).elim))
theorem aim {g : Str → Str → Bool} {B : Bs} {w : Wd} {σ : L2.St} {H : Hp} {fr : Fr} {h : Hh} {z : Str} {y : V} {d c : D} {Q : VK} (R : Rel X.K T B w σ H fr h) (ry : vV X.K T B σ w H fr y c) (q : Z9 (fun a b => .bl (g a b)) h z c = some d)
 (kk : ∀ w' H' v, w.le w' → Rel X.K T B w' σ H' fr h → vV X.K T B σ w' H' fr v d → Q v H') : ∃ a b, V.str z = .str a ∧ [y] = [V.str b] ∧ Q (.bl (g a b)) H := by
 unfold Z9 at q
 split at q
 · rename_i b
   cases q
   exact ⟨z, b, rfl, by rw [wJ ry], kk w H _ (Pk.Wd.le_refl _) R (.bl _)⟩
 · cases q
theorem XQ (so : cP X T W o mo) (se : cP X T W e me) (hs : starEach [e] X.env = [(false, eval e X.env)] := by exact uD rfl) (hbase : attributeBase o "startswith" X.env (eval o X.env) = eval o X.env := by rfl) (hline : (apos.endLine == pos.line) = true := by rfl) :
 cP X T W (.Call (.Attribute o "startswith" apos) [e] [] pos) (MK (Z9 fun a b => .bl (Txt.startswith a b)) mo me) :=
 ail (VR1 := vV) F.slot_str_startswith F.type_str_startswith mt_startswith so se (fun B w σ H fr h z y d c Q R ry q kk => aim R ry q kk) hs hbase hline
def akg (_ : Hh) : D → D → Option D
 | .str z, .int n => if z.length ≤ 1000 ∧ n ≤ 10000 ∧ -1000 ≤ n then some (.str (Txt.mul z n)) else none
 | _, _ => none
open Builtin Builtin.Str in
def ajh (al W : Nat) (x : Str) : Str := if W ≤ x.length then x else padded x (if al == 62 then W - x.length else 0) (if al == 62 then 0 else W - x.length) 32
open Builtin Builtin.Str Builtin.Float in
structure ajR (sp : Str) (al Wd : Nat) : Prop where
 ne : (sp.length == 0) = false
 sz : sp.length ≤ sizeLine
 asc : ((sp.cps.toList.drop 1).any (· ≥ 128) || (sp.cps.getD 0 0 ≥ 128 && !([60, 62, 61, 94] : List Nat).contains (sp.cps.getD 1 0))) = false
 ok : parseFormatSpec sp.cps.toList "str" 60 = .ok { align := al, width := some Wd }
 bk : (sp.cps.back? == some 0) = false
 al : al = 60 ∨ al = 62
 sm : Wd ≤ 1000
open Builtin Builtin.Str Builtin.Float in
open Builtin Builtin.Str Builtin.Float in
open Builtin Builtin.Str Builtin.Float in
def acl (al Wd : Nat) (d : D) : Option D := match d with
 | .str z => if z.length ≤ big then some (.str (ajh al Wd z)) else none
 | _ => none
def acn (al Wd : Nat) (m : M D) : M D := m.bind fun d => M.opt (acl al Wd d)
end
end Pk
namespace Pk
open PySem PySem.Spec PyProof.Rows L2
def ain (c : Nat) : D := .str ⟨#[c]⟩
def aaa (d : D) : Option (List D) := match d with
 | .str z => some (z.cps.toList.map ain)
 | _ => none
def aei (m : M D) : M (List D) := m.bind fun d => M.opt (aaa d)
section
variable {X : Cx} {T : Tb} {W : WX} {k : Nat} {tg e : Expr} {m : M D}
end
end Pk
namespace Pk
open PySem PySem.Spec PyProof.Rows L2
def listOf (h : Hh) (d : D) : Option (List D) := match d with
 | .fl l => some l
 | .ref n => match h[n]? with
   | some (.nl l) => some l
   | _ => none
 | _ => none
def akh (h : Hh) (d e : D) : Option D := match listOf h d, listOf h e with
 | some a, some b => if a.length + b.length ≤ big then some (.nl (a ++ b)) else none
 | _, _ => none
section
variable {X : Cx} {T : Tb} {W : WX} {pos : Pos} {a b : Expr} {ma mb : M D}
end
end Pk
namespace Pk
open PySem PySem.Spec L2
structure WET (X : Cx) (e : Expr) (σ : L2.St) (H : Hp) (Q : VK) : Prop where
 go : ∀ pins s, 1 ≤ s.toks → Inv X pins σ H s → wpAny (model X.prog X.w) X.A (eval e X.env) (EP X pins σ Q) X.xe s
structure WST (X : Cx) (st : Stmt) (D : Ends) (σ : L2.St) (H : Hp) : Prop where
 go : ∀ pins s, 1 ≤ s.toks → Inv X pins σ H s → wpAny (model X.prog X.w) X.A (exec st X.env) (SP X pins D) X.xe s
structure aej (X : Cx) (st : List Stmt) (D : Ends) (σ : L2.St) (H : Hp) : Prop where
 go : ∀ pins s, 1 ≤ s.toks → Inv X pins σ H s → wpAny (model X.prog X.w) X.A (execs st X.env) (SP X pins D) X.xe s
def afr (X : Cx) (T : Tb) (W : WX) (st : Stmt) (m : M Fl) : Prop := ∀ (B : Bs) (w : Wd) (σ : L2.St) (H : Hp) (fr : Fr) (h : Hh) (D : Ends), Rel X.K T B w σ H fr h → sY X.K T B W w (m fr h) D → WST X st D σ H
def adh (X : Cx) (T : Tb) (W : WX) (sts : List Stmt) (m : M Fl) : Prop := ∀ (B : Bs) (w : Wd) (σ : L2.St) (H : Hp) (fr : Fr) (h : Hh) (D : Ends), Rel X.K T B w σ H fr h → sY X.K T B W w (m fr h) D → aej X sts D σ H
section
variable {X : Cx} {T : Tb} {W : WX} {k : Nat} {pos pos' apos : Pos} {e o : Expr} {st : Stmt} {sts : List Stmt} {m mo me : M D} {s n : M Fl}
theorem abh : PET X e (WET X e) := fun pins s σ H Q h0 I h => h.go pins s h0 I
theorem afX : PST X st (WST X st) := fun pins s σ H D h0 I h => h.go pins s h0 I
theorem aek : PSsT X sts (aej X sts) := fun pins s σ H D h0 I h => h.go pins s h0 I
theorem ahu {VR : wD V D} (q : v5 (WE X e) X.K T W VR m) : v5 (WET X e) X.K T W VR m := fun B w σ H fr h Q R p => ⟨fun pins s _ I => (q B w σ H fr h Q R p).go pins s I⟩
theorem ael (s1 : afr X T W st s) (s2 : Fy X T W sts n) : adh X T W (st :: sts) (az s n) := fun B w σ H fr h D R p =>
 ⟨fun pins sh h0 I => psst_cons afX (PSsT.of Ce) pins sh σ H D h0 I (s1 B w σ H fr h _ R (by
  unfold az at p
  cases e : s fr h with
  | ok f fr1 h1 =>
    rw [M.bind_ok e] at p
    cases f with
    | nx => exact fun w1 σ1 H1 l R1 => s2 B w1 σ1 H1 fr1 h1 D R1 (p.le l)
    | _ => exact p
  | exc y fr1 h1 => rw [M.bind_exc e] at p; exact p
  | err => rw [M.bind_err e] at p; exact p))⟩
theorem ahv (C : Cq X T W k) (i : Nat) {x : Str} (q : v5 (WET X e) X.K T W vE m) (hs : swapsWith e (some (.Name x pos')) pos.line X.env = pure false := by rfl) (hi : X.N[i]? = some x := by rfl) (hx : Loc X.env.scope x := by first | exact Or.inl rfl | exact Or.inr rfl)
 (hf : X.fn x = true ∨ X.env.scope.names.lookup x = some .local := by first | exact .inl rfl | exact .inr rfl) (h0 : i ≠ 0 := by decide) : afr X T W (.Assign [.Name x pos'] e pos) (cQ i m) := fun B w σ H fr h D R p =>
 ⟨fun pins sh ht I => wpAny_Assign_Name (thn ((q B w σ H fr h (fun v H1 => D.nx (σ.set i (some v)) H1) R (sY.bind (VR := vE X.K T B σ) p fun d fr1 h1 w1 H1 v e1 l1 r1 rx p1 => p1 w1 _ H1 (Wd.le_refl _) (r1.put i h0 rx))).go pins sh ht I)
  fun v s1 ⟨y, H1, I1, r1, q1⟩ => store_ok I1 C.nd hi hx r1 (fun s2 I2 => ⟨_, H1, I2, q1⟩) hf) hs⟩
def Dg (y z : Str) (a : Str) : Option D := if a.length ≤ 10000 ∧ z.length ≤ 1000 then some (.str (Txt.replace a y z)) else none
theorem aac {y z : Str} {j j2 : Nat} {c0 c1 : Pos} (so : v5 (WET X o) X.K T W vV mo) (hyz : (y == z) = false := by decide)
 (hst : starEach [.Constant (.str y) j c0, .Constant (.str z) j2 c1] X.env = [(false, eval (.Constant (.str y) j c0) X.env), (false, eval (.Constant (.str z) j2 c1) X.env)] := by rfl)
 (hbase : attributeBase o "replace" X.env (eval o X.env) = eval o X.env := by rfl) (hline : (apos.endLine == pos.line) = true := by rfl) :
 v5 (WET X (.Call (.Attribute o "replace" apos) [.Constant (.str y) j c0, .Constant (.str z) j2 c1] [] pos)) X.K T W vV (QD (Dg y z) mo) := fun B w σ H fr h Q R p =>
 ⟨fun pins sh h0 I => CwR.pet_replT abh hyz hst hbase hline pins sh σ H Q h0 I (so B w σ H fr h _ R (bz.bind (VR := vV X.K T B σ) p fun d fr1 h1 w1 H1 x e1 l1 r1 rx p1 => by
  cases d with
  | str a =>
    rw [wJ rx]
    have p1 : bz X.K T B W (vV X.K T B σ) w1 σ (M.opt (Dg y z a) fr1 h1) Q := p1
    unfold Dg at p1
    split at p1
    · rename_i hl
      refine ⟨a, rfl, ?_, p1 w1 H1 _ (Pk.Wd.le_refl _) r1 (.str _)⟩
      have a1 : (a.length + 1) * z.length ≤ 10001 * 1000 := Nat.mul_le_mul (by omega) hl.2
      omega
    · exact (show False from p1).elim
  | _ => exact (show False from p1).elim))⟩
theorem ahw {te : TE} {to : TE} {id : String} {name : Str} {r : V → List V → Hp → VK → Prop} (slot : Slot "str" name id) (ty : typeOf (.builtin id) = pure (.type "method_descriptor")) (rule : MtR X id r) (ho : PET X o to) (he : PE X e te)
 (hs : starEach [e] X.env = [(false, eval e X.env)] := by rfl) (hbase : attributeBase o name X.env (eval o X.env) = eval o X.env := by rfl) (hline : (apos.endLine == pos.line) = true := by rfl) :
 PET X (.Call (.Attribute o name apos) [e] [] pos) (tM1 r to te) := by
 intro pins s σ H Q h0 I h
 refine PySem.Call_method1 hbase hs hline (thn (ho pins s σ H _ h0 I h) fun v s1 ⟨x, H1, I1, r1, q1⟩ => ?_)
 obtain ⟨⟨a, rfl⟩, q1⟩ := q1
 obtain ⟨t, rfl⟩ := _root_.id r1
 refine ⟨"str", _, F.plainAttrs_str, slot, ty, typeIs_str _ _ _, (fun _ e => nomatch e), Calls.callWith_builtin rfl (Calls.evalArgs_plain (Calls.spliced_cons ?_))⟩
 exact thn (he.run pins s1 σ H1 _ I1 q1) fun u s2 ⟨y, H2, I2, r2, q2⟩ => Calls.spliced_nil (rule pins s2 σ H2 _ [y] _ [u] Q I2 r1 (.cons r2 .nil) q2)
theorem aco (so : v5 (WET X o) X.K T W vV mo) (se : cP X T W e me) (hs : starEach [e] X.env = [(false, eval e X.env)] := by exact uD rfl) (hbase : attributeBase o "split" X.env (eval o X.env) = eval o X.env := by rfl) (hline : (apos.endLine == pos.line) = true := by rfl) :
 v5 (WET X (.Call (.Attribute o "split" apos) [e] [] pos)) X.K T W vE (MK Du mo me) := fun B w σ H fr h Q R p =>
 ⟨fun pins sh h0 I => ahw F.slot_str_split F.type_str_split mt_split abh nU hs hbase hline pins sh σ H Q h0 I (so B w σ H fr h _ R (bz.bind (VR := vV X.K T B σ) p fun d fr1 h1 w1 H1 x e1 l1 r1 rx p1 => by
  cases d with
  | str z =>
    rw [wJ rx]
    refine ⟨⟨z, rfl⟩, ?_⟩
    have p1 : bz X.K T B W (vE X.K T B σ) w1 σ ((me.bind fun y fr h => M.opt (Du h z y) fr h) fr1 h1) Q := p1
    exact se B w1 σ H1 fr1 h1 _ r1 (bz.bind (VR := vV X.K T B σ) p1 fun c fr2 h2 w2 H2 y e2 l2 r2 ry p2 => by
     cases q : Du h2 z c with
     | none => rw [q] at p2; exact p2.elim
     | some d =>
       rw [q] at p2
       unfold Du at q
       split at q
       · split at q
         · rename_i b hl
           cases q
           rw [wJ ry]
           exact ⟨z, b, rfl, rfl, beq_eq_false_iff_ne.mpr hl.1, Nat.le_trans (Nat.add_le_add_right hl.2 2) (by decide), fun p np => Rz r2 (Z8 _) np p2⟩
         · cases q
       · cases q)
  | _ => exact (show False from p1).elim))⟩
end
section
variable {P : Program} {w : World} {K : PySem.W.Frag} {mg : Str → Option Value} {base : Heap} {T : Tb} {k : Nat} {x qual : Str} {params : Arguments} {body : List Stmt} {scope : Scope} {dvs : List V} {kws : List (Str × V)} {f : Addr} {fd : FuncData} {N ps : List Str}
def afs (P : Program) (w : World) (K : PySem.W.Frag) (mg : Str → Option Value) (base : Heap) (T : Tb) (k : Nat) (N : List Str) (qual : Str) (scope : Scope) (body : List Stmt) (m : M Fl) : Prop :=
 ∀ (f : Addr) (cdv : Value) (A : Around) (outer : List Env) (s : Shared) (H : Hp) (E : XK), Cq (Cxd P w K mg base N qual scope f cdv A outer s H E) T (WX.up E) k → adh (Cxd P w K mg base N qual scope f cdv A outer s H E) T (WX.up E) body m
theorem afY (F : FunD K x qual params body scope dvs kws f fd) (S : FnScope N ps scope) (hnc : ∀ y ∈ scope.names, y.2 ≠ .cell) (hps : 1 ≤ ps.length) {m : M Fl} (dm : afs P w K mg base T k N qual scope body m) : FnOk P w K mg base (L2.CX P w) (k + 1) f fd ps (spF K T ps.length (sX N.length m)) := by
 obtain ⟨oc, od, dV, kV, doc, pm, an, cdv, ct, osl, rfl, lk, hcd, _, _⟩ := F.ex
 refine fn_ofT lk hcd S hnc hps (fun vs H Q E ⟨w, h, ds, _, rs, hl, _⟩ => rs.length.trans hl) fun A outer s H vs Q E hr ⟨w, h, ds, R, rs, hl, post⟩ => ⟨aej _ body, aek, ?_⟩
 have hpl : ps.length ≤ N.length := by
  have := congrArg List.length S.pre
  rw [List.length_take] at this
  omega
 refine dm f cdv A outer s H E (Yn S hr) (Bs.of w H) w _ H (startF N.length ds) h _ (R.start rs (by rw [hl]; exact hpl)) ?_
 unfold sX at post
 cases e : m (startF N.length ds) h with
 | ok fl fr h' =>
   rw [e] at post
   cases fl with
   | nx => exact fun w' σ' H' l R' => post w' H' .non l R'.unframe (.inl .non)
   | rt d => exact fun w' σ' H' v l R' rv => post w' H' v l R'.unframe (by
    rcases rv with rv | ⟨p, o, rfl, O, lo, eH, rd⟩
    · exact .inl rv
    · exact .inr ⟨p, o, rfl, O, fun i => M4, eH, rd⟩)
   | brk => exact post.elim
   | ct => exact post.elim
 | exc y fr h' =>
   rw [e] at post
   exact fun w' σ' H' c dd l R' z => post w' H' c dd l R'.unframe z
 | err => rw [e] at post; exact post
end
end Pk
namespace Pk
open PySem PySem.Spec L2
def Wq {α : Type} (r : R α) (Q : α → Fr → Hh → Prop) (E : bh → Fr → Hh → Prop) : Prop := match r with
 | .ok a fr h => Q a fr h
 | .exc x fr h => E x fr h
 | .err => False
def vD (d : D) : Option (List D) := match d with
 | .int j => if Oo j then some (Jv 0 j.toNat) else none
 | _ => none
def vK (x y : D) : Option (List D) := match x, y with
 | .int i, .int j => if Oo i && Oo j then some (Jv i (j - i).toNat) else none
 | _, _ => none
def wO (_ : bh) (_ : Fr) (_ : Hh) : Prop := False
def Oq {α : Type} (o : Option α) (K : α → Prop) : Prop := match o with
 | some a => K a
 | none => False
def Sq (s : Option (Option D)) (K : D → Prop) : Prop := match s with
 | some (some d) => K d
 | _ => False
def G7 (b : Bool) (A B : Prop) : Prop := if b then A else B
def Bq (fr : Fr) (K : Fr → Prop) : Prop := K fr
def Fq (f : Fl) (A B : Prop) : Prop := match f with
 | .nx => A
 | _ => B
def Rq (f : Fl) (K : D → Prop) : Prop := match f with
 | .rt d => K d
 | .nx => K .non
 | _ => False
section
variable {α β : Type} {Q : α → Fr → Hh → Prop} {E : bh → Fr → Hh → Prop} {fr : Fr} {h : Hh}
theorem wB {a : α} : Wq (.ok a fr h) Q E = Q a fr h := by unfold Wq; rfl
theorem Ig {x : bh} : Wq (.exc x fr h : R α) Q E = E x fr h := by unfold Wq; rfl
theorem aR : Wq (.err : R α) Q E = False := by unfold Wq; rfl
theorem sH {a : α} {K : α → Prop} : Oq (some a) K = K a := by unfold Oq; rfl
theorem sJ {K : α → Prop} : Oq none K = False := by unfold Oq; rfl
theorem Sd {o : Option α} {f : α → β} {K : β → Prop} : Oq (o.map f) K = Oq o fun a => K (f a) := by cases o <;> (unfold Oq; rfl)
theorem Sh {c : Prop} [Decidable c] {a : α} {K : α → Prop} : Oq (if c then some a else none) K = (c ∧ K a) := by
 by_cases hc : c
 · rw [if_pos hc, sH]; simp [hc]
 · rw [if_neg hc, sJ]; simp [hc]
theorem afZ {c : Bool} {a : α} {K : α → Prop} : Oq (if c then some a else none) K = (c = true ∧ K a) := Sh
theorem Bp {d : D} {K : D → Prop} : Sq (some (some d)) K = K d := by unfold Sq; rfl
theorem KY {K : D → Prop} : Sq (some none) K = False := by unfold Sq; rfl
theorem JM {A B : Prop} : G7 true A B = A := by unfold G7; exact if_pos rfl
theorem JN {A B : Prop} : G7 false A B = B := by unfold G7; exact if_neg (fun z => by cases z)
theorem aem {a : Option D} {l : Fr} {K : Fr → Prop} : Bq (a :: l) K = K (a :: l) := by unfold Bq; rfl
theorem af0 {K : Fr → Prop} : Bq [] K = K [] := by unfold Bq; rfl
theorem Wz {A B : Prop} : Fq .nx A B = A := by unfold Fq; rfl
theorem abi {A B : Prop} {d : D} : Fq (.rt d) A B = B := by unfold Fq; rfl
theorem aad {A B : Prop} : Fq .brk A B = B := by unfold Fq; rfl
theorem abj {A B : Prop} : Fq .ct A B = B := by unfold Fq; rfl
theorem af1 {K : D → Prop} : Rq .nx K = K .non := by unfold Rq; rfl
theorem af2 {K : D → Prop} {d : D} : Rq (.rt d) K = K d := by unfold Rq; rfl
theorem Wq.mono {r : R α} {Q Q' : α → Fr → Hh → Prop} {E : bh → Fr → Hh → Prop} (w : Wq r Q E) (hq : ∀ a fr h, Q a fr h → Q' a fr h) : Wq r Q' E := by
 cases r with
 | ok a fr h => exact hq _ _ _ w
 | exc x fr h => exact w
 | err => exact w
theorem Wq.ex {r : R α} {Q : α → Fr → Hh → Prop} (w : Wq r Q wO) : ∃ a fr h, r = .ok a fr h ∧ Q a fr h := by
 cases r with
 | ok a fr h => exact ⟨a, fr, h, rfl, w⟩
 | exc x fr h => exact w.elim
 | err => exact w.elim
theorem Wq.eq {a : α} {r : R α} {fr : Fr} {h : Hh} (w : Wq r (fun b fr1 h1 => b = a ∧ fr1 = fr ∧ h1 = h) wO) : r = .ok a fr h := by
 obtain ⟨b, fr1, h1, e, e1, e2, e3⟩ := w.ex
 rw [e, e1, e2, e3]
theorem Wq.of_eq {r : R α} {a : α} {fr : Fr} {h : Hh} (e : r = .ok a fr h) (q : Q a fr h) : Wq r Q E := by
 rw [e]; exact q
theorem uz {a : α} : Wq (M.ret a fr h) Q E = Q a fr h := by unfold M.ret; exact wB
theorem aq {m : M β} {f : β → M α} : Wq (M.bind m f fr h) Q E = Wq (m fr h) (fun a fr h => Wq (f a fr h) Q E) E := by
 unfold M.bind
 cases m fr h <;> (unfold Wq; rfl)
theorem nY {o : Option α} : Wq (M.opt o fr h) Q E = Oq o fun a => Q a fr h := by
 cases o <;> (unfold Wq Oq M.opt; rfl)
end
section
variable {α : Type} {Q : D → Fr → Hh → Prop} {P : Bool → Fr → Hh → Prop} {S : α → Fr → Hh → Prop} {U : Unit → Fr → Hh → Prop} {G : List D → Fr → Hh → Prop} {L : Fl → Fr → Hh → Prop} {I : Option Int → Fr → Hh → Prop} {E : bh → Fr → Hh → Prop} {fr : Fr} {h : Hh} {m ma mb mc : M D} {i : Nat}
theorem aio {d : D} : Wq (mC d fr h) Q E = Q d fr h := uz
theorem ahx : Wq (nQ m fr h) Q E = Wq (m fr h) (fun d fr h => Q d.fz fr h) E := by
 unfold nQ; rw [aq]; simp only [uz]
theorem af3 : Wq (ak i fr h) Q E = Sq fr[i]? fun d => G7 d.own (Bq (fr.set i (some d.fz)) fun fr => Q d.fz fr h) (Q d fr h) := by
 unfold ak
 cases fr[i]? with
 | none => rfl
 | some o => cases o with
   | none => rfl
   | some d =>
     rw [Bp]
     dsimp only
     cases d.own <;> rfl
theorem aen : Wq (yN i fr h) Q E = Sq fr[i]? fun d => Bq (fr.set i none) fun fr => Q d fr h := by
 unfold yN
 cases fr[i]? with
 | none => rfl
 | some o => cases o <;> rfl
theorem abk : Wq (g8 i fr h) Q E = Sq fr[i]? fun d => Q d fr h := by
 unfold g8
 cases fr[i]? with
 | none => rfl
 | some o => cases o <;> rfl
theorem WD : Wq (xZ i fr h) U E = Sq fr[i]? fun _ => U () fr h := by
 unfold xZ
 cases fr[i]? with
 | none => rfl
 | some o => cases o <;> rfl
theorem ahy {f : Hh → D → D → Option α} : Wq (bf f ma mb fr h) S E = Wq (ma fr h) (fun x fr h => Wq (mb fr h) (fun y fr h => Oq (f h x y) fun z => S z fr h) E) E := by
 unfold bf; simp only [aq, nY]
theorem ahz {f : Hh → D → Option α} : Wq (iy f ma fr h) S E = Wq (ma fr h) (fun x fr h => Oq (f h x) fun z => S z fr h) E := by
 unfold iy; simp only [aq, nY]
theorem ahA {t : M Bool} : Wq (mBl t fr h) Q E = Wq (t fr h) (fun b fr h => Q (.bl b) fr h) E := by
 unfold mBl; simp only [aq, uz]
theorem af4 {t : M Bool} : Wq (Ju t fr h) P E = Wq (t fr h) (fun b fr h => P (!b) fr h) E := by
 unfold Ju; simp only [aq, uz]
theorem Ih {β : Type} {b : Bool} {m n : M β} {Q : β → Fr → Hh → Prop} : Wq ((if b then m else n) fr h) Q E = G7 b (Wq (m fr h) Q E) (Wq (n fr h) Q E) := by
 cases b
 · rw [JN]; rfl
 · rw [JM]; rfl
theorem af5 {t u : M Bool} : Wq (Mi t u fr h) P E = Wq (t fr h) (fun b fr h => G7 b (Wq (u fr h) P E) (P false fr h)) E := by
 unfold Mi; simp only [aq, Ih, uz]
theorem ahB {t u : M Bool} : Wq (TJ t u fr h) P E = Wq (t fr h) (fun b fr h => G7 b (P true fr h) (Wq (u fr h) P E)) E := by
 unfold TJ; simp only [aq, Ih, uz]
theorem aeo : Wq (abD m fr h) Q E = Wq (m fr h) (fun d fr h => Oq d.tb fun b => Q (.bl (!b)) fr h) E := by
 unfold abD; simp only [aq, nY, Sd]
theorem aep {n : M D} : Wq (RD m n fr h) Q E = Wq (m fr h) (fun d fr h => Oq d.tb fun b => G7 b (Wq (n fr h) Q E) (Q (.bl false) fr h)) E := by
 unfold RD; rw [aq]
 congr 1
 funext d fr h
 cases d.tb with
 | none => dsimp only; rw [nY, sJ, sJ]
 | some b =>
   rw [sH]
   cases b
   · rw [JN]; exact uz
   · rw [JM]
theorem af6 {n : M D} : Wq (adL m n fr h) Q E = Wq (m fr h) (fun d fr h => Oq d.tb fun b => G7 b (Q (.bl true) fr h) (Wq (n fr h) Q E)) E := by
 unfold adL; rw [aq]
 congr 1
 funext d fr h
 cases d.tb with
 | none => dsimp only; rw [nY, sJ, sJ]
 | some b =>
   rw [sH]
   cases b
   · rw [JN]
   · rw [JM]; exact uz
theorem adi {f g : Hh → D → D → Option Bool} : Wq (M5 f g ma mb mc fr h) P E = Wq (ma fr h) (fun x fr h => Wq (mb fr h) (fun y fr h => Oq (f h x y) fun b => G7 b (Wq (mc fr h) (fun z fr h => Oq (g h y z) fun c => P c fr h) E) (P false fr h)) E) E := by
 unfold M5; simp only [aq]
 congr 1
 funext x fr h
 congr 1
 funext y fr h
 cases f h x y with
 | none => rw [sJ]; exact aR
 | some b =>
   rw [sH]
   cases b
   · rw [JN]; exact wB
   · rw [JM]; dsimp only; simp only [aq, nY]
theorem ahC {t : M Bool} {m n : M α} : Wq (Ao t m n fr h) S E = Wq (t fr h) (fun b fr h => G7 b (Wq (m fr h) S E) (Wq (n fr h) S E)) E := by
 unfold Ao; simp only [aq, Ih]
theorem adk : Wq (aa [] fr h) G E = G [] fr h := uz
theorem adl {ms : List (M D)} : Wq (aa (m :: ms) fr h) G E = Wq (m fr h) (fun d fr h => Wq (aa ms fr h) (fun ds fr h => G (d :: ds) fr h) E) E := by
 rw [aa]; simp only [aq, uz]
theorem af7 {ms : List (M D)} : Wq (uX ms fr h) Q E = Wq (aa ms fr h) (fun ds fr h => ds.length ≤ big ∧ Q (.tup ds) fr h) E := by
 unfold uX; simp only [aq, nY, Sh]
theorem af8 {ms : List (M D)} : Wq (yK ms fr h) Q E = Wq (aa ms fr h) (fun ds fr h => ds.length ≤ big ∧ Q (.nl ds) fr h) E := by
 unfold yK; simp only [aq, nY, Sh]
theorem aeq {β : Type} {m : M β} {f : Hh → D → β → Option D} : Wq (bj i m f fr h) Q E = Sq fr[i]? fun _ => Wq (m fr h) (fun y fr h => Sq fr[i]? fun d => Oq (f h d y) fun z => Q z fr h) E := by
 unfold bj; simp only [aq, WD, abk, nY]
theorem ahD : Wq (mPn fr h) I E = I none fr h := uz
theorem ahE : Wq (U4 m fr h) I E = Wq (m fr h) (fun d fr h => Oq (match d with | .int i => some i | _ => none) fun i => I (some i) fr h) E := by
 unfold U4; rw [aq]
 congr 1
 funext d fr h
 cases d <;> (rw [nY]; first | rw [sJ, sJ] | rw [sH, sH])
theorem aer {ml mh : M (Option Int)} {J : Option Int × Option Int → Fr → Hh → Prop} : Wq (Ld ml mh fr h) J E = Wq (ml fr h) (fun l fr h => Wq (mh fr h) (fun u fr h => J (l, u) fr h) E) E := by
 unfold Ld; simp only [aq, uz]
theorem af9 {ml mh : M (Option Int)} : Wq (adN m ml mh fr h) Q E = Wq (m fr h) (fun d fr h => Wq (ml fr h) (fun l fr h => Wq (mh fr h) (fun u fr h => Oq (zG h d (l, u)) fun z => Q z fr h) E) E) E := by
 unfold adN; simp only [aq, nY]
theorem ahF : Wq (Lf m fr h) G E = Wq (m fr h) (fun d fr h => Oq (d.its []) fun l => G l fr h) E := by
 unfold Lf; simp only [aq, nY]
theorem aes : Wq (yO m fr h) G E = Wq (m fr h) (fun d fr h => Oq (vD d) fun l => G l fr h) E := by
 unfold yO; simp only [aq, nY]; rfl
theorem aet : Wq (abF ma mb fr h) G E = Wq (ma fr h) (fun x fr h => Wq (mb fr h) (fun y fr h => Oq (vK x y) fun l => G l fr h) E) E := by
 unfold abF; simp only [aq, nY]; rfl
theorem aeu : Wq (Yo m fr h) G E = Wq (m fr h) (fun d fr h => Oq d.lst fun l => G (FP 0 l) fr h) E := by
 unfold Yo; simp only [aq, nY, Sd]
theorem aga {s n : M Fl} : Wq (az s n fr h) L E = Wq (s fr h) (fun f fr h => Fq f (Wq (n fr h) L E) (L f fr h)) E := by
 unfold az; rw [aq]
 congr 1
 funext f fr h
 cases f with
 | nx => rw [Wz]
 | brk => rw [aad]; exact uz
 | ct => rw [abj]; exact uz
 | rt d => rw [abi]; exact uz
theorem agb {t : M Bool} {s n : M Fl} : Wq (uw t s n fr h) L E = Wq (t fr h) (fun b fr h => G7 b (Wq (s fr h) L E) (Wq (n fr h) L E)) E := by
 unfold uw; simp only [aq, Ih]
theorem aev {m : M α} : Wq (tL m fr h) L E = Wq (m fr h) (fun _ fr h => L .nx fr h) E := by
 unfold tL; simp only [aq, uz]
theorem agc : Wq (ie m fr h) L E = Wq (m fr h) (fun d fr h => L (.rt d) fr h) E := by
 unfold ie; simp only [aq, uz]
theorem agd : Wq (cQ i m fr h) L E = Wq (m fr h) (fun d fr h => Bq (fr.set i (some d)) fun fr => L .nx fr h) E := by
 unfold cQ Bq; rw [aq]
 congr 1
theorem age {g : D → M Unit} : Wq (PP m g fr h) L E = Wq (m fr h) (fun d fr h => Wq (g d fr h) (fun _ fr h => L .nx fr h) wO) E := by
 unfold PP; rw [aq]
 congr 1
 funext d fr h
 cases g d fr h <;> (unfold Wq; rfl)
theorem aew {is : List Nat} {ms : M (List D)} : Wq (U5 is ms fr h) L E = Wq (ms fr h) (fun ds fr h => Oq (Dq is ds fr) fun fr' => ds.length ≤ big ∧ Bq fr' fun fr' => L .nx fr' h) E := by
 unfold U5 Bq; rw [aq]
 congr 1
 funext ds fr h
 cases Dq is ds fr with
 | none => exact aR.trans sJ.symm
 | some f =>
   rw [sH]
   dsimp only
   split
   · rename_i hb; rw [wB]; simp only [hb, true_and]
   · rename_i hb; rw [aR]; simp only [hb, false_and]
theorem aex {l : M (List D)} {g : D → M Unit} {b : M Fl} : Wq (zr l g b fr h) L E = Wq (l fr h) (fun ds fr h => Wq (CV g b ds fr h) L E) E := by
 unfold zr; rw [aq]
theorem ahG {vs : List Nat} {l : M (List D)} {g : D → M Unit} {t : M Bool} {e : M D} : Wq (Hm vs l g t e fr h) Q E = Wq (l fr h) (fun ds fr h => ds.length ≤ big ∧ Bq (vU fr vs) fun fr => Wq (zU vs g t e ds fr h) (fun r fr h => Q (.nl r) fr h) E) E := by
 unfold Hm U6 Bq; rw [aq]
 congr 1
 funext ds fr h
 rw [aq, wB]
 split
 · rename_i hb; rw [aq]; simp only [uz, hb, true_and]
 · rename_i hb; rw [nY, sJ]; simp only [hb, false_and]
theorem aey {d : D} : Wq (wF i d fr h) U E = Bq (fr.set i (some d)) fun fr => U () fr h := by
 unfold wF Bq; exact wB
theorem adm : Wq (Ny [] fr h) U E = U () fr h := uz
theorem acp {g : D → M Unit} {gs : List D → M Unit} {d : D} {ds : List D} : Wq (BX g gs (d :: ds) fr h) U E = Wq (g d fr h) (fun _ fr h => Wq (gs ds fr h) U E) E := by
 unfold BX; exact aq
theorem adn {n : Nat} {gs : List D → M Unit} {l : List D} : Wq (Le n gs (.tup l) fr h) U E = (l.length = n ∧ Wq (gs l fr h) U E) := by
 unfold Le
 dsimp only
 split
 · rename_i hb; simp only [hb, true_and]
 · rename_i hb; rw [nY, sJ]; simp only [hb, false_and]
theorem agf {f : List D → Option (List D)} : Wq (nM i f fr h) U E = Sq fr[i]? fun d => match d with
 | .nl l => Oq (f l) fun l' => Bq (fr.set i (some (.nl l'))) fun fr => U () fr h
 | .ref n => Oq h[n]? fun c => match c with
   | .nl l => Oq (f l) fun l' => U () fr (h.set n (.nl l'))
   | _ => False
 | _ => False := by
 unfold nM Bq
 cases e : fr[i]? with
 | none => unfold Wq Sq; rfl
 | some o =>
   cases o with
   | none => unfold Wq Sq; rfl
   | some d =>
     rw [Bp]
     cases d with
     | nl l => dsimp only; cases f l <;> (unfold Wq Oq; rfl)
     | ref n =>
       dsimp only
       cases h[n]? with
       | none => unfold Wq Oq; rfl
       | some c =>
         rw [sH]
         cases c with
         | nl l => dsimp only; cases f l <;> (unfold Wq Oq; rfl)
         | _ => unfold Wq; rfl
     | _ => unfold Wq; rfl
theorem aez {n : Nat} {f : List D → Option (List D)} : Wq (xf (.ref n) f fr h) U E = Oq h[n]? fun c => match c with
 | .nl l => Oq (f l) fun l' => U () fr (h.set n (.nl l'))
 | _ => False := by
 unfold xf
 dsimp only
 cases h[n]? with
 | none => unfold Wq Oq; rfl
 | some c =>
   rw [sH]
   cases c with
   | nl l => dsimp only; cases f l <;> (unfold Wq Oq; rfl)
   | _ => unfold Wq; rfl
theorem aeA : Wq (U7 i m fr h) Q E = Wq (nM i wG fr h) (fun _ fr h => Wq (m fr h) (fun d fr h => Wq (nM i (Gg d) fr h) (fun _ fr h => Q .non fr h) E) E) E := by
 unfold U7; simp only [aq, uz]
theorem aeB : Wq (abG i fr h) Q E = Wq (nM i Qa fr h) (fun _ fr h => Q .non fr h) E := by
 unfold abG; simp only [aq, uz]
theorem aeC {mo : M D} : Wq (Iz mo m fr h) Q E = Wq (mo fr h) (fun o fr h => Wq (xf o wG fr h) (fun _ fr h => Wq (m fr h) (fun d fr h => Wq (xf o (Gg d) fr h) (fun _ fr h => Q .non fr h) E) E) E) E := by
 unfold Iz; simp only [aq, uz]
theorem aeD {mo : M D} : Wq (abH mo fr h) Q E = Wq (mo fr h) (fun o fr h => Wq (xf o Qa fr h) (fun _ fr h => Q .non fr h) E) E := by
 unfold abH; simp only [aq, uz]
theorem aeE {mi : M D} : Wq (Lg i m mi fr h) L E = Wq (m fr h) (fun d fr h => Sq fr[i]? fun _ => Wq (mi fr h) (fun j fr h => Wq (nM i (HH j d) fr h) (fun _ fr h => L .nx fr h) E) E) E := by
 unfold Lg; simp only [aq, uz, WD]
theorem aeF {mo mi : M D} : Wq (abI mo m mi fr h) L E = Wq (m fr h) (fun d fr h => Wq (mo fr h) (fun o fr h => Wq (mi fr h) (fun j fr h => Wq (xf o (HH j d) fr h) (fun _ fr h => L .nx fr h) E) E) E) E := by
 unfold abI; simp only [aq, uz]
theorem aeG : Wq (IK m fr h) Q E = Wq (m fr h) (fun d fr h => d.own = true ∧ Q (.ref h.length) fr (h ++ [d])) E := by
 unfold IK; rw [aq]
 congr 1
 funext d fr h
 split
 · rename_i hb; rw [wB]; simp only [hb, true_and]
 · rename_i hb; rw [aR, eq_iff_iff]
   exact ⟨False.elim, fun z => hb z.1⟩
theorem acq {ix : Nat → Option Nat} : Wq (xq i ix m fr h) L E = Wq (m fr h) (fun d fr h => Wq (Ez i ix d fr h) (fun _ fr h => L .nx fr h) E) E := by
 unfold xq; simp only [aq, uz]
theorem aeH {ix : Nat → Option Nat} {x : D} : Wq (Ez i ix x fr h) U E = Sq fr[i]? fun d => match d with
 | .no c fs => Oq (ix c) fun k => Oq (wY k x fs) fun fs' => Bq (fr.set i (some (.no c fs'))) fun fr => U () fr h
 | .ref n => Oq h[n]? fun c => match c with
   | .no c fs => Oq (ix c) fun k => Oq (wY k x fs) fun fs' => U () fr (h.set n (.no c fs'))
   | _ => False
 | _ => False := by
 unfold Ez Bq
 cases e : fr[i]? with
 | none => unfold Wq Sq; rfl
 | some o =>
   cases o with
   | none => unfold Wq Sq; rfl
   | some d =>
     rw [Bp]
     cases d with
     | no c fs =>
       dsimp only
       cases ix c with
       | none => unfold Wq Oq; rfl
       | some k => rw [sH]; dsimp only; cases wY k x fs <;> (unfold Wq Oq; rfl)
     | ref n =>
       dsimp only
       cases h[n]? with
       | none => unfold Wq Oq; rfl
       | some c =>
         rw [sH]
         cases c with
         | no c fs =>
           dsimp only
           cases ix c with
           | none => unfold Wq Oq; rfl
           | some k => rw [sH]; dsimp only; cases wY k x fs <;> (unfold Wq Oq; rfl)
         | _ => unfold Wq; rfl
     | _ => unfold Wq; rfl
theorem Br {r : R D} {fr0 : Fr} : Wq (v4 fr0 r) Q E = Wq r (fun d _ h => Q d fr0 h) (fun x _ h => E x fr0 h) := by
 cases r <;> (unfold Wq v4; rfl)
theorem aae {n k : Nat} {F : Fn} {gD : List D → List D → List D} {ma mk : M (List D)} : Wq (bD n k F gD ma mk fr h) Q E = Wq (ma fr h) (fun ds fr h => Wq (mk fr h) (fun es fr h => ds.length = n ∧ es.length = k ∧ Wq (F (gD ds es) h) (fun d _ h => Q d fr h) (fun x _ h => E x fr h)) E) E := by
 unfold bD; rw [aq]
 congr 1
 funext ds fr h
 rw [aq]
 congr 1
 funext es fr h
 split
 · rename_i hb; rw [Br]; simp only [hb.1, hb.2, true_and]
 · rename_i hb
   rw [aR, eq_iff_iff]
   exact ⟨False.elim, fun z => hb ⟨z.1, z.2.1⟩⟩
theorem aeI {n k : Nat} {mt : Nat → Option Fn} {gD : List D → List D → List D} {mo : M D} {ma mk : M (List D)} : Wq (ux n k mt gD mo ma mk fr h) Q E = Wq (mo fr h) (fun o fr h => Oq (fnOf mt h o) fun F => Wq (ma fr h) (fun ds fr h => Wq (mk fr h) (fun es fr h => ds.length = n ∧ es.length = k ∧ Wq (F (gD (o :: ds) es) h) (fun d _ h => Q d fr h) (fun x _ h => E x fr h)) E) E) E := by
 unfold ux; rw [aq]
 congr 1
 funext o fr h
 cases fnOf mt h o with
 | none => exact aR.trans sJ.symm
 | some F =>
   rw [sH]
   dsimp only
   rw [aae]
   simp only [aq, uz, ald, Nat.add_right_cancel_iff]
theorem aeJ {mt : Nat → Option Fn} {mo : M D} : Wq (IV mt mo fr h) Q E = Wq (mo fr h) (fun o fr h => Oq (fnOf mt h o) fun F => Wq (F [o] h) (fun d _ h => Q d fr h) wO) E := by
 unfold IV; rw [aq]
 congr 1
 funext o fr h
 cases fnOf mt h o with
 | none => exact aR.trans sJ.symm
 | some F =>
   rw [sH]
   dsimp only
   cases F [o] h <;> (unfold Wq; rfl)
theorem aeK {n : Nat} {m : M Fl} {ds : List D} : Wq (sX n m ds h) Q E = Bq (startF n ds) fun fr => Wq (m fr h) (fun f _ h => Rq f fun d => Q d [] h) (fun x _ h => E x [] h) := by
 unfold sX Bq
 show _ = Wq (m (startF n ds) h) _ _
 generalize m (startF n ds) h = r
 cases r with
 | ok f fr h => cases f <;> rfl
 | exc x fr h => rfl
 | err => rfl
def Nq (c : Nat) (s : Option (Option D)) (K : D → Prop) : Prop := match s with
 | some (some (.no c' fs)) => c' = c ∧ K (.no c fs)
 | _ => False
theorem Xv {c c' : Nat} {fs : List D} {K : D → Prop} : Nq c (some (some (.no c' fs))) K = (c' = c ∧ K (.no c fs)) := by unfold Nq; rfl
theorem aeL {c n : Nat} {m : M Fl} {ds : List D} : Wq (runI c n m ds h) Q E = Bq (startF n (.no c [] :: ds)) fun fr => Wq (m fr h) (fun f fr h => Fq f (Nq c fr[0]? fun d => Q d [] h) False) (fun x _ h => E x [] h) := by
 unfold runI Bq
 show _ = Wq (m (startF n (.no c [] :: ds)) h) _ _
 generalize m (startF n (.no c [] :: ds)) h = r
 cases r with
 | ok f fr h =>
   cases f with
   | nx =>
     rw [wB, Wz]
     dsimp only
     cases e : (fr : List (Option D))[0]? with
     | none => rfl
     | some o =>
       cases o with
       | none => rfl
       | some d =>
         cases d with
         | no c' fs =>
           rw [Xv]
           dsimp only
           split
           · rename_i hb; subst hb; rw [wB]; simp
           · rename_i hb; rw [aR]; simp only [hb, false_and]
         | _ => rfl
   | _ => rfl
 | exc x fr h => rfl
 | err => rfl
end
structure Ub {β γ : Type} (_ : β) (_ : γ) : Type where
def Wp {α : Type} (r : R α) (Q : α → Fr → Hh → Prop) (E : bh → Fr → Hh → Prop) (_ : Ub Q E := ⟨⟩) : Prop := Wq r Q E
def Op {α : Type} (o : Option α) (K : α → Prop) (_ : Ub K K := ⟨⟩) : Prop := Oq o K
def Sl (s : Option (Option D)) (K : D → Prop) (_ : Ub K K := ⟨⟩) : Prop := Sq s K
def Cd (b : Bool) (A B : Prop) (_ : Ub A B := ⟨⟩) : Prop := G7 b A B
def Bx (fr : Fr) (K : Fr → Prop) (_ : Ub K K := ⟨⟩) : Prop := Bq fr K
def FlK (f : Fl) (A B : Prop) (_ : Ub A B := ⟨⟩) : Prop := Fq f A B
def RtK (f : Fl) (K : D → Prop) (_ : Ub K K := ⟨⟩) : Prop := Rq f K
def NoK (c : Nat) (s : Option (Option D)) (K : D → Prop) (_ : Ub K K := ⟨⟩) : Prop := Nq c s K
section
variable {α β : Type} {Q : α → Fr → Hh → Prop} {E : bh → Fr → Hh → Prop} {fr : Fr} {h : Hh}
theorem oH {a : α} : Wp (.ok a fr h) Q E = Q a fr h := wB
theorem oY {x : bh} : Wp (.exc x fr h : R α) Q E = E x fr h := Ig
theorem ig {a : α} {K : α → Prop} : Op (some a) K = K a := sH
theorem Ss {K : α → Prop} : Op none K = False := sJ
theorem oZ {o : Option α} {f : α → β} {K : β → Prop} : Op (o.map f) K = Op o fun a => K (f a) := Sd
theorem o5 {c : Prop} [Decidable c] {a : α} {K : α → Prop} : Op (if c then some a else none) K = (c ∧ K a) := Sh
theorem ahI {c : Bool} {a : α} {K : α → Prop} : Op (if c then some a else none) K = (c = true ∧ K a) := afZ
theorem iz {d : D} {K : D → Prop} : Sl (some (some d)) K = K d := Bp
theorem uF {A B : Prop} : Cd true A B = A := JM
theorem uG {A B : Prop} : Cd false A B = B := JN
theorem ir {a : Option D} {l : Fr} {K : Fr → Prop} : Bx (a :: l) K = K (a :: l) := aem
theorem o7 {K : Fr → Prop} : Bx [] K = K [] := af0
theorem oJ {A B : Prop} : FlK .nx A B = A := Wz
theorem o8 {A B : Prop} {d : D} : FlK (.rt d) A B = B := abi
theorem iU {A B : Prop} : FlK .brk A B = B := aad
theorem o9 {A B : Prop} : FlK .ct A B = B := abj
theorem ph {K : D → Prop} : RtK .nx K = K .non := af1
theorem oK {K : D → Prop} {d : D} : RtK (.rt d) K = K d := af2
theorem Wp.mono {r : R α} {Q Q' : α → Fr → Hh → Prop} {E : bh → Fr → Hh → Prop} (w : Wp r Q E) (hq : ∀ a fr h, Q a fr h → Q' a fr h) : Wp r Q' E := Wq.mono w hq
theorem Wp.ex {r : R α} {Q : α → Fr → Hh → Prop} (w : Wp r Q wO) : ∃ a fr h, r = .ok a fr h ∧ Q a fr h := Wq.ex w
theorem Wp.eq {a : α} {r : R α} {fr : Fr} {h : Hh} (w : Wp r (fun b fr1 h1 => b = a ∧ fr1 = fr ∧ h1 = h) wO) : r = .ok a fr h := Wq.eq w
theorem Wp.of_eq {r : R α} {a : α} {fr : Fr} {h : Hh} (e : r = .ok a fr h) (q : Q a fr h) : Wp r Q E := Wq.of_eq e q
theorem nW {a : α} : Wp (M.ret a fr h) Q E = Q a fr h := uz
theorem wp_bind {m : M β} {f : β → M α} : Wp (M.bind m f fr h) Q E = Wp (m fr h) (fun a fr h => Wp (f a fr h) Q E) E := aq
theorem pq {o : Option α} : Wp (M.opt o fr h) Q E = Op o fun a => Q a fr h := nY
end
section
variable {α : Type} {Q : D → Fr → Hh → Prop} {P : Bool → Fr → Hh → Prop} {S : α → Fr → Hh → Prop} {U : Unit → Fr → Hh → Prop} {G : List D → Fr → Hh → Prop} {L : Fl → Fr → Hh → Prop} {I : Option Int → Fr → Hh → Prop} {E : bh → Fr → Hh → Prop} {fr : Fr} {h : Hh} {m ma mb mc : M D} {i : Nat}
theorem uE {d : D} : Wp (mC d fr h) Q E = Q d fr h := aio
theorem tM : Wp (nQ m fr h) Q E = Wp (m fr h) (fun d fr h => Q d.fz fr h) E := ahx
theorem pA : Wp (ak i fr h) Q E = Sl fr[i]? fun d => Cd d.own (Bx (fr.set i (some d.fz)) fun fr => Q d.fz fr h) (Q d fr h) := af3
theorem iV : Wp (yN i fr h) Q E = Sl fr[i]? fun d => Bx (fr.set i none) fun fr => Q d fr h := aen
theorem oM : Wp (g8 i fr h) Q E = Sl fr[i]? fun d => Q d fr h := abk
theorem pB : Wp (xZ i fr h) U E = Sl fr[i]? fun _ => U () fr h := WD
theorem tD {f : Hh → D → D → Option α} : Wp (bf f ma mb fr h) S E = Wp (ma fr h) (fun x fr h => Wp (mb fr h) (fun y fr h => Op (f h x y) fun z => S z fr h) E) E := ahy
theorem tE {f : Hh → D → Option α} : Wp (iy f ma fr h) S E = Wp (ma fr h) (fun x fr h => Op (f h x) fun z => S z fr h) E := ahz
theorem tO {t : M Bool} : Wp (mBl t fr h) Q E = Wp (t fr h) (fun b fr h => Q (.bl b) fr h) E := ahA
theorem pC {t : M Bool} : Wp (Ju t fr h) P E = Wp (t fr h) (fun b fr h => P (!b) fr h) E := af4
theorem iW {β : Type} {b : Bool} {m n : M β} {Q : β → Fr → Hh → Prop} : Wp ((if b then m else n) fr h) Q E = Cd b (Wp (m fr h) Q E) (Wp (n fr h) Q E) := Ih
theorem pD {t u : M Bool} : Wp (Mi t u fr h) P E = Wp (t fr h) (fun b fr h => Cd b (Wp (u fr h) P E) (P false fr h)) E := af5
theorem tQ {t u : M Bool} : Wp (TJ t u fr h) P E = Wp (t fr h) (fun b fr h => Cd b (P true fr h) (Wp (u fr h) P E)) E := ahB
theorem iY : Wp (abD m fr h) Q E = Wp (m fr h) (fun d fr h => Op d.tb fun b => Q (.bl (!b)) fr h) E := aeo
theorem iZ {n : M D} : Wp (RD m n fr h) Q E = Wp (m fr h) (fun d fr h => Op d.tb fun b => Cd b (Wp (n fr h) Q E) (Q (.bl false) fr h)) E := aep
theorem pF {n : M D} : Wp (adL m n fr h) Q E = Wp (m fr h) (fun d fr h => Op d.tb fun b => Cd b (Q (.bl true) fr h) (Wp (n fr h) Q E)) E := af6
theorem cX {f g : Hh → D → D → Option Bool} : Wp (M5 f g ma mb mc fr h) P E = Wp (ma fr h) (fun x fr h => Wp (mb fr h) (fun y fr h => Op (f h x y) fun b => Cd b (Wp (mc fr h) (fun z fr h => Op (g h y z) fun c => P c fr h) E) (P false fr h)) E) E := adi
theorem tR {t : M Bool} {m n : M α} : Wp (Ao t m n fr h) S E = Wp (t fr h) (fun b fr h => Cd b (Wp (m fr h) S E) (Wp (n fr h) S E)) E := ahC
theorem cY : Wp (aa [] fr h) G E = G [] fr h := adk
theorem cZ {ms : List (M D)} : Wp (aa (m :: ms) fr h) G E = Wp (m fr h) (fun d fr h => Wp (aa ms fr h) (fun ds fr h => G (d :: ds) fr h) E) E := adl
theorem pG {ms : List (M D)} : Wp (uX ms fr h) Q E = Wp (aa ms fr h) (fun ds fr h => ds.length ≤ big ∧ Q (.tup ds) fr h) E := af7
theorem pH {ms : List (M D)} : Wp (yK ms fr h) Q E = Wp (aa ms fr h) (fun ds fr h => ds.length ≤ big ∧ Q (.nl ds) fr h) E := af8
theorem jc {β : Type} {m : M β} {f : Hh → D → β → Option D} : Wp (bj i m f fr h) Q E = Sl fr[i]? fun _ => Wp (m fr h) (fun y fr h => Sl fr[i]? fun d => Op (f h d y) fun z => Q z fr h) E := aeq
theorem tU : Wp (mPn fr h) I E = I none fr h := ahD
theorem aip : Wp (U4 m fr h) I E = Wp (m fr h) (fun d fr h => Op (match d with | .int i => some i | _ => none) fun i => I (some i) fr h) E := ahE
theorem je {ml mh : M (Option Int)} {J : Option Int × Option Int → Fr → Hh → Prop} : Wp (Ld ml mh fr h) J E = Wp (ml fr h) (fun l fr h => Wp (mh fr h) (fun u fr h => J (l, u) fr h) E) E := aer
theorem pJ {ml mh : M (Option Int)} : Wp (adN m ml mh fr h) Q E = Wp (m fr h) (fun d fr h => Wp (ml fr h) (fun l fr h => Wp (mh fr h) (fun u fr h => Op (zG h d (l, u)) fun z => Q z fr h) E) E) E := af9
theorem tV : Wp (Lf m fr h) G E = Wp (m fr h) (fun d fr h => Op (d.its []) fun l => G l fr h) E := ahF
theorem iD : Wp (yO m fr h) G E = Wp (m fr h) (fun d fr h => Op (vD d) fun l => G l fr h) E := aes
theorem jf : Wp (abF ma mb fr h) G E = Wp (ma fr h) (fun x fr h => Wp (mb fr h) (fun y fr h => Op (vK x y) fun l => G l fr h) E) E := aet
theorem jh : Wp (Yo m fr h) G E = Wp (m fr h) (fun d fr h => Op d.lst fun l => G (FP 0 l) fr h) E := aeu
theorem oN {s n : M Fl} : Wp (az s n fr h) L E = Wp (s fr h) (fun f fr h => FlK f (Wp (n fr h) L E) (L f fr h)) E := aga
theorem pK {t : M Bool} {s n : M Fl} : Wp (uw t s n fr h) L E = Wp (t fr h) (fun b fr h => Cd b (Wp (s fr h) L E) (Wp (n fr h) L E)) E := agb
theorem ji {m : M α} : Wp (tL m fr h) L E = Wp (m fr h) (fun _ fr h => L .nx fr h) E := aev
theorem oO : Wp (ie m fr h) L E = Wp (m fr h) (fun d fr h => L (.rt d) fr h) E := agc
theorem pM : Wp (cQ i m fr h) L E = Wp (m fr h) (fun d fr h => Bx (fr.set i (some d)) fun fr => L .nx fr h) E := agd
theorem pN {g : D → M Unit} : Wp (PP m g fr h) L E = Wp (m fr h) (fun d fr h => Wp (g d fr h) (fun _ fr h => L .nx fr h) wO) E := age
theorem jk {is : List Nat} {ms : M (List D)} : Wp (U5 is ms fr h) L E = Wp (ms fr h) (fun ds fr h => Op (Dq is ds fr) fun fr' => ds.length ≤ big ∧ Bx fr' fun fr' => L .nx fr' h) E := aew
theorem iG {l : M (List D)} {g : D → M Unit} {b : M Fl} : Wp (zr l g b fr h) L E = Wp (l fr h) (fun ds fr h => Wp (CV g b ds fr h) L E) E := aex
theorem uv {vs : List Nat} {l : M (List D)} {g : D → M Unit} {t : M Bool} {e : M D} : Wp (Hm vs l g t e fr h) Q E = Wp (l fr h) (fun ds fr h => ds.length ≤ big ∧ Bx (vU fr vs) fun fr => Wp (zU vs g t e ds fr h) (fun r fr h => Q (.nl r) fr h) E) E := ahG
theorem iH {d : D} : Wp (wF i d fr h) U E = Bx (fr.set i (some d)) fun fr => U () fr h := aey
theorem dw : Wp (Ny [] fr h) U E = U () fr h := adm
theorem bF {g : D → M Unit} {gs : List D → M Unit} {d : D} {ds : List D} : Wp (BX g gs (d :: ds) fr h) U E = Wp (g d fr h) (fun _ fr h => Wp (gs ds fr h) U E) E := acp
theorem dB {n : Nat} {gs : List D → M Unit} {l : List D} : Wp (Le n gs (.tup l) fr h) U E = (l.length = n ∧ Wp (gs l fr h) U E) := adn
theorem pO {f : List D → Option (List D)} : Wp (nM i f fr h) U E = Sl fr[i]? fun d => match d with
 | .nl l => Op (f l) fun l' => Bx (fr.set i (some (.nl l'))) fun fr => U () fr h
 | .ref n => Op h[n]? fun c => match c with
   | .nl l => Op (f l) fun l' => U () fr (h.set n (.nl l'))
   | _ => False
 | _ => False := agf
theorem jm {n : Nat} {f : List D → Option (List D)} : Wp (xf (.ref n) f fr h) U E = Op h[n]? fun c => match c with
 | .nl l => Op (f l) fun l' => U () fr (h.set n (.nl l'))
 | _ => False := aez
theorem jn : Wp (U7 i m fr h) Q E = Wp (nM i wG fr h) (fun _ fr h => Wp (m fr h) (fun d fr h => Wp (nM i (Gg d) fr h) (fun _ fr h => Q .non fr h) E) E) E := aeA
theorem jo : Wp (abG i fr h) Q E = Wp (nM i Qa fr h) (fun _ fr h => Q .non fr h) E := aeB
theorem jr {mo : M D} : Wp (Iz mo m fr h) Q E = Wp (mo fr h) (fun o fr h => Wp (xf o wG fr h) (fun _ fr h => Wp (m fr h) (fun d fr h => Wp (xf o (Gg d) fr h) (fun _ fr h => Q .non fr h) E) E) E) E := aeC
theorem jt {mo : M D} : Wp (abH mo fr h) Q E = Wp (mo fr h) (fun o fr h => Wp (xf o Qa fr h) (fun _ fr h => Q .non fr h) E) E := aeD
theorem ju {mi : M D} : Wp (Lg i m mi fr h) L E = Wp (m fr h) (fun d fr h => Sl fr[i]? fun _ => Wp (mi fr h) (fun j fr h => Wp (nM i (HH j d) fr h) (fun _ fr h => L .nx fr h) E) E) E := aeE
theorem jw {mo mi : M D} : Wp (abI mo m mi fr h) L E = Wp (m fr h) (fun d fr h => Wp (mo fr h) (fun o fr h => Wp (mi fr h) (fun j fr h => Wp (xf o (HH j d) fr h) (fun _ fr h => L .nx fr h) E) E) E) E := aeF
theorem jx : Wp (IK m fr h) Q E = Wp (m fr h) (fun d fr h => d.own = true ∧ Q (.ref h.length) fr (h ++ [d])) E := aeG
theorem bG {ix : Nat → Option Nat} : Wp (xq i ix m fr h) L E = Wp (m fr h) (fun d fr h => Wp (Ez i ix d fr h) (fun _ fr h => L .nx fr h) E) E := acq
theorem jy {ix : Nat → Option Nat} {x : D} : Wp (Ez i ix x fr h) U E = Sl fr[i]? fun d => match d with
 | .no c fs => Op (ix c) fun k => Op (wY k x fs) fun fs' => Bx (fr.set i (some (.no c fs'))) fun fr => U () fr h
 | .ref n => Op h[n]? fun c => match c with
   | .no c fs => Op (ix c) fun k => Op (wY k x fs) fun fs' => U () fr (h.set n (.no c fs'))
   | _ => False
 | _ => False := aeH
theorem jA {n k : Nat} {F : Fn} {gD : List D → List D → List D} {ma mk : M (List D)} : Wp (bD n k F gD ma mk fr h) Q E = Wp (ma fr h) (fun ds fr h => Wp (mk fr h) (fun es fr h => ds.length = n ∧ es.length = k ∧ Wp (F (gD ds es) h) (fun d _ h => Q d fr h) (fun x _ h => E x fr h)) E) E := aae
theorem jB {n k : Nat} {mt : Nat → Option Fn} {gD : List D → List D → List D} {mo : M D} {ma mk : M (List D)} : Wp (ux n k mt gD mo ma mk fr h) Q E = Wp (mo fr h) (fun o fr h => Op (fnOf mt h o) fun F => Wp (ma fr h) (fun ds fr h => Wp (mk fr h) (fun es fr h => ds.length = n ∧ es.length = k ∧ Wp (F (gD (o :: ds) es) h) (fun d _ h => Q d fr h) (fun x _ h => E x fr h)) E) E) E := aeI
theorem jC {mt : Nat → Option Fn} {mo : M D} : Wp (IV mt mo fr h) Q E = Wp (mo fr h) (fun o fr h => Op (fnOf mt h o) fun F => Wp (F [o] h) (fun d _ h => Q d fr h) wO) E := aeJ
theorem iI {n : Nat} {m : M Fl} {ds : List D} : Wp (sX n m ds h) Q E = Bx (startF n ds) fun fr => Wp (m fr h) (fun f _ h => RtK f fun d => Q d [] h) (fun x _ h => E x [] h) := aeK
theorem dC {c c' : Nat} {fs : List D} {K : D → Prop} : NoK c (some (some (.no c' fs))) K = (c' = c ∧ K (.no c fs)) := Xv
theorem jD {c n : Nat} {m : M Fl} {ds : List D} : Wp (runI c n m ds h) Q E = Bx (startF n (.no c [] :: ds)) fun fr => Wp (m fr h) (fun f fr h => FlK f (NoK c fr[0]? fun d => Q d [] h) False) (fun x _ h => E x [] h) := aeL
end
end Pk
namespace Pk
open PySem PySem.Spec L2
section
variable {h : Hh} {l l' ds fs : List D} {i j : Int} {a b : Bool} {s z : Str} {n c : Nat} {t : String}
theorem jE : (D.int i).own = false := by unfold D.own; rfl
theorem pP : (D.bl a).own = false := by unfold D.own; rfl
theorem jF : (D.str s).own = false := by unfold D.own; rfl
theorem jG : D.non.own = false := by unfold D.own; rfl
theorem jH : (D.tup l).own = false := by unfold D.own; rfl
theorem pQ : (D.fl l).own = false := by unfold D.own; rfl
theorem pU : (D.kl l).own = false := by unfold D.own; rfl
theorem jJ : (D.obj c l).own = false := by unfold D.own; rfl
theorem jK : (D.ref n).own = false := by unfold D.own; rfl
theorem jL : (D.cls n).own = false := by unfold D.own; rfl
theorem pW : (D.ty t).own = false := by unfold D.own; rfl
theorem pX : (D.nl l).own = true := by unfold D.own; rfl
theorem pY : (D.no c l).own = true := by unfold D.own; rfl
theorem pZ : (D.int i).fz = .int i := by unfold D.fz; rfl
theorem tW : (D.bl a).fz = .bl a := by unfold D.fz; rfl
theorem qb : (D.str s).fz = .str s := by unfold D.fz; rfl
theorem fz_non : D.non.fz = .non := by unfold D.fz; rfl
theorem qd : (D.tup l).fz = .tup l := by unfold D.fz; rfl
theorem tX : (D.fl l).fz = .fl l := by unfold D.fz; rfl
theorem tY : (D.kl l).fz = .kl l := by unfold D.fz; rfl
theorem qj : (D.obj c l).fz = .obj c l := by unfold D.fz; rfl
theorem ql : (D.ref n).fz = .ref n := by unfold D.fz; rfl
theorem qm : (D.cls n).fz = .cls n := by unfold D.fz; rfl
theorem tZ : (D.ty t).fz = .ty t := by unfold D.fz; rfl
theorem t7 : (D.nl l).fz = .fl l := by unfold D.fz; rfl
theorem t8 : (D.no c l).fz = .obj c l := by unfold D.fz; rfl
theorem il : (D.tup l).its h = some l := by unfold D.its D.der; rfl
theorem nZ : (D.fl l).its h = some l := by unfold D.its D.der; rfl
theorem oE : (D.kl l).its h = some l := by unfold D.its D.der; rfl
theorem oh : (D.nl l).its h = some l := by unfold D.its D.der; rfl
theorem dD : uW h (.tup l) = some (.int l.length) := by unfold uW; dsimp only; rw [il]; rfl
theorem jM : uW h (.fl l) = some (.int l.length) := by unfold uW; dsimp only; rw [nZ]; rfl
theorem iJ : uW h (.kl l) = some (.int l.length) := by unfold uW; dsimp only; rw [oE]; rfl
theorem nR : uW h (.nl l) = some (.int l.length) := by unfold uW; dsimp only; rw [oh]; rfl
theorem dF : bA h (.tup l) (.int i) = atI l i := by unfold bA; dsimp only; rw [il]
theorem qp : bA h (.fl l) (.int i) = atI l i := by unfold bA; dsimp only; rw [nZ]
theorem jN : bA h (.kl l) (.int i) = atI l i := by unfold bA; dsimp only; rw [oE]
theorem nO : bA h (.nl l) (.int i) = atI l i := by unfold bA; dsimp only; rw [oh]
section
variable {α : Type} {xs : List α}
theorem nJ {k : Nat} : atI xs (k : Int) = xs[k]? := by
 unfold atI ixN
 rw [if_pos (by omega)]
 by_cases hk : k < xs.length
 · rw [if_pos (by omega)]; simp
 · rw [if_neg (by omega)]; simp; omega
theorem uK : atI xs 0 = xs[0]? := nJ (k := 0)
theorem uL : atI xs 1 = xs[1]? := nJ (k := 1)
theorem uN : atI xs 2 = xs[2]? := nJ (k := 2)
theorem uO : atI xs 3 = xs[3]? := nJ (k := 3)
theorem uP : atI xs 4 = xs[4]? := nJ (k := 4)
theorem uQ : atI xs 5 = xs[5]? := nJ (k := 5)
theorem uR : atI xs 6 = xs[6]? := nJ (k := 6)
theorem ue : atI xs (-1) = xs.getLast? := by
 unfold atI ixN
 rw [if_neg (by decide), List.getLast?_eq_getElem?]
 by_cases hk : 1 ≤ xs.length
 · rw [if_pos (by omega)]
   show xs[((-1 : Int) + (xs.length : Int)).toNat]? = _
   congr 1; omega
 · rw [if_neg (by omega)]
   have : xs = [] := List.length_eq_zero_iff.mp (by omega)
   subst this; rfl
end
section
variable {C : Int → Int → Bool} {g : Int → Int → Int} {K : D → Prop}
theorem oR : Op (Cu C g h (.int i) (.int j)) K = (C i j = true ∧ K (.int (g i j))) := by unfold Cu; exact ahI
theorem tG : YF i j = true := by unfold YF; rfl
theorem dG : uA h (.int i) (.int j) = some (.int (i + j)) := by unfold uA; rfl
theorem dH : uA h (.tup l) (.tup l') = if l.length + l'.length ≤ big then some (.tup (l ++ l')) else none := by unfold uA; rfl
theorem jO : uA h (.fl l) (.fl l') = if l.length + l'.length ≤ big then some (.nl (l ++ l')) else none := by unfold uA; rfl
theorem dI : Hz (.int i) = some (.int (-i)) := by unfold Hz; rfl
theorem dJ : Nv h (.int i) = some (.int (if i < 0 then -i else i)) := by unfold Nv; rfl
theorem bH : xT h (.int i) = some (.int i) := by unfold xT; rfl
theorem dM : xT h (.bl a) = some (.int (if a then 1 else 0)) := by unfold xT; rfl
theorem dN {d : D} : ae8 h d = (d.its h).map .nl := by unfold ae8; rfl
theorem bJ {d : D} : acW h d = (d.its h).map .tup := by unfold acW; rfl
theorem dO {p : Int → Int → Bool} : cInt p h (.int i) (.int j) = some (p i j) := by unfold cInt; rfl
theorem oU : u9 h (.int i) (.int j) = some (decide (i = j)) := by
 have : u9 h (.int i) (.int j) = some (i == j) := by unfold u9; rfl
 rw [this]
 by_cases e : i = j
 · subst e; simp
 · simp [e]
theorem qu : u9 h (.bl a) (.bl b) = some (a == b) := by unfold u9; rfl
theorem qw : u9 h .non .non = some true := by unfold u9; rfl
theorem qC {d e : D} : JF h d e = (u9 h d e).map (!·) := by unfold JF; rfl
theorem jP {d e : D} : Py h d e = (CJ h d e).map (!·) := by unfold Py; rfl
theorem jQ {d : D} : cIs h d .non = some d.isNon := by unfold cIs; rfl
theorem dR {d : D} : agD h d .non = some (!d.isNon) := by unfold agD; rfl
theorem bK : D.non.isNon = true := by unfold D.isNon; rfl
theorem bL : (D.int i).isNon = false := by unfold D.isNon; rfl
theorem dU : (D.bl a).isNon = false := by unfold D.isNon; rfl
theorem bM : (D.str s).isNon = false := by unfold D.isNon; rfl
theorem bO : (D.tup l).isNon = false := by unfold D.isNon; rfl
theorem dW : (D.fl l).isNon = false := by unfold D.isNon; rfl
theorem dX : (D.nl l).isNon = false := by unfold D.isNon; rfl
theorem bQ : (D.obj c l).isNon = false := by unfold D.isNon; rfl
theorem bR : (D.ref n).isNon = false := by unfold D.isNon; rfl
theorem uf : (D.bl a).tb = some a := by unfold D.tb; rfl
theorem jR : D.non.tru h = some false := by unfold D.tru; rfl
theorem qD : (D.bl a).tru h = some a := by unfold D.tru; rfl
theorem jT : (D.int i).tru h = some (i != 0) := by unfold D.tru; rfl
theorem jU : (D.tup l).tru h = some (!l.isEmpty) := by unfold D.tru; dsimp only; rw [il]; rfl
theorem qF : (D.fl l).tru h = some (!l.isEmpty) := by unfold D.tru; dsimp only; rw [nZ]; rfl
theorem qG : (D.nl l).tru h = some (!l.isEmpty) := by unfold D.tru; dsimp only; rw [oh]; rfl
end
theorem Vp : ∀ xs : List Int, D.ints (xs.map .int) = some xs
 | [] => by unfold D.ints; rfl
 | i :: xs => by rw [ala]; unfold D.ints; rw [Vp xs]; rfl
theorem tH {xs : List Int} : YZ h (.nl (xs.map .int)) = some (.int xs.sum) := by
 unfold YZ D.lints D.der; dsimp only; rw [Vp]; rfl
theorem tK {xs : List Int} : YZ h (.fl (xs.map .int)) = some (.int xs.sum) := by
 unfold YZ D.lints D.der; dsimp only; rw [Vp]; rfl
theorem jV {ix : Nat → Option Nat} {K : D → Prop} : Op (uY ix h (.obj c fs)) K = Op (ix c) fun k => Op fs[k]? K := by
 unfold uY D.ins D.der; dsimp only
 cases ix c with
 | none => exact (Ss (K := K)).trans (Ss (α := Nat)).symm
 | some k => rw [ig]
theorem qH {ix : Nat → Option Nat} {K : D → Prop} : Op (uY ix h (.no c fs)) K = Op (ix c) fun k => Op fs[k]? K := by
 unfold uY D.ins D.der; dsimp only
 cases ix c with
 | none => exact (Ss (K := K)).trans (Ss (α := Nat)).symm
 | some k => rw [ig]
theorem dY {mt : Nat → Option Fn} : fnOf mt h (.obj c fs) = mt c := by unfold fnOf D.ins D.der; rfl
theorem jW {mt : Nat → Option Fn} : fnOf mt h (.no c fs) = mt c := by unfold fnOf D.ins D.der; rfl
theorem dZ {fr : Fr} : Dq [] [] fr = some fr := by unfold Dq; rfl
theorem bT {fr : Fr} {k : Nat} {ks : List Nat} {d : D} : Dq (k :: ks) (d :: ds) fr = Dq ks ds (fr.set k (some d)) := by rw [Dq]
theorem d8 {fr : Fr} : vU fr [] = fr := by unfold vU; rfl
theorem bU {fr : Fr} {k : Nat} {ks : List Nat} : vU fr (k :: ks) = (vU fr ks).set k none := by rw [vU]
theorem jX {dfl es : List D} : aH dfl ds es = ds ++ dfl := by unfold aH; rfl
theorem d9 {α : Type} {xs : List α} : pick [] xs = [] := by unfold pick; rfl
theorem bV {α : Type} {xs : List α} {k : Nat} {ks : List Nat} : pick (k :: ks) xs = xs[k]?.toList ++ pick ks xs := by
 unfold pick
 rw [List.filterMap_cons]
 cases xs[k]? <;> rfl
theorem eE {α : Type} {x : α} : (some x).toList = [x] := by unfold Option.toList; rfl
theorem eG : wG l = some l := by unfold wG; rfl
theorem jY : Qa l = some [] := by unfold Qa; rfl
theorem jZ {d : D} : Gg d l = if l.length < big then some (l ++ [d]) else none := by unfold Gg; rfl
end
theorem qI : big = 100000 := by unfold big; rfl
def QF (f : Fl) (A : Prop) (B : Fl → Prop) (_ : Ub A B := ⟨⟩) : Prop := match f with
 | .nx => A
 | .ct => A
 | .brk => B .nx
 | .rt d => B (.rt d)
theorem ou {A : Prop} {B : Fl → Prop} : QF .nx A B = A := by unfold QF; rfl
theorem oA {A : Prop} {B : Fl → Prop} : QF .ct A B = A := by unfold QF; rfl
theorem iw {A : Prop} {B : Fl → Prop} : QF .brk A B = B .nx := by unfold QF; rfl
theorem oF {d : D} {A : Prop} {B : Fl → Prop} : QF (.rt d) A B = B (.rt d) := by unfold QF; rfl
section
variable {L : Fl → Fr → Hh → Prop} {E : bh → Fr → Hh → Prop} {g : D → M Unit} {b : M Fl}
theorem iK {fr : Fr} {h : Hh} : Wp (CV g b [] fr h) L E = L .nx fr h := by unfold CV; exact nW
theorem iQ {d : D} {ds : List D} {fr : Fr} {h : Hh} : Wp (CV g b (d :: ds) fr h) L E = Wp (g d fr h) (fun _ fr h => Wp (b fr h) (fun f fr h => QF f (Wp (CV g b ds fr h) L E) fun f => L f fr h) E) wO := by
 rw [CV]
 dsimp only
 cases g d fr h with
 | ok u fr h =>
   rw [oH]
   dsimp only
   cases b fr h with
   | ok f fr h =>
     rw [oH]
     cases f with
     | nx => rw [ou]
     | ct => rw [oA]
     | brk => rw [iw]; exact oH
     | rt d => rw [oF]; exact oH
   | exc x fr h => unfold Wp; rfl
   | err => unfold Wp; rfl
 | exc x fr h => unfold Wp wO; rfl
 | err => unfold Wp; rfl
theorem ahJ {α : Type} {F : α → D} {xs : List α} (I : List α → Fr → Hh → Prop) {fr : Fr} {h : Hh} (i0 : I [] fr h)
 (st : ∀ pre a suf fr h, xs = pre ++ a :: suf → I pre fr h → Wp (g (F a) fr h) (fun _ fr h => Wp (b fr h) (fun f fr h => QF f (I (pre ++ [a]) fr h) fun f => L f fr h) E) wO)
 (en : ∀ fr h, I xs fr h → L .nx fr h) : Wp (CV g b (xs.map F) fr h) L E := by
 have main : ∀ (suf pre : List α) (fr : Fr) (h : Hh), xs = pre ++ suf → I pre fr h → Wp (CV g b (suf.map F) fr h) L E := by
  intro suf
  induction suf with
  | nil =>
    intro pre fr h e i
    rw [alc, iK]
    rw [alb] at e
    subst e
    exact en fr h i
  | cons a suf ih =>
    intro pre fr h e i
    rw [ala, iQ]
    refine (st pre a suf fr h e i).mono fun _ fr1 h1 w => w.mono fun f fr2 h2 z => ?_
    have e' : xs = (pre ++ [a]) ++ suf := by rw [e, List.append_assoc]; rfl
    cases f with
    | nx => rw [ou] at z ⊢; exact ih _ _ _ e' z
    | ct => rw [oA] at z ⊢; exact ih _ _ _ e' z
    | brk => rw [iw] at z ⊢; exact z
    | rt d => rw [oF] at z ⊢; exact z
 exact main xs [] fr h rfl i0
theorem WK {lo : Int} {n : Nat} (I : Int → Fr → Hh → Prop) {fr : Fr} {h : Hh} (i0 : I lo fr h)
 (st : ∀ j fr h, lo ≤ j → j < lo + n → I j fr h → Wp (g (.int j) fr h) (fun _ fr h => Wp (b fr h) (fun f fr h => QF f (I (j + 1) fr h) fun f => L f fr h) E) wO)
 (en : ∀ fr h, I (lo + n) fr h → L .nx fr h) : Wp (CV g b (Jv lo n) fr h) L E := by
 have e : Jv lo n = ((List.range n).map fun (k : Nat) => lo + (k : Int)).map D.int := by unfold Jv; rw [List.map_map]; rfl
 rw [e]
 refine ahJ (fun pre fr h => I (lo + pre.length) fr h) (by simpa using i0) (fun pre a suf fr h ex i => ?_) (fun fr h i => en fr h ?_)
 · have hl : pre.length < n := by
    have := congrArg List.length ex
    simp only [alw, List.length_range, alD, ald] at this
    omega
   have ha : a = lo + pre.length := by
    have := congrArg (fun l => l[pre.length]?) ex
    simp only [alF, List.getElem?_range hl, Option.map_some, alE (Nat.le_refl _), Nat.sub_self, alj, Option.some.injEq] at this
    exact this.symm
   subst ha
   have z := st (lo + pre.length) fr h (by omega) (by omega) i
   rw [alD, List.length_singleton, Int.natCast_add, ← Int.add_assoc]
   exact z
 · simpa using i
end
section
variable {vs : List Nat} {g : D → M Unit} {t : M Bool} {e : M D}
theorem j5 {d : D} {Q : Option D → Fr → Hh → Prop} {E : bh → Fr → Hh → Prop} {fr : Fr} {h : Hh} : Wp (FJ vs g t e d fr h) Q E = Wp (g d fr h) (fun _ fr h => Wp (t fr h) (fun b fr h => Cd b (Wp (e fr h) (fun y fr h => Bx (vU fr vs) fun fr => Q (some y) fr h) wO) (Bx (vU fr vs) fun fr => Q none fr h)) wO) wO := by
 unfold FJ Bx
 cases g d fr h with
 | ok u fr h =>
   rw [oH]
   dsimp only
   cases t fr h with
   | ok b fr h =>
     rw [oH]
     cases b with
     | true =>
       rw [uF]
       dsimp only
       cases e fr h with
       | ok y fr h => rw [oH]; exact oH (E := wO)
       | exc x fr h => unfold Wp wO; rfl
       | err => unfold Wp; rfl
     | false => rw [uG]; exact oH
   | exc x fr h => unfold Wp wO; rfl
   | err => unfold Wp; rfl
 | exc x fr h => unfold Wp wO; rfl
 | err => unfold Wp; rfl
theorem agg {fr : Fr} {h : Hh} : zU vs g t e [] fr h = .ok [] fr h := by unfold zU; rfl
end
end Pk
namespace Pk
open PySem PySem.Spec L2
structure Em (α : Type) [DecidableEq α] where
 f : α → PyData
 n : Nat
 ok : α → Prop
 lay : ∀ a, ok a → (f a).canLay0 = true
 dep : ∀ a, (f a).depth ≤ n
 eq : ∀ a b, PyData.eqv (f a) (f b) = decide (a = b)
theorem agh (a b : Int) : (a == b) = decide (a = b) := by
 by_cases e : a = b
 · subst e; simp
 · simp [e]
def Em.int : Em Int where
 f := .int
 n := 0
 ok := fun _ => True
 lay := fun _ _ => rfl
 dep := fun _ => Nat.le_refl 0
 eq := fun a b => by
  show (a == b) = _
  exact agh a b
def zW (s : Str) : Bool := (PyData.str s).canLay0
def Em.str : Em Str where
 f := .str
 n := 0
 ok := fun s => zW s = true
 lay := fun _ h => h
 dep := fun _ => Nat.le_refl 0
 eq := fun a b => by
  show (a == b) = _
  by_cases e : a = b
  · subst e; simp
  · simp [e]
section
variable {α β : Type} [DecidableEq α] [DecidableEq β]
theorem Em.all_lay (A : Em α) : ∀ {l : List α}, (∀ a ∈ l, A.ok a) → PyData.canLayAll0 (l.map A.f) = true
 | [], _ => rfl
 | a :: l, h => by
   rw [ala, PyData.canLayAll0, A.lay a (h a als), A.all_lay fun x hx => h x (alz _ hx)]
   rfl
theorem Em.all_dep (A : Em α) : ∀ l : List α, PyData.depthAll (l.map A.f) ≤ A.n
 | [] => Nat.zero_le _
 | a :: l => by
   rw [ala, PyData.depthAll]
   exact Nat.max_le.mpr ⟨A.dep a, A.all_dep l⟩
theorem Em.all_eq (A : Em α) : ∀ l m : List α, PyData.eqvAll (l.map A.f) (m.map A.f) = decide (l = m)
 | [], [] => rfl
 | [], b :: m => by simp [PyData.eqvAll]
 | a :: l, [] => by simp [PyData.eqvAll]
 | a :: l, b :: m => by
   rw [ala, ala, PyData.eqvAll, A.eq, A.all_eq l m]
   by_cases e : a = b <;> by_cases e2 : l = m <;> simp [e, e2]
def Em.list (A : Em α) : Em (List α) where
 f := fun l => .list (l.map A.f)
 n := A.n + 1
 ok := fun l => ∀ a ∈ l, A.ok a
 lay := fun l h => by rw [PyData.canLay0]; exact A.all_lay h
 dep := fun l => by rw [PyData.depth]; exact Nat.succ_le_succ (A.all_dep l)
 eq := fun l m => by rw [PyData.eqv]; exact A.all_eq l m
def Em.tup (A : Em α) : Em (List α) where
 f := fun l => .tuple (l.map A.f)
 n := A.n + 1
 ok := fun l => ∀ a ∈ l, A.ok a
 lay := fun l h => by rw [PyData.canLay0]; exact A.all_lay h
 dep := fun l => by rw [PyData.depth]; exact Nat.succ_le_succ (A.all_dep l)
 eq := fun l m => by rw [PyData.eqv]; exact A.all_eq l m
def Em.pair (A : Em α) (B : Em β) : Em (α × β) where
 f := fun p => .tuple [A.f p.1, B.f p.2]
 n := max A.n B.n + 1
 ok := fun p => A.ok p.1 ∧ B.ok p.2
 lay := fun p h => by
  rw [PyData.canLay0, PyData.canLayAll0, PyData.canLayAll0, PyData.canLayAll0, A.lay _ h.1, B.lay _ h.2]; rfl
 dep := fun p => by
  rw [PyData.depth, PyData.depthAll, PyData.depthAll, PyData.depthAll]
  have := A.dep p.1
  have := B.dep p.2
  omega
 eq := fun p q => by
  rw [PyData.eqv, PyData.eqvAll, PyData.eqvAll, PyData.eqvAll, A.eq, B.eq]
  obtain ⟨a, b⟩ := p
  obtain ⟨c, d⟩ := q
  by_cases e : a = c <;> by_cases e2 : b = d <;> simp [e, e2]
def Em.opt (A : Em α) (hn : ∀ a, PyData.eqv .none (A.f a) = false ∧ PyData.eqv (A.f a) .none = false) : Em (Option α) where
 f := fun o => match o with
   | some a => A.f a
   | none => .none
 n := A.n
 ok := fun o => ∀ a, o = some a → A.ok a
 lay := fun o h => by
  cases o with
  | none => rfl
  | some a => exact A.lay a (h a rfl)
 dep := fun o => by
  cases o with
  | none => exact Nat.zero_le _
  | some a => exact A.dep a
 eq := fun o p => by
  cases o with
  | none => cases p with
    | none => rfl
    | some b => simp only [(hn b).1]; simp
  | some a => cases p with
    | none => simp only [(hn a).2]; simp
    | some b => simp only [A.eq]; simp
theorem Em.shaped (A : Em α) {a : α} (h : A.ok a) (hn : A.n ≤ 64) : SeqAt.shaped (A.f a) = true := by
 unfold SeqAt.shaped
 rw [A.lay a h, decide_eq_true (Nat.le_trans (A.dep a) hn)]
 rfl
theorem aaf (A : Em α) {h : Hh} {d e : D} {a b : α} (hd : d.toP = some (A.f a)) (he : e.toP = some (A.f b)) (oa : A.ok a) (ob : A.ok b) (hn : A.n ≤ 64) : u9 h d e = some (decide (a = b)) := by
 unfold u9
 rw [hd, he]
 dsimp only
 rw [A.shaped oa hn, A.shaped ob hn, ← A.eq]
 rfl
theorem abm (i : Int) : (D.int i).toP = some (Em.int.f i) := by unfold D.toP; rfl
theorem Sv (s : Str) : (D.str s).toP = some (Em.str.f s) := by unfold D.toP; rfl
end
section
variable {h : Hh} {l m : List Int} {v : Int}
end
theorem eO {i : Nat} : FP i [] = [] := by unfold FP; rfl
theorem bW {i : Nat} {d : D} {l : List D} : FP i (d :: l) = .tup [.int (i : Int), d] :: FP (i + 1) l := by rw [FP]
theorem qJ {l : List D} : (D.fl l).lst = some l := by unfold D.lst; rfl
theorem qK {l : List D} : (D.kl l).lst = some l := by unfold D.lst; rfl
theorem j6 {l : List D} : (D.tup l).lst = some l := by unfold D.lst; rfl
def psI (d : D) : Option Int := match d with
 | .int i => some i
 | _ => none
theorem j7 {i : Int} : psI (.int i) = some i := by unfold psI; rfl
theorem qL {m : M D} {I : Option Int → Fr → Hh → Prop} {E : bh → Fr → Hh → Prop} {fr : Fr} {h : Hh} : Wp (U4 m fr h) I E = Wp (m fr h) (fun d fr h => Op (psI d) fun i => I (some i) fr h) E := by
 rw [aip]
 congr 1
theorem aeM {α : Type} {l : List α} {k : Nat} : l.take (min k l.length) = l.take k := by
 by_cases hk : k ≤ l.length
 · rw [Nat.min_eq_left hk]
 · rw [Nat.min_eq_right (by omega), List.take_length, List.take_of_length_le (by omega)]
theorem qM {α : Type} {l : List α} {k : Int} (h0 : 0 ≤ k) : cutD l none (some k) = l.take k.toNat := by
 unfold cutD HT.sIx
 dsimp only
 rw [if_neg (by omega), ale, Nat.sub_zero, aeM]
theorem qN {α : Type} {l : List α} {k : Int} (h0 : 0 ≤ k) : cutD l (some k) none = l.drop k.toNat := by
 unfold cutD HT.sIx
 dsimp only
 rw [if_neg (by omega)]
 by_cases hk : k.toNat ≤ l.length
 · rw [Nat.min_eq_left hk, List.take_of_length_le (by rw [List.length_drop]; omega)]
 · rw [Nat.min_eq_right (by omega), List.drop_of_length_le (Nat.le_refl _), List.drop_of_length_le (by omega), List.take_nil]
theorem qO {α : Type} {l : List α} : cutD l none (some (-1)) = l.dropLast := by
 unfold cutD HT.sIx
 dsimp only
 rw [if_pos (by decide), ale, Nat.sub_zero, List.dropLast_eq_take]
 congr 1
 omega
theorem eQ {h : Hh} {l : List D} {p : Option Int × Option Int} : zG h (.tup l) p = some (.tup (cutD l p.1 p.2)) := by unfold zG; rfl
theorem j8 {h : Hh} {l : List D} {p : Option Int × Option Int} : zG h (.fl l) p = some (.nl (cutD l p.1 p.2)) := by unfold zG; rfl
theorem j9 {h : Hh} {l : List D} {p : Option Int × Option Int} : zG h (.nl l) p = some (.nl (cutD l p.1 p.2)) := by unfold zG; rfl
theorem kh {h : Hh} {l : List D} {p : Option Int × Option Int} : zG h (.kl l) p = some (.nl (cutD l p.1 p.2)) := by unfold zG; rfl
theorem km {vs : List Nat} {g : D → M Unit} {t : M Bool} {e : M D} {Q : List D → Fr → Hh → Prop} {E : bh → Fr → Hh → Prop} {fr : Fr} {h : Hh} : Wp (zU vs g t e [] fr h) Q E = Q [] fr h := by rw [agg, oH]
theorem kE {vs : List Nat} {g : D → M Unit} {t : M Bool} {e : M D} {Q : List D → Fr → Hh → Prop} {E : bh → Fr → Hh → Prop} {fr : Fr} {h : Hh} {d : D} {ds : List D} : Wp (zU vs g t e (d :: ds) fr h) Q E = Wp (FJ vs g t e d fr h) (fun o fr h => Wp (zU vs g t e ds fr h) (fun r fr h => Q (Gf o r) fr h) E) E := by
 rw [zU, wp_bind]
 have : (fun (a : Option D) (fr : Fr) (h : Hh) => Wp ((zU vs g t e ds).bind (fun r => M.ret (Gf a r)) fr h) Q E) = fun o fr h => Wp (zU vs g t e ds fr h) (fun r fr h => Q (Gf o r) fr h) E := by
  funext a fr h
  rw [wp_bind]
  have : (fun (r : List D) (fr : Fr) (h : Hh) => Wp (M.ret (Gf a r) fr h) Q E) = fun r fr h => Q (Gf a r) fr h := by
   funext r fr h
   exact nW
  rw [this]
 rw [this]
theorem bY {α : Type} {y : α} {r : List α} : Gf (some y) r = y :: r := by unfold Gf; rfl
theorem bZ {α : Type} {r : List α} : Gf none r = r := by unfold Gf; rfl
theorem aag {i : Int} (h1 : -100000 ≤ i) (h2 : i ≤ 100000) : Oo i = true := by
 unfold Oo
 rw [decide_eq_true (show -(2 ^ 62) ≤ i by omega), decide_eq_true (show i < 2 ^ 62 by omega)]
 rfl
theorem agi {n : Nat} {N : Int} {b : M Fl} {ns : List Int} (hn : 2 ≤ n) (h1 : 1 ≤ N) (hN : N ≤ 63)
 (hb : ∀ (k : Nat) (xs : Fr) (h : Hh), (k : Int) < N → xs.length = n - 2 → Wp (b (some (.kl (ns.map .int)) :: some (.int k) :: xs) h) (fun f fr _ => (f = .nx ∨ f = .ct) ∧ ∃ x1 ys, fr = some (.kl (ns.map .int)) :: x1 :: ys ∧ ys.length = n - 2) wO) :
 ∃ fr h, sX n (az (zr (yO (bf RG (mC (.int 1)) (bf RJ (mC (.int N)) (iy uW (g8 0))))) (wF 1) b) (ie (mC (.bl true)))) [.kl (ns.map .int)] [] = .ok (.bl true) fr h := by
 have w : Wp (sX n (az (zr (yO (bf RG (mC (.int 1)) (bf RJ (mC (.int N)) (iy uW (g8 0))))) (wF 1) b) (ie (mC (.bl true)))) [.kl (ns.map .int)] []) (fun d _ _ => d = .bl true) wO := by
  have es : startF n [.kl (ns.map .int)] = some (.kl (ns.map .int)) :: none :: List.replicate (n - 2) none := by
   unfold startF
   obtain ⟨m, rfl⟩ : ∃ m, n = m + 2 := ⟨n - 2, by omega⟩
   simp [alk]
  simp only [iI, es, ir, ↓oN, ↓iG, ↓iD, ↓tD, ↓uE, ↓tE, ↓oM, alj, iz, iJ, ig, oR, tG, true_and, vD, alw]
  generalize hz : (if (if (ns.length : Int) < N then (ns.length : Int) else N) > 1 then (if (ns.length : Int) < N then (ns.length : Int) else N) else 1) = z
  have z1 : 1 ≤ z := by rw [← hz]; split <;> omega
  have z2 : z ≤ N := by rw [← hz]; split <;> split at * <;> omega
  rw [aag (by omega) (by omega)]
  simp only [↓reduceIte, ig]
  refine WK (fun _ fr _ => ∃ x1 ys, fr = some (.kl (ns.map .int)) :: x1 :: ys ∧ ys.length = n - 2) ⟨none, _, rfl, by simp⟩ ?_ ?_
  · rintro j fr h j0 j1 ⟨x1, ys, rfl, hy⟩
    simp only [↓iH, alf, alg, ir]
    have ej : ((j.toNat : Nat) : Int) = j := by omega
    have := hb j.toNat ys h (by omega) hy
    rw [ej] at this
    refine this.mono ?_
    rintro f fr h ⟨rfl | rfl, q⟩
    · rw [ou]; exact q
    · rw [oA]; exact q
  · rintro fr h ⟨x1, ys, rfl, hy⟩
    simp only [oJ, ↓oO, ↓uE, oK]
 obtain ⟨d, fr, h, e, rfl⟩ := w.ex
 exact ⟨fr, h, e⟩
end Pk
namespace Pk
open PySem PySem.Spec L2
section
variable {Q : D → Fr → Hh → Prop} {E : bh → Fr → Hh → Prop} {fr : Fr} {h : Hh} {ma mb : M D} {mk : M (List D)} {F : Fn} {m : Nat} {mt : Nat → Option Fn}
theorem aeN : Wq (abL m F ma mk fr h) Q E = Wq (ma fr h) (fun d fr h => Wq (mk fr h) (fun es fr h => Oq (d.its []) fun ds => ds.length ≤ big ∧ es.length = m ∧ Wq (F (U9 ds es) h) (fun d _ h => Q d fr h) (fun x _ h => E x fr h)) E) E := by
 unfold abL
 rw [aq]
 congr 1
 funext d fr h
 rw [aq]
 congr 1
 funext es fr h
 cases d.its [] with
 | none => exact (aR (Q := Q) (E := E)).trans (sJ (α := List D)).symm
 | some ds =>
   rw [sH]
   dsimp only
   split
   · rename_i hb; rw [Br]; simp only [hb.1, hb.2, true_and]
   · rename_i hb
     rw [aR, eq_iff_iff]
     exact ⟨False.elim, fun z => hb ⟨z.1, z.2.1⟩⟩
theorem kJ : Wp (abL m F ma mk fr h) Q E = Wp (ma fr h) (fun d fr h => Wp (mk fr h) (fun es fr h => Op (d.its []) fun ds => ds.length ≤ big ∧ es.length = m ∧ Wp (F (U9 ds es) h) (fun d _ h => Q d fr h) (fun x _ h => E x fr h)) E) E := aeN
theorem eU {ds es : List D} : U9 ds es = es ++ [.tup ds] := by unfold U9; rfl
theorem agj : Wq (adT mt ma mb fr h) Q E = Wq (ma fr h) (fun x fr h => Wq (mb fr h) (fun y fr h => Oq (RX mt h x y) fun F => Wq (F [x, y] h) (fun d _ h => Q d fr h) (fun x _ h => E x fr h)) E) E := by
 unfold adT
 rw [aq]
 congr 1
 funext x fr h
 rw [aq]
 congr 1
 funext y fr h
 cases RX mt h x y with
 | none => exact (aR (Q := Q) (E := E)).trans (sJ (α := Fn)).symm
 | some F => rw [sH]; exact Br
theorem qP : Wp (adT mt ma mb fr h) Q E = Wp (ma fr h) (fun x fr h => Wp (mb fr h) (fun y fr h => Op (RX mt h x y) fun F => Wp (F [x, y] h) (fun d _ h => Q d fr h) (fun x _ h => E x fr h)) E) E := agj
theorem kW {c : Nat} {fs gs : List D} : RX mt h (.obj c fs) (.obj c gs) = mt c := by
 unfold RX JL D.ins D.der
 dsimp only
 rw [if_pos rfl]
end
section
variable {h : Hh} {l m : List Str} {w : Str}
end
section
variable {vs : List Nat} {g : D → M Unit} {t : M Bool} {e : M D}
end
end Pk
namespace Pk
open PySem PySem.Spec L2
def endF (i : Nat) (f : Fl) (fr : Fr) : Fr := match f with
 | .rt _ => fr
 | _ => fr.set i none
section
variable {Q : Fl → Fr → Hh → Prop} {S : D → Fr → Hh → Prop} {E : bh → Fr → Hh → Prop} {fr : Fr} {h : Hh} {i : Nat} {cond : Nat → Option Bool} {mb : M Fl} {ms : bh → M Fl} {ma mc : M D} {mt : Nat → Option Fn}
theorem kY : endF i .nx fr = fr.set i none := rfl
theorem eV : endF i .brk fr = fr.set i none := rfl
theorem kZ : endF i .ct fr = fr.set i none := rfl
theorem lg {d : D} : endF i (.rt d) fr = fr := rfl
theorem abn {r : R Fl} : Wq (ad0 i r) Q E = Wq r (fun f fr h => Q f (endF i f fr) h) E := by
 cases r with
 | ok f fr h => cases f <;> rfl
 | exc x fr h => rfl
 | err => rfl
theorem lu : Wp (abO i cond mb ms fr h) Q E = Wp (mb fr h) Q (fun x fr1 h1 => Op (cond x.c) fun b => Cd b (i < fr1.length ∧ Bx (fr1.set i none) fun fr2 => Wp (ms x fr2 h1) (fun f fr3 h3 => Q f (endF i f fr3) h3) E) (E x fr1 h1)) := by
 show Wq (abO i cond mb ms fr h) Q E = Wq (mb fr h) Q (fun x fr1 h1 => Oq (cond x.c) fun b => G7 b (i < fr1.length ∧ Bq (fr1.set i none) fun fr2 => Wq (ms x fr2 h1) (fun f fr3 h3 => Q f (endF i f fr3) h3) E) (E x fr1 h1))
 unfold abO
 cases e : mb fr h with
 | err => rfl
 | ok f fr1 h1 => cases f <;> rfl
 | exc x fr1 h1 =>
   rw [Ig]
   dsimp only
   cases cond x.c with
   | none => rw [sJ]; exact aR
   | some b =>
     rw [sH]
     cases b with
     | false => rw [JN]; exact Ig
     | true =>
       rw [JM]
       dsimp only
       by_cases hl : i < fr1.length
       · rw [if_pos hl, abn]
         unfold Bq
         simp only [hl, true_and]
       · rw [if_neg hl, aR]
         simp only [hl, false_and]
theorem lA : Wp (abP cond mb ms fr h) Q E = Wp (mb fr h) Q (fun x fr1 h1 => Op (cond x.c) fun b => Cd b (Wp (ms x fr1 h1) Q E) (E x fr1 h1)) := by
 show Wq (abP cond mb ms fr h) Q E = Wq (mb fr h) Q (fun x fr1 h1 => Oq (cond x.c) fun b => G7 b (Wq (ms x fr1 h1) Q E) (E x fr1 h1))
 unfold abP
 cases e : mb fr h with
 | err => rfl
 | ok f fr1 h1 => cases f <;> rfl
 | exc x fr1 h1 =>
   rw [Ig]
   dsimp only
   cases cond x.c with
   | none => rw [sJ]; exact aR
   | some b =>
     rw [sH]
     cases b with
     | false => rw [JN]; exact Ig
     | true => rw [JM]
theorem eX {c n : Nat} {chk : List D → Bool} {mas : M (List D)} : Wp (Zh c n chk mas fr h) Q E = Wp (mas fr h) (fun ds fr h => ds.length = n ∧ chk ds = true ∧ E ⟨c, ds⟩ fr h) E := by
 show Wq (Zh c n chk mas fr h) Q E = Wq (mas fr h) (fun ds fr h => ds.length = n ∧ chk ds = true ∧ E ⟨c, ds⟩ fr h) E
 unfold Zh
 rw [aq]
 congr 1
 funext ds fr h
 by_cases hl : ds.length = n ∧ chk ds = true
 · rw [if_pos hl, Ig]
   simp only [hl.1, hl.2, true_and]
 · rw [if_neg hl, aR]
   refine propext ⟨False.elim, fun z => hl ⟨z.1, z.2.1⟩⟩
theorem qQ {tab : Tg → Tg → Option Bool} {c : Nat} : Wp (adZ tab c mc fr h) S E = Wp (mc fr h) (fun d fr h => Op (adY tab c d) fun b => S (.bl b) fr h) E := by
 show Wq (adZ tab c mc fr h) S E = Wq (mc fr h) (fun d fr h => Oq (adY tab c d) fun b => S (.bl b) fr h) E
 unfold adZ
 rw [aq]
 congr 1
 funext d fr h
 rw [nY, Sd]
theorem ug {ix : Nat → Option Nat} {x : bh} : Wp (mXF ix x fr h) S E = Op (ix x.c) fun j => Op (x.fs[j]?) fun d => S d fr h := by
 show Wq (mXF ix x fr h) S E = Oq (ix x.c) fun j => Oq (x.fs[j]?) fun d => S d fr h
 unfold mXF
 cases ix x.c with
 | none => exact aR.trans sJ.symm
 | some j =>
   rw [sH]
   show Wq (mXf j x fr h) S E = _
   unfold mXf
   cases x.fs[j]? with
   | none => exact aR.trans sJ.symm
   | some d => rw [sH]; exact wB
theorem lB : Wp (abQ mt ma mc fr h) S E = Wp (ma fr h) (fun x fr h => Wp (mc fr h) (fun y fr h => Op (fnOf mt h x) fun F => Op (y.bty h) fun _ => Wp (F [x, y] h) (fun d _ h => S d fr h) (fun x _ h => E x fr h)) E) E := by
 show Wq (abQ mt ma mc fr h) S E = Wq (ma fr h) (fun x fr h => Wq (mc fr h) (fun y fr h => Oq (fnOf mt h x) fun F => Oq (y.bty h) fun _ => Wq (F [x, y] h) (fun d _ h => S d fr h) (fun x _ h => E x fr h)) E) E
 unfold abQ
 simp only [aq]
 congr 1
 funext x fr h
 congr 1
 funext y fr h
 cases fnOf mt h x with
 | none => exact aR.trans sJ.symm
 | some F =>
   rw [sH]
   cases y.bty h with
   | none => exact aR.trans sJ.symm
   | some t => rw [sH]; exact Br
theorem lC : Wp (abR mt ma mc fr h) S E = Wp (ma fr h) (fun x fr h => Wp (mc fr h) (fun y fr h => Op (fnOf mt h y) fun F => x.smp = true ∧ Wp (F [y, x] h) (fun d _ h => S d fr h) (fun x _ h => E x fr h)) E) E := by
 show Wq (abR mt ma mc fr h) S E = Wq (ma fr h) (fun x fr h => Wq (mc fr h) (fun y fr h => Oq (fnOf mt h y) fun F => x.smp = true ∧ Wq (F [y, x] h) (fun d _ h => S d fr h) (fun x _ h => E x fr h)) E) E
 unfold abR
 simp only [aq]
 congr 1
 funext x fr h
 congr 1
 funext y fr h
 cases fnOf mt h y with
 | none => exact aR.trans sJ.symm
 | some F =>
   rw [sH]
   cases x.smp with
   | false =>
     refine aR.trans ?_
     simp
   | true =>
     simp only [true_and]
     exact Br
end
section
variable {h : Hh} {i : Int} {b : Bool} {z : Str} {l : List D}
theorem lD : D.smp .non = true := rfl
theorem qR : D.smp (.bl b) = true := rfl
theorem lE : D.smp (.int i) = true := rfl
theorem lF : D.bty h .non = some "NoneType" := rfl
theorem qT : D.bty h (.bl b) = some "bool" := rfl
theorem lG : D.bty h (.int i) = some "int" := rfl
theorem lH : D.bty h (.str z) = some "str" := rfl
theorem lJ : D.bty h (.tup l) = some "tuple" := rfl
theorem qU : D.bty h (.fl l) = some "list" := rfl
theorem qW : D.bty h (.kl l) = some "list" := rfl
end
end Pk
namespace Pk
open PySem PySem.Spec L2
def QG (d : D) (K : Int → Prop) : Prop := match d with
 | .int i => 0 ≤ i ∧ i < 2 ^ 60 ∧ K i
 | _ => False
section
variable {Q : Bool → Fr → Hh → Prop} {S : D → Fr → Hh → Prop} {E : bh → Fr → Hh → Prop} {fr : Fr} {h : Hh} {ma mb : M D} {mt : Nat → Option Fn}
theorem eY {i : Int} {K : Int → Prop} : QG (.int i) K = (0 ≤ i ∧ i < 2 ^ 60 ∧ K i) := by unfold QG; rfl
theorem Ka {o : D} {as : List D} : Wq (Qs mt o as fr h) S E = Oq (fnOf mt h o) fun F => Wq (F (o :: as) h) (fun d _ h => S d fr h) wO := by
 unfold Qs
 cases fnOf mt h o with
 | none => exact aR.trans sJ.symm
 | some F =>
   rw [sH]
   dsimp only
   cases F (o :: as) h <;> (unfold Wq; rfl)
theorem aah {o : D} {as : List D} : Wq (Yp mt o as fr h) S E = Oq (fnOf mt h o) fun F => Wq (F (o :: as) h) (fun d _ h => S d fr h) (fun x _ h => E x fr h) := by
 unfold Yp
 cases fnOf mt h o with
 | none => exact aR.trans sJ.symm
 | some F =>
   rw [sH]
   dsimp only
   exact Br
theorem lK : Wp (abU mt ma fr h) S E = Wp (ma fr h) (fun o fr h => Op (fnOf mt h o) fun F => Wp (F [o] h) (fun d _ h => QG d fun i => S (.int i) fr h) wO) E := by
 show Wq (abU mt ma fr h) S E = Wq (ma fr h) (fun o fr h => Oq (fnOf mt h o) fun F => Wq (F [o] h) (fun d _ h => QG d fun i => S (.int i) fr h) wO) E
 unfold abU
 rw [aq]
 congr 1
 funext o fr h
 rw [aq, Ka]
 congr 1
 funext F
 congr 1
 funext d fr1 h1
 unfold abT QG
 cases d with
 | int i =>
   dsimp only
   by_cases hi : 0 ≤ i ∧ i < 2 ^ 60
   · rw [if_pos hi, wB]
     exact propext ⟨fun z => ⟨hi.1, hi.2, z⟩, fun z => z.2.2⟩
   · rw [if_neg hi, aR]
     exact propext ⟨False.elim, fun z => hi ⟨z.1, z.2.1⟩⟩
 | _ => exact aR
theorem lL : Wp (abV mt ma mb fr h) S E = Wp (ma fr h) (fun o fr h => Wp (mb fr h) (fun i fr h => Op (fnOf mt h o) fun F => Wp (F [o, i] h) (fun d _ h => S d fr h) (fun x _ h => E x fr h)) E) E := by
 show Wq (abV mt ma mb fr h) S E = Wq (ma fr h) (fun o fr h => Wq (mb fr h) (fun i fr h => Oq (fnOf mt h o) fun F => Wq (F [o, i] h) (fun d _ h => S d fr h) (fun x _ h => E x fr h)) E) E
 unfold abV
 rw [aq]
 congr 1
 funext o fr h
 rw [aq]
 congr 1
 funext i fr h
 exact aah
theorem qX {α : Type} {P : α → Fr → Hh → Prop} {g : D → D → M α} : Wp (ad1 g ma mb fr h) P E = Wp (ma fr h) (fun x fr h => Wp (mb fr h) (fun y fr h => Wp (g x y fr h) P E) E) E := by
 show Wq (ad1 g ma mb fr h) P E = Wq (ma fr h) (fun x fr h => Wq (mb fr h) (fun y fr h => Wq (g x y fr h) P E) E) E
 unfold ad1
 simp only [aq]
theorem aai {d : D} {c : Bool → Bool} : Wq (((tbM d).bind fun b => M.ret (c b)) fr h) Q E = Oq d.tb fun b => Q (c b) fr h := by
 unfold tbM
 rw [aq, nY]
 rfl
theorem qY {c : Bool → Bool} {x o : D} : Wp (gIn mt c x o fr h) Q E = Op (fnOf mt h o) fun F => Wp (F [o, x] h) (fun d _ h => Op d.tb fun b => Q (c b) fr h) wO := by
 show Wq (gIn mt c x o fr h) Q E = Oq (fnOf mt h o) fun F => Wq (F [o, x] h) (fun d _ h => Oq d.tb fun b => Q (c b) fr h) wO
 unfold gIn
 rw [aq, Ka]
 congr 1
 funext F
 congr 1
 funext d fr1 h1
 exact aai
end
end Pk
namespace Pk
open PySem PySem.Spec L2
section
variable {Q : Bool → Fr → Hh → Prop} {E : bh → Fr → Hh → Prop} {fr : Fr} {h : Hh} {mt : Nat → Option Fn} {n m : Nat} {fs gs : List D}
theorem qZ {c : Bool → Bool} {x y : D} : Wp (gEq mt c x y fr h) Q E = (((y.bty h).isSome || (JL h x y).isSome) = true ∧ Op (fnOf mt h x) fun F => Wp (F [x, y] h) (fun d _ h => Op d.tb fun b => Q (c b) fr h) wO) := by
 show Wq (gEq mt c x y fr h) Q E = (((y.bty h).isSome || (JL h x y).isSome) = true ∧ Oq (fnOf mt h x) fun F => Wq (F [x, y] h) (fun d _ h => Oq d.tb fun b => Q (c b) fr h) wO)
 unfold gEq
 cases hc : ((y.bty h).isSome || (JL h x y).isSome) with
 | false =>
   rw [if_neg (by simp), aR]
   simp
 | true =>
   rw [if_pos rfl, aq, Ka]
   simp only [true_and]
   congr 1
   funext F
   congr 1
   funext d fr1 h1
   exact aai
theorem eZ : JL h (.obj n fs) (.obj n gs) = some n := by
 unfold JL D.ins D.der
 dsimp only
 rw [if_pos rfl]
theorem lM : D.bty h (.obj n fs) = none := rfl
theorem rA : D.bty h (.no n fs) = none := rfl
theorem rB : D.bty h (.nl fs) = some "list" := rfl
end
end Pk
namespace Pk
open PySem PySem.Spec L2
def aeO (l : List D) (d : D) : Option (D × List D) := match d with
 | .int j => if -(2 ^ 63) ≤ j ∧ j < 2 ^ 63 then (match seqIndex? j l.length with
   | some q => (match l[q]? with
     | some y => some (y, l.eraseIdx q)
     | none => none)
   | none => none) else none
 | _ => none
def aaj (x d : D) (K : D → List D → Prop) : Prop := match x with
 | .nl l => Oq (aeO l d) fun p => K p.1 p.2
 | _ => False
section
variable {S : D → Fr → Hh → Prop} {E : bh → Fr → Hh → Prop} {fr : Fr} {h : Hh} {ma : M D} {mas : M (List D)} {mt : Nat → Option Fn} {i n c : Nat} {d : D} {l : List D}
theorem lN {K : D → List D → Prop} : aaj (.nl l) d K = Op (aeO l d) fun p => K p.1 p.2 := by unfold aaj; rfl
theorem rC : Wp (J5 i d fr h) S E = Sl fr[i]? fun x => aaj x d fun y l' => Bx (fr.set i (some (.nl l'))) fun fr => S y fr h := by
 show Wq (J5 i d fr h) S E = Sq fr[i]? fun x => aaj x d fun y l' => Bq (fr.set i (some (.nl l'))) fun fr => S y fr h
 unfold J5
 cases fr[i]? with
 | none => exact aR
 | some o =>
   cases o with
   | none => exact aR.trans KY.symm
   | some x =>
     rw [Bp]
     unfold aaj
     cases x with
     | nl l =>
       dsimp only
       unfold aeO
       cases d with
       | int j =>
         dsimp only
         by_cases hj : -(2 ^ 63) ≤ j ∧ j < 2 ^ 63
         · rw [if_pos hj, if_pos hj]
           cases seqIndex? j l.length with
           | none => exact aR.trans sJ.symm
           | some q =>
             dsimp only
             cases l[q]? with
             | none => exact aR.trans sJ.symm
             | some y => exact wB.trans sH.symm
         · rw [if_neg hj, if_neg hj]
           exact aR.trans sJ.symm
       | _ => exact aR.trans sJ.symm
     | _ => exact aR
theorem lO : Wp (abW i ma fr h) S E = Wp (nM i wG fr h) (fun _ fr h => Wp (ma fr h) (fun d fr h => Wp (J5 i d fr h) S E) E) E := by
 show Wq (abW i ma fr h) S E = Wq (nM i wG fr h) (fun _ fr h => Wq (ma fr h) (fun d fr h => Wq (J5 i d fr h) S E) E) E
 unfold abW
 simp only [aq]
theorem fj : Wp (Zu mt ma fr h) S E = Wp (ma fr h) (fun o fr h => Op (fnOf mt h o) fun F => Wp (F [o] h) (fun d _ h => QG d fun i => S (.bl (i != 0)) fr h) wO) E := by
 show Wq (Zu mt ma fr h) S E = Wq (ma fr h) (fun o fr h => Oq (fnOf mt h o) fun F => Wq (F [o] h) (fun d _ h => QG d fun i => S (.bl (i != 0)) fr h) wO) E
 unfold Zu
 rw [aq]
 congr 1
 funext o fr h
 rw [aq, Ka]
 congr 1
 funext F
 congr 1
 funext d fr1 h1
 rw [aq]
 unfold abT QG
 cases d with
 | int i =>
   dsimp only
   by_cases hi : 0 ≤ i ∧ i < 2 ^ 60
   · rw [if_pos hi, wB, nY, sH]
     exact propext ⟨fun z => ⟨hi.1, hi.2, z⟩, fun z => z.2.2⟩
   · rw [if_neg hi, aR]
     exact propext ⟨False.elim, fun z => hi ⟨z.1, z.2.1⟩⟩
 | _ => exact aR
theorem uh {F : Fn} : Wp (Zv n c F mas fr h) S E = Wp (mas fr h) (fun ds fr h => ds.length = n ∧ Wp (F (.cls c :: ds) h) (fun d _ h => S d fr h) (fun x _ h => E x fr h)) E := by
 show Wq (Zv n c F mas fr h) S E = Wq (mas fr h) (fun ds fr h => ds.length = n ∧ Wq (F (.cls c :: ds) h) (fun d _ h => S d fr h) (fun x _ h => E x fr h)) E
 unfold Zv
 rw [aq]
 congr 1
 funext ds fr h
 by_cases hl : ds.length = n
 · rw [if_pos hl, Br]
   simp only [hl, true_and]
 · rw [if_neg hl, aR]
   exact propext ⟨False.elim, fun z => hl z.1⟩
end
end Pk
namespace Pk
open PySem PySem.Spec L2
section
variable {Q : Bool → Fr → Hh → Prop} {E : bh → Fr → Hh → Prop} {fr : Fr} {h : Hh} {mb : M D} {i : Nat}
theorem fu {f : Hh → D → D → Option Bool} : Wp (Zw i f mb fr h) Q E = Sl fr[i]? fun _ => Wp (mb fr h) (fun y fr h => Sl fr[i]? fun d => Op (f h d y) fun z => Q z fr h) E := by
 show Wq (Zw i f mb fr h) Q E = Sq fr[i]? fun _ => Wq (mb fr h) (fun y fr h => Sq fr[i]? fun d => Oq (f h d y) fun z => Q z fr h) E
 unfold Zw
 rw [aq]
 unfold xZ
 cases e : fr[i]? with
 | none => exact aR
 | some o =>
   cases o with
   | none => exact aR.trans KY.symm
   | some x =>
     dsimp only
     rw [wB, Bp, aq]
     congr 1
     funext y fr1 h1
     rw [aq]
     unfold g8
     cases fr1[i]? with
     | none => exact aR
     | some o1 =>
       cases o1 with
       | none => exact aR.trans KY.symm
       | some d => dsimp only; rw [wB, Bp, nY]
end
end Pk
namespace Pk
open PySem PySem.Spec L2
def EqK {α : Type} (o : Option α) (A B : Prop) : Prop := match o with
 | some _ => A
 | none => B
section
variable {Q : Bool → Fr → Hh → Prop} {E : bh → Fr → Hh → Prop} {fr : Fr} {h : Hh} {mt : Nat → Option Fn} {i : Int} {b c : Bool} {z : Str} {l : List D}
theorem cV {α : Type} {a : α} {A B : Prop} : EqK (some a) A B = A := by unfold EqK; rfl
theorem cW {α : Type} {A B : Prop} : EqK (none : Option α) A B = B := by unfold EqK; rfl
theorem lQ {c : Bool → Bool} {x y : D} : Wp (ad4 mt c x y fr h) Q E = EqK (fnOf mt h x) (Wp (gEq mt c x y fr h) Q E) ((x.bty h).isSome = true ∧ Op (fnOf mt h y) fun F => Wp (F [y, x] h) (fun d _ h => Op d.tb fun b => Q (c b) fr h) wO) := by
 show Wq (ad4 mt c x y fr h) Q E = EqK (fnOf mt h x) (Wq (gEq mt c x y fr h) Q E) ((x.bty h).isSome = true ∧ Oq (fnOf mt h y) fun F => Wq (F [y, x] h) (fun d _ h => Oq d.tb fun b => Q (c b) fr h) wO)
 unfold ad4
 cases fnOf mt h x with
 | some G => rw [cV]
 | none =>
   rw [cW]
   dsimp only
   cases hc : (x.bty h).isSome with
   | false =>
     rw [if_neg (by simp), aR]
     simp
   | true =>
     rw [if_pos rfl, aq, Ka]
     simp only [true_and]
     congr 1
     funext F
     congr 1
     funext d fr1 h1
     exact aai
theorem fB : fnOf mt h .non = none := rfl
theorem lU : fnOf mt h (.bl b) = none := rfl
theorem fD : fnOf mt h (.int i) = none := rfl
theorem fG : fnOf mt h (.str z) = none := rfl
theorem fH : fnOf mt h (.tup l) = none := rfl
theorem lV : fnOf mt h (.fl l) = none := rfl
theorem lW : ai3 h (.bl b) (.bl c) = some (decide (b = c)) := rfl
theorem fJ : aia h (.bl b) (.bl c) = some (!decide (b = c)) := rfl
end
end Pk
namespace Pk
open PySem PySem.Spec L2
section
variable {Q : Bool → Fr → Hh → Prop} {E : bh → Fr → Hh → Prop} {fr : Fr} {h : Hh} {mt : Nat → Option Fn} {nf : Nat → Nat}
theorem lX {x y : D} : Wp (ad6 mt nf x y fr h) Q E = Op (abX mt nf h x y) fun b => Q b fr h := by
 show Wq (ad6 mt nf x y fr h) Q E = Oq (abX mt nf h x y) fun b => Q b fr h
 unfold ad6
 exact nY
theorem fK {l m : List D} : abX mt nf h (.tup l) (.tup m) = ad5 mt nf h l m := rfl
end
end Pk
namespace Pk
open PySem PySem.Spec L2
section
variable {Q : Fl → Fr → Hh → Prop} {E : bh → Fr → Hh → Prop} {fr : Fr} {h : Hh} {i : Nat} {cond : Nat → Option Bool} {mb : M Fl} {ms : bh → M Fl} {x : bh} {cs : List Hd}
theorem fL : Wp (zK [] x fr h) Q E = E x fr h := by
 show Wq (zK [] x fr h) Q E = _
 unfold zK
 exact Ig
theorem fM : Wp (zK ((some i, cond, ms) :: cs) x fr h) Q E = Op (cond x.c) fun b => Cd b (i < fr.length ∧ Bx (fr.set i none) fun fr2 => Wp (ms x fr2 h) (fun f fr3 h3 => Q f (endF i f fr3) h3) E) (Wp (zK cs x fr h) Q E) := by
 show Wq (zK ((some i, cond, ms) :: cs) x fr h) Q E = Oq (cond x.c) fun b => G7 b (i < fr.length ∧ Bq (fr.set i none) fun fr2 => Wq (ms x fr2 h) (fun f fr3 h3 => Q f (endF i f fr3) h3) E) (Wq (zK cs x fr h) Q E)
 rw [zK]
 dsimp only
 cases cond x.c with
 | none => rw [sJ]; exact aR
 | some b =>
   rw [sH]
   cases b with
   | false => rw [JN]
   | true =>
     rw [JM]
     dsimp only
     by_cases hl : i < fr.length
     · rw [if_pos hl, abn]
       unfold Bq
       simp only [hl, true_and]
     · rw [if_neg hl, aR]
       simp only [hl, false_and]
theorem fO : Wp (zK ((none, cond, ms) :: cs) x fr h) Q E = Op (cond x.c) fun b => Cd b (Wp (ms x fr h) Q E) (Wp (zK cs x fr h) Q E) := by
 show Wq (zK ((none, cond, ms) :: cs) x fr h) Q E = Oq (cond x.c) fun b => G7 b (Wq (ms x fr h) Q E) (Wq (zK cs x fr h) Q E)
 rw [zK]
 dsimp only
 cases cond x.c with
 | none => rw [sJ]; exact aR
 | some b =>
   rw [sH]
   cases b with
   | false => rw [JN]
   | true => rw [JM]
theorem lY : Wp (abY cs mb fr h) Q E = Wp (mb fr h) Q (fun x fr1 h1 => Wp (zK cs x fr1 h1) Q E) := by
 show Wq (abY cs mb fr h) Q E = Wq (mb fr h) Q (fun x fr1 h1 => Wq (zK cs x fr1 h1) Q E)
 unfold abY
 cases e : mb fr h with
 | err => rfl
 | ok f fr1 h1 => cases f <;> rfl
 | exc x fr1 h1 => rfl
end
end Pk
namespace Pk
open PySem PySem.Spec L2
theorem fP {h : Hh} {b : Bool} : aib h (.bl b) = some (.str (if b then "True" else "False")) := rfl
theorem cA {h : Hh} {b : Bool} : ac8 h (.bl b) = some (.bl b) := rfl
theorem bu {h : Hh} {i : Int} : ac8 h (.int i) = some (.bl (i != 0)) := rfl
end Pk
namespace Pk
open PySem PySem.Spec L2
section
variable {Q : Fl → Fr → Hh → Prop} {E : bh → Fr → Hh → Prop} {fr : Fr} {h : Hh} {c : Nat} {ma : M D}
theorem cC : Wp (Wu c ma fr h) Q E = Wp (ma fr h) (fun _ fr h => E ⟨c, []⟩ fr h) E := by
 show Wq (Wu c ma fr h) Q E = Wq (ma fr h) (fun _ fr h => E ⟨c, []⟩ fr h) E
 unfold Wu
 rw [aq]
 rfl
end
end Pk
namespace Pk
open PySem PySem.Spec L2
section
variable {G : List D → Fr → Hh → Prop} {E : bh → Fr → Hh → Prop} {fr : Fr} {h : Hh} {ma mb : M D} {a b : D} {l m : List D}
theorem rF : Wp (ad7 ma mb fr h) G E = Wp (ma fr h) (fun x fr h => Wp (mb fr h) (fun y fr h => Op (Zz x y) fun l => G l fr h) E) E := by
 show Wq (ad7 ma mb fr h) G E = Wq (ma fr h) (fun x fr h => Wq (mb fr h) (fun y fr h => Oq (Zz x y) fun l => G l fr h) E) E
 unfold ad7
 simp only [aq, nY]
theorem lZ {n : Nat} {gs : List D → M Unit} {U : Unit → Fr → Hh → Prop} : Wp (Wv n gs (.tup l) fr h) U E = (l.length = n ∧ Wp (gs l fr h) U E) := by
 show Wq (Wv n gs (.tup l) fr h) U E = (l.length = n ∧ Wq (gs l fr h) U E)
 unfold Wv
 dsimp only
 split
 · rename_i hb; simp only [hb, true_and]
 · rename_i hb; rw [nY, sJ]; simp only [hb, false_and]
theorem fQ {n : Nat} {gs : List D → M Unit} {U : Unit → Fr → Hh → Prop} : Wp (Wv n gs (.fl l) fr h) U E = (l.length = n ∧ Wp (gs l fr h) U E) := by
 show Wq (Wv n gs (.fl l) fr h) U E = (l.length = n ∧ Wq (gs l fr h) U E)
 unfold Wv
 dsimp only
 split
 · rename_i hb; simp only [hb, true_and]
 · rename_i hb; rw [nY, sJ]; simp only [hb, false_and]
theorem mD : Zz (.fl l) (.fl m) = some (KR l m) := rfl
theorem mF : Zz (.tup l) (.tup m) = some (KR l m) := rfl
end
end Pk
namespace Pk
open PySem PySem.Spec L2
def akM : List Int → Int
 | a :: r => abE a r
 | [] => 0
end Pk
namespace Pk
open PySem PySem.Spec L2
section
variable {L : Fl → Fr → Hh → Prop} {E : bh → Fr → Hh → Prop} {g : D → M Unit} {b : M Fl} {n : Nat} {l : List D} {fr : Fr} {h : Hh} {G : Nat × List D × List D → Fr → Hh → Prop} {li : M (Nat × List D × List D)} {ma mb : M D}
theorem fU : Wp (Qw li g b fr h) L E = Wp (li fr h) (fun x fr h => Wp (Vk x.1 x.2.1 g b x.2.2 fr h) L E) E := by
 show Wq (Qw li g b fr h) L E = Wq (li fr h) (fun x fr h => Wq (Vk x.1 x.2.1 g b x.2.2 fr h) L E) E
 unfold Qw
 simp only [aq]
theorem rG : Wp (Ww ma fr h) G E = Wp (ma fr h) (fun d fr h => Op ((Lr h d).map fun x => (x.1, x.2, x.2)) fun x => G x fr h) E := by
 show Wq (Ww ma fr h) G E = Wq (ma fr h) (fun d fr h => Oq ((Lr h d).map fun x => (x.1, x.2, x.2)) fun x => G x fr h) E
 unfold Ww
 simp only [aq, nY]
theorem mG : Wp (ab0 ma mb fr h) G E = Wp (ma fr h) (fun d fr h => Wp (mb fr h) (fun e fr h => Op (ad8 h d e) fun x => G x fr h) E) E := by
 show Wq (ab0 ma mb fr h) G E = Wq (ma fr h) (fun d fr h => Wq (mb fr h) (fun e fr h => Oq (ad8 h d e) fun x => G x fr h) E) E
 unfold ab0
 simp only [aq, nY]
end
end Pk
namespace Pk
open PySem PySem.Spec L2
def Ly (d : D) (K : Str → Prop) : Prop := match d with
 | .str y => K y
 | _ => False
def Ow (d : D) (K : Int → Prop) : Prop := match d with
 | .int y => K y
 | _ => False
section
variable {α : Type} {Q : α → Fr → Hh → Prop} {S : D → Fr → Hh → Prop} {L : Fl → Fr → Hh → Prop} {G : Str → Fr → Hh → Prop} {E : bh → Fr → Hh → Prop} {fr : Fr} {h : Hh} {m ma mb : M D} {ml mh : M (Option Int)} {mt : Nat → Option Fn} {i : Nat} {ms : List (M D)} {acc : Str}
theorem mH {y : Str} {K : Str → Prop} : Ly (.str y) K = K y := by unfold Ly; rfl
theorem mJ {y : Int} {K : Int → Prop} : Ow (.int y) K = K y := by unfold Ow; rfl
theorem fV : Wp (ZC mt ma ml mh fr h) S E = Wp (ma fr h) (fun o fr h => Wp (ml fr h) (fun l fr h => Wp (mh fr h) (fun u fr h => Op (fnOf mt h o) fun F => Wp (F [o, .sl l u] h) (fun d _ h => S d fr h) (fun x _ h => E x fr h)) E) E) E := by
 show Wq (ZC mt ma ml mh fr h) S E = Wq (ma fr h) (fun o fr h => Wq (ml fr h) (fun l fr h => Wq (mh fr h) (fun u fr h => Oq (fnOf mt h o) fun F => Wq (F [o, .sl l u] h) (fun d _ h => S d fr h) (fun x _ h => E x fr h)) E) E) E
 unfold ZC
 simp only [aq, aah]
theorem fX : Wp (ZF ma fr h) S E = Wp (ma fr h) (fun d fr h => Op (bRg (.int 0) d) fun z => S z fr h) E := by
 show Wq (ZF ma fr h) S E = Wq (ma fr h) (fun d fr h => Oq (bRg (.int 0) d) fun z => S z fr h) E
 unfold ZF
 simp only [aq, nY]
theorem fY : Wp (ZG ma mb fr h) S E = Wp (ma fr h) (fun d fr h => Wp (mb fr h) (fun e fr h => Op (bRg d e) fun z => S z fr h) E) E := by
 show Wq (ZG ma mb fr h) S E = Wq (ma fr h) (fun d fr h => Wq (mb fr h) (fun e fr h => Oq (bRg d e) fun z => S z fr h) E) E
 unfold ZG
 simp only [aq, nY]
theorem rH {f : Int → Int → Int} : Wp (Oc i f m fr h) L E = Sl fr[i]? fun x => Ow x fun a => Wp (m fr h) (fun d fr h => Ow d fun b => Bx (fr.set i (some (.int (f a b)))) fun fr => L .nx fr h) E := by
 show Wq (Oc i f m fr h) L E = Sq fr[i]? fun x => Ow x fun a => Wq (m fr h) (fun d fr h => Ow d fun b => Bq (fr.set i (some (.int (f a b)))) fun fr => L .nx fr h) E
 unfold Oc
 cases fr[i]? with
 | none => exact aR
 | some o =>
   cases o with
   | none => exact aR.trans KY.symm
   | some x =>
     rw [Bp]
     unfold Ow
     cases x with
     | int a =>
       dsimp only
       rw [aq]
       congr 1
       funext d fr h
       cases d <;> first | exact wB | exact aR
     | _ => exact aR
theorem rJ : Wp (yL m fr h) S E = Wp (m fr h) (fun d fr h => Op (ZJ d) fun z => S z fr h) E := by
 show Wq (yL m fr h) S E = Wq (m fr h) (fun d fr h => Oq (ZJ d) fun z => S z fr h) E
 unfold yL
 simp only [aq, nY]
theorem rK : Wp (Ov [] acc fr h) G E = G acc fr h := nW
theorem rN : Wp (Ov (m :: ms) acc fr h) G E = Wp (m fr h) (fun d fr h => Ly d fun y => (acc ++ y).length ≤ big ∧ Wp (Ov ms (acc ++ y) fr h) G E) E := by
 show Wq (Ov (m :: ms) acc fr h) G E = Wq (m fr h) (fun d fr h => Ly d fun y => (acc ++ y).length ≤ big ∧ Wq (Ov ms (acc ++ y) fr h) G E) E
 rw [Ov, aq]
 congr 1
 funext d fr h
 unfold Ly
 cases d with
 | str y =>
   dsimp only
   split
   · rename_i hl
     simp only [hl, true_and]
   · rename_i hl
     rw [nY, sJ]
     simp only [hl, false_and]
 | _ => exact nY.trans sJ
theorem mK : Wp (Bo ms fr h) S E = Wp (Ov ms Str.empty fr h) (fun z fr h => S (.str z) fr h) E := by
 show Wq (Bo ms fr h) S E = Wq (Ov ms Str.empty fr h) (fun z fr h => S (.str z) fr h) E
 unfold Bo
 simp only [aq, uz]
theorem fZ {f : Str → M Fl} : Wp (Qx m f fr h) L E = Wp (m fr h) (fun d fr h => Ly d fun z => Wp (f z fr h) L E) E := by
 show Wq (Qx m f fr h) L E = Wq (m fr h) (fun d fr h => Ly d fun z => Wq (f z fr h) L E) E
 unfold Qx
 rw [aq]
 congr 1
 funext d fr h
 unfold Ly
 cases d <;> first | rfl | exact aR
theorem cD {z : Str} : Wp (Df [] z fr h) L E = L .nx fr h := nW
theorem cG {z : Str} {ss : List Str} {b : M Fl} {r : List (List Str × M Fl)} : Wp (Df ((ss, b) :: r) z fr h) L E = Cd (ss.contains z) (Wp (b fr h) L E) (Wp (Df r z fr h) L E) := by
 show Wq ((if ss.contains z then b else Df r z) fr h) L E = G7 (ss.contains z) (Wq (b fr h) L E) (Wq (Df r z fr h) L E)
 exact Ih
theorem gh {l : List D} {lo hi : Option Int} : R7 h (.nl l) (.sl lo hi) = some (.nl (cutD l lo hi)) := by
 unfold R7
 rfl
theorem cH {l : List D} {lo hi : Option Int} : R7 h (.fl l) (.sl lo hi) = some (.nl (cutD l lo hi)) := by
 unfold R7
 rfl
theorem cI {d : D} {k : Int} : R7 h d (.int k) = bA h d (.int k) := by
 unfold R7
 rfl
theorem mO {tab : Tg → Tg → Option Bool} {lo hi : Option Int} : Yq tab h (.sl lo hi) (.ty "int") = some (.bl false) := by
 unfold Yq
 dsimp only
 rw [if_pos (by decide)]
theorem gj {tab : Tg → Tg → Option Bool} {k : Int} {c : D} : Yq tab h (.int k) c = Jw tab h (.int k) c := by
 unfold Yq
 rfl
theorem rO {lo hi : Option Int} : (D.sl lo hi).own = false := rfl
theorem ul {lo hi : Option Int} : (D.sl lo hi).fz = .sl lo hi := rfl
end
end Pk
namespace Pk
open PySem PySem.Spec L2
end Pk
namespace Pk
open PySem PySem.Spec L2
section
variable {h : Hh}
theorem rP {xs : List Int} : Ys h (.nl (xs.map .int)) = some (.int xs.sum) := tH
theorem rQ {xs : List Int} : Ys h (.fl (xs.map .int)) = some (.int xs.sum) := tK
theorem rR {xs : List Int} : Ys h (.tup (xs.map .int)) = some (.int xs.sum) := by
 unfold Ys
 dsimp only
 rw [Vp]
 rfl
theorem Wp.out {α : Type} {r : R α} {Q : α → Fr → Hh → Prop} (w : Wp r Q wO) : ∃ a fr h, r = .ok a fr h ∧ Q a fr h := by
 cases r with
 | ok a fr h => exact ⟨a, fr, h, rfl, w⟩
 | exc y fr1 h1 => exact (show False from w).elim
 | err => exact (show False from w).elim
end
end Pk
namespace Pk
open PySem PySem.Spec L2
section
variable {S : D → Fr → Hh → Prop} {E : bh → Fr → Hh → Prop} {fr : Fr} {h : Hh} {ma : M D} {mt : Nat → Option Fn}
theorem rW : Wp (ad9 mt ma fr h) S E = Wp (ma fr h) (fun o fr h => Op (fnOf mt h o) fun F => Wp (F [o] h) (fun d _ h => S d fr h) wO) E := by
 show Wq (ad9 mt ma fr h) S E = Wq (ma fr h) (fun o fr h => Oq (fnOf mt h o) fun F => Wq (F [o] h) (fun d _ h => S d fr h) wO) E
 unfold ad9
 rw [aq]
 congr 1
 funext o fr h
 rw [Ka]
end
end Pk
namespace Pk
open PySem PySem.Spec L2
def Oxq (o : Option (Fn × Bool)) (A B : Fn → Prop) : Prop := match o with
 | some (F, false) => A F
 | some (F, true) => B F
 | none => False
def OxK (o : Option (Fn × Bool)) (A B : Fn → Prop) (_ : Ub A B := ⟨⟩) : Prop := Oxq o A B
theorem uU {F : Fn} {A B : Fn → Prop} : OxK (some (F, false)) A B = A F := rfl
theorem uV {F : Fn} {A B : Fn → Prop} : OxK (some (F, true)) A B = B F := rfl
section
variable {S : D → Fr → Hh → Prop} {E : bh → Fr → Hh → Prop} {fr : Fr} {h : Hh} {ma mb : M D} {mtl mtr : Nat → Option Fn}
theorem rY : Wp (aea mtl mtr ma mb fr h) S E = Wp (ma fr h) (fun x fr h => Wp (mb fr h) (fun y fr h => OxK (Yt mtl mtr h x y) (fun F => Wp (F [x, y] h) (fun d _ h => S d fr h) (fun x _ h => E x fr h)) (fun F => Wp (F [y, x] h) (fun d _ h => S d fr h) (fun x _ h => E x fr h))) E) E := by
 show Wq (aea mtl mtr ma mb fr h) S E = Wq (ma fr h) (fun x fr h => Wq (mb fr h) (fun y fr h => Oxq (Yt mtl mtr h x y) (fun F => Wq (F [x, y] h) (fun d _ h => S d fr h) (fun x _ h => E x fr h)) (fun F => Wq (F [y, x] h) (fun d _ h => S d fr h) (fun x _ h => E x fr h))) E) E
 unfold aea
 rw [aq]
 congr 1
 funext x fr h
 rw [aq]
 congr 1
 funext y fr h
 cases Yt mtl mtr h x y with
 | none => exact aR
 | some Fb =>
   obtain ⟨F, b⟩ := Fb
   cases b
   · exact Br
   · exact Br
end
end Pk
namespace Pk
open PySem PySem.Spec L2
section
variable {S : D → Fr → Hh → Prop} {E : bh → Fr → Hh → Prop} {fr : Fr} {h : Hh} {mo ma : M D}
theorem gq : Wp (ZM mo ma fr h) S E = Wp (mo fr h) (fun o fr h => (o.lstP h).isSome = true ∧ Wp (ma fr h) (fun x fr h => Op (J9 h o x) fun z => S z fr h) E) E := by
 show Wq (ZM mo ma fr h) S E = Wq (mo fr h) (fun o fr h => (o.lstP h).isSome = true ∧ Wq (ma fr h) (fun x fr h => Oq (J9 h o x) fun z => S z fr h) E) E
 unfold ZM
 rw [aq]
 congr 1
 funext o fr h
 cases e : (o.lstP h).isSome with
 | true =>
   rw [if_pos rfl, aq]
   simp only [true_and]
   congr 1
   funext x fr h
   exact nY
 | false =>
   rw [if_neg Bool.false_ne_true]
   simp only [Bool.false_eq_true, false_and]
   exact aR
end
section
variable {α : Type} [DecidableEq α] {h : Hh} {x y : D} {a : α} {l : List α}
end
end Pk
namespace Pk
open PySem PySem.Spec L2
section
variable {Q : D → Fr → Hh → Prop} {S : List D → Fr → Hh → Prop} {E : bh → Fr → Hh → Prop} {fr : Fr} {h : Hh} {n : Nat} {l : List D} {vs : List Nat} {g : D → M Unit} {t : M Bool} {e : M D}
theorem rZ {li : M (Nat × List D × List D)} : Wp (ZP vs li g t e fr h) Q E = Wp (li fr h) (fun x fr h => x.2.2.length ≤ big ∧ Bx (vU fr vs) fun fr => Wp (Yu x.1 x.2.1 vs g t e x.2.2 fr h) (fun r fr h => Q (.nl r) fr h) E) E := by
 show Wq (ZP vs li g t e fr h) Q E = Wq (li fr h) (fun x fr h => x.2.2.length ≤ big ∧ Bq (vU fr vs) fun fr => Wq (Yu x.1 x.2.1 vs g t e x.2.2 fr h) (fun r fr h => Q (.nl r) fr h) E) E
 unfold ZP U6 Bq; rw [aq]
 congr 1
 funext ds fr h
 rw [aq, wB]
 split
 · rename_i hb; rw [aq]; simp only [uz, hb, true_and]
 · rename_i hb; rw [nY, sJ]; simp only [hb, false_and]
end
end Pk
namespace Pk
open PySem PySem.Spec L2
def aeP (h : Hh) (ix : Nat → Option Nat) (o d : D) : Option Hh := match o with
 | .ref n => match h[n]? with
   | some (.no c fs) => match ix c with
     | some i => match wY i d fs with
       | some fs' => some (h.set n (.no c fs'))
       | none => none
     | none => none
   | _ => none
 | _ => none
section
variable {Q : D → Fr → Hh → Prop} {L : Fl → Fr → Hh → Prop} {U : Unit → Fr → Hh → Prop} {E : bh → Fr → Hh → Prop} {fr : Fr} {h : Hh} {mo mv : M D} {ms : List (M D)}
theorem mQ : Wp (afm fr h) Q E = Q (.ref h.length) fr (h ++ [.dc [] []]) := by
 unfold afm
 exact oH
theorem mU : Wp (ab5 mo ms fr h) Q E = Wp (mo fr h) (fun o fr h => Wp (aa ms fr h) (fun ks fr h => Op (ab4 h o ks) fun z => Q z fr h) E) E := by
 show Wq (ab5 mo ms fr h) Q E = Wq (mo fr h) (fun o fr h => Wq (aa ms fr h) (fun ks fr h => Oq (ab4 h o ks) fun z => Q z fr h) E) E
 unfold ab5
 simp only [aq, nY]
theorem mV : Wp (ab6 mo ms mv fr h) L E = Wp (mv fr h) (fun d fr h => Wp (mo fr h) (fun o fr h => Wp (aa ms fr h) (fun ks fr h => Op (Yv h o ks d) fun h' => L .nx fr h') E) E) E := by
 show Wq (ab6 mo ms mv fr h) L E = Wq (mv fr h) (fun d fr h => Wq (mo fr h) (fun o fr h => Wq (aa ms fr h) (fun ks fr h => Oq (Yv h o ks d) fun h' => L .nx fr h') E) E) E
 unfold ab6
 rw [aq]
 congr 1
 funext d fr h
 rw [aq]
 congr 1
 funext o fr h
 rw [aq]
 congr 1
 funext ks fr h
 cases Yv h o ks d with
 | some h' => dsimp only; rw [wB]; rfl
 | none => dsimp only; rw [aR]; rfl
theorem gA {j : Nat} {ix : Nat → Option Nat} {d : D} : Wp (ab7 j ix d fr h) U E = Sl fr[j]? fun o => Op (aeP h ix o d) fun h' => U () fr h' := by
 show Wq (ab7 j ix d fr h) U E = Sq fr[j]? fun o => Oq (aeP h ix o d) fun h' => U () fr h'
 unfold ab7 aeP
 cases fr[j]? with
 | none => exact aR
 | some s =>
   cases s with
   | none => exact aR
   | some o =>
     cases o with
     | ref n =>
       dsimp only [Sq]
       cases h[n]? with
       | none => exact aR
       | some c =>
         cases c with
         | no c fs =>
           dsimp only
           cases ix c with
           | none => exact aR
           | some i =>
             dsimp only
             cases wY i d fs with
             | none => exact aR
             | some fs' => exact wB
         | _ => exact aR
     | _ => exact aR
theorem gG {c n m : Nat} {F : Fn} {gD : List D → List D → List D} {ma mk : M (List D)} : Wp (Nf c n m F gD ma mk fr h) Q E = Wp (ma fr h) (fun ds fr h => Wp (mk fr h) (fun es fr h => ds.length = n ∧ es.length = m ∧ Wp (F (.ref h.length :: gD ds es) (h ++ [.no c []])) (fun d _ h' => d = .non ∧ Q (.ref h.length) fr h') (fun x _ h' => E x fr h')) E) E := by
 show Wq (Nf c n m F gD ma mk fr h) Q E = Wq (ma fr h) (fun ds fr h => Wq (mk fr h) (fun es fr h => ds.length = n ∧ es.length = m ∧ Wq (F (.ref h.length :: gD ds es) (h ++ [.no c []])) (fun d _ h' => d = .non ∧ Q (.ref h.length) fr h') (fun x _ h' => E x fr h')) E) E
 unfold Nf
 rw [aq]
 congr 1
 funext ds fr h
 rw [aq]
 congr 1
 funext es fr h
 split
 · rename_i hb
   simp only [hb.1, hb.2, true_and]
   cases F (.ref h.length :: gD ds es) (h ++ [.no c []]) with
   | ok d fr' h' => cases d <;> simp [ab8, Wq]
   | exc x fr' h' => rfl
   | err => rfl
 · rename_i hb
   rw [aR, eq_iff_iff]
   exact ⟨False.elim, fun z => hb ⟨z.1, z.2.1⟩⟩
end
end Pk
namespace Pk
open PySem PySem.Spec L2
section
variable {E : bh → Fr → Hh → Prop} {fr : Fr} {h : Hh} {G : Nat × List D × List D → Fr → Hh → Prop} {ma : M D}
theorem gH : Wp (Vl ma fr h) G E = Wp (ma fr h) (fun d fr h => Op ((Lr h d).map fun x => (x.1, x.2, FP 0 x.2)) fun x => G x fr h) E := by
 show Wq (Vl ma fr h) G E = Wq (ma fr h) (fun d fr h => Oq ((Lr h d).map fun x => (x.1, x.2, FP 0 x.2)) fun x => G x fr h) E
 unfold Vl
 simp only [aq, nY]
end
end Pk
namespace Pk
open PySem PySem.Spec L2
def aak (d : D) (K : Nat → Prop) : Prop := match d with
 | .ref n => K n
 | _ => False
def Uv (d : D) (K : Nat → List D → Prop) : Prop := match d with
 | .no c fs => K c fs
 | _ => False
section
variable {S : D → Fr → Hh → Prop} {L : Fl → Fr → Hh → Prop} {A : List D → Fr → Hh → Prop} {E : bh → Fr → Hh → Prop} {fr : Fr} {h : Hh} {m mo mt : M D} {ma : M (List D)} {t : M Bool} {b : M Fl} {i j n : Nat}
theorem gJ {K : Nat → Prop} : aak (.ref n) K = K n := by unfold aak; rfl
theorem mW {c : Nat} {fs : List D} {K : Nat → List D → Prop} : Uv (.no c fs) K = K c fs := by unfold Uv; rfl
theorem cJ {ix : Nat → Option Nat} {f : Int → Int → Int} : Wp (Bf j ix f m fr h) L E = Sl fr[j]? fun x => aak x fun n => Op h[n]? fun o => Uv o fun c fs => Op (ix c) fun i => Op fs[i]? fun y => Ow y fun a => Wp (m fr h) (fun d fr h => Ow d fun b => Op h[n]? fun o => Uv o fun c' fs' => c' = c ∧ Op (wY i (.int (f a b)) fs') fun fs'' => L .nx fr (h.set n (.no c fs''))) E := by
 show Wq (Bf j ix f m fr h) L E = Sq fr[j]? fun x => aak x fun n => Oq h[n]? fun o => Uv o fun c fs => Oq (ix c) fun i => Oq fs[i]? fun y => Ow y fun a => Wq (m fr h) (fun d fr h => Ow d fun b => Oq h[n]? fun o => Uv o fun c' fs' => c' = c ∧ Oq (wY i (.int (f a b)) fs') fun fs'' => L .nx fr (h.set n (.no c fs''))) E
 unfold Bf
 cases fr[j]? with
 | none => exact aR
 | some o =>
   cases o with
   | none => exact aR.trans KY.symm
   | some x =>
     rw [Bp]
     unfold aak
     cases x with
     | ref n =>
       dsimp only
       cases h[n]? with
       | none => exact aR
       | some o =>
         rw [sH]
         unfold Uv
         cases o with
         | no c fs =>
           dsimp only
           cases ix c with
           | none => exact aR
           | some i =>
             rw [sH]
             dsimp only
             cases fs[i]? with
             | none => exact aR
             | some y =>
               rw [sH]
               unfold Ow
               cases y with
               | int a =>
                 dsimp only
                 rw [aq]
                 congr 1
                 funext d fr h
                 cases d with
                 | int b =>
                   dsimp only
                   cases h[n]? with
                   | none => exact aR
                   | some o =>
                     rw [sH]
                     cases o with
                     | no c' fs' =>
                       dsimp only
                       by_cases hc : c' = c
                       · rw [if_pos hc]
                         cases wY i (.int (f a b)) fs' with
                         | none => exact aR.trans (eq_iff_iff.mpr ⟨False.elim, fun z => z.2⟩)
                         | some fs'' => exact wB.trans (eq_iff_iff.mpr ⟨fun z => ⟨hc, z⟩, fun z => z.2⟩)
                       · rw [if_neg hc]
                         exact aR.trans (eq_iff_iff.mpr ⟨False.elim, fun z => hc z.1⟩)
                     | _ => exact aR
                 | _ => exact aR
               | _ => exact aR
         | _ => exact aR
     | _ => exact aR
theorem mX : Wp (Vm i m fr h) S E = Wp (nM i wG fr h) (fun _ fr h => Wp (m fr h) (fun d fr h => Wp (nM i (ZQ d) fr h) (fun _ fr h => S .non fr h) E) E) E := by
 show Wq (Vm i m fr h) S E = Wq (nM i wG fr h) (fun _ fr h => Wq (m fr h) (fun d fr h => Wq (nM i (ZQ d) fr h) (fun _ fr h => S .non fr h) E) E) E
 unfold Vm
 simp only [aq, uz]
theorem gK {mtb : Nat → Option Fn} : Wp (sW mtb mo ma fr h) S E = Wp (mo fr h) (fun o fr h => Op (fnOf mtb h o) fun F => Wp (ma fr h) (fun ds fr h => ds.length ≤ big ∧ Wp (F [o, .tup ds] h) (fun d _ h => S d fr h) (fun x _ h => E x fr h)) E) E := by
 show Wq (sW mtb mo ma fr h) S E = Wq (mo fr h) (fun o fr h => Oq (fnOf mtb h o) fun F => Wq (ma fr h) (fun ds fr h => ds.length ≤ big ∧ Wq (F [o, .tup ds] h) (fun d _ h => S d fr h) (fun x _ h => E x fr h)) E) E
 unfold sW
 rw [aq]
 congr 1
 funext o fr h
 cases fnOf mtb h o with
 | none => exact aR
 | some F =>
   rw [sH]
   dsimp only
   rw [aq]
   congr 1
   funext ds fr h
   by_cases hb : ds.length ≤ big
   · rw [if_pos hb]
     cases F [o, .tup ds] h with
     | ok d fr' h' => exact eq_iff_iff.mpr ⟨fun z => ⟨hb, z⟩, fun z => z.2⟩
     | exc x fr' h' => exact eq_iff_iff.mpr ⟨fun z => ⟨hb, z⟩, fun z => z.2⟩
     | err => exact eq_iff_iff.mpr ⟨fun z => z.elim, fun z => z.2⟩
   · rw [if_neg hb]
     exact aR.trans (eq_iff_iff.mpr ⟨False.elim, fun z => hb z.1⟩)
theorem sr : Wp (zV m ma fr h) A E = Wp (m fr h) (fun d fr h => Op (d.its h) fun l => Wp (ma fr h) (fun r fr h => A (l ++ r) fr h) E) E := by
 show Wq (zV m ma fr h) A E = Wq (m fr h) (fun d fr h => Oq (d.its h) fun l => Wq (ma fr h) (fun r fr h => A (l ++ r) fr h) E) E
 unfold zV
 rw [aq]
 congr 1
 funext d fr h
 cases d.its h with
 | none => exact aR
 | some l =>
   rw [sH]
   dsimp only
   simp only [aq, uz]
theorem gM : Wp (Lw m ma fr h) A E = Wp (m fr h) (fun d fr h => Wp (ma fr h) (fun r fr h => A (d :: r) fr h) E) E := by
 show Wq (Lw m ma fr h) A E = Wq (m fr h) (fun d fr h => Wq (ma fr h) (fun r fr h => A (d :: r) fr h) E) E
 unfold Lw
 simp only [aq, uz]
def Vq (f : Fl) (again : Prop) (out : Fl → Prop) : Prop := match f with
 | .nx => again
 | .ct => again
 | .brk => out .nx
 | .rt d => out (.rt d)
theorem oG {p : Prop} {o : Fl → Prop} : Vq .nx p o = p := rfl
theorem oV {p : Prop} {o : Fl → Prop} : Vq .ct p o = p := rfl
theorem iT {p : Prop} {o : Fl → Prop} : Vq .brk p o = o .nx := rfl
theorem oW {p : Prop} {o : Fl → Prop} {d : D} : Vq (.rt d) p o = o (.rt d) := rfl
theorem ado : Wp (yc t b (n + 1) fr h) L E = Wp (t fr h) (fun c fr h => if c then Wp (b fr h) (fun f fr h => Vq f (Wp (yc t b n fr h) L E) fun f => L f fr h) E else L .nx fr h) E := by
 show Wq (yc t b (n + 1) fr h) L E = Wq (t fr h) (fun c fr h => if c then Wq (b fr h) (fun f fr h => Vq f (Wq (yc t b n fr h) L E) fun f => L f fr h) E else L .nx fr h) E
 rw [yc]
 dsimp only
 cases t fr h with
 | ok c fr h =>
   cases c with
   | true =>
     rw [wB]
     dsimp only
     rw [if_pos rfl]
     cases b fr h with
     | ok f fr h => cases f <;> rfl
     | exc x fr h => rfl
     | err => rfl
   | false => rfl
 | exc x fr h => rfl
 | err => rfl
theorem acr {f : Hh → D → D → Option Bool} : Wp (zb i f m mt b (n + 1) fr h) L E = Wp (m fr h) (fun d fr h => Bx (fr.set i (some d)) fun fr => Wp (mt fr h) (fun y fr h => Op (f h d y) fun c => if c then Wp (b fr h) (fun g fr h => Vq g (Wp (zb i f m mt b n fr h) L E) fun g => L g fr h) E else L .nx fr h) E) E := by
 show Wq (zb i f m mt b (n + 1) fr h) L E = Wq (m fr h) (fun d fr h => Bq (fr.set i (some d)) fun fr => Wq (mt fr h) (fun y fr h => Oq (f h d y) fun c => if c then Wq (b fr h) (fun g fr h => Vq g (Wq (zb i f m mt b n fr h) L E) fun g => L g fr h) E else L .nx fr h) E) E
 rw [zb, aq]
 congr 1
 funext d fr h
 show Wq ((mt.bind _) (fr.set i (some d)) h) L E = Wq (mt (fr.set i (some d)) h) _ E
 rw [aq]
 congr 1
 funext y fr h
 cases f h d y with
 | none => exact aR
 | some c =>
   rw [sH]
   cases c with
   | true =>
     dsimp only
     rw [if_pos rfl]
     cases b fr h with
     | ok g fr h => cases g <;> rfl
     | exc x fr h => rfl
     | err => rfl
   | false => rfl
end
end Pk
namespace Pk
open PySem PySem.Spec L2
section
variable {S : D → Fr → Hh → Prop} {A : List D → Fr → Hh → Prop} {E : bh → Fr → Hh → Prop} {fr : Fr} {h : Hh} {m mo : M D} {ma li : M (List D)} {ms : M Fl} {ds out : List D} {g : D → M Unit} {b c : List D → M (List D)}
theorem mY : Wp (ab9 ma fr h) S E = Wp (ma fr h) (fun ds fr h => ds.length ≤ big ∧ S (.tup ds) fr h) E := by
 show Wq (ab9 ma fr h) S E = Wq (ma fr h) (fun ds fr h => ds.length ≤ big ∧ S (.tup ds) fr h) E
 unfold ab9
 rw [aq]
 congr 1
 funext ds fr h
 by_cases hb : ds.length ≤ big
 · rw [if_pos hb]; exact eq_iff_iff.mpr ⟨fun z => ⟨hb, z⟩, fun z => z.2⟩
 · rw [if_neg hb]; exact eq_iff_iff.mpr ⟨fun z => z.elim, fun z => hb z.1⟩
end
end Pk
namespace Pk
open PySem PySem.Spec L2
section
variable {G : Nat × List D × List D → Fr → Hh → Prop} {E : bh → Fr → Hh → Prop} {fr : Fr} {h : Hh} {ma mb : M D} {n : Nat} {l : List D}
theorem gQ : Wp (ZZ ma mb fr h) G E = Wp (ma fr h) (fun d fr h => Wp (mb fr h) (fun e fr h => Op (aca h d e) fun x => G x fr h) E) E := by
 show Wq (ZZ ma mb fr h) G E = Wq (ma fr h) (fun d fr h => Wq (mb fr h) (fun e fr h => Oq (aca h d e) fun x => G x fr h) E) E
 unfold ZZ
 rw [aq]
 congr 1
 funext d fr h
 rw [aq]
 congr 1
 funext e fr h
 rw [nY]
end
end Pk
namespace Pk
open PySem PySem.Spec L2 GenP
section
variable {A : List D → Fr → Hh → Prop} {L : Fl → Fr → Hh → Prop} {E : bh → Fr → Hh → Prop} {fr : Fr} {h : Hh} {mo : M D} {mc : M (List D)} {c nN : Nat} {b : Hn} {g : D → M Unit} {bm : M Fl}
theorem mZ : Wp (ace c mo fr h) A E = Wp (mo fr h) (fun o fr h => (o.ins h).map (·.1) = some c ∧ A [o] fr h) E := by
 show Wq (ace c mo fr h) A E = Wq (mo fr h) (fun o fr h => (o.ins h).map (·.1) = some c ∧ A [o] fr h) E
 unfold ace
 rw [aq]
 congr 1
 funext o fr h
 cases e : o.ins h with
 | none => exact eq_iff_iff.mpr ⟨fun z => z.elim, fun z => by cases z.1⟩
 | some z =>
   obtain ⟨c', fs⟩ := z
   dsimp only
   by_cases hc : c' = c
   · rw [if_pos hc]
     exact eq_iff_iff.mpr ⟨fun z => ⟨congrArg some hc, z⟩, fun z => z.2⟩
   · rw [if_neg hc]
     exact eq_iff_iff.mpr ⟨fun z => z.elim, fun z => absurd (Option.some.inj z.1) hc⟩
theorem m7 : Wp (acd mc nN b g bm fr h) L E = Wp (mc fr h) (fun ds fr h => Wp (acb nN b (stepF g bm) ds fr h) L E) E := by
 show Wq (acd mc nN b g bm fr h) L E = Wq (mc fr h) (fun ds fr h => Wq (acb nN b (stepF g bm) ds fr h) L E) E
 unfold acd
 cases mc fr h <;> rfl
theorem gR {fs : List D} : ((D.obj c fs).ins h).map (·.1) = some c := rfl
theorem m9 {fs : List D} : ((D.no c fs).ins h).map (·.1) = some c := rfl
end
end Pk
namespace Pk
open PySem PySem.Spec L2
section
variable {Q : D → Fr → Hh → Prop} {L : Fl → Fr → Hh → Prop} {E : bh → Fr → Hh → Prop} {fr : Fr} {h : Hh} {mo mk mv mz m : M D}
theorem ni : Wp (afp fr h) Q E = Q (.ref h.length) fr (h ++ [.dk [] []]) := by
 unfold afp
 exact oH
theorem nj : Wp (ach mo mk fr h) Q E = Wp (mo fr h) (fun o fr h => Wp (mk fr h) (fun k fr h => Op (acg h o k) fun z => Q z fr h) E) E := by
 show Wq (ach mo mk fr h) Q E = Wq (mo fr h) (fun o fr h => Wq (mk fr h) (fun k fr h => Oq (acg h o k) fun z => Q z fr h) E) E
 unfold ach
 simp only [aq, nY]
theorem gU : Wp (Z7 mo fr h) Q E = Wp (mo fr h) (fun o fr h => Op (Z5 h o) fun z => Q z fr h) E := by
 show Wq (Z7 mo fr h) Q E = Wq (mo fr h) (fun o fr h => Oq (Z5 h o) fun z => Q z fr h) E
 unfold Z7
 simp only [aq, nY]
theorem gY : Wp (Z6 mo mk mz fr h) Q E = Wp (mo fr h) (fun o fr h => (cellE h o).isSome = true ∧ Wp (mk fr h) (fun k fr h => Wp (mz fr h) (fun z fr h => Op (Z4 h o k z) fun z => Q z fr h) E) E) E := by
 show Wq (Z6 mo mk mz fr h) Q E = Wq (mo fr h) (fun o fr h => (cellE h o).isSome = true ∧ Wq (mk fr h) (fun k fr h => Wq (mz fr h) (fun z fr h => Oq (Z4 h o k z) fun z => Q z fr h) E) E) E
 unfold Z6
 rw [aq]
 congr 1
 funext o fr h
 by_cases c : (cellE h o).isSome = true
 · rw [if_pos c]
   simp only [aq, nY, c, true_and]
 · rw [if_neg c, aR, eq_iff_iff]
   exact ⟨False.elim, fun z => c z.1⟩
theorem nu : Wp (aci mo mk mv fr h) L E = Wp (mv fr h) (fun d fr h => Wp (mo fr h) (fun o fr h => Wp (mk fr h) (fun k fr h => Op (Yy h o k d) fun h' => L .nx fr h') E) E) E := by
 show Wq (aci mo mk mv fr h) L E = Wq (mv fr h) (fun d fr h => Wq (mo fr h) (fun o fr h => Wq (mk fr h) (fun k fr h => Oq (Yy h o k d) fun h' => L .nx fr h') E) E) E
 unfold aci
 rw [aq]
 congr 1
 funext d fr h
 rw [aq]
 congr 1
 funext o fr h
 rw [aq]
 congr 1
 funext k fr h
 cases Yy h o k d with
 | some h' => dsimp only; rw [wB]; rfl
 | none => dsimp only; rw [aR]; rfl
theorem cO {i : Nat} : Wp (Wy i m fr h) Q E = Wp (g8 i fr h) (fun o fr h => (o.lstP h).isSome = true ∧ Wp (m fr h) (fun x fr h => Wp (g8 i fr h) (fun o fr h => Op (J9 h o x) fun z => Q z fr h) E) E) E := by
 show Wq (Wy i m fr h) Q E = Wq (g8 i fr h) (fun o fr h => (o.lstP h).isSome = true ∧ Wq (m fr h) (fun x fr h => Wq (g8 i fr h) (fun o fr h => Oq (J9 h o x) fun z => Q z fr h) E) E) E
 unfold Wy
 rw [aq]
 congr 1
 funext o fr h
 by_cases c : (o.lstP h).isSome = true
 · rw [if_pos c]
   simp only [aq, nY, c, true_and]
 · rw [if_neg c, aR, eq_iff_iff]
   exact ⟨False.elim, fun z => c z.1⟩
end
end Pk
namespace Pk
open PySem PySem.Spec L2
section
variable {α : Type} {Q : α → Fr → Hh → Prop} {E : bh → Fr → Hh → Prop} {fr : Fr} {h : Hh} {t : Fr → Hh → Bool} {a b : M α}
end
end Pk
namespace Pk
open PySem PySem.Spec L2
section
variable {α : Type} {Q : D → Fr → Hh → Prop} {L : Fl → Fr → Hh → Prop} {E : bh → Fr → Hh → Prop} {fr : Fr} {h : Hh} {m mo me : M D} {g : D → M Unit} {b : M Fl} {t : M Bool} {e : M D} {vs : List Nat}
theorem su {f : Str → Option D} : Wp (QD f mo fr h) Q E = Wp (mo fr h) (fun o fr h => Ly o fun a => Op (f a) fun z => Q z fr h) E := by
 show Wq (QD f mo fr h) Q E = Wq (mo fr h) (fun o fr h => Ly o fun a => Oq (f a) fun z => Q z fr h) E
 unfold QD
 rw [aq]
 congr 1
 funext o fr h
 rw [nY]
 unfold Ly
 cases o <;> first | rfl | exact sJ
theorem sE {f : Hh → Str → D → Option D} : Wp (MK f mo me fr h) Q E = Wp (mo fr h) (fun o fr h => Ly o fun a => Wp (me fr h) (fun y fr h => Op (f h a y) fun z => Q z fr h) E) E := by
 show Wq (MK f mo me fr h) Q E = Wq (mo fr h) (fun o fr h => Ly o fun a => Wq (me fr h) (fun y fr h => Oq (f h a y) fun z => Q z fr h) E) E
 unfold MK
 rw [aq]
 congr 1
 funext o fr h
 unfold Ly
 cases o with
 | str a => dsimp only; simp only [aq, nY]
 | _ => exact aR
theorem nA {al w : Nat} : Wp (acn al w m fr h) Q E = Wp (m fr h) (fun d fr h => Op (acl al w d) fun z => Q z fr h) E := by
 show Wq (acn al w m fr h) Q E = Wq (m fr h) (fun d fr h => Oq (acl al w d) fun z => Q z fr h) E
 unfold acn
 simp only [aq, nY]
theorem nH {f : Str → Str → D} {a c : Str} : Z9 f h a (.str c) = some (f a c) := by unfold Z9; rfl
theorem acs {a b : Str} (hb : b.length ≠ 0) (ha : a.length ≤ ack) : Du h a (.str b) = some (.nl ((Txt.split a b).map .str)) := by
 unfold Du
 dsimp only
 rw [if_pos ⟨hb, ha⟩]
theorem sG {G : List D → Fr → Hh → Prop} : Wp (aei m fr h) G E = Wp (m fr h) (fun d fr h => Op (aaa d) fun l => G l fr h) E := by
 show Wq (aei m fr h) G E = Wq (m fr h) (fun d fr h => Oq (aaa d) fun l => G l fr h) E
 unfold aei
 simp only [aq, nY]
end
end Pk
namespace L
open PySem PySem.Spec L2 Pk GenP
def fld : Nat → List Str
 | 0 => ["readings", "words", "places", "spot"]
 | 1 => ["readings", "node"]
 | _ => []
abbrev T (K : PySem.W.Frag) : Tb := Tbo cn fld K
def uB : Nat → Option Nat := fun c => alu c [(0, 0), (1, 0)]
def Bg : Nat → Option Nat := fun c => alu c [(1, 1)]
def xK : Nat → Option Nat := fun c => alu c [(0, 1)]
def yQ : Nat → Option Nat := fun c => alu c [(0, 2)]
def wQ : Nat → Option Nat := fun c => alu c [(0, 3)]
def KZ : Tg → Tg → Option Bool := ag0 [((.o 0, .b "bool"), false), ((.o 0, .b "int"), false), ((.o 0, .b "str"), false), ((.o 0, .b "tuple"), false), ((.o 0, .b "list"), false), ((.o 1, .b "bool"), false), ((.o 1, .b "int"), false), ((.o 1, .b "str"), false), ((.o 1, .b "tuple"), false), ((.o 1, .b "list"), false)]
def ajS : Tg → Tg → Option Bool := ai2 []
def QH : List D := [.str "raw", .str "zero", .str "held"]
def Vr : List D := [.str "zero", .str "held"]
def yM : List D := [.str "first", .str "last", .str "change", .str "rises"]
def Dh : List D := [.str "first", .str "last", .str "top", .str "low", .str "change", .str "rises", .str "told"]
def Bt : M Fl :=
    (az (cQ 3 (Ao (bf cGe (iy Nv (ak 2)) (bf abA (mC (.int 10)) (mC (.int 18)))) (iy Nv (ak 2)) (mC (.int 0))))
    (ie (yK [(ak 3), (nQ (bf uA (nQ (bf uA (bf Wc (iy xT (ak 2)) (mC (.int 2147483629))) (bf abz (mC (.int 15485863)) (ak 1)))) (mC (.int 7919)))), (mC (.int 0))])))
def BZ : M Fl :=
    (az (cQ 2 (Ao (bf Om (ak 1) (iy uW (g8 0))) (bj 0 (ak 1) bA) (mC (.int 0))))
    Bt)
def xr : Fn := sX 4 BZ
def zj : M Fl :=
    (az (xq 0 uB (ak 1))
    (xq 0 Bg (ak 2)))
def wH : Fn := runI 1 3 zj
def QJ : D → M Unit :=
    (wF 5)
def QK : M Bool :=
    (M.ret true)
def QL : M D :=
    (uX [(mC (.str "leaf")), (mC (.str "each")), (ak 1), (ak 5), (ak 2), (ak 3)])
def QM : D → M Unit :=
    (wF 5)
def QQ : M Bool :=
    (M.ret true)
def QR : M D :=
    (uX [(mC (.str "leaf")), (mC (.str "all")), (ak 1), (ak 5), (ak 2), (ak 3)])
def QS : M Fl :=
    (az (uw (bf Py (ak 1) (uX [(mC (.str "top")), (mC (.str "low"))]))
    (tL (Vm 4 (nQ (Hm [5] (Lf (mC (.tup Vr))) QM QQ QR))))
    (M.ret .nx))
    (ie (yN 4)))
def QT : M Fl :=
    (az (uw (bf u9 (ak 1) (mC (.str "rises")))
    (tL (U7 4 (uX [(mC (.str "leaf")), (mC (.str "each")), (mC (.str "told")), (mC (.str "raw")), (ak 2), (ak 3)])))
    (M.ret .nx))
    QS)
def QV : M Fl :=
    (az (cQ 4 (Hm [5] (Lf (mC (.tup QH))) QJ QK QL))
    QT)
def QW : M Fl :=
    (az (uw (bf u9 (ak 1) (mC (.str "told")))
    (cQ 1 (mC (.str "rises")))
    (M.ret .nx))
    QV)
def QX : M Fl :=
    (az (U5 [1, 2, 3] (aa [(bj 0 (mC (.int 2)) bA), (bj 0 (mC (.int 4)) bA), (bj 0 (mC (.int 5)) bA)]))
    QW)
def Lz : M Fl :=
    (az (uw (bf u9 (bj 0 (mC (.int 0)) bA) (mC (.str "events")))
    (ie (yK [(ak 0)]))
    (M.ret .nx))
    QX)
def G8 : Fn := sX 6 Lz
def FQ : D → M Unit :=
    (wF 1)
def FT : M Bool :=
    (M.ret true)
def FW : M D :=
    (nQ (bD 2 0 wH (aH []) (aa [(iy (uY uB) (g8 0)), (ak 1)]) (aa [])))
def JQ : M Fl :=
    (ie (Hm [1] (Lf (nQ (bD 1 0 G8 (aH []) (aa [(iy (uY Bg) (g8 0))]) (aa [])))) FQ FT FW))
def Bu : Fn := sX 2 JQ
def Ii : M Fl :=
    (az (cQ 3 (bf Wc (iy xT (bf abA (nQ (bf uA (ak 3) (bf abz (mC (.int 49979687)) (bj 0 (mC (.int 2)) bA)))) (mC (.int 2)))) (mC (.int 2305843009213693951))))
    (ie (bf Wc (iy xT (bf adJ (ak 3) (mC (.int 4096)))) (ak 1))))
def Ij : M Fl :=
    (az (cQ 3 (bf Wc (iy xT (bf abA (nQ (bf uA (bj 0 (mC (.int 1)) bA) (bf abz (mC (.int 32452843)) (bj 0 (mC (.int 2)) bA)))) (mC (.int 3)))) (mC (.int 2305843009213693921))))
    Ii)
def Ik : M Fl :=
    (az (Lg 0 (nQ (bf uA (bj 0 (mC (.int 2)) bA) (mC (.int 1)))) (mC (.int 2)))
    Ij)
def Ja : M Fl :=
    (az (uw (bf cGt (bj 0 (mC (.int 0)) bA) (mC (.int 0)))
    (az (cQ 2 (bf Wc (iy xT (bj 0 (mC (.int 0)) bA)) (ak 1)))
    (az (Lg 0 (bf adJ (bj 0 (mC (.int 0)) bA) (ak 1)) (mC (.int 0)))
    (ie (yN 2))))
    (M.ret .nx))
    Ik)
def vM : Fn := sX 4 Ja
def Ca : M Fl :=
    (Oc 2 (fun i j => i + j) (mC (.int 1)))
def FZ : M Fl :=
    (uw (bf CJ (bj 0 (ak 1) bA) (g8 3))
    (yc (Mi (bf Om (ak 2) (iy uW (g8 0))) (bf CJ (bj 0 (ak 2) bA) (g8 3))) Ca 60)
    (M.ret .nx))
def Ge : M Fl :=
    (az (zr (Lf (uX [(mC (.str "abcdefghijklmnopqrstuvwxyz")), (mC (.str "0123456789"))])) (wF 3) FZ)
    (ie (yN 2)))
def G9 : M Fl :=
    (az (cQ 2 (bf uA (ak 1) (mC (.int 1))))
    Ge)
def Bv : Fn := sX 4 G9
def yr : M Fl :=
    (az (uw (bf u9 (bj 1 (ak 3) bA) (mC (.str " ")))
    (az (Oc 3 (fun i j => i + j) (mC (.int 1)))
    (M.ret .ct))
    (M.ret .nx))
    (az (cQ 4 (bD 2 0 Bv (aH []) (aa [(ak 1), (ak 3)]) (aa [])))
    (az (tL (Iz (iy (uY xK) (g8 0)) (nQ (bj 1 (Ld (U4 (ak 3)) (U4 (ak 4))) zG))))
    (az (tL (Iz (iy (uY yQ) (g8 0)) (ak 3)))
    (cQ 3 (ak 4))))))
def yt : M Fl :=
    (az (yc (bf Om (ak 3) (iy uW (g8 1))) yr 60)
    (tL (Iz (iy (uY yQ) (g8 0)) (iy uW (g8 1)))))
def yu : M Fl :=
    (az (cQ 3 (mC (.int 0)))
    yt)
def yw : M Fl :=
    (az (xq 0 wQ (mC (.int 0)))
    yu)
def yz : M Fl :=
    (az (xq 0 yQ (IK (yK [])))
    yw)
def yC : M Fl :=
    (az (xq 0 xK (IK (yK [])))
    yz)
def ye : M Fl :=
    (az (xq 0 uB (ak 2))
    yC)
def wR : Fn := sX 5 ye
def yf : M Fl :=
    (ie (Ao (bf Om (iy (uY wQ) (g8 0)) (iy uW (iy (uY xK) (g8 0)))) (bf bA (iy (uY xK) (g8 0)) (iy (uY wQ) (g8 0))) (mC (.str ""))))
def wU : Fn := sX 1 yf
def uC : Nat → Option Fn := fun c => alu c [(0, wU)]
def zL : M Fl :=
    (az (Bf 0 wQ (fun i j => i + j) (mC (.int 1)))
    (ie (mC (.bl true))))
def zM : M Fl :=
    (az (uw (bf JF (nQ (ux 0 0 uC (aH []) (ak 0) (aa []) (aa []))) (g8 1))
    (ie (mC (.bl false)))
    (M.ret .nx))
    zL)
def yD : Fn := sX 2 zM
def wV : M Fl :=
    (ie (RD (bf (fun h x y => (JF h x y).map .bl) (nQ (ux 0 0 uC (aH []) (ak 0) (aa []) (aa []))) (mC (.str ""))) (bf (fun h x y => (CJ h x y).map .bl) (bf bA (nQ (ux 0 0 uC (aH []) (ak 0) (aa []) (aa []))) (mC (.int 0))) (mC (.str "0123456789")))))
def vY : Fn := sX 1 wV
def Nh : M Fl :=
    (fun _ _ => .err)
def Il : Fn := sX 1 Nh
def Dy : Nat → Option Fn := fun c => alu c [(0, Il)]
def Ad : M Fl :=
    (az (Bf 0 wQ (fun i j => i + j) (mC (.int 1)))
    (ie (yN 2)))
def Ae : M Fl :=
    (az (uw (bf Py (ak 2) (g8 1))
    (tL (ux 0 0 Dy (aH []) (ak 0) (aa []) (aa [])))
    (M.ret .nx))
    Ad)
def Bh : M Fl :=
    (az (cQ 2 (ux 0 0 uC (aH []) (ak 0) (aa []) (aa [])))
    Ae)
def zf : Fn := sX 3 Bh
def zu : M Fl :=
    (az (Bf 0 wQ (fun i j => i + j) (mC (.int 1)))
    (ie (iy xT (ak 3))))
def zA : M Fl :=
    (az (uw (TJ (bf cGt (iy uW (g8 3)) (mC (.int 7))) (TJ (Mi (bf u9 (bj 3 (mC (.int 0)) bA) (mC (.str "0"))) (bf cGt (iy uW (g8 3)) (mC (.int 1)))) (Ju (M5 cLe cLe (ak 1) (iy xT (ak 3)) (ak 2)))))
    (tL (ux 0 0 Dy (aH []) (ak 0) (aa []) (aa [])))
    (M.ret .nx))
    zu)
def zm : M Fl :=
    (az (cQ 3 (ux 0 0 uC (aH []) (ak 0) (aa []) (aa [])))
    zA)
def xM : Fn := sX 4 zm
def zp : Nat → Option Fn := fun c => alu c [(0, yD)]
def wg : Nat → Option Fn := fun c => alu c [(0, vY)]
def zN : Nat → Option Fn := fun c => alu c [(0, xM)]
def oX : Nat → Option Fn := fun c => alu c [(0, zf)]
def CK : M Fl :=
    (az (uw (iy D.tru (ux 1 0 zp (aH []) (ak 0) (aa [(mC (.str "["))]) (aa [])))
    (az (uw (iy D.tru (ux 0 0 wg (aH []) (ak 0) (aa []) (aa [])))
    (cQ 1 (ux 2 0 zN (aH []) (ak 0) (aa [(mC (.int 0)), (bf YG (iy (uY uB) (g8 0)) (mC (.int 1)))]) (aa [])))
    (M.ret .nx))
    (az (tL (sW oX (ak 0) (aa [(mC (.str ":"))])))
    (az (uw (iy D.tru (ux 0 0 wg (aH []) (ak 0) (aa []) (aa [])))
    (cQ 2 (ux 2 0 zN (aH []) (ak 0) (aa [(nQ (bf uA (ak 1) (mC (.int 1)))), (iy (uY uB) (g8 0))]) (aa [])))
    (M.ret .nx))
    (tL (sW oX (ak 0) (aa [(mC (.str "]"))]))))))
    (M.ret .nx))
    (ie (uX [(ak 1), (ak 2)])))
def CN : M Fl :=
    (az (cQ 2 (iy (uY uB) (g8 0)))
    CK)
def Di : M Fl :=
    (az (cQ 1 (mC (.int 0)))
    CN)
def xj : Fn := sX 3 Di
def Af : M Fl :=
    (az (tL (sW oX (ak 0) (aa [(mC (.str ")"))])))
    (ie (uX [(mC (.str "leaf")), (ak 1), (ak 2), (ak 4), (ak 5), (ak 6)])))
def Ag : M Fl :=
    (az (tL (sW oX (ak 0) (aa [(mC (.str ")"))])))
    Af)
def Ah : M Fl :=
    (az (PP (nQ (bD 1 0 xj (aH []) (aa [(ak 0)]) (aa []))) (Le 2 (BX (wF 5) (BX (wF 6) Ny))))
    Ag)
def Bj : M Fl :=
    (az (cQ 4 (sW oX (ak 0) (zV (ak 3) (aa []))))
    Ah)
def wW : Fn := sX 7 Bj
def Dz : M Fl :=
    (az (cQ 5 (Ao (bf u9 (ak 4) (mC (.str "told"))) (uX [(mC (.str "raw"))]) (uX [(mC (.str "raw")), (mC (.str "zero")), (mC (.str "held"))])))
    (ie (bD 4 0 wW (aH []) (aa [(ak 0), (mC (.str "each")), (ak 4), (ak 5)]) (aa []))))
def DG : M Fl :=
    (az (tL (sW oX (ak 0) (aa [(mC (.str "("))])))
    Dz)
def DK : M Fl :=
    (az (cQ 4 (sW oX (ak 0) (zV (mC (.tup Dh)) (aa []))))
    DG)
def DP : M Fl :=
    (az (uw (bf JF (ak 1) (mC (.str "sum")))
    (az (tL (sW oX (ak 0) (aa [(mC (.str "sum"))])))
    (az (tL (sW oX (ak 0) (aa [(mC (.str "("))])))
    (ie (bD 4 0 wW (aH []) (aa [(ak 0), (mC (.str "all")), (ak 1), (uX [(mC (.str "zero")), (mC (.str "held"))])]) (aa [])))))
    (M.ret .nx))
    DK)
def DQ : M Fl :=
    (az (tL (sW oX (ak 0) (aa [(mC (.str "("))])))
    DP)
def DR : M Fl :=
    (az (uw (bf u9 (ak 1) (mC (.str "events")))
    (az (PP (nQ (bD 1 0 xj (aH []) (aa [(ak 0)]) (aa []))) (Le 2 (BX (wF 2) (BX (wF 3) Ny))))
    (ie (uX [(mC (.str "events")), (ak 2), (ak 3)])))
    (M.ret .nx))
    DQ)
def Ff : M Fl :=
    (az (cQ 1 (sW oX (ak 0) (Lw (mC (.str "events")) (Lw (mC (.str "sum")) (zV (mC (.tup yM)) (aa []))))))
    DR)
def vP : Fn := sX 6 Ff
def DW : M Fl :=
    (az (tL (sW oX (ak 0) (aa [(mC (.str ")"))])))
    (ie (uX [(ak 2), (ak 3), (ak 4)])))
def DY : M Fl :=
    (az (cQ 4 (fun _ _ => .err))
    DW)
def Ea : M Fl :=
    (az (tL (sW oX (ak 0) (aa [(mC (.str ","))])))
    DY)
def Eb : M Fl :=
    (az (cQ 3 (fun _ _ => .err))
    Ea)
def Ec : M Fl :=
    (az (tL (sW oX (ak 0) (aa [(mC (.str "("))])))
    Eb)
def Ed : M Fl :=
    (az (cQ 2 (sW oX (ak 0) (aa [(mC (.str "max")), (mC (.str "min"))])))
    Ec)
def Ef : M Fl :=
    (az (uw (bf Py (nQ (ux 0 0 uC (aH []) (ak 0) (aa []) (aa []))) (uX [(mC (.str "max")), (mC (.str "min"))]))
    (ie (bD 1 0 vP (aH []) (aa [(ak 0)]) (aa [])))
    (M.ret .nx))
    Ed)
def Eh : M Fl :=
    (az (uw (iy D.tru (ux 1 0 zp (aH []) (ak 0) (aa [(mC (.str "abs"))]) (aa [])))
    (az (tL (sW oX (ak 0) (aa [(mC (.str "("))])))
    (az (cQ 1 (fun _ _ => .err))
    (az (tL (sW oX (ak 0) (aa [(mC (.str ")"))])))
    (ie (uX [(mC (.str "abs")), (ak 1)])))))
    (M.ret .nx))
    Ef)
def Fg : M Fl :=
    (az (uw (iy D.tru (ux 1 0 zp (aH []) (ak 0) (aa [(mC (.str "("))]) (aa [])))
    (az (cQ 1 (fun _ _ => .err))
    (az (tL (sW oX (ak 0) (aa [(mC (.str ")"))])))
    (ie (yN 1))))
    (M.ret .nx))
    Eh)
def yR : Fn := sX 5 Fg
def Ai : M Fl :=
    (az (cQ 2 (bD 1 0 yR (aH []) (aa [(ak 0)]) (aa [])))
    (ie (uX [(mC (.str "times")), (Ao (iy D.tru (g8 1)) (iy (fun _ => Hz) (ak 3)) (ak 3)), (ak 2)])))
def Aj : M Fl :=
    (az (tL (sW oX (ak 0) (aa [(mC (.str "*"))])))
    Ai)
def Ak : M Fl :=
    (az (cQ 3 (ux 2 0 zN (aH []) (ak 0) (aa [(mC (.int 0)), (mC (.int 1000000))]) (aa [])))
    Aj)
def Bl : M Fl :=
    (az (uw (Ju (iy D.tru (ux 0 0 wg (aH []) (ak 0) (aa []) (aa []))))
    (az (cQ 2 (bD 1 0 yR (aH []) (aa [(ak 0)]) (aa [])))
    (ie (Ao (iy D.tru (g8 1)) (uX [(mC (.str "times")), (iy (fun _ => Hz) (mC (.int 1))), (ak 2)]) (ak 2))))
    (M.ret .nx))
    Ak)
def wX : Fn := sX 4 Bl
def Ei : M Fl :=
    (az (tL (sW oX (ak 0) (aa [(ak 2)])))
    (cQ 1 (uX [(Ao (bf u9 (ak 2) (mC (.str "+"))) (mC (.str "plus")) (mC (.str "minus"))), (ak 1), (nQ (bD 2 0 wX (aH []) (aa [(ak 0), (mC (.bl false))]) (aa [])))])))
def Ek : M Fl :=
    (az (zb 2 CJ (nQ (ux 0 0 uC (aH []) (ak 0) (aa []) (aa []))) (uX [(mC (.str "+")), (mC (.str "-"))]) Ei 60)
    (ie (yN 1)))
def Fj : M Fl :=
    (az (cQ 1 (bD 2 0 wX (aH []) (aa [(ak 0), (nQ (ux 1 0 zp (aH []) (ak 0) (aa [(mC (.str "-"))]) (aa [])))]) (aa [])))
    Ek)
def zX : Fn := sX 3 Fj
def JR : M Fl :=
    (az (uw (bf JF (nQ (ux 0 0 uC (aH []) (ak 2) (aa []) (aa []))) (mC (.str "")))
    (tL (ux 0 0 Dy (aH []) (ak 2) (aa []) (aa [])))
    (M.ret .nx))
    (ie (yN 3)))
def JS : M Fl :=
    (az (cQ 3 (bD 1 0 zX (aH []) (aa [(ak 2)]) (aa [])))
    JR)
def Nk : M Fl :=
    (az (cQ 2 (Nf 0 2 0 wR (aH []) (aa [(ak 0), (ak 1)]) (aa [])))
    JS)
def Kc : Fn := sX 4 Nk
def Dj : M Fl :=
    (ie (bD 2 0 wH (aH []) (aa [(ak 2), (nQ (bD 2 0 Kc (aH []) (aa [(ak 1), (ak 2)]) (aa [])))]) (aa [])))
def xm : Fn := sX 3 Dj
def zB : M Fl :=
    (az (uw (bf u9 (bj 0 (mC (.int 0)) bA) (mC (.str "each")))
    (ie (bf uA (nQ (bf uA (nQ (bf uA (nQ (bf uA (nQ (bf uA (mC (.str "sum(")) (bj 0 (mC (.int 1)) bA))) (mC (.str "(")))) (bj 0 (mC (.int 2)) bA))) (ak 1))) (mC (.str "))"))))
    (M.ret .nx))
    (ie (bf uA (nQ (bf uA (nQ (bf uA (nQ (bf uA (bj 0 (mC (.int 1)) bA) (mC (.str "(sum(")))) (bj 0 (mC (.int 2)) bA))) (ak 1))) (mC (.str "))")))))
def zE : M Fl :=
    (az (uw (bf u9 (bj 0 (mC (.int 0)) bA) (mC (.str "events")))
    (ie (bf uA (mC (.str "events")) (ak 1)))
    (M.ret .nx))
    zB)
def Bw : M Fl :=
    (az (cQ 1 (bf uA (nQ (bf uA (nQ (bf uA (nQ (bf uA (mC (.str "[")) (iy R9 (bj 0 (iy (fun _ => Hz) (mC (.int 2))) bA)))) (mC (.str ":")))) (iy R9 (bj 0 (iy (fun _ => Hz) (mC (.int 1))) bA)))) (mC (.str "]"))))
    zE)
def wI : Fn := sX 2 Bw
def QZ : D → M Unit :=
    (wF 2)
def Q3 : M Bool :=
    (bf JF (bj 0 (ak 2) bA) (bj 1 (ak 2) bA))
def Q4 : M D :=
    (ak 2)
def LC : M Fl :=
    (az (uw (bf u9 (bj 0 (mC (.int 0)) bA) (mC (.str "events")))
    (ie (mC (.int 0)))
    (M.ret .nx))
    (ie (iy uW (Hm [2] (Lf (uX [(mC (.int 1)), (mC (.int 2)), (mC (.int 3))])) QZ Q3 Q4))))
def LK : Fn := sX 3 LC
def Vs : M Fl :=
    (ie (bD 2 0 LK (aH []) (aa [(iy (uY Bg) (g8 0)), (iy (uY Bg) (g8 1))]) (aa [])))
def El : Fn := sX 2 Vs
def Q5 : M Fl :=
    (ie (bj 1 (nQ (bD 2 0 vM (aH []) (aa [(ak 0), (iy uW (g8 1))]) (aa []))) bA))
def v9 : Fn := sX 2 Q5
def En : M Fl :=
    (az (cQ 5 (bD 2 0 v9 (aH []) (aa [(ak 0), (nQ (yK [(mC (.str "first")), (mC (.str "last")), (mC (.str "top")), (mC (.str "low")), (mC (.str "change")), (mC (.str "rises")), (mC (.str "rises")), (mC (.str "told"))]))]) (aa [])))
    (ie (uX [(mC (.str "each")), (ak 5), (nQ (Ao (bf u9 (ak 5) (mC (.str "told"))) (mC (.str "raw")) (bD 2 0 v9 (aH []) (aa [(ak 0), (nQ (yK [(mC (.str "raw")), (mC (.str "zero")), (mC (.str "held"))]))]) (aa [])))), (ak 2), (ak 3)])))
def Eo : M Fl :=
    (az (uw (bf Om (ak 4) (mC (.int 3)))
    (az (cQ 5 (bD 2 0 v9 (aH []) (aa [(ak 0), (nQ (yK [(mC (.str "first")), (mC (.str "last")), (mC (.str "change")), (mC (.str "rises")), (mC (.str "rises"))]))]) (aa [])))
    (ie (uX [(mC (.str "all")), (ak 5), (nQ (bD 2 0 v9 (aH []) (aa [(ak 0), (nQ (yK [(mC (.str "zero")), (mC (.str "held"))]))]) (aa []))), (ak 2), (ak 3)])))
    (M.ret .nx))
    En)
def Ep : M Fl :=
    (az (uw (bf u9 (ak 4) (mC (.int 0)))
    (ie (uX [(mC (.str "events")), (ak 2), (ak 3)]))
    (M.ret .nx))
    Eo)
def Es : M Fl :=
    (az (cQ 4 (bD 2 0 vM (aH []) (aa [(ak 0), (mC (.int 5))]) (aa [])))
    Ep)
def Et : M Fl :=
    (az (cQ 3 (bD 2 0 v9 (aH []) (aa [(ak 0), (nQ (yK [(ak 1), (nQ (bf uA (nQ (bf uA (ak 2) (mC (.int 1)))) (nQ (bD 2 0 vM (aH []) (aa [(ak 0), (bf YG (ak 1) (ak 2))]) (aa [])))))]))]) (aa [])))
    Es)
def Fo : M Fl :=
    (az (cQ 2 (bD 2 0 v9 (aH []) (aa [(ak 0), (nQ (yK [(mC (.int 0)), (mC (.int 0)), (nQ (bD 2 0 vM (aH []) (aa [(ak 0), (ak 1)]) (aa [])))]))]) (aa [])))
    Et)
def zY : Fn := sX 6 Fo
def CP : M Fl :=
    (az (cQ 2 (Ao (bf u9 (bj 1 (mC (.int 0)) bA) (mC (.str "sum"))) (bj 1 (mC (.int 1)) bA) (bj 1 (mC (.int 0)) bA)))
    (ie (uX [(bf (fun h x y => (u9 h x y).map .bl) (bj 1 (mC (.int 0)) bA) (mC (.str "sum"))), (ak 2), (bj 1 (mC (.int 2)) bA)])))
def Dk : M Fl :=
    (az (cQ 1 (MK Du (QD (Dg "[" " ") (QD (Dg "(" " ") (ak 0))) (mC (.str " "))))
    CP)
def yg : Fn := sX 3 Dk
def Vt : M Fl :=
    (az (uw (bf u9 (bj 0 (mC (.int 1)) bA) (mC (.str "each")))
    (ie (Bo [(mC (.str "sum(")), (yL (bj 0 (mC (.int 2)) bA)), (mC (.str "(")), (yL (ak 1)), (mC (.str "))"))]))
    (M.ret .nx))
    (ie (Bo [(yL (bj 0 (mC (.int 2)) bA)), (mC (.str "(sum(")), (yL (ak 1)), (mC (.str "))"))])))
def Vu : M Fl :=
    (az (cQ 1 (Bo [(yL (bj 0 (mC (.int 3)) bA)), (mC (.str "[")), (yL (bj 0 (mC (.int 4)) bA)), (mC (.str ":")), (yL (bj 0 (mC (.int 5)) bA)), (mC (.str "]"))]))
    Vt)
def Q6 : M Fl :=
    (az (uw (bf u9 (bj 0 (mC (.int 0)) bA) (mC (.str "events")))
    (ie (Bo [(mC (.str "events[")), (yL (bj 0 (mC (.int 1)) bA)), (mC (.str ":")), (yL (bj 0 (mC (.int 2)) bA)), (mC (.str "]"))]))
    (M.ret .nx))
    Vu)
def Q7 : Fn := sX 2 Q6
def Jb (R : Fn) : M Fl :=
    (az (cQ 2 (bD 1 0 R (aH []) (aa [(ak 0)]) (aa [])))
    (ie (Ao (bf CJ (bj 0 (mC (.int 0)) bA) (g8 1)) (Bo [(mC (.str "(")), (yL (ak 2)), (mC (.str ")"))]) (ak 2))))
def MN (R : Fn) : Fn := sX 3 (Jb R)
def acu (R : Fn) : M Fl :=
    (az (uw (Mi (bf u9 (bf bA (bj 0 (mC (.int 2)) bA) (mC (.int 0))) (mC (.str "times"))) (bf Om (bf bA (bj 0 (mC (.int 2)) bA) (mC (.int 1))) (mC (.int 0))))
    (cQ 3 (uX [(mC (.str "times"))]))
    (M.ret .nx))
    (ie (Bo [(yL (nQ (bD 1 0 R (aH []) (aa [(bj 0 (mC (.int 1)) bA)]) (aa [])))), (mC (.str " ")), (yL (ak 2)), (mC (.str " ")), (yL (nQ (bD 2 0 (MN R) (aH []) (aa [(bj 0 (mC (.int 2)) bA), (ak 3)]) (aa []))))])))
def acv (R : Fn) : M Fl :=
    (az (cQ 3 (uX [(mC (.str "plus")), (mC (.str "minus"))]))
    (acu R))
def acw (R : Fn) : M Fl :=
    (az (cQ 2 (Ao (bf u9 (bj 0 (mC (.int 0)) bA) (mC (.str "plus"))) (mC (.str "+")) (mC (.str "-"))))
    (acv R))
def abp (R : Fn) : M Fl :=
    (az (Qx (bj 0 (mC (.int 0)) bA) (Df [(["events", "leaf"], (ie (bD 1 0 Q7 (aH []) (aa [(ak 0)]) (aa [])))), (["abs"], (ie (Bo [(mC (.str "abs(")), (yL (nQ (bD 1 0 R (aH []) (aa [(bj 0 (mC (.int 1)) bA)]) (aa [])))), (mC (.str ")"))]))), (["max", "min"], (ie (Bo [(yL (bj 0 (mC (.int 0)) bA)), (mC (.str "(")), (yL (nQ (bD 1 0 R (aH []) (aa [(bj 0 (mC (.int 1)) bA)]) (aa [])))), (mC (.str ", ")), (yL (nQ (bD 1 0 R (aH []) (aa [(bj 0 (mC (.int 2)) bA)]) (aa [])))), (mC (.str ")"))]))), (["times"], (az (cQ 1 (bD 2 0 (MN R) (aH []) (aa [(bj 0 (mC (.int 2)) bA), (uX [(mC (.str "plus")), (mC (.str "minus")), (mC (.str "times"))])]) (aa [])))
    (ie (Ao (bf u9 (bj 0 (mC (.int 1)) bA) (iy (fun _ => Hz) (mC (.int 1)))) (Bo [(mC (.str "-")), (yL (ak 1))]) (Bo [(yL (bj 0 (mC (.int 1)) bA)), (mC (.str " * ")), (yL (ak 1))])))))]))
    (acw R))
def Uw : Nat → Fn
 | 0 => sX 4 (fun _ _ => .err)
 | j + 1 => sX 4 (abp (Uw j))
def WL : Fn := Uw 1
def Hf : M Fl :=
    (ie (bD 1 0 WL (aH []) (aa [(iy (uY Bg) (g8 0))]) (aa [])))
def yh : Fn := sX 1 Hf
def zJ : Nat → Option Fn := fun c => alu c [(1, yh)]
def Gp : D → M Unit :=
    (wF 11)
def Gq : M Bool :=
    (bf JF (bj 9 (ak 11) bA) (bj 10 (ak 11) bA))
def Gr : M D :=
    (ak 11)
def Jc : M Fl :=
    (az (uw (TJ (Ju (iy D.tru (bf (Jw KZ) (ak 7) (mC (.ty "int"))))) (iy D.tru (bf (Jw KZ) (ak 7) (mC (.ty "bool")))))
    (ie (mC (.bl false)))
    (M.ret .nx))
    (uw (bf JF (ak 7) (g8 8))
    (ie (mC (.bl false)))
    (M.ret .nx)))
def Jd : M Fl :=
    (az (uw (Ju (iy D.tru (MK (Z9 fun a b => .bl (Txt.startswith a b)) (nQ (IV zJ (bj 4 (ak 5) bA))) (mC (.str "events")))))
    (az (cQ 9 (bD 1 0 yg (aH []) (aa [(nQ (IV zJ (bj 4 (ak 5) bA)))]) (aa [])))
    (az (cQ 10 (bD 1 0 yg (aH []) (aa [(nQ (IV zJ (bj 4 (ak 6) bA)))]) (aa [])))
    (cQ 8 (iy uW (Hm [11] (yO (mC (.int 3))) Gp Gq Gr)))))
    (M.ret .nx))
    Jc)
def Je : M Fl :=
    (az (cQ 8 (mC (.int 0)))
    Jd)
def Im : M Fl :=
    (az (cQ 7 (bD 2 0 El (aH []) (aa [(bj 4 (ak 5) bA), (bj 4 (ak 6) bA)]) (aa [])))
    Je)
def Io : M Fl :=
    (zr (yO (iy uW (g8 4))) (wF 6) Im)
def Fp : M Fl :=
    (az (cQ 4 (bD 1 0 Bu (aH []) (aa [(nQ (Zv 2 1 xm (aa [(nQ (bD 1 0 wI (aH []) (aa [(nQ (bD 2 0 zY (aH []) (aa [(ak 2), (ak 3)]) (aa [])))]) (aa []))), (ak 3)])))]) (aa [])))
    (zr (yO (iy uW (g8 4))) (wF 5) Io))
def Jf : M Fl :=
    (az (cQ 3 (bf uA (mC (.int 2)) (nQ (bD 2 0 vM (aH []) (aa [(ak 2), (mC (.int 3))]) (aa [])))))
    Fp)
def Jl : M Fl :=
    (az (cQ 2 (IK (bD 2 0 xr (aH []) (aa [(ak 0), (ak 1)]) (aa []))))
    Jf)
def Vv : M Fl :=
    (az (zr (yO (bf RG (mC (.int 1)) (bf RJ (mC (.int 12)) (iy uW (g8 0))))) (wF 1) Jl)
    (ie (mC (.bl true))))
def acx : Fn := sX 12 Vv
end L
namespace L
open PySem PySem.Spec L2 Pk GenP
section
variable {P : Program} {w : World} {K : PySem.W.Frag} {mg : Str → Option Value} {base : Heap}
theorem Ux (c : bB K) (Y : K.In base) (G : base.Ns mainGlobals mg) : mg "variant_nodes" = some (.ref (He.ga K "variant_nodes")) := He.glo_ok Y G (c.fact 3 (f := .he (.glo "variant_nodes")) rfl)
theorem WN (c : bB K) (Y : K.In base) (G : base.Ns mainGlobals mg) : mg "Term" = some (.ref (He.ga K "Term")) := He.glo_ok Y G (c.fact 4 (f := .he (.glo "Term")) rfl)
theorem aaM (c : bB K) (Y : K.In base) (G : base.Ns mainGlobals mg) : mg "word_end" = some (.ref (He.ga K "word_end")) := He.glo_ok Y G (c.fact 5 (f := .he (.glo "word_end")) rfl)
theorem Ox (c : bB K) (Y : K.In base) (G : base.Ns mainGlobals mg) : mg "read_slice" = some (.ref (He.ga K "read_slice")) := He.glo_ok Y G (c.fact 6 (f := .he (.glo "read_slice")) rfl)
theorem LQ (c : bB K) (Y : K.In base) (G : base.Ns mainGlobals mg) : mg "read_filling" = some (.ref (He.ga K "read_filling")) := He.glo_ok Y G (c.fact 7 (f := .he (.glo "read_filling")) rfl)
theorem aal (c : bB K) (Y : K.In base) (G : base.Ns mainGlobals mg) : mg "read_leaf" = some (.ref (He.ga K "read_leaf")) := He.glo_ok Y G (c.fact 8 (f := .he (.glo "read_leaf")) rfl)
theorem Q8 (c : bB K) (Y : K.In base) (G : base.Ns mainGlobals mg) : mg "read_atom" = some (.ref (He.ga K "read_atom")) := He.glo_ok Y G (c.fact 9 (f := .he (.glo "read_atom")) rfl)
theorem LR (c : bB K) (Y : K.In base) (G : base.Ns mainGlobals mg) : mg "read_product" = some (.ref (He.ga K "read_product")) := He.glo_ok Y G (c.fact 10 (f := .he (.glo "read_product")) rfl)
theorem adp (c : bB K) (Y : K.In base) (G : base.Ns mainGlobals mg) : mg "Tokens" = some (.ref (He.ga K "Tokens")) := He.glo_ok Y G (c.fact 11 (f := .he (.glo "Tokens")) rfl)
theorem aam (c : bB K) (Y : K.In base) (G : base.Ns mainGlobals mg) : mg "read_term" = some (.ref (He.ga K "read_term")) := He.glo_ok Y G (c.fact 12 (f := .he (.glo "read_term")) rfl)
theorem aeQ (c : bB K) (Y : K.In base) (G : base.Ns mainGlobals mg) : mg "parse" = some (.ref (He.ga K "parse")) := He.glo_ok Y G (c.fact 13 (f := .he (.glo "parse")) rfl)
theorem Uy (c : bB K) (Y : K.In base) (G : base.Ns mainGlobals mg) : mg "node_distance" = some (.ref (He.ga K "node_distance")) := He.glo_ok Y G (c.fact 15 (f := .he (.glo "node_distance")) rfl)
theorem Dm (c : bB K) (Y : K.In base) (G : base.Ns mainGlobals mg) : mg "_law_draw" = some (.ref (He.ga K "_law_draw")) := He.glo_ok Y G (c.fact 16 (f := .he (.glo "_law_draw")) rfl)
theorem Eu (c : bB K) (Y : K.In base) (G : base.Ns mainGlobals mg) : mg "_law_of" = some (.ref (He.ga K "_law_of")) := He.glo_ok Y G (c.fact 17 (f := .he (.glo "_law_of")) rfl)
theorem Ip (c : bB K) (Y : K.In base) (G : base.Ns mainGlobals mg) : mg "write" = some (.ref (He.ga K "write")) := He.glo_ok Y G (c.fact 18 (f := .he (.glo "write")) rfl)
theorem XR (c : bB K) (Y : K.In base) (G : base.Ns mainGlobals mg) : mg "write_leaf" = some (.ref (He.ga K "write_leaf")) := He.glo_ok Y G (c.fact 19 (f := .he (.glo "write_leaf")) rfl)
theorem Q9 (c : bB K) (Y : K.In base) (G : base.Ns mainGlobals mg) : mg "bracketed" = some (.ref (He.ga K "bracketed")) := He.glo_ok Y G (c.fact 20 (f := .he (.glo "bracketed")) rfl)
theorem WP (c : bB K) (Y : K.In base) (G : base.Ns mainGlobals mg) : mg "_law_source" = some (.ref (He.ga K "_law_source")) := He.glo_ok Y G (c.fact 24 (f := .he (.glo "_law_source")) rfl)
theorem aan (c : bB K) (Y : K.In base) (G : base.Ns mainGlobals mg) : mg "_law_leaf" = some (.ref (He.ga K "_law_leaf")) := He.glo_ok Y G (c.fact 25 (f := .he (.glo "_law_leaf")) rfl)
theorem S9 (c : bB K) (Y : K.In base) (G : base.Ns mainGlobals mg) : mg "_law_leaf_text" = some (.ref (He.ga K "_law_leaf_text")) := He.glo_ok Y G (c.fact 26 (f := .he (.glo "_law_leaf_text")) rfl)
theorem aaN (c : bB K) (Y : K.In base) (G : base.Ns mainGlobals mg) : mg "variants" = some (.ref (He.ga K "variants")) := He.glo_ok Y G (c.fact 27 (f := .he (.glo "variants")) rfl)
theorem aaO (c : bB K) (Y : K.In base) (G : base.Ns mainGlobals mg) : mg "distance" = some (.ref (He.ga K "distance")) := He.glo_ok Y G (c.fact 28 (f := .he (.glo "distance")) rfl)
theorem Oz (c : bB K) (Y : K.In base) (G : base.Ns mainGlobals mg) : mg "_law_parts" = some (.ref (He.ga K "_law_parts")) := He.glo_ok Y G (c.fact 29 (f := .he (.glo "_law_parts")) rfl)
theorem Bm (c : bB K) (Y : K.In base) (G : base.Ns mainGlobals mg) : mg "len" = none := He.free_ok Y G (c.fact 0 (f := .he (.free "len")) rfl)
theorem adq (c : bB K) (Y : K.In base) (G : base.Ns mainGlobals mg) : mg "abs" = none := He.free_ok Y G (c.fact 1 (f := .he (.free "abs")) rfl)
theorem Jm (c : bB K) (Y : K.In base) (G : base.Ns mainGlobals mg) : mg "int" = none := He.free_ok Y G (c.fact 2 (f := .he (.free "int")) rfl)
theorem adt (c : bB K) (Y : K.In base) (G : base.Ns mainGlobals mg) : mg "str" = none := He.free_ok Y G (c.fact 14 (f := .he (.free "str")) rfl)
theorem ahM (c : bB K) (Y : K.In base) (G : base.Ns mainGlobals mg) : mg "min" = none := He.free_ok Y G (c.fact 21 (f := .he (.free "min")) rfl)
theorem ahN (c : bB K) (Y : K.In base) (G : base.Ns mainGlobals mg) : mg "max" = none := He.free_ok Y G (c.fact 22 (f := .he (.free "max")) rfl)
theorem Og (c : bB K) (Y : K.In base) (G : base.Ns mainGlobals mg) : mg "range" = none := He.free_ok Y G (c.fact 23 (f := .he (.free "range")) rfl)
theorem OJ (c : bB K) (Y : K.In base) (G : base.Ns mainGlobals mg) : mg "isinstance" = none := He.free_ok Y G (c.fact 30 (f := .he (.free "isinstance")) rfl)
theorem agk (c : bB K) (Y : K.In base) (G : base.Ns mainGlobals mg) : mg "bool" = none := He.free_ok Y G (c.fact 31 (f := .he (.free "bool")) rfl)
theorem Cr (c : bB K) {X : Cx} (hK : X.K = K) : Qc X (T K) "readings" uB := by
 subst hK
 exact ⟨vh (Q := fun c _ => Cls X.K ((T X.K).cad c)) (.cons (He.cls_ok (c.fact 32 (f := .he (.cls "Tokens")) rfl)) (.cons (He.cls_ok (c.fact 34 (f := .he (.cls "Term")) rfl)) .nil)),
  vh (Q := fun c _ => NoAttr X.K ((T X.K).cad c) "readings") (.cons (He.noat_ok (c.fact 33 (f := .he (.noat "Tokens" "readings")) rfl)) (.cons (He.noat_ok (c.fact 35 (f := .he (.noat "Term" "readings")) rfl)) .nil)),
  vh (Q := fun c _ => ((T X.K).fld c).Nodup ∧ ((T X.K).fld c).length < 1000) (.cons ⟨(by show (fld 0).Nodup; decide +kernel), (by show (fld 0).length < 1000; decide)⟩ (.cons ⟨(by show (fld 1).Nodup; decide +kernel), (by show (fld 1).length < 1000; decide)⟩ .nil)),
  vh (Q := fun (c i : Nat) => ((T X.K).fld c)[i]? = some (("readings" : Str))) (.cons rfl (.cons rfl .nil))⟩
theorem Nm (c : bB K) {X : Cx} (hK : X.K = K) : Qc X (T K) "node" Bg := by
 subst hK
 exact ⟨vh (Q := fun c _ => Cls X.K ((T X.K).cad c)) (.cons (He.cls_ok (c.fact 34 (f := .he (.cls "Term")) rfl)) .nil),
  vh (Q := fun c _ => NoAttr X.K ((T X.K).cad c) "node") (.cons (He.noat_ok (c.fact 36 (f := .he (.noat "Term" "node")) rfl)) .nil),
  vh (Q := fun c _ => ((T X.K).fld c).Nodup ∧ ((T X.K).fld c).length < 1000) (.cons ⟨(by show (fld 1).Nodup; decide +kernel), (by show (fld 1).length < 1000; decide)⟩ .nil),
  vh (Q := fun (c i : Nat) => ((T X.K).fld c)[i]? = some (("node" : Str))) (.cons rfl .nil)⟩
theorem Oh (c : bB K) {X : Cx} (hK : X.K = K) : Qc X (T K) "words" xK := by
 subst hK
 exact ⟨vh (Q := fun c _ => Cls X.K ((T X.K).cad c)) (.cons (He.cls_ok (c.fact 32 (f := .he (.cls "Tokens")) rfl)) .nil),
  vh (Q := fun c _ => NoAttr X.K ((T X.K).cad c) "words") (.cons (He.noat_ok (c.fact 37 (f := .he (.noat "Tokens" "words")) rfl)) .nil),
  vh (Q := fun c _ => ((T X.K).fld c).Nodup ∧ ((T X.K).fld c).length < 1000) (.cons ⟨(by show (fld 0).Nodup; decide +kernel), (by show (fld 0).length < 1000; decide)⟩ .nil),
  vh (Q := fun (c i : Nat) => ((T X.K).fld c)[i]? = some (("words" : Str))) (.cons rfl .nil)⟩
theorem Ra (c : bB K) {X : Cx} (hK : X.K = K) : Qc X (T K) "places" yQ := by
 subst hK
 exact ⟨vh (Q := fun c _ => Cls X.K ((T X.K).cad c)) (.cons (He.cls_ok (c.fact 32 (f := .he (.cls "Tokens")) rfl)) .nil),
  vh (Q := fun c _ => NoAttr X.K ((T X.K).cad c) "places") (.cons (He.noat_ok (c.fact 38 (f := .he (.noat "Tokens" "places")) rfl)) .nil),
  vh (Q := fun c _ => ((T X.K).fld c).Nodup ∧ ((T X.K).fld c).length < 1000) (.cons ⟨(by show (fld 0).Nodup; decide +kernel), (by show (fld 0).length < 1000; decide)⟩ .nil),
  vh (Q := fun (c i : Nat) => ((T X.K).fld c)[i]? = some (("places" : Str))) (.cons rfl .nil)⟩
theorem Kd (c : bB K) {X : Cx} (hK : X.K = K) : Qc X (T K) "spot" wQ := by
 subst hK
 exact ⟨vh (Q := fun c _ => Cls X.K ((T X.K).cad c)) (.cons (He.cls_ok (c.fact 32 (f := .he (.cls "Tokens")) rfl)) .nil),
  vh (Q := fun c _ => NoAttr X.K ((T X.K).cad c) "spot") (.cons (He.noat_ok (c.fact 39 (f := .he (.noat "Tokens" "spot")) rfl)) .nil),
  vh (Q := fun c _ => ((T X.K).fld c).Nodup ∧ ((T X.K).fld c).length < 1000) (.cons ⟨(by show (fld 0).Nodup; decide +kernel), (by show (fld 0).length < 1000; decide)⟩ .nil),
  vh (Q := fun (c i : Nat) => ((T X.K).fld c)[i]? = some (("spot" : Str))) (.cons rfl .nil)⟩
theorem ZD (c : bB K) : Wn K (T K) KZ := ag1 (.o (Fd (c.fact 64 (f := .kit (.o 0) (.b "bool") false) rfl)) (EY (c.fact 62 (f := .ins "Tokens") rfl)) (.o (Fd (c.fact 65 (f := .kit (.o 0) (.b "int") false) rfl)) (EY (c.fact 62 (f := .ins "Tokens") rfl)) (.o (Fd (c.fact 66 (f := .kit (.o 0) (.b "str") false) rfl)) (EY (c.fact 62 (f := .ins "Tokens") rfl)) (.o (Fd (c.fact 67 (f := .kit (.o 0) (.b "tuple") false) rfl)) (EY (c.fact 62 (f := .ins "Tokens") rfl)) (.o (Fd (c.fact 68 (f := .kit (.o 0) (.b "list") false) rfl)) (EY (c.fact 62 (f := .ins "Tokens") rfl)) (.o (Fd (c.fact 69 (f := .kit (.o 1) (.b "bool") false) rfl)) (EY (c.fact 63 (f := .ins "Term") rfl)) (.o (Fd (c.fact 70 (f := .kit (.o 1) (.b "int") false) rfl)) (EY (c.fact 63 (f := .ins "Term") rfl)) (.o (Fd (c.fact 71 (f := .kit (.o 1) (.b "str") false) rfl)) (EY (c.fact 63 (f := .ins "Term") rfl)) (.o (Fd (c.fact 72 (f := .kit (.o 1) (.b "tuple") false) rfl)) (EY (c.fact 63 (f := .ins "Term") rfl)) (.o (Fd (c.fact 73 (f := .kit (.o 1) (.b "list") false) rfl)) (EY (c.fact 63 (f := .ins "Term") rfl)) .nil))))))))))
theorem aaP (c : bB K) (Y : K.In base) (G : base.Ns mainGlobals mg) {X : Cx} (hK : X.K = K) (hm : X.mg = mg) : Qe X (T K) "FILLINGS" (.tup QH) := by
 subst hK hm
 exact ⟨_, .ref (He.ga X.K "FILLINGS"), He.glo_ok Y G (c.fact 48 (f := .he (.glo "FILLINGS")) rfl), rfl, .tup (RQ (c.fact 49 (f := .tup (fun K => He.ga K "FILLINGS") [.str "raw", .str "zero", .str "held"]) rfl) _) (.cons (.str _) (.cons (.str _) (.cons (.str _) .nil)))⟩
theorem adu (c : bB K) (Y : K.In base) (G : base.Ns mainGlobals mg) {X : Cx} (hK : X.K = K) (hm : X.mg = mg) : Qe X (T K) "TOTALS" (.tup Vr) := by
 subst hK hm
 exact ⟨_, .ref (He.ga X.K "TOTALS"), He.glo_ok Y G (c.fact 50 (f := .he (.glo "TOTALS")) rfl), rfl, .tup (RQ (c.fact 51 (f := .tup (fun K => He.ga K "TOTALS") [.str "zero", .str "held"]) rfl) _) (.cons (.str _) (.cons (.str _) .nil))⟩
theorem acy (c : bB K) (Y : K.In base) (G : base.Ns mainGlobals mg) {X : Cx} (hK : X.K = K) (hm : X.mg = mg) : Qe X (T K) "LETTERS" (.str "abcdefghijklmnopqrstuvwxyz") := by
 subst hK hm
 obtain ⟨t, e⟩ := He.str_ok Y G (c.fact 52 (f := .he (.str "LETTERS" "abcdefghijklmnopqrstuvwxyz")) rfl)
 exact ⟨_, .str "abcdefghijklmnopqrstuvwxyz", e, ⟨_, rfl⟩, .str _⟩
theorem Xw (c : bB K) (Y : K.In base) (G : base.Ns mainGlobals mg) {X : Cx} (hK : X.K = K) (hm : X.mg = mg) : Qe X (T K) "DIGITS" (.str "0123456789") := by
 subst hK hm
 obtain ⟨t, e⟩ := He.str_ok Y G (c.fact 53 (f := .he (.str "DIGITS" "0123456789")) rfl)
 exact ⟨_, .str "0123456789", e, ⟨_, rfl⟩, .str _⟩
theorem aao (c : bB K) (Y : K.In base) (G : base.Ns mainGlobals mg) {X : Cx} (hK : X.K = K) (hm : X.mg = mg) : Qe X (T K) "OF_TOTALS" (.tup yM) := by
 subst hK hm
 exact ⟨_, .ref (He.ga X.K "OF_TOTALS"), He.glo_ok Y G (c.fact 54 (f := .he (.glo "OF_TOTALS")) rfl), rfl, .tup (RQ (c.fact 55 (f := .tup (fun K => He.ga K "OF_TOTALS") [.str "first", .str "last", .str "change", .str "rises"]) rfl) _) (.cons (.str _) (.cons (.str _) (.cons (.str _) (.cons (.str _) .nil))))⟩
theorem aaQ (c : bB K) (Y : K.In base) (G : base.Ns mainGlobals mg) {X : Cx} (hK : X.K = K) (hm : X.mg = mg) : Qe X (T K) "MEASURES" (.tup Dh) := by
 subst hK hm
 exact ⟨_, .ref (He.ga X.K "MEASURES"), He.glo_ok Y G (c.fact 56 (f := .he (.glo "MEASURES")) rfl), rfl, .tup (RQ (c.fact 57 (f := .tup (fun K => He.ga K "MEASURES") [.str "first", .str "last", .str "top", .str "low", .str "change", .str "rises", .str "told"]) rfl) _) (.cons (.str _) (.cons (.str _) (.cons (.str _) (.cons (.str _) (.cons (.str _) (.cons (.str _) (.cons (.str _) .nil)))))))⟩
theorem agl (c : bB K) (Y : K.In base) (G : base.Ns mainGlobals mg) {X : Cx} (hK : X.K = K) (hm : X.mg = mg) : Qe X (T K) "MOST" (.int 1000000) := by
 subst hK hm
 obtain ⟨t, e⟩ := He.int_ok Y G (c.fact 58 (f := .he (.int "MOST" 1000000)) rfl)
 exact ⟨_, .int 1000000, e, ⟨_, rfl⟩, .int _⟩
theorem Uz (c : bB K) (Y : K.In base) (G : base.Ns mainGlobals mg) : Does P w K mg base (T K) 0 Ou "_law_source" (defScope zH) (defBody zH) BZ := by
 intro f cdv A outer s H E C
 exact (aC (vL C 2 (s_if (uo cmp_lt (ao 1) (Aq (uI 0) (Bm c Y G))) (cU 0 (ao 1)) aO))
  (aC (vL C 3 (s_if (uo cmp_ge (acV (ao 2) (adq c Y G)) (YJ aO aO)) (acV (ao 2) (adq c Y G)) aO))
  (cR (s_ret (Ey (aj (ao 3) (aj (sV (vQ (sV (vQ (Pr (HD (ao 2) (Jm c Y G)) aO) (YH aO (ao 1)))) aO)) (aj aO aN))))))))
theorem WQ (c : bB K) (Y : K.In base) (G : base.Ns mainGlobals mg) : ∃ fd : FuncData, v7 P w K mg base (T K) 1 (Jy.adr K) fd Jx xr ∧ Bn K (T K) fd Jx 2 [] (aH []) := by
 obtain ⟨fd, F⟩ := c.def_ 0 (d := Jy) rfl
 exact ⟨fd, ⟨fn_sim F Wo (Uz c Y G), F.kp⟩, (vo (FunD.bindsN F fun _ _ _ _ _ _ us hl => match us, hl with | [_, _], _ => (by kernel_rfl)))⟩
theorem O9 (c : bB K) (Y : K.In base) (G : base.Ns mainGlobals mg) : Does P w K mg base (T K) 0 Kr "Term.__init__" (defScope xG) (defBody xG) zj := by
 intro f cdv A outer s H E C
 exact (aC (HJ 0 (Cr c rfl) (ao 1))
  (cR (HJ 0 (Nm c rfl) (ao 2))))
theorem JG (c : bB K) (Y : K.In base) (G : base.Ns mainGlobals mg) : ∃ fd : FuncData, FnI P w K mg base (T K) 1 1 (Gi.adr K) fd Gh wH ∧ BnI K (T K) fd Gh 2 [] (aH []) := by
 obtain ⟨fd, F⟩ := c.def_ 1 (d := Gi) rfl
 exact ⟨fd, ⟨afM 1 F SN (O9 c Y G), He.mkr_ok (c.fact 60 (f := .he (.mkr "Term")) rfl)⟩, (aa5 2 (FunD.bindsN F fun _ _ _ _ _ _ us hl => match us, hl with | [_, _, _], _ => (by kernel_rfl)) rfl)⟩
theorem Rb (c : bB K) (Y : K.In base) (G : base.Ns mainGlobals mg) : Does P w K mg base (T K) 0 Ln "variant_nodes" (defScope ym) (defBody ym) Lz := by
 intro f cdv A outer s H E C
 exact (aC (vH (uo (cmp_eq C) (cU 0 aO) (vq aA))
  (cR (s_ret (Ey (aj (ao 0) aN))))
  vf)
  (aC (agU C (Uh (vg (cU 0 aO)) (Uh (vg (cU 0 aO)) (Uh (vg (cU 0 aO)) afF))) (Ui C 1 (Ui C 2 (Ui C 3 afG))))
  (aC (vH (uo (cmp_eq C) (ao 1) (vq aA))
  (cR (vL C 1 aA))
  vf)
  (aC (afK C 4 [("filling", 5)] (PN (Ji (aaP c Y G rfl rfl))) (by decide) (fun _ _ _ _ _ => (yV (Cq.blk C) 5)) (fun _ _ _ _ _ => Wi) (fun _ _ _ _ _ => (vC (aj aA (aj aA (aj (ao 1) (aj (ao 5) (aj (ao 2) (aj (ao 3) aN)))))))) (blkOk_by rfl) (sw_true rfl rfl rfl rfl))
  (aC (vH (uo (cmp_eq C) (ao 1) (vq aA))
  (cR (vR (afL 4 (vC (aj aA (aj aA (aj aA (aj aA (aj (ao 2) (aj (ao 3) aN))))))))))
  vf)
  (aC (vH (uo (Wf) (ao 1) (vq (vC (aj aA (aj aA aN)))))
  (cR (vR (afU 4 (sV (Ym C [("filling", 5)] (PN (Ji (adu c Y G rfl rfl))) (by decide) (fun _ _ _ _ _ => (yV (Cq.blk C) 5)) (fun _ _ _ _ _ => Wi) (fun _ _ _ _ _ => (vC (aj aA (aj aA (aj (ao 1) (aj (ao 5) (aj (ao 2) (aj (ao 3) aN)))))))) (blkOk_by rfl))))))
  vf)
  (cR (s_ret (Hu 4)))))))))
theorem UG (c : bB K) (Y : K.In base) (G : base.Ns mainGlobals mg) : ∃ fd : FuncData, v7 P w K mg base (T K) 1 (GZ.adr K) fd GX G8 ∧ Bn K (T K) fd GX 1 [] (aH []) := by
 obtain ⟨fd, F⟩ := c.def_ 2 (d := GZ) rfl
 exact ⟨fd, ⟨fn_sim F Uo (Rb c Y G), F.kp⟩, (vo (FunD.bindsN F fun _ _ _ _ _ _ us hl => match us, hl with | [_], _ => (by kernel_rfl)))⟩
theorem XS (c : bB K) (Y : K.In base) (G : base.Ns mainGlobals mg) : Does P w K mg base (T K) 2 Vb "variants" (defScope Dr) (defBody Dr) JQ := by
 obtain ⟨fd_Term____init__, F_Term____init__, B_Term____init___0⟩ := JG (P := P) (w := w) c Y G
 obtain ⟨fd_variant_nodes, F_variant_nodes, B_variant_nodes_0⟩ := UG (P := P) (w := w) c Y G
 intro f cdv A outer s H E C
 exact (cR (s_ret (Ym C [("node", 1)] (PN (sV (sU C F_variant_nodes (by decide) B_variant_nodes_0 (Ux c Y G) (aj (zg (Nm c rfl) (uI 0)) aN)))) (by decide) (fun _ _ _ _ _ => (yV (Cq.blk C) 1)) (fun _ _ _ _ _ => Wi) (fun _ _ _ _ _ => (sV (aa6 (Cq.blk C) F_Term____init__ (by decide) B_Term____init___0 (WN c Y G) (aj (zg (Cr c rfl) (uI 0)) (aj (ao 1) aN))))) (blkOk_by rfl))))
theorem aaR (c : bB K) (Y : K.In base) (G : base.Ns mainGlobals mg) : ∃ fd : FuncData, v7 P w K mg base (T K) 3 (N5.adr K) fd NZ Bu ∧ Bn K (T K) fd NZ 1 [] (aH []) := by
 obtain ⟨fd, F⟩ := c.def_ 3 (d := N5) rfl
 exact ⟨fd, ⟨fn_sim F aaI (XS c Y G), F.kp⟩, (vo (FunD.bindsN F fun _ _ _ _ _ _ us hl => match us, hl with | [_], _ => (by kernel_rfl)))⟩
theorem WR (c : bB K) (Y : K.In base) (G : base.Ns mainGlobals mg) : Does P w K mg base (T K) 0 T5 "_law_draw" (defScope Cg) (defBody Cg) Ja := by
 intro f cdv A outer s H E C
 exact (aC (vH (uo cmp_gt (cU 0 aO) aO)
  (aC (vL C 2 (Pr (HD (cU 0 aO) (Jm c Y G)) (ao 1)))
  (aC (ac1 0 (acO (cU 0 aO) (ao 1)) aO)
  (cR (s_ret (Hu 2)))))
  vf)
  (aC (ac1 0 (sV (vQ (cU 0 aO) aO)) aO)
  (aC (vL C 3 (Pr (HD (YJ (sV (vQ (cU 0 aO) (YH aO (cU 0 aO)))) aO) (Jm c Y G)) aO))
  (aC (vL C 3 (Pr (HD (YJ (sV (vQ (ao 3) (YH aO (cU 0 aO)))) aO) (Jm c Y G)) aO))
  (cR (s_ret (vg (Pr (HD (acO (ao 3) aO) (Jm c Y G)) (ao 1)))))))))
theorem K6 (c : bB K) (Y : K.In base) (G : base.Ns mainGlobals mg) : ∃ fd : FuncData, v7 P w K mg base (T K) 1 (Ml.adr K) fd Mj vM ∧ Bn K (T K) fd Mj 2 [] (aH []) := by
 obtain ⟨fd, F⟩ := c.def_ 4 (d := Ml) rfl
 exact ⟨fd, ⟨fn_sim F Zi (WR c Y G), F.kp⟩, (vo (FunD.bindsN F fun _ _ _ _ _ _ us hl => match us, hl with | [_, _], _ => (by kernel_rfl)))⟩
theorem XX (c : bB K) (Y : K.In base) (G : base.Ns mainGlobals mg) : Does P w K mg base (T K) 0 Vc "word_end" (defScope Ds) (defBody Ds) G9 := by
 intro f cdv A outer s H E C
 exact (aC (vZ C 2 (vQ (ao 1) aO))
  (aC (Yl C (PN (vC (aj (Ji (acy c Y G rfl rfl)) (aj (Ji (Xw c Y G rfl rfl)) aN)))) (yV C 3)
  (cR (vH (uo (PB) (cU 0 (ao 1)) (uI 3))
  (cR (s_while C 60 (U0 (YM (uo cmp_lt (ao 2) (Aq (uI 0) (Bm c Y G))) (Wg (uo (PB) (cU 0 (ao 2)) (uI 3)))))
  (cR (s_aug C 2 ip_add aO))))
  vf)))
  (cR (s_ret (Hu 2)))))
theorem aaS (c : bB K) (Y : K.In base) (G : base.Ns mainGlobals mg) : ∃ fd : FuncData, v7 P w K mg base (T K) 1 (N7.adr K) fd N6 Bv ∧ Bn K (T K) fd N6 2 [] (aH []) := by
 obtain ⟨fd, F⟩ := c.def_ 5 (d := N7) rfl
 exact ⟨fd, ⟨fn_sim F aaJ (XX c Y G), F.kp⟩, (vo (FunD.bindsN F fun _ _ _ _ _ _ us hl => match us, hl with | [_, _], _ => (by kernel_rfl)))⟩
theorem Np (c : bB K) (Y : K.In base) (G : base.Ns mainGlobals mg) : Does P w K mg base (T K) 1 Jj "Tokens.__init__" (defScope wL) (defBody wL) ye := by
 obtain ⟨fd_word_end, F_word_end, B_word_end_0⟩ := aaS (P := P) (w := w) c Y G
 intro f cdv A outer s H E C
 exact (aC (HJ 0 (Cr c rfl) (ao 2))
  (aC (HJ 0 (Oh c rfl) (Wk (Ey aN)))
  (aC (HJ 0 (Ra c rfl) (Wk (Ey aN)))
  (aC (HJ 0 (Kd c rfl) aO)
  (aC (vL C 3 aO)
  (aC (s_while C 60 (uo cmp_lt (ao 3) (Aq (uI 1) (Bm c Y G)))
  (aC (vH (uo (cmp_eq C) (cU 1 (ao 3)) (vq aA))
  (aC (s_aug C 3 ip_add aO)
  (cR agT))
  vf)
  (aC (vZ C 4 (sU C F_word_end (by decide) B_word_end_0 (aaM c Y G) (aj (ao 1) (aj (ao 3) aN))))
  (aC (vR (Wj (zg (Oh c rfl) (uI 0)) (sV (afC 1 (aaX (ao 3)) (aaX (ao 4))))))
  (aC (vR (Wj (zg (Ra c rfl) (uI 0)) (ao 3)))
  (cR (vL C 3 (ao 4))))))))
  (cR (vR (Wj (zg (Ra c rfl) (uI 0)) (Aq (uI 1) (Bm c Y G)))))))))))
theorem Pa (c : bB K) (Y : K.In base) (G : base.Ns mainGlobals mg) : ∃ fd : FuncData, FnC P w K mg base (T K) 2 0 (Dc.adr K) fd CZ wR ∧ BnI K (T K) fd CZ 2 [] (aH []) := by
 obtain ⟨fd, F⟩ := c.def_ 6 (d := Dc) rfl
 exact ⟨fd, ⟨fn_sim F O7 (Np c Y G), He.mkr_ok (c.fact 61 (f := .he (.mkr "Tokens")) rfl)⟩, (aa5 2 (FunD.bindsN F fun _ _ _ _ _ _ us hl => match us, hl with | [_, _, _], _ => (by kernel_rfl)) rfl)⟩
theorem Nr (c : bB K) (Y : K.In base) (G : base.Ns mainGlobals mg) : Does P w K mg base (T K) 0 Jk "Tokens.upcoming" (defScope wM) (defBody wM) yf := by
 intro f cdv A outer s H E C
 exact (cR (s_ret (vg (s_if (uo cmp_lt (zg (Kd c rfl) (uI 0)) (Aq (vq (zg (Oh c rfl) (uI 0))) (Bm c Y G))) (U3 (zg (Oh c rfl) (uI 0)) (zg (Kd c rfl) (uI 0))) aA))))
theorem Pb (c : bB K) (Y : K.In base) (G : base.Ns mainGlobals mg) : ∃ fd : FuncData, v7 P w K mg base (T K) 1 (De.adr K) fd Dd wU ∧ Bn K (T K) fd Dd 1 [] (aH []) := by
 obtain ⟨fd, F⟩ := c.def_ 7 (d := De) rfl
 exact ⟨fd, ⟨fn_sim F O8 (Nr c Y G), F.kp⟩, (vo (FunD.bindsN F fun _ _ _ _ _ _ us hl => match us, hl with | [_], _ => (by kernel_rfl)))⟩
theorem yS (c : bB K) (Y : K.In base) (G : base.Ns mainGlobals mg) {X : Cx} {k : Nat} (hk : 1 ≤ k) (hP : X.prog = P) (hw : X.w = w) (hK : X.K = K) (hm : X.mg = mg) (hb : X.base = base) : Lh X (T K) k "upcoming" uC 0 [] (aH []) := by
 subst hP hw hK hm hb
 exact ⟨vh (.cons (by
  obtain ⟨fd, F, B⟩ := Pb (P := X.prog) (w := X.w) c Y G
  exact ⟨_, _, fd, _, He.cls_ok (c.fact 32 (f := .he (.cls "Tokens")) rfl), He.meth_ok (c.fact 41 (f := .he (.meth "Tokens" "upcoming")) rfl), F, B, (by show _ ∉ fld 0; decide +kernel), Nat.le_trans (by decide) hk⟩) .nil)⟩
theorem Rc (c : bB K) (Y : K.In base) (G : base.Ns mainGlobals mg) : Does P w K mg base (T K) 1 Lp "Tokens.skips" (defScope yo) (defBody yo) zM := by
 intro f cdv A outer s H E C
 exact (aC (vH (uo (Km C) (sV (xg C (yS (P := P) c Y G (by decide) rfl rfl rfl rfl rfl) (ao 0))) (uI 1))
  (cR (s_ret (vg Rx)))
  vf)
  (aC (Ut 0 (Kd c rfl) Uu aO)
  (cR (s_ret (vg Rx)))))
theorem UJ (c : bB K) (Y : K.In base) (G : base.Ns mainGlobals mg) : ∃ fd : FuncData, v7 P w K mg base (T K) 2 (G4.adr K) fd G3 yD ∧ Bn K (T K) fd G3 2 [] (aH []) := by
 obtain ⟨fd, F⟩ := c.def_ 8 (d := G4) rfl
 exact ⟨fd, ⟨fn_sim F Uq (Rc c Y G), F.kp⟩, (vo (FunD.bindsN F fun _ _ _ _ _ _ us hl => match us, hl with | [_, _], _ => (by kernel_rfl)))⟩
theorem K7 (c : bB K) (Y : K.In base) (G : base.Ns mainGlobals mg) : Does P w K mg base (T K) 1 Gv "Tokens.sees_number" (defScope vX) (defBody vX) wV := by
 intro f cdv A outer s H E C
 exact (cR (s_ret (vg (agH (YL (Km C) (sV (xg C (yS (P := P) c Y G (by decide) rfl rfl rfl rfl rfl) (ao 0))) (vq aA)) (agG (YL (PB) (U3 (sV (xg C (yS (P := P) c Y G (by decide) rfl rfl rfl rfl rfl) (ao 0))) aO) (vq (Ji (Xw c Y G rfl rfl)))))))))
theorem MP (c : bB K) (Y : K.In base) (G : base.Ns mainGlobals mg) : ∃ fd : FuncData, v7 P w K mg base (T K) 2 (Ax.adr K) fd Av vY ∧ Bn K (T K) fd Av 1 [] (aH []) := by
 obtain ⟨fd, F⟩ := c.def_ 9 (d := Ax) rfl
 exact ⟨fd, ⟨fn_sim F Mp (K7 c Y G), F.kp⟩, (vo (FunD.bindsN F fun _ _ _ _ _ _ us hl => match us, hl with | [_], _ => (by kernel_rfl)))⟩
theorem Tc (c : bB K) (Y : K.In base) (G : base.Ns mainGlobals mg) : Does P w K mg base (T K) 0 M7 "Tokens.fail" (defScope yW) (defBody yW) Nh := by
 intro f cdv A outer s H E C
 exact (cR afI)
theorem Vw (c : bB K) (Y : K.In base) (G : base.Ns mainGlobals mg) : ∃ fd : FuncData, v7 P w K mg base (T K) 1 (HS.adr K) fd HR Il ∧ Bn K (T K) fd HR 1 [] (aH []) := by
 obtain ⟨fd, F⟩ := c.def_ 10 (d := HS) rfl
 exact ⟨fd, ⟨fn_sim F Vd (Tc c Y G), F.kp⟩, (vo (FunD.bindsN F fun _ _ _ _ _ _ us hl => match us, hl with | [_], _ => (by kernel_rfl)))⟩
theorem WY (c : bB K) (Y : K.In base) (G : base.Ns mainGlobals mg) {X : Cx} {k : Nat} (hk : 1 ≤ k) (hP : X.prog = P) (hw : X.w = w) (hK : X.K = K) (hm : X.mg = mg) (hb : X.base = base) : Lh X (T K) k "fail" Dy 0 [] (aH []) := by
 subst hP hw hK hm hb
 exact ⟨vh (.cons (by
  obtain ⟨fd, F, B⟩ := Vw (P := X.prog) (w := X.w) c Y G
  exact ⟨_, _, fd, _, He.cls_ok (c.fact 32 (f := .he (.cls "Tokens")) rfl), He.meth_ok (c.fact 42 (f := .he (.meth "Tokens" "fail")) rfl), F, B, (by show _ ∉ fld 0; decide +kernel), Nat.le_trans (by decide) hk⟩) .nil)⟩
theorem Td (c : bB K) (Y : K.In base) (G : base.Ns mainGlobals mg) : Does P w K mg base (T K) 1 M8 "Tokens.take" (defScope yX) (defBody yX) Bh := by
 intro f cdv A outer s H E C
 exact (aC (vZ C 2 (xg C (yS (P := P) c Y G (by decide) rfl rfl rfl rfl rfl) (ao 0)))
  (aC (vH (uo (Wf) (ao 2) (uI 1))
  (cR (vR (xg C (WY (P := P) c Y G (by decide) rfl rfl rfl rfl rfl) (ao 0))))
  vf)
  (aC (Ut 0 (Kd c rfl) Uu aO)
  (cR (s_ret (Hu 2))))))
theorem Vx (c : bB K) (Y : K.In base) (G : base.Ns mainGlobals mg) : ZR P w K mg base (T K) 2 (HW.adr K) zf := by
 obtain ⟨fd, F⟩ := c.def_ 11 (d := HW) rfl
 exact afV (p0 := "self") (pv := "allowed") F Ve (Td c Y G) (fun _ _ _ _ _ _ _ => (by kernel_rfl)) (fun _ _ _ _ _ _ _ _ _ => (by kernel_rfl))
theorem Pg (c : bB K) (Y : K.In base) (G : base.Ns mainGlobals mg) : Does P w K mg base (T K) 1 Ks "Tokens.number" (defScope xH) (defBody xH) zm := by
 intro f cdv A outer s H E C
 exact (aC (vZ C 3 (xg C (yS (P := P) c Y G (by decide) rfl rfl rfl rfl rfl) (ao 0)))
  (aC (vH (U0 (abC (uo cmp_gt (Aq (uI 3) (Bm c Y G)) aO) (abC (U0 (YM (uo (cmp_eq C) (cU 3 aO) (vq aA)) (Wg (uo cmp_gt (Aq (uI 3) (Bm c Y G)) aO)))) (acQ (UW (adK cmp_le cmp_le (ao 1) (HD (ao 3) (Jm c Y G)) (ao 2)))))))
  (cR (vR (xg C (WY (P := P) c Y G (by decide) rfl rfl rfl rfl rfl) (ao 0))))
  vf)
  (aC (Ut 0 (Kd c rfl) Uu aO)
  (cR (s_ret (vg (HD (ao 3) (Jm c Y G))))))))
theorem Tf (c : bB K) (Y : K.In base) (G : base.Ns mainGlobals mg) : ∃ fd : FuncData, v7 P w K mg base (T K) 2 (Gk.adr K) fd Gj xM ∧ Bn K (T K) fd Gj 3 [] (aH []) := by
 obtain ⟨fd, F⟩ := c.def_ 12 (d := Gk) rfl
 exact ⟨fd, ⟨fn_sim F SQ (Pg c Y G), F.kp⟩, (vo (FunD.bindsN F fun _ _ _ _ _ _ us hl => match us, hl with | [_, _, _], _ => (by kernel_rfl)))⟩
theorem Oi (c : bB K) (Y : K.In base) (G : base.Ns mainGlobals mg) {X : Cx} {k : Nat} (hk : 2 ≤ k) (hP : X.prog = P) (hw : X.w = w) (hK : X.K = K) (hm : X.mg = mg) (hb : X.base = base) : Lh X (T K) k "skips" zp 1 [] (aH []) := by
 subst hP hw hK hm hb
 exact ⟨vh (.cons (by
  obtain ⟨fd, F, B⟩ := UJ (P := X.prog) (w := X.w) c Y G
  exact ⟨_, _, fd, _, He.cls_ok (c.fact 32 (f := .he (.cls "Tokens")) rfl), He.meth_ok (c.fact 43 (f := .he (.meth "Tokens" "skips")) rfl), F, B, (by show _ ∉ fld 0; decide +kernel), Nat.le_trans (by decide) hk⟩) .nil)⟩
theorem Ir (c : bB K) (Y : K.In base) (G : base.Ns mainGlobals mg) {X : Cx} {k : Nat} (hk : 2 ≤ k) (hP : X.prog = P) (hw : X.w = w) (hK : X.K = K) (hm : X.mg = mg) (hb : X.base = base) : Lh X (T K) k "sees_number" wg 0 [] (aH []) := by
 subst hP hw hK hm hb
 exact ⟨vh (.cons (by
  obtain ⟨fd, F, B⟩ := MP (P := X.prog) (w := X.w) c Y G
  exact ⟨_, _, fd, _, He.cls_ok (c.fact 32 (f := .he (.cls "Tokens")) rfl), He.meth_ok (c.fact 44 (f := .he (.meth "Tokens" "sees_number")) rfl), F, B, (by show _ ∉ fld 0; decide +kernel), Nat.le_trans (by decide) hk⟩) .nil)⟩
theorem Rg (c : bB K) (Y : K.In base) (G : base.Ns mainGlobals mg) {X : Cx} {k : Nat} (hk : 2 ≤ k) (hP : X.prog = P) (hw : X.w = w) (hK : X.K = K) (hm : X.mg = mg) (hb : X.base = base) : Lh X (T K) k "number" zN 2 [] (aH []) := by
 subst hP hw hK hm hb
 exact ⟨vh (.cons (by
  obtain ⟨fd, F, B⟩ := Tf (P := X.prog) (w := X.w) c Y G
  exact ⟨_, _, fd, _, He.cls_ok (c.fact 32 (f := .he (.cls "Tokens")) rfl), He.meth_ok (c.fact 45 (f := .he (.meth "Tokens" "number")) rfl), F, B, (by show _ ∉ fld 0; decide +kernel), Nat.le_trans (by decide) hk⟩) .nil)⟩
theorem vp (c : bB K) (Y : K.In base) (G : base.Ns mainGlobals mg) {X : Cx} {k : Nat} (hk : 2 ≤ k) (hP : X.prog = P) (hw : X.w = w) (hK : X.K = K) (hm : X.mg = mg) (hb : X.base = base) : Qy X (T K) k "take" oX := by
 subst hP hw hK hm hb
 exact ⟨vh (.cons ⟨_, _, He.cls_ok (c.fact 32 (f := .he (.cls "Tokens")) rfl), ahm (ac5 (c.fact 47 (f := .raw (fun K => bmX K (He.ga K "Tokens") "take")) rfl)) (He.meth_ok (c.fact 46 (f := .he (.meth "Tokens" "take")) rfl)), Vx (P := X.prog) (w := X.w) c Y G, (by show _ ∉ fld 0; decide +kernel), Nat.le_trans (by decide) hk⟩ .nil)⟩
theorem Vy (c : bB K) (Y : K.In base) (G : base.Ns mainGlobals mg) : Does P w K mg base (T K) 2 Qi "read_slice" (defScope Ay) (defBody Ay) Di := by
 intro f cdv A outer s H E C
 exact (aC (vL C 1 aO)
  (aC (vL C 2 (zg (Cr c rfl) (uI 0)))
  (aC (vH (CT (Jg (HQ C (Oi (P := P) c Y G (by decide) rfl rfl rfl rfl rfl) (ao 0) (aj aA aN))))
  (aC (vH (CT (Jg (xg C (Ir (P := P) c Y G (by decide) rfl rfl rfl rfl rfl) (ao 0))))
  (cR (vZ C 1 (HQ C (Rg (P := P) c Y G (by decide) rfl rfl rfl rfl rfl) (ao 0) (aj aO (aj (acN (zg (Cr c rfl) (uI 0)) aO) aN)))))
  vf)
  (aC (vR (v8 C (vp (P := P) c Y G (by decide) rfl rfl rfl rfl rfl) (ao 0) (aj aA aN)))
  (aC (vH (CT (Jg (xg C (Ir (P := P) c Y G (by decide) rfl rfl rfl rfl rfl) (ao 0))))
  (cR (vZ C 2 (HQ C (Rg (P := P) c Y G (by decide) rfl rfl rfl rfl rfl) (ao 0) (aj (sV (vQ (ao 1) aO)) (aj (zg (Cr c rfl) (uI 0)) aN)))))
  vf)
  (cR (vR (v8 C (vp (P := P) c Y G (by decide) rfl rfl rfl rfl rfl) (ao 0) (aj aA aN)))))))
  vf)
  (cR (s_ret (vg (vC (aj (ao 1) (aj (ao 2) aN)))))))))
theorem O2 (c : bB K) (Y : K.In base) (G : base.Ns mainGlobals mg) : ∃ fd : FuncData, v7 P w K mg base (T K) 3 (Kv.adr K) fd Ku xj ∧ Bn K (T K) fd Ku 1 [] (aH []) := by
 obtain ⟨fd, F⟩ := c.def_ 13 (d := Kv) rfl
 exact ⟨fd, ⟨fn_sim F XF (Vy c Y G), F.kp⟩, (vo (FunD.bindsN F fun _ _ _ _ _ _ us hl => match us, hl with | [_], _ => (by kernel_rfl)))⟩
theorem Th (c : bB K) (Y : K.In base) (G : base.Ns mainGlobals mg) : Does P w K mg base (T K) 3 M9 "read_filling" (defScope yZ) (defBody yZ) Bj := by
 obtain ⟨fd_read_slice, F_read_slice, B_read_slice_0⟩ := O2 (P := P) (w := w) c Y G
 intro f cdv A outer s H E C
 exact (aC (vZ C 4 (ZW C (vp (P := P) c Y G (by decide) rfl rfl rfl rfl rfl) (ao 0) (ao 3)))
  (aC (s_asg (sV (sU C F_read_slice (by decide) B_read_slice_0 (Ox c Y G) (aj (ao 0) aN))) (acX C (Nz (yV C 5) (Nz (yV C 6) aa0))))
  (aC (vR (v8 C (vp (P := P) c Y G (by decide) rfl rfl rfl rfl rfl) (ao 0) (aj aA aN)))
  (aC (vR (v8 C (vp (P := P) c Y G (by decide) rfl rfl rfl rfl rfl) (ao 0) (aj aA aN)))
  (cR (s_ret (vg (vC (aj aA (aj (ao 1) (aj (ao 2) (aj (ao 4) (aj (ao 5) (aj (ao 6) aN))))))))))))))
theorem Vz (c : bB K) (Y : K.In base) (G : base.Ns mainGlobals mg) : ∃ fd : FuncData, v7 P w K mg base (T K) 4 (HY.adr K) fd HX wW ∧ Bn K (T K) fd HX 4 [] (aH []) := by
 obtain ⟨fd, F⟩ := c.def_ 14 (d := HY) rfl
 exact ⟨fd, ⟨fn_sim F Vf (Th c Y G), F.kp⟩, (vo (FunD.bindsN F fun _ _ _ _ _ _ us hl => match us, hl with | [_, _, _, _], _ => (by kernel_rfl)))⟩
theorem W0 (c : bB K) (Y : K.In base) (G : base.Ns mainGlobals mg) : Does P w K mg base (T K) 4 T6 "read_leaf" (defScope Ci) (defBody Ci) Ff := by
 obtain ⟨fd_read_filling, F_read_filling, B_read_filling_0⟩ := Vz (P := P) (w := w) c Y G
 obtain ⟨fd_read_slice, F_read_slice, B_read_slice_0⟩ := O2 (P := P) (w := w) c Y G
 intro f cdv A outer s H E C
 exact (aC (vZ C 1 (aef C (vp (P := P) c Y G (by decide) rfl rfl rfl rfl rfl) (ao 0) (ZS aA (ZS aA (afW (Ji (aao c Y G rfl rfl)) aN)))))
  (aC (vH (uo (cmp_eq C) (ao 1) (vq aA))
  (aC (s_asg (sV (sU C F_read_slice (by decide) B_read_slice_0 (Ox c Y G) (aj (ao 0) aN))) (acX C (Nz (yV C 2) (Nz (yV C 3) aa0))))
  (cR (s_ret (vg (vC (aj aA (aj (ao 2) (aj (ao 3) aN))))))))
  vf)
  (aC (vR (v8 C (vp (P := P) c Y G (by decide) rfl rfl rfl rfl rfl) (ao 0) (aj aA aN)))
  (aC (vH (uo (Km C) (ao 1) (vq aA))
  (aC (vR (v8 C (vp (P := P) c Y G (by decide) rfl rfl rfl rfl rfl) (ao 0) (aj aA aN)))
  (aC (vR (v8 C (vp (P := P) c Y G (by decide) rfl rfl rfl rfl rfl) (ao 0) (aj aA aN)))
  (cR (s_ret (sU C F_read_filling (by decide) B_read_filling_0 (LQ c Y G) (aj (ao 0) (aj aA (aj (ao 1) (aj (vC (aj aA (aj aA aN))) aN)))))))))
  vf)
  (aC (vZ C 4 (ZW C (vp (P := P) c Y G (by decide) rfl rfl rfl rfl rfl) (ao 0) (Ji (aaQ c Y G rfl rfl))))
  (aC (vR (v8 C (vp (P := P) c Y G (by decide) rfl rfl rfl rfl rfl) (ao 0) (aj aA aN)))
  (aC (vL C 5 (s_if (uo (cmp_eq C) (ao 4) (vq aA)) (vC (aj aA aN)) (vC (aj aA (aj aA (aj aA aN))))))
  (cR (s_ret (sU C F_read_filling (by decide) B_read_filling_0 (LQ c Y G) (aj (ao 0) (aj aA (aj (ao 4) (aj (ao 5) aN))))))))))))))
theorem aap (c : bB K) (Y : K.In base) (G : base.Ns mainGlobals mg) : ∃ fd : FuncData, v7 P w K mg base (T K) 5 (Mr.adr K) fd Mq vP ∧ Bn K (T K) fd Mq 1 [] (aH []) := by
 obtain ⟨fd, F⟩ := c.def_ 15 (d := Mr) rfl
 exact ⟨fd, ⟨fn_sim F Zj (W0 c Y G), F.kp⟩, (vo (FunD.bindsN F fun _ _ _ _ _ _ us hl => match us, hl with | [_], _ => (by kernel_rfl)))⟩
theorem W3 (c : bB K) (Y : K.In base) (G : base.Ns mainGlobals mg) : Does P w K mg base (T K) 5 T7 "read_atom" (defScope Cj) (defBody Cj) Fg := by
 obtain ⟨fd_read_leaf, F_read_leaf, B_read_leaf_0⟩ := aap (P := P) (w := w) c Y G
 intro f cdv A outer s H E C
 exact (aC (vH (CT (Jg (HQ C (Oi (P := P) c Y G (by decide) rfl rfl rfl rfl rfl) (ao 0) (aj aA aN))))
  (aC (vL C 1 Od)
  (aC (vR (v8 C (vp (P := P) c Y G (by decide) rfl rfl rfl rfl rfl) (ao 0) (aj aA aN)))
  (cR (s_ret (Hu 1)))))
  vf)
  (aC (vH (CT (Jg (HQ C (Oi (P := P) c Y G (by decide) rfl rfl rfl rfl rfl) (ao 0) (aj aA aN))))
  (aC (vR (v8 C (vp (P := P) c Y G (by decide) rfl rfl rfl rfl rfl) (ao 0) (aj aA aN)))
  (aC (vL C 1 Od)
  (aC (vR (v8 C (vp (P := P) c Y G (by decide) rfl rfl rfl rfl rfl) (ao 0) (aj aA aN)))
  (cR (s_ret (vg (vC (aj aA (aj (ao 1) aN)))))))))
  vf)
  (aC (vH (uo (Wf) (sV (xg C (yS (P := P) c Y G (by decide) rfl rfl rfl rfl rfl) (ao 0))) (vq (vC (aj aA (aj aA aN)))))
  (cR (s_ret (sU C F_read_leaf (by decide) B_read_leaf_0 (aal c Y G) (aj (ao 0) aN))))
  vf)
  (aC (vZ C 2 (v8 C (vp (P := P) c Y G (by decide) rfl rfl rfl rfl rfl) (ao 0) (aj aA (aj aA aN))))
  (aC (vR (v8 C (vp (P := P) c Y G (by decide) rfl rfl rfl rfl rfl) (ao 0) (aj aA aN)))
  (aC (vL C 3 Od)
  (aC (vR (v8 C (vp (P := P) c Y G (by decide) rfl rfl rfl rfl rfl) (ao 0) (aj aA aN)))
  (aC (vL C 4 Od)
  (aC (vR (v8 C (vp (P := P) c Y G (by decide) rfl rfl rfl rfl rfl) (ao 0) (aj aA aN)))
  (cR (s_ret (vg (vC (aj (ao 2) (aj (ao 3) (aj (ao 4) aN))))))))))))))))
theorem aaq (c : bB K) (Y : K.In base) (G : base.Ns mainGlobals mg) : ∃ fd : FuncData, v7 P w K mg base (T K) 6 (Mu.adr K) fd Ms yR ∧ Bn K (T K) fd Ms 1 [] (aH []) := by
 obtain ⟨fd, F⟩ := c.def_ 16 (d := Mu) rfl
 exact ⟨fd, ⟨fn_sim F Zk (W3 c Y G), F.kp⟩, (vo (FunD.bindsN F fun _ _ _ _ _ _ us hl => match us, hl with | [_], _ => (by kernel_rfl)))⟩
theorem Tj (c : bB K) (Y : K.In base) (G : base.Ns mainGlobals mg) : Does P w K mg base (T K) 6 Nb "read_product" (defScope za) (defBody za) Bl := by
 obtain ⟨fd_read_atom, F_read_atom, B_read_atom_0⟩ := aaq (P := P) (w := w) c Y G
 intro f cdv A outer s H E C
 exact (aC (vH (UW (CT (Jg (xg C (Ir (P := P) c Y G (by decide) rfl rfl rfl rfl rfl) (ao 0)))))
  (aC (vZ C 2 (sU C F_read_atom (by decide) B_read_atom_0 (Q8 c Y G) (aj (ao 0) aN)))
  (cR (s_ret (vg (s_if (CT (uI 1)) (vC (aj aA (aj (Pu aO) (aj (ao 2) aN)))) (ao 2))))))
  vf)
  (aC (vZ C 3 (HQ C (Rg (P := P) c Y G (by decide) rfl rfl rfl rfl rfl) (ao 0) (aj aO (aj (Ji (agl c Y G rfl rfl)) aN))))
  (aC (vR (v8 C (vp (P := P) c Y G (by decide) rfl rfl rfl rfl rfl) (ao 0) (aj aA aN)))
  (aC (vZ C 2 (sU C F_read_atom (by decide) B_read_atom_0 (Q8 c Y G) (aj (ao 0) aN)))
  (cR (s_ret (vg (vC (aj aA (aj (s_if (CT (uI 1)) (Pu (ao 3)) (ao 3)) (aj (ao 2) aN)))))))))))
theorem VB (c : bB K) (Y : K.In base) (G : base.Ns mainGlobals mg) : ∃ fd : FuncData, v7 P w K mg base (T K) 7 (Ie.adr K) fd Ib wX ∧ Bn K (T K) fd Ib 2 [] (aH []) := by
 obtain ⟨fd, F⟩ := c.def_ 17 (d := Ie) rfl
 exact ⟨fd, ⟨fn_sim F Vg (Tj c Y G), F.kp⟩, (vo (FunD.bindsN F fun _ _ _ _ _ _ us hl => match us, hl with | [_, _], _ => (by kernel_rfl)))⟩
theorem W4 (c : bB K) (Y : K.In base) (G : base.Ns mainGlobals mg) : Does P w K mg base (T K) 7 T8 "read_term" (defScope Ck) (defBody Ck) Fj := by
 obtain ⟨fd_read_product, F_read_product, B_read_product_0⟩ := VB (P := P) (w := w) c Y G
 intro f cdv A outer s H E C
 exact (aC (vZ C 1 (sU C F_read_product (by decide) B_read_product_0 (LR c Y G) (aj (ao 0) (aj (sV (HQ C (Oi (P := P) c Y G (by decide) rfl rfl rfl rfl rfl) (ao 0) (aj aA aN))) aN))))
  (aC (aec C 60 2 PB (sV (xg C (yS (P := P) c Y G (by decide) rfl rfl rfl rfl rfl) (ao 0))) (vC (aj aA (aj aA aN)))
  (aC (vR (v8 C (vp (P := P) c Y G (by decide) rfl rfl rfl rfl rfl) (ao 0) (aj (ao 2) aN)))
  (cR (vL C 1 (vC (aj (s_if (uo (cmp_eq C) (ao 2) (vq aA)) aA aA) (aj (ao 1) (aj (sV (sU C F_read_product (by decide) B_read_product_0 (LR c Y G) (aj (ao 0) (aj Rx aN)))) aN))))))))
  (cR (s_ret (Hu 1)))))
theorem aar (c : bB K) (Y : K.In base) (G : base.Ns mainGlobals mg) : ∃ fd : FuncData, v7 P w K mg base (T K) 8 (Mw.adr K) fd Mv zX ∧ Bn K (T K) fd Mv 1 [] (aH []) := by
 obtain ⟨fd, F⟩ := c.def_ 18 (d := Mw) rfl
 exact ⟨fd, ⟨fn_sim F Zm (W4 c Y G), F.kp⟩, (vo (FunD.bindsN F fun _ _ _ _ _ _ us hl => match us, hl with | [_], _ => (by kernel_rfl)))⟩
theorem acz (c : bB K) (Y : K.In base) (G : base.Ns mainGlobals mg) : Does P w K mg base (T K) 8 aa7 "parse" (defScope JX) (defBody JX) Nk := by
 obtain ⟨fd_Tokens____init__, F_Tokens____init__, B_Tokens____init___0⟩ := Pa (P := P) (w := w) c Y G
 obtain ⟨fd_read_term, F_read_term, B_read_term_0⟩ := aar (P := P) (w := w) c Y G
 intro f cdv A outer s H E C
 exact (aC (vL C 2 (aeb C F_Tokens____init__ (by decide) B_Tokens____init___0 (adp c Y G) (aj (ao 0) (aj (ao 1) aN))))
  (aC (vZ C 3 (sU C F_read_term (by decide) B_read_term_0 (aam c Y G) (aj (ao 2) aN)))
  (aC (vH (uo (Km C) (sV (xg C (yS (P := P) c Y G (by decide) rfl rfl rfl rfl rfl) (ao 2))) (vq aA))
  (cR (vR (xg C (WY (P := P) c Y G (by decide) rfl rfl rfl rfl rfl) (ao 2))))
  vf)
  (cR (s_ret (Hu 3))))))
theorem aeR (c : bB K) (Y : K.In base) (G : base.Ns mainGlobals mg) : ∃ fd : FuncData, v7 P w K mg base (T K) 9 (Wt.adr K) fd Ws Kc ∧ Bn K (T K) fd Ws 2 [] (aH []) := by
 obtain ⟨fd, F⟩ := c.def_ 19 (d := Wt) rfl
 exact ⟨fd, ⟨fn_sim F adX (acz c Y G), F.kp⟩, (vo (FunD.bindsN F fun _ _ _ _ _ _ us hl => match us, hl with | [_, _], _ => (by kernel_rfl)))⟩
theorem VD (c : bB K) (Y : K.In base) (G : base.Ns mainGlobals mg) : Does P w K mg base (T K) 9 Ql "Term.read" (defScope Az) (defBody Az) Dj := by
 obtain ⟨fd_Term____init__, F_Term____init__, B_Term____init___0⟩ := JG (P := P) (w := w) c Y G
 obtain ⟨fd_parse, F_parse, B_parse_0⟩ := aeR (P := P) (w := w) c Y G
 intro f cdv A outer s H E C
 exact (cR (s_ret (aa6 C F_Term____init__ (by decide) B_Term____init___0 (WN c Y G) (aj (ao 2) (aj (sV (sU C F_parse (by decide) B_parse_0 (aeQ c Y G) (aj (ao 1) (aj (ao 2) aN)))) aN)))))
theorem X3 (c : bB K) (Y : K.In base) (G : base.Ns mainGlobals mg) : ∃ fd : FuncData, v7 P w K mg base (T K) 10 (Ky.adr K) fd Kw xm ∧ Bn K (T K) fd Kw 3 [] (aH []) := by
 obtain ⟨fd, F⟩ := c.def_ 20 (d := Ky) rfl
 exact ⟨fd, ⟨fn_sim F XH (VD c Y G), F.kp⟩, (vo (FunD.bindsN F fun _ _ _ _ _ _ us hl => match us, hl with | [_, _, _], _ => (by kernel_rfl)))⟩
theorem Ph (c : bB K) (Y : K.In base) (G : base.Ns mainGlobals mg) : Does P w K mg base (T K) 0 Kz "_law_leaf_text" (defScope xJ) (defBody xJ) Bw := by
 intro f cdv A outer s H E C
 exact (aC (vZ C 1 (vQ (sV (vQ (sV (vQ (sV (vQ aA (abd (cU 0 (Pu aO)) (adt c Y G)))) aA)) (abd (cU 0 (Pu aO)) (adt c Y G)))) aA))
  (aC (vH (uo (cmp_eq C) (cU 0 aO) (vq aA))
  (cR (s_ret (vQ aA (ao 1))))
  vf)
  (aC (vH (uo (cmp_eq C) (cU 0 aO) (vq aA))
  (cR (s_ret (vQ (sV (vQ (sV (vQ (sV (vQ (sV (vQ aA (cU 0 aO))) aA)) (cU 0 aO))) (ao 1))) aA)))
  vf)
  (cR (s_ret (vQ (sV (vQ (sV (vQ (sV (vQ (cU 0 aO) aA)) (cU 0 aO))) (ao 1))) aA))))))
theorem Tn (c : bB K) (Y : K.In base) (G : base.Ns mainGlobals mg) : ∃ fd : FuncData, v7 P w K mg base (T K) 1 (Gn.adr K) fd Gm wI ∧ Bn K (T K) fd Gm 1 [] (aH []) := by
 obtain ⟨fd, F⟩ := c.def_ 21 (d := Gn) rfl
 exact ⟨fd, ⟨fn_sim F S8 (Ph c Y G), F.kp⟩, (vo (FunD.bindsN F fun _ _ _ _ _ _ us hl => match us, hl with | [_], _ => (by kernel_rfl)))⟩
theorem Rh (c : bB K) (Y : K.In base) (G : base.Ns mainGlobals mg) : Does P w K mg base (T K) 0 Lq "node_distance" (defScope yq) (defBody yq) LC := by
 intro f cdv A outer s H E C
 exact (aC (vH (uo (cmp_eq C) (cU 0 aO) (vq aA))
  (cR (s_ret (vg aO)))
  vf)
  (cR (s_ret (vg (Aq (Jg (Ym C [("at", 2)] (PN (vC (aj aO (aj aO (aj aO aN))))) (by decide) (fun _ _ _ _ _ => (yV (Cq.blk C) 2)) (fun _ _ _ _ _ => (aa1 (uo (Km (Cq.blk C)) (cU 0 (ao 2)) (vq (cU 1 (ao 2)))))) (fun _ _ _ _ _ => (ao 2)) (blkOk_by rfl))) (Bm c Y G))))))
theorem UL (c : bB K) (Y : K.In base) (G : base.Ns mainGlobals mg) : ∃ fd : FuncData, v7 P w K mg base (T K) 1 (G6.adr K) fd G5 LK ∧ Bn K (T K) fd G5 2 [] (aH []) := by
 obtain ⟨fd, F⟩ := c.def_ 22 (d := G6) rfl
 exact ⟨fd, ⟨fn_sim F Ur (Rh c Y G), F.kp⟩, (vo (FunD.bindsN F fun _ _ _ _ _ _ us hl => match us, hl with | [_, _], _ => (by kernel_rfl)))⟩
theorem X4 (c : bB K) (Y : K.In base) (G : base.Ns mainGlobals mg) : Does P w K mg base (T K) 1 Vh "distance" (defScope Dt) (defBody Dt) Vs := by
 obtain ⟨fd_node_distance, F_node_distance, B_node_distance_0⟩ := UL (P := P) (w := w) c Y G
 intro f cdv A outer s H E C
 exact (cR (s_ret (sU C F_node_distance (by decide) B_node_distance_0 (Uy c Y G) (aj (zg (Nm c rfl) (uI 0)) (aj (zg (Nm c rfl) (uI 1)) aN)))))
theorem aaT (c : bB K) (Y : K.In base) (G : base.Ns mainGlobals mg) : ∃ fd : FuncData, v7 P w K mg base (T K) 2 (Oa.adr K) fd N8 El ∧ Bn K (T K) fd N8 2 [] (aH []) := by
 obtain ⟨fd, F⟩ := c.def_ 23 (d := Oa) rfl
 exact ⟨fd, ⟨fn_sim F aaK (X4 c Y G), F.kp⟩, (vo (FunD.bindsN F fun _ _ _ _ _ _ us hl => match us, hl with | [_, _], _ => (by kernel_rfl)))⟩
theorem aas (c : bB K) (Y : K.In base) (G : base.Ns mainGlobals mg) : Does P w K mg base (T K) 1 Xr "_law_of" (defScope Gx) (defBody Gx) Q5 := by
 obtain ⟨fd__law_draw, F__law_draw, B__law_draw_0⟩ := K6 (P := P) (w := w) c Y G
 intro f cdv A outer s H E C
 exact (cR (s_ret (vg (cU 1 (sV (sU C F__law_draw (by decide) B__law_draw_0 (Dm c Y G) (aj (ao 0) (aj (Aq (uI 1) (Bm c Y G)) aN))))))))
theorem acA (c : bB K) (Y : K.In base) (G : base.Ns mainGlobals mg) : ∃ fd : FuncData, v7 P w K mg base (T K) 2 (Qn.adr K) fd Qm v9 ∧ Bn K (T K) fd Qm 2 [] (aH []) := by
 obtain ⟨fd, F⟩ := c.def_ 24 (d := Qn) rfl
 exact ⟨fd, ⟨fn_sim F abM (aas c Y G), F.kp⟩, (vo (FunD.bindsN F fun _ _ _ _ _ _ us hl => match us, hl with | [_, _], _ => (by kernel_rfl)))⟩
theorem W6 (c : bB K) (Y : K.In base) (G : base.Ns mainGlobals mg) : Does P w K mg base (T K) 2 T9 "_law_leaf" (defScope Cm) (defBody Cm) Fo := by
 obtain ⟨fd__law_draw, F__law_draw, B__law_draw_0⟩ := K6 (P := P) (w := w) c Y G
 obtain ⟨fd__law_of, F__law_of, B__law_of_0⟩ := acA (P := P) (w := w) c Y G
 intro f cdv A outer s H E C
 exact (aC (vZ C 2 (sU C F__law_of (by decide) B__law_of_0 (Eu c Y G) (aj (ao 0) (aj (sV (Ey (aj aO (aj aO (aj (sV (sU C F__law_draw (by decide) B__law_draw_0 (Dm c Y G) (aj (ao 0) (aj (ao 1) aN)))) aN))))) aN))))
  (aC (vZ C 3 (sU C F__law_of (by decide) B__law_of_0 (Eu c Y G) (aj (ao 0) (aj (sV (Ey (aj (ao 1) (aj (sV (vQ (sV (vQ (ao 2) aO)) (sV (sU C F__law_draw (by decide) B__law_draw_0 (Dm c Y G) (aj (ao 0) (aj (acN (ao 1) (ao 2)) aN)))))) aN)))) aN))))
  (aC (vZ C 4 (sU C F__law_draw (by decide) B__law_draw_0 (Dm c Y G) (aj (ao 0) (aj aO aN))))
  (aC (vH (uo (cmp_eq C) (ao 4) (vq aO))
  (cR (s_ret (vg (vC (aj aA (aj (ao 2) (aj (ao 3) aN)))))))
  vf)
  (aC (vH (uo cmp_lt (ao 4) aO)
  (aC (vZ C 5 (sU C F__law_of (by decide) B__law_of_0 (Eu c Y G) (aj (ao 0) (aj (sV (Ey (aj aA (aj aA (aj aA (aj aA (aj aA aN))))))) aN))))
  (cR (s_ret (vg (vC (aj aA (aj (ao 5) (aj (sV (sU C F__law_of (by decide) B__law_of_0 (Eu c Y G) (aj (ao 0) (aj (sV (Ey (aj aA (aj aA aN)))) aN)))) (aj (ao 2) (aj (ao 3) aN))))))))))
  vf)
  (aC (vZ C 5 (sU C F__law_of (by decide) B__law_of_0 (Eu c Y G) (aj (ao 0) (aj (sV (Ey (aj aA (aj aA (aj aA (aj aA (aj aA (aj aA (aj aA (aj aA aN)))))))))) aN))))
  (cR (s_ret (vg (vC (aj aA (aj (ao 5) (aj (sV (s_if (uo (cmp_eq C) (ao 5) (vq aA)) (vg aA) (sU C F__law_of (by decide) B__law_of_0 (Eu c Y G) (aj (ao 0) (aj (sV (Ey (aj aA (aj aA (aj aA aN))))) aN))))) (aj (ao 2) (aj (ao 3) aN)))))))))))))))
theorem aat (c : bB K) (Y : K.In base) (G : base.Ns mainGlobals mg) : ∃ fd : FuncData, v7 P w K mg base (T K) 3 (Mz.adr K) fd Mx zY ∧ Bn K (T K) fd Mx 2 [] (aH []) := by
 obtain ⟨fd, F⟩ := c.def_ 25 (d := Mz) rfl
 exact ⟨fd, ⟨fn_sim F Zo (W6 c Y G), F.kp⟩, (vo (FunD.bindsN F fun _ _ _ _ _ _ us hl => match us, hl with | [_, _], _ => (by kernel_rfl)))⟩
theorem VF (c : bB K) (Y : K.In base) (G : base.Ns mainGlobals mg) : afs P w K mg base (T K) 0 Qo "_law_parts" (defScope Ba) (defBody Ba) Dk := by
 intro f cdv A outer s H E C
 exact (ael (ahv C 1 (aco (aac (aac (ahu (ao 0)))) aA))
  (aC (vL C 2 (s_if (uo (cmp_eq C) (cU 1 aO) (vq aA)) (cU 1 aO) (cU 1 aO)))
  (cR (s_ret (vg (vC (aj (YL (cmp_eq C) (cU 1 aO) (vq aA)) (aj (ao 2) (aj (cU 1 aO) aN)))))))))
theorem X5 (c : bB K) (Y : K.In base) (G : base.Ns mainGlobals mg) : ∃ fd : FuncData, v7 P w K mg base (T K) 1 (KD.adr K) fd KC yg ∧ Bn K (T K) fd KC 1 [] (aH []) := by
 obtain ⟨fd, F⟩ := c.def_ 26 (d := KD) rfl
 exact ⟨fd, ⟨afY F XJ (by decide +kernel) (by decide) (VF c Y G), F.kp⟩, (vo (FunD.bindsN F fun _ _ _ _ _ _ us hl => match us, hl with | [_], _ => (by kernel_rfl)))⟩
theorem VG (c : bB K) (Y : K.In base) (G : base.Ns mainGlobals mg) : Does P w K mg base (T K) 0 Qp "write_leaf" (defScope Bb) (defBody Bb) Q6 := by
 intro f cdv A outer s H E C
 exact (aC (vH (uo (cmp_eq C) (cU 0 aO) (vq aA))
  (cR (s_ret (vg (yP (sO aA (sO (wN (cU 0 aO)) (sO aA (sO (wN (cU 0 aO)) (sO aA Fe)))))))))
  vf)
  (aC (vL C 1 (yP (sO (wN (cU 0 aO)) (sO aA (sO (wN (cU 0 aO)) (sO aA (sO (wN (cU 0 aO)) (sO aA Fe))))))))
  (aC (vH (uo (cmp_eq C) (cU 0 aO) (vq aA))
  (cR (s_ret (vg (yP (sO aA (sO (wN (cU 0 aO)) (sO aA (sO (wN (ao 1)) (sO aA Fe)))))))))
  vf)
  (cR (s_ret (vg (yP (sO (wN (cU 0 aO)) (sO aA (sO (wN (ao 1)) (sO aA Fe)))))))))))
theorem X6 (c : bB K) (Y : K.In base) (G : base.Ns mainGlobals mg) : ∃ fd : FuncData, v7 P w K mg base (T K) 1 (KJ.adr K) fd KH Q7 ∧ Bn K (T K) fd KH 1 [] (aH []) := by
 obtain ⟨fd, F⟩ := c.def_ 27 (d := KJ) rfl
 exact ⟨fd, ⟨fn_sim F XM (VG c Y G), F.kp⟩, (vo (FunD.bindsN F fun _ _ _ _ _ _ us hl => match us, hl with | [_], _ => (by kernel_rfl)))⟩
theorem W7 (c : bB K) (Y : K.In base) (G : base.Ns mainGlobals mg) {j : Nat} {R : Fn} {fdR : FuncData} (F_write : v7 P w K mg base (T K) (2 + 2 * j) (d_write.adr K) fdR Bc R) (B_write_0 : Bn K (T K) fdR Bc 1 [] (aH [])) : Does P w K mg base (T K) (2 + 2 * j) Ua "bracketed" (defScope Cp) (defBody Cp) (Jb R) := by
 intro f cdv A outer s H E C
 exact (aC (vZ C 2 (sU C F_write (by omega) B_write_0 (Ip c Y G) (aj (ao 0) aN)))
  (cR (s_ret (vg (s_if (uo (PB) (cU 0 aO) (uI 1)) (yP (sO aA (sO (wN (ao 2)) (sO aA Fe)))) (ao 2))))))
theorem aau (c : bB K) (Y : K.In base) (G : base.Ns mainGlobals mg) {j : Nat} {R : Fn} {fdR : FuncData} (F_write : v7 P w K mg base (T K) (2 + 2 * j) (d_write.adr K) fdR Bc R) (B_write_0 : Bn K (T K) fdR Bc 1 [] (aH [])) : ∃ fd : FuncData, v7 P w K mg base (T K) (2 + 2 * j + 1) (MJ.adr K) fd MF (MN R) ∧ Bn K (T K) fd MF 2 [] (aH []) := by
 obtain ⟨fd, F⟩ := c.def_ 28 (d := MJ) rfl
 exact ⟨fd, ⟨fn_sim F Zq (W7 c Y G F_write B_write_0), F.kp⟩, (vo (FunD.bindsN F fun _ _ _ _ _ _ us hl => match us, hl with | [_, _], _ => (by kernel_rfl)))⟩
theorem acB (c : bB K) (Y : K.In base) (G : base.Ns mainGlobals mg) {j : Nat} {R : Fn} {fdR : FuncData} (F_write : v7 P w K mg base (T K) (2 + 2 * j) (d_write.adr K) fdR Bc R) (B_write_0 : Bn K (T K) fdR Bc 1 [] (aH [])) : Does P w K mg base (T K) (2 + 2 * j + 1) aa8 "write" (defScope JZ) (defBody JZ) (abp R) := by
 obtain ⟨fd_bracketed, F_bracketed, B_bracketed_0⟩ := aau (P := P) (w := w) c Y G F_write B_write_0
 obtain ⟨fd_write_leaf, F_write_leaf, B_write_leaf_0⟩ := X6 (P := P) (w := w) c Y G
 intro f cdv A outer s H E C
 exact (aC (afS (cU 0 aO) (R8 (ada (Ls J8 (Ls J8 ZK))) (cR (s_ret (sU C F_write_leaf (by omega) B_write_leaf_0 (XR c Y G) (aj (ao 0) aN))))
  (R8 J8 (cR (s_ret (vg (yP (sO aA (sO (wN (sV (sU C F_write (by omega) B_write_0 (Ip c Y G) (aj (cU 0 aO) aN)))) (sO aA Fe)))))))
  (R8 (ada (Ls J8 (Ls J8 ZK))) (cR (s_ret (vg (yP (sO (wN (cU 0 aO)) (sO aA (sO (wN (sV (sU C F_write (by omega) B_write_0 (Ip c Y G) (aj (cU 0 aO) aN)))) (sO aA (sO (wN (sV (sU C F_write (by omega) B_write_0 (Ip c Y G) (aj (cU 0 aO) aN)))) (sO aA Fe))))))))))
  (R8 J8 (aC (vZ C 1 (sU C F_bracketed (by omega) B_bracketed_0 (Q9 c Y G) (aj (cU 0 aO) (aj (vC (aj aA (aj aA (aj aA aN)))) aN))))
  (cR (s_ret (vg (s_if (uo (cmp_eq C) (cU 0 aO) (vq (Pu aO))) (yP (sO aA (sO (wN (ao 1)) Fe))) (yP (sO (wN (cU 0 aO)) (sO aA (sO (wN (ao 1)) Fe)))))))))
  ahk)))))
  (aC (vL C 2 (s_if (uo (cmp_eq C) (cU 0 aO) (vq aA)) aA aA))
  (aC (vL C 3 (vC (aj aA (aj aA aN))))
  (aC (vH (U0 (YM (uo (cmp_eq C) (U3 (cU 0 aO) aO) (vq aA)) (Wg (uo cmp_lt (U3 (cU 0 aO) aO) aO))))
  (cR (vL C 3 (vC (aj aA aN))))
  vf)
  (cR (s_ret (vg (yP (sO (wN (sV (sU C F_write (by omega) B_write_0 (Ip c Y G) (aj (cU 0 aO) aN)))) (sO aA (sO (wN (ao 2)) (sO aA (sO (wN (sV (sU C F_bracketed (by omega) B_bracketed_0 (Q9 c Y G) (aj (cU 0 aO) (aj (ao 3) aN))))) Fe)))))))))))))
theorem aeS (c : bB K) (Y : K.In base) (G : base.Ns mainGlobals mg) : ∃ fd : FuncData, v7 P w K mg base (T K) 4 (d_write.adr K) fd Bc WL ∧ Bn K (T K) fd Bc 1 [] (aH []) := by
 obtain ⟨fd, F⟩ := c.def_ 29 (d := d_write) rfl
 have B : Bn K (T K) fd Bc 1 [] (aH []) := (vo (FunD.bindsN F fun _ _ _ _ _ _ us hl => match us, hl with | [_], _ => (by kernel_rfl)))
 have key : ∀ j, v7 P w K mg base (T K) (2 + 2 * j) (d_write.adr K) fd Bc (Uw j) := by
  intro j
  induction j with
  | zero => exact ⟨fn_sim (k := 1) F Zr (m := fun _ _ => .err) (fun f cdv A outer s H E C B w σ H2 fr h D R p => p.elim), F.kp⟩
  | succ j ih => exact ⟨fn_sim F Zr (acB c Y G ih B), F.kp⟩
 exact ⟨fd, key 1, B⟩
theorem VH (c : bB K) (Y : K.In base) (G : base.Ns mainGlobals mg) : Does P w K mg base (T K) 4 Qq "Term.text" (defScope Be) (defBody Be) Hf := by
 obtain ⟨fd_write, F_write, B_write_0⟩ := aeS (P := P) (w := w) c Y G
 intro f cdv A outer s H E C
 exact (cR (s_ret (sU C F_write (by decide) B_write_0 (Ip c Y G) (aj (zg (Nm c rfl) (uI 0)) aN))))
theorem X7 (c : bB K) (Y : K.In base) (G : base.Ns mainGlobals mg) : ∃ fd : FuncData, v7 P w K mg base (T K) 5 (KQ.adr K) fd KN yh ∧ Binds K fd KN [] := by
 obtain ⟨fd, F⟩ := c.def_ 30 (d := KQ) rfl
 exact ⟨fd, ⟨fn_sim F XN (VH c Y G), F.kp⟩, (FunD.bindsN F fun _ _ _ _ _ _ us hl => match us, hl with | [_], _ => (by kernel_rfl))⟩
theorem W8 (c : bB K) (Y : K.In base) (G : base.Ns mainGlobals mg) {X : Cx} {k : Nat} (hk : 6 ≤ k) (hP : X.prog = P) (hw : X.w = w) (hK : X.K = K) (hm : X.mg = mg) (hb : X.base = base) : afc X (T K) k "text" zJ := by
 subst hP hw hK hm hb
 exact ⟨vh (.cons (by
  obtain ⟨fd, F, B⟩ := X7 (P := X.prog) (w := X.w) c Y G
  exact ⟨_, _, _, fd, _, He.cls_ok (c.fact 34 (f := .he (.cls "Term")) rfl), afO (c.fact 40 (f := .prop "Term" "text") rfl), F, B, rfl, Nat.le_trans (by decide) hk⟩) .nil)⟩
theorem X8 (c : bB K) (Y : K.In base) (G : base.Ns mainGlobals mg) {X : Cx} {k : Nat} (hk : 10 ≤ k) (hP : X.prog = P) (hw : X.w = w) (hK : X.K = K) (hm : X.mg = mg) (hb : X.base = base) : CmF X (T K) k 1 "read" 2 xm := by
 subst hP hw hK hm hb
 obtain ⟨fd, F, B⟩ := X3 (P := X.prog) (w := X.w) c Y G
 obtain ⟨cr, p, cm⟩ := ahh (ac5 (c.fact 59 (f := .raw (fun K => cmX K (He.ga K "Term") "read")) rfl))
 exact ⟨_, p, _, fd, _, cr, cm, F, B, Nat.le_trans (by decide) hk⟩
theorem aeT (c : bB K) (Y : K.In base) (G : base.Ns mainGlobals mg) : Does P w K mg base (T K) 10 afg "law" (defScope R5) (defBody R5) Vv := by
 obtain ⟨fd__law_draw, F__law_draw, B__law_draw_0⟩ := K6 (P := P) (w := w) c Y G
 obtain ⟨fd__law_leaf, F__law_leaf, B__law_leaf_0⟩ := aat (P := P) (w := w) c Y G
 obtain ⟨fd__law_leaf_text, F__law_leaf_text, B__law_leaf_text_0⟩ := Tn (P := P) (w := w) c Y G
 obtain ⟨fd__law_parts, F__law_parts, B__law_parts_0⟩ := X5 (P := P) (w := w) c Y G
 obtain ⟨fd__law_source, F__law_source, B__law_source_0⟩ := WQ (P := P) (w := w) c Y G
 obtain ⟨fd_distance, F_distance, B_distance_0⟩ := aaT (P := P) (w := w) c Y G
 obtain ⟨fd_variants, F_variants, B_variants_0⟩ := aaR (P := P) (w := w) c Y G
 intro f cdv A outer s H E C
 exact (aC (Yl C (RL (afD C aO (afE C aO (Aq (uI 0) (Bm c Y G)) (ahM c Y G)) (ahN c Y G)) (Og c Y G)) (yV C 1)
  (aC (vL C 2 (Wk (sU C F__law_source (by decide) B__law_source_0 (WP c Y G) (aj (ao 0) (aj (ao 1) aN)))))
  (aC (vZ C 3 (vQ aO (sV (sU C F__law_draw (by decide) B__law_draw_0 (Dm c Y G) (aj (ao 2) (aj aO aN))))))
  (aC (vZ C 4 (sU C F_variants (by decide) B_variants_0 (aaN c Y G) (aj (sV (ah9 (c := 1) C (X8 (P := P) c Y G (by decide) rfl rfl rfl rfl rfl) (WN c Y G) (aj (sV (sU C F__law_leaf_text (by decide) B__law_leaf_text_0 (S9 c Y G) (aj (sV (sU C F__law_leaf (by decide) B__law_leaf_0 (aan c Y G) (aj (ao 2) (aj (ao 3) aN)))) aN))) (aj (ao 3) aN)))) aN)))
  (cR (Yl C (RL (Aq (uI 4) (Bm c Y G)) (Og c Y G)) (yV C 5)
  (cR (Yl C (RL (Aq (uI 4) (Bm c Y G)) (Og c Y G)) (yV C 6)
  (aC (vZ C 7 (sU C F_distance (by decide) B_distance_0 (aaO c Y G) (aj (cU 4 (ao 5)) (aj (cU 4 (ao 6)) aN))))
  (aC (vL C 8 aO)
  (aC (vH (UW (CT (vq (XQ (sV (Wm C (W8 (P := P) c Y G (by decide) rfl rfl rfl rfl rfl) (cU 4 (ao 5)))) aA))))
  (aC (vZ C 9 (sU C F__law_parts (by decide) B__law_parts_0 (Oz c Y G) (aj (sV (Wm C (W8 (P := P) c Y G (by decide) rfl rfl rfl rfl rfl) (cU 4 (ao 5)))) aN)))
  (aC (vZ C 10 (sU C F__law_parts (by decide) B__law_parts_0 (Oz c Y G) (aj (sV (Wm C (W8 (P := P) c Y G (by decide) rfl rfl rfl rfl rfl) (cU 4 (ao 6)))) aN)))
  (cR (vL C 8 (Aq (Jg (Ym C [("_law_part", 11)] (RL aO (Og c Y G)) (by decide) (fun _ _ _ _ _ => (yV (Cq.blk C) 11)) (fun _ _ _ _ _ => (aa1 (uo (Km (Cq.blk C)) (cU 9 (ao 11)) (vq (cU 10 (ao 11)))))) (fun _ _ _ _ _ => (ao 11)) (blkOk_by rfl))) (Bm c Y G))))))
  vf)
  (aC (vH (U0 (abC (UW (CT (vq (ac3 (ZD c) (ao 7) (afd (t := "int") (Jm c Y G)) (OJ c Y G))))) (acQ (CT (vq (ac3 (ZD c) (ao 7) (afd (t := "bool") (agk c Y G)) (OJ c Y G)))))))
  (cR (s_ret (vg Rx)))
  vf)
  (cR (vH (uo (Km C) (ao 7) (uI 8))
  (cR (s_ret (vg Rx)))
  vf))))))))))))))
  (cR (s_ret (vg Rx))))
end
end L
namespace L
open PySem PySem.Spec L2 Pk GenP
theorem UT {fr : Fr} {h : Hh} {Q : Fl → Fr → Hh → Prop} {E : bh → Fr → Hh → Prop} : Wp (zj fr h) Q E = Wp ((
 (az (xq 0 uB (ak 1))
 (xq 0 Bg (ak 2)))) fr h) Q E := congrArg (fun m => Wp (m fr h) Q E) zj.eq_1
theorem Jz {d : D} {fr : Fr} {h : Hh} {Q : Unit → Fr → Hh → Prop} {E : bh → Fr → Hh → Prop} : Wp (FQ d fr h) Q E = Wp ((
 (wF 1)) d fr h) Q E := congrArg (fun m => Wp (m d fr h) Q E) FQ.eq_1
theorem JB {fr : Fr} {h : Hh} {Q : Bool → Fr → Hh → Prop} {E : bh → Fr → Hh → Prop} : Wp (FT fr h) Q E = Wp ((
 (M.ret true)) fr h) Q E := congrArg (fun m => Wp (m fr h) Q E) FT.eq_1
theorem JC {fr : Fr} {h : Hh} {Q : D → Fr → Hh → Prop} {E : bh → Fr → Hh → Prop} : Wp (FW fr h) Q E = Wp ((
 (nQ (bD 2 0 wH (aH []) (aa [(iy (uY uB) (g8 0)), (ak 1)]) (aa [])))) fr h) Q E := congrArg (fun m => Wp (m fr h) Q E) FW.eq_1
theorem Oj {fr : Fr} {h : Hh} {Q : Fl → Fr → Hh → Prop} {E : bh → Fr → Hh → Prop} : Wp (JQ fr h) Q E = Wp ((
 (ie (Hm [1] (Lf (nQ (bD 1 0 G8 (aH []) (aa [(iy (uY Bg) (g8 0))]) (aa [])))) FQ FT FW))) fr h) Q E := congrArg (fun m => Wp (m fr h) Q E) JQ.eq_1
theorem uZ {fr : Fr} {h : Hh} {Q : Fl → Fr → Hh → Prop} {E : bh → Fr → Hh → Prop} : Wp (Ca fr h) Q E = Wp ((
 (Oc 2 (fun i j => i + j) (mC (.int 1)))) fr h) Q E := congrArg (fun m => Wp (m fr h) Q E) Ca.eq_1
theorem u5 {fr : Fr} {h : Hh} {Q : Fl → Fr → Hh → Prop} {E : bh → Fr → Hh → Prop} : Wp (FZ fr h) Q E = Wp ((
 (uw (bf CJ (bj 0 (ak 1) bA) (g8 3))
 (yc (Mi (bf Om (ak 2) (iy uW (g8 0))) (bf CJ (bj 0 (ak 2) bA) (g8 3))) Ca 60)
 (M.ret .nx))) fr h) Q E := congrArg (fun m => Wp (m fr h) Q E) FZ.eq_1
theorem u6 {fr : Fr} {h : Hh} {Q : Fl → Fr → Hh → Prop} {E : bh → Fr → Hh → Prop} : Wp (Ge fr h) Q E = Wp ((
 (az (zr (Lf (uX [(mC (.str "abcdefghijklmnopqrstuvwxyz")), (mC (.str "0123456789"))])) (wF 3) FZ)
 (ie (yN 2)))) fr h) Q E := congrArg (fun m => Wp (m fr h) Q E) Ge.eq_1
theorem vW {fr : Fr} {h : Hh} {Q : Fl → Fr → Hh → Prop} {E : bh → Fr → Hh → Prop} : Wp (G9 fr h) Q E = Wp ((
 (az (cQ 2 (bf uA (ak 1) (mC (.int 1))))
 Ge)) fr h) Q E := congrArg (fun m => Wp (m fr h) Q E) G9.eq_1
theorem yE {fr : Fr} {h : Hh} {Q : Fl → Fr → Hh → Prop} {E : bh → Fr → Hh → Prop} : Wp (yr fr h) Q E = Wp ((
 (az (uw (bf u9 (bj 1 (ak 3) bA) (mC (.str " ")))
 (az (Oc 3 (fun i j => i + j) (mC (.int 1)))
 (M.ret .ct))
 (M.ret .nx))
 (az (cQ 4 (bD 2 0 Bv (aH []) (aa [(ak 1), (ak 3)]) (aa [])))
 (az (tL (Iz (iy (uY xK) (g8 0)) (nQ (bj 1 (Ld (U4 (ak 3)) (U4 (ak 4))) zG))))
 (az (tL (Iz (iy (uY yQ) (g8 0)) (ak 3)))
 (cQ 3 (ak 4))))))) fr h) Q E := congrArg (fun m => Wp (m fr h) Q E) yr.eq_1
theorem yF {fr : Fr} {h : Hh} {Q : Fl → Fr → Hh → Prop} {E : bh → Fr → Hh → Prop} : Wp (yt fr h) Q E = Wp ((
 (az (yc (bf Om (ak 3) (iy uW (g8 1))) yr 60)
 (tL (Iz (iy (uY yQ) (g8 0)) (iy uW (g8 1)))))) fr h) Q E := congrArg (fun m => Wp (m fr h) Q E) yt.eq_1
theorem yG {fr : Fr} {h : Hh} {Q : Fl → Fr → Hh → Prop} {E : bh → Fr → Hh → Prop} : Wp (yu fr h) Q E = Wp ((
 (az (cQ 3 (mC (.int 0)))
 yt)) fr h) Q E := congrArg (fun m => Wp (m fr h) Q E) yu.eq_1
theorem yH {fr : Fr} {h : Hh} {Q : Fl → Fr → Hh → Prop} {E : bh → Fr → Hh → Prop} : Wp (yw fr h) Q E = Wp ((
 (az (xq 0 wQ (mC (.int 0)))
 yu)) fr h) Q E := congrArg (fun m => Wp (m fr h) Q E) yw.eq_1
theorem yI {fr : Fr} {h : Hh} {Q : Fl → Fr → Hh → Prop} {E : bh → Fr → Hh → Prop} : Wp (yz fr h) Q E = Wp ((
 (az (xq 0 yQ (IK (yK [])))
 yw)) fr h) Q E := congrArg (fun m => Wp (m fr h) Q E) yz.eq_1
theorem yJ {fr : Fr} {h : Hh} {Q : Fl → Fr → Hh → Prop} {E : bh → Fr → Hh → Prop} : Wp (yC fr h) Q E = Wp ((
 (az (xq 0 xK (IK (yK [])))
 yz)) fr h) Q E := congrArg (fun m => Wp (m fr h) Q E) yC.eq_1
theorem zP {fr : Fr} {h : Hh} {Q : Fl → Fr → Hh → Prop} {E : bh → Fr → Hh → Prop} : Wp (ye fr h) Q E = Wp ((
 (az (xq 0 uB (ak 2))
 yC)) fr h) Q E := congrArg (fun m => Wp (m fr h) Q E) ye.eq_1
theorem Jo {fr : Fr} {h : Hh} {Q : Fl → Fr → Hh → Prop} {E : bh → Fr → Hh → Prop} : Wp (yf fr h) Q E = Wp ((
 (ie (Ao (bf Om (iy (uY wQ) (g8 0)) (iy uW (iy (uY xK) (g8 0)))) (bf bA (iy (uY xK) (g8 0)) (iy (uY wQ) (g8 0))) (mC (.str ""))))) fr h) Q E := congrArg (fun m => Wp (m fr h) Q E) yf.eq_1
theorem Jp {fr : Fr} {h : Hh} {Q : Fl → Fr → Hh → Prop} {E : bh → Fr → Hh → Prop} : Wp (zL fr h) Q E = Wp ((
 (az (Bf 0 wQ (fun i j => i + j) (mC (.int 1)))
 (ie (mC (.bl true))))) fr h) Q E := congrArg (fun m => Wp (m fr h) Q E) zL.eq_1
theorem Ma {fr : Fr} {h : Hh} {Q : Fl → Fr → Hh → Prop} {E : bh → Fr → Hh → Prop} : Wp (zM fr h) Q E = Wp ((
 (az (uw (bf JF (nQ (ux 0 0 uC (aH []) (ak 0) (aa []) (aa []))) (g8 1))
 (ie (mC (.bl false)))
 (M.ret .nx))
 zL)) fr h) Q E := congrArg (fun m => Wp (m fr h) Q E) zM.eq_1
theorem Gy {fr : Fr} {h : Hh} {Q : Fl → Fr → Hh → Prop} {E : bh → Fr → Hh → Prop} : Wp (wV fr h) Q E = Wp ((
 (ie (RD (bf (fun h x y => (JF h x y).map .bl) (nQ (ux 0 0 uC (aH []) (ak 0) (aa []) (aa []))) (mC (.str ""))) (bf (fun h x y => (CJ h x y).map .bl) (bf bA (nQ (ux 0 0 uC (aH []) (ak 0) (aa []) (aa []))) (mC (.int 0))) (mC (.str "0123456789")))))) fr h) Q E := congrArg (fun m => Wp (m fr h) Q E) wV.eq_1
theorem Tp {fr : Fr} {h : Hh} {Q : Fl → Fr → Hh → Prop} {E : bh → Fr → Hh → Prop} : Wp (Ad fr h) Q E = Wp ((
 (az (Bf 0 wQ (fun i j => i + j) (mC (.int 1)))
 (ie (yN 2)))) fr h) Q E := congrArg (fun m => Wp (m fr h) Q E) Ad.eq_1
theorem Tq {fr : Fr} {h : Hh} {Q : Fl → Fr → Hh → Prop} {E : bh → Fr → Hh → Prop} : Wp (Ae fr h) Q E = Wp ((
 (az (uw (bf Py (ak 2) (g8 1))
 (tL (ux 0 0 Dy (aH []) (ak 0) (aa []) (aa [])))
 (M.ret .nx))
 Ad)) fr h) Q E := congrArg (fun m => Wp (m fr h) Q E) Ae.eq_1
theorem W9 {fr : Fr} {h : Hh} {Q : Fl → Fr → Hh → Prop} {E : bh → Fr → Hh → Prop} : Wp (Bh fr h) Q E = Wp ((
 (az (cQ 2 (ux 0 0 uC (aH []) (ak 0) (aa []) (aa [])))
 Ae)) fr h) Q E := congrArg (fun m => Wp (m fr h) Q E) Bh.eq_1
theorem Ho {fr : Fr} {h : Hh} {Q : Fl → Fr → Hh → Prop} {E : bh → Fr → Hh → Prop} : Wp (zu fr h) Q E = Wp ((
 (az (Bf 0 wQ (fun i j => i + j) (mC (.int 1)))
 (ie (iy xT (ak 3))))) fr h) Q E := congrArg (fun m => Wp (m fr h) Q E) zu.eq_1
theorem Hq {fr : Fr} {h : Hh} {Q : Fl → Fr → Hh → Prop} {E : bh → Fr → Hh → Prop} : Wp (zA fr h) Q E = Wp ((
 (az (uw (TJ (bf cGt (iy uW (g8 3)) (mC (.int 7))) (TJ (Mi (bf u9 (bj 3 (mC (.int 0)) bA) (mC (.str "0"))) (bf cGt (iy uW (g8 3)) (mC (.int 1)))) (Ju (M5 cLe cLe (ak 1) (iy xT (ak 3)) (ak 2)))))
 (tL (ux 0 0 Dy (aH []) (ak 0) (aa []) (aa [])))
 (M.ret .nx))
 zu)) fr h) Q E := congrArg (fun m => Wp (m fr h) Q E) zA.eq_1
theorem K8 {fr : Fr} {h : Hh} {Q : Fl → Fr → Hh → Prop} {E : bh → Fr → Hh → Prop} : Wp (zm fr h) Q E = Wp ((
 (az (cQ 3 (ux 0 0 uC (aH []) (ak 0) (aa []) (aa [])))
 zA)) fr h) Q E := congrArg (fun m => Wp (m fr h) Q E) zm.eq_1
theorem VJ {fr : Fr} {h : Hh} {Q : Fl → Fr → Hh → Prop} {E : bh → Fr → Hh → Prop} : Wp (CK fr h) Q E = Wp ((
 (az (uw (iy D.tru (ux 1 0 zp (aH []) (ak 0) (aa [(mC (.str "["))]) (aa [])))
 (az (uw (iy D.tru (ux 0 0 wg (aH []) (ak 0) (aa []) (aa [])))
 (cQ 1 (ux 2 0 zN (aH []) (ak 0) (aa [(mC (.int 0)), (bf YG (iy (uY uB) (g8 0)) (mC (.int 1)))]) (aa [])))
 (M.ret .nx))
 (az (tL (sW oX (ak 0) (aa [(mC (.str ":"))])))
 (az (uw (iy D.tru (ux 0 0 wg (aH []) (ak 0) (aa []) (aa [])))
 (cQ 2 (ux 2 0 zN (aH []) (ak 0) (aa [(nQ (bf uA (ak 1) (mC (.int 1)))), (iy (uY uB) (g8 0))]) (aa [])))
 (M.ret .nx))
 (tL (sW oX (ak 0) (aa [(mC (.str "]"))]))))))
 (M.ret .nx))
 (ie (uX [(ak 1), (ak 2)])))) fr h) Q E := congrArg (fun m => Wp (m fr h) Q E) CK.eq_1
theorem VL {fr : Fr} {h : Hh} {Q : Fl → Fr → Hh → Prop} {E : bh → Fr → Hh → Prop} : Wp (CN fr h) Q E = Wp ((
 (az (cQ 2 (iy (uY uB) (g8 0)))
 CK)) fr h) Q E := congrArg (fun m => Wp (m fr h) Q E) CN.eq_1
theorem aav {fr : Fr} {h : Hh} {Q : Fl → Fr → Hh → Prop} {E : bh → Fr → Hh → Prop} : Wp (Di fr h) Q E = Wp ((
 (az (cQ 1 (mC (.int 0)))
 CN)) fr h) Q E := congrArg (fun m => Wp (m fr h) Q E) Di.eq_1
theorem Tr {fr : Fr} {h : Hh} {Q : Fl → Fr → Hh → Prop} {E : bh → Fr → Hh → Prop} : Wp (Af fr h) Q E = Wp ((
 (az (tL (sW oX (ak 0) (aa [(mC (.str ")"))])))
 (ie (uX [(mC (.str "leaf")), (ak 1), (ak 2), (ak 4), (ak 5), (ak 6)])))) fr h) Q E := congrArg (fun m => Wp (m fr h) Q E) Af.eq_1
theorem Tt {fr : Fr} {h : Hh} {Q : Fl → Fr → Hh → Prop} {E : bh → Fr → Hh → Prop} : Wp (Ag fr h) Q E = Wp ((
 (az (tL (sW oX (ak 0) (aa [(mC (.str ")"))])))
 Af)) fr h) Q E := congrArg (fun m => Wp (m fr h) Q E) Ag.eq_1
theorem Tu {fr : Fr} {h : Hh} {Q : Fl → Fr → Hh → Prop} {E : bh → Fr → Hh → Prop} : Wp (Ah fr h) Q E = Wp ((
 (az (PP (nQ (bD 1 0 xj (aH []) (aa [(ak 0)]) (aa []))) (Le 2 (BX (wF 5) (BX (wF 6) Ny))))
 Ag)) fr h) Q E := congrArg (fun m => Wp (m fr h) Q E) Ah.eq_1
theorem Xa {fr : Fr} {h : Hh} {Q : Fl → Fr → Hh → Prop} {E : bh → Fr → Hh → Prop} : Wp (Bj fr h) Q E = Wp ((
 (az (cQ 4 (sW oX (ak 0) (zV (ak 3) (aa []))))
 Ah)) fr h) Q E := congrArg (fun m => Wp (m fr h) Q E) Bj.eq_1
theorem wj {fr : Fr} {h : Hh} {Q : Fl → Fr → Hh → Prop} {E : bh → Fr → Hh → Prop} : Wp (Dz fr h) Q E = Wp ((
 (az (cQ 5 (Ao (bf u9 (ak 4) (mC (.str "told"))) (uX [(mC (.str "raw"))]) (uX [(mC (.str "raw")), (mC (.str "zero")), (mC (.str "held"))])))
 (ie (bD 4 0 wW (aH []) (aa [(ak 0), (mC (.str "each")), (ak 4), (ak 5)]) (aa []))))) fr h) Q E := congrArg (fun m => Wp (m fr h) Q E) Dz.eq_1
theorem wk {fr : Fr} {h : Hh} {Q : Fl → Fr → Hh → Prop} {E : bh → Fr → Hh → Prop} : Wp (DG fr h) Q E = Wp ((
 (az (tL (sW oX (ak 0) (aa [(mC (.str "("))])))
 Dz)) fr h) Q E := congrArg (fun m => Wp (m fr h) Q E) DG.eq_1
theorem wu {fr : Fr} {h : Hh} {Q : Fl → Fr → Hh → Prop} {E : bh → Fr → Hh → Prop} : Wp (DK fr h) Q E = Wp ((
 (az (cQ 4 (sW oX (ak 0) (zV (mC (.tup Dh)) (aa []))))
 DG)) fr h) Q E := congrArg (fun m => Wp (m fr h) Q E) DK.eq_1
theorem wy {fr : Fr} {h : Hh} {Q : Fl → Fr → Hh → Prop} {E : bh → Fr → Hh → Prop} : Wp (DP fr h) Q E = Wp ((
 (az (uw (bf JF (ak 1) (mC (.str "sum")))
 (az (tL (sW oX (ak 0) (aa [(mC (.str "sum"))])))
 (az (tL (sW oX (ak 0) (aa [(mC (.str "("))])))
 (ie (bD 4 0 wW (aH []) (aa [(ak 0), (mC (.str "all")), (ak 1), (uX [(mC (.str "zero")), (mC (.str "held"))])]) (aa [])))))
 (M.ret .nx))
 DK)) fr h) Q E := congrArg (fun m => Wp (m fr h) Q E) DP.eq_1
theorem wz {fr : Fr} {h : Hh} {Q : Fl → Fr → Hh → Prop} {E : bh → Fr → Hh → Prop} : Wp (DQ fr h) Q E = Wp ((
 (az (tL (sW oX (ak 0) (aa [(mC (.str "("))])))
 DP)) fr h) Q E := congrArg (fun m => Wp (m fr h) Q E) DQ.eq_1
theorem wA {fr : Fr} {h : Hh} {Q : Fl → Fr → Hh → Prop} {E : bh → Fr → Hh → Prop} : Wp (DR fr h) Q E = Wp ((
 (az (uw (bf u9 (ak 1) (mC (.str "events")))
 (az (PP (nQ (bD 1 0 xj (aH []) (aa [(ak 0)]) (aa []))) (Le 2 (BX (wF 2) (BX (wF 3) Ny))))
 (ie (uX [(mC (.str "events")), (ak 2), (ak 3)])))
 (M.ret .nx))
 DQ)) fr h) Q E := congrArg (fun m => Wp (m fr h) Q E) DR.eq_1
theorem xU {fr : Fr} {h : Hh} {Q : Fl → Fr → Hh → Prop} {E : bh → Fr → Hh → Prop} : Wp (Ff fr h) Q E = Wp ((
 (az (cQ 1 (sW oX (ak 0) (Lw (mC (.str "events")) (Lw (mC (.str "sum")) (zV (mC (.tup yM)) (aa []))))))
 DR)) fr h) Q E := congrArg (fun m => Wp (m fr h) Q E) Ff.eq_1
theorem Xb {fr : Fr} {h : Hh} {Q : Fl → Fr → Hh → Prop} {E : bh → Fr → Hh → Prop} : Wp (DW fr h) Q E = Wp ((
 (az (tL (sW oX (ak 0) (aa [(mC (.str ")"))])))
 (ie (uX [(ak 2), (ak 3), (ak 4)])))) fr h) Q E := congrArg (fun m => Wp (m fr h) Q E) DW.eq_1
theorem Xc {fr : Fr} {h : Hh} {Q : Fl → Fr → Hh → Prop} {E : bh → Fr → Hh → Prop} : Wp (DY fr h) Q E = Wp ((
 (az (cQ 4 (fun _ _ => .err))
 DW)) fr h) Q E := congrArg (fun m => Wp (m fr h) Q E) DY.eq_1
theorem Xd {fr : Fr} {h : Hh} {Q : Fl → Fr → Hh → Prop} {E : bh → Fr → Hh → Prop} : Wp (Ea fr h) Q E = Wp ((
 (az (tL (sW oX (ak 0) (aa [(mC (.str ","))])))
 DY)) fr h) Q E := congrArg (fun m => Wp (m fr h) Q E) Ea.eq_1
theorem Xe {fr : Fr} {h : Hh} {Q : Fl → Fr → Hh → Prop} {E : bh → Fr → Hh → Prop} : Wp (Eb fr h) Q E = Wp ((
 (az (cQ 3 (fun _ _ => .err))
 Ea)) fr h) Q E := congrArg (fun m => Wp (m fr h) Q E) Eb.eq_1
theorem Xf {fr : Fr} {h : Hh} {Q : Fl → Fr → Hh → Prop} {E : bh → Fr → Hh → Prop} : Wp (Ec fr h) Q E = Wp ((
 (az (tL (sW oX (ak 0) (aa [(mC (.str "("))])))
 Eb)) fr h) Q E := congrArg (fun m => Wp (m fr h) Q E) Ec.eq_1
theorem Xg {fr : Fr} {h : Hh} {Q : Fl → Fr → Hh → Prop} {E : bh → Fr → Hh → Prop} : Wp (Ed fr h) Q E = Wp ((
 (az (cQ 2 (sW oX (ak 0) (aa [(mC (.str "max")), (mC (.str "min"))])))
 Ec)) fr h) Q E := congrArg (fun m => Wp (m fr h) Q E) Ed.eq_1
theorem Xh {fr : Fr} {h : Hh} {Q : Fl → Fr → Hh → Prop} {E : bh → Fr → Hh → Prop} : Wp (Ef fr h) Q E = Wp ((
 (az (uw (bf Py (nQ (ux 0 0 uC (aH []) (ak 0) (aa []) (aa []))) (uX [(mC (.str "max")), (mC (.str "min"))]))
 (ie (bD 1 0 vP (aH []) (aa [(ak 0)]) (aa [])))
 (M.ret .nx))
 Ed)) fr h) Q E := congrArg (fun m => Wp (m fr h) Q E) Ef.eq_1
theorem Xi {fr : Fr} {h : Hh} {Q : Fl → Fr → Hh → Prop} {E : bh → Fr → Hh → Prop} : Wp (Eh fr h) Q E = Wp ((
 (az (uw (iy D.tru (ux 1 0 zp (aH []) (ak 0) (aa [(mC (.str "abs"))]) (aa [])))
 (az (tL (sW oX (ak 0) (aa [(mC (.str "("))])))
 (az (cQ 1 (fun _ _ => .err))
 (az (tL (sW oX (ak 0) (aa [(mC (.str ")"))])))
 (ie (uX [(mC (.str "abs")), (ak 1)])))))
 (M.ret .nx))
 Ef)) fr h) Q E := congrArg (fun m => Wp (m fr h) Q E) Eh.eq_1
theorem aaU {fr : Fr} {h : Hh} {Q : Fl → Fr → Hh → Prop} {E : bh → Fr → Hh → Prop} : Wp (Fg fr h) Q E = Wp ((
 (az (uw (iy D.tru (ux 1 0 zp (aH []) (ak 0) (aa [(mC (.str "("))]) (aa [])))
 (az (cQ 1 (fun _ _ => .err))
 (az (tL (sW oX (ak 0) (aa [(mC (.str ")"))])))
 (ie (yN 1))))
 (M.ret .nx))
 Eh)) fr h) Q E := congrArg (fun m => Wp (m fr h) Q E) Fg.eq_1
theorem Tv {fr : Fr} {h : Hh} {Q : Fl → Fr → Hh → Prop} {E : bh → Fr → Hh → Prop} : Wp (Ai fr h) Q E = Wp ((
 (az (cQ 2 (bD 1 0 yR (aH []) (aa [(ak 0)]) (aa [])))
 (ie (uX [(mC (.str "times")), (Ao (iy D.tru (g8 1)) (iy (fun _ => Hz) (ak 3)) (ak 3)), (ak 2)])))) fr h) Q E := congrArg (fun m => Wp (m fr h) Q E) Ai.eq_1
theorem Tw {fr : Fr} {h : Hh} {Q : Fl → Fr → Hh → Prop} {E : bh → Fr → Hh → Prop} : Wp (Aj fr h) Q E = Wp ((
 (az (tL (sW oX (ak 0) (aa [(mC (.str "*"))])))
 Ai)) fr h) Q E := congrArg (fun m => Wp (m fr h) Q E) Aj.eq_1
theorem Tz {fr : Fr} {h : Hh} {Q : Fl → Fr → Hh → Prop} {E : bh → Fr → Hh → Prop} : Wp (Ak fr h) Q E = Wp ((
 (az (cQ 3 (ux 2 0 zN (aH []) (ak 0) (aa [(mC (.int 0)), (mC (.int 1000000))]) (aa [])))
 Aj)) fr h) Q E := congrArg (fun m => Wp (m fr h) Q E) Ak.eq_1
theorem Xj {fr : Fr} {h : Hh} {Q : Fl → Fr → Hh → Prop} {E : bh → Fr → Hh → Prop} : Wp (Bl fr h) Q E = Wp ((
 (az (uw (Ju (iy D.tru (ux 0 0 wg (aH []) (ak 0) (aa []) (aa []))))
 (az (cQ 2 (bD 1 0 yR (aH []) (aa [(ak 0)]) (aa [])))
 (ie (Ao (iy D.tru (g8 1)) (uX [(mC (.str "times")), (iy (fun _ => Hz) (mC (.int 1))), (ak 2)]) (ak 2))))
 (M.ret .nx))
 Ak)) fr h) Q E := congrArg (fun m => Wp (m fr h) Q E) Bl.eq_1
theorem Iu {fr : Fr} {h : Hh} {Q : Fl → Fr → Hh → Prop} {E : bh → Fr → Hh → Prop} : Wp (Ei fr h) Q E = Wp ((
 (az (tL (sW oX (ak 0) (aa [(ak 2)])))
 (cQ 1 (uX [(Ao (bf u9 (ak 2) (mC (.str "+"))) (mC (.str "plus")) (mC (.str "minus"))), (ak 1), (nQ (bD 2 0 wX (aH []) (aa [(ak 0), (mC (.bl false))]) (aa [])))])))) fr h) Q E := congrArg (fun m => Wp (m fr h) Q E) Ei.eq_1
theorem Iv {fr : Fr} {h : Hh} {Q : Fl → Fr → Hh → Prop} {E : bh → Fr → Hh → Prop} : Wp (Ek fr h) Q E = Wp ((
 (az (zb 2 CJ (nQ (ux 0 0 uC (aH []) (ak 0) (aa []) (aa []))) (uX [(mC (.str "+")), (mC (.str "-"))]) Ei 60)
 (ie (yN 1)))) fr h) Q E := congrArg (fun m => Wp (m fr h) Q E) Ek.eq_1
theorem MT {fr : Fr} {h : Hh} {Q : Fl → Fr → Hh → Prop} {E : bh → Fr → Hh → Prop} : Wp (Fj fr h) Q E = Wp ((
 (az (cQ 1 (bD 2 0 wX (aH []) (aa [(ak 0), (nQ (ux 1 0 zp (aH []) (ak 0) (aa [(mC (.str "-"))]) (aa [])))]) (aa [])))
 Ek)) fr h) Q E := congrArg (fun m => Wp (m fr h) Q E) Fj.eq_1
theorem acC {fr : Fr} {h : Hh} {Q : Fl → Fr → Hh → Prop} {E : bh → Fr → Hh → Prop} : Wp (JR fr h) Q E = Wp ((
 (az (uw (bf JF (nQ (ux 0 0 uC (aH []) (ak 2) (aa []) (aa []))) (mC (.str "")))
 (tL (ux 0 0 Dy (aH []) (ak 2) (aa []) (aa [])))
 (M.ret .nx))
 (ie (yN 3)))) fr h) Q E := congrArg (fun m => Wp (m fr h) Q E) JR.eq_1
theorem acD {fr : Fr} {h : Hh} {Q : Fl → Fr → Hh → Prop} {E : bh → Fr → Hh → Prop} : Wp (JS fr h) Q E = Wp ((
 (az (cQ 3 (bD 1 0 zX (aH []) (aa [(ak 2)]) (aa [])))
 JR)) fr h) Q E := congrArg (fun m => Wp (m fr h) Q E) JS.eq_1
theorem agm {fr : Fr} {h : Hh} {Q : Fl → Fr → Hh → Prop} {E : bh → Fr → Hh → Prop} : Wp (Nk fr h) Q E = Wp ((
 (az (cQ 2 (Nf 0 2 0 wR (aH []) (aa [(ak 0), (ak 1)]) (aa [])))
 JS)) fr h) Q E := congrArg (fun m => Wp (m fr h) Q E) Nk.eq_1
theorem Hg {fr : Fr} {h : Hh} {Q : Fl → Fr → Hh → Prop} {E : bh → Fr → Hh → Prop} : Wp (Dj fr h) Q E = Wp ((
 (ie (bD 2 0 wH (aH []) (aa [(ak 2), (nQ (bD 2 0 Kc (aH []) (aa [(ak 1), (ak 2)]) (aa [])))]) (aa [])))) fr h) Q E := congrArg (fun m => Wp (m fr h) Q E) Dj.eq_1
theorem Cv {fr : Fr} {h : Hh} {Q : Fl → Fr → Hh → Prop} {E : bh → Fr → Hh → Prop} : Wp (zB fr h) Q E = Wp ((
 (az (uw (bf u9 (bj 0 (mC (.int 0)) bA) (mC (.str "each")))
 (ie (bf uA (nQ (bf uA (nQ (bf uA (nQ (bf uA (nQ (bf uA (mC (.str "sum(")) (bj 0 (mC (.int 1)) bA))) (mC (.str "(")))) (bj 0 (mC (.int 2)) bA))) (ak 1))) (mC (.str "))"))))
 (M.ret .nx))
 (ie (bf uA (nQ (bf uA (nQ (bf uA (nQ (bf uA (bj 0 (mC (.int 1)) bA) (mC (.str "(sum(")))) (bj 0 (mC (.int 2)) bA))) (ak 1))) (mC (.str "))")))))) fr h) Q E := congrArg (fun m => Wp (m fr h) Q E) zB.eq_1
theorem Cy {fr : Fr} {h : Hh} {Q : Fl → Fr → Hh → Prop} {E : bh → Fr → Hh → Prop} : Wp (zE fr h) Q E = Wp ((
 (az (uw (bf u9 (bj 0 (mC (.int 0)) bA) (mC (.str "events")))
 (ie (bf uA (mC (.str "events")) (ak 1)))
 (M.ret .nx))
 zB)) fr h) Q E := congrArg (fun m => Wp (m fr h) Q E) zE.eq_1
theorem Gu {fr : Fr} {h : Hh} {Q : Fl → Fr → Hh → Prop} {E : bh → Fr → Hh → Prop} : Wp (Bw fr h) Q E = Wp ((
 (az (cQ 1 (bf uA (nQ (bf uA (nQ (bf uA (nQ (bf uA (mC (.str "[")) (iy R9 (bj 0 (iy (fun _ => Hz) (mC (.int 2))) bA)))) (mC (.str ":")))) (iy R9 (bj 0 (iy (fun _ => Hz) (mC (.int 1))) bA)))) (mC (.str "]"))))
 zE)) fr h) Q E := congrArg (fun m => Wp (m fr h) Q E) Bw.eq_1
theorem xN {fr : Fr} {h : Hh} {Q : Fl → Fr → Hh → Prop} {E : bh → Fr → Hh → Prop} : Wp (En fr h) Q E = Wp ((
 (az (cQ 5 (bD 2 0 v9 (aH []) (aa [(ak 0), (nQ (yK [(mC (.str "first")), (mC (.str "last")), (mC (.str "top")), (mC (.str "low")), (mC (.str "change")), (mC (.str "rises")), (mC (.str "rises")), (mC (.str "told"))]))]) (aa [])))
 (ie (uX [(mC (.str "each")), (ak 5), (nQ (Ao (bf u9 (ak 5) (mC (.str "told"))) (mC (.str "raw")) (bD 2 0 v9 (aH []) (aa [(ak 0), (nQ (yK [(mC (.str "raw")), (mC (.str "zero")), (mC (.str "held"))]))]) (aa [])))), (ak 2), (ak 3)])))) fr h) Q E := congrArg (fun m => Wp (m fr h) Q E) En.eq_1
theorem xO {fr : Fr} {h : Hh} {Q : Fl → Fr → Hh → Prop} {E : bh → Fr → Hh → Prop} : Wp (Eo fr h) Q E = Wp ((
 (az (uw (bf Om (ak 4) (mC (.int 3)))
 (az (cQ 5 (bD 2 0 v9 (aH []) (aa [(ak 0), (nQ (yK [(mC (.str "first")), (mC (.str "last")), (mC (.str "change")), (mC (.str "rises")), (mC (.str "rises"))]))]) (aa [])))
 (ie (uX [(mC (.str "all")), (ak 5), (nQ (bD 2 0 v9 (aH []) (aa [(ak 0), (nQ (yK [(mC (.str "zero")), (mC (.str "held"))]))]) (aa []))), (ak 2), (ak 3)])))
 (M.ret .nx))
 En)) fr h) Q E := congrArg (fun m => Wp (m fr h) Q E) Eo.eq_1
theorem xP {fr : Fr} {h : Hh} {Q : Fl → Fr → Hh → Prop} {E : bh → Fr → Hh → Prop} : Wp (Ep fr h) Q E = Wp ((
 (az (uw (bf u9 (ak 4) (mC (.int 0)))
 (ie (uX [(mC (.str "events")), (ak 2), (ak 3)]))
 (M.ret .nx))
 Eo)) fr h) Q E := congrArg (fun m => Wp (m fr h) Q E) Ep.eq_1
theorem xQ {fr : Fr} {h : Hh} {Q : Fl → Fr → Hh → Prop} {E : bh → Fr → Hh → Prop} : Wp (Es fr h) Q E = Wp ((
 (az (cQ 4 (bD 2 0 vM (aH []) (aa [(ak 0), (mC (.int 5))]) (aa [])))
 Ep)) fr h) Q E := congrArg (fun m => Wp (m fr h) Q E) Es.eq_1
theorem xR {fr : Fr} {h : Hh} {Q : Fl → Fr → Hh → Prop} {E : bh → Fr → Hh → Prop} : Wp (Et fr h) Q E = Wp ((
 (az (cQ 3 (bD 2 0 v9 (aH []) (aa [(ak 0), (nQ (yK [(ak 1), (nQ (bf uA (nQ (bf uA (ak 2) (mC (.int 1)))) (nQ (bD 2 0 vM (aH []) (aa [(ak 0), (bf YG (ak 1) (ak 2))]) (aa [])))))]))]) (aa [])))
 Es)) fr h) Q E := congrArg (fun m => Wp (m fr h) Q E) Et.eq_1
theorem Aa {fr : Fr} {h : Hh} {Q : Fl → Fr → Hh → Prop} {E : bh → Fr → Hh → Prop} : Wp (Fo fr h) Q E = Wp ((
 (az (cQ 2 (bD 2 0 v9 (aH []) (aa [(ak 0), (nQ (yK [(mC (.int 0)), (mC (.int 0)), (nQ (bD 2 0 vM (aH []) (aa [(ak 0), (ak 1)]) (aa [])))]))]) (aa [])))
 Et)) fr h) Q E := congrArg (fun m => Wp (m fr h) Q E) Fo.eq_1
theorem Mg {fr : Fr} {h : Hh} {Q : Fl → Fr → Hh → Prop} {E : bh → Fr → Hh → Prop} : Wp (CP fr h) Q E = Wp ((
 (az (cQ 2 (Ao (bf u9 (bj 1 (mC (.int 0)) bA) (mC (.str "sum"))) (bj 1 (mC (.int 1)) bA) (bj 1 (mC (.int 0)) bA)))
 (ie (uX [(bf (fun h x y => (u9 h x y).map .bl) (bj 1 (mC (.int 0)) bA) (mC (.str "sum"))), (ak 2), (bj 1 (mC (.int 2)) bA)])))) fr h) Q E := congrArg (fun m => Wp (m fr h) Q E) CP.eq_1
theorem Ri {fr : Fr} {h : Hh} {Q : Fl → Fr → Hh → Prop} {E : bh → Fr → Hh → Prop} : Wp (Dk fr h) Q E = Wp ((
 (az (cQ 1 (MK Du (QD (Dg "[" " ") (QD (Dg "(" " ") (ak 0))) (mC (.str " "))))
 CP)) fr h) Q E := congrArg (fun m => Wp (m fr h) Q E) Dk.eq_1
theorem aU {R : Fn} {fr : Fr} {h : Hh} {Q : Fl → Fr → Hh → Prop} {E : bh → Fr → Hh → Prop} : Wp (Jb R fr h) Q E = Wp ((
 (az (cQ 2 (bD 1 0 R (aH []) (aa [(ak 0)]) (aa [])))
 (ie (Ao (bf CJ (bj 0 (mC (.int 0)) bA) (g8 1)) (Bo [(mC (.str "(")), (yL (ak 2)), (mC (.str ")"))]) (ak 2))))) fr h) Q E := congrArg (fun m => Wp (m fr h) Q E) (Jb.eq_1 R)
theorem Rj {fr : Fr} {h : Hh} {Q : Fl → Fr → Hh → Prop} {E : bh → Fr → Hh → Prop} : Wp (Hf fr h) Q E = Wp ((
 (ie (bD 1 0 WL (aH []) (aa [(iy (uY Bg) (g8 0))]) (aa [])))) fr h) Q E := congrArg (fun m => Wp (m fr h) Q E) Hf.eq_1
theorem BJ {d : D} {fr : Fr} {h : Hh} {Q : Unit → Fr → Hh → Prop} {E : bh → Fr → Hh → Prop} : Wp (Gp d fr h) Q E = Wp ((
 (wF 11)) d fr h) Q E := congrArg (fun m => Wp (m d fr h) Q E) Gp.eq_1
theorem BK {fr : Fr} {h : Hh} {Q : Bool → Fr → Hh → Prop} {E : bh → Fr → Hh → Prop} : Wp (Gq fr h) Q E = Wp ((
 (bf JF (bj 9 (ak 11) bA) (bj 10 (ak 11) bA))) fr h) Q E := congrArg (fun m => Wp (m fr h) Q E) Gq.eq_1
theorem BL {fr : Fr} {h : Hh} {Q : D → Fr → Hh → Prop} {E : bh → Fr → Hh → Prop} : Wp (Gr fr h) Q E = Wp ((
 (ak 11)) fr h) Q E := congrArg (fun m => Wp (m fr h) Q E) Gr.eq_1
theorem xV {fr : Fr} {h : Hh} {Q : Fl → Fr → Hh → Prop} {E : bh → Fr → Hh → Prop} : Wp (Jc fr h) Q E = Wp ((
 (az (uw (TJ (Ju (iy D.tru (bf (Jw KZ) (ak 7) (mC (.ty "int"))))) (iy D.tru (bf (Jw KZ) (ak 7) (mC (.ty "bool")))))
 (ie (mC (.bl false)))
 (M.ret .nx))
 (uw (bf JF (ak 7) (g8 8))
 (ie (mC (.bl false)))
 (M.ret .nx)))) fr h) Q E := congrArg (fun m => Wp (m fr h) Q E) Jc.eq_1
theorem xW {fr : Fr} {h : Hh} {Q : Fl → Fr → Hh → Prop} {E : bh → Fr → Hh → Prop} : Wp (Jd fr h) Q E = Wp ((
 (az (uw (Ju (iy D.tru (MK (Z9 fun a b => .bl (Txt.startswith a b)) (nQ (IV zJ (bj 4 (ak 5) bA))) (mC (.str "events")))))
 (az (cQ 9 (bD 1 0 yg (aH []) (aa [(nQ (IV zJ (bj 4 (ak 5) bA)))]) (aa [])))
 (az (cQ 10 (bD 1 0 yg (aH []) (aa [(nQ (IV zJ (bj 4 (ak 6) bA)))]) (aa [])))
 (cQ 8 (iy uW (Hm [11] (yO (mC (.int 3))) Gp Gq Gr)))))
 (M.ret .nx))
 Jc)) fr h) Q E := congrArg (fun m => Wp (m fr h) Q E) Jd.eq_1
theorem xX {fr : Fr} {h : Hh} {Q : Fl → Fr → Hh → Prop} {E : bh → Fr → Hh → Prop} : Wp (Je fr h) Q E = Wp ((
 (az (cQ 8 (mC (.int 0)))
 Jd)) fr h) Q E := congrArg (fun m => Wp (m fr h) Q E) Je.eq_1
theorem BP {fr : Fr} {h : Hh} {Q : Fl → Fr → Hh → Prop} {E : bh → Fr → Hh → Prop} : Wp (Im fr h) Q E = Wp ((
 (az (cQ 7 (bD 2 0 El (aH []) (aa [(bj 4 (ak 5) bA), (bj 4 (ak 6) bA)]) (aa [])))
 Je)) fr h) Q E := congrArg (fun m => Wp (m fr h) Q E) Im.eq_1
theorem BR {fr : Fr} {h : Hh} {Q : Fl → Fr → Hh → Prop} {E : bh → Fr → Hh → Prop} : Wp (Io fr h) Q E = Wp ((
 (zr (yO (iy uW (g8 4))) (wF 6) Im)) fr h) Q E := congrArg (fun m => Wp (m fr h) Q E) Io.eq_1
theorem yU {fr : Fr} {h : Hh} {Q : Fl → Fr → Hh → Prop} {E : bh → Fr → Hh → Prop} : Wp (Fp fr h) Q E = Wp ((
 (az (cQ 4 (bD 1 0 Bu (aH []) (aa [(nQ (Zv 2 1 xm (aa [(nQ (bD 1 0 wI (aH []) (aa [(nQ (bD 2 0 zY (aH []) (aa [(ak 2), (ak 3)]) (aa [])))]) (aa []))), (ak 3)])))]) (aa [])))
 (zr (yO (iy uW (g8 4))) (wF 5) Io))) fr h) Q E := congrArg (fun m => Wp (m fr h) Q E) Fp.eq_1
theorem xY {fr : Fr} {h : Hh} {Q : Fl → Fr → Hh → Prop} {E : bh → Fr → Hh → Prop} : Wp (Jf fr h) Q E = Wp ((
 (az (cQ 3 (bf uA (mC (.int 2)) (nQ (bD 2 0 vM (aH []) (aa [(ak 2), (mC (.int 3))]) (aa [])))))
 Fp)) fr h) Q E := congrArg (fun m => Wp (m fr h) Q E) Jf.eq_1
theorem zQ {fr : Fr} {h : Hh} {Q : Fl → Fr → Hh → Prop} {E : bh → Fr → Hh → Prop} : Wp (Jl fr h) Q E = Wp ((
 (az (cQ 2 (IK (bD 2 0 xr (aH []) (aa [(ak 0), (ak 1)]) (aa []))))
 Jf)) fr h) Q E := congrArg (fun m => Wp (m fr h) Q E) Jl.eq_1
theorem JT {fr : Fr} {h : Hh} {Q : Fl → Fr → Hh → Prop} {E : bh → Fr → Hh → Prop} : Wp (Vv fr h) Q E = Wp ((
 (az (zr (yO (bf RG (mC (.int 1)) (bf RJ (mC (.int 12)) (iy uW (g8 0))))) (wF 1) Jl)
 (ie (mC (.bl true))))) fr h) Q E := congrArg (fun m => Wp (m fr h) Q E) Vv.eq_1
theorem TF {ds : List D} {h : Hh} {Q : D → Fr → Hh → Prop} {E : bh → Fr → Hh → Prop} : Wp (wH ds h) Q E = Wp (runI 1 3 zj ds h) Q E := congrArg (fun m => Wp (m ds h) Q E) wH.eq_1
theorem M3 {ds : List D} {h : Hh} {Q : D → Fr → Hh → Prop} {E : bh → Fr → Hh → Prop} : Wp (Bv ds h) Q E = Wp (sX 4 G9 ds h) Q E := congrArg (fun m => Wp (m ds h) Q E) Bv.eq_1
theorem Pj {ds : List D} {h : Hh} {Q : D → Fr → Hh → Prop} {E : bh → Fr → Hh → Prop} : Wp (wR ds h) Q E = Wp (sX 5 ye ds h) Q E := congrArg (fun m => Wp (m ds h) Q E) wR.eq_1
theorem Hr {ds : List D} {h : Hh} {Q : D → Fr → Hh → Prop} {E : bh → Fr → Hh → Prop} : Wp (wU ds h) Q E = Wp (sX 1 yf ds h) Q E := congrArg (fun m => Wp (m ds h) Q E) wU.eq_1
theorem K9 {ds : List D} {h : Hh} {Q : D → Fr → Hh → Prop} {E : bh → Fr → Hh → Prop} : Wp (yD ds h) Q E = Wp (sX 2 zM ds h) Q E := congrArg (fun m => Wp (m ds h) Q E) yD.eq_1
theorem Ft {ds : List D} {h : Hh} {Q : D → Fr → Hh → Prop} {E : bh → Fr → Hh → Prop} : Wp (vY ds h) Q E = Wp (sX 1 wV ds h) Q E := congrArg (fun m => Wp (m ds h) Q E) vY.eq_1
theorem VM {ds : List D} {h : Hh} {Q : D → Fr → Hh → Prop} {E : bh → Fr → Hh → Prop} : Wp (zf ds h) Q E = Wp (sX 3 Bh ds h) Q E := congrArg (fun m => Wp (m ds h) Q E) zf.eq_1
theorem JH {ds : List D} {h : Hh} {Q : D → Fr → Hh → Prop} {E : bh → Fr → Hh → Prop} : Wp (xM ds h) Q E = Wp (sX 4 zm ds h) Q E := congrArg (fun m => Wp (m ds h) Q E) xM.eq_1
theorem Yb {ds : List D} {h : Hh} {Q : D → Fr → Hh → Prop} {E : bh → Fr → Hh → Prop} : Wp (xj ds h) Q E = Wp (sX 3 Di ds h) Q E := congrArg (fun m => Wp (m ds h) Q E) xj.eq_1
theorem VN {ds : List D} {h : Hh} {Q : D → Fr → Hh → Prop} {E : bh → Fr → Hh → Prop} : Wp (wW ds h) Q E = Wp (sX 7 Bj ds h) Q E := congrArg (fun m => Wp (m ds h) Q E) wW.eq_1
theorem Hi {ds : List D} {h : Hh} {Q : D → Fr → Hh → Prop} {E : bh → Fr → Hh → Prop} : Wp (vP ds h) Q E = Wp (sX 6 Ff ds h) Q E := congrArg (fun m => Wp (m ds h) Q E) vP.eq_1
theorem aaw {ds : List D} {h : Hh} {Q : D → Fr → Hh → Prop} {E : bh → Fr → Hh → Prop} : Wp (yR ds h) Q E = Wp (sX 5 Fg ds h) Q E := congrArg (fun m => Wp (m ds h) Q E) yR.eq_1
theorem VP {ds : List D} {h : Hh} {Q : D → Fr → Hh → Prop} {E : bh → Fr → Hh → Prop} : Wp (wX ds h) Q E = Wp (sX 4 Bl ds h) Q E := congrArg (fun m => Wp (m ds h) Q E) wX.eq_1
theorem aax {ds : List D} {h : Hh} {Q : D → Fr → Hh → Prop} {E : bh → Fr → Hh → Prop} : Wp (zX ds h) Q E = Wp (sX 3 Fj ds h) Q E := congrArg (fun m => Wp (m ds h) Q E) zX.eq_1
theorem aeU {ds : List D} {h : Hh} {Q : D → Fr → Hh → Prop} {E : bh → Fr → Hh → Prop} : Wp (Kc ds h) Q E = Wp (sX 4 Nk ds h) Q E := congrArg (fun m => Wp (m ds h) Q E) Kc.eq_1
theorem Yc {ds : List D} {h : Hh} {Q : D → Fr → Hh → Prop} {E : bh → Fr → Hh → Prop} : Wp (xm ds h) Q E = Wp (sX 3 Dj ds h) Q E := congrArg (fun m => Wp (m ds h) Q E) xm.eq_1
theorem Hj {ds : List D} {h : Hh} {Q : D → Fr → Hh → Prop} {E : bh → Fr → Hh → Prop} : Wp (zY ds h) Q E = Wp (sX 6 Fo ds h) Q E := congrArg (fun m => Wp (m ds h) Q E) zY.eq_1
theorem O5 {ds : List D} {h : Hh} {Q : D → Fr → Hh → Prop} {E : bh → Fr → Hh → Prop} : Wp (yg ds h) Q E = Wp (sX 3 Dk ds h) Q E := congrArg (fun m => Wp (m ds h) Q E) yg.eq_1
theorem aD : uB 0 = some 0 := by unfold uB; rfl
theorem aF : uB 1 = some 0 := by unfold uB; rfl
theorem aV : Bg 1 = some 1 := by unfold Bg; rfl
theorem aP : xK 0 = some 1 := by unfold xK; rfl
theorem aK : yQ 0 = some 2 := by unfold yQ; rfl
theorem aW : wQ 0 = some 3 := by unfold wQ; rfl
theorem aG : uC 0 = some wU := by unfold uC; rfl
theorem aX : Dy 0 = some Il := by unfold Dy; rfl
theorem aQ : zp 0 = some yD := by unfold zp; rfl
theorem au : wg 0 = some vY := by unfold wg; rfl
theorem aM : zN 0 = some xM := by unfold zN; rfl
theorem aY : oX 0 = some zf := by unfold oX; rfl
theorem aZ : zJ 1 = some yh := by unfold zJ; rfl
end L
namespace L
open PySem PySem.Spec L2 Pk
def Src (h : Hh) (n : Nat) (C : Int) : Prop := ∃ a b c : Int, h[n]? = some (.nl [.int a, .int b, .int c]) ∧ 0 ≤ b ∧ b < 2 ^ 33 ∧ 0 ≤ c ∧ c ≤ C
theorem log2_lt {i : Int} {k : Nat} (h : i.natAbs < 2 ^ k) (hk : 0 < k) : i.natAbs.log2 < k := by
 by_cases h0 : i.natAbs = 0
 · rw [h0]; simpa using hk
 · exact (Nat.log2_lt h0).mpr h
theorem Ol {i j : Int} (h : 0 < j) : adI i j = true := decide_eq_true h
theorem Jq {h : Hh} {n : Nat} {C m : Int} (S : Src h n C) (hC : C ≤ 100000) (hm : 0 < m) (hl : m < 2 ^ 200) :
 ∃ r h', vM [.ref n, .int m] h = .ok (.int r) [] h' ∧ Src h' n (C + 1) ∧ 0 ≤ r ∧ r < m := by
 obtain ⟨a, b, c, e, b0, b1, c0, c1⟩ := S
 have hn : n < h.length := (List.getElem?_eq_some_iff.mp e).1
 have hml : m.natAbs.log2 < 9000 := by
  refine Nat.lt_of_lt_of_le (log2_lt (k := 200) ?_ (by decide)) (by decide)
  omega
 by_cases ha : 0 < a
 · refine ⟨a % m, h.set n (.nl [.int (a / m), .int b, .int c]), ?_, ⟨a / m, b, c, by rw [aly hn], b0, b1, c0, by omega⟩, Int.emod_nonneg _ (by omega), Int.emod_lt_of_pos _ hm⟩
   simp [vM, sX, Ja, Ik, Ij, Ii, startF, az, uw, M.bind, M.ret, M.opt, bf, bj, xZ, g8, mC, bA, D.its, D.der, e, atI, ixN, cInt, ha, cQ, iy, xT, ak, D.own, Cu, adI, hm, Lg, nM, HH, aby, hml, ie, yN]
 · have z1 : (b + 32452843 * (c + 1)).natAbs < 2 ^ 64 := by omega
   generalize hx : (b + 32452843 * (c + 1)) ^ 3 % 2305843009213693921 = x
   have hx0 : 0 ≤ x := by rw [← hx]; exact Int.emod_nonneg _ (by decide)
   have hx1 : x < 2305843009213693921 := by rw [← hx]; exact Int.emod_lt_of_pos _ (by decide)
   have z2 : (x + 49979687 * (c + 1)).natAbs < 2 ^ 64 := by omega
   have l1 : (c + 1).natAbs.log2 < 64 := log2_lt (by omega) (by decide)
   have l2 : ((32452843 : Int)).natAbs.log2 < 64 := log2_lt (by decide) (by decide)
   have l3 : ((49979687 : Int)).natAbs.log2 < 64 := log2_lt (by decide) (by decide)
   have l4 : ((4096 : Int)).natAbs.log2 < 9000 := Nat.lt_trans (log2_lt (k := 64) (by decide) (by decide)) (by decide)
   have c1' : abx 32452843 (c + 1) = true := decide_eq_true (by omega)
   have c2' : abx 49979687 (c + 1) = true := decide_eq_true (by omega)
   have c3' : Wb (b + 32452843 * (c + 1)) 3 = true := by
    unfold Wb
    rw [decide_eq_true z1]
    rfl
   have c4' : Wb (x + 49979687 * (c + 1)) 2 = true := by
    unfold Wb
    rw [decide_eq_true z2]
    rfl
   have c5' : aby ((x + 49979687 * (c + 1)) ^ 2 % 2305843009213693951) 4096 = true := by
    unfold aby
    rw [decide_eq_true l4]
    rfl
   refine ⟨((x + 49979687 * (c + 1)) ^ 2 % 2305843009213693951) / 4096 % m, h.set n (.nl [.int a, .int b, .int (c + 1)]), ?_, ⟨a, b, c + 1, by rw [aly hn], b0, b1, by omega, by omega⟩, Int.emod_nonneg _ (by omega), Int.emod_lt_of_pos _ hm⟩
   have ha' : decide (0 < a) = false := decide_eq_false ha
   have e2 : ∀ v : D, (h.set n v)[n]? = some v := fun v => aly hn
   simp [vM, sX, Ja, Ik, Ij, Ii, startF, az, uw, M.bind, M.ret, M.opt, bf, bj, xZ, g8, mC, bA, D.its, D.der, e, atI, ixN, cInt, ha', cQ, iy, xT, ak, D.own, Cu, Lg, nM, HH, ie, yN, nQ, D.fz, uA, e2, c1', c2', c3', c4', c5', Ol, hm, hx]
end L
namespace L
open PySem PySem.Spec L2 Pk
theorem Ke {h : Hh} {n : Nat} {C : Int} {l : List D} (S : Src h n C) (hC : C ≤ 100000) (h0 : 0 < l.length) (hl : l.length ≤ 1000) :
 ∃ i d h', i < l.length ∧ l[i]? = some d ∧ v9 [.ref n, .fl l] h = .ok d [] h' ∧ Src h' n (C + 1) := by
 obtain ⟨r, h', e, S', r0, r1⟩ := Jq (m := (l.length : Int)) S hC (by omega) (by omega)
 have hi : r.toNat < l.length := by omega
 refine ⟨r.toNat, l[r.toNat], h', hi, alv hi, ?_, S'⟩
 have er : ((r.toNat : Nat) : Int) = r := Int.toNat_of_nonneg r0
 simp [v9, sX, Q5, startF, ie, bj, xZ, g8, nQ, bD, aa, M.bind, M.ret, M.opt, ak, D.own, D.fz, iy, uW, D.its, D.der, aH, e, v4, bA, atI, ixN, r0, r1, hi]
theorem Src.up {h : Hh} {n : Nat} {C C' : Int} (S : Src h n C) (hC : C ≤ C') : Src h n C' := by
 obtain ⟨a, b, c, q1, q2, q3, q4, q5⟩ := S
 exact ⟨a, b, c, q1, q2, q3, q4, by omega⟩
theorem agn {h : Hh} {l : List Int} {i : Nat} {t : Int} {j : Int} (hj : j = (i : Int)) (e : l[i]? = some t) : bA h (.fl (l.map .int)) (.int j) = some (.int t) := by
 subst hj
 have hl := (List.getElem?_eq_some_iff.mp e).1
 show atI (l.map D.int) i = _
 unfold atI
 have : ixN (l.map D.int).length (i : Int) = some i := by
  unfold ixN
  rw [alw, if_pos (by omega), if_pos (by omega)]
  congr 1
 rw [this]
 simp [e]
theorem aaV {h : Hh} {ns : List Int} {k : Nat} (hk : k ≤ 62) : ∃ a b, xr [.kl (ns.map .int), .int k] h = .ok (.nl [.int a, .int b, .int 0]) [] h ∧ 0 ≤ b ∧ b < 2 ^ 33 := by
 have p18 : Wb 10 18 = true := by decide
 have b3 : 3 ≤ big := by decide
 have c1 : abx 15485863 (k : Int) = true := by
  have l2 : ((15485863 : Int)).natAbs.log2 < 64 := log2_lt (by decide) (by decide)
  have l1 : ((k : Int)).natAbs.log2 < 64 := log2_lt (by omega) (by decide)
  exact decide_eq_true (by omega)
 have main : ∀ v : Int, (if (k : Int) < ns.length then bA h (.kl (ns.map .int)) (.int k) = some (.int v) else v = 0) → ∃ a b, xr [.kl (ns.map .int), .int k] h = .ok (.nl [.int a, .int b, .int 0]) [] h ∧ 0 ≤ b ∧ b < 2 ^ 33 := fun v hv => by
  have hb0 : 0 ≤ v % 2147483629 := Int.emod_nonneg _ (by decide)
  have hb1 : v % 2147483629 < 2147483629 := Int.emod_lt_of_pos _ (by decide)
  refine ⟨if (1000000000000000000 : Int) ≤ (if v < 0 then -v else v) then (if v < 0 then -v else v) else 0, v % 2147483629 + 15485863 * (k : Int) + 7919, ?_, by omega, by omega⟩
  by_cases hl : (k : Int) < ns.length
  · rw [if_pos hl] at hv
    have hl' : k < ns.length := by omega
    by_cases hbig : (1000000000000000000 : Int) ≤ (if v < 0 then -v else v)
    · simp [xr, sX, BZ, Bt, startF, az, cQ, Ao, bf, ak, D.own, M.bind, M.ret, M.opt, iy, uW, g8, D.its, D.der, cInt, hl, hl', bj, xZ, hv, mC, Nv, Cu, p18, hbig, ie, yK, aa, nQ, uA, D.fz, xT, Ol, c1, b3]
    · simp [xr, sX, BZ, Bt, startF, az, cQ, Ao, bf, ak, D.own, M.bind, M.ret, M.opt, iy, uW, g8, D.its, D.der, cInt, hl, hl', bj, xZ, hv, mC, Nv, Cu, p18, hbig, ie, yK, aa, nQ, uA, D.fz, xT, Ol, c1, b3]
  · rw [if_neg hl] at hv
    subst hv
    have hl' : ¬ k < ns.length := by omega
    simp [xr, sX, BZ, Bt, startF, az, cQ, Ao, bf, ak, D.own, M.bind, M.ret, M.opt, iy, uW, g8, D.its, D.der, cInt, hl, hl', mC, Nv, Cu, p18, ie, yK, aa, nQ, uA, D.fz, xT, Ol, c1, b3]
 by_cases hl : (k : Int) < ns.length
 · have e : ns[k]? = some (ns[k]'(by omega)) := alv _
   exact main _ (by rw [if_pos hl]; exact agn (h := h) rfl e)
 · exact main 0 (by rw [if_neg hl])
end L
namespace L
open PySem PySem.Spec L2 Pk
theorem Xx {t : M Bool} {b : M Fl} {Q : Fl → Fr → Hh → Prop} {E : bh → Fr → Hh → Prop} (I : Nat → Fr → Hh → Prop)
 (st : ∀ k fr h, I k fr h → Wp (t fr h) (fun c fr h => if c then Wp (b fr h) (fun f fr h => Vq f (∃ j, j < k ∧ I j fr h) fun f => Q f fr h) E else Q .nx fr h) E) :
 ∀ (n k : Nat) (fr : Fr) (h : Hh), k < n → I k fr h → Wp (yc t b n fr h) Q E := by
 intro n
 induction n with
 | zero => intro k fr h hk; exact absurd hk (Nat.not_lt_zero _)
 | succ n ih =>
   intro k fr h hk i
   rw [ado]
   refine (st k fr h i).mono fun c fr h z => ?_
   cases c with
   | false => exact z
   | true =>
     rw [if_pos rfl] at z ⊢
     refine z.mono fun f fr h y => ?_
     cases f with
     | nx => rw [oG] at y ⊢; obtain ⟨j, hj, i⟩ := y; exact ih j fr h (by omega) i
     | ct => rw [oV] at y ⊢; obtain ⟨j, hj, i⟩ := y; exact ih j fr h (by omega) i
     | brk => rw [iT] at y ⊢; exact y
     | rt d => rw [oW] at y ⊢; exact y
def Xy : Str := "abcdefghijklmnopqrstuvwxyz"
def O6 : Str := "0123456789"
def isIn (S : Str) (c : Nat) : Bool := decide (c ∈ S.cps.toList)
def rE (S : Str) (cs : List Nat) (e : Nat) : Nat := e + ((cs.drop e).takeWhile (isIn S)).length
theorem ahO {S : Str} {cs : List Nat} {e c : Nat} (hc : cs[e]? = some c) (h : isIn S c = true) : rE S cs e = rE S cs (e + 1) := by
 unfold rE
 obtain ⟨hl, ec⟩ := List.getElem?_eq_some_iff.mp hc
 rw [List.drop_eq_getElem_cons hl, ec, List.takeWhile_cons, if_pos h, ald]
 omega
theorem ago {S : Str} {cs : List Nat} {e c : Nat} (hc : cs[e]? = some c) (h : isIn S c = false) : rE S cs e = e := by
 unfold rE
 obtain ⟨hl, ec⟩ := List.getElem?_eq_some_iff.mp hc
 rw [List.drop_eq_getElem_cons hl, ec, List.takeWhile_cons, h]
 rfl
theorem ahP {S : Str} {cs : List Nat} {e : Nat} (hl : cs.length ≤ e) : rE S cs e = e := by
 unfold rE
 rw [List.drop_of_length_le hl]
 rfl
theorem Yz {S : Str} {cs : List Nat} {e : Nat} (hl : e ≤ cs.length) : e ≤ rE S cs e ∧ rE S cs e ≤ cs.length := by
 unfold rE
 have h1 : ((cs.drop e).takeWhile (isIn S)).length ≤ (cs.drop e).length := (List.takeWhile_sublist _).length_le
 rw [List.length_drop] at h1
 omega
def wE (cs : List Nat) (a c : Nat) : Nat := if isIn Xy c then (if isIn O6 c then rE O6 cs (rE Xy cs (a + 1)) else rE Xy cs (a + 1)) else if isIn O6 c then rE O6 cs (a + 1) else a + 1
def cs (z : Str) : List Nat := z.cps.toList
theorem Hk {z : Str} : z.length = (cs z).length := by simp [cs, Str.length]
theorem Sw {h : Hh} {z : Str} {a c : Nat} (hz : z.length ≤ 1000) (hc : (cs z)[a]? = some c) : bA h (.str z) (.int (a : Int)) = some (.str ⟨#[c]⟩) := by
 have hl : a < (cs z).length := (List.getElem?_eq_some_iff.mp hc).1
 show (if z.length ≤ big then (atI z.cps.toList (a : Int)).map fun c => D.str ⟨#[c]⟩ else none) = _
 rw [if_pos (Nat.le_trans hz (by decide))]
 have e : atI z.cps.toList (a : Int) = some c := by
  unfold atI ixN
  have hl' : a < z.cps.toList.length := hl
  have h1 : (0 : Int) ≤ (a : Int) ∧ (a : Int) < (z.cps.toList.length : Int) := ⟨by omega, by omega⟩
  simp only [h1, and_self, if_true, Int.toNat_natCast]
  exact hc
 rw [e]
 rfl
theorem ahQ {h : Hh} {c : Nat} {S : Str} : CJ h (.str ⟨#[c]⟩) (.str S) = some (isIn S c) := rfl
theorem Xk {h : Hh} {z : Str} (hz : z.length ≤ 1000) : uW h (.str z) = some (.int ((cs z).length : Nat)) := by
 show (if z.length ≤ big then some (D.int z.length) else none) = _
 rw [if_pos (Nat.le_trans hz (by decide)), Hk]
theorem Rk {h : Hh} {z S : Str} {x : Option D} {e : Nat} {Q : Fl → Fr → Hh → Prop} (hz : z.length ≤ 59) (he : e ≤ (cs z).length)
 (q : Q .nx [some (.str z), x, some (.int (rE S (cs z) e : Nat)), some (.str S)] h) :
 Wp (yc (Mi (bf Om (ak 2) (iy uW (g8 0))) (bf CJ (bj 0 (ak 2) bA) (g8 3))) Ca 60 [some (.str z), x, some (.int (e : Nat)), some (.str S)] h) Q wO := by
 have hz' : z.length ≤ 1000 := by omega
 refine Xx (fun k fr h' => h' = h ∧ ∃ e' : Nat, fr = [some (.str z), x, some (.int (e' : Nat)), some (.str S)] ∧ k = (cs z).length - e' ∧ e' ≤ (cs z).length ∧ rE S (cs z) e' = rE S (cs z) e) ?_ 60 ((cs z).length - e) _ _ (by rw [Hk] at hz; omega) ⟨rfl, e, rfl, rfl, he, rfl⟩
 rintro k fr h' ⟨rfl, e', rfl, rfl, he', hr⟩
 have l1 := Xk (h := h') hz'
 by_cases hl : e' < (cs z).length
 · have hc : (cs z)[e']? = some (cs z)[e'] := alv hl
   generalize (cs z)[e'] = c at hc
   have i1 := Sw (h := h') hz' hc
   have i2 := ahQ (h := h') (c := c) (S := S)
   have d1 : decide ((e' : Int) < ((cs z).length : Nat)) = true := decide_eq_true (by omega)
   cases hi : isIn S c with
   | true =>
     simp only [↓oH, ↓nW, ↓wp_bind, ↓pq, ↓uE, ↓tM, ↓pA, ↓iV, ↓oM, ↓pB, ↓tD, ↓tE, ↓tO, ↓pC, ↓iW, ↓pD, ↓tQ, ↓iY, ↓iZ, ↓pF, ↓cX, ↓tR, ↓cY, ↓cZ, ↓pG, ↓pH, ↓jc, ↓tU, ↓qL, ↓je, ↓pJ, ↓tV, ↓iD, ↓jf, ↓jh, ↓oN, ↓pK, ↓ji, ↓oO, ↓pM, ↓pN, ↓jk, ↓iG, ↓uv, ↓iH, ↓dw, ↓bF, ↓dB, ↓pO, ↓jn, ↓jo, ↓jr, ↓jt, ↓ju, ↓jw, ↓jx, ↓bG, ↓jy, ↓jA, ↓jB, ↓kJ, ↓qP, ↓jC, ↓iI, ↓jD, ↓j5, ↓km, ↓kE, ↓iK, ↓iQ, ig, oZ, o5, oR, iz, uF, uG, ir, o7, oJ, o8, iU, o9, ph, oK, ou, oA, iw, oF, dC, jV, qH, jm, ↓lu, ↓lA, ↓eX, ↓qQ, ↓ug, ↓lB, ↓lC, ↓oY, ↓lK, ↓lL, ↓qX, ↓qY, ↓qZ, ↓rC, ↓lO, ↓fj, ↓uh, ↓fu, ↓lQ, ↓lX, ↓lY, ↓fL, ↓fM, ↓fO, ↓cC, ↓rF, ↓lZ, ↓fQ, ↓fU, ↓rG, ↓mG, ↓fV, ↓fX, ↓fY, ↓rH, ↓rJ, ↓rK, ↓rN, ↓mK, ↓fZ, ↓cD, ↓cG, ↓rW, ↓rY, ↓gq, ↓rZ, ↓mQ, ↓mU, ↓mV, ↓gA, ↓gG, ↓gH, ↓cJ, ↓mX, ↓gK, ↓sr, ↓gM, ↓gQ, ↓mY, ↓m7, ↓mZ, ↓ni, ↓nj, ↓gY, ↓nu, ↓gU, ↓cO, ↓su, ↓sE, ↓nA, ↓sG, jE, pZ, pP, tW, jF, qb, jG, fz_non, jH, qd, pQ, tX, pU, tY, jJ, qj, jK, ql, jL, qm, pW, tZ, pX, t7, pY, t8, il, nZ, oE, oh, dD, jM, iJ, nR, dF, qp, jN, nO, uK, uL, uN, uO, uP, uQ, uR, ue, nJ, tG, dG, dH, jO, dI, dJ, bH, dM, dN, bJ, dO, oU, qu, qw, qC, jP, jQ, dR, uf, jR, qD, jT, jU, qF, qG, tH, tK, dY, jW, dZ, bT, d8, bU, jX, d9, bV, eE, eG, jY, jZ, uJ, vD, vK, bY, bZ, eU, kW, eO, bW, qJ, qK, j6, eQ, j8, j9, kh, qO, j7, qM, qN, aln, alo, alp, ale, Int.reduceToNat, bK, bL, dU, bM, bO, dW, dX, bQ, bR, eY, eZ, lM, rA, rB, Option.isSome_some, Option.isSome_none, lN, Int.reduceEq, beq_self_eq_true, cV, cW, fB, lU, fD, fG, fH, lV, lW, fJ, fK, fP, cA, bu, mD, mF, mH, mJ, gh, cH, cI, mO, gj, rO, ul, rP, rQ, rR, uU, uV, gJ, mW, oG, oV, iT, oW, gR, m9, nH, kY, lg, eV, kZ, lD, qR, lE, lF, qT, lG, lH, lJ, qU, qW, startF, ala, alc, alh, alm, alb, ald, ali, alk, alq, alr, alj, alf, alg, Nat.reduceAdd, Nat.reduceSub, Nat.reduceLeDiff, Nat.reduceLT, Nat.zero_add, and_true, true_and, and_self, false_and, and_false, not_true_eq_false, not_false_eq_true, eq_self, decide_true, decide_false, Bool.not_true, Bool.not_false, Bool.true_and, Bool.false_and, Bool.and_true, Bool.and_false, Bool.or_true, Bool.or_false, Bool.true_or, Bool.false_or, Option.map_some, Option.map_none, Int.toNat_natCast, ↓reduceIte, Bool.false_eq_true, reduceCtorEq, Int.cast_ofNat_Int, Int.reduceLT, Int.reduceLE, Int.reduceAdd, Int.reduceSub, Int.reduceNeg, Int.natCast_zero, qI, and_assoc, ↓uZ, ↓u5, ↓u6, ↓vW, ↓aU, aD, aF, aV, aP, aK, aW, aG, aX, aQ, au, aM, aY, aZ, l1, i1, i2, d1, hi, oG]
     refine ⟨(cs z).length - (e' + 1), by omega, e' + 1, by simp only [Int.natCast_add, Int.natCast_one, alf, alg], rfl, by omega, ?_⟩
     rw [← hr, ahO hc hi]
   | false =>
     simp only [↓oH, ↓nW, ↓wp_bind, ↓pq, ↓uE, ↓tM, ↓pA, ↓iV, ↓oM, ↓pB, ↓tD, ↓tE, ↓tO, ↓pC, ↓iW, ↓pD, ↓tQ, ↓iY, ↓iZ, ↓pF, ↓cX, ↓tR, ↓cY, ↓cZ, ↓pG, ↓pH, ↓jc, ↓tU, ↓qL, ↓je, ↓pJ, ↓tV, ↓iD, ↓jf, ↓jh, ↓oN, ↓pK, ↓ji, ↓oO, ↓pM, ↓pN, ↓jk, ↓iG, ↓uv, ↓iH, ↓dw, ↓bF, ↓dB, ↓pO, ↓jn, ↓jo, ↓jr, ↓jt, ↓ju, ↓jw, ↓jx, ↓bG, ↓jy, ↓jA, ↓jB, ↓kJ, ↓qP, ↓jC, ↓iI, ↓jD, ↓j5, ↓km, ↓kE, ↓iK, ↓iQ, ig, oZ, o5, oR, iz, uF, uG, ir, o7, oJ, o8, iU, o9, ph, oK, ou, oA, iw, oF, dC, jV, qH, jm, ↓lu, ↓lA, ↓eX, ↓qQ, ↓ug, ↓lB, ↓lC, ↓oY, ↓lK, ↓lL, ↓qX, ↓qY, ↓qZ, ↓rC, ↓lO, ↓fj, ↓uh, ↓fu, ↓lQ, ↓lX, ↓lY, ↓fL, ↓fM, ↓fO, ↓cC, ↓rF, ↓lZ, ↓fQ, ↓fU, ↓rG, ↓mG, ↓fV, ↓fX, ↓fY, ↓rH, ↓rJ, ↓rK, ↓rN, ↓mK, ↓fZ, ↓cD, ↓cG, ↓rW, ↓rY, ↓gq, ↓rZ, ↓mQ, ↓mU, ↓mV, ↓gA, ↓gG, ↓gH, ↓cJ, ↓mX, ↓gK, ↓sr, ↓gM, ↓gQ, ↓mY, ↓m7, ↓mZ, ↓ni, ↓nj, ↓gY, ↓nu, ↓gU, ↓cO, ↓su, ↓sE, ↓nA, ↓sG, jE, pZ, pP, tW, jF, qb, jG, fz_non, jH, qd, pQ, tX, pU, tY, jJ, qj, jK, ql, jL, qm, pW, tZ, pX, t7, pY, t8, il, nZ, oE, oh, dD, jM, iJ, nR, dF, qp, jN, nO, uK, uL, uN, uO, uP, uQ, uR, ue, nJ, tG, dG, dH, jO, dI, dJ, bH, dM, dN, bJ, dO, oU, qu, qw, qC, jP, jQ, dR, uf, jR, qD, jT, jU, qF, qG, tH, tK, dY, jW, dZ, bT, d8, bU, jX, d9, bV, eE, eG, jY, jZ, uJ, vD, vK, bY, bZ, eU, kW, eO, bW, qJ, qK, j6, eQ, j8, j9, kh, qO, j7, qM, qN, aln, alo, alp, ale, Int.reduceToNat, bK, bL, dU, bM, bO, dW, dX, bQ, bR, eY, eZ, lM, rA, rB, Option.isSome_some, Option.isSome_none, lN, Int.reduceEq, beq_self_eq_true, cV, cW, fB, lU, fD, fG, fH, lV, lW, fJ, fK, fP, cA, bu, mD, mF, mH, mJ, gh, cH, cI, mO, gj, rO, ul, rP, rQ, rR, uU, uV, gJ, mW, oG, oV, iT, oW, gR, m9, nH, kY, lg, eV, kZ, lD, qR, lE, lF, qT, lG, lH, lJ, qU, qW, startF, ala, alc, alh, alm, alb, ald, ali, alk, alq, alr, alj, alf, alg, Nat.reduceAdd, Nat.reduceSub, Nat.reduceLeDiff, Nat.reduceLT, Nat.zero_add, and_true, true_and, and_self, false_and, and_false, not_true_eq_false, not_false_eq_true, eq_self, decide_true, decide_false, Bool.not_true, Bool.not_false, Bool.true_and, Bool.false_and, Bool.and_true, Bool.and_false, Bool.or_true, Bool.or_false, Bool.true_or, Bool.false_or, Option.map_some, Option.map_none, Int.toNat_natCast, ↓reduceIte, Bool.false_eq_true, reduceCtorEq, Int.cast_ofNat_Int, Int.reduceLT, Int.reduceLE, Int.reduceAdd, Int.reduceSub, Int.reduceNeg, Int.natCast_zero, qI, and_assoc, ↓uZ, ↓u5, ↓u6, ↓vW, ↓aU, aD, aF, aV, aP, aK, aW, aG, aX, aQ, au, aM, aY, aZ, l1, i1, i2, d1, hi]
     rw [← hr, ago hc hi] at q
     exact q
 · have d1 : decide ((e' : Int) < ((cs z).length : Nat)) = false := decide_eq_false (by omega)
   simp only [↓oH, ↓nW, ↓wp_bind, ↓pq, ↓uE, ↓tM, ↓pA, ↓iV, ↓oM, ↓pB, ↓tD, ↓tE, ↓tO, ↓pC, ↓iW, ↓pD, ↓tQ, ↓iY, ↓iZ, ↓pF, ↓cX, ↓tR, ↓cY, ↓cZ, ↓pG, ↓pH, ↓jc, ↓tU, ↓qL, ↓je, ↓pJ, ↓tV, ↓iD, ↓jf, ↓jh, ↓oN, ↓pK, ↓ji, ↓oO, ↓pM, ↓pN, ↓jk, ↓iG, ↓uv, ↓iH, ↓dw, ↓bF, ↓dB, ↓pO, ↓jn, ↓jo, ↓jr, ↓jt, ↓ju, ↓jw, ↓jx, ↓bG, ↓jy, ↓jA, ↓jB, ↓kJ, ↓qP, ↓jC, ↓iI, ↓jD, ↓j5, ↓km, ↓kE, ↓iK, ↓iQ, ig, oZ, o5, oR, iz, uF, uG, ir, o7, oJ, o8, iU, o9, ph, oK, ou, oA, iw, oF, dC, jV, qH, jm, ↓lu, ↓lA, ↓eX, ↓qQ, ↓ug, ↓lB, ↓lC, ↓oY, ↓lK, ↓lL, ↓qX, ↓qY, ↓qZ, ↓rC, ↓lO, ↓fj, ↓uh, ↓fu, ↓lQ, ↓lX, ↓lY, ↓fL, ↓fM, ↓fO, ↓cC, ↓rF, ↓lZ, ↓fQ, ↓fU, ↓rG, ↓mG, ↓fV, ↓fX, ↓fY, ↓rH, ↓rJ, ↓rK, ↓rN, ↓mK, ↓fZ, ↓cD, ↓cG, ↓rW, ↓rY, ↓gq, ↓rZ, ↓mQ, ↓mU, ↓mV, ↓gA, ↓gG, ↓gH, ↓cJ, ↓mX, ↓gK, ↓sr, ↓gM, ↓gQ, ↓mY, ↓m7, ↓mZ, ↓ni, ↓nj, ↓gY, ↓nu, ↓gU, ↓cO, ↓su, ↓sE, ↓nA, ↓sG, jE, pZ, pP, tW, jF, qb, jG, fz_non, jH, qd, pQ, tX, pU, tY, jJ, qj, jK, ql, jL, qm, pW, tZ, pX, t7, pY, t8, il, nZ, oE, oh, dD, jM, iJ, nR, dF, qp, jN, nO, uK, uL, uN, uO, uP, uQ, uR, ue, nJ, tG, dG, dH, jO, dI, dJ, bH, dM, dN, bJ, dO, oU, qu, qw, qC, jP, jQ, dR, uf, jR, qD, jT, jU, qF, qG, tH, tK, dY, jW, dZ, bT, d8, bU, jX, d9, bV, eE, eG, jY, jZ, uJ, vD, vK, bY, bZ, eU, kW, eO, bW, qJ, qK, j6, eQ, j8, j9, kh, qO, j7, qM, qN, aln, alo, alp, ale, Int.reduceToNat, bK, bL, dU, bM, bO, dW, dX, bQ, bR, eY, eZ, lM, rA, rB, Option.isSome_some, Option.isSome_none, lN, Int.reduceEq, beq_self_eq_true, cV, cW, fB, lU, fD, fG, fH, lV, lW, fJ, fK, fP, cA, bu, mD, mF, mH, mJ, gh, cH, cI, mO, gj, rO, ul, rP, rQ, rR, uU, uV, gJ, mW, oG, oV, iT, oW, gR, m9, nH, kY, lg, eV, kZ, lD, qR, lE, lF, qT, lG, lH, lJ, qU, qW, startF, ala, alc, alh, alm, alb, ald, ali, alk, alq, alr, alj, alf, alg, Nat.reduceAdd, Nat.reduceSub, Nat.reduceLeDiff, Nat.reduceLT, Nat.zero_add, and_true, true_and, and_self, false_and, and_false, not_true_eq_false, not_false_eq_true, eq_self, decide_true, decide_false, Bool.not_true, Bool.not_false, Bool.true_and, Bool.false_and, Bool.and_true, Bool.and_false, Bool.or_true, Bool.or_false, Bool.true_or, Bool.false_or, Option.map_some, Option.map_none, Int.toNat_natCast, ↓reduceIte, Bool.false_eq_true, reduceCtorEq, Int.cast_ofNat_Int, Int.reduceLT, Int.reduceLE, Int.reduceAdd, Int.reduceSub, Int.reduceNeg, Int.natCast_zero, qI, and_assoc, ↓uZ, ↓u5, ↓u6, ↓vW, ↓aU, aD, aF, aV, aP, aK, aW, aG, aX, aQ, au, aM, aY, aZ, l1, d1]
   rw [← hr, ahP (by omega)] at q
   exact q
end L
namespace L
open PySem PySem.Spec L2 Pk
theorem Yd {h : Hh} {z : Str} {a c : Nat} (hz : z.length ≤ 59) (hc : (cs z)[a]? = some c) : Bv [.str z, .int (a : Nat)] h = .ok (.int (wE (cs z) a c : Nat)) [] h := by
 have hl : a < (cs z).length := (List.getElem?_eq_some_iff.mp hc).1
 have i1 := Sw (h := h) (by omega) hc
 have i2 : CJ h (.str ⟨#[c]⟩) (.str "abcdefghijklmnopqrstuvwxyz") = some (isIn Xy c) := rfl
 have i3 : CJ h (.str ⟨#[c]⟩) (.str "0123456789") = some (isIn O6 c) := rfl
 have ea : (a : Int) + 1 = ((a + 1 : Nat) : Int) := by simp
 have r1 := Yz (S := Xy) (cs := cs z) (e := a + 1) hl
 apply Wp.eq
 unfold wE
 cases h1 : isIn Xy c with
 | true =>
   simp only [↓oH, ↓nW, ↓wp_bind, ↓pq, ↓uE, ↓tM, ↓pA, ↓iV, ↓oM, ↓pB, ↓tD, ↓tE, ↓tO, ↓pC, ↓iW, ↓pD, ↓tQ, ↓iY, ↓iZ, ↓pF, ↓cX, ↓tR, ↓cY, ↓cZ, ↓pG, ↓pH, ↓jc, ↓tU, ↓qL, ↓je, ↓pJ, ↓tV, ↓iD, ↓jf, ↓jh, ↓oN, ↓pK, ↓ji, ↓oO, ↓pM, ↓pN, ↓jk, ↓iG, ↓uv, ↓iH, ↓dw, ↓bF, ↓dB, ↓pO, ↓jn, ↓jo, ↓jr, ↓jt, ↓ju, ↓jw, ↓jx, ↓bG, ↓jy, ↓jA, ↓jB, ↓kJ, ↓qP, ↓jC, ↓iI, ↓jD, ↓j5, ↓km, ↓kE, ↓iK, ↓iQ, ig, oZ, o5, oR, iz, uF, uG, ir, o7, oJ, o8, iU, o9, ph, oK, ou, oA, iw, oF, dC, jV, qH, jm, ↓lu, ↓lA, ↓eX, ↓qQ, ↓ug, ↓lB, ↓lC, ↓oY, ↓lK, ↓lL, ↓qX, ↓qY, ↓qZ, ↓rC, ↓lO, ↓fj, ↓uh, ↓fu, ↓lQ, ↓lX, ↓lY, ↓fL, ↓fM, ↓fO, ↓cC, ↓rF, ↓lZ, ↓fQ, ↓fU, ↓rG, ↓mG, ↓fV, ↓fX, ↓fY, ↓rH, ↓rJ, ↓rK, ↓rN, ↓mK, ↓fZ, ↓cD, ↓cG, ↓rW, ↓rY, ↓gq, ↓rZ, ↓mQ, ↓mU, ↓mV, ↓gA, ↓gG, ↓gH, ↓cJ, ↓mX, ↓gK, ↓sr, ↓gM, ↓gQ, ↓mY, ↓m7, ↓mZ, ↓ni, ↓nj, ↓gY, ↓nu, ↓gU, ↓cO, ↓su, ↓sE, ↓nA, ↓sG, jE, pZ, pP, tW, jF, qb, jG, fz_non, jH, qd, pQ, tX, pU, tY, jJ, qj, jK, ql, jL, qm, pW, tZ, pX, t7, pY, t8, il, nZ, oE, oh, dD, jM, iJ, nR, dF, qp, jN, nO, uK, uL, uN, uO, uP, uQ, uR, ue, nJ, tG, dG, dH, jO, dI, dJ, bH, dM, dN, bJ, dO, oU, qu, qw, qC, jP, jQ, dR, uf, jR, qD, jT, jU, qF, qG, tH, tK, dY, jW, dZ, bT, d8, bU, jX, d9, bV, eE, eG, jY, jZ, uJ, vD, vK, bY, bZ, eU, kW, eO, bW, qJ, qK, j6, eQ, j8, j9, kh, qO, j7, qM, qN, aln, alo, alp, ale, Int.reduceToNat, bK, bL, dU, bM, bO, dW, dX, bQ, bR, eY, eZ, lM, rA, rB, Option.isSome_some, Option.isSome_none, lN, Int.reduceEq, beq_self_eq_true, cV, cW, fB, lU, fD, fG, fH, lV, lW, fJ, fK, fP, cA, bu, mD, mF, mH, mJ, gh, cH, cI, mO, gj, rO, ul, rP, rQ, rR, uU, uV, gJ, mW, oG, oV, iT, oW, gR, m9, nH, kY, lg, eV, kZ, lD, qR, lE, lF, qT, lG, lH, lJ, qU, qW, startF, ala, alc, alh, alm, alb, ald, ali, alk, alq, alr, alj, alf, alg, Nat.reduceAdd, Nat.reduceSub, Nat.reduceLeDiff, Nat.reduceLT, Nat.zero_add, and_true, true_and, and_self, false_and, and_false, not_true_eq_false, not_false_eq_true, eq_self, decide_true, decide_false, Bool.not_true, Bool.not_false, Bool.true_and, Bool.false_and, Bool.and_true, Bool.and_false, Bool.or_true, Bool.or_false, Bool.true_or, Bool.false_or, Option.map_some, Option.map_none, Int.toNat_natCast, ↓reduceIte, Bool.false_eq_true, reduceCtorEq, Int.cast_ofNat_Int, Int.reduceLT, Int.reduceLE, Int.reduceAdd, Int.reduceSub, Int.reduceNeg, Int.natCast_zero, qI, and_assoc, ↓uZ, ↓u5, ↓u6, ↓vW, ↓aU, aD, aF, aV, aP, aK, aW, aG, aX, aQ, au, aM, aY, aZ, ↓M3, i1, i2, i3, h1, ea]
   refine Rk hz hl ?_
   cases h2 : isIn O6 c with
   | true =>
     simp only [↓oH, ↓nW, ↓wp_bind, ↓pq, ↓uE, ↓tM, ↓pA, ↓iV, ↓oM, ↓pB, ↓tD, ↓tE, ↓tO, ↓pC, ↓iW, ↓pD, ↓tQ, ↓iY, ↓iZ, ↓pF, ↓cX, ↓tR, ↓cY, ↓cZ, ↓pG, ↓pH, ↓jc, ↓tU, ↓qL, ↓je, ↓pJ, ↓tV, ↓iD, ↓jf, ↓jh, ↓oN, ↓pK, ↓ji, ↓oO, ↓pM, ↓pN, ↓jk, ↓iG, ↓uv, ↓iH, ↓dw, ↓bF, ↓dB, ↓pO, ↓jn, ↓jo, ↓jr, ↓jt, ↓ju, ↓jw, ↓jx, ↓bG, ↓jy, ↓jA, ↓jB, ↓kJ, ↓qP, ↓jC, ↓iI, ↓jD, ↓j5, ↓km, ↓kE, ↓iK, ↓iQ, ig, oZ, o5, oR, iz, uF, uG, ir, o7, oJ, o8, iU, o9, ph, oK, ou, oA, iw, oF, dC, jV, qH, jm, ↓lu, ↓lA, ↓eX, ↓qQ, ↓ug, ↓lB, ↓lC, ↓oY, ↓lK, ↓lL, ↓qX, ↓qY, ↓qZ, ↓rC, ↓lO, ↓fj, ↓uh, ↓fu, ↓lQ, ↓lX, ↓lY, ↓fL, ↓fM, ↓fO, ↓cC, ↓rF, ↓lZ, ↓fQ, ↓fU, ↓rG, ↓mG, ↓fV, ↓fX, ↓fY, ↓rH, ↓rJ, ↓rK, ↓rN, ↓mK, ↓fZ, ↓cD, ↓cG, ↓rW, ↓rY, ↓gq, ↓rZ, ↓mQ, ↓mU, ↓mV, ↓gA, ↓gG, ↓gH, ↓cJ, ↓mX, ↓gK, ↓sr, ↓gM, ↓gQ, ↓mY, ↓m7, ↓mZ, ↓ni, ↓nj, ↓gY, ↓nu, ↓gU, ↓cO, ↓su, ↓sE, ↓nA, ↓sG, jE, pZ, pP, tW, jF, qb, jG, fz_non, jH, qd, pQ, tX, pU, tY, jJ, qj, jK, ql, jL, qm, pW, tZ, pX, t7, pY, t8, il, nZ, oE, oh, dD, jM, iJ, nR, dF, qp, jN, nO, uK, uL, uN, uO, uP, uQ, uR, ue, nJ, tG, dG, dH, jO, dI, dJ, bH, dM, dN, bJ, dO, oU, qu, qw, qC, jP, jQ, dR, uf, jR, qD, jT, jU, qF, qG, tH, tK, dY, jW, dZ, bT, d8, bU, jX, d9, bV, eE, eG, jY, jZ, uJ, vD, vK, bY, bZ, eU, kW, eO, bW, qJ, qK, j6, eQ, j8, j9, kh, qO, j7, qM, qN, aln, alo, alp, ale, Int.reduceToNat, bK, bL, dU, bM, bO, dW, dX, bQ, bR, eY, eZ, lM, rA, rB, Option.isSome_some, Option.isSome_none, lN, Int.reduceEq, beq_self_eq_true, cV, cW, fB, lU, fD, fG, fH, lV, lW, fJ, fK, fP, cA, bu, mD, mF, mH, mJ, gh, cH, cI, mO, gj, rO, ul, rP, rQ, rR, uU, uV, gJ, mW, oG, oV, iT, oW, gR, m9, nH, kY, lg, eV, kZ, lD, qR, lE, lF, qT, lG, lH, lJ, qU, qW, startF, ala, alc, alh, alm, alb, ald, ali, alk, alq, alr, alj, alf, alg, Nat.reduceAdd, Nat.reduceSub, Nat.reduceLeDiff, Nat.reduceLT, Nat.zero_add, and_true, true_and, and_self, false_and, and_false, not_true_eq_false, not_false_eq_true, eq_self, decide_true, decide_false, Bool.not_true, Bool.not_false, Bool.true_and, Bool.false_and, Bool.and_true, Bool.and_false, Bool.or_true, Bool.or_false, Bool.true_or, Bool.false_or, Option.map_some, Option.map_none, Int.toNat_natCast, ↓reduceIte, Bool.false_eq_true, reduceCtorEq, Int.cast_ofNat_Int, Int.reduceLT, Int.reduceLE, Int.reduceAdd, Int.reduceSub, Int.reduceNeg, Int.natCast_zero, qI, and_assoc, ↓uZ, ↓u5, ↓u6, ↓vW, ↓aU, aD, aF, aV, aP, aK, aW, aG, aX, aQ, au, aM, aY, aZ, i1, i2, i3, h2]
     refine Rk hz r1.2 ?_
     simp only [↓oH, ↓nW, ↓wp_bind, ↓pq, ↓uE, ↓tM, ↓pA, ↓iV, ↓oM, ↓pB, ↓tD, ↓tE, ↓tO, ↓pC, ↓iW, ↓pD, ↓tQ, ↓iY, ↓iZ, ↓pF, ↓cX, ↓tR, ↓cY, ↓cZ, ↓pG, ↓pH, ↓jc, ↓tU, ↓qL, ↓je, ↓pJ, ↓tV, ↓iD, ↓jf, ↓jh, ↓oN, ↓pK, ↓ji, ↓oO, ↓pM, ↓pN, ↓jk, ↓iG, ↓uv, ↓iH, ↓dw, ↓bF, ↓dB, ↓pO, ↓jn, ↓jo, ↓jr, ↓jt, ↓ju, ↓jw, ↓jx, ↓bG, ↓jy, ↓jA, ↓jB, ↓kJ, ↓qP, ↓jC, ↓iI, ↓jD, ↓j5, ↓km, ↓kE, ↓iK, ↓iQ, ig, oZ, o5, oR, iz, uF, uG, ir, o7, oJ, o8, iU, o9, ph, oK, ou, oA, iw, oF, dC, jV, qH, jm, ↓lu, ↓lA, ↓eX, ↓qQ, ↓ug, ↓lB, ↓lC, ↓oY, ↓lK, ↓lL, ↓qX, ↓qY, ↓qZ, ↓rC, ↓lO, ↓fj, ↓uh, ↓fu, ↓lQ, ↓lX, ↓lY, ↓fL, ↓fM, ↓fO, ↓cC, ↓rF, ↓lZ, ↓fQ, ↓fU, ↓rG, ↓mG, ↓fV, ↓fX, ↓fY, ↓rH, ↓rJ, ↓rK, ↓rN, ↓mK, ↓fZ, ↓cD, ↓cG, ↓rW, ↓rY, ↓gq, ↓rZ, ↓mQ, ↓mU, ↓mV, ↓gA, ↓gG, ↓gH, ↓cJ, ↓mX, ↓gK, ↓sr, ↓gM, ↓gQ, ↓mY, ↓m7, ↓mZ, ↓ni, ↓nj, ↓gY, ↓nu, ↓gU, ↓cO, ↓su, ↓sE, ↓nA, ↓sG, jE, pZ, pP, tW, jF, qb, jG, fz_non, jH, qd, pQ, tX, pU, tY, jJ, qj, jK, ql, jL, qm, pW, tZ, pX, t7, pY, t8, il, nZ, oE, oh, dD, jM, iJ, nR, dF, qp, jN, nO, uK, uL, uN, uO, uP, uQ, uR, ue, nJ, tG, dG, dH, jO, dI, dJ, bH, dM, dN, bJ, dO, oU, qu, qw, qC, jP, jQ, dR, uf, jR, qD, jT, jU, qF, qG, tH, tK, dY, jW, dZ, bT, d8, bU, jX, d9, bV, eE, eG, jY, jZ, uJ, vD, vK, bY, bZ, eU, kW, eO, bW, qJ, qK, j6, eQ, j8, j9, kh, qO, j7, qM, qN, aln, alo, alp, ale, Int.reduceToNat, bK, bL, dU, bM, bO, dW, dX, bQ, bR, eY, eZ, lM, rA, rB, Option.isSome_some, Option.isSome_none, lN, Int.reduceEq, beq_self_eq_true, cV, cW, fB, lU, fD, fG, fH, lV, lW, fJ, fK, fP, cA, bu, mD, mF, mH, mJ, gh, cH, cI, mO, gj, rO, ul, rP, rQ, rR, uU, uV, gJ, mW, oG, oV, iT, oW, gR, m9, nH, kY, lg, eV, kZ, lD, qR, lE, lF, qT, lG, lH, lJ, qU, qW, startF, ala, alc, alh, alm, alb, ald, ali, alk, alq, alr, alj, alf, alg, Nat.reduceAdd, Nat.reduceSub, Nat.reduceLeDiff, Nat.reduceLT, Nat.zero_add, and_true, true_and, and_self, false_and, and_false, not_true_eq_false, not_false_eq_true, eq_self, decide_true, decide_false, Bool.not_true, Bool.not_false, Bool.true_and, Bool.false_and, Bool.and_true, Bool.and_false, Bool.or_true, Bool.or_false, Bool.true_or, Bool.false_or, Option.map_some, Option.map_none, Int.toNat_natCast, ↓reduceIte, Bool.false_eq_true, reduceCtorEq, Int.cast_ofNat_Int, Int.reduceLT, Int.reduceLE, Int.reduceAdd, Int.reduceSub, Int.reduceNeg, Int.natCast_zero, qI, and_assoc, ↓uZ, ↓u5, ↓u6, ↓vW, ↓aU, aD, aF, aV, aP, aK, aW, aG, aX, aQ, au, aM, aY, aZ]
     all_goals first | rfl | exact ⟨rfl, rfl, rfl⟩ | simp
   | false =>
     simp only [↓oH, ↓nW, ↓wp_bind, ↓pq, ↓uE, ↓tM, ↓pA, ↓iV, ↓oM, ↓pB, ↓tD, ↓tE, ↓tO, ↓pC, ↓iW, ↓pD, ↓tQ, ↓iY, ↓iZ, ↓pF, ↓cX, ↓tR, ↓cY, ↓cZ, ↓pG, ↓pH, ↓jc, ↓tU, ↓qL, ↓je, ↓pJ, ↓tV, ↓iD, ↓jf, ↓jh, ↓oN, ↓pK, ↓ji, ↓oO, ↓pM, ↓pN, ↓jk, ↓iG, ↓uv, ↓iH, ↓dw, ↓bF, ↓dB, ↓pO, ↓jn, ↓jo, ↓jr, ↓jt, ↓ju, ↓jw, ↓jx, ↓bG, ↓jy, ↓jA, ↓jB, ↓kJ, ↓qP, ↓jC, ↓iI, ↓jD, ↓j5, ↓km, ↓kE, ↓iK, ↓iQ, ig, oZ, o5, oR, iz, uF, uG, ir, o7, oJ, o8, iU, o9, ph, oK, ou, oA, iw, oF, dC, jV, qH, jm, ↓lu, ↓lA, ↓eX, ↓qQ, ↓ug, ↓lB, ↓lC, ↓oY, ↓lK, ↓lL, ↓qX, ↓qY, ↓qZ, ↓rC, ↓lO, ↓fj, ↓uh, ↓fu, ↓lQ, ↓lX, ↓lY, ↓fL, ↓fM, ↓fO, ↓cC, ↓rF, ↓lZ, ↓fQ, ↓fU, ↓rG, ↓mG, ↓fV, ↓fX, ↓fY, ↓rH, ↓rJ, ↓rK, ↓rN, ↓mK, ↓fZ, ↓cD, ↓cG, ↓rW, ↓rY, ↓gq, ↓rZ, ↓mQ, ↓mU, ↓mV, ↓gA, ↓gG, ↓gH, ↓cJ, ↓mX, ↓gK, ↓sr, ↓gM, ↓gQ, ↓mY, ↓m7, ↓mZ, ↓ni, ↓nj, ↓gY, ↓nu, ↓gU, ↓cO, ↓su, ↓sE, ↓nA, ↓sG, jE, pZ, pP, tW, jF, qb, jG, fz_non, jH, qd, pQ, tX, pU, tY, jJ, qj, jK, ql, jL, qm, pW, tZ, pX, t7, pY, t8, il, nZ, oE, oh, dD, jM, iJ, nR, dF, qp, jN, nO, uK, uL, uN, uO, uP, uQ, uR, ue, nJ, tG, dG, dH, jO, dI, dJ, bH, dM, dN, bJ, dO, oU, qu, qw, qC, jP, jQ, dR, uf, jR, qD, jT, jU, qF, qG, tH, tK, dY, jW, dZ, bT, d8, bU, jX, d9, bV, eE, eG, jY, jZ, uJ, vD, vK, bY, bZ, eU, kW, eO, bW, qJ, qK, j6, eQ, j8, j9, kh, qO, j7, qM, qN, aln, alo, alp, ale, Int.reduceToNat, bK, bL, dU, bM, bO, dW, dX, bQ, bR, eY, eZ, lM, rA, rB, Option.isSome_some, Option.isSome_none, lN, Int.reduceEq, beq_self_eq_true, cV, cW, fB, lU, fD, fG, fH, lV, lW, fJ, fK, fP, cA, bu, mD, mF, mH, mJ, gh, cH, cI, mO, gj, rO, ul, rP, rQ, rR, uU, uV, gJ, mW, oG, oV, iT, oW, gR, m9, nH, kY, lg, eV, kZ, lD, qR, lE, lF, qT, lG, lH, lJ, qU, qW, startF, ala, alc, alh, alm, alb, ald, ali, alk, alq, alr, alj, alf, alg, Nat.reduceAdd, Nat.reduceSub, Nat.reduceLeDiff, Nat.reduceLT, Nat.zero_add, and_true, true_and, and_self, false_and, and_false, not_true_eq_false, not_false_eq_true, eq_self, decide_true, decide_false, Bool.not_true, Bool.not_false, Bool.true_and, Bool.false_and, Bool.and_true, Bool.and_false, Bool.or_true, Bool.or_false, Bool.true_or, Bool.false_or, Option.map_some, Option.map_none, Int.toNat_natCast, ↓reduceIte, Bool.false_eq_true, reduceCtorEq, Int.cast_ofNat_Int, Int.reduceLT, Int.reduceLE, Int.reduceAdd, Int.reduceSub, Int.reduceNeg, Int.natCast_zero, qI, and_assoc, ↓uZ, ↓u5, ↓u6, ↓vW, ↓aU, aD, aF, aV, aP, aK, aW, aG, aX, aQ, au, aM, aY, aZ, i1, i2, i3, h2]
     all_goals first | rfl | exact ⟨rfl, rfl, rfl⟩ | simp
 | false =>
   cases h2 : isIn O6 c with
   | true =>
     simp only [↓oH, ↓nW, ↓wp_bind, ↓pq, ↓uE, ↓tM, ↓pA, ↓iV, ↓oM, ↓pB, ↓tD, ↓tE, ↓tO, ↓pC, ↓iW, ↓pD, ↓tQ, ↓iY, ↓iZ, ↓pF, ↓cX, ↓tR, ↓cY, ↓cZ, ↓pG, ↓pH, ↓jc, ↓tU, ↓qL, ↓je, ↓pJ, ↓tV, ↓iD, ↓jf, ↓jh, ↓oN, ↓pK, ↓ji, ↓oO, ↓pM, ↓pN, ↓jk, ↓iG, ↓uv, ↓iH, ↓dw, ↓bF, ↓dB, ↓pO, ↓jn, ↓jo, ↓jr, ↓jt, ↓ju, ↓jw, ↓jx, ↓bG, ↓jy, ↓jA, ↓jB, ↓kJ, ↓qP, ↓jC, ↓iI, ↓jD, ↓j5, ↓km, ↓kE, ↓iK, ↓iQ, ig, oZ, o5, oR, iz, uF, uG, ir, o7, oJ, o8, iU, o9, ph, oK, ou, oA, iw, oF, dC, jV, qH, jm, ↓lu, ↓lA, ↓eX, ↓qQ, ↓ug, ↓lB, ↓lC, ↓oY, ↓lK, ↓lL, ↓qX, ↓qY, ↓qZ, ↓rC, ↓lO, ↓fj, ↓uh, ↓fu, ↓lQ, ↓lX, ↓lY, ↓fL, ↓fM, ↓fO, ↓cC, ↓rF, ↓lZ, ↓fQ, ↓fU, ↓rG, ↓mG, ↓fV, ↓fX, ↓fY, ↓rH, ↓rJ, ↓rK, ↓rN, ↓mK, ↓fZ, ↓cD, ↓cG, ↓rW, ↓rY, ↓gq, ↓rZ, ↓mQ, ↓mU, ↓mV, ↓gA, ↓gG, ↓gH, ↓cJ, ↓mX, ↓gK, ↓sr, ↓gM, ↓gQ, ↓mY, ↓m7, ↓mZ, ↓ni, ↓nj, ↓gY, ↓nu, ↓gU, ↓cO, ↓su, ↓sE, ↓nA, ↓sG, jE, pZ, pP, tW, jF, qb, jG, fz_non, jH, qd, pQ, tX, pU, tY, jJ, qj, jK, ql, jL, qm, pW, tZ, pX, t7, pY, t8, il, nZ, oE, oh, dD, jM, iJ, nR, dF, qp, jN, nO, uK, uL, uN, uO, uP, uQ, uR, ue, nJ, tG, dG, dH, jO, dI, dJ, bH, dM, dN, bJ, dO, oU, qu, qw, qC, jP, jQ, dR, uf, jR, qD, jT, jU, qF, qG, tH, tK, dY, jW, dZ, bT, d8, bU, jX, d9, bV, eE, eG, jY, jZ, uJ, vD, vK, bY, bZ, eU, kW, eO, bW, qJ, qK, j6, eQ, j8, j9, kh, qO, j7, qM, qN, aln, alo, alp, ale, Int.reduceToNat, bK, bL, dU, bM, bO, dW, dX, bQ, bR, eY, eZ, lM, rA, rB, Option.isSome_some, Option.isSome_none, lN, Int.reduceEq, beq_self_eq_true, cV, cW, fB, lU, fD, fG, fH, lV, lW, fJ, fK, fP, cA, bu, mD, mF, mH, mJ, gh, cH, cI, mO, gj, rO, ul, rP, rQ, rR, uU, uV, gJ, mW, oG, oV, iT, oW, gR, m9, nH, kY, lg, eV, kZ, lD, qR, lE, lF, qT, lG, lH, lJ, qU, qW, startF, ala, alc, alh, alm, alb, ald, ali, alk, alq, alr, alj, alf, alg, Nat.reduceAdd, Nat.reduceSub, Nat.reduceLeDiff, Nat.reduceLT, Nat.zero_add, and_true, true_and, and_self, false_and, and_false, not_true_eq_false, not_false_eq_true, eq_self, decide_true, decide_false, Bool.not_true, Bool.not_false, Bool.true_and, Bool.false_and, Bool.and_true, Bool.and_false, Bool.or_true, Bool.or_false, Bool.true_or, Bool.false_or, Option.map_some, Option.map_none, Int.toNat_natCast, ↓reduceIte, Bool.false_eq_true, reduceCtorEq, Int.cast_ofNat_Int, Int.reduceLT, Int.reduceLE, Int.reduceAdd, Int.reduceSub, Int.reduceNeg, Int.natCast_zero, qI, and_assoc, ↓uZ, ↓u5, ↓u6, ↓vW, ↓aU, aD, aF, aV, aP, aK, aW, aG, aX, aQ, au, aM, aY, aZ, ↓M3, i1, i2, i3, h1, h2, ea]
     refine Rk hz hl ?_
     simp only [↓oH, ↓nW, ↓wp_bind, ↓pq, ↓uE, ↓tM, ↓pA, ↓iV, ↓oM, ↓pB, ↓tD, ↓tE, ↓tO, ↓pC, ↓iW, ↓pD, ↓tQ, ↓iY, ↓iZ, ↓pF, ↓cX, ↓tR, ↓cY, ↓cZ, ↓pG, ↓pH, ↓jc, ↓tU, ↓qL, ↓je, ↓pJ, ↓tV, ↓iD, ↓jf, ↓jh, ↓oN, ↓pK, ↓ji, ↓oO, ↓pM, ↓pN, ↓jk, ↓iG, ↓uv, ↓iH, ↓dw, ↓bF, ↓dB, ↓pO, ↓jn, ↓jo, ↓jr, ↓jt, ↓ju, ↓jw, ↓jx, ↓bG, ↓jy, ↓jA, ↓jB, ↓kJ, ↓qP, ↓jC, ↓iI, ↓jD, ↓j5, ↓km, ↓kE, ↓iK, ↓iQ, ig, oZ, o5, oR, iz, uF, uG, ir, o7, oJ, o8, iU, o9, ph, oK, ou, oA, iw, oF, dC, jV, qH, jm, ↓lu, ↓lA, ↓eX, ↓qQ, ↓ug, ↓lB, ↓lC, ↓oY, ↓lK, ↓lL, ↓qX, ↓qY, ↓qZ, ↓rC, ↓lO, ↓fj, ↓uh, ↓fu, ↓lQ, ↓lX, ↓lY, ↓fL, ↓fM, ↓fO, ↓cC, ↓rF, ↓lZ, ↓fQ, ↓fU, ↓rG, ↓mG, ↓fV, ↓fX, ↓fY, ↓rH, ↓rJ, ↓rK, ↓rN, ↓mK, ↓fZ, ↓cD, ↓cG, ↓rW, ↓rY, ↓gq, ↓rZ, ↓mQ, ↓mU, ↓mV, ↓gA, ↓gG, ↓gH, ↓cJ, ↓mX, ↓gK, ↓sr, ↓gM, ↓gQ, ↓mY, ↓m7, ↓mZ, ↓ni, ↓nj, ↓gY, ↓nu, ↓gU, ↓cO, ↓su, ↓sE, ↓nA, ↓sG, jE, pZ, pP, tW, jF, qb, jG, fz_non, jH, qd, pQ, tX, pU, tY, jJ, qj, jK, ql, jL, qm, pW, tZ, pX, t7, pY, t8, il, nZ, oE, oh, dD, jM, iJ, nR, dF, qp, jN, nO, uK, uL, uN, uO, uP, uQ, uR, ue, nJ, tG, dG, dH, jO, dI, dJ, bH, dM, dN, bJ, dO, oU, qu, qw, qC, jP, jQ, dR, uf, jR, qD, jT, jU, qF, qG, tH, tK, dY, jW, dZ, bT, d8, bU, jX, d9, bV, eE, eG, jY, jZ, uJ, vD, vK, bY, bZ, eU, kW, eO, bW, qJ, qK, j6, eQ, j8, j9, kh, qO, j7, qM, qN, aln, alo, alp, ale, Int.reduceToNat, bK, bL, dU, bM, bO, dW, dX, bQ, bR, eY, eZ, lM, rA, rB, Option.isSome_some, Option.isSome_none, lN, Int.reduceEq, beq_self_eq_true, cV, cW, fB, lU, fD, fG, fH, lV, lW, fJ, fK, fP, cA, bu, mD, mF, mH, mJ, gh, cH, cI, mO, gj, rO, ul, rP, rQ, rR, uU, uV, gJ, mW, oG, oV, iT, oW, gR, m9, nH, kY, lg, eV, kZ, lD, qR, lE, lF, qT, lG, lH, lJ, qU, qW, startF, ala, alc, alh, alm, alb, ald, ali, alk, alq, alr, alj, alf, alg, Nat.reduceAdd, Nat.reduceSub, Nat.reduceLeDiff, Nat.reduceLT, Nat.zero_add, and_true, true_and, and_self, false_and, and_false, not_true_eq_false, not_false_eq_true, eq_self, decide_true, decide_false, Bool.not_true, Bool.not_false, Bool.true_and, Bool.false_and, Bool.and_true, Bool.and_false, Bool.or_true, Bool.or_false, Bool.true_or, Bool.false_or, Option.map_some, Option.map_none, Int.toNat_natCast, ↓reduceIte, Bool.false_eq_true, reduceCtorEq, Int.cast_ofNat_Int, Int.reduceLT, Int.reduceLE, Int.reduceAdd, Int.reduceSub, Int.reduceNeg, Int.natCast_zero, qI, and_assoc, ↓uZ, ↓u5, ↓u6, ↓vW, ↓aU, aD, aF, aV, aP, aK, aW, aG, aX, aQ, au, aM, aY, aZ]
     all_goals first | rfl | exact ⟨rfl, rfl, rfl⟩ | simp
   | false =>
     simp only [↓oH, ↓nW, ↓wp_bind, ↓pq, ↓uE, ↓tM, ↓pA, ↓iV, ↓oM, ↓pB, ↓tD, ↓tE, ↓tO, ↓pC, ↓iW, ↓pD, ↓tQ, ↓iY, ↓iZ, ↓pF, ↓cX, ↓tR, ↓cY, ↓cZ, ↓pG, ↓pH, ↓jc, ↓tU, ↓qL, ↓je, ↓pJ, ↓tV, ↓iD, ↓jf, ↓jh, ↓oN, ↓pK, ↓ji, ↓oO, ↓pM, ↓pN, ↓jk, ↓iG, ↓uv, ↓iH, ↓dw, ↓bF, ↓dB, ↓pO, ↓jn, ↓jo, ↓jr, ↓jt, ↓ju, ↓jw, ↓jx, ↓bG, ↓jy, ↓jA, ↓jB, ↓kJ, ↓qP, ↓jC, ↓iI, ↓jD, ↓j5, ↓km, ↓kE, ↓iK, ↓iQ, ig, oZ, o5, oR, iz, uF, uG, ir, o7, oJ, o8, iU, o9, ph, oK, ou, oA, iw, oF, dC, jV, qH, jm, ↓lu, ↓lA, ↓eX, ↓qQ, ↓ug, ↓lB, ↓lC, ↓oY, ↓lK, ↓lL, ↓qX, ↓qY, ↓qZ, ↓rC, ↓lO, ↓fj, ↓uh, ↓fu, ↓lQ, ↓lX, ↓lY, ↓fL, ↓fM, ↓fO, ↓cC, ↓rF, ↓lZ, ↓fQ, ↓fU, ↓rG, ↓mG, ↓fV, ↓fX, ↓fY, ↓rH, ↓rJ, ↓rK, ↓rN, ↓mK, ↓fZ, ↓cD, ↓cG, ↓rW, ↓rY, ↓gq, ↓rZ, ↓mQ, ↓mU, ↓mV, ↓gA, ↓gG, ↓gH, ↓cJ, ↓mX, ↓gK, ↓sr, ↓gM, ↓gQ, ↓mY, ↓m7, ↓mZ, ↓ni, ↓nj, ↓gY, ↓nu, ↓gU, ↓cO, ↓su, ↓sE, ↓nA, ↓sG, jE, pZ, pP, tW, jF, qb, jG, fz_non, jH, qd, pQ, tX, pU, tY, jJ, qj, jK, ql, jL, qm, pW, tZ, pX, t7, pY, t8, il, nZ, oE, oh, dD, jM, iJ, nR, dF, qp, jN, nO, uK, uL, uN, uO, uP, uQ, uR, ue, nJ, tG, dG, dH, jO, dI, dJ, bH, dM, dN, bJ, dO, oU, qu, qw, qC, jP, jQ, dR, uf, jR, qD, jT, jU, qF, qG, tH, tK, dY, jW, dZ, bT, d8, bU, jX, d9, bV, eE, eG, jY, jZ, uJ, vD, vK, bY, bZ, eU, kW, eO, bW, qJ, qK, j6, eQ, j8, j9, kh, qO, j7, qM, qN, aln, alo, alp, ale, Int.reduceToNat, bK, bL, dU, bM, bO, dW, dX, bQ, bR, eY, eZ, lM, rA, rB, Option.isSome_some, Option.isSome_none, lN, Int.reduceEq, beq_self_eq_true, cV, cW, fB, lU, fD, fG, fH, lV, lW, fJ, fK, fP, cA, bu, mD, mF, mH, mJ, gh, cH, cI, mO, gj, rO, ul, rP, rQ, rR, uU, uV, gJ, mW, oG, oV, iT, oW, gR, m9, nH, kY, lg, eV, kZ, lD, qR, lE, lF, qT, lG, lH, lJ, qU, qW, startF, ala, alc, alh, alm, alb, ald, ali, alk, alq, alr, alj, alf, alg, Nat.reduceAdd, Nat.reduceSub, Nat.reduceLeDiff, Nat.reduceLT, Nat.zero_add, and_true, true_and, and_self, false_and, and_false, not_true_eq_false, not_false_eq_true, eq_self, decide_true, decide_false, Bool.not_true, Bool.not_false, Bool.true_and, Bool.false_and, Bool.and_true, Bool.and_false, Bool.or_true, Bool.or_false, Bool.true_or, Bool.false_or, Option.map_some, Option.map_none, Int.toNat_natCast, ↓reduceIte, Bool.false_eq_true, reduceCtorEq, Int.cast_ofNat_Int, Int.reduceLT, Int.reduceLE, Int.reduceAdd, Int.reduceSub, Int.reduceNeg, Int.natCast_zero, qI, and_assoc, ↓uZ, ↓u5, ↓u6, ↓vW, ↓aU, aD, aF, aV, aP, aK, aW, aG, aX, aQ, au, aM, aY, aZ, ↓M3, i1, i2, i3, h1, h2, ea]
     all_goals first | rfl | exact ⟨rfl, rfl, rfl⟩ | simp
end L
namespace L
open PySem PySem.Spec L2 Pk
theorem aiq {h : Hh} {c : Nat} (hc : c < 0x110000) : u9 h (.str ⟨#[c]⟩) (.str " ") = some (decide (c = 32)) := by
 have e := aaf (h := h) Em.str (Sv ⟨#[c]⟩) (Sv " ") (show zW ⟨#[c]⟩ = true by show (#[c] : Array Nat).all _ = true; simp [hc]) (show zW " " = true by decide +kernel) (by decide)
 rw [e]
 congr 1
 by_cases h1 : c = 32
 · subst h1
   rw [decide_eq_true (rfl : (32 : Nat) = 32)]
   exact decide_eq_true (by decide +kernel)
 · rw [decide_eq_false h1]
   refine decide_eq_false fun z => h1 ?_
   have z' : (⟨#[c]⟩ : Str).cps.toList = (" " : Str).cps.toList := by rw [z]
   have e2 : (" " : Str).cps.toList = [32] := by decide +kernel
   rw [e2] at z'
   simpa using z'
section
variable {α : Type} {l : List α} {x y z v : α} {r : List α}
theorem Xz : (l ++ x :: r)[l.length]? = some x := by rw [alE (Nat.le_refl _), Nat.sub_self]; rfl
theorem ap1 : (l ++ x :: y :: r)[l.length + 1]? = some y := by rw [alE (Nat.le_add_right _ _), Nat.add_sub_cancel_left]; rfl
theorem ap2 : (l ++ x :: y :: z :: r)[l.length + 2]? = some z := by rw [alE (Nat.le_add_right _ _), Nat.add_sub_cancel_left]; rfl
theorem st0 : (l ++ x :: r).set l.length v = l ++ v :: r := by rw [List.set_append_right _ _ (Nat.le_refl _), Nat.sub_self]; rfl
theorem st1 : (l ++ x :: y :: r).set (l.length + 1) v = l ++ x :: v :: r := by rw [List.set_append_right _ _ (Nat.le_add_right _ _), Nat.add_sub_cancel_left]; rfl
theorem st2 : (l ++ x :: y :: z :: r).set (l.length + 2) v = l ++ x :: y :: v :: r := by rw [List.set_append_right _ _ (Nat.le_add_right _ _), Nat.add_sub_cancel_left]; rfl
end
theorem Rm {h0 r : Hh} {a b : D} {s : List D} : uY xK (h0 ++ .no 0 (a :: b :: s) :: r) (.ref h0.length) = some b := by
 unfold uY D.ins D.der
 simp only [Xz, Option.getD_some]
 rfl
theorem V1 {h0 r : Hh} {a b c : D} {s : List D} : uY yQ (h0 ++ .no 0 (a :: b :: c :: s) :: r) (.ref h0.length) = some c := by
 unfold uY D.ins D.der
 simp only [Xz, Option.getD_some]
 rfl
theorem aeV {h0 r : Hh} {a b c e : D} {s : List D} : uY wQ (h0 ++ .no 0 (a :: b :: c :: e :: s) :: r) (.ref h0.length) = some e := by
 unfold uY D.ins D.der
 simp only [Xz, Option.getD_some]
 rfl
theorem aay {h0 r : Hh} {a : D} {s : List D} : uY uB (h0 ++ .no 0 (a :: s) :: r) (.ref h0.length) = some a := by
 unfold uY D.ins D.der
 simp only [Xz, Option.getD_some]
 rfl
def TH (h0 : Hh) (sz : Int) (ws : List Str) (ps : List Int) (sp : Int) : Hh := h0 ++ [.no 0 [.int sz, .ref (h0.length + 1), .ref (h0.length + 2), .int sp], .nl (ws.map .str), .nl (ps.map .int)]
theorem afv {l : List Nat} {a c : Nat} (ha : a < l.length) : a < wE l a c ∧ wE l a c ≤ l.length := by
 have r1 := Yz (S := Xy) (cs := l) (e := a + 1) ha
 have r2 := Yz (S := O6) (cs := l) (e := a + 1) ha
 have r3 := Yz (S := O6) (cs := l) (e := rE Xy l (a + 1)) r1.2
 unfold wE
 split
 · split <;> omega
 · split <;> omega
def tk (z : Str) : Nat → Nat → List (Str × Nat)
 | 0, _ => []
 | n + 1, a => match (cs z)[a]? with
   | none => []
   | some c => if c = 32 then tk z n (a + 1) else (cutS z (some (a : Int)) (some (wE (cs z) a c : Nat)), a) :: tk z n (wE (cs z) a c)
theorem Sy {z : Str} : ∀ (n m a : Nat), (cs z).length - a < n → (cs z).length - a < m → tk z n a = tk z m a := by
 intro n
 induction n with
 | zero => intro m a h; exact absurd h (Nat.not_lt_zero _)
 | succ n ih =>
   intro m a h1 h2
   cases m with
   | zero => exact absurd h2 (Nat.not_lt_zero _)
   | succ m =>
     unfold tk
     cases e : (cs z)[a]? with
     | none => rfl
     | some c =>
       have hl : a < (cs z).length := (List.getElem?_eq_some_iff.mp e).1
       have g := afv (c := c) hl
       dsimp only
       rw [ih m (a + 1) (by omega) (by omega), ih m (wE (cs z) a c) (by omega) (by omega)]
def TK (z : Str) : List (Str × Nat) := tk z (z.length + 1) 0
theorem agp {h : Hh} {z : Str} {a b : Int} (hz : z.length ≤ 1000) : zG h (.str z) (some a, some b) = some (.str (cutS z (some a) (some b))) := by
 show (if z.length ≤ big then some (D.str (cutS z (some a) (some b))) else none) = _
 rw [if_pos (Nat.le_trans hz (by decide))]
theorem aaz {d : D} {l : List D} (hl : l.length ≤ 1000) : Gg d l = some (l ++ [d]) := by
 unfold Gg
 rw [if_pos (Nat.lt_of_le_of_lt hl (by decide))]
theorem adw {h0 : Hh} {z : Str} {sz : Int} (hz : z.length ≤ 59) (hg : zW z = true) :
 wR [.ref h0.length, .str z, .int sz] (h0 ++ [.no 0 []]) = .ok .non [] (TH h0 sz ((TK z).map (·.1)) ((TK z).map (fun p => (p.2 : Int)) ++ [((cs z).length : Int)]) 0) := by
 have hz' : z.length ≤ 1000 := by omega
 have hl : ∀ h : Hh, uW h (.str z) = some (.int ((cs z).length : Nat)) := fun h => Xk hz'
 have hg' : ∀ c ∈ cs z, c < 0x110000 := fun c hc => by
  have : z.cps.all (· < 0x110000) = true := hg
  rw [Array.all_eq_true'] at this
  exact of_decide_eq_true (this c (Array.mem_toList_iff.mp hc))
 apply Wp.eq
 simp only [↓oH, ↓nW, ↓wp_bind, ↓pq, ↓uE, ↓tM, ↓pA, ↓iV, ↓oM, ↓pB, ↓tD, ↓tE, ↓tO, ↓pC, ↓iW, ↓pD, ↓tQ, ↓iY, ↓iZ, ↓pF, ↓cX, ↓tR, ↓cY, ↓cZ, ↓pG, ↓pH, ↓jc, ↓tU, ↓qL, ↓je, ↓pJ, ↓tV, ↓iD, ↓jf, ↓jh, ↓oN, ↓pK, ↓ji, ↓oO, ↓pM, ↓pN, ↓jk, ↓iG, ↓uv, ↓iH, ↓dw, ↓bF, ↓dB, ↓pO, ↓jn, ↓jo, ↓jr, ↓jt, ↓ju, ↓jw, ↓jx, ↓bG, ↓jy, ↓jA, ↓jB, ↓kJ, ↓qP, ↓jC, ↓iI, ↓jD, ↓j5, ↓km, ↓kE, ↓iK, ↓iQ, ig, oZ, o5, oR, iz, uF, uG, ir, o7, oJ, o8, iU, o9, ph, oK, ou, oA, iw, oF, dC, jV, qH, jm, ↓lu, ↓lA, ↓eX, ↓qQ, ↓ug, ↓lB, ↓lC, ↓oY, ↓lK, ↓lL, ↓qX, ↓qY, ↓qZ, ↓rC, ↓lO, ↓fj, ↓uh, ↓fu, ↓lQ, ↓lX, ↓lY, ↓fL, ↓fM, ↓fO, ↓cC, ↓rF, ↓lZ, ↓fQ, ↓fU, ↓rG, ↓mG, ↓fV, ↓fX, ↓fY, ↓rH, ↓rJ, ↓rK, ↓rN, ↓mK, ↓fZ, ↓cD, ↓cG, ↓rW, ↓rY, ↓gq, ↓rZ, ↓mQ, ↓mU, ↓mV, ↓gA, ↓gG, ↓gH, ↓cJ, ↓mX, ↓gK, ↓sr, ↓gM, ↓gQ, ↓mY, ↓m7, ↓mZ, ↓ni, ↓nj, ↓gY, ↓nu, ↓gU, ↓cO, ↓su, ↓sE, ↓nA, ↓sG, jE, pZ, pP, tW, jF, qb, jG, fz_non, jH, qd, pQ, tX, pU, tY, jJ, qj, jK, ql, jL, qm, pW, tZ, pX, t7, pY, t8, il, nZ, oE, oh, dD, jM, iJ, nR, dF, qp, jN, nO, uK, uL, uN, uO, uP, uQ, uR, ue, nJ, tG, dG, dH, jO, dI, dJ, bH, dM, dN, bJ, dO, oU, qu, qw, qC, jP, jQ, dR, uf, jR, qD, jT, jU, qF, qG, tH, tK, dY, jW, dZ, bT, d8, bU, jX, d9, bV, eE, eG, jY, jZ, uJ, vD, vK, bY, bZ, eU, kW, eO, bW, qJ, qK, j6, eQ, j8, j9, kh, qO, j7, qM, qN, aln, alo, alp, ale, Int.reduceToNat, bK, bL, dU, bM, bO, dW, dX, bQ, bR, eY, eZ, lM, rA, rB, Option.isSome_some, Option.isSome_none, lN, Int.reduceEq, beq_self_eq_true, cV, cW, fB, lU, fD, fG, fH, lV, lW, fJ, fK, fP, cA, bu, mD, mF, mH, mJ, gh, cH, cI, mO, gj, rO, ul, rP, rQ, rR, uU, uV, gJ, mW, oG, oV, iT, oW, gR, m9, nH, kY, lg, eV, kZ, lD, qR, lE, lF, qT, lG, lH, lJ, qU, qW, startF, ala, alc, alh, alm, alb, ald, ali, alk, alq, alr, alj, alf, alg, Nat.reduceAdd, Nat.reduceSub, Nat.reduceLeDiff, Nat.reduceLT, Nat.zero_add, and_true, true_and, and_self, false_and, and_false, not_true_eq_false, not_false_eq_true, eq_self, decide_true, decide_false, Bool.not_true, Bool.not_false, Bool.true_and, Bool.false_and, Bool.and_true, Bool.and_false, Bool.or_true, Bool.or_false, Bool.true_or, Bool.false_or, Option.map_some, Option.map_none, Int.toNat_natCast, ↓reduceIte, Bool.false_eq_true, reduceCtorEq, Int.cast_ofNat_Int, Int.reduceLT, Int.reduceLE, Int.reduceAdd, Int.reduceSub, Int.reduceNeg, Int.natCast_zero, qI, and_assoc, ↓uZ, ↓u5, ↓u6, ↓vW, ↓yE, ↓yF, ↓yG, ↓yH, ↓yI, ↓yJ, ↓zP, ↓aU, aD, aF, aV, aP, aK, aW, aG, aX, aQ, au, aM, aY, aZ, ↓Pj, Xz, ap1, ap2, st0, st1, st2, List.append_assoc, alh, alm, alD, wY]
 refine Xx (fun k fr h => ∃ (a : Nat) (x : Option D) (ws : List Str) (ps : List Int), fr = [some (.ref h0.length), some (.str z), some (.int sz), some (.int (a : Nat)), x] ∧ h = TH h0 sz ws ps 0 ∧ k = (cs z).length - a ∧ a ≤ (cs z).length ∧ ws.length ≤ a ∧ ps.length ≤ a ∧
  ws ++ (tk z (k + 1) a).map (·.1) = (TK z).map (·.1) ∧ ps ++ (tk z (k + 1) a).map (fun p => (p.2 : Int)) = (TK z).map (fun p => (p.2 : Int))) ?_ 60 (cs z).length _ _ (by rw [Hk] at hz; omega)
  ⟨0, none, [], [], rfl, rfl, rfl, Nat.zero_le _, Nat.le_refl _, Nat.le_refl _, by rw [TK, Hk]; rfl, by rw [TK, Hk]; rfl⟩
 rintro k fr h ⟨a, x, ws, ps, rfl, rfl, rfl, ha, hw, hp, e1, e2⟩
 by_cases hlt : a < (cs z).length
 · have hc : (cs z)[a]? = some (cs z)[a] := alv hlt
   have hcg := hg' _ (List.getElem_mem hlt)
   generalize (cs z)[a] = c at hc hcg
   have g := afv (c := c) hlt
   have d1 : decide ((a : Int) < ((cs z).length : Nat)) = true := decide_eq_true (by omega)
   have i1 : ∀ h : Hh, bA h (.str z) (.int (a : Int)) = some (.str ⟨#[c]⟩) := fun h => Sw hz' hc
   have i2 : ∀ h : Hh, u9 h (.str ⟨#[c]⟩) (.str " ") = some (decide (c = 32)) := fun h => aiq hcg
   have hws : ws.length ≤ 1000 := by rw [Hk] at hz; omega
   have hps : ps.length ≤ 1000 := by rw [Hk] at hz; omega
   have ek : (cs z).length - a + 1 = ((cs z).length - a) + 1 := rfl
   rw [tk, hc] at e1 e2
   dsimp only at e1 e2
   by_cases h32 : c = 32
   · rw [if_pos h32] at e1 e2
     have d2 : decide (c = 32) = true := decide_eq_true h32
     simp only [↓oH, ↓nW, ↓wp_bind, ↓pq, ↓uE, ↓tM, ↓pA, ↓iV, ↓oM, ↓pB, ↓tD, ↓tE, ↓tO, ↓pC, ↓iW, ↓pD, ↓tQ, ↓iY, ↓iZ, ↓pF, ↓cX, ↓tR, ↓cY, ↓cZ, ↓pG, ↓pH, ↓jc, ↓tU, ↓qL, ↓je, ↓pJ, ↓tV, ↓iD, ↓jf, ↓jh, ↓oN, ↓pK, ↓ji, ↓oO, ↓pM, ↓pN, ↓jk, ↓iG, ↓uv, ↓iH, ↓dw, ↓bF, ↓dB, ↓pO, ↓jn, ↓jo, ↓jr, ↓jt, ↓ju, ↓jw, ↓jx, ↓bG, ↓jy, ↓jA, ↓jB, ↓kJ, ↓qP, ↓jC, ↓iI, ↓jD, ↓j5, ↓km, ↓kE, ↓iK, ↓iQ, ig, oZ, o5, oR, iz, uF, uG, ir, o7, oJ, o8, iU, o9, ph, oK, ou, oA, iw, oF, dC, jV, qH, jm, ↓lu, ↓lA, ↓eX, ↓qQ, ↓ug, ↓lB, ↓lC, ↓oY, ↓lK, ↓lL, ↓qX, ↓qY, ↓qZ, ↓rC, ↓lO, ↓fj, ↓uh, ↓fu, ↓lQ, ↓lX, ↓lY, ↓fL, ↓fM, ↓fO, ↓cC, ↓rF, ↓lZ, ↓fQ, ↓fU, ↓rG, ↓mG, ↓fV, ↓fX, ↓fY, ↓rH, ↓rJ, ↓rK, ↓rN, ↓mK, ↓fZ, ↓cD, ↓cG, ↓rW, ↓rY, ↓gq, ↓rZ, ↓mQ, ↓mU, ↓mV, ↓gA, ↓gG, ↓gH, ↓cJ, ↓mX, ↓gK, ↓sr, ↓gM, ↓gQ, ↓mY, ↓m7, ↓mZ, ↓ni, ↓nj, ↓gY, ↓nu, ↓gU, ↓cO, ↓su, ↓sE, ↓nA, ↓sG, jE, pZ, pP, tW, jF, qb, jG, fz_non, jH, qd, pQ, tX, pU, tY, jJ, qj, jK, ql, jL, qm, pW, tZ, pX, t7, pY, t8, il, nZ, oE, oh, dD, jM, iJ, nR, dF, qp, jN, nO, uK, uL, uN, uO, uP, uQ, uR, ue, nJ, tG, dG, dH, jO, dI, dJ, bH, dM, dN, bJ, dO, oU, qu, qw, qC, jP, jQ, dR, uf, jR, qD, jT, jU, qF, qG, tH, tK, dY, jW, dZ, bT, d8, bU, jX, d9, bV, eE, eG, jY, jZ, uJ, vD, vK, bY, bZ, eU, kW, eO, bW, qJ, qK, j6, eQ, j8, j9, kh, qO, j7, qM, qN, aln, alo, alp, ale, Int.reduceToNat, bK, bL, dU, bM, bO, dW, dX, bQ, bR, eY, eZ, lM, rA, rB, Option.isSome_some, Option.isSome_none, lN, Int.reduceEq, beq_self_eq_true, cV, cW, fB, lU, fD, fG, fH, lV, lW, fJ, fK, fP, cA, bu, mD, mF, mH, mJ, gh, cH, cI, mO, gj, rO, ul, rP, rQ, rR, uU, uV, gJ, mW, oG, oV, iT, oW, gR, m9, nH, kY, lg, eV, kZ, lD, qR, lE, lF, qT, lG, lH, lJ, qU, qW, startF, ala, alc, alh, alm, alb, ald, ali, alk, alq, alr, alj, alf, alg, Nat.reduceAdd, Nat.reduceSub, Nat.reduceLeDiff, Nat.reduceLT, Nat.zero_add, and_true, true_and, and_self, false_and, and_false, not_true_eq_false, not_false_eq_true, eq_self, decide_true, decide_false, Bool.not_true, Bool.not_false, Bool.true_and, Bool.false_and, Bool.and_true, Bool.and_false, Bool.or_true, Bool.or_false, Bool.true_or, Bool.false_or, Option.map_some, Option.map_none, Int.toNat_natCast, ↓reduceIte, Bool.false_eq_true, reduceCtorEq, Int.cast_ofNat_Int, Int.reduceLT, Int.reduceLE, Int.reduceAdd, Int.reduceSub, Int.reduceNeg, Int.natCast_zero, qI, and_assoc, ↓uZ, ↓u5, ↓u6, ↓vW, ↓yE, ↓yF, ↓yG, ↓yH, ↓yI, ↓yJ, ↓zP, ↓aU, aD, aF, aV, aP, aK, aW, aG, aX, aQ, au, aM, aY, aZ, TH, hl, d1, i1, i2, d2]
     refine ⟨(cs z).length - (a + 1), by omega, a + 1, x, ws, ps, by simp only [Int.natCast_add, Int.natCast_one, alf, alg], rfl, rfl, by omega, by omega, by omega, ?_, ?_⟩
     · rw [← e1, Sy ((cs z).length - (a + 1) + 1) ((cs z).length - a) (a + 1) (by omega) (by omega)]
     · rw [← e2, Sy ((cs z).length - (a + 1) + 1) ((cs z).length - a) (a + 1) (by omega) (by omega)]
   · rw [if_neg h32] at e1 e2
     have d2 : decide (c = 32) = false := decide_eq_false h32
     have we : ∀ h : Hh, Bv [.str z, .int (a : Nat)] h = .ok (.int (wE (cs z) a c : Nat)) [] h := fun h => Yd hz hc
     have ct : ∀ h : Hh, zG h (.str z) (some (a : Int), some ((wE (cs z) a c : Nat) : Int)) = some (.str (cutS z (some (a : Int)) (some ((wE (cs z) a c : Nat) : Int)))) := fun h => agp hz'
     have aw : ∀ d : D, Gg d (ws.map .str) = some (ws.map .str ++ [d]) := fun d => aaz (by rw [alw]; exact hws)
     have ap : ∀ d : D, Gg d (ps.map .int) = some (ps.map .int ++ [d]) := fun d => aaz (by rw [alw]; exact hps)
     simp only [↓oH, ↓nW, ↓wp_bind, ↓pq, ↓uE, ↓tM, ↓pA, ↓iV, ↓oM, ↓pB, ↓tD, ↓tE, ↓tO, ↓pC, ↓iW, ↓pD, ↓tQ, ↓iY, ↓iZ, ↓pF, ↓cX, ↓tR, ↓cY, ↓cZ, ↓pG, ↓pH, ↓jc, ↓tU, ↓qL, ↓je, ↓pJ, ↓tV, ↓iD, ↓jf, ↓jh, ↓oN, ↓pK, ↓ji, ↓oO, ↓pM, ↓pN, ↓jk, ↓iG, ↓uv, ↓iH, ↓dw, ↓bF, ↓dB, ↓pO, ↓jn, ↓jo, ↓jr, ↓jt, ↓ju, ↓jw, ↓jx, ↓bG, ↓jy, ↓jA, ↓jB, ↓kJ, ↓qP, ↓jC, ↓iI, ↓jD, ↓j5, ↓km, ↓kE, ↓iK, ↓iQ, ig, oZ, o5, oR, iz, uF, uG, ir, o7, oJ, o8, iU, o9, ph, oK, ou, oA, iw, oF, dC, jV, qH, jm, ↓lu, ↓lA, ↓eX, ↓qQ, ↓ug, ↓lB, ↓lC, ↓oY, ↓lK, ↓lL, ↓qX, ↓qY, ↓qZ, ↓rC, ↓lO, ↓fj, ↓uh, ↓fu, ↓lQ, ↓lX, ↓lY, ↓fL, ↓fM, ↓fO, ↓cC, ↓rF, ↓lZ, ↓fQ, ↓fU, ↓rG, ↓mG, ↓fV, ↓fX, ↓fY, ↓rH, ↓rJ, ↓rK, ↓rN, ↓mK, ↓fZ, ↓cD, ↓cG, ↓rW, ↓rY, ↓gq, ↓rZ, ↓mQ, ↓mU, ↓mV, ↓gA, ↓gG, ↓gH, ↓cJ, ↓mX, ↓gK, ↓sr, ↓gM, ↓gQ, ↓mY, ↓m7, ↓mZ, ↓ni, ↓nj, ↓gY, ↓nu, ↓gU, ↓cO, ↓su, ↓sE, ↓nA, ↓sG, jE, pZ, pP, tW, jF, qb, jG, fz_non, jH, qd, pQ, tX, pU, tY, jJ, qj, jK, ql, jL, qm, pW, tZ, pX, t7, pY, t8, il, nZ, oE, oh, dD, jM, iJ, nR, dF, qp, jN, nO, uK, uL, uN, uO, uP, uQ, uR, ue, nJ, tG, dG, dH, jO, dI, dJ, bH, dM, dN, bJ, dO, oU, qu, qw, qC, jP, jQ, dR, uf, jR, qD, jT, jU, qF, qG, tH, tK, dY, jW, dZ, bT, d8, bU, jX, d9, bV, eE, eG, jY, jZ, uJ, vD, vK, bY, bZ, eU, kW, eO, bW, qJ, qK, j6, eQ, j8, j9, kh, qO, j7, qM, qN, aln, alo, alp, ale, Int.reduceToNat, bK, bL, dU, bM, bO, dW, dX, bQ, bR, eY, eZ, lM, rA, rB, Option.isSome_some, Option.isSome_none, lN, Int.reduceEq, beq_self_eq_true, cV, cW, fB, lU, fD, fG, fH, lV, lW, fJ, fK, fP, cA, bu, mD, mF, mH, mJ, gh, cH, cI, mO, gj, rO, ul, rP, rQ, rR, uU, uV, gJ, mW, oG, oV, iT, oW, gR, m9, nH, kY, lg, eV, kZ, lD, qR, lE, lF, qT, lG, lH, lJ, qU, qW, startF, ala, alc, alh, alm, alb, ald, ali, alk, alq, alr, alj, alf, alg, Nat.reduceAdd, Nat.reduceSub, Nat.reduceLeDiff, Nat.reduceLT, Nat.zero_add, and_true, true_and, and_self, false_and, and_false, not_true_eq_false, not_false_eq_true, eq_self, decide_true, decide_false, Bool.not_true, Bool.not_false, Bool.true_and, Bool.false_and, Bool.and_true, Bool.and_false, Bool.or_true, Bool.or_false, Bool.true_or, Bool.false_or, Option.map_some, Option.map_none, Int.toNat_natCast, ↓reduceIte, Bool.false_eq_true, reduceCtorEq, Int.cast_ofNat_Int, Int.reduceLT, Int.reduceLE, Int.reduceAdd, Int.reduceSub, Int.reduceNeg, Int.natCast_zero, qI, and_assoc, ↓uZ, ↓u5, ↓u6, ↓vW, ↓yE, ↓yF, ↓yG, ↓yH, ↓yI, ↓yJ, ↓zP, ↓aU, aD, aF, aV, aP, aK, aW, aG, aX, aQ, au, aM, aY, aZ, TH, Rm, V1, hl, d1, i1, i2, d2, we, ct, Xz, ap1, ap2, st0, st1, st2, wG, aw, ap]
     refine ⟨by rw [alw]; omega, by rw [alw]; omega, (cs z).length - wE (cs z) a c, by omega, wE (cs z) a c, _, ws ++ [cutS z (some (a : Int)) (some ((wE (cs z) a c : Nat) : Int))], ps ++ [(a : Int)], rfl, (by first | rfl | (simp only [List.map_append, ala, alc])), rfl, by omega, by rw [alD, List.length_singleton]; omega, by rw [alD, List.length_singleton]; omega, ?_, ?_⟩
     · rw [← e1, Sy ((cs z).length - wE (cs z) a c + 1) ((cs z).length - a) (wE (cs z) a c) (by omega) (by omega), List.append_assoc]
       rfl
     · rw [← e2, Sy ((cs z).length - wE (cs z) a c + 1) ((cs z).length - a) (wE (cs z) a c) (by omega) (by omega), List.append_assoc]
       rfl
 · have d1 : decide ((a : Int) < ((cs z).length : Nat)) = false := decide_eq_false (by omega)
   have hc : (cs z)[a]? = none := List.getElem?_eq_none (by omega)
   have hps : ps.length ≤ 1000 := by rw [Hk] at hz; omega
   have ap : ∀ d : D, Gg d (ps.map .int) = some (ps.map .int ++ [d]) := fun d => aaz (by rw [alw]; exact hps)
   rw [tk, hc] at e1 e2
   simp only [alc, alb] at e1 e2
   simp only [↓oH, ↓nW, ↓wp_bind, ↓pq, ↓uE, ↓tM, ↓pA, ↓iV, ↓oM, ↓pB, ↓tD, ↓tE, ↓tO, ↓pC, ↓iW, ↓pD, ↓tQ, ↓iY, ↓iZ, ↓pF, ↓cX, ↓tR, ↓cY, ↓cZ, ↓pG, ↓pH, ↓jc, ↓tU, ↓qL, ↓je, ↓pJ, ↓tV, ↓iD, ↓jf, ↓jh, ↓oN, ↓pK, ↓ji, ↓oO, ↓pM, ↓pN, ↓jk, ↓iG, ↓uv, ↓iH, ↓dw, ↓bF, ↓dB, ↓pO, ↓jn, ↓jo, ↓jr, ↓jt, ↓ju, ↓jw, ↓jx, ↓bG, ↓jy, ↓jA, ↓jB, ↓kJ, ↓qP, ↓jC, ↓iI, ↓jD, ↓j5, ↓km, ↓kE, ↓iK, ↓iQ, ig, oZ, o5, oR, iz, uF, uG, ir, o7, oJ, o8, iU, o9, ph, oK, ou, oA, iw, oF, dC, jV, qH, jm, ↓lu, ↓lA, ↓eX, ↓qQ, ↓ug, ↓lB, ↓lC, ↓oY, ↓lK, ↓lL, ↓qX, ↓qY, ↓qZ, ↓rC, ↓lO, ↓fj, ↓uh, ↓fu, ↓lQ, ↓lX, ↓lY, ↓fL, ↓fM, ↓fO, ↓cC, ↓rF, ↓lZ, ↓fQ, ↓fU, ↓rG, ↓mG, ↓fV, ↓fX, ↓fY, ↓rH, ↓rJ, ↓rK, ↓rN, ↓mK, ↓fZ, ↓cD, ↓cG, ↓rW, ↓rY, ↓gq, ↓rZ, ↓mQ, ↓mU, ↓mV, ↓gA, ↓gG, ↓gH, ↓cJ, ↓mX, ↓gK, ↓sr, ↓gM, ↓gQ, ↓mY, ↓m7, ↓mZ, ↓ni, ↓nj, ↓gY, ↓nu, ↓gU, ↓cO, ↓su, ↓sE, ↓nA, ↓sG, jE, pZ, pP, tW, jF, qb, jG, fz_non, jH, qd, pQ, tX, pU, tY, jJ, qj, jK, ql, jL, qm, pW, tZ, pX, t7, pY, t8, il, nZ, oE, oh, dD, jM, iJ, nR, dF, qp, jN, nO, uK, uL, uN, uO, uP, uQ, uR, ue, nJ, tG, dG, dH, jO, dI, dJ, bH, dM, dN, bJ, dO, oU, qu, qw, qC, jP, jQ, dR, uf, jR, qD, jT, jU, qF, qG, tH, tK, dY, jW, dZ, bT, d8, bU, jX, d9, bV, eE, eG, jY, jZ, uJ, vD, vK, bY, bZ, eU, kW, eO, bW, qJ, qK, j6, eQ, j8, j9, kh, qO, j7, qM, qN, aln, alo, alp, ale, Int.reduceToNat, bK, bL, dU, bM, bO, dW, dX, bQ, bR, eY, eZ, lM, rA, rB, Option.isSome_some, Option.isSome_none, lN, Int.reduceEq, beq_self_eq_true, cV, cW, fB, lU, fD, fG, fH, lV, lW, fJ, fK, fP, cA, bu, mD, mF, mH, mJ, gh, cH, cI, mO, gj, rO, ul, rP, rQ, rR, uU, uV, gJ, mW, oG, oV, iT, oW, gR, m9, nH, kY, lg, eV, kZ, lD, qR, lE, lF, qT, lG, lH, lJ, qU, qW, startF, ala, alc, alh, alm, alb, ald, ali, alk, alq, alr, alj, alf, alg, Nat.reduceAdd, Nat.reduceSub, Nat.reduceLeDiff, Nat.reduceLT, Nat.zero_add, and_true, true_and, and_self, false_and, and_false, not_true_eq_false, not_false_eq_true, eq_self, decide_true, decide_false, Bool.not_true, Bool.not_false, Bool.true_and, Bool.false_and, Bool.and_true, Bool.and_false, Bool.or_true, Bool.or_false, Bool.true_or, Bool.false_or, Option.map_some, Option.map_none, Int.toNat_natCast, ↓reduceIte, Bool.false_eq_true, reduceCtorEq, Int.cast_ofNat_Int, Int.reduceLT, Int.reduceLE, Int.reduceAdd, Int.reduceSub, Int.reduceNeg, Int.natCast_zero, qI, and_assoc, ↓uZ, ↓u5, ↓u6, ↓vW, ↓yE, ↓yF, ↓yG, ↓yH, ↓yI, ↓yJ, ↓zP, ↓aU, aD, aF, aV, aP, aK, aW, aG, aX, aQ, au, aM, aY, aZ, TH, Rm, V1, hl, d1, Xz, ap1, ap2, st0, st1, st2, wG, ap]
   rw [e1, e2]
   simp only [List.map_append, ala, alc]
   have : (TK z).length ≤ 1000 := by have := congrArg List.length e2; rw [alw] at this; omega
   exact ⟨by rw [alw, alw]; omega, trivial⟩
end L
namespace L
open PySem PySem.Spec L2 Pk
theorem Ew {h : Hh} {a b : Str} (ha : zW a = true) (hb : zW b = true) : u9 h (.str a) (.str b) = some (decide (a = b)) := aaf Em.str (Sv a) (Sv b) ha hb (by decide)
theorem abq {w : Str} : ∀ al : List Str, ((al.map D.str).any fun z => D.eqf z (.str w)) = decide (w ∈ al)
 | [] => rfl
 | a :: al => by
   have e : D.eqf (.str a) (.str w) = decide (a = w) := rfl
   rw [ala, List.any_cons, abq al, e]
   by_cases h : a = w
   · subst h; simp
   · have h' : ¬ w = a := fun z => h z.symm
     simp [h, h']
theorem aaA : ∀ al : List Str, (al.map D.str).all D.flat = true
 | [] => rfl
 | a :: al => by rw [ala, List.all_cons, aaA al]; rfl
theorem acE {h : Hh} {w : Str} {al : List Str} : CJ h (.str w) (.tup (al.map .str)) = some (decide (w ∈ al)) := by
 show (if (D.str w).flat && (al.map D.str).all D.flat then some ((al.map D.str).any fun z => D.eqf z (.str w)) else none) = _
 rw [aaA, abq]
 rfl
section
variable {h0 : Hh} {sz : Int} {ws : List Str} {ps : List Int} {sp : Int} {s : Nat} {w : Str}
theorem Ro : (TH h0 sz ws ps sp)[h0.length]? = some (.no 0 [.int sz, .ref (h0.length + 1), .ref (h0.length + 2), .int sp]) := Xz
theorem Jr {v : Int} : (TH h0 sz ws ps sp).set h0.length (.no 0 [.int sz, .ref (h0.length + 1), .ref (h0.length + 2), .int v]) = TH h0 sz ws ps v := st0
theorem abr : uY wQ (TH h0 sz ws ps sp) (.ref h0.length) = some (.int sp) := aeV
theorem aaB : uY xK (TH h0 sz ws ps sp) (.ref h0.length) = some (.ref (h0.length + 1)) := Rm
theorem agq : uY uB (TH h0 sz ws ps sp) (.ref h0.length) = some (.int sz) := aay
theorem zF {mt : Nat → Option Fn} : fnOf mt (TH h0 sz ws ps sp) (.ref h0.length) = mt 0 := by
 unfold fnOf D.ins D.der
 simp only [Ro, Option.getD_some]
theorem adx : D.its (TH h0 sz ws ps sp) (.ref (h0.length + 1)) = some (ws.map .str) := by
 unfold D.its D.der
 have e : (TH h0 sz ws ps sp)[h0.length + 1]? = some (.nl (ws.map .str)) := ap1
 simp only [e, Option.getD_some]
theorem ady : uW (TH h0 sz ws ps sp) (.ref (h0.length + 1)) = some (.int (ws.length : Nat)) := by
 show (D.its _ _).map _ = _
 rw [adx, Option.map_some, alw]
theorem ahU (e : ws[s]? = some w) : bA (TH h0 sz ws ps sp) (.ref (h0.length + 1)) (.int (s : Nat)) = some (.str w) := by
 show (match D.its (TH h0 sz ws ps sp) (.ref (h0.length + 1)) with | some l => atI l (s : Int) | none => none) = _
 rw [adx]
 dsimp only
 unfold atI ixN
 have hl : s < ws.length := (List.getElem?_eq_some_iff.mp e).1
 have h1 : (0 : Int) ≤ (s : Int) ∧ (s : Int) < ((ws.map D.str).length : Int) := ⟨by omega, by rw [alw]; omega⟩
 simp only [h1, and_self, if_true, Int.toNat_natCast, Option.bind_some, alF, e, Option.map_some]
def uH (ws : List Str) (s : Nat) : Str := ws.getD s ""
theorem Iw : wU [.ref h0.length] (TH h0 sz ws ps (s : Nat)) = .ok (.str (uH ws s)) [] (TH h0 sz ws ps (s : Nat)) := by
 apply Wp.eq
 unfold uH
 by_cases hl : s < ws.length
 · have e : ws[s]? = some ws[s] := alv hl
   have d1 : decide ((s : Int) < (ws.length : Nat)) = true := decide_eq_true (by omega)
   have i1 := ahU (h0 := h0) (sz := sz) (ps := ps) (sp := (s : Int)) e
   simp only [↓oH, ↓nW, ↓wp_bind, ↓pq, ↓uE, ↓tM, ↓pA, ↓iV, ↓oM, ↓pB, ↓tD, ↓tE, ↓tO, ↓pC, ↓iW, ↓pD, ↓tQ, ↓iY, ↓iZ, ↓pF, ↓cX, ↓tR, ↓cY, ↓cZ, ↓pG, ↓pH, ↓jc, ↓tU, ↓qL, ↓je, ↓pJ, ↓tV, ↓iD, ↓jf, ↓jh, ↓oN, ↓pK, ↓ji, ↓oO, ↓pM, ↓pN, ↓jk, ↓iG, ↓uv, ↓iH, ↓dw, ↓bF, ↓dB, ↓pO, ↓jn, ↓jo, ↓jr, ↓jt, ↓ju, ↓jw, ↓jx, ↓bG, ↓jy, ↓jA, ↓jB, ↓kJ, ↓qP, ↓jC, ↓iI, ↓jD, ↓j5, ↓km, ↓kE, ↓iK, ↓iQ, ig, oZ, o5, oR, iz, uF, uG, ir, o7, oJ, o8, iU, o9, ph, oK, ou, oA, iw, oF, dC, jV, qH, jm, ↓lu, ↓lA, ↓eX, ↓qQ, ↓ug, ↓lB, ↓lC, ↓oY, ↓lK, ↓lL, ↓qX, ↓qY, ↓qZ, ↓rC, ↓lO, ↓fj, ↓uh, ↓fu, ↓lQ, ↓lX, ↓lY, ↓fL, ↓fM, ↓fO, ↓cC, ↓rF, ↓lZ, ↓fQ, ↓fU, ↓rG, ↓mG, ↓fV, ↓fX, ↓fY, ↓rH, ↓rJ, ↓rK, ↓rN, ↓mK, ↓fZ, ↓cD, ↓cG, ↓rW, ↓rY, ↓gq, ↓rZ, ↓mQ, ↓mU, ↓mV, ↓gA, ↓gG, ↓gH, ↓cJ, ↓mX, ↓gK, ↓sr, ↓gM, ↓gQ, ↓mY, ↓m7, ↓mZ, ↓ni, ↓nj, ↓gY, ↓nu, ↓gU, ↓cO, ↓su, ↓sE, ↓nA, ↓sG, jE, pZ, pP, tW, jF, qb, jG, fz_non, jH, qd, pQ, tX, pU, tY, jJ, qj, jK, ql, jL, qm, pW, tZ, pX, t7, pY, t8, il, nZ, oE, oh, dD, jM, iJ, nR, dF, qp, jN, nO, uK, uL, uN, uO, uP, uQ, uR, ue, nJ, tG, dG, dH, jO, dI, dJ, bH, dM, dN, bJ, dO, oU, qu, qw, qC, jP, jQ, dR, uf, jR, qD, jT, jU, qF, qG, tH, tK, dY, jW, dZ, bT, d8, bU, jX, d9, bV, eE, eG, jY, jZ, uJ, vD, vK, bY, bZ, eU, kW, eO, bW, qJ, qK, j6, eQ, j8, j9, kh, qO, j7, qM, qN, aln, alo, alp, ale, Int.reduceToNat, bK, bL, dU, bM, bO, dW, dX, bQ, bR, eY, eZ, lM, rA, rB, Option.isSome_some, Option.isSome_none, lN, Int.reduceEq, beq_self_eq_true, cV, cW, fB, lU, fD, fG, fH, lV, lW, fJ, fK, fP, cA, bu, mD, mF, mH, mJ, gh, cH, cI, mO, gj, rO, ul, rP, rQ, rR, uU, uV, gJ, mW, oG, oV, iT, oW, gR, m9, nH, kY, lg, eV, kZ, lD, qR, lE, lF, qT, lG, lH, lJ, qU, qW, startF, ala, alc, alh, alm, alb, ald, ali, alk, alq, alr, alj, alf, alg, Nat.reduceAdd, Nat.reduceSub, Nat.reduceLeDiff, Nat.reduceLT, Nat.zero_add, and_true, true_and, and_self, false_and, and_false, not_true_eq_false, not_false_eq_true, eq_self, decide_true, decide_false, Bool.not_true, Bool.not_false, Bool.true_and, Bool.false_and, Bool.and_true, Bool.and_false, Bool.or_true, Bool.or_false, Bool.true_or, Bool.false_or, Option.map_some, Option.map_none, Int.toNat_natCast, ↓reduceIte, Bool.false_eq_true, reduceCtorEq, Int.cast_ofNat_Int, Int.reduceLT, Int.reduceLE, Int.reduceAdd, Int.reduceSub, Int.reduceNeg, Int.natCast_zero, qI, and_assoc, ↓Jo, ↓aU, aD, aF, aV, aP, aK, aW, aG, aX, aQ, au, aM, aY, aZ, ↓Hr, abr, aaB, ady, d1, i1, List.getD_eq_getElem?_getD, e, Option.getD_some]
 · have e : ws[s]? = none := List.getElem?_eq_none (by omega)
   have d1 : decide ((s : Int) < (ws.length : Nat)) = false := decide_eq_false (by omega)
   simp only [↓oH, ↓nW, ↓wp_bind, ↓pq, ↓uE, ↓tM, ↓pA, ↓iV, ↓oM, ↓pB, ↓tD, ↓tE, ↓tO, ↓pC, ↓iW, ↓pD, ↓tQ, ↓iY, ↓iZ, ↓pF, ↓cX, ↓tR, ↓cY, ↓cZ, ↓pG, ↓pH, ↓jc, ↓tU, ↓qL, ↓je, ↓pJ, ↓tV, ↓iD, ↓jf, ↓jh, ↓oN, ↓pK, ↓ji, ↓oO, ↓pM, ↓pN, ↓jk, ↓iG, ↓uv, ↓iH, ↓dw, ↓bF, ↓dB, ↓pO, ↓jn, ↓jo, ↓jr, ↓jt, ↓ju, ↓jw, ↓jx, ↓bG, ↓jy, ↓jA, ↓jB, ↓kJ, ↓qP, ↓jC, ↓iI, ↓jD, ↓j5, ↓km, ↓kE, ↓iK, ↓iQ, ig, oZ, o5, oR, iz, uF, uG, ir, o7, oJ, o8, iU, o9, ph, oK, ou, oA, iw, oF, dC, jV, qH, jm, ↓lu, ↓lA, ↓eX, ↓qQ, ↓ug, ↓lB, ↓lC, ↓oY, ↓lK, ↓lL, ↓qX, ↓qY, ↓qZ, ↓rC, ↓lO, ↓fj, ↓uh, ↓fu, ↓lQ, ↓lX, ↓lY, ↓fL, ↓fM, ↓fO, ↓cC, ↓rF, ↓lZ, ↓fQ, ↓fU, ↓rG, ↓mG, ↓fV, ↓fX, ↓fY, ↓rH, ↓rJ, ↓rK, ↓rN, ↓mK, ↓fZ, ↓cD, ↓cG, ↓rW, ↓rY, ↓gq, ↓rZ, ↓mQ, ↓mU, ↓mV, ↓gA, ↓gG, ↓gH, ↓cJ, ↓mX, ↓gK, ↓sr, ↓gM, ↓gQ, ↓mY, ↓m7, ↓mZ, ↓ni, ↓nj, ↓gY, ↓nu, ↓gU, ↓cO, ↓su, ↓sE, ↓nA, ↓sG, jE, pZ, pP, tW, jF, qb, jG, fz_non, jH, qd, pQ, tX, pU, tY, jJ, qj, jK, ql, jL, qm, pW, tZ, pX, t7, pY, t8, il, nZ, oE, oh, dD, jM, iJ, nR, dF, qp, jN, nO, uK, uL, uN, uO, uP, uQ, uR, ue, nJ, tG, dG, dH, jO, dI, dJ, bH, dM, dN, bJ, dO, oU, qu, qw, qC, jP, jQ, dR, uf, jR, qD, jT, jU, qF, qG, tH, tK, dY, jW, dZ, bT, d8, bU, jX, d9, bV, eE, eG, jY, jZ, uJ, vD, vK, bY, bZ, eU, kW, eO, bW, qJ, qK, j6, eQ, j8, j9, kh, qO, j7, qM, qN, aln, alo, alp, ale, Int.reduceToNat, bK, bL, dU, bM, bO, dW, dX, bQ, bR, eY, eZ, lM, rA, rB, Option.isSome_some, Option.isSome_none, lN, Int.reduceEq, beq_self_eq_true, cV, cW, fB, lU, fD, fG, fH, lV, lW, fJ, fK, fP, cA, bu, mD, mF, mH, mJ, gh, cH, cI, mO, gj, rO, ul, rP, rQ, rR, uU, uV, gJ, mW, oG, oV, iT, oW, gR, m9, nH, kY, lg, eV, kZ, lD, qR, lE, lF, qT, lG, lH, lJ, qU, qW, startF, ala, alc, alh, alm, alb, ald, ali, alk, alq, alr, alj, alf, alg, Nat.reduceAdd, Nat.reduceSub, Nat.reduceLeDiff, Nat.reduceLT, Nat.zero_add, and_true, true_and, and_self, false_and, and_false, not_true_eq_false, not_false_eq_true, eq_self, decide_true, decide_false, Bool.not_true, Bool.not_false, Bool.true_and, Bool.false_and, Bool.and_true, Bool.and_false, Bool.or_true, Bool.or_false, Bool.true_or, Bool.false_or, Option.map_some, Option.map_none, Int.toNat_natCast, ↓reduceIte, Bool.false_eq_true, reduceCtorEq, Int.cast_ofNat_Int, Int.reduceLT, Int.reduceLE, Int.reduceAdd, Int.reduceSub, Int.reduceNeg, Int.natCast_zero, qI, and_assoc, ↓Jo, ↓aU, aD, aF, aV, aP, aK, aW, aG, aX, aQ, au, aM, aY, aZ, ↓Hr, abr, aaB, ady, d1, List.getD_eq_getElem?_getD, e, Option.getD_none]
theorem JV (hg : zW (uH ws s) = true) (hw : zW w = true) :
 yD [.ref h0.length, .str w] (TH h0 sz ws ps (s : Nat)) = .ok (.bl (decide (uH ws s = w))) [] (TH h0 sz ws ps ((if uH ws s = w then s + 1 else s : Nat) : Int)) := by
 apply Wp.eq
 have u := Iw (h0 := h0) (sz := sz) (ws := ws) (ps := ps) (s := s)
 have c : ∀ h : Hh, u9 h (.str (uH ws s)) (.str w) = some (decide (uH ws s = w)) := fun h => Ew hg hw
 by_cases he : uH ws s = w
 · have d1 : decide (uH ws s = w) = true := decide_eq_true he
   simp only [↓oH, ↓nW, ↓wp_bind, ↓pq, ↓uE, ↓tM, ↓pA, ↓iV, ↓oM, ↓pB, ↓tD, ↓tE, ↓tO, ↓pC, ↓iW, ↓pD, ↓tQ, ↓iY, ↓iZ, ↓pF, ↓cX, ↓tR, ↓cY, ↓cZ, ↓pG, ↓pH, ↓jc, ↓tU, ↓qL, ↓je, ↓pJ, ↓tV, ↓iD, ↓jf, ↓jh, ↓oN, ↓pK, ↓ji, ↓oO, ↓pM, ↓pN, ↓jk, ↓iG, ↓uv, ↓iH, ↓dw, ↓bF, ↓dB, ↓pO, ↓jn, ↓jo, ↓jr, ↓jt, ↓ju, ↓jw, ↓jx, ↓bG, ↓jy, ↓jA, ↓jB, ↓kJ, ↓qP, ↓jC, ↓iI, ↓jD, ↓j5, ↓km, ↓kE, ↓iK, ↓iQ, ig, oZ, o5, oR, iz, uF, uG, ir, o7, oJ, o8, iU, o9, ph, oK, ou, oA, iw, oF, dC, jV, qH, jm, ↓lu, ↓lA, ↓eX, ↓qQ, ↓ug, ↓lB, ↓lC, ↓oY, ↓lK, ↓lL, ↓qX, ↓qY, ↓qZ, ↓rC, ↓lO, ↓fj, ↓uh, ↓fu, ↓lQ, ↓lX, ↓lY, ↓fL, ↓fM, ↓fO, ↓cC, ↓rF, ↓lZ, ↓fQ, ↓fU, ↓rG, ↓mG, ↓fV, ↓fX, ↓fY, ↓rH, ↓rJ, ↓rK, ↓rN, ↓mK, ↓fZ, ↓cD, ↓cG, ↓rW, ↓rY, ↓gq, ↓rZ, ↓mQ, ↓mU, ↓mV, ↓gA, ↓gG, ↓gH, ↓cJ, ↓mX, ↓gK, ↓sr, ↓gM, ↓gQ, ↓mY, ↓m7, ↓mZ, ↓ni, ↓nj, ↓gY, ↓nu, ↓gU, ↓cO, ↓su, ↓sE, ↓nA, ↓sG, jE, pZ, pP, tW, jF, qb, jG, fz_non, jH, qd, pQ, tX, pU, tY, jJ, qj, jK, ql, jL, qm, pW, tZ, pX, t7, pY, t8, il, nZ, oE, oh, dD, jM, iJ, nR, dF, qp, jN, nO, uK, uL, uN, uO, uP, uQ, uR, ue, nJ, tG, dG, dH, jO, dI, dJ, bH, dM, dN, bJ, dO, oU, qu, qw, qC, jP, jQ, dR, uf, jR, qD, jT, jU, qF, qG, tH, tK, dY, jW, dZ, bT, d8, bU, jX, d9, bV, eE, eG, jY, jZ, uJ, vD, vK, bY, bZ, eU, kW, eO, bW, qJ, qK, j6, eQ, j8, j9, kh, qO, j7, qM, qN, aln, alo, alp, ale, Int.reduceToNat, bK, bL, dU, bM, bO, dW, dX, bQ, bR, eY, eZ, lM, rA, rB, Option.isSome_some, Option.isSome_none, lN, Int.reduceEq, beq_self_eq_true, cV, cW, fB, lU, fD, fG, fH, lV, lW, fJ, fK, fP, cA, bu, mD, mF, mH, mJ, gh, cH, cI, mO, gj, rO, ul, rP, rQ, rR, uU, uV, gJ, mW, oG, oV, iT, oW, gR, m9, nH, kY, lg, eV, kZ, lD, qR, lE, lF, qT, lG, lH, lJ, qU, qW, startF, ala, alc, alh, alm, alb, ald, ali, alk, alq, alr, alj, alf, alg, Nat.reduceAdd, Nat.reduceSub, Nat.reduceLeDiff, Nat.reduceLT, Nat.zero_add, and_true, true_and, and_self, false_and, and_false, not_true_eq_false, not_false_eq_true, eq_self, decide_true, decide_false, Bool.not_true, Bool.not_false, Bool.true_and, Bool.false_and, Bool.and_true, Bool.and_false, Bool.or_true, Bool.or_false, Bool.true_or, Bool.false_or, Option.map_some, Option.map_none, Int.toNat_natCast, ↓reduceIte, Bool.false_eq_true, reduceCtorEq, Int.cast_ofNat_Int, Int.reduceLT, Int.reduceLE, Int.reduceAdd, Int.reduceSub, Int.reduceNeg, Int.natCast_zero, qI, and_assoc, ↓Jp, ↓Ma, ↓aU, aD, aF, aV, aP, aK, aW, aG, aX, aQ, au, aM, aY, aZ, ↓K9, zF, u, c, d1, Ro, Jr, wY]
   rw [if_pos he]
   simp only [Jr, Int.natCast_add, Int.natCast_one]
   first | exact ⟨rfl, rfl, rfl⟩ | trivial | skip
 · have d1 : decide (uH ws s = w) = false := decide_eq_false he
   simp only [↓oH, ↓nW, ↓wp_bind, ↓pq, ↓uE, ↓tM, ↓pA, ↓iV, ↓oM, ↓pB, ↓tD, ↓tE, ↓tO, ↓pC, ↓iW, ↓pD, ↓tQ, ↓iY, ↓iZ, ↓pF, ↓cX, ↓tR, ↓cY, ↓cZ, ↓pG, ↓pH, ↓jc, ↓tU, ↓qL, ↓je, ↓pJ, ↓tV, ↓iD, ↓jf, ↓jh, ↓oN, ↓pK, ↓ji, ↓oO, ↓pM, ↓pN, ↓jk, ↓iG, ↓uv, ↓iH, ↓dw, ↓bF, ↓dB, ↓pO, ↓jn, ↓jo, ↓jr, ↓jt, ↓ju, ↓jw, ↓jx, ↓bG, ↓jy, ↓jA, ↓jB, ↓kJ, ↓qP, ↓jC, ↓iI, ↓jD, ↓j5, ↓km, ↓kE, ↓iK, ↓iQ, ig, oZ, o5, oR, iz, uF, uG, ir, o7, oJ, o8, iU, o9, ph, oK, ou, oA, iw, oF, dC, jV, qH, jm, ↓lu, ↓lA, ↓eX, ↓qQ, ↓ug, ↓lB, ↓lC, ↓oY, ↓lK, ↓lL, ↓qX, ↓qY, ↓qZ, ↓rC, ↓lO, ↓fj, ↓uh, ↓fu, ↓lQ, ↓lX, ↓lY, ↓fL, ↓fM, ↓fO, ↓cC, ↓rF, ↓lZ, ↓fQ, ↓fU, ↓rG, ↓mG, ↓fV, ↓fX, ↓fY, ↓rH, ↓rJ, ↓rK, ↓rN, ↓mK, ↓fZ, ↓cD, ↓cG, ↓rW, ↓rY, ↓gq, ↓rZ, ↓mQ, ↓mU, ↓mV, ↓gA, ↓gG, ↓gH, ↓cJ, ↓mX, ↓gK, ↓sr, ↓gM, ↓gQ, ↓mY, ↓m7, ↓mZ, ↓ni, ↓nj, ↓gY, ↓nu, ↓gU, ↓cO, ↓su, ↓sE, ↓nA, ↓sG, jE, pZ, pP, tW, jF, qb, jG, fz_non, jH, qd, pQ, tX, pU, tY, jJ, qj, jK, ql, jL, qm, pW, tZ, pX, t7, pY, t8, il, nZ, oE, oh, dD, jM, iJ, nR, dF, qp, jN, nO, uK, uL, uN, uO, uP, uQ, uR, ue, nJ, tG, dG, dH, jO, dI, dJ, bH, dM, dN, bJ, dO, oU, qu, qw, qC, jP, jQ, dR, uf, jR, qD, jT, jU, qF, qG, tH, tK, dY, jW, dZ, bT, d8, bU, jX, d9, bV, eE, eG, jY, jZ, uJ, vD, vK, bY, bZ, eU, kW, eO, bW, qJ, qK, j6, eQ, j8, j9, kh, qO, j7, qM, qN, aln, alo, alp, ale, Int.reduceToNat, bK, bL, dU, bM, bO, dW, dX, bQ, bR, eY, eZ, lM, rA, rB, Option.isSome_some, Option.isSome_none, lN, Int.reduceEq, beq_self_eq_true, cV, cW, fB, lU, fD, fG, fH, lV, lW, fJ, fK, fP, cA, bu, mD, mF, mH, mJ, gh, cH, cI, mO, gj, rO, ul, rP, rQ, rR, uU, uV, gJ, mW, oG, oV, iT, oW, gR, m9, nH, kY, lg, eV, kZ, lD, qR, lE, lF, qT, lG, lH, lJ, qU, qW, startF, ala, alc, alh, alm, alb, ald, ali, alk, alq, alr, alj, alf, alg, Nat.reduceAdd, Nat.reduceSub, Nat.reduceLeDiff, Nat.reduceLT, Nat.zero_add, and_true, true_and, and_self, false_and, and_false, not_true_eq_false, not_false_eq_true, eq_self, decide_true, decide_false, Bool.not_true, Bool.not_false, Bool.true_and, Bool.false_and, Bool.and_true, Bool.and_false, Bool.or_true, Bool.or_false, Bool.true_or, Bool.false_or, Option.map_some, Option.map_none, Int.toNat_natCast, ↓reduceIte, Bool.false_eq_true, reduceCtorEq, Int.cast_ofNat_Int, Int.reduceLT, Int.reduceLE, Int.reduceAdd, Int.reduceSub, Int.reduceNeg, Int.natCast_zero, qI, and_assoc, ↓Jp, ↓Ma, ↓aU, aD, aF, aV, aP, aK, aW, aG, aX, aQ, au, aM, aY, aZ, ↓K9, zF, u, c, d1]
   rw [if_neg he]
   first | exact ⟨rfl, rfl, rfl⟩ | trivial | skip
theorem wC {al : List Str} (hm : uH ws s ∈ al) :
 zf [.ref h0.length, .tup (al.map .str)] (TH h0 sz ws ps (s : Nat)) = .ok (.str (uH ws s)) [] (TH h0 sz ws ps ((s + 1 : Nat) : Int)) := by
 apply Wp.eq
 have u := Iw (h0 := h0) (sz := sz) (ws := ws) (ps := ps) (s := s)
 have c : ∀ h : Hh, CJ h (.str (uH ws s)) (.tup (al.map .str)) = some (decide (uH ws s ∈ al)) := fun h => acE
 have d1 : decide (uH ws s ∈ al) = true := decide_eq_true hm
 simp only [↓oH, ↓nW, ↓wp_bind, ↓pq, ↓uE, ↓tM, ↓pA, ↓iV, ↓oM, ↓pB, ↓tD, ↓tE, ↓tO, ↓pC, ↓iW, ↓pD, ↓tQ, ↓iY, ↓iZ, ↓pF, ↓cX, ↓tR, ↓cY, ↓cZ, ↓pG, ↓pH, ↓jc, ↓tU, ↓qL, ↓je, ↓pJ, ↓tV, ↓iD, ↓jf, ↓jh, ↓oN, ↓pK, ↓ji, ↓oO, ↓pM, ↓pN, ↓jk, ↓iG, ↓uv, ↓iH, ↓dw, ↓bF, ↓dB, ↓pO, ↓jn, ↓jo, ↓jr, ↓jt, ↓ju, ↓jw, ↓jx, ↓bG, ↓jy, ↓jA, ↓jB, ↓kJ, ↓qP, ↓jC, ↓iI, ↓jD, ↓j5, ↓km, ↓kE, ↓iK, ↓iQ, ig, oZ, o5, oR, iz, uF, uG, ir, o7, oJ, o8, iU, o9, ph, oK, ou, oA, iw, oF, dC, jV, qH, jm, ↓lu, ↓lA, ↓eX, ↓qQ, ↓ug, ↓lB, ↓lC, ↓oY, ↓lK, ↓lL, ↓qX, ↓qY, ↓qZ, ↓rC, ↓lO, ↓fj, ↓uh, ↓fu, ↓lQ, ↓lX, ↓lY, ↓fL, ↓fM, ↓fO, ↓cC, ↓rF, ↓lZ, ↓fQ, ↓fU, ↓rG, ↓mG, ↓fV, ↓fX, ↓fY, ↓rH, ↓rJ, ↓rK, ↓rN, ↓mK, ↓fZ, ↓cD, ↓cG, ↓rW, ↓rY, ↓gq, ↓rZ, ↓mQ, ↓mU, ↓mV, ↓gA, ↓gG, ↓gH, ↓cJ, ↓mX, ↓gK, ↓sr, ↓gM, ↓gQ, ↓mY, ↓m7, ↓mZ, ↓ni, ↓nj, ↓gY, ↓nu, ↓gU, ↓cO, ↓su, ↓sE, ↓nA, ↓sG, jE, pZ, pP, tW, jF, qb, jG, fz_non, jH, qd, pQ, tX, pU, tY, jJ, qj, jK, ql, jL, qm, pW, tZ, pX, t7, pY, t8, il, nZ, oE, oh, dD, jM, iJ, nR, dF, qp, jN, nO, uK, uL, uN, uO, uP, uQ, uR, ue, nJ, tG, dG, dH, jO, dI, dJ, bH, dM, dN, bJ, dO, oU, qu, qw, qC, jP, jQ, dR, uf, jR, qD, jT, jU, qF, qG, tH, tK, dY, jW, dZ, bT, d8, bU, jX, d9, bV, eE, eG, jY, jZ, uJ, vD, vK, bY, bZ, eU, kW, eO, bW, qJ, qK, j6, eQ, j8, j9, kh, qO, j7, qM, qN, aln, alo, alp, ale, Int.reduceToNat, bK, bL, dU, bM, bO, dW, dX, bQ, bR, eY, eZ, lM, rA, rB, Option.isSome_some, Option.isSome_none, lN, Int.reduceEq, beq_self_eq_true, cV, cW, fB, lU, fD, fG, fH, lV, lW, fJ, fK, fP, cA, bu, mD, mF, mH, mJ, gh, cH, cI, mO, gj, rO, ul, rP, rQ, rR, uU, uV, gJ, mW, oG, oV, iT, oW, gR, m9, nH, kY, lg, eV, kZ, lD, qR, lE, lF, qT, lG, lH, lJ, qU, qW, startF, ala, alc, alh, alm, alb, ald, ali, alk, alq, alr, alj, alf, alg, Nat.reduceAdd, Nat.reduceSub, Nat.reduceLeDiff, Nat.reduceLT, Nat.zero_add, and_true, true_and, and_self, false_and, and_false, not_true_eq_false, not_false_eq_true, eq_self, decide_true, decide_false, Bool.not_true, Bool.not_false, Bool.true_and, Bool.false_and, Bool.and_true, Bool.and_false, Bool.or_true, Bool.or_false, Bool.true_or, Bool.false_or, Option.map_some, Option.map_none, Int.toNat_natCast, ↓reduceIte, Bool.false_eq_true, reduceCtorEq, Int.cast_ofNat_Int, Int.reduceLT, Int.reduceLE, Int.reduceAdd, Int.reduceSub, Int.reduceNeg, Int.natCast_zero, qI, and_assoc, ↓Tp, ↓Tq, ↓W9, ↓aU, aD, aF, aV, aP, aK, aW, aG, aX, aQ, au, aM, aY, aZ, ↓VM, zF, u, c, d1, Ro, Jr, wY]
 simp only [Jr, Int.natCast_add, Int.natCast_one]
 first | exact ⟨rfl, rfl, rfl⟩ | trivial | skip
end
end L
namespace L
open PySem PySem.Spec L2 Pk
def SJ (w : Str) : Bool := match cs w with
 | [] => false
 | c :: _ => isIn O6 c
theorem XC {w : Str} : w = "" ↔ cs w = [] := by
 constructor
 · intro e; subst e; decide +kernel
 · intro e
   have e2 : cs ("" : Str) = [] := by decide +kernel
   exact Str.ext' (Array.toList_inj.mp (e.trans e2.symm))
theorem ahV {h : Hh} {w : Str} {c : Nat} {r : List Nat} (hl : w.length ≤ 1000) (e : cs w = c :: r) : bA h (.str w) (.int 0) = some (.str ⟨#[c]⟩) :=
 Sw (a := 0) hl (by rw [e]; rfl)
section
variable {h0 : Hh} {sz : Int} {ws : List Str} {ps : List Int} {sp : Int} {s : Nat} {w : Str}
theorem Rp (hg : zW (uH ws s) = true) (hl : (uH ws s).length ≤ 1000) :
 vY [.ref h0.length] (TH h0 sz ws ps (s : Nat)) = .ok (.bl (SJ (uH ws s))) [] (TH h0 sz ws ps (s : Nat)) := by
 apply Wp.eq
 have u := Iw (h0 := h0) (sz := sz) (ws := ws) (ps := ps) (s := s)
 generalize uH ws s = w at *
 have c : ∀ h : Hh, u9 h (.str w) (.str "") = some (decide (w = "")) := fun h => Ew hg (by decide +kernel)
 unfold SJ
 cases e : cs w with
 | nil =>
   have d1 : decide (w = "") = true := decide_eq_true (XC.mpr e)
   simp only [↓oH, ↓nW, ↓wp_bind, ↓pq, ↓uE, ↓tM, ↓pA, ↓iV, ↓oM, ↓pB, ↓tD, ↓tE, ↓tO, ↓pC, ↓iW, ↓pD, ↓tQ, ↓iY, ↓iZ, ↓pF, ↓cX, ↓tR, ↓cY, ↓cZ, ↓pG, ↓pH, ↓jc, ↓tU, ↓qL, ↓je, ↓pJ, ↓tV, ↓iD, ↓jf, ↓jh, ↓oN, ↓pK, ↓ji, ↓oO, ↓pM, ↓pN, ↓jk, ↓iG, ↓uv, ↓iH, ↓dw, ↓bF, ↓dB, ↓pO, ↓jn, ↓jo, ↓jr, ↓jt, ↓ju, ↓jw, ↓jx, ↓bG, ↓jy, ↓jA, ↓jB, ↓kJ, ↓qP, ↓jC, ↓iI, ↓jD, ↓j5, ↓km, ↓kE, ↓iK, ↓iQ, ig, oZ, o5, oR, iz, uF, uG, ir, o7, oJ, o8, iU, o9, ph, oK, ou, oA, iw, oF, dC, jV, qH, jm, ↓lu, ↓lA, ↓eX, ↓qQ, ↓ug, ↓lB, ↓lC, ↓oY, ↓lK, ↓lL, ↓qX, ↓qY, ↓qZ, ↓rC, ↓lO, ↓fj, ↓uh, ↓fu, ↓lQ, ↓lX, ↓lY, ↓fL, ↓fM, ↓fO, ↓cC, ↓rF, ↓lZ, ↓fQ, ↓fU, ↓rG, ↓mG, ↓fV, ↓fX, ↓fY, ↓rH, ↓rJ, ↓rK, ↓rN, ↓mK, ↓fZ, ↓cD, ↓cG, ↓rW, ↓rY, ↓gq, ↓rZ, ↓mQ, ↓mU, ↓mV, ↓gA, ↓gG, ↓gH, ↓cJ, ↓mX, ↓gK, ↓sr, ↓gM, ↓gQ, ↓mY, ↓m7, ↓mZ, ↓ni, ↓nj, ↓gY, ↓nu, ↓gU, ↓cO, ↓su, ↓sE, ↓nA, ↓sG, jE, pZ, pP, tW, jF, qb, jG, fz_non, jH, qd, pQ, tX, pU, tY, jJ, qj, jK, ql, jL, qm, pW, tZ, pX, t7, pY, t8, il, nZ, oE, oh, dD, jM, iJ, nR, dF, qp, jN, nO, uK, uL, uN, uO, uP, uQ, uR, ue, nJ, tG, dG, dH, jO, dI, dJ, bH, dM, dN, bJ, dO, oU, qu, qw, qC, jP, jQ, dR, uf, jR, qD, jT, jU, qF, qG, tH, tK, dY, jW, dZ, bT, d8, bU, jX, d9, bV, eE, eG, jY, jZ, uJ, vD, vK, bY, bZ, eU, kW, eO, bW, qJ, qK, j6, eQ, j8, j9, kh, qO, j7, qM, qN, aln, alo, alp, ale, Int.reduceToNat, bK, bL, dU, bM, bO, dW, dX, bQ, bR, eY, eZ, lM, rA, rB, Option.isSome_some, Option.isSome_none, lN, Int.reduceEq, beq_self_eq_true, cV, cW, fB, lU, fD, fG, fH, lV, lW, fJ, fK, fP, cA, bu, mD, mF, mH, mJ, gh, cH, cI, mO, gj, rO, ul, rP, rQ, rR, uU, uV, gJ, mW, oG, oV, iT, oW, gR, m9, nH, kY, lg, eV, kZ, lD, qR, lE, lF, qT, lG, lH, lJ, qU, qW, startF, ala, alc, alh, alm, alb, ald, ali, alk, alq, alr, alj, alf, alg, Nat.reduceAdd, Nat.reduceSub, Nat.reduceLeDiff, Nat.reduceLT, Nat.zero_add, and_true, true_and, and_self, false_and, and_false, not_true_eq_false, not_false_eq_true, eq_self, decide_true, decide_false, Bool.not_true, Bool.not_false, Bool.true_and, Bool.false_and, Bool.and_true, Bool.and_false, Bool.or_true, Bool.or_false, Bool.true_or, Bool.false_or, Option.map_some, Option.map_none, Int.toNat_natCast, ↓reduceIte, Bool.false_eq_true, reduceCtorEq, Int.cast_ofNat_Int, Int.reduceLT, Int.reduceLE, Int.reduceAdd, Int.reduceSub, Int.reduceNeg, Int.natCast_zero, qI, and_assoc, ↓Gy, ↓aU, aD, aF, aV, aP, aK, aW, aG, aX, aQ, au, aM, aY, aZ, ↓Ft, zF, u, c, d1]
 | cons a r =>
   have d1 : decide (w = "") = false := decide_eq_false fun z => by rw [XC.mp z] at e; cases e
   have i1 : ∀ h : Hh, bA h (.str w) (.int 0) = some (.str ⟨#[a]⟩) := fun h => ahV hl e
   have i2 : ∀ h : Hh, CJ h (.str ⟨#[a]⟩) (.str "0123456789") = some (isIn O6 a) := fun h => rfl
   simp only [↓oH, ↓nW, ↓wp_bind, ↓pq, ↓uE, ↓tM, ↓pA, ↓iV, ↓oM, ↓pB, ↓tD, ↓tE, ↓tO, ↓pC, ↓iW, ↓pD, ↓tQ, ↓iY, ↓iZ, ↓pF, ↓cX, ↓tR, ↓cY, ↓cZ, ↓pG, ↓pH, ↓jc, ↓tU, ↓qL, ↓je, ↓pJ, ↓tV, ↓iD, ↓jf, ↓jh, ↓oN, ↓pK, ↓ji, ↓oO, ↓pM, ↓pN, ↓jk, ↓iG, ↓uv, ↓iH, ↓dw, ↓bF, ↓dB, ↓pO, ↓jn, ↓jo, ↓jr, ↓jt, ↓ju, ↓jw, ↓jx, ↓bG, ↓jy, ↓jA, ↓jB, ↓kJ, ↓qP, ↓jC, ↓iI, ↓jD, ↓j5, ↓km, ↓kE, ↓iK, ↓iQ, ig, oZ, o5, oR, iz, uF, uG, ir, o7, oJ, o8, iU, o9, ph, oK, ou, oA, iw, oF, dC, jV, qH, jm, ↓lu, ↓lA, ↓eX, ↓qQ, ↓ug, ↓lB, ↓lC, ↓oY, ↓lK, ↓lL, ↓qX, ↓qY, ↓qZ, ↓rC, ↓lO, ↓fj, ↓uh, ↓fu, ↓lQ, ↓lX, ↓lY, ↓fL, ↓fM, ↓fO, ↓cC, ↓rF, ↓lZ, ↓fQ, ↓fU, ↓rG, ↓mG, ↓fV, ↓fX, ↓fY, ↓rH, ↓rJ, ↓rK, ↓rN, ↓mK, ↓fZ, ↓cD, ↓cG, ↓rW, ↓rY, ↓gq, ↓rZ, ↓mQ, ↓mU, ↓mV, ↓gA, ↓gG, ↓gH, ↓cJ, ↓mX, ↓gK, ↓sr, ↓gM, ↓gQ, ↓mY, ↓m7, ↓mZ, ↓ni, ↓nj, ↓gY, ↓nu, ↓gU, ↓cO, ↓su, ↓sE, ↓nA, ↓sG, jE, pZ, pP, tW, jF, qb, jG, fz_non, jH, qd, pQ, tX, pU, tY, jJ, qj, jK, ql, jL, qm, pW, tZ, pX, t7, pY, t8, il, nZ, oE, oh, dD, jM, iJ, nR, dF, qp, jN, nO, uK, uL, uN, uO, uP, uQ, uR, ue, nJ, tG, dG, dH, jO, dI, dJ, bH, dM, dN, bJ, dO, oU, qu, qw, qC, jP, jQ, dR, uf, jR, qD, jT, jU, qF, qG, tH, tK, dY, jW, dZ, bT, d8, bU, jX, d9, bV, eE, eG, jY, jZ, uJ, vD, vK, bY, bZ, eU, kW, eO, bW, qJ, qK, j6, eQ, j8, j9, kh, qO, j7, qM, qN, aln, alo, alp, ale, Int.reduceToNat, bK, bL, dU, bM, bO, dW, dX, bQ, bR, eY, eZ, lM, rA, rB, Option.isSome_some, Option.isSome_none, lN, Int.reduceEq, beq_self_eq_true, cV, cW, fB, lU, fD, fG, fH, lV, lW, fJ, fK, fP, cA, bu, mD, mF, mH, mJ, gh, cH, cI, mO, gj, rO, ul, rP, rQ, rR, uU, uV, gJ, mW, oG, oV, iT, oW, gR, m9, nH, kY, lg, eV, kZ, lD, qR, lE, lF, qT, lG, lH, lJ, qU, qW, startF, ala, alc, alh, alm, alb, ald, ali, alk, alq, alr, alj, alf, alg, Nat.reduceAdd, Nat.reduceSub, Nat.reduceLeDiff, Nat.reduceLT, Nat.zero_add, and_true, true_and, and_self, false_and, and_false, not_true_eq_false, not_false_eq_true, eq_self, decide_true, decide_false, Bool.not_true, Bool.not_false, Bool.true_and, Bool.false_and, Bool.and_true, Bool.and_false, Bool.or_true, Bool.or_false, Bool.true_or, Bool.false_or, Option.map_some, Option.map_none, Int.toNat_natCast, ↓reduceIte, Bool.false_eq_true, reduceCtorEq, Int.cast_ofNat_Int, Int.reduceLT, Int.reduceLE, Int.reduceAdd, Int.reduceSub, Int.reduceNeg, Int.natCast_zero, qI, and_assoc, ↓Gy, ↓aU, aD, aF, aV, aP, aK, aW, aG, aX, aQ, au, aM, aY, aZ, ↓Ft, zF, u, c, d1, i1, i2]
theorem Rr {low high v : Int} {c : Nat} {r : List Nat} (hg : zW (uH ws s) = true) (h7 : (uH ws s).length ≤ 7) (hc : cs (uH ws s) = c :: r) (hz : c ≠ 48 ∨ (uH ws s).length ≤ 1) (hv : PySem.intText? (uH ws s) = some v) (h1 : low ≤ v) (h2 : v ≤ high) :
 xM [.ref h0.length, .int low, .int high] (TH h0 sz ws ps (s : Nat)) = .ok (.int v) [] (TH h0 sz ws ps ((s + 1 : Nat) : Int)) := by
 apply Wp.eq
 have u := Iw (h0 := h0) (sz := sz) (ws := ws) (ps := ps) (s := s)
 generalize uH ws s = w at *
 have hl : ∀ h : Hh, uW h (.str w) = some (.int (w.length : Nat)) := fun h => by rw [Xk (by omega), Hk]
 have hi : ∀ h : Hh, xT h (.str w) = some (.int v) := fun h => by
  show (if w.length ≤ 640 then (PySem.intText? w).map D.int else none) = _
  rw [if_pos (by omega), hv]
  rfl
 have i1 : ∀ h : Hh, bA h (.str w) (.int 0) = some (.str ⟨#[c]⟩) := fun h => ahV (by omega) hc
 have hcg : zW ⟨#[c]⟩ = true := by
  have e : w.cps.all (· < 0x110000) = true := hg
  rw [Array.all_eq_true'] at e
  have : c ∈ w.cps := Array.mem_toList_iff.mp (by show c ∈ cs w; rw [hc]; exact als)
  show (#[c] : Array Nat).all _ = true
  simp [of_decide_eq_true (e c this)]
 have i2 : ∀ h : Hh, u9 h (.str ⟨#[c]⟩) (.str "0") = some (decide ((⟨#[c]⟩ : Str) = "0")) := fun h => Ew hcg (by decide +kernel)
 have d7 : decide ((7 : Int) < (w.length : Nat)) = false := decide_eq_false (by omega)
 have dl : decide (low ≤ v) = true := decide_eq_true h1
 have dh : decide (v ≤ high) = true := decide_eq_true h2
 by_cases c48 : c = 48
 · have d2 : decide ((⟨#[c]⟩ : Str) = "0") = true := by subst c48; exact decide_eq_true (by decide +kernel)
   have d3 : decide ((1 : Int) < (w.length : Nat)) = false := decide_eq_false (by rcases hz with z | z; exact absurd c48 z; omega)
   simp only [↓oH, ↓nW, ↓wp_bind, ↓pq, ↓uE, ↓tM, ↓pA, ↓iV, ↓oM, ↓pB, ↓tD, ↓tE, ↓tO, ↓pC, ↓iW, ↓pD, ↓tQ, ↓iY, ↓iZ, ↓pF, ↓cX, ↓tR, ↓cY, ↓cZ, ↓pG, ↓pH, ↓jc, ↓tU, ↓qL, ↓je, ↓pJ, ↓tV, ↓iD, ↓jf, ↓jh, ↓oN, ↓pK, ↓ji, ↓oO, ↓pM, ↓pN, ↓jk, ↓iG, ↓uv, ↓iH, ↓dw, ↓bF, ↓dB, ↓pO, ↓jn, ↓jo, ↓jr, ↓jt, ↓ju, ↓jw, ↓jx, ↓bG, ↓jy, ↓jA, ↓jB, ↓kJ, ↓qP, ↓jC, ↓iI, ↓jD, ↓j5, ↓km, ↓kE, ↓iK, ↓iQ, ig, oZ, o5, oR, iz, uF, uG, ir, o7, oJ, o8, iU, o9, ph, oK, ou, oA, iw, oF, dC, jV, qH, jm, ↓lu, ↓lA, ↓eX, ↓qQ, ↓ug, ↓lB, ↓lC, ↓oY, ↓lK, ↓lL, ↓qX, ↓qY, ↓qZ, ↓rC, ↓lO, ↓fj, ↓uh, ↓fu, ↓lQ, ↓lX, ↓lY, ↓fL, ↓fM, ↓fO, ↓cC, ↓rF, ↓lZ, ↓fQ, ↓fU, ↓rG, ↓mG, ↓fV, ↓fX, ↓fY, ↓rH, ↓rJ, ↓rK, ↓rN, ↓mK, ↓fZ, ↓cD, ↓cG, ↓rW, ↓rY, ↓gq, ↓rZ, ↓mQ, ↓mU, ↓mV, ↓gA, ↓gG, ↓gH, ↓cJ, ↓mX, ↓gK, ↓sr, ↓gM, ↓gQ, ↓mY, ↓m7, ↓mZ, ↓ni, ↓nj, ↓gY, ↓nu, ↓gU, ↓cO, ↓su, ↓sE, ↓nA, ↓sG, jE, pZ, pP, tW, jF, qb, jG, fz_non, jH, qd, pQ, tX, pU, tY, jJ, qj, jK, ql, jL, qm, pW, tZ, pX, t7, pY, t8, il, nZ, oE, oh, dD, jM, iJ, nR, dF, qp, jN, nO, uK, uL, uN, uO, uP, uQ, uR, ue, nJ, tG, dG, dH, jO, dI, dJ, bH, dM, dN, bJ, dO, oU, qu, qw, qC, jP, jQ, dR, uf, jR, qD, jT, jU, qF, qG, tH, tK, dY, jW, dZ, bT, d8, bU, jX, d9, bV, eE, eG, jY, jZ, uJ, vD, vK, bY, bZ, eU, kW, eO, bW, qJ, qK, j6, eQ, j8, j9, kh, qO, j7, qM, qN, aln, alo, alp, ale, Int.reduceToNat, bK, bL, dU, bM, bO, dW, dX, bQ, bR, eY, eZ, lM, rA, rB, Option.isSome_some, Option.isSome_none, lN, Int.reduceEq, beq_self_eq_true, cV, cW, fB, lU, fD, fG, fH, lV, lW, fJ, fK, fP, cA, bu, mD, mF, mH, mJ, gh, cH, cI, mO, gj, rO, ul, rP, rQ, rR, uU, uV, gJ, mW, oG, oV, iT, oW, gR, m9, nH, kY, lg, eV, kZ, lD, qR, lE, lF, qT, lG, lH, lJ, qU, qW, startF, ala, alc, alh, alm, alb, ald, ali, alk, alq, alr, alj, alf, alg, Nat.reduceAdd, Nat.reduceSub, Nat.reduceLeDiff, Nat.reduceLT, Nat.zero_add, and_true, true_and, and_self, false_and, and_false, not_true_eq_false, not_false_eq_true, eq_self, decide_true, decide_false, Bool.not_true, Bool.not_false, Bool.true_and, Bool.false_and, Bool.and_true, Bool.and_false, Bool.or_true, Bool.or_false, Bool.true_or, Bool.false_or, Option.map_some, Option.map_none, Int.toNat_natCast, ↓reduceIte, Bool.false_eq_true, reduceCtorEq, Int.cast_ofNat_Int, Int.reduceLT, Int.reduceLE, Int.reduceAdd, Int.reduceSub, Int.reduceNeg, Int.natCast_zero, qI, and_assoc, ↓Ho, ↓Hq, ↓K8, ↓aU, aD, aF, aV, aP, aK, aW, aG, aX, aQ, au, aM, aY, aZ, ↓JH, zF, u, hl, hi, i1, i2, d7, dl, dh, d2, d3, Ro, Jr, wY]
   simp only [Jr, Int.natCast_add, Int.natCast_one]
   first | exact ⟨rfl, rfl, rfl⟩ | trivial | skip
 · have d2 : decide ((⟨#[c]⟩ : Str) = "0") = false := decide_eq_false fun z => c48 (by
    have z' : (⟨#[c]⟩ : Str).cps.toList = ("0" : Str).cps.toList := by rw [z]
    have e2 : ("0" : Str).cps.toList = [48] := by decide +kernel
    rw [e2] at z'
    simpa using z')
   simp only [↓oH, ↓nW, ↓wp_bind, ↓pq, ↓uE, ↓tM, ↓pA, ↓iV, ↓oM, ↓pB, ↓tD, ↓tE, ↓tO, ↓pC, ↓iW, ↓pD, ↓tQ, ↓iY, ↓iZ, ↓pF, ↓cX, ↓tR, ↓cY, ↓cZ, ↓pG, ↓pH, ↓jc, ↓tU, ↓qL, ↓je, ↓pJ, ↓tV, ↓iD, ↓jf, ↓jh, ↓oN, ↓pK, ↓ji, ↓oO, ↓pM, ↓pN, ↓jk, ↓iG, ↓uv, ↓iH, ↓dw, ↓bF, ↓dB, ↓pO, ↓jn, ↓jo, ↓jr, ↓jt, ↓ju, ↓jw, ↓jx, ↓bG, ↓jy, ↓jA, ↓jB, ↓kJ, ↓qP, ↓jC, ↓iI, ↓jD, ↓j5, ↓km, ↓kE, ↓iK, ↓iQ, ig, oZ, o5, oR, iz, uF, uG, ir, o7, oJ, o8, iU, o9, ph, oK, ou, oA, iw, oF, dC, jV, qH, jm, ↓lu, ↓lA, ↓eX, ↓qQ, ↓ug, ↓lB, ↓lC, ↓oY, ↓lK, ↓lL, ↓qX, ↓qY, ↓qZ, ↓rC, ↓lO, ↓fj, ↓uh, ↓fu, ↓lQ, ↓lX, ↓lY, ↓fL, ↓fM, ↓fO, ↓cC, ↓rF, ↓lZ, ↓fQ, ↓fU, ↓rG, ↓mG, ↓fV, ↓fX, ↓fY, ↓rH, ↓rJ, ↓rK, ↓rN, ↓mK, ↓fZ, ↓cD, ↓cG, ↓rW, ↓rY, ↓gq, ↓rZ, ↓mQ, ↓mU, ↓mV, ↓gA, ↓gG, ↓gH, ↓cJ, ↓mX, ↓gK, ↓sr, ↓gM, ↓gQ, ↓mY, ↓m7, ↓mZ, ↓ni, ↓nj, ↓gY, ↓nu, ↓gU, ↓cO, ↓su, ↓sE, ↓nA, ↓sG, jE, pZ, pP, tW, jF, qb, jG, fz_non, jH, qd, pQ, tX, pU, tY, jJ, qj, jK, ql, jL, qm, pW, tZ, pX, t7, pY, t8, il, nZ, oE, oh, dD, jM, iJ, nR, dF, qp, jN, nO, uK, uL, uN, uO, uP, uQ, uR, ue, nJ, tG, dG, dH, jO, dI, dJ, bH, dM, dN, bJ, dO, oU, qu, qw, qC, jP, jQ, dR, uf, jR, qD, jT, jU, qF, qG, tH, tK, dY, jW, dZ, bT, d8, bU, jX, d9, bV, eE, eG, jY, jZ, uJ, vD, vK, bY, bZ, eU, kW, eO, bW, qJ, qK, j6, eQ, j8, j9, kh, qO, j7, qM, qN, aln, alo, alp, ale, Int.reduceToNat, bK, bL, dU, bM, bO, dW, dX, bQ, bR, eY, eZ, lM, rA, rB, Option.isSome_some, Option.isSome_none, lN, Int.reduceEq, beq_self_eq_true, cV, cW, fB, lU, fD, fG, fH, lV, lW, fJ, fK, fP, cA, bu, mD, mF, mH, mJ, gh, cH, cI, mO, gj, rO, ul, rP, rQ, rR, uU, uV, gJ, mW, oG, oV, iT, oW, gR, m9, nH, kY, lg, eV, kZ, lD, qR, lE, lF, qT, lG, lH, lJ, qU, qW, startF, ala, alc, alh, alm, alb, ald, ali, alk, alq, alr, alj, alf, alg, Nat.reduceAdd, Nat.reduceSub, Nat.reduceLeDiff, Nat.reduceLT, Nat.zero_add, and_true, true_and, and_self, false_and, and_false, not_true_eq_false, not_false_eq_true, eq_self, decide_true, decide_false, Bool.not_true, Bool.not_false, Bool.true_and, Bool.false_and, Bool.and_true, Bool.and_false, Bool.or_true, Bool.or_false, Bool.true_or, Bool.false_or, Option.map_some, Option.map_none, Int.toNat_natCast, ↓reduceIte, Bool.false_eq_true, reduceCtorEq, Int.cast_ofNat_Int, Int.reduceLT, Int.reduceLE, Int.reduceAdd, Int.reduceSub, Int.reduceNeg, Int.natCast_zero, qI, and_assoc, ↓Ho, ↓Hq, ↓K8, ↓aU, aD, aF, aV, aP, aK, aW, aG, aX, aQ, au, aM, aY, aZ, ↓JH, zF, u, hl, hi, i1, i2, d7, dl, dh, d2, Ro, Jr, wY]
   simp only [Jr, Int.natCast_add, Int.natCast_one]
   first | exact ⟨rfl, rfl, rfl⟩ | trivial | skip
structure Num (w : Str) (v : Int) : Prop where
 g : zW w = true
 l : w.length ≤ 7
 c : ∃ c r, cs w = c :: r ∧ (c ≠ 48 ∨ w.length ≤ 1) ∧ isIn O6 c = true
 v : PySem.intText? w = some v
theorem Num.sees {v : Int} (n : Num w v) : SJ w = true := by
 obtain ⟨c, r, e, _, h⟩ := n.c
 unfold SJ
 rw [e]
 exact h
theorem acF {a b : Int} (hs : uH ws s = "[") (ha : Num (uH ws (s + 1)) a) (hc : uH ws (s + 2) = ":") (hb : Num (uH ws (s + 3)) b) (he : uH ws (s + 4) = "]") (h0a : 0 ≤ a) (hab : a < b) (hbs : b ≤ sz) :
 xj [.ref h0.length] (TH h0 sz ws ps (s : Nat)) = .ok (.tup [.int a, .int b]) [] (TH h0 sz ws ps ((s + 5 : Nat) : Int)) := by
 have k1 := JV (h0 := h0) (sz := sz) (ws := ws) (ps := ps) (s := s) (w := "[") (by rw [hs]; decide +kernel) (by decide +kernel)
 rw [if_pos hs, decide_eq_true hs] at k1
 have k2 := Rp (h0 := h0) (sz := sz) (ws := ws) (ps := ps) (s := s + 1) ha.g (Nat.le_trans ha.l (by decide))
 rw [ha.sees] at k2
 obtain ⟨c, r, ec, hz, _⟩ := ha.c
 have k3 := Rr (h0 := h0) (sz := sz) (ws := ws) (ps := ps) (s := s + 1) (low := 0) (high := sz - 1) ha.g ha.l ec hz ha.v h0a (by omega)
 have k4 := wC (h0 := h0) (sz := sz) (ws := ws) (ps := ps) (s := s + 2) (al := [":"]) (by rw [hc]; exact als)
 have k5 := Rp (h0 := h0) (sz := sz) (ws := ws) (ps := ps) (s := s + 3) hb.g (Nat.le_trans hb.l (by decide))
 rw [hb.sees] at k5
 obtain ⟨c', r', ec', hz', _⟩ := hb.c
 have k6 := Rr (h0 := h0) (sz := sz) (ws := ws) (ps := ps) (s := s + 3) (low := a + 1) (high := sz) hb.g hb.l ec' hz' hb.v (by omega) hbs
 have k7 := wC (h0 := h0) (sz := sz) (ws := ws) (ps := ps) (s := s + 4) (al := ["]"]) (by rw [he]; exact als)
 simp only [ala, alc] at k4 k7
 apply Wp.eq
 simp only [↓oH, ↓nW, ↓wp_bind, ↓pq, ↓uE, ↓tM, ↓pA, ↓iV, ↓oM, ↓pB, ↓tD, ↓tE, ↓tO, ↓pC, ↓iW, ↓pD, ↓tQ, ↓iY, ↓iZ, ↓pF, ↓cX, ↓tR, ↓cY, ↓cZ, ↓pG, ↓pH, ↓jc, ↓tU, ↓qL, ↓je, ↓pJ, ↓tV, ↓iD, ↓jf, ↓jh, ↓oN, ↓pK, ↓ji, ↓oO, ↓pM, ↓pN, ↓jk, ↓iG, ↓uv, ↓iH, ↓dw, ↓bF, ↓dB, ↓pO, ↓jn, ↓jo, ↓jr, ↓jt, ↓ju, ↓jw, ↓jx, ↓bG, ↓jy, ↓jA, ↓jB, ↓kJ, ↓qP, ↓jC, ↓iI, ↓jD, ↓j5, ↓km, ↓kE, ↓iK, ↓iQ, ig, oZ, o5, oR, iz, uF, uG, ir, o7, oJ, o8, iU, o9, ph, oK, ou, oA, iw, oF, dC, jV, qH, jm, ↓lu, ↓lA, ↓eX, ↓qQ, ↓ug, ↓lB, ↓lC, ↓oY, ↓lK, ↓lL, ↓qX, ↓qY, ↓qZ, ↓rC, ↓lO, ↓fj, ↓uh, ↓fu, ↓lQ, ↓lX, ↓lY, ↓fL, ↓fM, ↓fO, ↓cC, ↓rF, ↓lZ, ↓fQ, ↓fU, ↓rG, ↓mG, ↓fV, ↓fX, ↓fY, ↓rH, ↓rJ, ↓rK, ↓rN, ↓mK, ↓fZ, ↓cD, ↓cG, ↓rW, ↓rY, ↓gq, ↓rZ, ↓mQ, ↓mU, ↓mV, ↓gA, ↓gG, ↓gH, ↓cJ, ↓mX, ↓gK, ↓sr, ↓gM, ↓gQ, ↓mY, ↓m7, ↓mZ, ↓ni, ↓nj, ↓gY, ↓nu, ↓gU, ↓cO, ↓su, ↓sE, ↓nA, ↓sG, jE, pZ, pP, tW, jF, qb, jG, fz_non, jH, qd, pQ, tX, pU, tY, jJ, qj, jK, ql, jL, qm, pW, tZ, pX, t7, pY, t8, il, nZ, oE, oh, dD, jM, iJ, nR, dF, qp, jN, nO, uK, uL, uN, uO, uP, uQ, uR, ue, nJ, tG, dG, dH, jO, dI, dJ, bH, dM, dN, bJ, dO, oU, qu, qw, qC, jP, jQ, dR, uf, jR, qD, jT, jU, qF, qG, tH, tK, dY, jW, dZ, bT, d8, bU, jX, d9, bV, eE, eG, jY, jZ, uJ, vD, vK, bY, bZ, eU, kW, eO, bW, qJ, qK, j6, eQ, j8, j9, kh, qO, j7, qM, qN, aln, alo, alp, ale, Int.reduceToNat, bK, bL, dU, bM, bO, dW, dX, bQ, bR, eY, eZ, lM, rA, rB, Option.isSome_some, Option.isSome_none, lN, Int.reduceEq, beq_self_eq_true, cV, cW, fB, lU, fD, fG, fH, lV, lW, fJ, fK, fP, cA, bu, mD, mF, mH, mJ, gh, cH, cI, mO, gj, rO, ul, rP, rQ, rR, uU, uV, gJ, mW, oG, oV, iT, oW, gR, m9, nH, kY, lg, eV, kZ, lD, qR, lE, lF, qT, lG, lH, lJ, qU, qW, startF, ala, alc, alh, alm, alb, ald, ali, alk, alq, alr, alj, alf, alg, Nat.reduceAdd, Nat.reduceSub, Nat.reduceLeDiff, Nat.reduceLT, Nat.zero_add, and_true, true_and, and_self, false_and, and_false, not_true_eq_false, not_false_eq_true, eq_self, decide_true, decide_false, Bool.not_true, Bool.not_false, Bool.true_and, Bool.false_and, Bool.and_true, Bool.and_false, Bool.or_true, Bool.or_false, Bool.true_or, Bool.false_or, Option.map_some, Option.map_none, Int.toNat_natCast, ↓reduceIte, Bool.false_eq_true, reduceCtorEq, Int.cast_ofNat_Int, Int.reduceLT, Int.reduceLE, Int.reduceAdd, Int.reduceSub, Int.reduceNeg, Int.natCast_zero, qI, and_assoc, ↓VJ, ↓VL, ↓aav, ↓aU, aD, aF, aV, aP, aK, aW, aG, aX, aQ, au, aM, aY, aZ, ↓Yb, zF, agq, k1, k2, k3, k4, k5, k6, k7]
end
end L
namespace L
open PySem PySem.Spec L2 Pk
def fW : List Str := ["raw", "zero", "held"]
def Xl : List Str := ["first", "last", "change", "rises"]
def SM : List Str := ["first", "last", "top", "low", "change", "rises", "told"]
theorem agr : ∀ m ∈ Xl, zW m = true ∧ m ≠ "events" ∧ m ≠ "sum" := by decide +kernel
theorem aeW : ∀ m ∈ SM, zW m = true := by decide +kernel
section
variable {h0 : Hh} {sz : Int} {ws : List Str} {ps : List Int} {s : Nat} {a b : Int}
structure SlT (ws : List Str) (s : Nat) (a b sz : Int) : Prop where
 o : uH ws s = "["
 na : Num (uH ws (s + 1)) a
 c : uH ws (s + 2) = ":"
 nb : Num (uH ws (s + 3)) b
 e : uH ws (s + 4) = "]"
 h0a : 0 ≤ a
 hab : a < b
 hbs : b ≤ sz
theorem SlT.spec (t : SlT ws s a b sz) : xj [.ref h0.length] (TH h0 sz ws ps (s : Nat)) = .ok (.tup [.int a, .int b]) [] (TH h0 sz ws ps ((s + 5 : Nat) : Int)) := acF t.o t.na t.c t.nb t.e t.h0a t.hab t.hbs
theorem Ru {kind m f : Str} {al : List Str} (hf : uH ws s = f) (hm : f ∈ al) (hl : al.length ≤ 1000) (t : SlT ws (s + 1) a b sz) (e1 : uH ws (s + 6) = ")") (e2 : uH ws (s + 7) = ")") :
 wW [.ref h0.length, .str kind, .str m, .tup (al.map .str)] (TH h0 sz ws ps (s : Nat)) = .ok (.tup [.str "leaf", .str kind, .str m, .str f, .int a, .int b]) [] (TH h0 sz ws ps ((s + 8 : Nat) : Int)) := by
 have k1 := wC (h0 := h0) (sz := sz) (ws := ws) (ps := ps) (s := s) (al := al) (by rw [hf]; exact hm)
 have k2 := t.spec (h0 := h0) (ps := ps)
 have k3 := wC (h0 := h0) (sz := sz) (ws := ws) (ps := ps) (s := s + 6) (al := [")"]) (by rw [e1]; exact als)
 have k4 := wC (h0 := h0) (sz := sz) (ws := ws) (ps := ps) (s := s + 7) (al := [")"]) (by rw [e2]; exact als)
 rw [hf] at k1
 simp only [ala, alc] at k3 k4
 apply Wp.eq
 simp only [↓oH, ↓nW, ↓wp_bind, ↓pq, ↓uE, ↓tM, ↓pA, ↓iV, ↓oM, ↓pB, ↓tD, ↓tE, ↓tO, ↓pC, ↓iW, ↓pD, ↓tQ, ↓iY, ↓iZ, ↓pF, ↓cX, ↓tR, ↓cY, ↓cZ, ↓pG, ↓pH, ↓jc, ↓tU, ↓qL, ↓je, ↓pJ, ↓tV, ↓iD, ↓jf, ↓jh, ↓oN, ↓pK, ↓ji, ↓oO, ↓pM, ↓pN, ↓jk, ↓iG, ↓uv, ↓iH, ↓dw, ↓bF, ↓dB, ↓pO, ↓jn, ↓jo, ↓jr, ↓jt, ↓ju, ↓jw, ↓jx, ↓bG, ↓jy, ↓jA, ↓jB, ↓kJ, ↓qP, ↓jC, ↓iI, ↓jD, ↓j5, ↓km, ↓kE, ↓iK, ↓iQ, ig, oZ, o5, oR, iz, uF, uG, ir, o7, oJ, o8, iU, o9, ph, oK, ou, oA, iw, oF, dC, jV, qH, jm, ↓lu, ↓lA, ↓eX, ↓qQ, ↓ug, ↓lB, ↓lC, ↓oY, ↓lK, ↓lL, ↓qX, ↓qY, ↓qZ, ↓rC, ↓lO, ↓fj, ↓uh, ↓fu, ↓lQ, ↓lX, ↓lY, ↓fL, ↓fM, ↓fO, ↓cC, ↓rF, ↓lZ, ↓fQ, ↓fU, ↓rG, ↓mG, ↓fV, ↓fX, ↓fY, ↓rH, ↓rJ, ↓rK, ↓rN, ↓mK, ↓fZ, ↓cD, ↓cG, ↓rW, ↓rY, ↓gq, ↓rZ, ↓mQ, ↓mU, ↓mV, ↓gA, ↓gG, ↓gH, ↓cJ, ↓mX, ↓gK, ↓sr, ↓gM, ↓gQ, ↓mY, ↓m7, ↓mZ, ↓ni, ↓nj, ↓gY, ↓nu, ↓gU, ↓cO, ↓su, ↓sE, ↓nA, ↓sG, jE, pZ, pP, tW, jF, qb, jG, fz_non, jH, qd, pQ, tX, pU, tY, jJ, qj, jK, ql, jL, qm, pW, tZ, pX, t7, pY, t8, il, nZ, oE, oh, dD, jM, iJ, nR, dF, qp, jN, nO, uK, uL, uN, uO, uP, uQ, uR, ue, nJ, tG, dG, dH, jO, dI, dJ, bH, dM, dN, bJ, dO, oU, qu, qw, qC, jP, jQ, dR, uf, jR, qD, jT, jU, qF, qG, tH, tK, dY, jW, dZ, bT, d8, bU, jX, d9, bV, eE, eG, jY, jZ, uJ, vD, vK, bY, bZ, eU, kW, eO, bW, qJ, qK, j6, eQ, j8, j9, kh, qO, j7, qM, qN, aln, alo, alp, ale, Int.reduceToNat, bK, bL, dU, bM, bO, dW, dX, bQ, bR, eY, eZ, lM, rA, rB, Option.isSome_some, Option.isSome_none, lN, Int.reduceEq, beq_self_eq_true, cV, cW, fB, lU, fD, fG, fH, lV, lW, fJ, fK, fP, cA, bu, mD, mF, mH, mJ, gh, cH, cI, mO, gj, rO, ul, rP, rQ, rR, uU, uV, gJ, mW, oG, oV, iT, oW, gR, m9, nH, kY, lg, eV, kZ, lD, qR, lE, lF, qT, lG, lH, lJ, qU, qW, startF, ala, alc, alh, alm, alb, ald, ali, alk, alq, alr, alj, alf, alg, Nat.reduceAdd, Nat.reduceSub, Nat.reduceLeDiff, Nat.reduceLT, Nat.zero_add, and_true, true_and, and_self, false_and, and_false, not_true_eq_false, not_false_eq_true, eq_self, decide_true, decide_false, Bool.not_true, Bool.not_false, Bool.true_and, Bool.false_and, Bool.and_true, Bool.and_false, Bool.or_true, Bool.or_false, Bool.true_or, Bool.false_or, Option.map_some, Option.map_none, Int.toNat_natCast, ↓reduceIte, Bool.false_eq_true, reduceCtorEq, Int.cast_ofNat_Int, Int.reduceLT, Int.reduceLE, Int.reduceAdd, Int.reduceSub, Int.reduceNeg, Int.natCast_zero, qI, and_assoc, ↓Tr, ↓Tt, ↓Tu, ↓Xa, ↓aU, aD, aF, aV, aP, aK, aW, aG, aX, aQ, au, aM, aY, aZ, ↓VN, zF, k1, k2, k3, k4]
 rw [alw]; exact Nat.le_trans hl (by decide)
theorem ags (h : uH ws s = "events") (t : SlT ws (s + 1) a b sz) : vP [.ref h0.length] (TH h0 sz ws ps (s : Nat)) = .ok (.tup [.str "events", .int a, .int b]) [] (TH h0 sz ws ps ((s + 6 : Nat) : Int)) := by
 have k1 := wC (h0 := h0) (sz := sz) (ws := ws) (ps := ps) (s := s) (al := ["events", "sum", "first", "last", "change", "rises"]) (by rw [h]; exact als)
 have k2 := t.spec (h0 := h0) (ps := ps)
 rw [h] at k1
 simp only [ala, alc] at k1
 have c1 : ∀ h : Hh, u9 h (.str "events") (.str "events") = some true := fun h => (Ew (by decide +kernel) (by decide +kernel)).trans (congrArg some (decide_eq_true rfl))
 apply Wp.eq
 simp only [↓oH, ↓nW, ↓wp_bind, ↓pq, ↓uE, ↓tM, ↓pA, ↓iV, ↓oM, ↓pB, ↓tD, ↓tE, ↓tO, ↓pC, ↓iW, ↓pD, ↓tQ, ↓iY, ↓iZ, ↓pF, ↓cX, ↓tR, ↓cY, ↓cZ, ↓pG, ↓pH, ↓jc, ↓tU, ↓qL, ↓je, ↓pJ, ↓tV, ↓iD, ↓jf, ↓jh, ↓oN, ↓pK, ↓ji, ↓oO, ↓pM, ↓pN, ↓jk, ↓iG, ↓uv, ↓iH, ↓dw, ↓bF, ↓dB, ↓pO, ↓jn, ↓jo, ↓jr, ↓jt, ↓ju, ↓jw, ↓jx, ↓bG, ↓jy, ↓jA, ↓jB, ↓kJ, ↓qP, ↓jC, ↓iI, ↓jD, ↓j5, ↓km, ↓kE, ↓iK, ↓iQ, ig, oZ, o5, oR, iz, uF, uG, ir, o7, oJ, o8, iU, o9, ph, oK, ou, oA, iw, oF, dC, jV, qH, jm, ↓lu, ↓lA, ↓eX, ↓qQ, ↓ug, ↓lB, ↓lC, ↓oY, ↓lK, ↓lL, ↓qX, ↓qY, ↓qZ, ↓rC, ↓lO, ↓fj, ↓uh, ↓fu, ↓lQ, ↓lX, ↓lY, ↓fL, ↓fM, ↓fO, ↓cC, ↓rF, ↓lZ, ↓fQ, ↓fU, ↓rG, ↓mG, ↓fV, ↓fX, ↓fY, ↓rH, ↓rJ, ↓rK, ↓rN, ↓mK, ↓fZ, ↓cD, ↓cG, ↓rW, ↓rY, ↓gq, ↓rZ, ↓mQ, ↓mU, ↓mV, ↓gA, ↓gG, ↓gH, ↓cJ, ↓mX, ↓gK, ↓sr, ↓gM, ↓gQ, ↓mY, ↓m7, ↓mZ, ↓ni, ↓nj, ↓gY, ↓nu, ↓gU, ↓cO, ↓su, ↓sE, ↓nA, ↓sG, jE, pZ, pP, tW, jF, qb, jG, fz_non, jH, qd, pQ, tX, pU, tY, jJ, qj, jK, ql, jL, qm, pW, tZ, pX, t7, pY, t8, il, nZ, oE, oh, dD, jM, iJ, nR, dF, qp, jN, nO, uK, uL, uN, uO, uP, uQ, uR, ue, nJ, tG, dG, dH, jO, dI, dJ, bH, dM, dN, bJ, dO, oU, qu, qw, qC, jP, jQ, dR, uf, jR, qD, jT, jU, qF, qG, tH, tK, dY, jW, dZ, bT, d8, bU, jX, d9, bV, eE, eG, jY, jZ, uJ, vD, vK, bY, bZ, eU, kW, eO, bW, qJ, qK, j6, eQ, j8, j9, kh, qO, j7, qM, qN, aln, alo, alp, ale, Int.reduceToNat, bK, bL, dU, bM, bO, dW, dX, bQ, bR, eY, eZ, lM, rA, rB, Option.isSome_some, Option.isSome_none, lN, Int.reduceEq, beq_self_eq_true, cV, cW, fB, lU, fD, fG, fH, lV, lW, fJ, fK, fP, cA, bu, mD, mF, mH, mJ, gh, cH, cI, mO, gj, rO, ul, rP, rQ, rR, uU, uV, gJ, mW, oG, oV, iT, oW, gR, m9, nH, kY, lg, eV, kZ, lD, qR, lE, lF, qT, lG, lH, lJ, qU, qW, startF, ala, alc, alh, alm, alb, ald, ali, alk, alq, alr, alj, alf, alg, Nat.reduceAdd, Nat.reduceSub, Nat.reduceLeDiff, Nat.reduceLT, Nat.zero_add, and_true, true_and, and_self, false_and, and_false, not_true_eq_false, not_false_eq_true, eq_self, decide_true, decide_false, Bool.not_true, Bool.not_false, Bool.true_and, Bool.false_and, Bool.and_true, Bool.and_false, Bool.or_true, Bool.or_false, Bool.true_or, Bool.false_or, Option.map_some, Option.map_none, Int.toNat_natCast, ↓reduceIte, Bool.false_eq_true, reduceCtorEq, Int.cast_ofNat_Int, Int.reduceLT, Int.reduceLE, Int.reduceAdd, Int.reduceSub, Int.reduceNeg, Int.natCast_zero, qI, and_assoc, ↓wj, ↓wk, ↓wu, ↓wy, ↓wz, ↓wA, ↓xU, ↓aU, aD, aF, aV, aP, aK, aW, aG, aX, aQ, au, aM, aY, aZ, ↓Hi, zF, yM, k1, k2, c1]
theorem aeX {m f : Str} (hm : m ∈ Xl) (h : uH ws s = m) (h1 : uH ws (s + 1) = "(") (h2 : uH ws (s + 2) = "sum") (h3 : uH ws (s + 3) = "(") (hf : uH ws (s + 4) = f) (hff : f ∈ (["zero", "held"] : List Str)) (t : SlT ws (s + 5) a b sz) (e1 : uH ws (s + 10) = ")") (e2 : uH ws (s + 11) = ")") :
 vP [.ref h0.length] (TH h0 sz ws ps (s : Nat)) = .ok (.tup [.str "leaf", .str "all", .str m, .str f, .int a, .int b]) [] (TH h0 sz ws ps ((s + 12 : Nat) : Int)) := by
 obtain ⟨g, n1, n2⟩ := agr m hm
 have k1 := wC (h0 := h0) (sz := sz) (ws := ws) (ps := ps) (s := s) (al := ["events", "sum", "first", "last", "change", "rises"]) (by rw [h]; exact alz _ (alz _ hm))
 have k2 := wC (h0 := h0) (sz := sz) (ws := ws) (ps := ps) (s := s + 1) (al := ["("]) (by rw [h1]; exact als)
 have k3 := wC (h0 := h0) (sz := sz) (ws := ws) (ps := ps) (s := s + 2) (al := ["sum"]) (by rw [h2]; exact als)
 have k4 := wC (h0 := h0) (sz := sz) (ws := ws) (ps := ps) (s := s + 3) (al := ["("]) (by rw [h3]; exact als)
 have k5 := Ru (h0 := h0) (ps := ps) (kind := "all") (m := m) (al := ["zero", "held"]) hf hff (by decide) t e1 e2
 rw [h] at k1
 simp only [ala, alc] at k1 k2 k3 k4 k5
 have c1 : ∀ h : Hh, u9 h (.str m) (.str "events") = some false := fun h => (Ew g (by decide +kernel)).trans (congrArg some (decide_eq_false n1))
 have c2 : ∀ h : Hh, u9 h (.str m) (.str "sum") = some false := fun h => (Ew g (by decide +kernel)).trans (congrArg some (decide_eq_false n2))
 apply Wp.eq
 simp only [↓oH, ↓nW, ↓wp_bind, ↓pq, ↓uE, ↓tM, ↓pA, ↓iV, ↓oM, ↓pB, ↓tD, ↓tE, ↓tO, ↓pC, ↓iW, ↓pD, ↓tQ, ↓iY, ↓iZ, ↓pF, ↓cX, ↓tR, ↓cY, ↓cZ, ↓pG, ↓pH, ↓jc, ↓tU, ↓qL, ↓je, ↓pJ, ↓tV, ↓iD, ↓jf, ↓jh, ↓oN, ↓pK, ↓ji, ↓oO, ↓pM, ↓pN, ↓jk, ↓iG, ↓uv, ↓iH, ↓dw, ↓bF, ↓dB, ↓pO, ↓jn, ↓jo, ↓jr, ↓jt, ↓ju, ↓jw, ↓jx, ↓bG, ↓jy, ↓jA, ↓jB, ↓kJ, ↓qP, ↓jC, ↓iI, ↓jD, ↓j5, ↓km, ↓kE, ↓iK, ↓iQ, ig, oZ, o5, oR, iz, uF, uG, ir, o7, oJ, o8, iU, o9, ph, oK, ou, oA, iw, oF, dC, jV, qH, jm, ↓lu, ↓lA, ↓eX, ↓qQ, ↓ug, ↓lB, ↓lC, ↓oY, ↓lK, ↓lL, ↓qX, ↓qY, ↓qZ, ↓rC, ↓lO, ↓fj, ↓uh, ↓fu, ↓lQ, ↓lX, ↓lY, ↓fL, ↓fM, ↓fO, ↓cC, ↓rF, ↓lZ, ↓fQ, ↓fU, ↓rG, ↓mG, ↓fV, ↓fX, ↓fY, ↓rH, ↓rJ, ↓rK, ↓rN, ↓mK, ↓fZ, ↓cD, ↓cG, ↓rW, ↓rY, ↓gq, ↓rZ, ↓mQ, ↓mU, ↓mV, ↓gA, ↓gG, ↓gH, ↓cJ, ↓mX, ↓gK, ↓sr, ↓gM, ↓gQ, ↓mY, ↓m7, ↓mZ, ↓ni, ↓nj, ↓gY, ↓nu, ↓gU, ↓cO, ↓su, ↓sE, ↓nA, ↓sG, jE, pZ, pP, tW, jF, qb, jG, fz_non, jH, qd, pQ, tX, pU, tY, jJ, qj, jK, ql, jL, qm, pW, tZ, pX, t7, pY, t8, il, nZ, oE, oh, dD, jM, iJ, nR, dF, qp, jN, nO, uK, uL, uN, uO, uP, uQ, uR, ue, nJ, tG, dG, dH, jO, dI, dJ, bH, dM, dN, bJ, dO, oU, qu, qw, qC, jP, jQ, dR, uf, jR, qD, jT, jU, qF, qG, tH, tK, dY, jW, dZ, bT, d8, bU, jX, d9, bV, eE, eG, jY, jZ, uJ, vD, vK, bY, bZ, eU, kW, eO, bW, qJ, qK, j6, eQ, j8, j9, kh, qO, j7, qM, qN, aln, alo, alp, ale, Int.reduceToNat, bK, bL, dU, bM, bO, dW, dX, bQ, bR, eY, eZ, lM, rA, rB, Option.isSome_some, Option.isSome_none, lN, Int.reduceEq, beq_self_eq_true, cV, cW, fB, lU, fD, fG, fH, lV, lW, fJ, fK, fP, cA, bu, mD, mF, mH, mJ, gh, cH, cI, mO, gj, rO, ul, rP, rQ, rR, uU, uV, gJ, mW, oG, oV, iT, oW, gR, m9, nH, kY, lg, eV, kZ, lD, qR, lE, lF, qT, lG, lH, lJ, qU, qW, startF, ala, alc, alh, alm, alb, ald, ali, alk, alq, alr, alj, alf, alg, Nat.reduceAdd, Nat.reduceSub, Nat.reduceLeDiff, Nat.reduceLT, Nat.zero_add, and_true, true_and, and_self, false_and, and_false, not_true_eq_false, not_false_eq_true, eq_self, decide_true, decide_false, Bool.not_true, Bool.not_false, Bool.true_and, Bool.false_and, Bool.and_true, Bool.and_false, Bool.or_true, Bool.or_false, Bool.true_or, Bool.false_or, Option.map_some, Option.map_none, Int.toNat_natCast, ↓reduceIte, Bool.false_eq_true, reduceCtorEq, Int.cast_ofNat_Int, Int.reduceLT, Int.reduceLE, Int.reduceAdd, Int.reduceSub, Int.reduceNeg, Int.natCast_zero, qI, and_assoc, ↓wj, ↓wk, ↓wu, ↓wy, ↓wz, ↓wA, ↓xU, ↓aU, aD, aF, aV, aP, aK, aW, aG, aX, aQ, au, aM, aY, aZ, ↓Hi, zF, yM, k1, k2, k3, k4, k5, c1, c2]
theorem adz {m f : Str} (hm : m ∈ SM) (h : uH ws s = "sum") (h1 : uH ws (s + 1) = "(") (h2 : uH ws (s + 2) = m) (h3 : uH ws (s + 3) = "(") (hf : uH ws (s + 4) = f) (hff : if m = "told" then f = "raw" else f ∈ fW) (t : SlT ws (s + 5) a b sz) (e1 : uH ws (s + 10) = ")") (e2 : uH ws (s + 11) = ")") :
 vP [.ref h0.length] (TH h0 sz ws ps (s : Nat)) = .ok (.tup [.str "leaf", .str "each", .str m, .str f, .int a, .int b]) [] (TH h0 sz ws ps ((s + 12 : Nat) : Int)) := by
 have g := aeW m hm
 have k1 := wC (h0 := h0) (sz := sz) (ws := ws) (ps := ps) (s := s) (al := ["events", "sum", "first", "last", "change", "rises"]) (by rw [h]; exact alz _ als)
 have k2 := wC (h0 := h0) (sz := sz) (ws := ws) (ps := ps) (s := s + 1) (al := ["("]) (by rw [h1]; exact als)
 have k3 := wC (h0 := h0) (sz := sz) (ws := ws) (ps := ps) (s := s + 2) (al := SM) (by rw [h2]; exact hm)
 have k4 := wC (h0 := h0) (sz := sz) (ws := ws) (ps := ps) (s := s + 3) (al := ["("]) (by rw [h3]; exact als)
 rw [h] at k1
 rw [h2] at k3
 have c1 : ∀ h : Hh, u9 h (.str "sum") (.str "events") = some false := fun h => (Ew (by decide +kernel) (by decide +kernel)).trans (congrArg some (decide_eq_false (by decide +kernel)))
 have c2 : ∀ h : Hh, u9 h (.str "sum") (.str "sum") = some true := fun h => (Ew (by decide +kernel) (by decide +kernel)).trans (congrArg some (decide_eq_true rfl))
 have c3 : ∀ h : Hh, u9 h (.str m) (.str "told") = some (decide (m = "told")) := fun h => Ew g (by decide +kernel)
 by_cases ht : m = "told"
 · rw [if_pos ht] at hff
   have k5 := Ru (h0 := h0) (ps := ps) (kind := "each") (m := m) (al := ["raw"]) hf (by rw [hff]; exact als) (by decide) t e1 e2
   have d1 : decide (m = "told") = true := decide_eq_true ht
   simp only [SM, ala, alc] at k1 k2 k3 k4 k5
   apply Wp.eq
   simp only [↓oH, ↓nW, ↓wp_bind, ↓pq, ↓uE, ↓tM, ↓pA, ↓iV, ↓oM, ↓pB, ↓tD, ↓tE, ↓tO, ↓pC, ↓iW, ↓pD, ↓tQ, ↓iY, ↓iZ, ↓pF, ↓cX, ↓tR, ↓cY, ↓cZ, ↓pG, ↓pH, ↓jc, ↓tU, ↓qL, ↓je, ↓pJ, ↓tV, ↓iD, ↓jf, ↓jh, ↓oN, ↓pK, ↓ji, ↓oO, ↓pM, ↓pN, ↓jk, ↓iG, ↓uv, ↓iH, ↓dw, ↓bF, ↓dB, ↓pO, ↓jn, ↓jo, ↓jr, ↓jt, ↓ju, ↓jw, ↓jx, ↓bG, ↓jy, ↓jA, ↓jB, ↓kJ, ↓qP, ↓jC, ↓iI, ↓jD, ↓j5, ↓km, ↓kE, ↓iK, ↓iQ, ig, oZ, o5, oR, iz, uF, uG, ir, o7, oJ, o8, iU, o9, ph, oK, ou, oA, iw, oF, dC, jV, qH, jm, ↓lu, ↓lA, ↓eX, ↓qQ, ↓ug, ↓lB, ↓lC, ↓oY, ↓lK, ↓lL, ↓qX, ↓qY, ↓qZ, ↓rC, ↓lO, ↓fj, ↓uh, ↓fu, ↓lQ, ↓lX, ↓lY, ↓fL, ↓fM, ↓fO, ↓cC, ↓rF, ↓lZ, ↓fQ, ↓fU, ↓rG, ↓mG, ↓fV, ↓fX, ↓fY, ↓rH, ↓rJ, ↓rK, ↓rN, ↓mK, ↓fZ, ↓cD, ↓cG, ↓rW, ↓rY, ↓gq, ↓rZ, ↓mQ, ↓mU, ↓mV, ↓gA, ↓gG, ↓gH, ↓cJ, ↓mX, ↓gK, ↓sr, ↓gM, ↓gQ, ↓mY, ↓m7, ↓mZ, ↓ni, ↓nj, ↓gY, ↓nu, ↓gU, ↓cO, ↓su, ↓sE, ↓nA, ↓sG, jE, pZ, pP, tW, jF, qb, jG, fz_non, jH, qd, pQ, tX, pU, tY, jJ, qj, jK, ql, jL, qm, pW, tZ, pX, t7, pY, t8, il, nZ, oE, oh, dD, jM, iJ, nR, dF, qp, jN, nO, uK, uL, uN, uO, uP, uQ, uR, ue, nJ, tG, dG, dH, jO, dI, dJ, bH, dM, dN, bJ, dO, oU, qu, qw, qC, jP, jQ, dR, uf, jR, qD, jT, jU, qF, qG, tH, tK, dY, jW, dZ, bT, d8, bU, jX, d9, bV, eE, eG, jY, jZ, uJ, vD, vK, bY, bZ, eU, kW, eO, bW, qJ, qK, j6, eQ, j8, j9, kh, qO, j7, qM, qN, aln, alo, alp, ale, Int.reduceToNat, bK, bL, dU, bM, bO, dW, dX, bQ, bR, eY, eZ, lM, rA, rB, Option.isSome_some, Option.isSome_none, lN, Int.reduceEq, beq_self_eq_true, cV, cW, fB, lU, fD, fG, fH, lV, lW, fJ, fK, fP, cA, bu, mD, mF, mH, mJ, gh, cH, cI, mO, gj, rO, ul, rP, rQ, rR, uU, uV, gJ, mW, oG, oV, iT, oW, gR, m9, nH, kY, lg, eV, kZ, lD, qR, lE, lF, qT, lG, lH, lJ, qU, qW, startF, ala, alc, alh, alm, alb, ald, ali, alk, alq, alr, alj, alf, alg, Nat.reduceAdd, Nat.reduceSub, Nat.reduceLeDiff, Nat.reduceLT, Nat.zero_add, and_true, true_and, and_self, false_and, and_false, not_true_eq_false, not_false_eq_true, eq_self, decide_true, decide_false, Bool.not_true, Bool.not_false, Bool.true_and, Bool.false_and, Bool.and_true, Bool.and_false, Bool.or_true, Bool.or_false, Bool.true_or, Bool.false_or, Option.map_some, Option.map_none, Int.toNat_natCast, ↓reduceIte, Bool.false_eq_true, reduceCtorEq, Int.cast_ofNat_Int, Int.reduceLT, Int.reduceLE, Int.reduceAdd, Int.reduceSub, Int.reduceNeg, Int.natCast_zero, qI, and_assoc, ↓wj, ↓wk, ↓wu, ↓wy, ↓wz, ↓wA, ↓xU, ↓aU, aD, aF, aV, aP, aK, aW, aG, aX, aQ, au, aM, aY, aZ, ↓Hi, zF, yM, Dh, k1, k2, k3, k4, k5, c1, c2, c3, d1]
 · rw [if_neg ht] at hff
   have k5 := Ru (h0 := h0) (ps := ps) (kind := "each") (m := m) (al := fW) hf hff (by decide) t e1 e2
   have d1 : decide (m = "told") = false := decide_eq_false ht
   simp only [SM, fW, ala, alc] at k1 k2 k3 k4 k5
   apply Wp.eq
   simp only [↓oH, ↓nW, ↓wp_bind, ↓pq, ↓uE, ↓tM, ↓pA, ↓iV, ↓oM, ↓pB, ↓tD, ↓tE, ↓tO, ↓pC, ↓iW, ↓pD, ↓tQ, ↓iY, ↓iZ, ↓pF, ↓cX, ↓tR, ↓cY, ↓cZ, ↓pG, ↓pH, ↓jc, ↓tU, ↓qL, ↓je, ↓pJ, ↓tV, ↓iD, ↓jf, ↓jh, ↓oN, ↓pK, ↓ji, ↓oO, ↓pM, ↓pN, ↓jk, ↓iG, ↓uv, ↓iH, ↓dw, ↓bF, ↓dB, ↓pO, ↓jn, ↓jo, ↓jr, ↓jt, ↓ju, ↓jw, ↓jx, ↓bG, ↓jy, ↓jA, ↓jB, ↓kJ, ↓qP, ↓jC, ↓iI, ↓jD, ↓j5, ↓km, ↓kE, ↓iK, ↓iQ, ig, oZ, o5, oR, iz, uF, uG, ir, o7, oJ, o8, iU, o9, ph, oK, ou, oA, iw, oF, dC, jV, qH, jm, ↓lu, ↓lA, ↓eX, ↓qQ, ↓ug, ↓lB, ↓lC, ↓oY, ↓lK, ↓lL, ↓qX, ↓qY, ↓qZ, ↓rC, ↓lO, ↓fj, ↓uh, ↓fu, ↓lQ, ↓lX, ↓lY, ↓fL, ↓fM, ↓fO, ↓cC, ↓rF, ↓lZ, ↓fQ, ↓fU, ↓rG, ↓mG, ↓fV, ↓fX, ↓fY, ↓rH, ↓rJ, ↓rK, ↓rN, ↓mK, ↓fZ, ↓cD, ↓cG, ↓rW, ↓rY, ↓gq, ↓rZ, ↓mQ, ↓mU, ↓mV, ↓gA, ↓gG, ↓gH, ↓cJ, ↓mX, ↓gK, ↓sr, ↓gM, ↓gQ, ↓mY, ↓m7, ↓mZ, ↓ni, ↓nj, ↓gY, ↓nu, ↓gU, ↓cO, ↓su, ↓sE, ↓nA, ↓sG, jE, pZ, pP, tW, jF, qb, jG, fz_non, jH, qd, pQ, tX, pU, tY, jJ, qj, jK, ql, jL, qm, pW, tZ, pX, t7, pY, t8, il, nZ, oE, oh, dD, jM, iJ, nR, dF, qp, jN, nO, uK, uL, uN, uO, uP, uQ, uR, ue, nJ, tG, dG, dH, jO, dI, dJ, bH, dM, dN, bJ, dO, oU, qu, qw, qC, jP, jQ, dR, uf, jR, qD, jT, jU, qF, qG, tH, tK, dY, jW, dZ, bT, d8, bU, jX, d9, bV, eE, eG, jY, jZ, uJ, vD, vK, bY, bZ, eU, kW, eO, bW, qJ, qK, j6, eQ, j8, j9, kh, qO, j7, qM, qN, aln, alo, alp, ale, Int.reduceToNat, bK, bL, dU, bM, bO, dW, dX, bQ, bR, eY, eZ, lM, rA, rB, Option.isSome_some, Option.isSome_none, lN, Int.reduceEq, beq_self_eq_true, cV, cW, fB, lU, fD, fG, fH, lV, lW, fJ, fK, fP, cA, bu, mD, mF, mH, mJ, gh, cH, cI, mO, gj, rO, ul, rP, rQ, rR, uU, uV, gJ, mW, oG, oV, iT, oW, gR, m9, nH, kY, lg, eV, kZ, lD, qR, lE, lF, qT, lG, lH, lJ, qU, qW, startF, ala, alc, alh, alm, alb, ald, ali, alk, alq, alr, alj, alf, alg, Nat.reduceAdd, Nat.reduceSub, Nat.reduceLeDiff, Nat.reduceLT, Nat.zero_add, and_true, true_and, and_self, false_and, and_false, not_true_eq_false, not_false_eq_true, eq_self, decide_true, decide_false, Bool.not_true, Bool.not_false, Bool.true_and, Bool.false_and, Bool.and_true, Bool.and_false, Bool.or_true, Bool.or_false, Bool.true_or, Bool.false_or, Option.map_some, Option.map_none, Int.toNat_natCast, ↓reduceIte, Bool.false_eq_true, reduceCtorEq, Int.cast_ofNat_Int, Int.reduceLT, Int.reduceLE, Int.reduceAdd, Int.reduceSub, Int.reduceNeg, Int.natCast_zero, qI, and_assoc, ↓wj, ↓wk, ↓wu, ↓wy, ↓wz, ↓wA, ↓xU, ↓aU, aD, aF, aV, aP, aK, aW, aG, aX, aQ, au, aM, aY, aZ, ↓Hi, zF, yM, Dh, k1, k2, k3, k4, k5, c1, c2, c3, d1]
end
end L
namespace L
open PySem PySem.Spec L2 Pk
section
variable {h0 : Hh} {sz : Int} {ws : List Str} {ps : List Int} {s k : Nat} {l : List D}
structure Fst (w : Str) : Prop where
 g : zW w = true
 n : w.length ≤ 1000
 o : w ≠ "("
 a : w ≠ "abs"
 m : w ∉ (["max", "min"] : List Str)
 d : w ≠ "-"
 s : SJ w = false
theorem adA (hw : Fst (uH ws s)) (hl : vP [.ref h0.length] (TH h0 sz ws ps (s : Nat)) = .ok (.tup l) [] (TH h0 sz ws ps (k : Nat))) : yR [.ref h0.length] (TH h0 sz ws ps (s : Nat)) = .ok (.tup l) [] (TH h0 sz ws ps (k : Nat)) := by
 have k1 := JV (h0 := h0) (sz := sz) (ws := ws) (ps := ps) (s := s) (w := "(") hw.g (by decide +kernel)
 have k2 := JV (h0 := h0) (sz := sz) (ws := ws) (ps := ps) (s := s) (w := "abs") hw.g (by decide +kernel)
 rw [if_neg hw.o, decide_eq_false hw.o] at k1
 rw [if_neg hw.a, decide_eq_false hw.a] at k2
 have u := Iw (h0 := h0) (sz := sz) (ws := ws) (ps := ps) (s := s)
 have c1 : ∀ h : Hh, CJ h (.str (uH ws s)) (.tup [.str "max", .str "min"]) = some false := fun h => (acE (al := ["max", "min"])).trans (congrArg some (decide_eq_false hw.m))
 apply Wp.eq
 simp only [↓oH, ↓nW, ↓wp_bind, ↓pq, ↓uE, ↓tM, ↓pA, ↓iV, ↓oM, ↓pB, ↓tD, ↓tE, ↓tO, ↓pC, ↓iW, ↓pD, ↓tQ, ↓iY, ↓iZ, ↓pF, ↓cX, ↓tR, ↓cY, ↓cZ, ↓pG, ↓pH, ↓jc, ↓tU, ↓qL, ↓je, ↓pJ, ↓tV, ↓iD, ↓jf, ↓jh, ↓oN, ↓pK, ↓ji, ↓oO, ↓pM, ↓pN, ↓jk, ↓iG, ↓uv, ↓iH, ↓dw, ↓bF, ↓dB, ↓pO, ↓jn, ↓jo, ↓jr, ↓jt, ↓ju, ↓jw, ↓jx, ↓bG, ↓jy, ↓jA, ↓jB, ↓kJ, ↓qP, ↓jC, ↓iI, ↓jD, ↓j5, ↓km, ↓kE, ↓iK, ↓iQ, ig, oZ, o5, oR, iz, uF, uG, ir, o7, oJ, o8, iU, o9, ph, oK, ou, oA, iw, oF, dC, jV, qH, jm, ↓lu, ↓lA, ↓eX, ↓qQ, ↓ug, ↓lB, ↓lC, ↓oY, ↓lK, ↓lL, ↓qX, ↓qY, ↓qZ, ↓rC, ↓lO, ↓fj, ↓uh, ↓fu, ↓lQ, ↓lX, ↓lY, ↓fL, ↓fM, ↓fO, ↓cC, ↓rF, ↓lZ, ↓fQ, ↓fU, ↓rG, ↓mG, ↓fV, ↓fX, ↓fY, ↓rH, ↓rJ, ↓rK, ↓rN, ↓mK, ↓fZ, ↓cD, ↓cG, ↓rW, ↓rY, ↓gq, ↓rZ, ↓mQ, ↓mU, ↓mV, ↓gA, ↓gG, ↓gH, ↓cJ, ↓mX, ↓gK, ↓sr, ↓gM, ↓gQ, ↓mY, ↓m7, ↓mZ, ↓ni, ↓nj, ↓gY, ↓nu, ↓gU, ↓cO, ↓su, ↓sE, ↓nA, ↓sG, jE, pZ, pP, tW, jF, qb, jG, fz_non, jH, qd, pQ, tX, pU, tY, jJ, qj, jK, ql, jL, qm, pW, tZ, pX, t7, pY, t8, il, nZ, oE, oh, dD, jM, iJ, nR, dF, qp, jN, nO, uK, uL, uN, uO, uP, uQ, uR, ue, nJ, tG, dG, dH, jO, dI, dJ, bH, dM, dN, bJ, dO, oU, qu, qw, qC, jP, jQ, dR, uf, jR, qD, jT, jU, qF, qG, tH, tK, dY, jW, dZ, bT, d8, bU, jX, d9, bV, eE, eG, jY, jZ, uJ, vD, vK, bY, bZ, eU, kW, eO, bW, qJ, qK, j6, eQ, j8, j9, kh, qO, j7, qM, qN, aln, alo, alp, ale, Int.reduceToNat, bK, bL, dU, bM, bO, dW, dX, bQ, bR, eY, eZ, lM, rA, rB, Option.isSome_some, Option.isSome_none, lN, Int.reduceEq, beq_self_eq_true, cV, cW, fB, lU, fD, fG, fH, lV, lW, fJ, fK, fP, cA, bu, mD, mF, mH, mJ, gh, cH, cI, mO, gj, rO, ul, rP, rQ, rR, uU, uV, gJ, mW, oG, oV, iT, oW, gR, m9, nH, kY, lg, eV, kZ, lD, qR, lE, lF, qT, lG, lH, lJ, qU, qW, startF, ala, alc, alh, alm, alb, ald, ali, alk, alq, alr, alj, alf, alg, Nat.reduceAdd, Nat.reduceSub, Nat.reduceLeDiff, Nat.reduceLT, Nat.zero_add, and_true, true_and, and_self, false_and, and_false, not_true_eq_false, not_false_eq_true, eq_self, decide_true, decide_false, Bool.not_true, Bool.not_false, Bool.true_and, Bool.false_and, Bool.and_true, Bool.and_false, Bool.or_true, Bool.or_false, Bool.true_or, Bool.false_or, Option.map_some, Option.map_none, Int.toNat_natCast, ↓reduceIte, Bool.false_eq_true, reduceCtorEq, Int.cast_ofNat_Int, Int.reduceLT, Int.reduceLE, Int.reduceAdd, Int.reduceSub, Int.reduceNeg, Int.natCast_zero, qI, and_assoc, ↓wj, ↓wk, ↓wu, ↓wy, ↓wz, ↓wA, ↓xU, ↓Xb, ↓Xc, ↓Xd, ↓Xe, ↓Xf, ↓Xg, ↓Xh, ↓Xi, ↓aaU, ↓aU, aD, aF, aV, aP, aK, aW, aG, aX, aQ, au, aM, aY, aZ, ↓aaw, zF, k1, k2, u, c1, hl]
theorem aaD (hw : Fst (uH ws s)) (hl : vP [.ref h0.length] (TH h0 sz ws ps (s : Nat)) = .ok (.tup l) [] (TH h0 sz ws ps (k : Nat))) : wX [.ref h0.length, .bl false] (TH h0 sz ws ps (s : Nat)) = .ok (.tup l) [] (TH h0 sz ws ps (k : Nat)) := by
 have k1 := Rp (h0 := h0) (sz := sz) (ws := ws) (ps := ps) (s := s) hw.g hw.n
 rw [hw.s] at k1
 have k2 := adA hw hl
 apply Wp.eq
 simp only [↓oH, ↓nW, ↓wp_bind, ↓pq, ↓uE, ↓tM, ↓pA, ↓iV, ↓oM, ↓pB, ↓tD, ↓tE, ↓tO, ↓pC, ↓iW, ↓pD, ↓tQ, ↓iY, ↓iZ, ↓pF, ↓cX, ↓tR, ↓cY, ↓cZ, ↓pG, ↓pH, ↓jc, ↓tU, ↓qL, ↓je, ↓pJ, ↓tV, ↓iD, ↓jf, ↓jh, ↓oN, ↓pK, ↓ji, ↓oO, ↓pM, ↓pN, ↓jk, ↓iG, ↓uv, ↓iH, ↓dw, ↓bF, ↓dB, ↓pO, ↓jn, ↓jo, ↓jr, ↓jt, ↓ju, ↓jw, ↓jx, ↓bG, ↓jy, ↓jA, ↓jB, ↓kJ, ↓qP, ↓jC, ↓iI, ↓jD, ↓j5, ↓km, ↓kE, ↓iK, ↓iQ, ig, oZ, o5, oR, iz, uF, uG, ir, o7, oJ, o8, iU, o9, ph, oK, ou, oA, iw, oF, dC, jV, qH, jm, ↓lu, ↓lA, ↓eX, ↓qQ, ↓ug, ↓lB, ↓lC, ↓oY, ↓lK, ↓lL, ↓qX, ↓qY, ↓qZ, ↓rC, ↓lO, ↓fj, ↓uh, ↓fu, ↓lQ, ↓lX, ↓lY, ↓fL, ↓fM, ↓fO, ↓cC, ↓rF, ↓lZ, ↓fQ, ↓fU, ↓rG, ↓mG, ↓fV, ↓fX, ↓fY, ↓rH, ↓rJ, ↓rK, ↓rN, ↓mK, ↓fZ, ↓cD, ↓cG, ↓rW, ↓rY, ↓gq, ↓rZ, ↓mQ, ↓mU, ↓mV, ↓gA, ↓gG, ↓gH, ↓cJ, ↓mX, ↓gK, ↓sr, ↓gM, ↓gQ, ↓mY, ↓m7, ↓mZ, ↓ni, ↓nj, ↓gY, ↓nu, ↓gU, ↓cO, ↓su, ↓sE, ↓nA, ↓sG, jE, pZ, pP, tW, jF, qb, jG, fz_non, jH, qd, pQ, tX, pU, tY, jJ, qj, jK, ql, jL, qm, pW, tZ, pX, t7, pY, t8, il, nZ, oE, oh, dD, jM, iJ, nR, dF, qp, jN, nO, uK, uL, uN, uO, uP, uQ, uR, ue, nJ, tG, dG, dH, jO, dI, dJ, bH, dM, dN, bJ, dO, oU, qu, qw, qC, jP, jQ, dR, uf, jR, qD, jT, jU, qF, qG, tH, tK, dY, jW, dZ, bT, d8, bU, jX, d9, bV, eE, eG, jY, jZ, uJ, vD, vK, bY, bZ, eU, kW, eO, bW, qJ, qK, j6, eQ, j8, j9, kh, qO, j7, qM, qN, aln, alo, alp, ale, Int.reduceToNat, bK, bL, dU, bM, bO, dW, dX, bQ, bR, eY, eZ, lM, rA, rB, Option.isSome_some, Option.isSome_none, lN, Int.reduceEq, beq_self_eq_true, cV, cW, fB, lU, fD, fG, fH, lV, lW, fJ, fK, fP, cA, bu, mD, mF, mH, mJ, gh, cH, cI, mO, gj, rO, ul, rP, rQ, rR, uU, uV, gJ, mW, oG, oV, iT, oW, gR, m9, nH, kY, lg, eV, kZ, lD, qR, lE, lF, qT, lG, lH, lJ, qU, qW, startF, ala, alc, alh, alm, alb, ald, ali, alk, alq, alr, alj, alf, alg, Nat.reduceAdd, Nat.reduceSub, Nat.reduceLeDiff, Nat.reduceLT, Nat.zero_add, and_true, true_and, and_self, false_and, and_false, not_true_eq_false, not_false_eq_true, eq_self, decide_true, decide_false, Bool.not_true, Bool.not_false, Bool.true_and, Bool.false_and, Bool.and_true, Bool.and_false, Bool.or_true, Bool.or_false, Bool.true_or, Bool.false_or, Option.map_some, Option.map_none, Int.toNat_natCast, ↓reduceIte, Bool.false_eq_true, reduceCtorEq, Int.cast_ofNat_Int, Int.reduceLT, Int.reduceLE, Int.reduceAdd, Int.reduceSub, Int.reduceNeg, Int.natCast_zero, qI, and_assoc, ↓wj, ↓wk, ↓wu, ↓wy, ↓wz, ↓wA, ↓xU, ↓Tv, ↓Tw, ↓Tz, ↓Xj, ↓aU, aD, aF, aV, aP, aK, aW, aG, aX, aQ, au, aM, aY, aZ, ↓VP, zF, k1, k2]
theorem acG (hw : Fst (uH ws s)) (hk : uH ws k ∉ (["+", "-"] : List Str)) (hl : vP [.ref h0.length] (TH h0 sz ws ps (s : Nat)) = .ok (.tup l) [] (TH h0 sz ws ps (k : Nat))) : zX [.ref h0.length] (TH h0 sz ws ps (s : Nat)) = .ok (.tup l) [] (TH h0 sz ws ps (k : Nat)) := by
 have k1 := JV (h0 := h0) (sz := sz) (ws := ws) (ps := ps) (s := s) (w := "-") hw.g (by decide +kernel)
 rw [if_neg hw.d, decide_eq_false hw.d] at k1
 have k2 := aaD hw hl
 have u := Iw (h0 := h0) (sz := sz) (ws := ws) (ps := ps) (s := k)
 have c1 : ∀ h : Hh, CJ h (.str (uH ws k)) (.tup [.str "+", .str "-"]) = some false := fun h => (acE (al := ["+", "-"])).trans (congrArg some (decide_eq_false hk))
 apply Wp.eq
 simp only [↓oH, ↓nW, ↓wp_bind, ↓pq, ↓uE, ↓tM, ↓pA, ↓iV, ↓oM, ↓pB, ↓tD, ↓tE, ↓tO, ↓pC, ↓iW, ↓pD, ↓tQ, ↓iY, ↓iZ, ↓pF, ↓cX, ↓tR, ↓cY, ↓cZ, ↓pG, ↓pH, ↓jc, ↓tU, ↓qL, ↓je, ↓pJ, ↓tV, ↓iD, ↓jf, ↓jh, ↓oN, ↓pK, ↓ji, ↓oO, ↓pM, ↓pN, ↓jk, ↓iG, ↓uv, ↓iH, ↓dw, ↓bF, ↓dB, ↓pO, ↓jn, ↓jo, ↓jr, ↓jt, ↓ju, ↓jw, ↓jx, ↓bG, ↓jy, ↓jA, ↓jB, ↓kJ, ↓qP, ↓jC, ↓iI, ↓jD, ↓j5, ↓km, ↓kE, ↓iK, ↓iQ, ig, oZ, o5, oR, iz, uF, uG, ir, o7, oJ, o8, iU, o9, ph, oK, ou, oA, iw, oF, dC, jV, qH, jm, ↓lu, ↓lA, ↓eX, ↓qQ, ↓ug, ↓lB, ↓lC, ↓oY, ↓lK, ↓lL, ↓qX, ↓qY, ↓qZ, ↓rC, ↓lO, ↓fj, ↓uh, ↓fu, ↓lQ, ↓lX, ↓lY, ↓fL, ↓fM, ↓fO, ↓cC, ↓rF, ↓lZ, ↓fQ, ↓fU, ↓rG, ↓mG, ↓fV, ↓fX, ↓fY, ↓rH, ↓rJ, ↓rK, ↓rN, ↓mK, ↓fZ, ↓cD, ↓cG, ↓rW, ↓rY, ↓gq, ↓rZ, ↓mQ, ↓mU, ↓mV, ↓gA, ↓gG, ↓gH, ↓cJ, ↓mX, ↓gK, ↓sr, ↓gM, ↓gQ, ↓mY, ↓m7, ↓mZ, ↓ni, ↓nj, ↓gY, ↓nu, ↓gU, ↓cO, ↓su, ↓sE, ↓nA, ↓sG, jE, pZ, pP, tW, jF, qb, jG, fz_non, jH, qd, pQ, tX, pU, tY, jJ, qj, jK, ql, jL, qm, pW, tZ, pX, t7, pY, t8, il, nZ, oE, oh, dD, jM, iJ, nR, dF, qp, jN, nO, uK, uL, uN, uO, uP, uQ, uR, ue, nJ, tG, dG, dH, jO, dI, dJ, bH, dM, dN, bJ, dO, oU, qu, qw, qC, jP, jQ, dR, uf, jR, qD, jT, jU, qF, qG, tH, tK, dY, jW, dZ, bT, d8, bU, jX, d9, bV, eE, eG, jY, jZ, uJ, vD, vK, bY, bZ, eU, kW, eO, bW, qJ, qK, j6, eQ, j8, j9, kh, qO, j7, qM, qN, aln, alo, alp, ale, Int.reduceToNat, bK, bL, dU, bM, bO, dW, dX, bQ, bR, eY, eZ, lM, rA, rB, Option.isSome_some, Option.isSome_none, lN, Int.reduceEq, beq_self_eq_true, cV, cW, fB, lU, fD, fG, fH, lV, lW, fJ, fK, fP, cA, bu, mD, mF, mH, mJ, gh, cH, cI, mO, gj, rO, ul, rP, rQ, rR, uU, uV, gJ, mW, oG, oV, iT, oW, gR, m9, nH, kY, lg, eV, kZ, lD, qR, lE, lF, qT, lG, lH, lJ, qU, qW, startF, ala, alc, alh, alm, alb, ald, ali, alk, alq, alr, alj, alf, alg, Nat.reduceAdd, Nat.reduceSub, Nat.reduceLeDiff, Nat.reduceLT, Nat.zero_add, and_true, true_and, and_self, false_and, and_false, not_true_eq_false, not_false_eq_true, eq_self, decide_true, decide_false, Bool.not_true, Bool.not_false, Bool.true_and, Bool.false_and, Bool.and_true, Bool.and_false, Bool.or_true, Bool.or_false, Bool.true_or, Bool.false_or, Option.map_some, Option.map_none, Int.toNat_natCast, ↓reduceIte, Bool.false_eq_true, reduceCtorEq, Int.cast_ofNat_Int, Int.reduceLT, Int.reduceLE, Int.reduceAdd, Int.reduceSub, Int.reduceNeg, Int.natCast_zero, qI, and_assoc, ↓wj, ↓wk, ↓wu, ↓wy, ↓wz, ↓wA, ↓xU, ↓Iu, ↓Iv, ↓MT, ↓aU, aD, aF, aV, aP, aK, aW, aG, aX, aQ, au, aM, aY, aZ, ↓aax, zF, k1, k2]
 rw [show (60 : Nat) = 59 + 1 from rfl, acr]
 simp only [↓oH, ↓nW, ↓wp_bind, ↓pq, ↓uE, ↓tM, ↓pA, ↓iV, ↓oM, ↓pB, ↓tD, ↓tE, ↓tO, ↓pC, ↓iW, ↓pD, ↓tQ, ↓iY, ↓iZ, ↓pF, ↓cX, ↓tR, ↓cY, ↓cZ, ↓pG, ↓pH, ↓jc, ↓tU, ↓qL, ↓je, ↓pJ, ↓tV, ↓iD, ↓jf, ↓jh, ↓oN, ↓pK, ↓ji, ↓oO, ↓pM, ↓pN, ↓jk, ↓iG, ↓uv, ↓iH, ↓dw, ↓bF, ↓dB, ↓pO, ↓jn, ↓jo, ↓jr, ↓jt, ↓ju, ↓jw, ↓jx, ↓bG, ↓jy, ↓jA, ↓jB, ↓kJ, ↓qP, ↓jC, ↓iI, ↓jD, ↓j5, ↓km, ↓kE, ↓iK, ↓iQ, ig, oZ, o5, oR, iz, uF, uG, ir, o7, oJ, o8, iU, o9, ph, oK, ou, oA, iw, oF, dC, jV, qH, jm, ↓lu, ↓lA, ↓eX, ↓qQ, ↓ug, ↓lB, ↓lC, ↓oY, ↓lK, ↓lL, ↓qX, ↓qY, ↓qZ, ↓rC, ↓lO, ↓fj, ↓uh, ↓fu, ↓lQ, ↓lX, ↓lY, ↓fL, ↓fM, ↓fO, ↓cC, ↓rF, ↓lZ, ↓fQ, ↓fU, ↓rG, ↓mG, ↓fV, ↓fX, ↓fY, ↓rH, ↓rJ, ↓rK, ↓rN, ↓mK, ↓fZ, ↓cD, ↓cG, ↓rW, ↓rY, ↓gq, ↓rZ, ↓mQ, ↓mU, ↓mV, ↓gA, ↓gG, ↓gH, ↓cJ, ↓mX, ↓gK, ↓sr, ↓gM, ↓gQ, ↓mY, ↓m7, ↓mZ, ↓ni, ↓nj, ↓gY, ↓nu, ↓gU, ↓cO, ↓su, ↓sE, ↓nA, ↓sG, jE, pZ, pP, tW, jF, qb, jG, fz_non, jH, qd, pQ, tX, pU, tY, jJ, qj, jK, ql, jL, qm, pW, tZ, pX, t7, pY, t8, il, nZ, oE, oh, dD, jM, iJ, nR, dF, qp, jN, nO, uK, uL, uN, uO, uP, uQ, uR, ue, nJ, tG, dG, dH, jO, dI, dJ, bH, dM, dN, bJ, dO, oU, qu, qw, qC, jP, jQ, dR, uf, jR, qD, jT, jU, qF, qG, tH, tK, dY, jW, dZ, bT, d8, bU, jX, d9, bV, eE, eG, jY, jZ, uJ, vD, vK, bY, bZ, eU, kW, eO, bW, qJ, qK, j6, eQ, j8, j9, kh, qO, j7, qM, qN, aln, alo, alp, ale, Int.reduceToNat, bK, bL, dU, bM, bO, dW, dX, bQ, bR, eY, eZ, lM, rA, rB, Option.isSome_some, Option.isSome_none, lN, Int.reduceEq, beq_self_eq_true, cV, cW, fB, lU, fD, fG, fH, lV, lW, fJ, fK, fP, cA, bu, mD, mF, mH, mJ, gh, cH, cI, mO, gj, rO, ul, rP, rQ, rR, uU, uV, gJ, mW, oG, oV, iT, oW, gR, m9, nH, kY, lg, eV, kZ, lD, qR, lE, lF, qT, lG, lH, lJ, qU, qW, startF, ala, alc, alh, alm, alb, ald, ali, alk, alq, alr, alj, alf, alg, Nat.reduceAdd, Nat.reduceSub, Nat.reduceLeDiff, Nat.reduceLT, Nat.zero_add, and_true, true_and, and_self, false_and, and_false, not_true_eq_false, not_false_eq_true, eq_self, decide_true, decide_false, Bool.not_true, Bool.not_false, Bool.true_and, Bool.false_and, Bool.and_true, Bool.and_false, Bool.or_true, Bool.or_false, Bool.true_or, Bool.false_or, Option.map_some, Option.map_none, Int.toNat_natCast, ↓reduceIte, Bool.false_eq_true, reduceCtorEq, Int.cast_ofNat_Int, Int.reduceLT, Int.reduceLE, Int.reduceAdd, Int.reduceSub, Int.reduceNeg, Int.natCast_zero, qI, and_assoc, ↓wj, ↓wk, ↓wu, ↓wy, ↓wz, ↓wA, ↓xU, ↓Iu, ↓Iv, ↓MT, ↓aU, aD, aF, aV, aP, aK, aW, aG, aX, aQ, au, aM, aY, aZ, zF, u, c1]
theorem acH {z : Str} (hz : z.length ≤ 59) (hg : zW z = true) (hw : Fst (uH ((TK z).map (·.1)) 0)) (hk : uH ((TK z).map (·.1)) k = "")
 (hl : ∀ ps, vP [.ref h0.length] (TH h0 sz ((TK z).map (·.1)) ps (0 : Nat)) = .ok (.tup l) [] (TH h0 sz ((TK z).map (·.1)) ps (k : Nat))) :
 ∃ h', Kc [.str z, .int sz] h0 = .ok (.tup l) [] (h0 ++ h') := by
 have k1 := adw (h0 := h0) (sz := sz) hz hg
 generalize (TK z).map (·.1) = ws at *
 generalize (TK z).map (fun p => (p.2 : Int)) ++ [((cs z).length : Int)] = ps at k1
 have k2 := acG (s := 0) hw (by rw [hk]; decide +kernel) (hl ps)
 have u := Iw (h0 := h0) (sz := sz) (ws := ws) (ps := ps) (s := k)
 rw [hk] at u
 have c1 : ∀ h : Hh, u9 h (.str "") (.str "") = some true := fun h => (Ew (by decide +kernel) (by decide +kernel)).trans (congrArg some (decide_eq_true rfl))
 have k2' : zX [.ref h0.length] (TH h0 sz ws ps 0) = .ok (.tup l) [] (TH h0 sz ws ps (k : Nat)) := k2
 refine ⟨_, Wp.eq (?_ : Wp _ (fun d fr h => d = _ ∧ fr = _ ∧ h = h0 ++ [.no 0 [.int sz, .ref (h0.length + 1), .ref (h0.length + 2), .int (k : Nat)], .nl (ws.map .str), .nl (ps.map .int)]) wO)⟩
 simp only [↓oH, ↓nW, ↓wp_bind, ↓pq, ↓uE, ↓tM, ↓pA, ↓iV, ↓oM, ↓pB, ↓tD, ↓tE, ↓tO, ↓pC, ↓iW, ↓pD, ↓tQ, ↓iY, ↓iZ, ↓pF, ↓cX, ↓tR, ↓cY, ↓cZ, ↓pG, ↓pH, ↓jc, ↓tU, ↓qL, ↓je, ↓pJ, ↓tV, ↓iD, ↓jf, ↓jh, ↓oN, ↓pK, ↓ji, ↓oO, ↓pM, ↓pN, ↓jk, ↓iG, ↓uv, ↓iH, ↓dw, ↓bF, ↓dB, ↓pO, ↓jn, ↓jo, ↓jr, ↓jt, ↓ju, ↓jw, ↓jx, ↓bG, ↓jy, ↓jA, ↓jB, ↓kJ, ↓qP, ↓jC, ↓iI, ↓jD, ↓j5, ↓km, ↓kE, ↓iK, ↓iQ, ig, oZ, o5, oR, iz, uF, uG, ir, o7, oJ, o8, iU, o9, ph, oK, ou, oA, iw, oF, dC, jV, qH, jm, ↓lu, ↓lA, ↓eX, ↓qQ, ↓ug, ↓lB, ↓lC, ↓oY, ↓lK, ↓lL, ↓qX, ↓qY, ↓qZ, ↓rC, ↓lO, ↓fj, ↓uh, ↓fu, ↓lQ, ↓lX, ↓lY, ↓fL, ↓fM, ↓fO, ↓cC, ↓rF, ↓lZ, ↓fQ, ↓fU, ↓rG, ↓mG, ↓fV, ↓fX, ↓fY, ↓rH, ↓rJ, ↓rK, ↓rN, ↓mK, ↓fZ, ↓cD, ↓cG, ↓rW, ↓rY, ↓gq, ↓rZ, ↓mQ, ↓mU, ↓mV, ↓gA, ↓gG, ↓gH, ↓cJ, ↓mX, ↓gK, ↓sr, ↓gM, ↓gQ, ↓mY, ↓m7, ↓mZ, ↓ni, ↓nj, ↓gY, ↓nu, ↓gU, ↓cO, ↓su, ↓sE, ↓nA, ↓sG, jE, pZ, pP, tW, jF, qb, jG, fz_non, jH, qd, pQ, tX, pU, tY, jJ, qj, jK, ql, jL, qm, pW, tZ, pX, t7, pY, t8, il, nZ, oE, oh, dD, jM, iJ, nR, dF, qp, jN, nO, uK, uL, uN, uO, uP, uQ, uR, ue, nJ, tG, dG, dH, jO, dI, dJ, bH, dM, dN, bJ, dO, oU, qu, qw, qC, jP, jQ, dR, uf, jR, qD, jT, jU, qF, qG, tH, tK, dY, jW, dZ, bT, d8, bU, jX, d9, bV, eE, eG, jY, jZ, uJ, vD, vK, bY, bZ, eU, kW, eO, bW, qJ, qK, j6, eQ, j8, j9, kh, qO, j7, qM, qN, aln, alo, alp, ale, Int.reduceToNat, bK, bL, dU, bM, bO, dW, dX, bQ, bR, eY, eZ, lM, rA, rB, Option.isSome_some, Option.isSome_none, lN, Int.reduceEq, beq_self_eq_true, cV, cW, fB, lU, fD, fG, fH, lV, lW, fJ, fK, fP, cA, bu, mD, mF, mH, mJ, gh, cH, cI, mO, gj, rO, ul, rP, rQ, rR, uU, uV, gJ, mW, oG, oV, iT, oW, gR, m9, nH, kY, lg, eV, kZ, lD, qR, lE, lF, qT, lG, lH, lJ, qU, qW, startF, ala, alc, alh, alm, alb, ald, ali, alk, alq, alr, alj, alf, alg, Nat.reduceAdd, Nat.reduceSub, Nat.reduceLeDiff, Nat.reduceLT, Nat.zero_add, and_true, true_and, and_self, false_and, and_false, not_true_eq_false, not_false_eq_true, eq_self, decide_true, decide_false, Bool.not_true, Bool.not_false, Bool.true_and, Bool.false_and, Bool.and_true, Bool.and_false, Bool.or_true, Bool.or_false, Bool.true_or, Bool.false_or, Option.map_some, Option.map_none, Int.toNat_natCast, ↓reduceIte, Bool.false_eq_true, reduceCtorEq, Int.cast_ofNat_Int, Int.reduceLT, Int.reduceLE, Int.reduceAdd, Int.reduceSub, Int.reduceNeg, Int.natCast_zero, qI, and_assoc, ↓wj, ↓wk, ↓wu, ↓wy, ↓wz, ↓wA, ↓xU, ↓Iu, ↓Iv, ↓MT, ↓acC, ↓acD, ↓agm, ↓aU, aD, aF, aV, aP, aK, aW, aG, aX, aQ, au, aM, aY, aZ, ↓aeU, k1, k2', zF, u, c1]
 rfl
end
end L
namespace L
open PySem PySem.Spec L2 Pk
inductive Lk where
 | ev (a b : Nat)
 | all (m f : Str) (a b : Nat)
 | each (m f : Str) (a b : Nat)
 deriving DecidableEq
def dg (a : Nat) : Str := toString (a : Int)
def Lk.ldD : Lk → D
 | .ev a b => .tup [.str "events", .int (a : Int), .int (b : Int)]
 | .all m f a b => .tup [.str "all", .str m, .str f, .int (a : Int), .int (b : Int)]
 | .each m f a b => .tup [.str "each", .str m, .str f, .int (a : Int), .int (b : Int)]
def Lk.ndL : Lk → List D
 | .ev a b => [.str "events", .int (a : Int), .int (b : Int)]
 | .all m f a b => [.str "leaf", .str "all", .str m, .str f, .int (a : Int), .int (b : Int)]
 | .each m f a b => [.str "leaf", .str "each", .str m, .str f, .int (a : Int), .int (b : Int)]
def Lk.ndD (l : Lk) : D := .tup l.ndL
def sl (a b : Nat) : Str := "[" ++ dg a ++ ":" ++ dg b ++ "]"
def Lk.txt : Lk → Str
 | .ev a b => "events" ++ sl a b
 | .all m f a b => m ++ "(sum(" ++ f ++ sl a b ++ "))"
 | .each m f a b => "sum(" ++ m ++ "(" ++ f ++ sl a b ++ "))"
def Lk.wsL : Lk → List Str
 | .ev a b => ["events", "[", dg a, ":", dg b, "]"]
 | .all m f a b => [m, "(", "sum", "(", f, "[", dg a, ":", dg b, "]", ")", ")"]
 | .each m f a b => ["sum", "(", m, "(", f, "[", dg a, ":", dg b, "]", ")", ")"]
def Lk.lo : Lk → Nat
 | .ev a _ => a
 | .all _ _ a _ => a
 | .each _ _ a _ => a
def Lk.hi : Lk → Nat
 | .ev _ b => b
 | .all _ _ _ b => b
 | .each _ _ _ b => b
def prs : List (Nat × Nat) := [(0, 1), (0, 2), (0, 3), (0, 4), (1, 2), (1, 3), (1, 4), (2, 3), (2, 4), (3, 4)]
def m6 : List Str := ["first", "last", "top", "low", "change", "rises"]
def Ab (a b : Nat) : List Lk := .ev a b :: ((Xl.flatMap fun m => [.all m "zero" a b, .all m "held" a b]) ++ (m6.flatMap fun m => fW.map fun f => .each m f a b) ++ [.each "told" "raw" a b])
def zq : List Lk := prs.flatMap fun p => Ab p.1 p.2
def Lk.vars : Lk → List Lk
 | .ev a b => [.ev a b]
 | .all m f a b => vr m a b
 | .each m f a b => vr m a b
where vr (m : Str) (a b : Nat) : List Lk := if m = "rises" ∨ m = "told" then [.each "rises" "raw" a b, .each "rises" "zero" a b, .each "rises" "held" a b, .each "told" "raw" a b, .all "rises" "zero" a b, .all "rises" "held" a b]
 else if m = "top" ∨ m = "low" then [.each m "raw" a b, .each m "zero" a b, .each m "held" a b]
 else [.each m "raw" a b, .each m "zero" a b, .each m "held" a b, .all m "zero" a b, .all m "held" a b]
def tm (n : Int) (d : D) : D := .obj 1 [.int n, d]
theorem of_map {α β : Type} {f g : α → β} : ∀ {l : List α}, l.map f = l.map g → ∀ a ∈ l, f a = g a
 | _ :: _, e, a, h => by
   simp only [ala, List.cons.injEq] at e
   rcases List.mem_cons.mp h with h | h
   · subst h; exact e.1
   · exact of_map e.2 a h
theorem lks_ok : (zq.all fun l => decide (l.txt.length ≤ 59) && zW l.txt && decide ((TK l.txt).map (·.1) = l.wsL)) = true := by decide +kernel
theorem adB {h : Hh} : zq.map (fun l => wI [l.ldD] h) = zq.map (fun l => R.ok (D.str l.txt) [] h) := by kernel_rfl
theorem aeY {h : Hh} {n : Int} : zq.map (fun l => yh [tm n l.ndD] h) = zq.map (fun l => R.ok (D.str l.txt) [] h) := by kernel_rfl
theorem aeZ : (zq.all fun l => l.vars.all fun v => decide (v ∈ zq) && decide (v.lo = l.lo) && decide (v.hi = l.hi)) = true := by decide +kernel
end L
namespace L
open PySem PySem.Spec L2 Pk
theorem adC : ∀ a : Nat, a ≤ 4 → Num (dg a) a
 | 0, _ => ⟨by decide +kernel, by decide +kernel, ⟨48, [], by decide +kernel, by decide +kernel, by decide +kernel⟩, by decide +kernel⟩
 | 1, _ => ⟨by decide +kernel, by decide +kernel, ⟨49, [], by decide +kernel, by decide +kernel, by decide +kernel⟩, by decide +kernel⟩
 | 2, _ => ⟨by decide +kernel, by decide +kernel, ⟨50, [], by decide +kernel, by decide +kernel, by decide +kernel⟩, by decide +kernel⟩
 | 3, _ => ⟨by decide +kernel, by decide +kernel, ⟨51, [], by decide +kernel, by decide +kernel, by decide +kernel⟩, by decide +kernel⟩
 | 4, _ => ⟨by decide +kernel, by decide +kernel, ⟨52, [], by decide +kernel, by decide +kernel, by decide +kernel⟩, by decide +kernel⟩
 | a + 5, h => absurd h (by omega)
theorem aaE : ∀ w ∈ (["events", "sum", "first", "last", "change", "rises"] : List Str), Fst w := fun w hw => by
 have h : ∀ w ∈ (["events", "sum", "first", "last", "change", "rises"] : List Str), zW w = true ∧ w.length ≤ 1000 ∧ w ≠ "(" ∧ w ≠ "abs" ∧ w ∉ (["max", "min"] : List Str) ∧ w ≠ "-" ∧ SJ w = false := by decide +kernel
 obtain ⟨h1, h2, h3, h4, h5, h6, h7⟩ := h w hw
 exact ⟨h1, h2, h3, h4, h5, h6, h7⟩
def Lk.good : Lk → Bool
 | .ev a b => decide (a < b) && decide (b ≤ 4)
 | .all m f a b => decide (m ∈ Xl) && decide (f ∈ (["zero", "held"] : List Str)) && decide (a < b) && decide (b ≤ 4)
 | .each m f a b => decide (m ∈ SM) && decide (if m = "told" then f = "raw" else f ∈ fW) && decide (a < b) && decide (b ≤ 4)
theorem ae0 : (zq.all Lk.good) = true := by decide +kernel
section
variable {h0 : Hh} {n : Nat} {ps : List Int}
theorem slt {ws : List Str} {s a b : Nat} (h1 : uH ws s = "[") (h2 : uH ws (s + 1) = dg a) (h3 : uH ws (s + 2) = ":") (h4 : uH ws (s + 3) = dg b) (h5 : uH ws (s + 4) = "]") (hab : a < b) (hb : b ≤ 4) (hn : b ≤ n) : SlT ws s (a : Int) (b : Int) (n : Int) :=
 ⟨h1, by rw [h2]; exact adC a (by omega), h3, by rw [h4]; exact adC b hb, h5, by omega, by omega, by omega⟩
theorem adD {l : Lk} (g : l.good = true) (hn : l.hi ≤ n) : vP [.ref h0.length] (TH h0 n l.wsL ps (0 : Nat)) = .ok (.tup l.ndL) [] (TH h0 n l.wsL ps (l.wsL.length : Nat)) := by
 cases l with
 | ev a b =>
   unfold Lk.good at g
   simp only [Bool.and_eq_true, decide_eq_true_eq] at g
   exact ags (s := 0) rfl (slt rfl rfl rfl rfl rfl g.1 g.2 hn)
 | all m f a b =>
   unfold Lk.good at g
   simp only [Bool.and_eq_true, decide_eq_true_eq] at g
   exact aeX (s := 0) g.1.1.1 rfl rfl rfl rfl rfl g.1.1.2 (slt rfl rfl rfl rfl rfl g.1.2 g.2 hn) rfl rfl
 | each m f a b =>
   unfold Lk.good at g
   simp only [Bool.and_eq_true, decide_eq_true_eq] at g
   exact adz (s := 0) g.1.1.1 rfl rfl rfl rfl rfl g.1.1.2 (slt rfl rfl rfl rfl rfl g.1.2 g.2 hn) rfl rfl
theorem ae1 {l : Lk} (g : l.good = true) : Fst (uH l.wsL 0) ∧ uH l.wsL l.wsL.length = "" := by
 cases l with
 | ev a b => exact ⟨aaE _ (by exact als), rfl⟩
 | all m f a b =>
   unfold Lk.good at g
   simp only [Bool.and_eq_true, decide_eq_true_eq] at g
   exact ⟨aaE _ (alz _ (alz _ g.1.1.1)), rfl⟩
 | each m f a b => exact ⟨aaE _ (alz _ als), rfl⟩
theorem adE {l : Lk} (hl : l ∈ zq) (hn : l.hi ≤ n) : ∃ h', xm [.cls 1, .str l.txt, .int (n : Int)] h0 = .ok (.no 1 [.int (n : Int), l.ndD]) [] (h0 ++ h') := by
 have g := List.all_eq_true.mp ae0 l hl
 have o := List.all_eq_true.mp lks_ok l hl
 simp only [Bool.and_eq_true, decide_eq_true_eq] at o
 obtain ⟨⟨o1, o2⟩, o3⟩ := o
 obtain ⟨f1, f2⟩ := ae1 g
 obtain ⟨h', e⟩ := acH (h0 := h0) (sz := (n : Int)) (k := l.wsL.length) o1 o2 (by rw [o3]; exact f1) (by rw [o3]; exact f2) (fun ps => by rw [o3]; exact adD g hn)
 refine ⟨h', ?_⟩
 unfold Lk.ndD
 apply Wp.eq
 simp only [↓oH, ↓nW, ↓wp_bind, ↓pq, ↓uE, ↓tM, ↓pA, ↓iV, ↓oM, ↓pB, ↓tD, ↓tE, ↓tO, ↓pC, ↓iW, ↓pD, ↓tQ, ↓iY, ↓iZ, ↓pF, ↓cX, ↓tR, ↓cY, ↓cZ, ↓pG, ↓pH, ↓jc, ↓tU, ↓qL, ↓je, ↓pJ, ↓tV, ↓iD, ↓jf, ↓jh, ↓oN, ↓pK, ↓ji, ↓oO, ↓pM, ↓pN, ↓jk, ↓iG, ↓uv, ↓iH, ↓dw, ↓bF, ↓dB, ↓pO, ↓jn, ↓jo, ↓jr, ↓jt, ↓ju, ↓jw, ↓jx, ↓bG, ↓jy, ↓jA, ↓jB, ↓kJ, ↓qP, ↓jC, ↓iI, ↓jD, ↓j5, ↓km, ↓kE, ↓iK, ↓iQ, ig, oZ, o5, oR, iz, uF, uG, ir, o7, oJ, o8, iU, o9, ph, oK, ou, oA, iw, oF, dC, jV, qH, jm, ↓lu, ↓lA, ↓eX, ↓qQ, ↓ug, ↓lB, ↓lC, ↓oY, ↓lK, ↓lL, ↓qX, ↓qY, ↓qZ, ↓rC, ↓lO, ↓fj, ↓uh, ↓fu, ↓lQ, ↓lX, ↓lY, ↓fL, ↓fM, ↓fO, ↓cC, ↓rF, ↓lZ, ↓fQ, ↓fU, ↓rG, ↓mG, ↓fV, ↓fX, ↓fY, ↓rH, ↓rJ, ↓rK, ↓rN, ↓mK, ↓fZ, ↓cD, ↓cG, ↓rW, ↓rY, ↓gq, ↓rZ, ↓mQ, ↓mU, ↓mV, ↓gA, ↓gG, ↓gH, ↓cJ, ↓mX, ↓gK, ↓sr, ↓gM, ↓gQ, ↓mY, ↓m7, ↓mZ, ↓ni, ↓nj, ↓gY, ↓nu, ↓gU, ↓cO, ↓su, ↓sE, ↓nA, ↓sG, jE, pZ, pP, tW, jF, qb, jG, fz_non, jH, qd, pQ, tX, pU, tY, jJ, qj, jK, ql, jL, qm, pW, tZ, pX, t7, pY, t8, il, nZ, oE, oh, dD, jM, iJ, nR, dF, qp, jN, nO, uK, uL, uN, uO, uP, uQ, uR, ue, nJ, tG, dG, dH, jO, dI, dJ, bH, dM, dN, bJ, dO, oU, qu, qw, qC, jP, jQ, dR, uf, jR, qD, jT, jU, qF, qG, tH, tK, dY, jW, dZ, bT, d8, bU, jX, d9, bV, eE, eG, jY, jZ, uJ, vD, vK, bY, bZ, eU, kW, eO, bW, qJ, qK, j6, eQ, j8, j9, kh, qO, j7, qM, qN, aln, alo, alp, ale, Int.reduceToNat, bK, bL, dU, bM, bO, dW, dX, bQ, bR, eY, eZ, lM, rA, rB, Option.isSome_some, Option.isSome_none, lN, Int.reduceEq, beq_self_eq_true, cV, cW, fB, lU, fD, fG, fH, lV, lW, fJ, fK, fP, cA, bu, mD, mF, mH, mJ, gh, cH, cI, mO, gj, rO, ul, rP, rQ, rR, uU, uV, gJ, mW, oG, oV, iT, oW, gR, m9, nH, kY, lg, eV, kZ, lD, qR, lE, lF, qT, lG, lH, lJ, qU, qW, startF, ala, alc, alh, alm, alb, ald, ali, alk, alq, alr, alj, alf, alg, Nat.reduceAdd, Nat.reduceSub, Nat.reduceLeDiff, Nat.reduceLT, Nat.zero_add, and_true, true_and, and_self, false_and, and_false, not_true_eq_false, not_false_eq_true, eq_self, decide_true, decide_false, Bool.not_true, Bool.not_false, Bool.true_and, Bool.false_and, Bool.and_true, Bool.and_false, Bool.or_true, Bool.or_false, Bool.true_or, Bool.false_or, Option.map_some, Option.map_none, Int.toNat_natCast, ↓reduceIte, Bool.false_eq_true, reduceCtorEq, Int.cast_ofNat_Int, Int.reduceLT, Int.reduceLE, Int.reduceAdd, Int.reduceSub, Int.reduceNeg, Int.natCast_zero, qI, and_assoc, ↓UT, ↓Hg, ↓aU, aD, aF, aV, aP, aK, aW, aG, aX, aQ, au, aM, aY, aZ, ↓Yc, ↓TF, e, wY]
end
end L
namespace L
open PySem PySem.Spec L2 Pk
theorem agt : ∀ b, b ≤ 4 → ∀ a, a < b → (a, b) ∈ prs := by decide
theorem V2 {a b : Nat} {l : Lk} (hab : a < b) (hb : b ≤ 4) (h : l ∈ Ab a b) : l ∈ zq := List.mem_flatMap.mpr ⟨(a, b), agt b hb a hab, h⟩
theorem ahX {a b : Nat} : Lk.ev a b ∈ Ab a b := als
theorem agu {m f : Str} {a b : Nat} (hm : m ∈ Xl) (hf : f = "zero" ∨ f = "held") : Lk.all m f a b ∈ Ab a b := by
 refine alz _ (List.mem_append_left _ (List.mem_append_left _ (List.mem_flatMap.mpr ⟨m, hm, ?_⟩)))
 rcases hf with rfl | rfl
 · exact als
 · exact alz _ als
theorem ae2 {m f : Str} {a b : Nat} (hm : m ∈ m6) (hf : f ∈ fW) : Lk.each m f a b ∈ Ab a b :=
 alz _ (List.mem_append_left _ (List.mem_append_right _ (List.mem_flatMap.mpr ⟨m, hm, List.mem_map.mpr ⟨f, hf, rfl⟩⟩)))
theorem ae3 {a b : Nat} : Lk.each "told" "raw" a b ∈ Ab a b := alz _ (List.mem_append_right _ als)
theorem V3 {l : List Str} {i : Nat} {d : D} (e : (l.map D.str)[i]? = some d) : ∃ w, w ∈ l ∧ d = .str w := by
 rw [alF] at e
 cases q : l[i]? with
 | none => rw [q] at e; cases e
 | some w => rw [q] at e; cases e; exact ⟨w, alB q, rfl⟩
theorem acI {h : Hh} {n : Nat} {C : Int} {sz : Nat} (S : Src h n C) (hC : C ≤ 99000) (h2 : 2 ≤ sz) (h4 : sz ≤ 4) :
 ∃ l h', zY [.ref n, .int (sz : Int)] h = .ok l.ldD [] h' ∧ Src h' n (C + 7) ∧ l ∈ zq ∧ l.hi ≤ sz := by
 obtain ⟨r0, h1, e1, S1, a1, b1⟩ := Jq (m := (sz : Int)) S (by omega) (by omega) (by omega)
 obtain ⟨i, d, k1, hi, hd, e2, S2⟩ := Ke (l := [.int 0, .int 0, .int r0]) S1 (by omega) (by simp) (by simp)
 obtain ⟨lo, rfl, hlo⟩ : ∃ lo : Nat, d = .int (lo : Int) ∧ lo < sz := by
  match i, hi with
  | 0, _ => cases hd; exact ⟨0, rfl, by omega⟩
  | 1, _ => cases hd; exact ⟨0, rfl, by omega⟩
  | 2, _ => cases hd; exact ⟨r0.toNat, by rw [Int.toNat_of_nonneg a1], by omega⟩
 clear hd hi i
 obtain ⟨r1, h3, e3, S3, a3, b3⟩ := Jq (m := (sz : Int) - lo) S2 (by omega) (by omega) (by omega)
 obtain ⟨i, d, k2, hi, hd, e4, S4⟩ := Ke (l := [.int (sz : Int), .int ((lo : Int) + 1 + r1)]) S3 (by omega) (by simp) (by simp)
 obtain ⟨hh, rfl, hab, hb⟩ : ∃ hh : Nat, d = .int (hh : Int) ∧ lo < hh ∧ hh ≤ sz := by
  match i, hi with
  | 0, _ => cases hd; exact ⟨sz, rfl, hlo, Nat.le_refl _⟩
  | 1, _ => cases hd; exact ⟨lo + 1 + r1.toNat, by simp only [Int.natCast_add, Int.natCast_one, Int.toNat_of_nonneg a3], by omega, by omega⟩
 clear hd hi i
 obtain ⟨r2, k3, e5, S5, a5, b5⟩ := Jq (m := 5) S4 (by omega) (by omega) (by omega)
 by_cases c0 : r2 = 0
 · subst c0
   refine ⟨.ev lo hh, k3, ?_, S5.up (by omega), V2 hab (by omega) ahX, hb⟩
   apply Wp.eq
   simp only [↓oH, ↓nW, ↓wp_bind, ↓pq, ↓uE, ↓tM, ↓pA, ↓iV, ↓oM, ↓pB, ↓tD, ↓tE, ↓tO, ↓pC, ↓iW, ↓pD, ↓tQ, ↓iY, ↓iZ, ↓pF, ↓cX, ↓tR, ↓cY, ↓cZ, ↓pG, ↓pH, ↓jc, ↓tU, ↓qL, ↓je, ↓pJ, ↓tV, ↓iD, ↓jf, ↓jh, ↓oN, ↓pK, ↓ji, ↓oO, ↓pM, ↓pN, ↓jk, ↓iG, ↓uv, ↓iH, ↓dw, ↓bF, ↓dB, ↓pO, ↓jn, ↓jo, ↓jr, ↓jt, ↓ju, ↓jw, ↓jx, ↓bG, ↓jy, ↓jA, ↓jB, ↓kJ, ↓qP, ↓jC, ↓iI, ↓jD, ↓j5, ↓km, ↓kE, ↓iK, ↓iQ, ig, oZ, o5, oR, iz, uF, uG, ir, o7, oJ, o8, iU, o9, ph, oK, ou, oA, iw, oF, dC, jV, qH, jm, ↓lu, ↓lA, ↓eX, ↓qQ, ↓ug, ↓lB, ↓lC, ↓oY, ↓lK, ↓lL, ↓qX, ↓qY, ↓qZ, ↓rC, ↓lO, ↓fj, ↓uh, ↓fu, ↓lQ, ↓lX, ↓lY, ↓fL, ↓fM, ↓fO, ↓cC, ↓rF, ↓lZ, ↓fQ, ↓fU, ↓rG, ↓mG, ↓fV, ↓fX, ↓fY, ↓rH, ↓rJ, ↓rK, ↓rN, ↓mK, ↓fZ, ↓cD, ↓cG, ↓rW, ↓rY, ↓gq, ↓rZ, ↓mQ, ↓mU, ↓mV, ↓gA, ↓gG, ↓gH, ↓cJ, ↓mX, ↓gK, ↓sr, ↓gM, ↓gQ, ↓mY, ↓m7, ↓mZ, ↓ni, ↓nj, ↓gY, ↓nu, ↓gU, ↓cO, ↓su, ↓sE, ↓nA, ↓sG, jE, pZ, pP, tW, jF, qb, jG, fz_non, jH, qd, pQ, tX, pU, tY, jJ, qj, jK, ql, jL, qm, pW, tZ, pX, t7, pY, t8, il, nZ, oE, oh, dD, jM, iJ, nR, dF, qp, jN, nO, uK, uL, uN, uO, uP, uQ, uR, ue, nJ, tG, dG, dH, jO, dI, dJ, bH, dM, dN, bJ, dO, oU, qu, qw, qC, jP, jQ, dR, uf, jR, qD, jT, jU, qF, qG, tH, tK, dY, jW, dZ, bT, d8, bU, jX, d9, bV, eE, eG, jY, jZ, uJ, vD, vK, bY, bZ, eU, kW, eO, bW, qJ, qK, j6, eQ, j8, j9, kh, qO, j7, qM, qN, aln, alo, alp, ale, Int.reduceToNat, bK, bL, dU, bM, bO, dW, dX, bQ, bR, eY, eZ, lM, rA, rB, Option.isSome_some, Option.isSome_none, lN, Int.reduceEq, beq_self_eq_true, cV, cW, fB, lU, fD, fG, fH, lV, lW, fJ, fK, fP, cA, bu, mD, mF, mH, mJ, gh, cH, cI, mO, gj, rO, ul, rP, rQ, rR, uU, uV, gJ, mW, oG, oV, iT, oW, gR, m9, nH, kY, lg, eV, kZ, lD, qR, lE, lF, qT, lG, lH, lJ, qU, qW, startF, ala, alc, alh, alm, alb, ald, ali, alk, alq, alr, alj, alf, alg, Nat.reduceAdd, Nat.reduceSub, Nat.reduceLeDiff, Nat.reduceLT, Nat.zero_add, and_true, true_and, and_self, false_and, and_false, not_true_eq_false, not_false_eq_true, eq_self, decide_true, decide_false, Bool.not_true, Bool.not_false, Bool.true_and, Bool.false_and, Bool.and_true, Bool.and_false, Bool.or_true, Bool.or_false, Bool.true_or, Bool.false_or, Option.map_some, Option.map_none, Int.toNat_natCast, ↓reduceIte, Bool.false_eq_true, reduceCtorEq, Int.cast_ofNat_Int, Int.reduceLT, Int.reduceLE, Int.reduceAdd, Int.reduceSub, Int.reduceNeg, Int.natCast_zero, qI, and_assoc, ↓xN, ↓xO, ↓xP, ↓xQ, ↓xR, ↓Aa, ↓aU, aD, aF, aV, aP, aK, aW, aG, aX, aQ, au, aM, aY, aZ, ↓Hj, e1, e2, e3, e4, e5]
   rfl
 · have d0 : ∀ h : Hh, u9 h (.int r2) (.int 0) = some false := fun h => (aaf (h := h) Em.int (abm r2) (abm 0) trivial trivial (by decide)).trans (congrArg some (decide_eq_false c0))
   by_cases c3 : r2 < 3
   · have d3 : decide (r2 < 3) = true := decide_eq_true c3
     obtain ⟨i, d, k4, hi, hd, e6, S6⟩ := Ke (l := (["first", "last", "change", "rises", "rises"] : List Str).map D.str) S5 (by omega) (by decide) (by decide)
     obtain ⟨m, hm, rfl⟩ := V3 hd
     obtain ⟨i', d', k5, hi', hd', e7, S7⟩ := Ke (l := (["zero", "held"] : List Str).map D.str) S6 (by omega) (by decide) (by decide)
     obtain ⟨f, hf, rfl⟩ := V3 hd'
     simp only [ala, alc] at e6 e7
     refine ⟨.all m f lo hh, k5, ?_, S7.up (by omega), V2 hab (by omega) (agu ?_ ?_), hb⟩
     · apply Wp.eq
       simp only [↓oH, ↓nW, ↓wp_bind, ↓pq, ↓uE, ↓tM, ↓pA, ↓iV, ↓oM, ↓pB, ↓tD, ↓tE, ↓tO, ↓pC, ↓iW, ↓pD, ↓tQ, ↓iY, ↓iZ, ↓pF, ↓cX, ↓tR, ↓cY, ↓cZ, ↓pG, ↓pH, ↓jc, ↓tU, ↓qL, ↓je, ↓pJ, ↓tV, ↓iD, ↓jf, ↓jh, ↓oN, ↓pK, ↓ji, ↓oO, ↓pM, ↓pN, ↓jk, ↓iG, ↓uv, ↓iH, ↓dw, ↓bF, ↓dB, ↓pO, ↓jn, ↓jo, ↓jr, ↓jt, ↓ju, ↓jw, ↓jx, ↓bG, ↓jy, ↓jA, ↓jB, ↓kJ, ↓qP, ↓jC, ↓iI, ↓jD, ↓j5, ↓km, ↓kE, ↓iK, ↓iQ, ig, oZ, o5, oR, iz, uF, uG, ir, o7, oJ, o8, iU, o9, ph, oK, ou, oA, iw, oF, dC, jV, qH, jm, ↓lu, ↓lA, ↓eX, ↓qQ, ↓ug, ↓lB, ↓lC, ↓oY, ↓lK, ↓lL, ↓qX, ↓qY, ↓qZ, ↓rC, ↓lO, ↓fj, ↓uh, ↓fu, ↓lQ, ↓lX, ↓lY, ↓fL, ↓fM, ↓fO, ↓cC, ↓rF, ↓lZ, ↓fQ, ↓fU, ↓rG, ↓mG, ↓fV, ↓fX, ↓fY, ↓rH, ↓rJ, ↓rK, ↓rN, ↓mK, ↓fZ, ↓cD, ↓cG, ↓rW, ↓rY, ↓gq, ↓rZ, ↓mQ, ↓mU, ↓mV, ↓gA, ↓gG, ↓gH, ↓cJ, ↓mX, ↓gK, ↓sr, ↓gM, ↓gQ, ↓mY, ↓m7, ↓mZ, ↓ni, ↓nj, ↓gY, ↓nu, ↓gU, ↓cO, ↓su, ↓sE, ↓nA, ↓sG, jE, pZ, pP, tW, jF, qb, jG, fz_non, jH, qd, pQ, tX, pU, tY, jJ, qj, jK, ql, jL, qm, pW, tZ, pX, t7, pY, t8, il, nZ, oE, oh, dD, jM, iJ, nR, dF, qp, jN, nO, uK, uL, uN, uO, uP, uQ, uR, ue, nJ, tG, dG, dH, jO, dI, dJ, bH, dM, dN, bJ, dO, oU, qu, qw, qC, jP, jQ, dR, uf, jR, qD, jT, jU, qF, qG, tH, tK, dY, jW, dZ, bT, d8, bU, jX, d9, bV, eE, eG, jY, jZ, uJ, vD, vK, bY, bZ, eU, kW, eO, bW, qJ, qK, j6, eQ, j8, j9, kh, qO, j7, qM, qN, aln, alo, alp, ale, Int.reduceToNat, bK, bL, dU, bM, bO, dW, dX, bQ, bR, eY, eZ, lM, rA, rB, Option.isSome_some, Option.isSome_none, lN, Int.reduceEq, beq_self_eq_true, cV, cW, fB, lU, fD, fG, fH, lV, lW, fJ, fK, fP, cA, bu, mD, mF, mH, mJ, gh, cH, cI, mO, gj, rO, ul, rP, rQ, rR, uU, uV, gJ, mW, oG, oV, iT, oW, gR, m9, nH, kY, lg, eV, kZ, lD, qR, lE, lF, qT, lG, lH, lJ, qU, qW, startF, ala, alc, alh, alm, alb, ald, ali, alk, alq, alr, alj, alf, alg, Nat.reduceAdd, Nat.reduceSub, Nat.reduceLeDiff, Nat.reduceLT, Nat.zero_add, and_true, true_and, and_self, false_and, and_false, not_true_eq_false, not_false_eq_true, eq_self, decide_true, decide_false, Bool.not_true, Bool.not_false, Bool.true_and, Bool.false_and, Bool.and_true, Bool.and_false, Bool.or_true, Bool.or_false, Bool.true_or, Bool.false_or, Option.map_some, Option.map_none, Int.toNat_natCast, ↓reduceIte, Bool.false_eq_true, reduceCtorEq, Int.cast_ofNat_Int, Int.reduceLT, Int.reduceLE, Int.reduceAdd, Int.reduceSub, Int.reduceNeg, Int.natCast_zero, qI, and_assoc, ↓xN, ↓xO, ↓xP, ↓xQ, ↓xR, ↓Aa, ↓aU, aD, aF, aV, aP, aK, aW, aG, aX, aQ, au, aM, aY, aZ, ↓Hj, e1, e2, e3, e4, e5, e6, e7, d0, d3]
       rfl
     · exact (show ∀ m ∈ (["first", "last", "change", "rises", "rises"] : List Str), m ∈ Xl by decide +kernel) m hm
     · simp only [alC, List.not_mem_nil, or_false] at hf
       exact hf
   · have d3 : decide (r2 < 3) = false := decide_eq_false c3
     obtain ⟨i, d, k4, hi, hd, e6, S6⟩ := Ke (l := (["first", "last", "top", "low", "change", "rises", "rises", "told"] : List Str).map D.str) S5 (by omega) (by decide) (by decide)
     obtain ⟨m, hm, rfl⟩ := V3 hd
     have hmg : ∀ m ∈ (["first", "last", "top", "low", "change", "rises", "rises", "told"] : List Str), zW m = true ∧ (m = "told" ∨ m ∈ m6) := by decide +kernel
     obtain ⟨g, hm6⟩ := hmg m hm
     have dt : ∀ h : Hh, u9 h (.str m) (.str "told") = some (decide (m = "told")) := fun h => Ew g (by decide +kernel)
     simp only [ala, alc] at e6
     by_cases ct : m = "told"
     · have d4 : decide (m = "told") = true := decide_eq_true ct
       refine ⟨.each m "raw" lo hh, k4, ?_, S6.up (by omega), V2 hab (by omega) (by rw [ct]; exact ae3), hb⟩
       apply Wp.eq
       simp only [↓oH, ↓nW, ↓wp_bind, ↓pq, ↓uE, ↓tM, ↓pA, ↓iV, ↓oM, ↓pB, ↓tD, ↓tE, ↓tO, ↓pC, ↓iW, ↓pD, ↓tQ, ↓iY, ↓iZ, ↓pF, ↓cX, ↓tR, ↓cY, ↓cZ, ↓pG, ↓pH, ↓jc, ↓tU, ↓qL, ↓je, ↓pJ, ↓tV, ↓iD, ↓jf, ↓jh, ↓oN, ↓pK, ↓ji, ↓oO, ↓pM, ↓pN, ↓jk, ↓iG, ↓uv, ↓iH, ↓dw, ↓bF, ↓dB, ↓pO, ↓jn, ↓jo, ↓jr, ↓jt, ↓ju, ↓jw, ↓jx, ↓bG, ↓jy, ↓jA, ↓jB, ↓kJ, ↓qP, ↓jC, ↓iI, ↓jD, ↓j5, ↓km, ↓kE, ↓iK, ↓iQ, ig, oZ, o5, oR, iz, uF, uG, ir, o7, oJ, o8, iU, o9, ph, oK, ou, oA, iw, oF, dC, jV, qH, jm, ↓lu, ↓lA, ↓eX, ↓qQ, ↓ug, ↓lB, ↓lC, ↓oY, ↓lK, ↓lL, ↓qX, ↓qY, ↓qZ, ↓rC, ↓lO, ↓fj, ↓uh, ↓fu, ↓lQ, ↓lX, ↓lY, ↓fL, ↓fM, ↓fO, ↓cC, ↓rF, ↓lZ, ↓fQ, ↓fU, ↓rG, ↓mG, ↓fV, ↓fX, ↓fY, ↓rH, ↓rJ, ↓rK, ↓rN, ↓mK, ↓fZ, ↓cD, ↓cG, ↓rW, ↓rY, ↓gq, ↓rZ, ↓mQ, ↓mU, ↓mV, ↓gA, ↓gG, ↓gH, ↓cJ, ↓mX, ↓gK, ↓sr, ↓gM, ↓gQ, ↓mY, ↓m7, ↓mZ, ↓ni, ↓nj, ↓gY, ↓nu, ↓gU, ↓cO, ↓su, ↓sE, ↓nA, ↓sG, jE, pZ, pP, tW, jF, qb, jG, fz_non, jH, qd, pQ, tX, pU, tY, jJ, qj, jK, ql, jL, qm, pW, tZ, pX, t7, pY, t8, il, nZ, oE, oh, dD, jM, iJ, nR, dF, qp, jN, nO, uK, uL, uN, uO, uP, uQ, uR, ue, nJ, tG, dG, dH, jO, dI, dJ, bH, dM, dN, bJ, dO, oU, qu, qw, qC, jP, jQ, dR, uf, jR, qD, jT, jU, qF, qG, tH, tK, dY, jW, dZ, bT, d8, bU, jX, d9, bV, eE, eG, jY, jZ, uJ, vD, vK, bY, bZ, eU, kW, eO, bW, qJ, qK, j6, eQ, j8, j9, kh, qO, j7, qM, qN, aln, alo, alp, ale, Int.reduceToNat, bK, bL, dU, bM, bO, dW, dX, bQ, bR, eY, eZ, lM, rA, rB, Option.isSome_some, Option.isSome_none, lN, Int.reduceEq, beq_self_eq_true, cV, cW, fB, lU, fD, fG, fH, lV, lW, fJ, fK, fP, cA, bu, mD, mF, mH, mJ, gh, cH, cI, mO, gj, rO, ul, rP, rQ, rR, uU, uV, gJ, mW, oG, oV, iT, oW, gR, m9, nH, kY, lg, eV, kZ, lD, qR, lE, lF, qT, lG, lH, lJ, qU, qW, startF, ala, alc, alh, alm, alb, ald, ali, alk, alq, alr, alj, alf, alg, Nat.reduceAdd, Nat.reduceSub, Nat.reduceLeDiff, Nat.reduceLT, Nat.zero_add, and_true, true_and, and_self, false_and, and_false, not_true_eq_false, not_false_eq_true, eq_self, decide_true, decide_false, Bool.not_true, Bool.not_false, Bool.true_and, Bool.false_and, Bool.and_true, Bool.and_false, Bool.or_true, Bool.or_false, Bool.true_or, Bool.false_or, Option.map_some, Option.map_none, Int.toNat_natCast, ↓reduceIte, Bool.false_eq_true, reduceCtorEq, Int.cast_ofNat_Int, Int.reduceLT, Int.reduceLE, Int.reduceAdd, Int.reduceSub, Int.reduceNeg, Int.natCast_zero, qI, and_assoc, ↓xN, ↓xO, ↓xP, ↓xQ, ↓xR, ↓Aa, ↓aU, aD, aF, aV, aP, aK, aW, aG, aX, aQ, au, aM, aY, aZ, ↓Hj, e1, e2, e3, e4, e5, e6, d0, d3, dt, d4]
       rfl
     · have d4 : decide (m = "told") = false := decide_eq_false ct
       obtain ⟨i', d', k5, hi', hd', e7, S7⟩ := Ke (l := fW.map D.str) S6 (by omega) (by decide) (by decide)
       obtain ⟨f, hf, rfl⟩ := V3 hd'
       simp only [fW, ala, alc] at e7
       refine ⟨.each m f lo hh, k5, ?_, S7.up (by omega), V2 hab (by omega) (ae2 (hm6.resolve_left ct) hf), hb⟩
       apply Wp.eq
       simp only [↓oH, ↓nW, ↓wp_bind, ↓pq, ↓uE, ↓tM, ↓pA, ↓iV, ↓oM, ↓pB, ↓tD, ↓tE, ↓tO, ↓pC, ↓iW, ↓pD, ↓tQ, ↓iY, ↓iZ, ↓pF, ↓cX, ↓tR, ↓cY, ↓cZ, ↓pG, ↓pH, ↓jc, ↓tU, ↓qL, ↓je, ↓pJ, ↓tV, ↓iD, ↓jf, ↓jh, ↓oN, ↓pK, ↓ji, ↓oO, ↓pM, ↓pN, ↓jk, ↓iG, ↓uv, ↓iH, ↓dw, ↓bF, ↓dB, ↓pO, ↓jn, ↓jo, ↓jr, ↓jt, ↓ju, ↓jw, ↓jx, ↓bG, ↓jy, ↓jA, ↓jB, ↓kJ, ↓qP, ↓jC, ↓iI, ↓jD, ↓j5, ↓km, ↓kE, ↓iK, ↓iQ, ig, oZ, o5, oR, iz, uF, uG, ir, o7, oJ, o8, iU, o9, ph, oK, ou, oA, iw, oF, dC, jV, qH, jm, ↓lu, ↓lA, ↓eX, ↓qQ, ↓ug, ↓lB, ↓lC, ↓oY, ↓lK, ↓lL, ↓qX, ↓qY, ↓qZ, ↓rC, ↓lO, ↓fj, ↓uh, ↓fu, ↓lQ, ↓lX, ↓lY, ↓fL, ↓fM, ↓fO, ↓cC, ↓rF, ↓lZ, ↓fQ, ↓fU, ↓rG, ↓mG, ↓fV, ↓fX, ↓fY, ↓rH, ↓rJ, ↓rK, ↓rN, ↓mK, ↓fZ, ↓cD, ↓cG, ↓rW, ↓rY, ↓gq, ↓rZ, ↓mQ, ↓mU, ↓mV, ↓gA, ↓gG, ↓gH, ↓cJ, ↓mX, ↓gK, ↓sr, ↓gM, ↓gQ, ↓mY, ↓m7, ↓mZ, ↓ni, ↓nj, ↓gY, ↓nu, ↓gU, ↓cO, ↓su, ↓sE, ↓nA, ↓sG, jE, pZ, pP, tW, jF, qb, jG, fz_non, jH, qd, pQ, tX, pU, tY, jJ, qj, jK, ql, jL, qm, pW, tZ, pX, t7, pY, t8, il, nZ, oE, oh, dD, jM, iJ, nR, dF, qp, jN, nO, uK, uL, uN, uO, uP, uQ, uR, ue, nJ, tG, dG, dH, jO, dI, dJ, bH, dM, dN, bJ, dO, oU, qu, qw, qC, jP, jQ, dR, uf, jR, qD, jT, jU, qF, qG, tH, tK, dY, jW, dZ, bT, d8, bU, jX, d9, bV, eE, eG, jY, jZ, uJ, vD, vK, bY, bZ, eU, kW, eO, bW, qJ, qK, j6, eQ, j8, j9, kh, qO, j7, qM, qN, aln, alo, alp, ale, Int.reduceToNat, bK, bL, dU, bM, bO, dW, dX, bQ, bR, eY, eZ, lM, rA, rB, Option.isSome_some, Option.isSome_none, lN, Int.reduceEq, beq_self_eq_true, cV, cW, fB, lU, fD, fG, fH, lV, lW, fJ, fK, fP, cA, bu, mD, mF, mH, mJ, gh, cH, cI, mO, gj, rO, ul, rP, rQ, rR, uU, uV, gJ, mW, oG, oV, iT, oW, gR, m9, nH, kY, lg, eV, kZ, lD, qR, lE, lF, qT, lG, lH, lJ, qU, qW, startF, ala, alc, alh, alm, alb, ald, ali, alk, alq, alr, alj, alf, alg, Nat.reduceAdd, Nat.reduceSub, Nat.reduceLeDiff, Nat.reduceLT, Nat.zero_add, and_true, true_and, and_self, false_and, and_false, not_true_eq_false, not_false_eq_true, eq_self, decide_true, decide_false, Bool.not_true, Bool.not_false, Bool.true_and, Bool.false_and, Bool.and_true, Bool.and_false, Bool.or_true, Bool.or_false, Bool.true_or, Bool.false_or, Option.map_some, Option.map_none, Int.toNat_natCast, ↓reduceIte, Bool.false_eq_true, reduceCtorEq, Int.cast_ofNat_Int, Int.reduceLT, Int.reduceLE, Int.reduceAdd, Int.reduceSub, Int.reduceNeg, Int.natCast_zero, qI, and_assoc, ↓xN, ↓xO, ↓xP, ↓xQ, ↓xR, ↓Aa, ↓aU, aD, aF, aV, aP, aK, aW, aG, aX, aQ, au, aM, aY, aZ, ↓Hj, e1, e2, e3, e4, e5, e6, e7, d0, d3, dt, d4]
       rfl
end L
namespace L
open PySem PySem.Spec L2 Pk
theorem aaF {h : Hh} {n : Int} : zq.map (fun l => Bu [tm n l.ndD] h) = zq.map (fun l => R.ok (D.nl (l.vars.map fun v => tm n v.ndD)) [] h) := by kernel_rfl
section
variable {h : Hh} {n : Nat} {l v : Lk}
theorem abu (hl : l ∈ zq) (hv : v ∈ l.vars) : v ∈ zq := by
 have a := List.all_eq_true.mp (List.all_eq_true.mp aeZ l hl) v hv
 simp only [Bool.and_eq_true, decide_eq_true_eq] at a
 exact a.1.1
theorem acJ (hl : l ∈ zq) : wI [l.ldD] h = .ok (.str l.txt) [] h := of_map adB l hl
theorem XD (hl : l ∈ zq) : yh [tm n l.ndD] h = .ok (.str l.txt) [] h := of_map aeY l hl
theorem Ye (hl : l ∈ zq) : Bu [tm n l.ndD] h = .ok (.nl (l.vars.map fun v => tm n v.ndD)) [] h := of_map aaF l hl
end
section
variable {n : Nat} {l : List D} {vs : List Nat} {g : D → M Unit} {t : M Bool} {e : M D} {fr : Fr} {h : Hh}
end
end L
namespace L
open PySem PySem.Spec L2 Pk
def Lk.isEv : Lk → Bool
 | .ev _ _ => true
 | _ => false
def Lk.sm : Lk → Bool
 | .each _ _ _ _ => true
 | _ => false
def Lk.ms : Lk → Str
 | .ev _ _ => ""
 | .all m _ _ _ => m
 | .each m _ _ _ => m
def Lk.fi : Lk → Str
 | .ev _ _ => ""
 | .all _ f _ _ => f
 | .each _ f _ _ => f
def Jt (l : Lk) : D := .tup [.bl l.sm, .str l.ms, .str l.fi]
def La (v w : Lk) : List Nat := (if v.sm = w.sm then [] else [0]) ++ ((if v.ms = w.ms then [] else [1]) ++ if v.fi = w.fi then [] else [2])
theorem ae4 {h : Hh} {n : Int} {a b : Nat} : (Ab a b).map (fun l => l.vars.map fun v => l.vars.map fun w => El [tm n v.ndD, tm n w.ndD] h) = (Ab a b).map fun l => l.vars.map fun v => l.vars.map fun w => R.ok (D.int ((La v w).length : Int)) [] h := by kernel_rfl
theorem agv {h : Hh} {a b : Nat} {x0 x1 x2 x3 x4 x5 x6 x7 x8 x11 : Option D} : (Ab a b).map (fun l => l.vars.map fun v => l.vars.map fun w => Hm [11] (yO (mC (.int 3))) Gp Gq Gr [x0, x1, x2, x3, x4, x5, x6, x7, x8, some (Jt v), some (Jt w), x11] h) = (Ab a b).map fun l => l.vars.map fun v => l.vars.map fun w => R.ok (D.nl ((La v w).map fun i : Nat => D.int (i : Int))) [x0, x1, x2, x3, x4, x5, x6, x7, x8, some (Jt v), some (Jt w), none] h := by kernel_rfl
def Lk.wds : Lk → List Str
 | .ev _ _ => []
 | .all m f a b => [m, "sum", f, dg a ++ ":" ++ dg b ++ "]))"]
 | .each m f a b => ["sum", m, f, dg a ++ ":" ++ dg b ++ "]))"]
def rp1 (l : Lk) : Str := Txt.replace l.txt "(" " "
def rp2 (l : Lk) : Str := Txt.replace (rp1 l) "[" " "
def JD (l : Lk) : Bool := l.isEv || (decide (Txt.split (rp2 l) " " = l.wds) && decide (l.txt.length ≤ 100) && decide ((rp1 l).length ≤ 100) && decide ((rp2 l).length ≤ 100) && zW l.ms && (l.sm || decide (l.ms ≠ "sum")))
theorem ais : ((Ab 0 1).all JD) = true := by decide +kernel
theorem ait : ((Ab 0 2).all JD) = true := by decide +kernel
theorem aiu : ((Ab 0 3).all JD) = true := by decide +kernel
theorem aiv : ((Ab 0 4).all JD) = true := by decide +kernel
theorem aiw : ((Ab 1 2).all JD) = true := by decide +kernel
theorem aix : ((Ab 1 3).all JD) = true := by decide +kernel
theorem aiy : ((Ab 1 4).all JD) = true := by decide +kernel
theorem aiz : ((Ab 2 3).all JD) = true := by decide +kernel
theorem aiA : ((Ab 2 4).all JD) = true := by decide +kernel
theorem aiB : ((Ab 3 4).all JD) = true := by decide +kernel
theorem adF {l : Lk} (hl : l ∈ zq) : JD l = true := by
 obtain ⟨p, hp, h⟩ := List.mem_flatMap.mp hl
 simp only [prs, alC, List.not_mem_nil, or_false] at hp
 rcases hp with rfl | rfl | rfl | rfl | rfl | rfl | rfl | rfl | rfl | rfl
 · exact List.all_eq_true.mp ais l h
 · exact List.all_eq_true.mp ait l h
 · exact List.all_eq_true.mp aiu l h
 · exact List.all_eq_true.mp aiv l h
 · exact List.all_eq_true.mp aiw l h
 · exact List.all_eq_true.mp aix l h
 · exact List.all_eq_true.mp aiy l h
 · exact List.all_eq_true.mp aiz l h
 · exact List.all_eq_true.mp aiA l h
 · exact List.all_eq_true.mp aiB l h
theorem ahY : (zq.all fun l => decide (Txt.startswith l.txt "events" = l.isEv)) = true := by decide +kernel
theorem aaG : ∀ l ∈ zq, l.vars.length ≤ 6 := by
 have e : (zq.all fun l => decide (l.vars.length ≤ 6)) = true := by decide +kernel
 exact fun l hl => of_decide_eq_true (List.all_eq_true.mp e l hl)
section
variable {h : Hh} {n : Nat} {l v w : Lk}
theorem afw (hl : l ∈ zq) : ∃ a b, l ∈ Ab a b := by
 obtain ⟨p, _, hp⟩ := List.mem_flatMap.mp hl
 exact ⟨p.1, p.2, hp⟩
theorem adG (hl : l ∈ zq) (hv : v ∈ l.vars) (hw : w ∈ l.vars) : El [tm n v.ndD, tm n w.ndD] h = .ok (.int ((La v w).length : Int)) [] h := by
 obtain ⟨a, b, hp⟩ := afw hl
 exact of_map (of_map (of_map (f := fun l : Lk => l.vars.map fun v => l.vars.map fun w => El [tm n v.ndD, tm n w.ndD] h) ae4 l hp) v hv) w hw
theorem ae5 (hl : l ∈ zq) (hv : v ∈ l.vars) (hw : w ∈ l.vars) {x0 x1 x2 x3 x4 x5 x6 x7 x8 x11 : Option D} : Hm [11] (yO (mC (.int 3))) Gp Gq Gr [x0, x1, x2, x3, x4, x5, x6, x7, x8, some (Jt v), some (Jt w), x11] h = R.ok (D.nl ((La v w).map fun i : Nat => D.int (i : Int))) [x0, x1, x2, x3, x4, x5, x6, x7, x8, some (Jt v), some (Jt w), none] h := by
 obtain ⟨a, b, hp⟩ := afw hl
 exact of_map (of_map (of_map (f := fun l : Lk => l.vars.map fun v => l.vars.map fun w => Hm [11] (yO (mC (.int 3))) Gp Gq Gr [x0, x1, x2, x3, x4, x5, x6, x7, x8, some (Jt v), some (Jt w), x11] h) agv l hp) v hv) w hw
theorem V4 (hl : l ∈ zq) (he : l.isEv = false) : yg [.str l.txt] h = .ok (Jt l) [] h := by
 have q := adF hl
 unfold JD at q
 rw [he, Bool.false_or] at q
 simp only [Bool.and_eq_true, decide_eq_true_eq] at q
 obtain ⟨⟨⟨⟨⟨q1, q2⟩, q3⟩, q4⟩, q5⟩, q6⟩ := q
 have b1 : Dg "(" " " l.txt = some (.str (rp1 l)) := by
  unfold Dg rp1
  rw [if_pos ⟨by omega, by decide⟩]
 have b2 : Dg "[" " " (rp1 l) = some (.str (rp2 l)) := by
  unfold Dg rp2
  rw [if_pos ⟨by omega, by decide⟩]
 have b3 : ∀ h : Hh, Du h (rp2 l) (.str " ") = some (.nl (l.wds.map .str)) := fun h => by
  rw [acs (by decide) (Nat.le_trans q4 (by decide)), q1]
 generalize rp1 l = X1 at *
 generalize rp2 l = X2 at *
 cases l with
 | ev a b => cases he
 | all m f a b =>
   have mg : zW m = true := q5
   have ms : m ≠ "sum" := by
    have q7 : (decide (m ≠ "sum")) = true := q6
    exact of_decide_eq_true q7
   have c0 : ∀ h : Hh, u9 h (.str m) (.str "sum") = some false := fun h => (Ew mg (by decide +kernel)).trans (congrArg some (decide_eq_false ms))
   generalize Lk.txt (.all m f a b) = TX at *
   apply Wp.eq
   simp only [↓oH, ↓nW, ↓wp_bind, ↓pq, ↓uE, ↓tM, ↓pA, ↓iV, ↓oM, ↓pB, ↓tD, ↓tE, ↓tO, ↓pC, ↓iW, ↓pD, ↓tQ, ↓iY, ↓iZ, ↓pF, ↓cX, ↓tR, ↓cY, ↓cZ, ↓pG, ↓pH, ↓jc, ↓tU, ↓qL, ↓je, ↓pJ, ↓tV, ↓iD, ↓jf, ↓jh, ↓oN, ↓pK, ↓ji, ↓oO, ↓pM, ↓pN, ↓jk, ↓iG, ↓uv, ↓iH, ↓dw, ↓bF, ↓dB, ↓pO, ↓jn, ↓jo, ↓jr, ↓jt, ↓ju, ↓jw, ↓jx, ↓bG, ↓jy, ↓jA, ↓jB, ↓kJ, ↓qP, ↓jC, ↓iI, ↓jD, ↓j5, ↓km, ↓kE, ↓iK, ↓iQ, ig, oZ, o5, oR, iz, uF, uG, ir, o7, oJ, o8, iU, o9, ph, oK, ou, oA, iw, oF, dC, jV, qH, jm, ↓lu, ↓lA, ↓eX, ↓qQ, ↓ug, ↓lB, ↓lC, ↓oY, ↓lK, ↓lL, ↓qX, ↓qY, ↓qZ, ↓rC, ↓lO, ↓fj, ↓uh, ↓fu, ↓lQ, ↓lX, ↓lY, ↓fL, ↓fM, ↓fO, ↓cC, ↓rF, ↓lZ, ↓fQ, ↓fU, ↓rG, ↓mG, ↓fV, ↓fX, ↓fY, ↓rH, ↓rJ, ↓rK, ↓rN, ↓mK, ↓fZ, ↓cD, ↓cG, ↓rW, ↓rY, ↓gq, ↓rZ, ↓mQ, ↓mU, ↓mV, ↓gA, ↓gG, ↓gH, ↓cJ, ↓mX, ↓gK, ↓sr, ↓gM, ↓gQ, ↓mY, ↓m7, ↓mZ, ↓ni, ↓nj, ↓gY, ↓nu, ↓gU, ↓cO, ↓su, ↓sE, ↓nA, ↓sG, jE, pZ, pP, tW, jF, qb, jG, fz_non, jH, qd, pQ, tX, pU, tY, jJ, qj, jK, ql, jL, qm, pW, tZ, pX, t7, pY, t8, il, nZ, oE, oh, dD, jM, iJ, nR, dF, qp, jN, nO, uK, uL, uN, uO, uP, uQ, uR, ue, nJ, tG, dG, dH, jO, dI, dJ, bH, dM, dN, bJ, dO, oU, qu, qw, qC, jP, jQ, dR, uf, jR, qD, jT, jU, qF, qG, tH, tK, dY, jW, dZ, bT, d8, bU, jX, d9, bV, eE, eG, jY, jZ, uJ, vD, vK, bY, bZ, eU, kW, eO, bW, qJ, qK, j6, eQ, j8, j9, kh, qO, j7, qM, qN, aln, alo, alp, ale, Int.reduceToNat, bK, bL, dU, bM, bO, dW, dX, bQ, bR, eY, eZ, lM, rA, rB, Option.isSome_some, Option.isSome_none, lN, Int.reduceEq, beq_self_eq_true, cV, cW, fB, lU, fD, fG, fH, lV, lW, fJ, fK, fP, cA, bu, mD, mF, mH, mJ, gh, cH, cI, mO, gj, rO, ul, rP, rQ, rR, uU, uV, gJ, mW, oG, oV, iT, oW, gR, m9, nH, kY, lg, eV, kZ, lD, qR, lE, lF, qT, lG, lH, lJ, qU, qW, startF, ala, alc, alh, alm, alb, ald, ali, alk, alq, alr, alj, alf, alg, Nat.reduceAdd, Nat.reduceSub, Nat.reduceLeDiff, Nat.reduceLT, Nat.zero_add, and_true, true_and, and_self, false_and, and_false, not_true_eq_false, not_false_eq_true, eq_self, decide_true, decide_false, Bool.not_true, Bool.not_false, Bool.true_and, Bool.false_and, Bool.and_true, Bool.and_false, Bool.or_true, Bool.or_false, Bool.true_or, Bool.false_or, Option.map_some, Option.map_none, Int.toNat_natCast, ↓reduceIte, Bool.false_eq_true, reduceCtorEq, Int.cast_ofNat_Int, Int.reduceLT, Int.reduceLE, Int.reduceAdd, Int.reduceSub, Int.reduceNeg, Int.natCast_zero, qI, and_assoc, ↓Mg, ↓Ri, ↓aU, aD, aF, aV, aP, aK, aW, aG, aX, aQ, au, aM, aY, aZ, ↓O5, b1, b2, b3, Lk.wds, c0, Jt, Lk.sm, Lk.ms, Lk.fi]
 | each m f a b =>
   have c0 : ∀ h : Hh, u9 h (.str "sum") (.str "sum") = some true := fun h => (Ew (by decide +kernel) (by decide +kernel)).trans (congrArg some (decide_eq_true rfl))
   generalize Lk.txt (.each m f a b) = TX at *
   apply Wp.eq
   simp only [↓oH, ↓nW, ↓wp_bind, ↓pq, ↓uE, ↓tM, ↓pA, ↓iV, ↓oM, ↓pB, ↓tD, ↓tE, ↓tO, ↓pC, ↓iW, ↓pD, ↓tQ, ↓iY, ↓iZ, ↓pF, ↓cX, ↓tR, ↓cY, ↓cZ, ↓pG, ↓pH, ↓jc, ↓tU, ↓qL, ↓je, ↓pJ, ↓tV, ↓iD, ↓jf, ↓jh, ↓oN, ↓pK, ↓ji, ↓oO, ↓pM, ↓pN, ↓jk, ↓iG, ↓uv, ↓iH, ↓dw, ↓bF, ↓dB, ↓pO, ↓jn, ↓jo, ↓jr, ↓jt, ↓ju, ↓jw, ↓jx, ↓bG, ↓jy, ↓jA, ↓jB, ↓kJ, ↓qP, ↓jC, ↓iI, ↓jD, ↓j5, ↓km, ↓kE, ↓iK, ↓iQ, ig, oZ, o5, oR, iz, uF, uG, ir, o7, oJ, o8, iU, o9, ph, oK, ou, oA, iw, oF, dC, jV, qH, jm, ↓lu, ↓lA, ↓eX, ↓qQ, ↓ug, ↓lB, ↓lC, ↓oY, ↓lK, ↓lL, ↓qX, ↓qY, ↓qZ, ↓rC, ↓lO, ↓fj, ↓uh, ↓fu, ↓lQ, ↓lX, ↓lY, ↓fL, ↓fM, ↓fO, ↓cC, ↓rF, ↓lZ, ↓fQ, ↓fU, ↓rG, ↓mG, ↓fV, ↓fX, ↓fY, ↓rH, ↓rJ, ↓rK, ↓rN, ↓mK, ↓fZ, ↓cD, ↓cG, ↓rW, ↓rY, ↓gq, ↓rZ, ↓mQ, ↓mU, ↓mV, ↓gA, ↓gG, ↓gH, ↓cJ, ↓mX, ↓gK, ↓sr, ↓gM, ↓gQ, ↓mY, ↓m7, ↓mZ, ↓ni, ↓nj, ↓gY, ↓nu, ↓gU, ↓cO, ↓su, ↓sE, ↓nA, ↓sG, jE, pZ, pP, tW, jF, qb, jG, fz_non, jH, qd, pQ, tX, pU, tY, jJ, qj, jK, ql, jL, qm, pW, tZ, pX, t7, pY, t8, il, nZ, oE, oh, dD, jM, iJ, nR, dF, qp, jN, nO, uK, uL, uN, uO, uP, uQ, uR, ue, nJ, tG, dG, dH, jO, dI, dJ, bH, dM, dN, bJ, dO, oU, qu, qw, qC, jP, jQ, dR, uf, jR, qD, jT, jU, qF, qG, tH, tK, dY, jW, dZ, bT, d8, bU, jX, d9, bV, eE, eG, jY, jZ, uJ, vD, vK, bY, bZ, eU, kW, eO, bW, qJ, qK, j6, eQ, j8, j9, kh, qO, j7, qM, qN, aln, alo, alp, ale, Int.reduceToNat, bK, bL, dU, bM, bO, dW, dX, bQ, bR, eY, eZ, lM, rA, rB, Option.isSome_some, Option.isSome_none, lN, Int.reduceEq, beq_self_eq_true, cV, cW, fB, lU, fD, fG, fH, lV, lW, fJ, fK, fP, cA, bu, mD, mF, mH, mJ, gh, cH, cI, mO, gj, rO, ul, rP, rQ, rR, uU, uV, gJ, mW, oG, oV, iT, oW, gR, m9, nH, kY, lg, eV, kZ, lD, qR, lE, lF, qT, lG, lH, lJ, qU, qW, startF, ala, alc, alh, alm, alb, ald, ali, alk, alq, alr, alj, alf, alg, Nat.reduceAdd, Nat.reduceSub, Nat.reduceLeDiff, Nat.reduceLT, Nat.zero_add, and_true, true_and, and_self, false_and, and_false, not_true_eq_false, not_false_eq_true, eq_self, decide_true, decide_false, Bool.not_true, Bool.not_false, Bool.true_and, Bool.false_and, Bool.and_true, Bool.and_false, Bool.or_true, Bool.or_false, Bool.true_or, Bool.false_or, Option.map_some, Option.map_none, Int.toNat_natCast, ↓reduceIte, Bool.false_eq_true, reduceCtorEq, Int.cast_ofNat_Int, Int.reduceLT, Int.reduceLE, Int.reduceAdd, Int.reduceSub, Int.reduceNeg, Int.natCast_zero, qI, and_assoc, ↓Mg, ↓Ri, ↓aU, aD, aF, aV, aP, aK, aW, aG, aX, aQ, au, aM, aY, aZ, ↓O5, b1, b2, b3, Lk.wds, c0, Jt, Lk.sm, Lk.ms, Lk.fi]
theorem agw (hl : l ∈ zq) : Txt.startswith l.txt "events" = l.isEv := of_decide_eq_true (List.all_eq_true.mp ahY l hl)
theorem agx (hv : v ∈ l.vars) : v.isEv = true → ∀ w ∈ l.vars, La v w = [] := by
 cases l with
 | ev a b =>
   intro _ w hw
   have e1 : v = .ev a b := by simpa [Lk.vars] using hv
   have e2 : w = .ev a b := by simpa [Lk.vars] using hw
   rw [e1, e2]
   unfold La
   simp
 | all m f a b =>
   intro he
   have : v ∈ Lk.vars.vr m a b := hv
   unfold Lk.vars.vr at this
   split at this
   · simp only [alC, List.not_mem_nil, or_false] at this
     rcases this with rfl | rfl | rfl | rfl | rfl | rfl <;> cases he
   · split at this
     · simp only [alC, List.not_mem_nil, or_false] at this
       rcases this with rfl | rfl | rfl <;> cases he
     · simp only [alC, List.not_mem_nil, or_false] at this
       rcases this with rfl | rfl | rfl | rfl | rfl <;> cases he
 | each m f a b =>
   intro he
   have : v ∈ Lk.vars.vr m a b := hv
   unfold Lk.vars.vr at this
   split at this
   · simp only [alC, List.not_mem_nil, or_false] at this
     rcases this with rfl | rfl | rfl | rfl | rfl | rfl <;> cases he
   · split at this
     · simp only [alC, List.not_mem_nil, or_false] at this
       rcases this with rfl | rfl | rfl <;> cases he
     · simp only [alC, List.not_mem_nil, or_false] at this
       rcases this with rfl | rfl | rfl | rfl | rfl <;> cases he
theorem agy (hl : l ∈ zq) (hv : v ∈ l.vars) (hw : w ∈ l.vars) : v.isEv = false → w.isEv = false := by
 have e : (zq.all fun l => l.vars.all fun v => l.vars.all fun w => decide (v.isEv = w.isEv)) = true := by decide +kernel
 have a := of_decide_eq_true (List.all_eq_true.mp (List.all_eq_true.mp (List.all_eq_true.mp e l hl) v hv) w hw)
 intro z
 rw [← a]
 exact z
end
end L
namespace L
open PySem PySem.Spec L2 Pk
section
variable {h : Hh} {n : Nat} {l v w : Lk} {ns : List Int} {x0 x1 x2 x3 x5 x6 x7 x8 x9 x10 x11 : Option D}
abbrev BV (n : Nat) (l : Lk) : List D := l.vars.map fun v => tm n v.ndD
theorem agz (h : Hh) (v : Int) : Jw KZ h (.int v) (.ty "int") = some (.bl true) := by kernel_rfl
theorem agA (h : Hh) (v : Int) : Jw KZ h (.int v) (.ty "bool") = some (.bl false) := by kernel_rfl
theorem adH {i : Nat} (e : l.vars[i]? = some v) : bA h (.nl (BV n l)) (.int (i : Int)) = some (tm n v.ndD) := by
 show atI (BV n l) (i : Int) = _
 rw [nJ, alF, e]
 rfl
theorem pair (hl : l ∈ zq) {i j : Nat} (hv : l.vars[i]? = some v) (hw : l.vars[j]? = some w) {B : M Fl} (hB : B = Im) :
 Wp (B [x0, x1, x2, x3, some (.nl (BV n l)), some (.int (i : Int)), some (.int (j : Int)), x7, x8, x9, x10, x11] h) (fun f fr _ => f = .nx ∧ ∃ y7 y8 y9 y10 y11, fr = [x0, x1, x2, x3, some (.nl (BV n l)), some (.int (i : Int)), some (.int (j : Int)), y7, y8, y9, y10, y11]) wO := by
 have mv := alB hv
 have mw := alB hw
 have lv := abu hl mv
 have lw := abu hl mw
 have i1 := fun h : Hh => adH (h := h) (n := n) hv
 have i2 := fun h : Hh => adH (h := h) (n := n) hw
 have di := fun h : Hh => adG (h := h) (n := n) hl mv mw
 have t1 := fun h : Hh => XD (h := h) (n := n) lv
 have t2 := fun h : Hh => XD (h := h) (n := n) lw
 have sw := agw lv
 have a1 := fun h : Hh => agz h ((La v w).length : Int)
 have a2 := fun h : Hh => agA h ((La v w).length : Int)
 have ov : (tm n v.ndD).own = false := rfl
 have ow : (tm n w.ndD).own = false := rfl
 subst hB
 cases he : v.isEv with
 | true =>
   have d0 := agx mv he w mw
   rw [he] at sw
   rw [d0] at di a1 a2
   simp only [ali] at di a1 a2
   have pt1 : ∀ h : Hh, fnOf zJ h (tm n v.ndD) = some yh := fun h => rfl
   generalize BV n l = TR at *
   generalize tm n v.ndD = TV at *
   generalize tm n w.ndD = TW at *
   simp only [↓oH, ↓nW, ↓wp_bind, ↓pq, ↓uE, ↓tM, ↓pA, ↓iV, ↓oM, ↓pB, ↓tD, ↓tE, ↓tO, ↓pC, ↓iW, ↓pD, ↓tQ, ↓iY, ↓iZ, ↓pF, ↓cX, ↓tR, ↓cY, ↓cZ, ↓pG, ↓pH, ↓jc, ↓tU, ↓qL, ↓je, ↓pJ, ↓tV, ↓iD, ↓jf, ↓jh, ↓oN, ↓pK, ↓ji, ↓oO, ↓pM, ↓pN, ↓jk, ↓iG, ↓uv, ↓iH, ↓dw, ↓bF, ↓dB, ↓pO, ↓jn, ↓jo, ↓jr, ↓jt, ↓ju, ↓jw, ↓jx, ↓bG, ↓jy, ↓jA, ↓jB, ↓kJ, ↓qP, ↓jC, ↓iI, ↓jD, ↓j5, ↓km, ↓kE, ↓iK, ↓iQ, ig, oZ, o5, oR, iz, uF, uG, ir, o7, oJ, o8, iU, o9, ph, oK, ou, oA, iw, oF, dC, jV, qH, jm, ↓lu, ↓lA, ↓eX, ↓qQ, ↓ug, ↓lB, ↓lC, ↓oY, ↓lK, ↓lL, ↓qX, ↓qY, ↓qZ, ↓rC, ↓lO, ↓fj, ↓uh, ↓fu, ↓lQ, ↓lX, ↓lY, ↓fL, ↓fM, ↓fO, ↓cC, ↓rF, ↓lZ, ↓fQ, ↓fU, ↓rG, ↓mG, ↓fV, ↓fX, ↓fY, ↓rH, ↓rJ, ↓rK, ↓rN, ↓mK, ↓fZ, ↓cD, ↓cG, ↓rW, ↓rY, ↓gq, ↓rZ, ↓mQ, ↓mU, ↓mV, ↓gA, ↓gG, ↓gH, ↓cJ, ↓mX, ↓gK, ↓sr, ↓gM, ↓gQ, ↓mY, ↓m7, ↓mZ, ↓ni, ↓nj, ↓gY, ↓nu, ↓gU, ↓cO, ↓su, ↓sE, ↓nA, ↓sG, jE, pZ, pP, tW, jF, qb, jG, fz_non, jH, qd, pQ, tX, pU, tY, jJ, qj, jK, ql, jL, qm, pW, tZ, pX, t7, pY, t8, il, nZ, oE, oh, dD, jM, iJ, nR, dF, qp, jN, uK, uL, uN, uO, uP, uQ, uR, ue, nJ, tG, dG, dH, jO, dI, dJ, bH, dM, dN, bJ, dO, oU, qu, qw, qC, jP, jQ, dR, uf, jR, qD, jT, jU, qF, qG, tH, tK, dY, jW, dZ, bT, d8, bU, jX, d9, bV, eE, eG, jY, jZ, uJ, vD, vK, bY, bZ, eU, kW, eO, bW, qJ, qK, j6, eQ, j8, j9, kh, qO, j7, qM, qN, aln, alo, alp, ale, Int.reduceToNat, bK, bL, dU, bM, bO, dW, dX, bQ, bR, eY, eZ, lM, rA, rB, Option.isSome_some, Option.isSome_none, lN, Int.reduceEq, beq_self_eq_true, cV, cW, fB, lU, fD, fG, fH, lV, lW, fJ, fK, fP, cA, bu, mD, mF, mH, mJ, gh, cH, cI, mO, gj, rO, ul, rP, rQ, rR, uU, uV, gJ, mW, oG, oV, iT, oW, gR, m9, nH, kY, lg, eV, kZ, lD, qR, lE, lF, qT, lG, lH, lJ, qU, qW, startF, ala, alc, alh, alm, alb, ald, ali, alk, alq, alr, alj, alf, alg, Nat.reduceAdd, Nat.reduceSub, Nat.reduceLeDiff, Nat.reduceLT, Nat.zero_add, and_true, true_and, and_self, false_and, and_false, not_true_eq_false, not_false_eq_true, eq_self, decide_true, decide_false, Bool.not_true, Bool.not_false, Bool.true_and, Bool.false_and, Bool.and_true, Bool.and_false, Bool.or_true, Bool.or_false, Bool.true_or, Bool.false_or, Option.map_some, Option.map_none, Int.toNat_natCast, ↓reduceIte, Bool.false_eq_true, reduceCtorEq, Int.cast_ofNat_Int, Int.reduceLT, Int.reduceLE, Int.reduceAdd, Int.reduceSub, Int.reduceNeg, Int.natCast_zero, qI, and_assoc, ↓aU, ↓Rj, ↓BJ, ↓BK, ↓BL, ↓xV, ↓xW, ↓xX, ↓BP, ↓BR, ↓yU, ↓xY, ↓zQ, ↓JT, aD, aF, aV, aP, aK, aW, aG, aX, aQ, au, aM, aY, aZ, i1, i2, ov, ow, di, pt1, t1, sw, a1, a2]
   first | done | (refine ⟨?_, _, _, _, _, _, rfl⟩; first | rfl | trivial | omega | decide) | exact ⟨_, _, _, _, _, rfl⟩
 | false =>
   have ew := agy hl mv mw he
   have p1 := fun h : Hh => V4 (h := h) lv he
   have p2 := fun h : Hh => V4 (h := h) lw ew
   have du := fun (h : Hh) (a b c d e f g i j k : Option D) => ae5 (h := h) hl mv mw (x0 := a) (x1 := b) (x2 := c) (x3 := d) (x4 := e) (x5 := f) (x6 := g) (x7 := i) (x8 := j) (x11 := k)
   have ll : ∀ h : Hh, uW h (.nl ((La v w).map fun i : Nat => D.int (i : Int))) = some (.int ((La v w).length : Int)) := fun h => by
    show some (D.int ((((La v w).map fun i : Nat => D.int (i : Int)).length : Nat) : Int)) = _
    rw [alw]
   have o1 : (Jt v).own = false := rfl
   have o2 : (Jt w).own = false := rfl
   rw [he] at sw
   have pt1 : ∀ h : Hh, fnOf zJ h (tm n v.ndD) = some yh := fun h => rfl
   have pt2 : ∀ h : Hh, fnOf zJ h (tm n w.ndD) = some yh := fun h => rfl
   have c1 : ∀ h : Hh, u9 h (.int ((La v w).length : Int)) (.int ((La v w).length : Int)) = some true := fun h => oU.trans (congrArg some (decide_eq_true rfl))
   generalize ((La v w).map fun i : Nat => D.int (i : Int)) = DL at *
   generalize ((La v w).length : Int) = DN at *
   generalize Jt v = PV at *
   generalize Jt w = PW at *
   generalize BV n l = TR at *
   generalize tm n v.ndD = TV at *
   generalize tm n w.ndD = TW at *
   simp only [↓oH, ↓nW, ↓wp_bind, ↓pq, ↓uE, ↓tM, ↓pA, ↓iV, ↓oM, ↓pB, ↓tD, ↓tE, ↓tO, ↓pC, ↓iW, ↓pD, ↓tQ, ↓iY, ↓iZ, ↓pF, ↓cX, ↓tR, ↓cY, ↓cZ, ↓pG, ↓pH, ↓jc, ↓tU, ↓qL, ↓je, ↓pJ, ↓tV, ↓iD, ↓jf, ↓jh, ↓oN, ↓pK, ↓ji, ↓oO, ↓pM, ↓pN, ↓jk, ↓iG, ↓iH, ↓dw, ↓bF, ↓dB, ↓pO, ↓jn, ↓jo, ↓jr, ↓jt, ↓ju, ↓jw, ↓jx, ↓bG, ↓jy, ↓jA, ↓jB, ↓kJ, ↓qP, ↓jC, ↓iI, ↓jD, ↓j5, ↓km, ↓kE, ↓iK, ↓iQ, ig, oZ, o5, oR, iz, uF, uG, ir, o7, oJ, o8, iU, o9, ph, oK, ou, oA, iw, oF, dC, jV, qH, jm, ↓lu, ↓lA, ↓eX, ↓qQ, ↓ug, ↓lB, ↓lC, ↓oY, ↓lK, ↓lL, ↓qX, ↓qY, ↓qZ, ↓rC, ↓lO, ↓fj, ↓uh, ↓fu, ↓lQ, ↓lX, ↓lY, ↓fL, ↓fM, ↓fO, ↓cC, ↓rF, ↓lZ, ↓fQ, ↓fU, ↓rG, ↓mG, ↓fV, ↓fX, ↓fY, ↓rH, ↓rJ, ↓rK, ↓rN, ↓mK, ↓fZ, ↓cD, ↓cG, ↓rW, ↓rY, ↓gq, ↓rZ, ↓mQ, ↓mU, ↓mV, ↓gA, ↓gG, ↓gH, ↓cJ, ↓mX, ↓gK, ↓sr, ↓gM, ↓gQ, ↓mY, ↓m7, ↓mZ, ↓ni, ↓nj, ↓gY, ↓nu, ↓gU, ↓cO, ↓su, ↓sE, ↓nA, ↓sG, jE, pZ, pP, tW, jF, qb, jG, fz_non, jH, qd, pQ, tX, pU, tY, jJ, qj, jK, ql, jL, qm, pW, tZ, pX, t7, pY, t8, il, nZ, oE, oh, dD, jM, iJ, dF, qp, jN, uK, uL, uN, uO, uP, uQ, uR, ue, nJ, tG, dG, dH, jO, dI, dJ, bH, dM, dN, bJ, dO, oU, qu, qw, qC, jP, jQ, dR, uf, jR, qD, jT, jU, qF, qG, tH, tK, dY, jW, dZ, bT, d8, bU, jX, d9, bV, eE, eG, jY, jZ, uJ, vD, vK, bY, bZ, eU, kW, eO, bW, qJ, qK, j6, eQ, j8, j9, kh, qO, j7, qM, qN, aln, alo, alp, ale, Int.reduceToNat, bK, bL, dU, bM, bO, dW, dX, bQ, bR, eY, eZ, lM, rA, rB, Option.isSome_some, Option.isSome_none, lN, Int.reduceEq, beq_self_eq_true, cV, cW, fB, lU, fD, fG, fH, lV, lW, fJ, fK, fP, cA, bu, mD, mF, mH, mJ, gh, cH, cI, mO, gj, rO, ul, rP, rQ, rR, uU, uV, gJ, mW, oG, oV, iT, oW, gR, m9, nH, kY, lg, eV, kZ, lD, qR, lE, lF, qT, lG, lH, lJ, qU, qW, startF, ala, alc, alh, alm, alb, ald, ali, alk, alq, alr, alj, alf, alg, Nat.reduceAdd, Nat.reduceSub, Nat.reduceLeDiff, Nat.reduceLT, Nat.zero_add, and_true, true_and, and_self, false_and, and_false, not_true_eq_false, not_false_eq_true, eq_self, decide_true, decide_false, Bool.not_true, Bool.not_false, Bool.true_and, Bool.false_and, Bool.and_true, Bool.and_false, Bool.or_true, Bool.or_false, Bool.true_or, Bool.false_or, Option.map_some, Option.map_none, Int.toNat_natCast, ↓reduceIte, Bool.false_eq_true, reduceCtorEq, Int.cast_ofNat_Int, Int.reduceLT, Int.reduceLE, Int.reduceAdd, Int.reduceSub, Int.reduceNeg, Int.natCast_zero, qI, and_assoc, ↓aU, ↓Rj, ↓BJ, ↓BK, ↓BL, ↓xV, ↓xW, ↓xX, ↓BP, ↓BR, ↓yU, ↓xY, ↓zQ, ↓JT, aD, aF, aV, aP, aK, aW, aG, aX, aQ, au, aM, aY, aZ, i1, i2, ov, ow, di, pt1, pt2, t1, t2, sw, p1, p2, o1, o2, du, ll, a1, a2, c1]
   first | done | exact ⟨_, _, _, _, _, rfl⟩
theorem row (hl : l ∈ zq) {i : Nat} (hv : l.vars[i]? = some v) {B : M Fl} (hB : B = Io) :
 Wp (B [x0, x1, x2, x3, some (.nl (BV n l)), some (.int (i : Int)), x6, x7, x8, x9, x10, x11] h) (fun f fr _ => f = .nx ∧ ∃ y6 y7 y8 y9 y10 y11, fr = [x0, x1, x2, x3, some (.nl (BV n l)), some (.int (i : Int)), y6, y7, y8, y9, y10, y11]) wO := by
 have vl := aaG l hl
 have ll : ∀ h : Hh, uW h (.nl (BV n l)) = some (.int (l.vars.length : Int)) := fun h => by
  show some (D.int (((BV n l).length : Nat) : Int)) = _
  unfold BV
  rw [alw]
 have sm : Oo (l.vars.length : Int) = true := aag (by omega) (by omega)
 obtain ⟨B7, hB7⟩ : ∃ B, B = Im := ⟨_, rfl⟩
 have b8 : B = zr (yO (iy uW (g8 4))) (wF 6) B7 := by rw [hB, hB7]; rfl
 rw [b8]
 simp only [↓oH, ↓nW, ↓wp_bind, ↓pq, ↓uE, ↓tM, ↓pA, ↓iV, ↓oM, ↓pB, ↓tD, ↓tE, ↓tO, ↓pC, ↓iW, ↓pD, ↓tQ, ↓iY, ↓iZ, ↓pF, ↓cX, ↓tR, ↓cY, ↓cZ, ↓pG, ↓pH, ↓jc, ↓tU, ↓qL, ↓je, ↓pJ, ↓tV, ↓iD, ↓jf, ↓jh, ↓oN, ↓pK, ↓ji, ↓oO, ↓pM, ↓pN, ↓jk, ↓iG, ↓uv, ↓iH, ↓dw, ↓bF, ↓dB, ↓pO, ↓jn, ↓jo, ↓jr, ↓jt, ↓ju, ↓jw, ↓jx, ↓bG, ↓jy, ↓jA, ↓jB, ↓kJ, ↓qP, ↓jC, ↓iI, ↓jD, ↓j5, ↓km, ↓kE, ↓iK, ↓iQ, ig, oZ, o5, oR, iz, uF, uG, ir, o7, oJ, o8, iU, o9, ph, oK, ou, oA, iw, oF, dC, jV, qH, jm, ↓lu, ↓lA, ↓eX, ↓qQ, ↓ug, ↓lB, ↓lC, ↓oY, ↓lK, ↓lL, ↓qX, ↓qY, ↓qZ, ↓rC, ↓lO, ↓fj, ↓uh, ↓fu, ↓lQ, ↓lX, ↓lY, ↓fL, ↓fM, ↓fO, ↓cC, ↓rF, ↓lZ, ↓fQ, ↓fU, ↓rG, ↓mG, ↓fV, ↓fX, ↓fY, ↓rH, ↓rJ, ↓rK, ↓rN, ↓mK, ↓fZ, ↓cD, ↓cG, ↓rW, ↓rY, ↓gq, ↓rZ, ↓mQ, ↓mU, ↓mV, ↓gA, ↓gG, ↓gH, ↓cJ, ↓mX, ↓gK, ↓sr, ↓gM, ↓gQ, ↓mY, ↓m7, ↓mZ, ↓ni, ↓nj, ↓gY, ↓nu, ↓gU, ↓cO, ↓su, ↓sE, ↓nA, ↓sG, jE, pZ, pP, tW, jF, qb, jG, fz_non, jH, qd, pQ, tX, pU, tY, jJ, qj, jK, ql, jL, qm, pW, tZ, pX, t7, pY, t8, il, nZ, oE, oh, dD, jM, iJ, dF, qp, jN, nO, uK, uL, uN, uO, uP, uQ, uR, ue, nJ, tG, dG, dH, jO, dI, dJ, bH, dM, dN, bJ, dO, oU, qu, qw, qC, jP, jQ, dR, uf, jR, qD, jT, jU, qF, qG, tH, tK, dY, jW, dZ, bT, d8, bU, jX, d9, bV, eE, eG, jY, jZ, uJ, vD, vK, bY, bZ, eU, kW, eO, bW, qJ, qK, j6, eQ, j8, j9, kh, qO, j7, qM, qN, aln, alo, alp, ale, Int.reduceToNat, bK, bL, dU, bM, bO, dW, dX, bQ, bR, eY, eZ, lM, rA, rB, Option.isSome_some, Option.isSome_none, lN, Int.reduceEq, beq_self_eq_true, cV, cW, fB, lU, fD, fG, fH, lV, lW, fJ, fK, fP, cA, bu, mD, mF, mH, mJ, gh, cH, cI, mO, gj, rO, ul, rP, rQ, rR, uU, uV, gJ, mW, oG, oV, iT, oW, gR, m9, nH, kY, lg, eV, kZ, lD, qR, lE, lF, qT, lG, lH, lJ, qU, qW, startF, ala, alc, alh, alm, alb, ald, ali, alk, alq, alr, alj, alf, alg, Nat.reduceAdd, Nat.reduceSub, Nat.reduceLeDiff, Nat.reduceLT, Nat.zero_add, and_true, true_and, and_self, false_and, and_false, not_true_eq_false, not_false_eq_true, eq_self, decide_true, decide_false, Bool.not_true, Bool.not_false, Bool.true_and, Bool.false_and, Bool.and_true, Bool.and_false, Bool.or_true, Bool.or_false, Bool.true_or, Bool.false_or, Option.map_some, Option.map_none, Int.toNat_natCast, ↓reduceIte, Bool.false_eq_true, reduceCtorEq, Int.cast_ofNat_Int, Int.reduceLT, Int.reduceLE, Int.reduceAdd, Int.reduceSub, Int.reduceNeg, Int.natCast_zero, qI, and_assoc, ↓aU, ↓BJ, ↓BK, ↓BL, ↓xV, ↓xW, ↓xX, ↓BP, ↓BR, ↓yU, ↓xY, ↓zQ, ↓JT, aD, aF, aV, aP, aK, aW, aG, aX, aQ, au, aM, aY, aZ, ll, sm]
 refine WK (fun j fr _ => ∃ y6 y7 y8 y9 y10 y11, fr = [x0, x1, x2, x3, some (.nl (BV n l)), some (.int (i : Int)), y6, y7, y8, y9, y10, y11]) ⟨_, _, _, _, _, _, rfl⟩ ?_ ?_
 · rintro j fr h' j0 j1 ⟨y6, y7, y8, y9, y10, y11, rfl⟩
   obtain ⟨q, rfl⟩ : ∃ q : Nat, j = (q : Int) := ⟨j.toNat, by omega⟩
   have hq : q < l.vars.length := by omega
   have hw : l.vars[q]? = some l.vars[q] := alv hq
   have t := pair (h := h') (n := n) (x0 := x0) (x1 := x1) (x2 := x2) (x3 := x3) (x7 := y7) (x8 := y8) (x9 := y9) (x10 := y10) (x11 := y11) hl hv hw hB7
   simp only [↓oH, ↓nW, ↓wp_bind, ↓pq, ↓uE, ↓tM, ↓pA, ↓iV, ↓oM, ↓pB, ↓tD, ↓tE, ↓tO, ↓pC, ↓iW, ↓pD, ↓tQ, ↓iY, ↓iZ, ↓pF, ↓cX, ↓tR, ↓cY, ↓cZ, ↓pG, ↓pH, ↓jc, ↓tU, ↓qL, ↓je, ↓pJ, ↓tV, ↓iD, ↓jf, ↓jh, ↓oN, ↓pK, ↓ji, ↓oO, ↓pM, ↓pN, ↓jk, ↓iG, ↓uv, ↓iH, ↓dw, ↓bF, ↓dB, ↓pO, ↓jn, ↓jo, ↓jr, ↓jt, ↓ju, ↓jw, ↓jx, ↓bG, ↓jy, ↓jA, ↓jB, ↓kJ, ↓qP, ↓jC, ↓iI, ↓jD, ↓j5, ↓km, ↓kE, ↓iK, ↓iQ, ig, oZ, o5, oR, iz, uF, uG, ir, o7, oJ, o8, iU, o9, ph, oK, ou, oA, iw, oF, dC, jV, qH, jm, ↓lu, ↓lA, ↓eX, ↓qQ, ↓ug, ↓lB, ↓lC, ↓oY, ↓lK, ↓lL, ↓qX, ↓qY, ↓qZ, ↓rC, ↓lO, ↓fj, ↓uh, ↓fu, ↓lQ, ↓lX, ↓lY, ↓fL, ↓fM, ↓fO, ↓cC, ↓rF, ↓lZ, ↓fQ, ↓fU, ↓rG, ↓mG, ↓fV, ↓fX, ↓fY, ↓rH, ↓rJ, ↓rK, ↓rN, ↓mK, ↓fZ, ↓cD, ↓cG, ↓rW, ↓rY, ↓gq, ↓rZ, ↓mQ, ↓mU, ↓mV, ↓gA, ↓gG, ↓gH, ↓cJ, ↓mX, ↓gK, ↓sr, ↓gM, ↓gQ, ↓mY, ↓m7, ↓mZ, ↓ni, ↓nj, ↓gY, ↓nu, ↓gU, ↓cO, ↓su, ↓sE, ↓nA, ↓sG, jE, pZ, pP, tW, jF, qb, jG, fz_non, jH, qd, pQ, tX, pU, tY, jJ, qj, jK, ql, jL, qm, pW, tZ, pX, t7, pY, t8, il, nZ, oE, oh, dD, jM, iJ, nR, dF, qp, jN, nO, uK, uL, uN, uO, uP, uQ, uR, ue, nJ, tG, dG, dH, jO, dI, dJ, bH, dM, dN, bJ, dO, oU, qu, qw, qC, jP, jQ, dR, uf, jR, qD, jT, jU, qF, qG, tH, tK, dY, jW, dZ, bT, d8, bU, jX, d9, bV, eE, eG, jY, jZ, uJ, vD, vK, bY, bZ, eU, kW, eO, bW, qJ, qK, j6, eQ, j8, j9, kh, qO, j7, qM, qN, aln, alo, alp, ale, Int.reduceToNat, bK, bL, dU, bM, bO, dW, dX, bQ, bR, eY, eZ, lM, rA, rB, Option.isSome_some, Option.isSome_none, lN, Int.reduceEq, beq_self_eq_true, cV, cW, fB, lU, fD, fG, fH, lV, lW, fJ, fK, fP, cA, bu, mD, mF, mH, mJ, gh, cH, cI, mO, gj, rO, ul, rP, rQ, rR, uU, uV, gJ, mW, oG, oV, iT, oW, gR, m9, nH, kY, lg, eV, kZ, lD, qR, lE, lF, qT, lG, lH, lJ, qU, qW, startF, ala, alc, alh, alm, alb, ald, ali, alk, alq, alr, alj, alf, alg, Nat.reduceAdd, Nat.reduceSub, Nat.reduceLeDiff, Nat.reduceLT, Nat.zero_add, and_true, true_and, and_self, false_and, and_false, not_true_eq_false, not_false_eq_true, eq_self, decide_true, decide_false, Bool.not_true, Bool.not_false, Bool.true_and, Bool.false_and, Bool.and_true, Bool.and_false, Bool.or_true, Bool.or_false, Bool.true_or, Bool.false_or, Option.map_some, Option.map_none, Int.toNat_natCast, ↓reduceIte, Bool.false_eq_true, reduceCtorEq, Int.cast_ofNat_Int, Int.reduceLT, Int.reduceLE, Int.reduceAdd, Int.reduceSub, Int.reduceNeg, Int.natCast_zero, qI, and_assoc, ↓aU, ↓BJ, ↓BK, ↓BL, ↓xV, ↓xW, ↓xX, ↓BP, ↓BR, ↓yU, ↓xY, ↓zQ, ↓JT, aD, aF, aV, aP, aK, aW, aG, aX, aQ, au, aM, aY, aZ]
   refine Wp.mono t ?_
   rintro f fr h'' ⟨rfl, z7, z8, z9, z10, z11, rfl⟩
   simp only [↓oH, ↓nW, ↓wp_bind, ↓pq, ↓uE, ↓tM, ↓pA, ↓iV, ↓oM, ↓pB, ↓tD, ↓tE, ↓tO, ↓pC, ↓iW, ↓pD, ↓tQ, ↓iY, ↓iZ, ↓pF, ↓cX, ↓tR, ↓cY, ↓cZ, ↓pG, ↓pH, ↓jc, ↓tU, ↓qL, ↓je, ↓pJ, ↓tV, ↓iD, ↓jf, ↓jh, ↓oN, ↓pK, ↓ji, ↓oO, ↓pM, ↓pN, ↓jk, ↓iG, ↓uv, ↓iH, ↓dw, ↓bF, ↓dB, ↓pO, ↓jn, ↓jo, ↓jr, ↓jt, ↓ju, ↓jw, ↓jx, ↓bG, ↓jy, ↓jA, ↓jB, ↓kJ, ↓qP, ↓jC, ↓iI, ↓jD, ↓j5, ↓km, ↓kE, ↓iK, ↓iQ, ig, oZ, o5, oR, iz, uF, uG, ir, o7, oJ, o8, iU, o9, ph, oK, ou, oA, iw, oF, dC, jV, qH, jm, ↓lu, ↓lA, ↓eX, ↓qQ, ↓ug, ↓lB, ↓lC, ↓oY, ↓lK, ↓lL, ↓qX, ↓qY, ↓qZ, ↓rC, ↓lO, ↓fj, ↓uh, ↓fu, ↓lQ, ↓lX, ↓lY, ↓fL, ↓fM, ↓fO, ↓cC, ↓rF, ↓lZ, ↓fQ, ↓fU, ↓rG, ↓mG, ↓fV, ↓fX, ↓fY, ↓rH, ↓rJ, ↓rK, ↓rN, ↓mK, ↓fZ, ↓cD, ↓cG, ↓rW, ↓rY, ↓gq, ↓rZ, ↓mQ, ↓mU, ↓mV, ↓gA, ↓gG, ↓gH, ↓cJ, ↓mX, ↓gK, ↓sr, ↓gM, ↓gQ, ↓mY, ↓m7, ↓mZ, ↓ni, ↓nj, ↓gY, ↓nu, ↓gU, ↓cO, ↓su, ↓sE, ↓nA, ↓sG, jE, pZ, pP, tW, jF, qb, jG, fz_non, jH, qd, pQ, tX, pU, tY, jJ, qj, jK, ql, jL, qm, pW, tZ, pX, t7, pY, t8, il, nZ, oE, oh, dD, jM, iJ, nR, dF, qp, jN, nO, uK, uL, uN, uO, uP, uQ, uR, ue, nJ, tG, dG, dH, jO, dI, dJ, bH, dM, dN, bJ, dO, oU, qu, qw, qC, jP, jQ, dR, uf, jR, qD, jT, jU, qF, qG, tH, tK, dY, jW, dZ, bT, d8, bU, jX, d9, bV, eE, eG, jY, jZ, uJ, vD, vK, bY, bZ, eU, kW, eO, bW, qJ, qK, j6, eQ, j8, j9, kh, qO, j7, qM, qN, aln, alo, alp, ale, Int.reduceToNat, bK, bL, dU, bM, bO, dW, dX, bQ, bR, eY, eZ, lM, rA, rB, Option.isSome_some, Option.isSome_none, lN, Int.reduceEq, beq_self_eq_true, cV, cW, fB, lU, fD, fG, fH, lV, lW, fJ, fK, fP, cA, bu, mD, mF, mH, mJ, gh, cH, cI, mO, gj, rO, ul, rP, rQ, rR, uU, uV, gJ, mW, oG, oV, iT, oW, gR, m9, nH, kY, lg, eV, kZ, lD, qR, lE, lF, qT, lG, lH, lJ, qU, qW, startF, ala, alc, alh, alm, alb, ald, ali, alk, alq, alr, alj, alf, alg, Nat.reduceAdd, Nat.reduceSub, Nat.reduceLeDiff, Nat.reduceLT, Nat.zero_add, and_true, true_and, and_self, false_and, and_false, not_true_eq_false, not_false_eq_true, eq_self, decide_true, decide_false, Bool.not_true, Bool.not_false, Bool.true_and, Bool.false_and, Bool.and_true, Bool.and_false, Bool.or_true, Bool.or_false, Bool.true_or, Bool.false_or, Option.map_some, Option.map_none, Int.toNat_natCast, ↓reduceIte, Bool.false_eq_true, reduceCtorEq, Int.cast_ofNat_Int, Int.reduceLT, Int.reduceLE, Int.reduceAdd, Int.reduceSub, Int.reduceNeg, Int.natCast_zero, qI, and_assoc, ↓aU, ↓BJ, ↓BK, ↓BL, ↓xV, ↓xW, ↓xX, ↓BP, ↓BR, ↓yU, ↓xY, ↓zQ, ↓JT, aD, aF, aV, aP, aK, aW, aG, aX, aQ, au, aM, aY, aZ]
   exact ⟨_, _, _, _, _, _, rfl⟩
 · rintro fr h' ⟨y6, y7, y8, y9, y10, y11, rfl⟩
   first | exact ⟨rfl, _, _, _, _, _, _, rfl⟩ | (simp only [↓oH, ↓nW, ↓wp_bind, ↓pq, ↓uE, ↓tM, ↓pA, ↓iV, ↓oM, ↓pB, ↓tD, ↓tE, ↓tO, ↓pC, ↓iW, ↓pD, ↓tQ, ↓iY, ↓iZ, ↓pF, ↓cX, ↓tR, ↓cY, ↓cZ, ↓pG, ↓pH, ↓jc, ↓tU, ↓qL, ↓je, ↓pJ, ↓tV, ↓iD, ↓jf, ↓jh, ↓oN, ↓pK, ↓ji, ↓oO, ↓pM, ↓pN, ↓jk, ↓iG, ↓uv, ↓iH, ↓dw, ↓bF, ↓dB, ↓pO, ↓jn, ↓jo, ↓jr, ↓jt, ↓ju, ↓jw, ↓jx, ↓bG, ↓jy, ↓jA, ↓jB, ↓kJ, ↓qP, ↓jC, ↓iI, ↓jD, ↓j5, ↓km, ↓kE, ↓iK, ↓iQ, ig, oZ, o5, oR, iz, uF, uG, ir, o7, oJ, o8, iU, o9, ph, oK, ou, oA, iw, oF, dC, jV, qH, jm, ↓lu, ↓lA, ↓eX, ↓qQ, ↓ug, ↓lB, ↓lC, ↓oY, ↓lK, ↓lL, ↓qX, ↓qY, ↓qZ, ↓rC, ↓lO, ↓fj, ↓uh, ↓fu, ↓lQ, ↓lX, ↓lY, ↓fL, ↓fM, ↓fO, ↓cC, ↓rF, ↓lZ, ↓fQ, ↓fU, ↓rG, ↓mG, ↓fV, ↓fX, ↓fY, ↓rH, ↓rJ, ↓rK, ↓rN, ↓mK, ↓fZ, ↓cD, ↓cG, ↓rW, ↓rY, ↓gq, ↓rZ, ↓mQ, ↓mU, ↓mV, ↓gA, ↓gG, ↓gH, ↓cJ, ↓mX, ↓gK, ↓sr, ↓gM, ↓gQ, ↓mY, ↓m7, ↓mZ, ↓ni, ↓nj, ↓gY, ↓nu, ↓gU, ↓cO, ↓su, ↓sE, ↓nA, ↓sG, jE, pZ, pP, tW, jF, qb, jG, fz_non, jH, qd, pQ, tX, pU, tY, jJ, qj, jK, ql, jL, qm, pW, tZ, pX, t7, pY, t8, il, nZ, oE, oh, dD, jM, iJ, nR, dF, qp, jN, nO, uK, uL, uN, uO, uP, uQ, uR, ue, nJ, tG, dG, dH, jO, dI, dJ, bH, dM, dN, bJ, dO, oU, qu, qw, qC, jP, jQ, dR, uf, jR, qD, jT, jU, qF, qG, tH, tK, dY, jW, dZ, bT, d8, bU, jX, d9, bV, eE, eG, jY, jZ, uJ, vD, vK, bY, bZ, eU, kW, eO, bW, qJ, qK, j6, eQ, j8, j9, kh, qO, j7, qM, qN, aln, alo, alp, ale, Int.reduceToNat, bK, bL, dU, bM, bO, dW, dX, bQ, bR, eY, eZ, lM, rA, rB, Option.isSome_some, Option.isSome_none, lN, Int.reduceEq, beq_self_eq_true, cV, cW, fB, lU, fD, fG, fH, lV, lW, fJ, fK, fP, cA, bu, mD, mF, mH, mJ, gh, cH, cI, mO, gj, rO, ul, rP, rQ, rR, uU, uV, gJ, mW, oG, oV, iT, oW, gR, m9, nH, kY, lg, eV, kZ, lD, qR, lE, lF, qT, lG, lH, lJ, qU, qW, startF, ala, alc, alh, alm, alb, ald, ali, alk, alq, alr, alj, alf, alg, Nat.reduceAdd, Nat.reduceSub, Nat.reduceLeDiff, Nat.reduceLT, Nat.zero_add, and_true, true_and, and_self, false_and, and_false, not_true_eq_false, not_false_eq_true, eq_self, decide_true, decide_false, Bool.not_true, Bool.not_false, Bool.true_and, Bool.false_and, Bool.and_true, Bool.and_false, Bool.or_true, Bool.or_false, Bool.true_or, Bool.false_or, Option.map_some, Option.map_none, Int.toNat_natCast, ↓reduceIte, Bool.false_eq_true, reduceCtorEq, Int.cast_ofNat_Int, Int.reduceLT, Int.reduceLE, Int.reduceAdd, Int.reduceSub, Int.reduceNeg, Int.natCast_zero, qI, and_assoc, ↓aU, ↓BJ, ↓BK, ↓BL, ↓xV, ↓xW, ↓xX, ↓BP, ↓BR, ↓yU, ↓xY, ↓zQ, ↓JT, aD, aF, aV, aP, aK, aW, aG, aX, aQ, au, aM, aY, aZ]; exact ⟨_, _, _, _, _, _, rfl⟩)
theorem body {q : Nat} (hq : q ≤ 62) (h : Hh) (x2 x3 x4 x5 x6 x7 x8 x9 x10 x11 : Option D) :
 Wp (Jl [some (.kl (ns.map .int)), some (.int (q : Int)), x2, x3, x4, x5, x6, x7, x8, x9, x10, x11] h) (fun f fr _ => (f = .nx ∨ f = .ct) ∧ ∃ x1 ys, fr = some (.kl (ns.map .int)) :: x1 :: ys ∧ ys.length = 12 - 2) wO := by
 obtain ⟨a, b, e1, b0, b1⟩ := aaV (h := h) (ns := ns) hq
 have S1 : Src (h ++ [.nl [.int a, .int b, .int 0]]) h.length 0 := ⟨a, b, 0, by rw [alE (Nat.le_refl _), Nat.sub_self]; rfl, b0, b1, by decide, by decide⟩
 obtain ⟨r, h2, e2, S2, r0, r1⟩ := Jq (m := 3) S1 (by omega) (by decide) (by decide)
 obtain ⟨n, hn⟩ : ∃ n : Nat, 2 + r = (n : Int) := ⟨(2 + r).toNat, by omega⟩
 have n2 : 2 ≤ n := by omega
 have n4 : n ≤ 4 := by omega
 obtain ⟨l, h3, e3, S3, hl, hi⟩ := acI (sz := n) S2 (by omega) n2 n4
 have lt : ∀ h : Hh, wI [l.ldD] h = .ok (.str l.txt) [] h := fun h => acJ hl
 obtain ⟨r4, e4⟩ := adE (h0 := h3) hl hi
 have e4' : xm [.cls 1, .str l.txt, .int (n : Int)] h3 = .ok (.no 1 [.int (n : Int), l.ndD]) [] (h3 ++ r4) := e4
 have vs : ∀ h : Hh, Bu [tm n l.ndD] h = .ok (.nl (BV n l)) [] h := fun h => Ye (h := h) (n := n) hl
 have fz1 : (D.no 1 [.int (n : Int), l.ndD]).fz = tm n l.ndD := rfl
 have vl := aaG l hl
 have ll : ∀ h : Hh, uW h (.nl (BV n l)) = some (.int (l.vars.length : Int)) := fun h => by
  show some (D.int (((BV n l).length : Nat) : Int)) = _
  unfold BV
  rw [alw]
 have sm : Oo (l.vars.length : Int) = true := aag (by omega) (by omega)
 have own : l.ldD.own = false := by cases l <;> rfl
 have fz : l.ldD.fz = l.ldD := by cases l <;> rfl
 obtain ⟨B8, hB8⟩ : ∃ B, B = Io := ⟨_, rfl⟩
 have k2 : Fp = az (cQ 4 (bD 1 0 Bu (aH []) (aa [(nQ (Zv 2 1 xm (aa [(nQ (bD 1 0 wI (aH []) (aa [(nQ (bD 2 0 zY (aH []) (aa [(ak 2), (ak 3)]) (aa [])))]) (aa []))), (ak 3)])))]) (aa []))) (zr (yO (iy uW (g8 4))) (wF 5) B8) := by rw [hB8]; rfl
 have fin : Wp (CV (wF 5) B8 (Jv 0 l.vars.length) [some (.kl (ns.map .int)), some (.int (q : Int)), some (.ref h.length), some (.int (n : Int)), some (.nl (BV n l)), x5, x6, x7, x8, x9, x10, x11] (h3 ++ r4)) (fun f fr _ => (f = .nx ∨ f = .ct) ∧ ∃ x1 ys, fr = some (.kl (ns.map .int)) :: x1 :: ys ∧ ys.length = 12 - 2) wO := by
  refine WK (fun j fr _ => ∃ y5 y6 y7 y8 y9 y10 y11, fr = [some (.kl (ns.map .int)), some (.int (q : Int)), some (.ref h.length), some (.int (n : Int)), some (.nl (BV n l)), y5, y6, y7, y8, y9, y10, y11]) ⟨_, _, _, _, _, _, _, rfl⟩ ?_ ?_
  · rintro j fr h' j0 j1 ⟨y5, y6, y7, y8, y9, y10, y11, rfl⟩
    obtain ⟨i, rfl⟩ : ∃ i : Nat, j = (i : Int) := ⟨j.toNat, by omega⟩
    have hi : i < l.vars.length := by omega
    have hv : l.vars[i]? = some l.vars[i] := alv hi
    have t := row (h := h') (n := n) (x0 := some (.kl (ns.map .int))) (x1 := some (.int (q : Int))) (x2 := some (.ref h.length)) (x3 := some (.int (n : Int))) (x6 := y6) (x7 := y7) (x8 := y8) (x9 := y9) (x10 := y10) (x11 := y11) hl hv hB8
    simp only [↓oH, ↓nW, ↓wp_bind, ↓pq, ↓uE, ↓tM, ↓pA, ↓iV, ↓oM, ↓pB, ↓tD, ↓tE, ↓tO, ↓pC, ↓iW, ↓pD, ↓tQ, ↓iY, ↓iZ, ↓pF, ↓cX, ↓tR, ↓cY, ↓cZ, ↓pG, ↓pH, ↓jc, ↓tU, ↓qL, ↓je, ↓pJ, ↓tV, ↓iD, ↓jf, ↓jh, ↓oN, ↓pK, ↓ji, ↓oO, ↓pM, ↓pN, ↓jk, ↓iG, ↓uv, ↓iH, ↓dw, ↓bF, ↓dB, ↓pO, ↓jn, ↓jo, ↓jr, ↓jt, ↓ju, ↓jw, ↓jx, ↓bG, ↓jy, ↓jA, ↓jB, ↓kJ, ↓qP, ↓jC, ↓iI, ↓jD, ↓j5, ↓km, ↓kE, ↓iK, ↓iQ, ig, oZ, o5, oR, iz, uF, uG, ir, o7, oJ, o8, iU, o9, ph, oK, ou, oA, iw, oF, dC, jV, qH, jm, ↓lu, ↓lA, ↓eX, ↓qQ, ↓ug, ↓lB, ↓lC, ↓oY, ↓lK, ↓lL, ↓qX, ↓qY, ↓qZ, ↓rC, ↓lO, ↓fj, ↓uh, ↓fu, ↓lQ, ↓lX, ↓lY, ↓fL, ↓fM, ↓fO, ↓cC, ↓rF, ↓lZ, ↓fQ, ↓fU, ↓rG, ↓mG, ↓fV, ↓fX, ↓fY, ↓rH, ↓rJ, ↓rK, ↓rN, ↓mK, ↓fZ, ↓cD, ↓cG, ↓rW, ↓rY, ↓gq, ↓rZ, ↓mQ, ↓mU, ↓mV, ↓gA, ↓gG, ↓gH, ↓cJ, ↓mX, ↓gK, ↓sr, ↓gM, ↓gQ, ↓mY, ↓m7, ↓mZ, ↓ni, ↓nj, ↓gY, ↓nu, ↓gU, ↓cO, ↓su, ↓sE, ↓nA, ↓sG, jE, pZ, pP, tW, jF, qb, jG, fz_non, jH, qd, pQ, tX, pU, tY, jJ, qj, jK, ql, jL, qm, pW, tZ, pX, t7, pY, t8, il, nZ, oE, oh, dD, jM, iJ, nR, dF, qp, jN, nO, uK, uL, uN, uO, uP, uQ, uR, ue, nJ, tG, dG, dH, jO, dI, dJ, bH, dM, dN, bJ, dO, oU, qu, qw, qC, jP, jQ, dR, uf, jR, qD, jT, jU, qF, qG, tH, tK, dY, jW, dZ, bT, d8, bU, jX, d9, bV, eE, eG, jY, jZ, uJ, vD, vK, bY, bZ, eU, kW, eO, bW, qJ, qK, j6, eQ, j8, j9, kh, qO, j7, qM, qN, aln, alo, alp, ale, Int.reduceToNat, bK, bL, dU, bM, bO, dW, dX, bQ, bR, eY, eZ, lM, rA, rB, Option.isSome_some, Option.isSome_none, lN, Int.reduceEq, beq_self_eq_true, cV, cW, fB, lU, fD, fG, fH, lV, lW, fJ, fK, fP, cA, bu, mD, mF, mH, mJ, gh, cH, cI, mO, gj, rO, ul, rP, rQ, rR, uU, uV, gJ, mW, oG, oV, iT, oW, gR, m9, nH, kY, lg, eV, kZ, lD, qR, lE, lF, qT, lG, lH, lJ, qU, qW, startF, ala, alc, alh, alm, alb, ald, ali, alk, alq, alr, alj, alf, alg, Nat.reduceAdd, Nat.reduceSub, Nat.reduceLeDiff, Nat.reduceLT, Nat.zero_add, and_true, true_and, and_self, false_and, and_false, not_true_eq_false, not_false_eq_true, eq_self, decide_true, decide_false, Bool.not_true, Bool.not_false, Bool.true_and, Bool.false_and, Bool.and_true, Bool.and_false, Bool.or_true, Bool.or_false, Bool.true_or, Bool.false_or, Option.map_some, Option.map_none, Int.toNat_natCast, ↓reduceIte, Bool.false_eq_true, reduceCtorEq, Int.cast_ofNat_Int, Int.reduceLT, Int.reduceLE, Int.reduceAdd, Int.reduceSub, Int.reduceNeg, Int.natCast_zero, qI, and_assoc, ↓Jz, ↓JB, ↓JC, ↓Oj, ↓Hg, ↓Cv, ↓Cy, ↓Gu, ↓xN, ↓xO, ↓xP, ↓xQ, ↓xR, ↓Aa, ↓aU, ↓BJ, ↓BK, ↓BL, ↓xV, ↓xW, ↓xX, ↓BP, ↓BR, ↓yU, ↓xY, ↓zQ, ↓JT, aD, aF, aV, aP, aK, aW, aG, aX, aQ, au, aM, aY, aZ]
    refine Wp.mono t ?_
    rintro f fr h'' ⟨rfl, z6, z7, z8, z9, z10, z11, rfl⟩
    simp only [↓oH, ↓nW, ↓wp_bind, ↓pq, ↓uE, ↓tM, ↓pA, ↓iV, ↓oM, ↓pB, ↓tD, ↓tE, ↓tO, ↓pC, ↓iW, ↓pD, ↓tQ, ↓iY, ↓iZ, ↓pF, ↓cX, ↓tR, ↓cY, ↓cZ, ↓pG, ↓pH, ↓jc, ↓tU, ↓qL, ↓je, ↓pJ, ↓tV, ↓iD, ↓jf, ↓jh, ↓oN, ↓pK, ↓ji, ↓oO, ↓pM, ↓pN, ↓jk, ↓iG, ↓uv, ↓iH, ↓dw, ↓bF, ↓dB, ↓pO, ↓jn, ↓jo, ↓jr, ↓jt, ↓ju, ↓jw, ↓jx, ↓bG, ↓jy, ↓jA, ↓jB, ↓kJ, ↓qP, ↓jC, ↓iI, ↓jD, ↓j5, ↓km, ↓kE, ↓iK, ↓iQ, ig, oZ, o5, oR, iz, uF, uG, ir, o7, oJ, o8, iU, o9, ph, oK, ou, oA, iw, oF, dC, jV, qH, jm, ↓lu, ↓lA, ↓eX, ↓qQ, ↓ug, ↓lB, ↓lC, ↓oY, ↓lK, ↓lL, ↓qX, ↓qY, ↓qZ, ↓rC, ↓lO, ↓fj, ↓uh, ↓fu, ↓lQ, ↓lX, ↓lY, ↓fL, ↓fM, ↓fO, ↓cC, ↓rF, ↓lZ, ↓fQ, ↓fU, ↓rG, ↓mG, ↓fV, ↓fX, ↓fY, ↓rH, ↓rJ, ↓rK, ↓rN, ↓mK, ↓fZ, ↓cD, ↓cG, ↓rW, ↓rY, ↓gq, ↓rZ, ↓mQ, ↓mU, ↓mV, ↓gA, ↓gG, ↓gH, ↓cJ, ↓mX, ↓gK, ↓sr, ↓gM, ↓gQ, ↓mY, ↓m7, ↓mZ, ↓ni, ↓nj, ↓gY, ↓nu, ↓gU, ↓cO, ↓su, ↓sE, ↓nA, ↓sG, jE, pZ, pP, tW, jF, qb, jG, fz_non, jH, qd, pQ, tX, pU, tY, jJ, qj, jK, ql, jL, qm, pW, tZ, pX, t7, pY, t8, il, nZ, oE, oh, dD, jM, iJ, nR, dF, qp, jN, nO, uK, uL, uN, uO, uP, uQ, uR, ue, nJ, tG, dG, dH, jO, dI, dJ, bH, dM, dN, bJ, dO, oU, qu, qw, qC, jP, jQ, dR, uf, jR, qD, jT, jU, qF, qG, tH, tK, dY, jW, dZ, bT, d8, bU, jX, d9, bV, eE, eG, jY, jZ, uJ, vD, vK, bY, bZ, eU, kW, eO, bW, qJ, qK, j6, eQ, j8, j9, kh, qO, j7, qM, qN, aln, alo, alp, ale, Int.reduceToNat, bK, bL, dU, bM, bO, dW, dX, bQ, bR, eY, eZ, lM, rA, rB, Option.isSome_some, Option.isSome_none, lN, Int.reduceEq, beq_self_eq_true, cV, cW, fB, lU, fD, fG, fH, lV, lW, fJ, fK, fP, cA, bu, mD, mF, mH, mJ, gh, cH, cI, mO, gj, rO, ul, rP, rQ, rR, uU, uV, gJ, mW, oG, oV, iT, oW, gR, m9, nH, kY, lg, eV, kZ, lD, qR, lE, lF, qT, lG, lH, lJ, qU, qW, startF, ala, alc, alh, alm, alb, ald, ali, alk, alq, alr, alj, alf, alg, Nat.reduceAdd, Nat.reduceSub, Nat.reduceLeDiff, Nat.reduceLT, Nat.zero_add, and_true, true_and, and_self, false_and, and_false, not_true_eq_false, not_false_eq_true, eq_self, decide_true, decide_false, Bool.not_true, Bool.not_false, Bool.true_and, Bool.false_and, Bool.and_true, Bool.and_false, Bool.or_true, Bool.or_false, Bool.true_or, Bool.false_or, Option.map_some, Option.map_none, Int.toNat_natCast, ↓reduceIte, Bool.false_eq_true, reduceCtorEq, Int.cast_ofNat_Int, Int.reduceLT, Int.reduceLE, Int.reduceAdd, Int.reduceSub, Int.reduceNeg, Int.natCast_zero, qI, and_assoc, ↓Jz, ↓JB, ↓JC, ↓Oj, ↓Hg, ↓Cv, ↓Cy, ↓Gu, ↓xN, ↓xO, ↓xP, ↓xQ, ↓xR, ↓Aa, ↓aU, ↓BJ, ↓BK, ↓BL, ↓xV, ↓xW, ↓xX, ↓BP, ↓BR, ↓yU, ↓xY, ↓zQ, ↓JT, aD, aF, aV, aP, aK, aW, aG, aX, aQ, au, aM, aY, aZ]
    exact ⟨_, _, _, _, _, _, _, rfl⟩
  · rintro fr h' ⟨y5, y6, y7, y8, y9, y10, y11, rfl⟩
    exact ⟨.inl rfl, _, _, rfl, rfl⟩
 generalize BV n l = TR at *
 generalize tm n l.ndD = TL0 at *
 generalize l.ldD = LD at *
 simp only [↓oH, ↓nW, ↓wp_bind, ↓pq, ↓uE, ↓tM, ↓pA, ↓iV, ↓oM, ↓pB, ↓tD, ↓tE, ↓tO, ↓pC, ↓iW, ↓pD, ↓tQ, ↓iY, ↓iZ, ↓pF, ↓cX, ↓tR, ↓cY, ↓cZ, ↓pG, ↓pH, ↓jc, ↓tU, ↓qL, ↓je, ↓pJ, ↓tV, ↓iD, ↓jf, ↓jh, ↓oN, ↓pK, ↓ji, ↓oO, ↓pM, ↓pN, ↓jk, ↓iG, ↓uv, ↓iH, ↓dw, ↓bF, ↓dB, ↓pO, ↓jn, ↓jo, ↓jr, ↓jt, ↓ju, ↓jw, ↓jx, ↓bG, ↓jy, ↓jA, ↓jB, ↓kJ, ↓qP, ↓jC, ↓iI, ↓jD, ↓j5, ↓km, ↓kE, ↓iK, ↓iQ, ig, oZ, o5, oR, iz, uF, uG, ir, o7, oJ, o8, iU, o9, ph, oK, ou, oA, iw, oF, dC, jV, qH, jm, ↓lu, ↓lA, ↓eX, ↓qQ, ↓ug, ↓lB, ↓lC, ↓oY, ↓lK, ↓lL, ↓qX, ↓qY, ↓qZ, ↓rC, ↓lO, ↓fj, ↓uh, ↓fu, ↓lQ, ↓lX, ↓lY, ↓fL, ↓fM, ↓fO, ↓cC, ↓rF, ↓lZ, ↓fQ, ↓fU, ↓rG, ↓mG, ↓fV, ↓fX, ↓fY, ↓rH, ↓rJ, ↓rK, ↓rN, ↓mK, ↓fZ, ↓cD, ↓cG, ↓rW, ↓rY, ↓gq, ↓rZ, ↓mQ, ↓mU, ↓mV, ↓gA, ↓gG, ↓gH, ↓cJ, ↓mX, ↓gK, ↓sr, ↓gM, ↓gQ, ↓mY, ↓m7, ↓mZ, ↓ni, ↓nj, ↓gY, ↓nu, ↓gU, ↓cO, ↓su, ↓sE, ↓nA, ↓sG, jE, pZ, pP, tW, jF, qb, jG, fz_non, jH, qd, pQ, tX, pU, tY, jJ, qj, jK, ql, jL, qm, pW, tZ, pX, t7, pY, t8, il, nZ, oE, oh, dD, jM, iJ, dF, qp, jN, nO, uK, uL, uN, uO, uP, uQ, uR, ue, nJ, tG, dG, dH, jO, dI, dJ, bH, dM, dN, bJ, dO, oU, qu, qw, qC, jP, jQ, dR, uf, jR, qD, jT, jU, qF, qG, tH, tK, dY, jW, dZ, bT, d8, bU, jX, d9, bV, eE, eG, jY, jZ, uJ, vD, vK, bY, bZ, eU, kW, eO, bW, qJ, qK, j6, eQ, j8, j9, kh, qO, j7, qM, qN, aln, alo, alp, ale, Int.reduceToNat, bK, bL, dU, bM, bO, dW, dX, bQ, bR, eY, eZ, lM, rA, rB, Option.isSome_some, Option.isSome_none, lN, Int.reduceEq, beq_self_eq_true, cV, cW, fB, lU, fD, fG, fH, lV, lW, fJ, fK, fP, cA, bu, mD, mF, mH, mJ, gh, cH, cI, mO, gj, rO, ul, rP, rQ, rR, uU, uV, gJ, mW, oG, oV, iT, oW, gR, m9, nH, kY, lg, eV, kZ, lD, qR, lE, lF, qT, lG, lH, lJ, qU, qW, startF, ala, alc, alh, alm, alb, ald, ali, alk, alq, alr, alj, alf, alg, Nat.reduceAdd, Nat.reduceSub, Nat.reduceLeDiff, Nat.reduceLT, Nat.zero_add, and_true, true_and, and_self, false_and, and_false, not_true_eq_false, not_false_eq_true, eq_self, decide_true, decide_false, Bool.not_true, Bool.not_false, Bool.true_and, Bool.false_and, Bool.and_true, Bool.and_false, Bool.or_true, Bool.or_false, Bool.true_or, Bool.false_or, Option.map_some, Option.map_none, Int.toNat_natCast, ↓reduceIte, Bool.false_eq_true, reduceCtorEq, Int.cast_ofNat_Int, Int.reduceLT, Int.reduceLE, Int.reduceAdd, Int.reduceSub, Int.reduceNeg, Int.natCast_zero, qI, and_assoc, ↓Jz, ↓JB, ↓JC, ↓Oj, ↓Hg, ↓Cv, ↓Cy, ↓Gu, ↓xN, ↓xO, ↓xP, ↓xQ, ↓xR, ↓Aa, ↓aU, ↓BJ, ↓BK, ↓BL, ↓xV, ↓xW, ↓xX, ↓BP, ↓BR, ↓xY, ↓zQ, ↓JT, aD, aF, aV, aP, aK, aW, aG, aX, aQ, au, aM, aY, aZ, k2, e1, e2, hn, e3, lt, own, fz, e4', fz1, vs, ll, sm]
 exact fin
theorem plain (ns : List Int) (hl : ns.length ≤ 63) : ∃ fr h, acx [.kl (ns.map Pk.D.int)] [] = .ok (.bl true) fr h := by
 unfold acx Vv
 refine agi (by decide) (by decide) (by decide) fun k xs h hk hx => ?_
 match xs, hx with
 | [x2, x3, x4, x5, x6, x7, x8, x9, x10, x11], _ => exact body (by omega) h x2 x3 x4 x5 x6 x7 x8 x9 x10 x11
end
end L
namespace L
open PySem PySem.Spec PyProof.Rows L2
theorem facts {P : Program} {w : World} {K : PySem.W.Frag} {h : Heap} {mg : Str → Option Value} {f : Addr} (X : K.In h) (G : h.Ns mainGlobals mg) (hfa : mg ("law" : Str) = some (.ref f)) (c : bB K) :
 ∃ fd : FuncData, (∀ (s : Shared) (v : Value), BindsTo s fd ⟨[v], []⟩ [("_law_script", v)]) ∧ ∀ base : Heap, K.In base → base.Ns mainGlobals mg → FnOk P w K mg base (L2.CX P w) 11 f fd ["_law_script"] (Pk.spF K (T K) 1 acx) := by
 obtain ⟨fd, F⟩ := c.def_ (fn.length - 1) (d := afh) rfl
 have e := hfa.symm.trans (He.glo_ok X G (c.fact (fa.length - 1) (f := .he (.glo "law")) rfl))
 cases e
 have b := FunD.bindsA (ps := ["_law_script"]) F fun _ _ _ _ _ _ us hl => match us, hl with | [_], _ => rfl
 exact ⟨fd, fun s v => b s [v] rfl, fun base Y Gb => Pk.fn_sim F ag5 (aeT c Y Gb)⟩
end L
open PySem PySem.W PySem.Calls PyProof.Rows
theorem PySem.Challenge.cw_countrestarts_k79_distances_holds : PySem.Challenge.rw_countrestarts_k79_distances.Holds := by
 w_on; o_law
 refine HandSHeadRun.head_any (r := OpenLaw.row PySem.Challenge.rw_countrestarts_k79_distances) (q := L.vw) (H := L.hk) (ob := L.ob) (M := 20000) (loose := L.names) (d := HandSHeadRun.topDef (OpenLaw.row PySem.Challenge.rw_countrestarts_k79_distances).prog 55) (kwd := []) L.ob_eq
  (by kernel_rfl) (fun s => by kernel_rfl) L.run (by kernel_rfl) (by kernel_rfl) (by kernel_rfl) (by rfl) (by first | assumption | decide +kernel) (by decide +kernel) ⟨rfl, rfl, rfl, rfl, rfl, by decide +kernel⟩ ?hw ?hc
 case hw => w_witness2
 case hc =>
  refine L2.walk_ofE (l := PySem.Challenge.rw_countrestarts_k79_distances) (n := 63) (k := 11) (x := "_law_script") (CX := L2.CX0) rfl (by decide) (by kernel_rfl) ⟨rfl, by decide, by decide⟩ ?F (fun _ _ _ _ z => z)
  intro w mg fa h Y G hmg0
  obtain ⟨K, KX, c⟩ := Y
  have hmg : mg ("law" : PySem.Str) = some (.ref fa) := by
   have e : (HandSHeadRun.topDef (OpenLaw.row PySem.Challenge.rw_countrestarts_k79_distances).prog 55).name = ("law" : PySem.Str) := by kernel_rfl
   rw [← e]
   exact hmg0
  obtain ⟨fd, hb, hF⟩ := L.facts (P := (PySem.Challenge.rw_countrestarts_k79_distances).prog) (w := w) KX G hmg c
  exact ⟨K, fd, _, KX, hb, fun H a ns hl _ hS => (let ⟨fr, h, e⟩ := L.plain ns hl; Pk.law_sp hS e), fun base Y Gb => Pk.fn_cx0 (hF base Y Gb)⟩
