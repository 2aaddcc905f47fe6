import PyProof.Rows.All
import Wide.All
import OpenK.AllK
import Wide.FinOn
import HandS.ForMost
import HandS.Exc
import HandS.IsInst
import HandS.Wide
import HandS.TupAny
import HandS.Conv
import HandS.Deep
import HandS.Property
import HandS.MakeKwOnly
import HandS.SortInts
import HandS.RaiseMore
import HandS.Style
import HandS.Zip
import HandS.CallSlots
import HandS.Defaults
import HandS.HeadHook1
import HandS.HeadHook2
import HandS.HeadHook3
import HandS.HeadHook4
import HandS.HeadEnd
import HandS.ExcIs
import HandS.ExcField
import KE.GoesMore
import PyProof.EnumMake
import PyProof.EnumFor
import HandS.Iter
import HandS.Star
import KE.KExcSuper
import KE.KSuper
import HandS.ExcInit
import KE.KExcIs
import HandS.TryOnly
import HandS.TryMany
import HandS.ClsMeth
import KE.KStateDown
import HandS.Head0
import HandS.Head1
import HandS.Head2
import PySem.Challenge.RW_countrestarts_k16_subsets
import HandS.OwnEq
import PyProof.CallFns
import HandS.FStr
import PyProof.Rows.StrWeight2
import PyProof.Rows.StrSplitJoin
import PyProof.Rows.StrFin3
import HandS.ExcOwn
import KE.GoesSet
import HandS.Strs
import KE.KTupSum
import PyProof.Rows.RuleN_abs
import KE.KOpsOwn
import KE.KMethU
import HandS.Dict
import HandS.Flow
import HandS.MethStar
import HandS.GenList
import HandS.GenYield
import KE.GoesZip
import KE.GoesEnum
import HandS.GenCall
import KE.SortData
import KE.SortLaws
set_option Elab.async false
set_option linter.all false
set_option maxRecDepth 100000
set_option maxHeartbeats 40000000
set_option autoImplicit false
open List renaming lookup → Ww, getElem?_eq_getElem → Wx, getElem?_set_ne → Wy, getElem?_set_self → Wz, length_set → WD, mem_cons_self → WK, mem_of_getElem? → WL, append_nil → WN, map_cons → WP, mem_cons_of_mem → WQ, length_map → WR, length_append → WY, length_cons → W0, getElem?_map → W3, mem_append_right → W4
namespace Pk
open PySem PySem.Spec L2
inductive D where
 | non | bl (b : Bool) | int (i : Int) | str (s : Str)
 | tup (l : List D) | fl (l : List D) | nl (l : List D) | kl (l : List D)
 | obj (c : Nat) (fs : List D) | no (c : Nat) (fs : List D) | ref (n : Nat) | cls (c : Nat) | ty (t : String)
 | sl (lo hi : Option Int)
 /-- a dict with tuples for keys, in a cell: its keys, its values -/
 | dc (ks : List (List (Sum Int Str))) (ds : List D)
 deriving Inhabited
def D.own : D → Bool
 | .nl _ => true
 | .no _ _ => true
 | _ => false
def D.fz : D → D
 | .nl l => .fl l
 | .no c fs => .obj c fs
 | d => d
abbrev Fr := List (Option D)
abbrev Hh := List D
structure Tb where
 cad : Nat → Addr
 fld : Nat → List Str
structure Wd where
 F : Hp
 I : List Addr
def Wd.le (w w' : Wd) : Prop := (∀ a o, w.F a = some o → w'.F a = some o) ∧ ∃ r, w'.I = w.I ++ r
theorem Wd.le_refl (w : Wd) : w.le w := ⟨fun _ _ h => h, [], by simp⟩
theorem Wd.le_trans {a b c : Wd} (x : a.le b) (y : b.le c) : a.le c :=
 ⟨fun p o h => y.1 p o (x.1 p o h), by
  obtain ⟨r, e⟩ := x.2
  obtain ⟨q, f⟩ := y.2
  exact ⟨r ++ q, by rw [f, e, List.append_assoc]⟩⟩
theorem Wd.le_at {w w' : Wd} (x : w.le w') {n : Nat} {a : Addr} (h : w.I[n]? = some a) : w'.I[n]? = some a := by
 obtain ⟨r, e⟩ := x.2
 rw [e, List.getElem?_append_left (List.getElem?_eq_some_iff.mp h).1]
 exact h
theorem Wd.le_mem {w w' : Wd} (x : w.le w') {a : Addr} (h : a ∈ w.I) : a ∈ w'.I := by
 obtain ⟨r, e⟩ := x.2
 rw [e]
 exact List.mem_append_left _ h
theorem Hn {F F' : Hp} (x : ∀ a o, F a = some o → F' a = some o) {a : Addr} {u : HO} (h : Rd F a u) : Rd F' a u := by
 rcases h with h | ⟨o, h⟩
 · exact .inl (x _ _ h)
 · exact .inr ⟨o, x _ _ h⟩
theorem bU {K : PySem.W.Frag} {F F' : Hp} (x : ∀ a o, F a = some o → F' a = some o) {a : Addr} {vs : List V} (h : SqL K F a vs) : SqL K F' a vs := by
 rcases h with h | h
 · exact .inl (Hn x h)
 · exact .inr h
theorem aV {K : PySem.W.Frag} {F F' : Hp} (x : ∀ a o, F a = some o → F' a = some o) {a : Addr} {vs : List V} (h : SqT K F a vs) : SqT K F' a vs := by
 rcases h with h | h
 · exact .inl (Hn x h)
 · exact .inr h
def SlO (a : Addr) (lo hi : Option Int) (h : Heap) : Prop := ∃ vl vu, h.IsSliceOf a vl vu .none ∧ IsPart vl lo ∧ IsPart vu hi
mutual
inductive aA (K : PySem.W.Frag) (T : Tb) (w : Wd) : V → D → Prop where
 | non : aA K T w .non .non
 | bl (b : Bool) : aA K T w (.bl b) (.bl b)
 | int (i : Int) : aA K T w (.int i) (.int i)
 | str (s : Str) : aA K T w (.str s) (.str s)
 | tup {a : Addr} {vs : List V} {ds : List D} : SqT K w.F a vs → aa K T w vs ds → aA K T w (.ref a) (.tup ds)
 | fl {a : Addr} {vs : List V} {ds : List D} : w.F a = some (.lst vs) → aa K T w vs ds → aA K T w (.ref a) (.fl ds)
 | kl {a : Addr} {vs : List V} {ds : List D} : SqL K w.F a vs → aa K T w vs ds → aA K T w (.ref a) (.kl ds)
 | obj {a dx : Addr} {c : Nat} {vs : List V} {ds : List D} : w.F a = some (.ins (T.cad c) dx ((T.fld c).zip vs)) → aa K T w vs ds → aA K T w (.ref a) (.obj c ds)
 | ref {a : Addr} {n : Nat} : w.I[n]? = some a → aA K T w (.ref a) (.ref n)
 | cls (c : Nat) : aA K T w (.ref (T.cad c)) (.cls c)
 | ty (t : String) : aA K T w (.ty t) (.ty t)
 | sl {a : Addr} {lo hi : Option Int} : w.F a = some (.ext (SlO a lo hi)) → aA K T w (.ref a) (.sl lo hi)
inductive aa (K : PySem.W.Frag) (T : Tb) (w : Wd) : List V → List D → Prop where
 | nil : aa K T w [] []
 | cons {v : V} {d : D} {vs : List V} {ds : List D} : aA K T w v d → aa K T w vs ds → aa K T w (v :: vs) (d :: ds)
end
section
variable {K : PySem.W.Frag} {T : Tb} {w w' : Wd}
mutual
theorem aA.mono (x : w.le w') : ∀ {v : V} {d : D}, aA K T w v d → aA K T w' v d
 | _, _, .non => .non
 | _, _, .bl b => .bl b
 | _, _, .int i => .int i
 | _, _, .str s => .str s
 | _, _, .tup h t => .tup (aV x.1 h) (aa.mono x t)
 | _, _, .fl h t => .fl (x.1 _ _ h) (aa.mono x t)
 | _, _, .kl h t => .kl (bU x.1 h) (aa.mono x t)
 | _, _, .obj h t => .obj (x.1 _ _ h) (aa.mono x t)
 | _, _, .ref h => .ref (Wd.le_at x h)
 | _, _, .cls c => .cls c
 | _, _, .ty t => .ty t
 | _, _, .sl h => .sl (x.1 _ _ h)
theorem aa.mono (x : w.le w') : ∀ {vs : List V} {ds : List D}, aa K T w vs ds → aa K T w' vs ds
 | _, _, .nil => .nil
 | _, _, .cons h t => .cons (aA.mono x h) (aa.mono x t)
end
theorem aa.length : ∀ {vs : List V} {ds : List D}, aa K T w vs ds → vs.length = ds.length
 | _, _, .nil => rfl
 | _, _, .cons _ t => congrArg Nat.succ (aa.length t)
theorem aa.get : ∀ {vs : List V} {ds : List D} {i : Nat} {d : D}, aa K T w vs ds → ds[i]? = some d → ∃ v, vs[i]? = some v ∧ aA K T w v d
 | _, _, _, _, .nil, e => by simp at e
 | _, _, 0, _, .cons h _, e => by
   simp at e
   subst e
   exact ⟨_, rfl, h⟩
 | _, _, i + 1, d, .cons _ t, e => by
   obtain ⟨v, h1, h2⟩ := aa.get (i := i) (d := d) t (by simpa using e)
   exact ⟨v, by simpa using h1, h2⟩
theorem aa.append : ∀ {vs us : List V} {ds es : List D}, aa K T w vs ds → aa K T w us es → aa K T w (vs ++ us) (ds ++ es)
 | _, _, _, _, .nil, t => t
 | _, _, _, _, .cons h r, t => .cons h (aa.append r t)
theorem aa.drop : ∀ {vs : List V} {ds : List D} (n : Nat), aa K T w vs ds → aa K T w (vs.drop n) (ds.drop n)
 | _, _, 0, h => h
 | _, _, _ + 1, .nil => .nil
 | _, _, n + 1, .cons _ t => aa.drop n t
theorem aa.take : ∀ {vs : List V} {ds : List D} (n : Nat), aa K T w vs ds → aa K T w (vs.take n) (ds.take n)
 | _, _, 0, _ => .nil
 | _, _, _ + 1, .nil => .nil
 | _, _, n + 1, .cons h t => .cons h (aa.take n t)
theorem aa.set : ∀ {vs : List V} {ds : List D} {v : V} {d : D} (n : Nat), aa K T w vs ds → aA K T w v d → aa K T w (vs.set n v) (ds.set n d)
 | _, _, _, _, _, .nil, _ => .nil
 | _, _, _, _, 0, .cons _ t, h => .cons h t
 | _, _, _, _, n + 1, .cons h t, k => .cons h (aa.set n t k)
theorem aa.ints : ∀ {vs : List V} {is : List Int}, aa K T w vs (is.map D.int) → vs = is.map V.int
 | _, [], .nil => rfl
 | _, i :: is, .cons h t => by
   cases h
   rw [aa.ints t]
   rfl
end
structure Bs where
 w0 : Wd
 H0 : Hp
 P : List (Addr × HO)
 /-- where an __init__'s own instance is: in slot 0, as long as that holds an object of the body's own -/
 me : Option Addr
abbrev Bs.of (w : Wd) (H : Hp) : Bs := ⟨w, H, [], none⟩
structure Own (B : Bs) (w : Wd) (p : Addr) : Prop where
 f : w.F p = none
 i : p ∉ w.I
 e : B.H0 p = none
 p : ∀ q ∈ B.P, q.1 ≠ p
inductive di (K : PySem.W.Frag) (T : Tb) (w : Wd) : HO → D → Prop where
 | lst {vs : List V} {ds : List D} : aa K T w vs ds → di K T w (.lst vs) (.nl ds)
 | obj {dx : Addr} {c : Nat} {vs : List V} {ds : List D} : aa K T w vs ds → di K T w (.ins (T.cad c) dx ((T.fld c).zip vs)) (.no c ds)
theorem di.own {K : PySem.W.Frag} {T : Tb} {w : Wd} {o : HO} {d : D} (x : di K T w o d) : d.own = true := by
 cases x <;> rfl
theorem di.mono {K : PySem.W.Frag} {T : Tb} {w w' : Wd} {o : HO} {d : D} (l : w.le w') (x : di K T w o d) : di K T w' o d := by
 cases x with
 | lst r => exact .lst (r.mono l)
 | obj r => exact .obj (r.mono l)
theorem di.fz {K : PySem.W.Frag} {T : Tb} {w w' : Wd} {o : HO} {d : D} {p : Addr} (l : w.le w') (e : w'.F p = some o) (x : di K T w o d) : aA K T w' (.ref p) d.fz := by
 cases x with
 | lst r => exact .fl e (r.mono l)
 | obj r => exact .obj e (r.mono l)
theorem mZ {K : PySem.W.Frag} {T : Tb} {w : Wd} {v : V} {d : D} (r : aA K T w v d) : d.own = false := by
 cases r <;> rfl
theorem Iv {K : PySem.W.Frag} {T : Tb} {w : Wd} {v : V} {d : D} (r : aA K T w v d) : d.fz = d := by
 cases r <;> rfl
theorem gJ {K : PySem.W.Frag} {T : Tb} {w : Wd} {v : V} {d : D} (o : d.own = true) (r : aA K T w v d) : False := by
 rw [mZ r] at o
 cases o
theorem CV (d : D) : d.fz.own = false := by
 cases d <;> rfl
inductive m7 (K : PySem.W.Frag) (T : Tb) (B : Bs) (w : Wd) (H : Hp) : Option V → Option D → Prop where
 | none {v : Option V} : m7 K T B w H v none
 | val {v : V} {d : D} : aA K T w v d → m7 K T B w H (some v) (some d)
 | own {p : Addr} {o : HO} {d : D} : Own B w p → H p = some o → di K T w o d → m7 K T B w H (some (.ref p)) (some d)
inductive lJ (K : PySem.W.Frag) (T : Tb) (w : Wd) : HO → D → Prop where
 | lst {vs : List V} {ds : List D} : aa K T w vs ds → lJ K T w (.lst vs) (.nl ds)
 | obj {dx : Addr} {c : Nat} {vs : List V} {ds : List D} : aa K T w vs ds → lJ K T w (.ins (T.cad c) dx ((T.fld c).zip vs)) (.no c ds)
 | dct {ks : List (List Key)} {vs : List V} {ds : List D} : ks.length = ds.length → aa K T w vs ds → lJ K T w (.dT (ks.zip vs)) (.dc ks ds)
theorem di.cel {K : PySem.W.Frag} {T : Tb} {w : Wd} {o : HO} {d : D} (x : di K T w o d) : lJ K T w o d := by
 cases x with
 | lst r => exact .lst r
 | obj r => exact .obj r
theorem lJ.mono {K : PySem.W.Frag} {T : Tb} {w w' : Wd} {o : HO} {d : D} (l : w.le w') (x : lJ K T w o d) : lJ K T w' o d := by
 cases x with
 | lst r => exact .lst (r.mono l)
 | obj r => exact .obj (r.mono l)
 | dct h r => exact .dct h (r.mono l)
def lK (K : PySem.W.Frag) (T : Tb) (w : Wd) (H : Hp) (a : Addr) (d : D) : Prop := ∃ o, H a = some o ∧ lJ K T w o d
def fX (σ : St) (fr : Fr) (i : Nat) (p : Addr) : Prop := σ[i]? = some (some (.ref p)) ∧ ∃ d, fr[i]? = some (some d) ∧ d.own = true
structure Rel (K : PySem.W.Frag) (T : Tb) (B : Bs) (w : Wd) (σ : St) (H : Hp) (fr : Fr) (h : Hh) : Prop where
 le : B.w0.le w
 nF : ∀ a, w.F a ≠ none → B.w0.F a ≠ none ∨ B.H0 a = none
 nI : ∀ a ∈ w.I, a ∈ B.w0.I ∨ B.H0 a = none
 keep : ∀ a o, B.H0 a = some o → a ∉ B.w0.I → H a = some o
 prot : ∀ q ∈ B.P, H q.1 = some q.2 ∧ w.F q.1 = none ∧ q.1 ∉ w.I
 sub : ∀ a o, w.F a = some o → H a = some o
 len : w.I.length = h.length
 nd : w.I.Nodup
 dis : ∀ a ∈ w.I, w.F a = none
 cel : ∀ (n : Nat) a c, w.I[n]? = some a → h[n]? = some c → lK K T w H a c
 fl : fr.length = σ.length
 sl : ∀ (i : Nat) s d, σ[i]? = some s → fr[i]? = some d → m7 K T B w H s d
 sep : ∀ i j p, i ≠ j → fX σ fr i p → fX σ fr j p → False
 me : ∀ x d, B.me = some x → fr[0]? = some (some d) → d.own = true → σ[0]? = some (some (.ref x))
section
variable {K : PySem.W.Frag} {T : Tb} {B : Bs} {w w' : Wd} {σ : St} {H H' : Hp} {fr : Fr} {h : Hh}
theorem Rel.nP (R : Rel K T B w σ H fr h) {p : Addr} (np : H p = none) : w.F p = none ∧ p ∉ w.I ∧ (∀ q ∈ B.P, q.1 ≠ p) := by
 refine ⟨?_, fun hm => ?_, fun q hq e => ?_⟩
 · cases e : w.F p with
   | none => rfl
   | some o =>
     have := R.sub p o e
     rw [np] at this
     cases this
 · obtain ⟨n, hn, e⟩ := List.getElem_of_mem hm
   have hl : n < h.length := by rw [← R.len]; exact hn
   obtain ⟨o, q, _⟩ := R.cel n p h[n] (by rw [Wx hn, e]) (Wx hl)
   rw [np] at q
   cases q
 · have z := (R.prot q hq).1
   rw [e, np] at z
   cases z
theorem Rel.iSome (R : Rel K T B w σ H fr h) {a : Addr} (hm : a ∈ w.I) : H a ≠ none := fun np => (R.nP np).2.1 hm
theorem lK.keep {a : Addr} {c : D} (x : w.le w') (e : H' a = H a) (z : lK K T w H a c) : lK K T w' H' a c := by
 obtain ⟨o, q, r⟩ := z
 exact ⟨o, by rw [e]; exact q, r.mono x⟩
theorem Rel.grow (R : Rel K T B w σ H fr h) (x : w.le w') (eI : w'.I = w.I) (hk : ∀ a o, H a = some o → H' a = some o) (hF : ∀ a o, w'.F a = some o → H' a = some o)
 (hn : ∀ a, w'.F a ≠ none → w.F a ≠ none ∨ H a = none) (he : ∀ a, H a = none → B.H0 a = none ∨ True) : Rel K T B w' σ H' fr h where
 le := Wd.le_trans R.le x
 nF := fun a ha => by
  rcases hn a ha with q | q
  · exact R.nF a q
  · right
    cases e : B.H0 a with
    | none => rfl
    | some o =>
      by_cases hm : a ∈ B.w0.I
      · exact absurd q (R.iSome (Wd.le_mem R.le hm))
      · have := R.keep a o e hm
        rw [q] at this
        cases this
 nI := fun a ha => R.nI a (by rw [← eI]; exact ha)
 keep := fun a o e hm => hk a o (R.keep a o e hm)
 prot := fun q hq => by
  obtain ⟨h1, h2, h3⟩ := R.prot q hq
  refine ⟨hk _ _ h1, ?_, by rw [eI]; exact h3⟩
  cases e : w'.F q.1 with
  | none => rfl
  | some o =>
    rcases hn q.1 (by rw [e]; simp) with z | z
    · exact absurd h2 z
    · rw [h1] at z
      cases z
 sub := hF
 len := by rw [eI]; exact R.len
 nd := by rw [eI]; exact R.nd
 dis := fun a ha => by
  have hm : a ∈ w.I := by rw [← eI]; exact ha
  cases e : w'.F a with
  | none => rfl
  | some o =>
    rcases hn a (by rw [e]; simp) with z | z
    · exact absurd (R.dis a hm) z
    · exact absurd z (R.iSome hm)
 cel := fun n a c e1 e2 => by
  have e1' : w.I[n]? = some a := by rw [← eI]; exact e1
  have z := R.cel n a c e1' e2
  refine lK.keep x ?_ z
  have hs := R.iSome (WL e1')
  cases q : H a with
  | none => exact absurd q hs
  | some o => exact hk a o q
 fl := R.fl
 sl := fun i s d e1 e2 => by
  have z := R.sl i s d e1 e2
  cases z with
  | none => exact .none
  | val r => exact .val (r.mono x)
  | own o e r =>
    refine .own ⟨?_, by rw [eI]; exact o.i, o.e, o.p⟩ (hk _ _ e) (r.mono x)
    cases q : w'.F _ with
    | none => rfl
    | some u =>
      rcases hn _ (by rw [q]; simp) with z | z
      · exact absurd o.f z
      · rw [e] at z
        cases z
 sep := R.sep
 me := R.me
def Wd.add (w : Wd) (p : Addr) (o : HO) : Wd := ⟨upd w.F p o, w.I⟩
theorem Wd.le_add {p : Addr} {o : HO} (e : w.F p = none) : w.le (w.add p o) :=
 ⟨fun a u h => by
  show upd w.F p o a = some u
  rw [upd_ne (ne_of_none h e)]
  exact h, [], by simp [Wd.add]⟩
theorem Rel.laid (R : Rel K T B w σ H fr h) {p : Addr} {o : HO} (np : H p = none) : Rel K T B (w.add p o) σ (upd H p o) fr h := by
 refine R.grow (Wd.le_add (R.nP np).1) rfl (fun a u e => ?_) (fun a u e => ?_) (fun a e => ?_) (fun _ _ => .inr trivial)
 · rw [upd_ne (ne_of_none e np)]
   exact e
 · have e' : upd w.F p o a = some u := e
   by_cases ha : a = p
   · subst ha
     rw [upd_same] at e' ⊢
     exact e'
   · rw [upd_ne ha] at e' ⊢
     exact R.sub a u e'
 · have e' : upd w.F p o a ≠ none := e
   by_cases ha : a = p
   · subst ha
     exact .inr np
   · rw [upd_ne ha] at e'
     exact .inl e'
theorem Rel.temp (R : Rel K T B w σ H fr h) {p : Addr} {o : HO} (np : H p = none) : Rel K T B w σ (upd H p o) fr h :=
 R.grow (Wd.le_refl w) rfl (fun a u e => by rw [upd_ne (ne_of_none e np)]; exact e) (fun a u e => by rw [upd_ne (ne_of_none (R.sub a u e) np)]; exact R.sub a u e) (fun a e => .inl e) (fun _ _ => .inr trivial)
theorem Rel.own_new (R : Rel K T B w σ H fr h) {p : Addr} (np : H p = none) : Own B w p := by
 obtain ⟨h1, h2, h3⟩ := R.nP np
 refine ⟨h1, h2, ?_, h3⟩
 cases e : B.H0 p with
 | none => rfl
 | some o =>
   by_cases hm : p ∈ B.w0.I
   · exact absurd np (R.iSome (Wd.le_mem R.le hm))
   · have := R.keep p o e hm
     rw [np] at this
     cases this
def fY (σ : St) (fr : Fr) (p : Addr) : Prop := ∀ i, ¬ fX σ fr i p
theorem Rel.loose_new (R : Rel K T B w σ H fr h) {p : Addr} (np : H p = none) : fY σ fr p := fun i ⟨e1, d, e2, od⟩ => by
 have z := R.sl i _ _ e1 e2
 cases z with
 | val r => exact gJ od r
 | own o e r =>
   rw [np] at e
   cases e
theorem Rel.freeze (R : Rel K T B w σ H fr h) {p : Addr} {o : HO} (O : Own B w p) (l : fY σ fr p) (e : H p = some o) : Rel K T B (w.add p o) σ H fr h where
 le := Wd.le_trans R.le (Wd.le_add O.f)
 nF := fun a ha => by
  have e' : upd w.F p o a ≠ none := ha
  by_cases hp : a = p
  · subst hp
    exact .inr O.e
  · rw [upd_ne hp] at e'
    exact R.nF a e'
 nI := R.nI
 keep := R.keep
 prot := fun q hq => by
  obtain ⟨h1, h2, h3⟩ := R.prot q hq
  refine ⟨h1, ?_, h3⟩
  show upd w.F p o q.1 = none
  rw [upd_ne (O.p q hq)]
  exact h2
 sub := fun a u ha => by
  have e' : upd w.F p o a = some u := ha
  by_cases hp : a = p
  · subst hp
    rw [upd_same] at e'
    rw [← e']
    exact e
  · rw [upd_ne hp] at e'
    exact R.sub a u e'
 len := R.len
 nd := R.nd
 dis := fun a ha => by
  show upd w.F p o a = none
  have hne : a ≠ p := fun z => O.i (by rw [← z]; exact ha)
  rw [upd_ne hne]
  exact R.dis a ha
 cel := fun n a c e1 e2 => lK.keep (Wd.le_add O.f) rfl (R.cel n a c e1 e2)
 fl := R.fl
 sl := fun i s d e1 e2 => by
  have z := R.sl i s d e1 e2
  cases z with
  | none => exact .none
  | val r => exact .val (r.mono (Wd.le_add O.f))
  | @own q _ _ o' e' r =>
    refine .own ⟨?_, o'.i, o'.e, o'.p⟩ e' (r.mono (Wd.le_add O.f))
    show upd w.F p o q = none
    have hne : q ≠ p := fun z => l i ⟨by rw [← z]; exact e1, _, e2, r.own⟩
    rw [upd_ne hne]
    exact o'.f
 sep := R.sep
 me := R.me
theorem pq {σ : St} {fr : Fr} {i j : Nat} {s : Option V} {d : Option D} {p : Addr} (hi : i ≠ j) (o : fX (σ.set j s) (fr.set j d) i p) : fX σ fr i p := by
 obtain ⟨e1, dd, e2, od⟩ := o
 rw [Wy (Ne.symm hi)] at e1 e2
 exact ⟨e1, dd, e2, od⟩
theorem Rel.set_slot (R : Rel K T B w σ H fr h) {i : Nat} {s : Option V} {d : Option D} (r : m7 K T B w H s d) (hp : ∀ p d', s = some (.ref p) → d = some d' → d'.own = true → fY σ fr p) (hm : i = 0 → ∀ d', d = some d' → d'.own = false) : Rel K T B w (σ.set i s) H (fr.set i d) h :=
 { R with
   me := fun x d' bx e od => by
    by_cases hi : i = 0
    · subst hi
      have l2 : 0 < fr.length := by
       have := (List.getElem?_eq_some_iff.mp e).1
       rwa [WD] at this
      rw [Wz l2] at e
      rw [hm rfl d' (Option.some.inj e)] at od
      cases od
    · rw [Wy hi] at e ⊢
      exact R.me x d' bx e od
   fl := by rw [WD, WD]; exact R.fl
   sl := fun j s' d' e1 e2 => by
    by_cases hj : i = j
    · subst hj
      have l1 : i < σ.length := by
       have := (List.getElem?_eq_some_iff.mp e1).1
       rwa [WD] at this
      rw [Wz l1] at e1
      rw [Wz (by rw [R.fl]; exact l1)] at e2
      cases e1
      cases e2
      exact r
    · rw [Wy hj] at e1 e2
      exact R.sl j s' d' e1 e2
   sep := fun a b p hab o1 o2 => by
    have key : ∀ a b, a ≠ b → a = i → fX (σ.set i s) (fr.set i d) a p → fX (σ.set i s) (fr.set i d) b p → False := fun a b hab ha o1 o2 => by
     subst ha
     have o2' := pq (Ne.symm hab) o2
     obtain ⟨e1, dd, e2, od⟩ := o1
     have l1 : a < σ.length := by
      have := (List.getElem?_eq_some_iff.mp e1).1
      rwa [WD] at this
     rw [Wz l1] at e1
     rw [Wz (by rw [R.fl]; exact l1)] at e2
     cases e1
     cases e2
     exact hp p dd rfl rfl od b o2'
    by_cases ha : a = i
    · exact key a b hab ha o1 o2
    · by_cases hb : b = i
      · exact key b a (Ne.symm hab) hb o2 o1
      · exact R.sep a b p hab (pq ha o1) (pq hb o2) }
theorem Rel.drop_slot (R : Rel K T B w σ H fr h) (i : Nat) : Rel K T B w σ H (fr.set i none) h :=
 { R with
   me := fun x d' bx e od => by
    by_cases hi : i = 0
    · subst hi
      have l2 : 0 < fr.length := by
       have := (List.getElem?_eq_some_iff.mp e).1
       rwa [WD] at this
      rw [Wz l2] at e
      cases e
    · rw [Wy hi] at e
      exact R.me x d' bx e od
   fl := by rw [WD]; exact R.fl
   sl := fun j s' d' e1 e2 => by
    by_cases hj : i = j
    · subst hj
      have l2 : i < fr.length := by
       have := (List.getElem?_eq_some_iff.mp e2).1
       rwa [WD] at this
      rw [Wz l2] at e2
      cases e2
      exact .none
    · rw [Wy hj] at e2
      exact R.sl j s' d' e1 e2
   sep := fun a b p hab o1 o2 => by
    have key : ∀ a, fX σ (fr.set i none) a p → fX σ fr a p := fun a o => by
     obtain ⟨e1, dd, e2, od⟩ := o
     by_cases ha : i = a
     · subst ha
       have l2 : i < fr.length := by
        have := (List.getElem?_eq_some_iff.mp e2).1
        rwa [WD] at this
       rw [Wz l2] at e2
       cases e2
     · rw [Wy ha] at e2
       exact ⟨e1, dd, e2, od⟩
    exact R.sep a b p hab (key a o1) (key b o2) }
theorem Rel.freeze_slot (R : Rel K T B w σ H fr h) {i : Nat} {d : D} (e : fr[i]? = some (some d)) (od : d.own = true) :
 ∃ p o, σ[i]? = some (some (.ref p)) ∧ H p = some o ∧ di K T w o d ∧ w.F p = none ∧ Rel K T B (w.add p o) σ H (fr.set i (some d.fz)) h := by
 have l2 : i < fr.length := (List.getElem?_eq_some_iff.mp e).1
 have l1 : i < σ.length := by rw [← R.fl]; exact l2
 have e1 : σ[i]? = some σ[i] := Wx l1
 have z := R.sl i _ _ e1 e
 generalize hs : σ[i] = s at z e1
 cases z with
 | val r => exact (gJ od r).elim
 | @own p o _ O eH r =>
   refine ⟨p, o, e1, eH, r, O.f, ?_⟩
   have R1 := R.drop_slot i
   have lo : fY σ (fr.set i none) p := fun j q => by
    obtain ⟨q1, dq, q2, oq⟩ := q
    by_cases hj : i = j
    · subst hj
      rw [Wz l2] at q2
      cases q2
    · rw [Wy hj] at q2
      exact R.sep i j p hj ⟨e1, d, e, od⟩ ⟨q1, dq, q2, oq⟩
   have R2 := R1.freeze O lo eH
   have R3 := R2.set_slot (i := i) (s := some (.ref p)) (d := some d.fz) (.val (r.fz (Wd.le_add O.f) (by show upd w.F p _ p = _; rw [upd_same]))) (fun _ _ _ q oq => by
    cases q
    rw [CV] at oq
    cases oq) (fun _ d' q => by
    cases q
    exact CV d)
   rw [List.set_set] at R3
   have es : σ.set i (some (.ref p)) = σ := by
    have := List.set_getElem_self (as := σ) (h := l1)
    rw [hs] at this
    exact this
   rw [es] at R3
   exact R3
theorem yC {α : Type} : ∀ {l : List α} {i j : Nat} {a : α}, l.Nodup → l[i]? = some a → l[j]? = some a → i = j
 | [], _, _, _, _, e, _ => by simp at e
 | b :: l, 0, 0, _, _, _, _ => rfl
 | b :: l, 0, j + 1, a, n, e1, e2 => by
   simp at e1 e2
   subst e1
   exact absurd (WL e2) (List.nodup_cons.mp n).1
 | b :: l, i + 1, 0, a, n, e1, e2 => by
   simp at e1 e2
   subst e2
   exact absurd (WL e1) (List.nodup_cons.mp n).1
 | b :: l, i + 1, j + 1, a, n, e1, e2 => by
   simp at e1 e2
   rw [yC (List.nodup_cons.mp n).2 e1 e2]
theorem Rel.change_slot (R : Rel K T B w σ H fr h) {i : Nat} {d d' : D} {p : Addr} {o o' : HO} (e1 : σ[i]? = some (some (.ref p))) (e : fr[i]? = some (some d)) (O : Own B w p) (eH : H p = some o) (od : d.own = true) (r' : di K T w o' d') :
 Rel K T B w σ (upd H p o') (fr.set i (some d')) h := by
 have l2 : i < fr.length := (List.getElem?_eq_some_iff.mp e).1
 have l1 : i < σ.length := by rw [← R.fl]; exact l2
 refine { R with keep := fun a u ha hm => ?_, prot := fun q hq => ?_, sub := fun a u ha => ?_, cel := fun n a c q1 q2 => ?_, fl := by rw [WD]; exact R.fl, sl := fun j s dj q1 q2 => ?_, sep := fun a b q hab o1 o2 => ?_, me := fun x dx bx q od' => ?_ }
 · rw [upd_ne (fun z => by rw [z, O.e] at ha; cases ha)]
   exact R.keep a u ha hm
 · obtain ⟨h1, h2, h3⟩ := R.prot q hq
   exact ⟨by rw [upd_ne (O.p q hq)]; exact h1, h2, h3⟩
 · rw [upd_ne (fun z => by rw [z, O.f] at ha; cases ha)]
   exact R.sub a u ha
 · refine lK.keep (Wd.le_refl w) ?_ (R.cel n a c q1 q2)
   exact upd_ne (fun z => O.i (z ▸ WL q1))
 · by_cases hj : i = j
   · subst hj
     rw [e1] at q1
     rw [Wz l2] at q2
     cases q1
     cases q2
     exact .own O upd_same r'
   · rw [Wy hj] at q2
     have z := R.sl j s dj q1 q2
     cases z with
     | none => exact .none
     | val r => exact .val r
     | @own q u _ O' eH' rr =>
       refine .own O' ?_ rr
       have hne : q ≠ p := fun z => R.sep i j p hj ⟨e1, d, e, od⟩ ⟨by rw [← z]; exact q1, _, q2, rr.own⟩
       rw [upd_ne hne]
       exact eH'
 · have key : ∀ a, fX σ (fr.set i (some d')) a q → fX σ fr a q := fun a ⟨q1, dq, q2, oq⟩ => by
    by_cases ha : i = a
    · subst ha
      exact ⟨q1, d, e, od⟩
    · rw [Wy ha] at q2
      exact ⟨q1, dq, q2, oq⟩
   exact R.sep a b q hab (key a o1) (key b o2)
 · by_cases hi : i = 0
   · subst hi
     exact R.me x d bx e od
   · rw [Wy hi] at q
     exact R.me x dx bx q od'
theorem Rel.change_cell (R : Rel K T B w σ H fr h) {n : Nat} {a : Addr} {d d' : D} {o' : HO} (e1 : w.I[n]? = some a) (e : h[n]? = some d) (r' : lJ K T w o' d') : Rel K T B w σ (upd H a o') fr (h.set n d') := by
 have hm : a ∈ w.I := WL e1
 have lh : n < h.length := (List.getElem?_eq_some_iff.mp e).1
 refine { R with keep := fun b u hb hn => ?_, prot := fun q hq => ?_, sub := fun b u hb => ?_, len := by rw [WD]; exact R.len, cel := fun k b c q1 q2 => ?_, sl := fun j s dj q1 q2 => ?_ }
 · rw [upd_ne (fun z => by
    subst z
    rcases R.nI _ hm with q | q
    · exact hn q
    · rw [q] at hb
      cases hb)]
   exact R.keep b u hb hn
 · obtain ⟨h1, h2, h3⟩ := R.prot q hq
   have hne : q.1 ≠ a := fun z => h3 (by rw [z]; exact hm)
   exact ⟨by rw [upd_ne hne]; exact h1, h2, h3⟩
 · rw [upd_ne (fun z => by rw [z, R.dis a hm] at hb; cases hb)]
   exact R.sub b u hb
 · by_cases hk : n = k
   · subst hk
     rw [e1] at q1
     rw [Wz lh] at q2
     cases q1
     cases q2
     exact ⟨o', upd_same, r'⟩
   · rw [Wy hk] at q2
     refine lK.keep (Wd.le_refl w) (upd_ne fun z => ?_) (R.cel k b c q1 q2)
     subst z
     exact hk (yC R.nd e1 q1)
 · have z := R.sl j s dj q1 q2
   cases z with
   | none => exact .none
   | val r => exact .val r
   | @own q u _ O' eH' rr =>
     have hne : q ≠ a := fun z => O'.i (by rw [z]; exact hm)
     exact .own O' (by rw [upd_ne hne]; exact eH') rr
theorem Rel.to_cellO (R : Rel K T B w σ H fr h) {p : Addr} {o : HO} {d : D} (O : Own B w p) (lo : fY σ fr p) (e : H p = some o) (r : lJ K T w o d) : Rel K T B ⟨w.F, w.I ++ [p]⟩ σ H fr (h ++ [d]) := by
 have le : w.le ⟨w.F, w.I ++ [p]⟩ := ⟨fun _ _ q => q, [p], rfl⟩
 refine ⟨Wd.le_trans R.le le, R.nF, fun a ha => ?_, R.keep, fun q hq => ?_, R.sub, ?_, ?_, fun a ha => ?_, fun n a c q1 q2 => ?_, R.fl, fun j s dj q1 q2 => ?_, R.sep, R.me⟩
 · rcases List.mem_append.mp ha with q | q
   · exact R.nI a q
   · rw [List.mem_singleton] at q
     subst q
     exact .inr O.e
 · obtain ⟨h1, h2, h3⟩ := R.prot q hq
   refine ⟨h1, h2, fun z => ?_⟩
   rcases List.mem_append.mp z with y | y
   · exact h3 y
   · rw [List.mem_singleton] at y
     exact O.p q hq y
 · show (w.I ++ [p]).length = (h ++ [d]).length
   rw [WY, WY, R.len]
   rfl
 · show (w.I ++ [p]).Nodup
   rw [List.nodup_append]
   exact ⟨R.nd, by simp, fun a ha b hb => by
    rw [List.mem_singleton] at hb
    subst hb
    exact fun z => O.i (z ▸ ha)⟩
 · rcases List.mem_append.mp ha with q | q
   · exact R.dis a q
   · rw [List.mem_singleton] at q
     subst q
     exact O.f
 · have q1' : (w.I ++ [p])[n]? = some a := q1
   by_cases hn : n < w.I.length
   · rw [List.getElem?_append_left hn] at q1'
     rw [List.getElem?_append_left (by rw [← R.len]; exact hn)] at q2
     exact lK.keep le rfl (R.cel n a c q1' q2)
   · have hn' : w.I.length ≤ n := Nat.le_of_not_lt hn
     rw [List.getElem?_append_right hn'] at q1'
     rw [List.getElem?_append_right (by rw [← R.len]; exact hn'), ← R.len] at q2
     cases k : n - w.I.length with
     | zero =>
       rw [k] at q1' q2
       cases q1'
       cases q2
       exact ⟨o, e, r.mono le⟩
     | succ m =>
       rw [k] at q1'
       simp at q1'
 · have z := R.sl j s dj q1 q2
   cases z with
   | none => exact .none
   | val r => exact .val (r.mono le)
   | @own q u _ O' eH' rr =>
     refine .own ⟨O'.f, fun z => ?_, O'.e, O'.p⟩ eH' (rr.mono le)
     rcases List.mem_append.mp z with y | y
     · exact O'.i y
     · rw [List.mem_singleton] at y
       exact lo j ⟨by rw [← y]; exact q1, _, q2, rr.own⟩
theorem Rel.to_cell (R : Rel K T B w σ H fr h) {p : Addr} {o : HO} {d : D} (O : Own B w p) (lo : fY σ fr p) (e : H p = some o) (r : di K T w o d) : Rel K T B ⟨w.F, w.I ++ [p]⟩ σ H fr (h ++ [d]) := R.to_cellO O lo e r.cel
theorem tR {i : Nat} {p : Addr} : ¬ fX [] [] i p := fun ⟨q, _⟩ => by simp at q
theorem Rel.enter (R : Rel K T B w σ H fr h) : Rel K T (Bs.of w H) w [] H [] h where
 le := Wd.le_refl w
 nF := fun _ q => .inl q
 nI := fun _ q => .inl q
 keep := fun _ _ q _ => q
 prot := fun _ q => by cases q
 sub := R.sub
 len := R.len
 nd := R.nd
 dis := R.dis
 cel := R.cel
 fl := rfl
 sl := fun _ _ _ q => by simp at q
 sep := fun _ _ _ _ q => (tR q).elim
 me := fun _ _ _ q _ => by simp at q
theorem Rel.unframe (R : Rel K T B w σ H fr h) : Rel K T B w [] H [] h where
 le := R.le
 nF := R.nF
 nI := R.nI
 keep := R.keep
 prot := R.prot
 sub := R.sub
 len := R.len
 nd := R.nd
 dis := R.dis
 cel := R.cel
 fl := rfl
 sl := fun _ _ _ q => by simp at q
 sep := fun _ _ _ _ q => (tR q).elim
 me := fun _ _ _ q _ => by simp at q
theorem Rel.back {h' : Hh} (R : Rel K T B w σ H fr h) (x : w.le w') (C : Rel K T (Bs.of w H) w' [] H' [] h') : Rel K T B w' σ H' fr h' where
 le := Wd.le_trans R.le x
 nF := fun a ha => by
  rcases C.nF a ha with q | q
  · exact R.nF a q
  · exact .inr (R.own_new q).e
 nI := fun a ha => by
  rcases C.nI a ha with q | q
  · exact R.nI a q
  · exact .inr (R.own_new q).e
 keep := fun a o e hm => C.keep a o (R.keep a o e hm) fun z => by
  rcases R.nI a z with q | q
  · exact hm q
  · rw [q] at e
    cases e
 prot := fun q hq => by
  obtain ⟨h1, h2, h3⟩ := R.prot q hq
  refine ⟨C.keep _ _ h1 h3, ?_, fun z => ?_⟩
  · cases e : w'.F q.1 with
    | none => rfl
    | some o =>
      rcases C.nF q.1 (by rw [e]; simp) with y | y
      · exact absurd h2 y
      · have y' : H q.1 = none := y
        rw [h1] at y'
        cases y'
  · rcases C.nI _ z with y | y
    · exact h3 y
    · have y' : H q.1 = none := y
      rw [h1] at y'
      cases y'
 sub := C.sub
 len := C.len
 nd := C.nd
 dis := C.dis
 cel := C.cel
 fl := R.fl
 sl := fun i s d e1 e2 => by
  have z := R.sl i s d e1 e2
  cases z with
  | none => exact .none
  | val r => exact .val (r.mono x)
  | @own p o _ O eH rr =>
    refine .own ⟨?_, fun z => ?_, O.e, O.p⟩ (C.keep _ _ eH O.i) (rr.mono x)
    · cases e : w'.F p with
      | none => rfl
      | some o =>
        rcases C.nF p (by rw [e]; simp) with y | y
        · exact absurd O.f y
        · have y' : H p = none := y
          rw [eH] at y'
          cases y'
    · rcases C.nI _ z with y | y
      · exact O.i y
      · have y' : H p = none := y
        rw [eH] at y'
        cases y'
 sep := R.sep
 me := R.me
end
end Pk
namespace Pk
open PySem PySem.Spec L2
structure aO where
 c : Nat
 fs : List D
inductive R (α : Type) where
 | ok (a : α) (fr : Fr) (h : Hh)
 | exc (x : aO) (fr : Fr) (h : Hh)
 | err
abbrev M (α : Type) := Fr → Hh → R α
def M.ret {α : Type} (a : α) : M α := fun fr h => .ok a fr h
def M.bind {α β : Type} (m : M α) (f : α → M β) : M β := fun fr h => match m fr h with
 | .ok a fr h => f a fr h
 | .exc x fr h => .exc x fr h
 | .err => .err
def M.opt {α : Type} (o : Option α) : M α := fun fr h => match o with
 | some a => .ok a fr h
 | none => .err
@[simp] theorem M.bind_ret {α β : Type} (a : α) (f : α → M β) : (M.ret a).bind f = f a := rfl
@[simp] theorem M.ret_ap {α : Type} (a : α) (fr : Fr) (h : Hh) : M.ret a fr h = .ok a fr h := rfl
@[simp] theorem M.opt_some {α : Type} (a : α) (fr : Fr) (h : Hh) : M.opt (some a) fr h = .ok a fr h := rfl
@[simp] theorem M.opt_none {α : Type} (fr : Fr) (h : Hh) : M.opt (none : Option α) fr h = .err := rfl
theorem M.bind_ok {α β : Type} {m : M α} {f : α → M β} {fr fr1 : Fr} {h h1 : Hh} {a : α} (e : m fr h = .ok a fr1 h1) : m.bind f fr h = f a fr1 h1 := by
 unfold M.bind
 rw [e]
theorem M.bind_exc {α β : Type} {m : M α} {f : α → M β} {fr fr1 : Fr} {h h1 : Hh} {x : aO} (e : m fr h = .exc x fr1 h1) : m.bind f fr h = .exc x fr1 h1 := by
 unfold M.bind
 rw [e]
theorem M.bind_err {α β : Type} {m : M α} {f : α → M β} {fr : Fr} {h : Hh} (e : m fr h = .err) : m.bind f fr h = .err := by
 unfold M.bind
 rw [e]
def rY (K : PySem.W.Frag) (T : Tb) (w : Wd) (x : aO) (cls : Value) (dd : Option Addr) : Prop :=
 cls = .ref (T.cad x.c) ∧ ((x.fs = [] ∧ dd = none) ∨ ∃ d vs, dd = some d ∧ w.F d = some (.xd ((T.fld x.c).zip vs)) ∧ aa K T w vs x.fs)
section
variable {α β : Type}
def ak (K : PySem.W.Frag) (T : Tb) (B : Bs) (W : WX) (VR : Wd → Hp → Fr → β → α → Prop) (w : Wd) (σ : L2.St) (r : R α) (Q : β → Hp → Prop) : Prop :=
 match r with
 | .ok d fr h => ∀ w' H' v, w.le w' → Rel K T B w' σ H' fr h → VR w' H' fr v d → Q v H'
 | .exc x fr h => ∀ w' H' cls dd, w.le w' → Rel K T B w' σ H' fr h → rY K T w' x cls dd → W cls dd σ H'
 | .err => False
end
abbrev bG (β α : Type) := PySem.W.Frag → Tb → Bs → L2.St → Wd → Hp → Fr → β → α → Prop
def vV : bG V D := fun K T _ _ w _ _ v d => aA K T w v d
def vE : bG V D := fun K T B σ w H fr v d => aA K T w v d ∨ ∃ p o, v = .ref p ∧ Own B w p ∧ fY σ fr p ∧ H p = some o ∧ di K T w o d
def vO : bG V D := fun K T _ _ w H _ v d => aA K T w v d ∨ ∃ p o, v = .ref p ∧ H p = some o ∧ di K T w o d
def vB : bG Bool Bool := fun _ _ _ _ _ _ _ b c => b = c
def vA : bG (List V) (List D) := fun K T _ _ w _ _ vs ds => aa K T w vs ds
def bO {α β : Type} (run : L2.St → Hp → (β → Hp → Prop) → Prop) (K : PySem.W.Frag) (T : Tb) (W : WX) (VR : bG β α) (m : M α) : Prop :=
 ∀ (B : Bs) (w : Wd) (σ : L2.St) (H : Hp) (fr : Fr) (h : Hh) (Q : β → Hp → Prop), Rel K T B w σ H fr h → ak K T B W (VR K T B σ) w σ (m fr h) Q → run σ H Q
section
variable {α β γ δ : Type} {K : PySem.W.Frag} {T : Tb} {B : Bs} {W : WX} {w w' : Wd} {σ : L2.St} {H : Hp}
theorem ak.le {VR : Wd → Hp → Fr → β → α → Prop} {r : R α} {Q : β → Hp → Prop} (x : w.le w') (p : ak K T B W VR w σ r Q) : ak K T B W VR w' σ r Q := by
 cases r with
 | ok d fr h => exact fun w2 H2 v y => p w2 H2 v (Wd.le_trans x y)
 | exc e fr h => exact fun w2 H2 c d y => p w2 H2 c d (Wd.le_trans x y)
 | err => exact p
theorem ak.imp {VR : Wd → Hp → Fr → β → α → Prop} {r : R α} {Q Q' : β → Hp → Prop} (p : ak K T B W VR w σ r Q) (hq : ∀ v H, Q v H → Q' v H) : ak K T B W VR w σ r Q' := by
 cases r with
 | ok d fr h => exact fun w2 H2 v y r z => hq _ _ (p w2 H2 v y r z)
 | exc e fr h => exact p
 | err => exact p
theorem ak.bind {VR : Wd → Hp → Fr → γ → δ → Prop} {VR' : Wd → Hp → Fr → β → α → Prop} {m : M δ} {f : δ → M α} {fr : Fr} {h : Hh} {Q : β → Hp → Prop} {Q' : γ → Hp → Prop} (p : ak K T B W VR' w σ (m.bind f fr h) Q)
 (k : ∀ d fr1 h1 w1 H1 v, m fr h = .ok d fr1 h1 → w.le w1 → Rel K T B w1 σ H1 fr1 h1 → VR w1 H1 fr1 v d → ak K T B W VR' w1 σ (f d fr1 h1) Q → Q' v H1) : ak K T B W VR w σ (m fr h) Q' := by
 cases e : m fr h with
 | ok d fr1 h1 =>
   rw [M.bind_ok e] at p
   exact fun w1 H1 v x r z => k d fr1 h1 w1 H1 v e x r z (p.le x)
 | exc y fr1 h1 =>
   rw [M.bind_exc e] at p
   exact p
 | err =>
   rw [M.bind_err e] at p
   exact p
theorem bO.bind {run1 : L2.St → Hp → (γ → Hp → Prop) → Prop} {run2 : γ → L2.St → Hp → (β → Hp → Prop) → Prop} {VR1 : bG γ δ} {VR : bG β α} {m : M δ} {f : δ → M α} (s1 : bO run1 K T W VR1 m)
 (s2 : ∀ B w σ H fr h d v Q, Rel K T B w σ H fr h → VR1 K T B σ w H fr v d → ak K T B W (VR K T B σ) w σ (f d fr h) Q → run2 v σ H Q) :
 bO (fun σ H Q => run1 σ H fun v H1 => run2 v σ H1 Q) K T W VR (m.bind f) := fun B w σ H fr h Q r p =>
 s1 B w σ H fr h _ r (p.bind fun d fr1 h1 w1 H1 v e x r1 z p1 => s2 B w1 σ H1 fr1 h1 d v Q r1 z p1)
end
structure WE (X : Cx) (e : Expr) (σ : L2.St) (H : Hp) (Q : VK) : Prop where
 go : ∀ pins s, Inv X pins σ H s → wpAny (model X.prog X.w) X.A (eval e X.env) (EP X pins σ Q) X.xe s
structure WT (X : Cx) (e : Expr) (σ : L2.St) (H : Hp) (Q : Bool → Hp → Prop) : Prop where
 go : ∀ pins s, Inv X pins σ H s → wpAny (model X.prog X.w) X.A (isTrue e X.env (eval e X.env)) (TP X pins σ Q) X.xe s
structure WW (X : Cx) (e : Expr) (σ : L2.St) (H : Hp) (Q : Bool → Hp → Prop) : Prop where
 go : ∀ whole pins s, Inv X pins σ H s → wpAny (model X.prog X.w) X.A (isTrue e X.env whole) (TP X pins σ Q) X.xe s
structure WA (X : Cx) (es : List Expr) (σ : L2.St) (H : Hp) (Q : List V → Hp → Prop) : Prop where
 go : ∀ pos pins s, Inv X pins σ H s → wpAny (model X.prog X.w) X.A (spliced (backTo pos (starEach es X.env))) (AP X pins σ Q) X.xe s
structure WS (X : Cx) (st : Stmt) (D : Ends) (σ : L2.St) (H : Hp) : Prop where
 go : ∀ pins s, Inv X pins σ H s → wpAny (model X.prog X.w) X.A (exec st X.env) (SP X pins D) X.xe s
structure Af (X : Cx) (st : List Stmt) (D : Ends) (σ : L2.St) (H : Hp) : Prop where
 go : ∀ pins s, Inv X pins σ H s → wpAny (model X.prog X.w) X.A (execs st X.env) (SP X pins D) X.xe s
def rM (X : Cx) (f : Value → Value → Sem Value) : R2 := fun x y H Q => ∀ pins s σ v u, Inv X pins σ H s → RelV x v → RelV y u → wpAny (model X.prog X.w) X.A (f v u) (EP X pins σ Q) X.xe s
def uM (X : Cx) (f : Value → Sem Value) : V → Hp → VK → Prop := fun x H Q => ∀ pins s σ v, Inv X pins σ H s → RelV x v → wpAny (model X.prog X.w) X.A (f v) (EP X pins σ Q) X.xe s
def cM (X : Cx) (f : Value) : List V → Hp → VK → Prop := fun xs H Q => ∀ pins s σ us, Inv X pins σ H s → Vals xs us → wpAny (model X.prog X.w) X.A (call f us) (EP X pins σ Q) X.xe s
section
variable {X : Cx} {e : Expr} {es : List Expr} {st : Stmt} {sts : List Stmt}
theorem aK : PE X e (WE X e) := ⟨fun pins s σ H Q I h => h.go pins s I⟩
theorem lQ : PT X e (WT X e) := ⟨fun pins s σ H Q I h => h.go pins s I⟩
theorem CW : PW X e (WW X e) := ⟨fun wh pins s σ H Q I h => h.go wh pins s I⟩
theorem yD : PA X es (WA X es) := ⟨fun pos pins s σ H Q I h => h.go pos pins s I⟩
theorem CZ : PS X st (WS X st) := ⟨fun pins s σ H D I h => h.go pins s I⟩
theorem jE : PSs X sts (Af X sts) := ⟨fun pins s σ H D I h => h.go pins s I⟩
theorem bB {t : TE} (p : PE X e t) {σ : L2.St} {H : Hp} {Q : VK} (h : t σ H Q) : WE X e σ H Q := ⟨fun pins s I => p.run pins s σ H Q I h⟩
theorem tU {t : TT} (p : PT X e t) {σ : L2.St} {H : Hp} {Q : Bool → Hp → Prop} (h : t σ H Q) : WT X e σ H Q := ⟨fun pins s I => p.run pins s σ H Q I h⟩
theorem Ho {t : TT} (p : PW X e t) {σ : L2.St} {H : Hp} {Q : Bool → Hp → Prop} (h : t σ H Q) : WW X e σ H Q := ⟨fun wh pins s I => p.run wh pins s σ H Q I h⟩
theorem Hq {t : TA} (p : PA X es t) {σ : L2.St} {H : Hp} {Q : List V → Hp → Prop} (h : t σ H Q) : WA X es σ H Q := ⟨fun pos pins s I => p.run pos pins s σ H Q I h⟩
theorem jc {t : TS} (p : PS X st t) {D : Ends} {σ : L2.St} {H : Hp} (h : t D σ H) : WS X st D σ H := ⟨fun pins s I => p.run pins s σ H D I h⟩
theorem vf {t : TS} (p : PSs X sts t) {D : Ends} {σ : L2.St} {H : Hp} (h : t D σ H) : Af X sts D σ H := ⟨fun pins s I => p.run pins s σ H D I h⟩
theorem pA {f : Value → Value → Sem Value} : OpR X f (rM X f) := fun pins s σ H x y v u Q I rx ry h => h pins s σ v u I rx ry
theorem eU {f : Value → Value → Sem Value} {r : R2} (o : OpR X f r) {x y : V} {H : Hp} {Q : VK} (h : r x y H Q) : rM X f x y H Q := fun pins s σ v u I rx ry => o pins s σ H x y v u Q I rx ry h
theorem rZ {f : Value} : CallR X f (cM X f) := fun pins s σ H xs us Q I r h => h pins s σ us I r
theorem bJ {f : Value} {r : List V → Hp → VK → Prop} (o : CallR X f r) {xs : List V} {H : Hp} {Q : VK} (h : r xs H Q) : cM X f xs H Q := fun pins s σ us I rr => o pins s σ H xs us Q I rr h
end
abbrev du (X : Cx) (T : Tb) (W : WX) (e : Expr) (m : M D) : Prop := bO (WE X e) X.K T W vE m
abbrev ao (X : Cx) (T : Tb) (W : WX) (e : Expr) (m : M D) : Prop := bO (WE X e) X.K T W vV m
abbrev jK (X : Cx) (T : Tb) (W : WX) (e : Expr) (m : M Bool) : Prop := bO (WT X e) X.K T W vB m
abbrev Bm (X : Cx) (T : Tb) (W : WX) (e : Expr) (m : M Bool) : Prop := bO (WW X e) X.K T W vB m
abbrev pB (X : Cx) (T : Tb) (W : WX) (es : List Expr) (m : M (List D)) : Prop := bO (WA X es) X.K T W vA m
abbrev m9 (X : Cx) (T : Tb) (W : WX) (e : Expr) (m : M D) : Prop := bO (WE X e) X.K T W vO m
def cO (m : M D) : M D := m.bind fun d => M.ret d.fz
def mC (d : D) : M D := M.ret d
def aq (i : Nat) : M D := fun fr h => match fr[i]? with
 | some (some d) => if d.own then .ok d.fz (fr.set i (some d.fz)) h else .ok d fr h
 | _ => .err
def fZ (i : Nat) : M D := fun fr h => match fr[i]? with
 | some (some d) => .ok d (fr.set i none) h
 | _ => .err
def aR (i : Nat) : M D := fun fr h => match fr[i]? with
 | some (some d) => .ok d fr h
 | _ => .err
section
variable {X : Cx} {T : Tb} {W : WX} {e a b c : Expr} {es : List Expr} {m ma mb mc : M D} {pos : Pos}
theorem vg {α β : Type} {run : L2.St → Hp → (β → Hp → Prop) → Prop} {K : PySem.W.Frag} {VR VR' : bG β α} {m : M α} (s : bO run K T W VR m) (h : ∀ B σ w H fr v d, VR K T B σ w H fr v d → VR' K T B σ w H fr v d) : bO run K T W VR' m :=
 fun B w σ H fr hh Q r p => s B w σ H fr hh Q r (by
  cases q : m fr hh with
  | ok d fr1 h1 =>
    rw [q] at p
    exact fun w1 H1 v x r1 z => p w1 H1 v x r1 (h _ _ _ _ _ _ _ z)
  | exc y fr1 h1 => rw [q] at p; exact p
  | err => rw [q] at p; exact p)
theorem ni (s : ao X T W e m) : du X T W e m := vg s fun _ _ _ _ _ _ _ z => .inl z
theorem jy (s : ao X T W e m) : m9 X T W e m := vg s fun _ _ _ _ _ _ _ z => .inl z
theorem lU (s : du X T W e m) : m9 X T W e m := vg s fun _ _ _ _ _ _ _ z => by
 rcases z with z | ⟨p, o, e1, _, _, e2, r⟩
 · exact .inl z
 · exact .inr ⟨p, o, e1, e2, r⟩
theorem bW (s : du X T W e m) : ao X T W e (cO m) := fun B w σ H fr h Q r p => s B w σ H fr h Q r (by
 refine ak.bind (VR := vE X.K T B σ) p fun d fr1 h1 w1 H1 v eq x r1 z p1 => ?_
 rcases z with z | ⟨p', o, rfl, O, lo, eH, rd⟩
 · rw [Iv z] at p1
   exact p1 w1 H1 v (Wd.le_refl _) r1 z
 · exact p1 (w1.add p' o) H1 (.ref p') (Wd.le_add O.f) (r1.freeze O lo eH) (rd.fz (Wd.le_add O.f) (by show upd w1.F p' _ p' = _; rw [upd_same])))
theorem aF {i : Int} {j : Nat} : ao X T W (.Constant (.int i) j pos) (mC (.int i)) := fun B w σ H fr h Q r p => bB pe_int (p w H _ (Wd.le_refl _) r (.int i))
theorem yf {i : Bool} {j : Nat} : ao X T W (.Constant (.bool i) j pos) (mC (.bl i)) := fun B w σ H fr h Q r p => bB pe_bl (p w H _ (Wd.le_refl _) r (.bl i))
theorem dX {i : Str} {j : Nat} : ao X T W (.Constant (.str i) j pos) (mC (.str i)) := fun B w σ H fr h Q r p => bB pe_str (p w H _ (Wd.le_refl _) r (.str i))
theorem bA {K : PySem.W.Frag} {T : Tb} {B : Bs} {w : Wd} {σ : L2.St} {H : Hp} {fr : Fr} {h : Hh} (R : Rel K T B w σ H fr h) {i : Nat} {d : D} (e : fr[i]? = some (some d)) :
 ∃ v, σ[i]? = some (some v) ∧ m7 K T B w H (some v) (some d) := by
 have l2 : i < fr.length := (List.getElem?_eq_some_iff.mp e).1
 have l1 : i < σ.length := by rw [← R.fl]; exact l2
 have e1 : σ[i]? = some σ[i] := Wx l1
 have z := R.sl i _ _ e1 e
 generalize σ[i] = s at z e1
 cases z with
 | val r => exact ⟨_, e1, .val r⟩
 | own O eH r => exact ⟨_, e1, .own O eH r⟩
theorem aj (i : Nat) {x : Str} (hN : X.N[i]? = some x := by rfl) (hv : Vis X.env.scope x := by first | exact Or.inl rfl | exact Or.inr (Or.inl rfl) | exact Or.inr (Or.inr rfl)) (hd : (x == ("__debug__" : Str)) = false := by decide)
 (hcd : (x == ("__classdict__" : Str)) = false := by decide) : ao X T W (.Name x pos) (aq i) := fun B w σ H fr h Q r p => bB (pe_var hN hv hd hcd) (by
 unfold aq at p
 split at p
 · rename_i d e1
   cases od : d.own with
   | true =>
     rw [od] at p
     obtain ⟨q, o, e2, eH, rd, nf, r1⟩ := r.freeze_slot e1 od
     exact ⟨_, e2, p (w.add q o) H (.ref q) (Wd.le_add nf) r1 (rd.fz (Wd.le_add nf) (by show upd w.F q _ q = _; rw [upd_same]))⟩
   | false =>
     rw [od] at p
     obtain ⟨v, e2, z⟩ := bA r e1
     cases z with
     | val rd => exact ⟨v, e2, p w H v (Wd.le_refl _) r rd⟩
     | own O eH rd =>
       rw [rd.own] at od
       cases od
 · exact p.elim)
theorem bQ (i : Nat) {x : Str} (hN : X.N[i]? = some x := by rfl) (hv : Vis X.env.scope x := by first | exact Or.inl rfl | exact Or.inr (Or.inl rfl) | exact Or.inr (Or.inr rfl)) (hd : (x == ("__debug__" : Str)) = false := by decide)
 (hcd : (x == ("__classdict__" : Str)) = false := by decide) : m9 X T W (.Name x pos) (aR i) := fun B w σ H fr h Q r p => bB (pe_var hN hv hd hcd) (by
 unfold aR at p
 split at p
 · rename_i d e1
   obtain ⟨v, e2, z⟩ := bA r e1
   refine ⟨v, e2, p w H v (Wd.le_refl _) r ?_⟩
   cases z with
   | val rd => exact .inl rd
   | own O eH rd => exact .inr ⟨_, _, rfl, eH, rd⟩
 · exact p.elim)
theorem qQ (i : Nat) {x : Str} (hN : X.N[i]? = some x := by rfl) (hv : Vis X.env.scope x := by first | exact Or.inl rfl | exact Or.inr (Or.inl rfl) | exact Or.inr (Or.inr rfl)) (hd : (x == ("__debug__" : Str)) = false := by decide)
 (hcd : (x == ("__classdict__" : Str)) = false := by decide) : du X T W (.Name x pos) (fZ i) := fun B w σ H fr h Q r p => bB (pe_var hN hv hd hcd) (by
 unfold fZ at p
 split at p
 · rename_i d e1
   obtain ⟨v, e2, z⟩ := bA r e1
   refine ⟨v, e2, p w H v (Wd.le_refl _) (r.drop_slot i) ?_⟩
   cases z with
   | val rd => exact .inl rd
   | @own q o _ O eH rd =>
     refine .inr ⟨q, o, rfl, O, fun j z => ?_, eH, rd⟩
     obtain ⟨q1, dq, q2, oq⟩ := z
     by_cases hj : i = j
     · subst hj
       rw [Wz (List.getElem?_eq_some_iff.mp e1).1] at q2
       cases q2
     · rw [Wy hj] at q2
       exact r.sep i j q hj ⟨e2, d, e1, rd.own⟩ ⟨q1, dq, q2, oq⟩
 · exact p.elim)
def big : Nat := 100000
theorem cW {n : Nat} (h : n ≤ big) : n ≤ sizeLine := Nat.le_trans h (by decide)
def D.der (h : Hh) : D → D
 | .ref n => (h[n]?).getD .non
 | d => d
def D.its (h : Hh) (d : D) : Option (List D) := match d.der h with
 | .tup l => some l
 | .fl l => some l
 | .kl l => some l
 | .nl l => some l
 | _ => none
theorem iJ {K : PySem.W.Frag} {T : Tb} {B : Bs} {w : Wd} {σ : L2.St} {H : Hp} {fr : Fr} {h : Hh} {v : V} {d : D} {ds : List D} (R : Rel K T B w σ H fr h) (z : vO K T B σ w H fr v d) (e : d.its h = some ds) :
 ∃ p vs, v = .ref p ∧ aa K T w vs ds ∧ (SqL K H p vs ∨ SqT K H p vs) := by
 rcases z with z | ⟨p, o, rfl, eH, z⟩
 · cases z with
   | tup s r =>
     have e' : some _ = some ds := e
     cases e'
     exact ⟨_, _, rfl, r, .inr (aV R.sub s)⟩
   | fl s r =>
     have e' : some _ = some ds := e
     cases e'
     exact ⟨_, _, rfl, r, .inl (SqL.of (R.sub _ _ s))⟩
   | kl s r =>
     have e' : some _ = some ds := e
     cases e'
     exact ⟨_, _, rfl, r, .inl (bU R.sub s)⟩
   | @ref a n s =>
     have ln : n < h.length := by
      rw [← R.len]
      exact (List.getElem?_eq_some_iff.mp s).1
     obtain ⟨o, q, rr⟩ := R.cel n a h[n] s (Wx ln)
     have e0 : (h[n]?).getD .non = h[n] := by rw [Wx ln]; rfl
     unfold D.its D.der at e
     dsimp only at e
     rw [e0] at e
     generalize h[n] = c at rr e
     cases rr with
     | lst r =>
       have e' : some _ = some ds := e
       cases e'
       exact ⟨_, _, rfl, r, .inl (SqL.of q)⟩
     | obj r => cases e
     | dct _ r => cases e
   | non => cases e
   | bl _ => cases e
   | int _ => cases e
   | str _ => cases e
   | obj _ _ => cases e
   | cls _ => cases e
   | ty _ => cases e
   | sl _ => cases e
 · cases z with
   | lst r =>
     have e' : some _ = some ds := e
     cases e'
     exact ⟨_, _, rfl, r, .inl (SqL.of eH)⟩
   | obj r => cases e
def aM {α : Type} (f : Hh → D → D → Option α) (ma mb : M D) : M α := ma.bind fun x => mb.bind fun y fr h => M.opt (f h x y) fr h
theorem Bo {α β : Type} {VR2 : bG V D} {VR : bG β α} {f : Hh → D → D → Option α} {r : V → V → Hp → (β → Hp → Prop) → Prop} (sa : ao X T W a ma) (sb : bO (WE X b) X.K T W VR2 mb)
 (hr : ∀ B w σ H fr h x y d e z Q, Rel X.K T B w σ H fr h → aA X.K T w x d → VR2 X.K T B σ w H fr y e → f h d e = some z → (∀ w' H' v, w.le w' → Rel X.K T B w' σ H' fr h → VR X.K T B σ w' H' fr v z → Q v H') → r x y H Q) :
 bO (fun σ H Q => WE X a σ H fun x H1 => WE X b σ H1 fun y H2 => r x y H2 Q) X.K T W VR (aM f ma mb) := fun B w σ H fr h Q r1 p =>
 sa B w σ H fr h _ r1 (ak.bind (VR := vV X.K T B σ) p fun d fr1 h1 w1 H1 x e1 l1 r1 rx p1 => sb B w1 σ H1 fr1 h1 _ r1 (ak.bind (VR := VR2 X.K T B σ) p1 fun e fr2 h2 w2 H2 y e2 l2 r2 ry p2 => by
  cases q : f h2 d e with
  | none => rw [q] at p2; exact p2.elim
  | some z =>
    rw [q] at p2
    exact hr B w2 σ H2 fr2 h2 x y d e z Q r2 (rx.mono l2) ry q p2))
end
end Pk
namespace Pk
open PySem PySem.Spec L2
structure Cq (X : Cx) (T : Tb) (W : WX) (k : Nat) : Prop where
 calm : X.calm = true
 nd : X.N.Nodup
 room : Room k X.A
 takes : Takes X W
 po : PassesOwn (model X.prog X.w) X.A X.env X.xe
theorem Cq.u {X : Cx} {T : Tb} {W : WX} {k : Nat} (C : Cq X T W k) : X.A.units + 65 < cLine := by
 have := C.room.un
 omega
section
variable {X : Cx} {T : Tb} {W : WX} {k : Nat} {e a b c : Expr} {es : List Expr} {m ma mb mc : M D} {pos : Pos}
mutual
def D.toP : D → Option PyData
 | .non => some .none
 | .bl b => some (.bool b)
 | .int i => some (.int i)
 | .str s => some (.str s)
 | .tup l => (D.toPs l).map .tuple
 | .fl l => (D.toPs l).map .list
 | .kl l => (D.toPs l).map .list
 | .nl l => (D.toPs l).map .list
 | _ => none
def D.toPs : List D → Option (List PyData)
 | [] => some []
 | d :: ds => match D.toP d, D.toPs ds with
   | some p, some ps => some (p :: ps)
   | _, _ => none
end
section
variable {K : PySem.W.Frag} {w : Wd} {H : Hp}
mutual
theorem tV (hs : ∀ a o, w.F a = some o → H a = some o) : ∀ {v : V} {d : D} {p : PyData}, aA K T w v d → d.toP = some p → Dp K H v p
 | _, _, _, .non, e => by cases e; exact .non
 | _, _, _, .bl b, e => by cases e; exact .bl b
 | _, _, _, .int i, e => by cases e; exact .int i
 | _, _, _, .str s, e => by cases e; exact .str s
 | _, _, _, .tup s r, e => by
   unfold D.toP at e
   obtain ⟨ps, e1, e2⟩ := Option.map_eq_some_iff.mp e
   subst e2
   exact .tup (aV hs s) (pC hs r e1)
 | _, _, _, .fl s r, e => by
   unfold D.toP at e
   obtain ⟨ps, e1, e2⟩ := Option.map_eq_some_iff.mp e
   subst e2
   exact .lst (SqL.of (hs _ _ s)) (pC hs r e1)
 | _, _, _, .kl s r, e => by
   unfold D.toP at e
   obtain ⟨ps, e1, e2⟩ := Option.map_eq_some_iff.mp e
   subst e2
   exact .lst (bU hs s) (pC hs r e1)
 | _, _, _, .obj _ _, e => by cases e
 | _, _, _, .ref _, e => by cases e
 | _, _, _, .cls _, e => by cases e
 | _, _, _, .ty _, e => by cases e
 | _, _, _, .sl _, e => by cases e
theorem pC (hs : ∀ a o, w.F a = some o → H a = some o) : ∀ {vs : List V} {ds : List D} {ps : List PyData}, aa K T w vs ds → D.toPs ds = some ps → DpAll K H vs ps
 | _, _, _, .nil, e => by cases e; exact .nil
 | _, _, _, @aa.cons _ _ _ _ d _ ds h t, e => by
   unfold D.toPs at e
   cases e1 : d.toP with
   | none => rw [e1] at e; cases e
   | some p =>
     cases e2 : D.toPs ds with
     | none => rw [e1, e2] at e; cases e
     | some ps =>
       rw [e1, e2] at e
       cases e
       exact .cons (tV hs h e1) (pC hs t e2)
end
theorem Dc {B : Bs} {σ : L2.St} {fr : Fr} {h : Hh} {v : V} {d : D} {p : PyData} (R : Rel K T B w σ H fr h) (z : vO K T B σ w H fr v d) (e : d.toP = some p) : Dp K H v p := by
 rcases z with z | ⟨q, o, rfl, eH, z⟩
 · exact tV R.sub z e
 · cases z with
   | lst r =>
     unfold D.toP at e
     obtain ⟨ps, e1, e2⟩ := Option.map_eq_some_iff.mp e
     subst e2
     exact .lst (SqL.of eH) (pC R.sub r e1)
   | obj r => cases e
end
def dw (h : Hh) : D → D → Option D
 | .int i, .int j => some (.int (i + j))
 | .str a, .str b => if a.length + b.length ≤ big then some (.str (a ++ b)) else none
 | .tup a, .tup b => if a.length + b.length ≤ big then some (.tup (a ++ b)) else none
 | .fl a, .fl b => if a.length + b.length ≤ big then some (.nl (a ++ b)) else none
 | _, _ => none
theorem yE {w : Wd} {K : PySem.W.Frag} {v : V} {ds : List D} (r : aA K T w v (.fl ds)) : ∃ a vs, v = .ref a ∧ w.F a = some (.lst vs) ∧ aa K T w vs ds := by
 cases r with
 | fl s t => exact ⟨_, _, rfl, s, t⟩
theorem iK {w : Wd} {K : PySem.W.Frag} {v : V} {ds : List D} (r : aA K T w v (.tup ds)) : ∃ a vs, v = .ref a ∧ SqT K w.F a vs ∧ aa K T w vs ds := by
 cases r with
 | tup s t => exact ⟨_, _, rfl, s, t⟩
theorem bR {w : Wd} {K : PySem.W.Frag} {v : V} {i : Int} (r : aA K T w v (.int i)) : v = .int i := by
 cases r
 rfl
theorem Kz {w : Wd} {K : PySem.W.Frag} {v : V} {i : Bool} (r : aA K T w v (.bl i)) : v = .bl i := by
 cases r
 rfl
theorem gK {w : Wd} {K : PySem.W.Frag} {v : V} {i : Str} (r : aA K T w v (.str i)) : v = .str i := by
 cases r
 rfl
theorem jF {K : PySem.W.Frag} {B : Bs} {w : Wd} {σ : L2.St} {H : Hp} {fr : Fr} {h : Hh} {p : Addr} {vs : List V} {ds : List D} {Q : V → Hp → Prop} (R : Rel K T B w σ H fr h) (r : aa K T w vs ds) (np : H p = none)
 (q : ∀ w' H' v, w.le w' → Rel K T B w' σ H' fr h → aA K T w' v (.tup ds) → Q v H') : Q (.ref p) (upd H p (.tup vs)) :=
 q (w.add p (.tup vs)) _ _ (Wd.le_add (R.nP np).1) (R.laid np) (.tup (SqT.of (by show upd w.F p _ p = _; rw [upd_same])) (r.mono (Wd.le_add (R.nP np).1)))
theorem lV {K : PySem.W.Frag} {B : Bs} {w : Wd} {σ : L2.St} {H : Hp} {fr : Fr} {h : Hh} {p : Addr} {vs : List V} {ds : List D} {Q : V → Hp → Prop} (R : Rel K T B w σ H fr h) (r : aa K T w vs ds) (np : H p = none)
 (q : ∀ w' H' v, w.le w' → Rel K T B w' σ H' fr h → vE K T B σ w' H' fr v (.nl ds) → Q v H') : Q (.ref p) (upd H p (.lst vs)) :=
 q w _ _ (Wd.le_refl w) (R.temp np) (.inr ⟨p, _, rfl, R.own_new np, R.loose_new np, upd_same, .lst r⟩)
theorem eY (sa : ao X T W a ma) (sb : ao X T W b mb) : du X T W (.BinOp a .Add b pos) (aM dw ma mb) := fun B w σ H fr h Q r1 p =>
 bB (pe_op pA aK aK) (Bo (VR := vE) sa sb (fun B w σ H fr h x y d e z Q R rx ry q k => by
  unfold dw at q
  split at q
  · cases q
    rw [bR rx, bR ry]
    exact eU op_add ⟨_, _, rfl, rfl, k w H _ (Wd.le_refl _) R (.inl (.int _))⟩
  · split at q
    · rename_i hl
      cases q
      rw [gK rx, gK ry]
      exact eU op_add_str ⟨_, _, rfl, rfl, cW hl, k w H _ (Wd.le_refl _) R (.inl (.str _))⟩
    · cases q
  · split at q
    · rename_i ds es hl
      cases q
      obtain ⟨p1, vs, rfl, s1, r1⟩ := iK rx
      obtain ⟨p2, us, rfl, s2, r2⟩ := iK ry
      refine eU op_catA ⟨p1, p2, vs, us, rfl, rfl, aV R.sub s1, aV R.sub s2, by rw [r1.length, r2.length]; exact cW hl, fun e0 => ?_, fun _ e0 => ?_, fun _ _ p np => ?_⟩
      · subst e0
        cases r1
        exact k w H _ (Wd.le_refl _) R (.inl ry)
      · subst e0
        cases r2
        rw [WN] at k
        exact k w H _ (Wd.le_refl _) R (.inl rx)
      · exact jF R (r1.append r2) np fun w' H' v l R' r' => k w' H' v l R' (.inl r')
    · cases q
  · split at q
    · rename_i ds es hl
      cases q
      obtain ⟨p1, vs, rfl, s1, r1⟩ := yE rx
      obtain ⟨p2, us, rfl, s2, r2⟩ := yE ry
      refine eU op_cat ⟨p1, p2, vs, us, rfl, rfl, R.sub _ _ s1, R.sub _ _ s2, by rw [r1.length, r2.length]; exact cW hl, fun p np => ?_⟩
      exact lV R (r1.append r2) np k
    · cases q
  · cases q) B w σ H fr h Q r1 p)
def eO (C : Int → Int → Bool) (g : Int → Int → Int) (_ : Hh) : D → D → Option D
 | .int i, .int j => if C i j then some (.int (g i j)) else none
 | _, _ => none
theorem jL {op : Operator} {P : Int → Int → Prop} {C : Int → Int → Bool} {g : Int → Int → Int} (o : OpR X (binaryOp op) (rI P fun i j => .int (g i j))) (hC : ∀ i j, C i j = true → P i j) (sa : ao X T W a ma) (sb : ao X T W b mb) :
 ao X T W (.BinOp a op b pos) (aM (eO C g) ma mb) := fun B w σ H fr h Q r1 p =>
 bB (pe_op pA aK aK) (Bo (VR := vV) sa sb (fun B w σ H fr h x y d e z Q R rx ry q k => by
  unfold eO at q
  split at q
  · split at q
    · rename_i hc
      cases q
      rw [bR rx, bR ry]
      exact eU o ⟨_, _, rfl, rfl, hC _ _ hc, k w H _ (Wd.le_refl _) R (.int _)⟩
    · cases q
  · cases q) B w σ H fr h Q r1 p)
def yF (_ _ : Int) : Bool := true
def Bp (i j : Int) : Bool := decide (i.natAbs.log2 + j.natAbs.log2 < 1000000)
def Fv (_ j : Int) : Bool := decide (0 < j)
def Br (_ j : Int) : Bool := decide (0 < j) && decide (j.natAbs.log2 < 9000)
def vh (i j : Int) : Bool := decide (0 ≤ j) && decide (j ≤ 1000000) && decide (i.natAbs < 2 ^ 64)
abbrev KC := eO yF (fun i j => i - j)
abbrev Bt := eO Bp (fun i j => i * j)
abbrev vm := eO Fv (fun i j => i % j)
abbrev Fw := eO Br (fun i j => i / j)
abbrev Bu := eO vh (fun i j => i ^ j.toNat)
theorem Iz : OpR X (binaryOp .Sub) (rI (fun _ _ => True) fun i j => .int (i - j)) := fun pins s σ H x y v u Q I rx ry ⟨i, j, e1, e2, _, q⟩ => op_sub pins s σ H x y v u Q I rx ry ⟨i, j, e1, e2, q⟩
theorem KD (sa : ao X T W a ma) (sb : ao X T W b mb) : ao X T W (.BinOp a .Sub b pos) (aM KC ma mb) := jL Iz (fun _ _ _ => trivial) sa sb
theorem yG (sa : ao X T W a ma) (sb : ao X T W b mb) : ao X T W (.BinOp a .Mult b pos) (aM Bt ma mb) := jL op_mulW (fun i j h => by
 have h' : decide (i.natAbs.log2 + j.natAbs.log2 < 1000000) = true := h
 have h2 : i.natAbs.log2 + j.natAbs.log2 < 1000000 := of_decide_eq_true h'
 exact h2) sa sb
theorem pD (sa : ao X T W a ma) (sb : ao X T W b mb) : ao X T W (.BinOp a .Mod b pos) (aM vm ma mb) := jL op_mod (fun _ j h => by
 have h' : decide (0 < j) = true := h
 exact of_decide_eq_true h') sa sb
theorem Dd (sa : ao X T W a ma) (sb : ao X T W b mb) : ao X T W (.BinOp a .FloorDiv b pos) (aM Fw ma mb) := jL op_fdivW (fun _ _ h => by
 obtain ⟨h1, h2⟩ := Bool.and_eq_true_iff.mp h
 exact ⟨of_decide_eq_true h1, of_decide_eq_true h2⟩) sa sb
theorem yH (sa : ao X T W a ma) (sb : ao X T W b mb) : ao X T W (.BinOp a .Pow b pos) (aM Bu ma mb) := jL op_pow (fun _ _ h => by
 obtain ⟨h1, h3⟩ := Bool.and_eq_true_iff.mp h
 obtain ⟨h1, h2⟩ := Bool.and_eq_true_iff.mp h1
 exact ⟨of_decide_eq_true h1, of_decide_eq_true h2, of_decide_eq_true h3⟩) sa sb
def Uk : D → Option D
 | .int i => some (.int (-i))
 | _ => none
def aZ {α : Type} (f : Hh → D → Option α) (ma : M D) : M α := ma.bind fun x fr h => M.opt (f h x) fr h
theorem Fy {α β : Type} {VR1 : bG V D} {VR : bG β α} {f : Hh → D → Option α} {r : V → Hp → (β → Hp → Prop) → Prop} (sa : bO (WE X a) X.K T W VR1 ma)
 (hr : ∀ B w σ H fr h x d z Q, Rel X.K T B w σ H fr h → VR1 X.K T B σ w H fr x d → f h d = some z → (∀ w' H' v, w.le w' → Rel X.K T B w' σ H' fr h → VR X.K T B σ w' H' fr v z → Q v H') → r x H Q) :
 bO (fun σ H Q => WE X a σ H fun x H1 => r x H1 Q) X.K T W VR (aZ f ma) := fun B w σ H fr h Q r1 p =>
 sa B w σ H fr h _ r1 (ak.bind (VR := VR1 X.K T B σ) p fun d fr1 h1 w1 H1 x e1 l1 r1 rx p1 => by
  cases q : f h1 d with
  | none => rw [q] at p1; exact p1.elim
  | some z =>
    rw [q] at p1
    exact hr B w1 σ H1 fr1 h1 x d z Q r1 rx q p1)
def gh (X : Cx) (T : Tb) (VR2 : bG V D) (op : CmpOp) (f : Hh → D → D → Option Bool) : Prop :=
 ∀ B w σ H fr h x y d e c Q, Rel X.K T B w σ H fr h → aA X.K T w x d → VR2 X.K T B σ w H fr y e → f h d e = some c → Q (.bl c) H → rM X (compareOp op) x y H Q
def cInt (p : Int → Int → Bool) (_ : Hh) : D → D → Option Bool
 | .int i, .int j => some (p i j)
 | _, _ => none
theorem qR {op : CmpOp} {p : Int → Int → Bool} (o : OpR X (compareOp op) (rI0 fun i j => .bl (p i j))) : gh X T vV op (cInt p) := fun B w σ H fr h x y d e c Q R rx ry q k => by
 unfold cInt at q
 split at q
 · cases q
   rw [bR rx, bR ry]
   exact eU o ⟨_, _, rfl, rfl, k⟩
 · cases q
abbrev Pu := cInt fun i j => decide (i < j)
abbrev KH := cInt fun i j => decide (i ≤ j)
abbrev Px := cInt fun i j => decide (j < i)
abbrev Py := cInt fun i j => decide (j ≤ i)
theorem cmp_lt : gh X T vV .Lt Pu := qR op_lt
theorem cmp_le : gh X T vV .LtE KH := qR op_le
theorem cmp_gt : gh X T vV .Gt Px := qR op_gt
theorem cmp_ge : gh X T vV .GtE Py := qR op_ge
def rJ (_ : Hh) (d e : D) : Option Bool := match d.toP, e.toP with
 | some p, some q => if SeqAt.shaped p && SeqAt.shaped q then some (PyData.eqv p q) else none
 | _, _ => none
def De (h : Hh) (d e : D) : Option Bool := (rJ h d e).map (!·)
theorem yI {h : Hh} {d e : D} {c : Bool} (q : rJ h d e = some c) : ∃ p p', d.toP = some p ∧ e.toP = some p' ∧ SeqAt.shaped p = true ∧ SeqAt.shaped p' = true ∧ c = PyData.eqv p p' := by
 unfold rJ at q
 split at q
 · rename_i p p' e1 e2
   split at q
   · rename_i hs
     obtain ⟨h1, h2⟩ := Bool.and_eq_true_iff.mp hs
     cases q
     exact ⟨p, p', e1, e2, h1, h2, rfl⟩
   · cases q
 · cases q
theorem cmp_eq (C : Cq X T W k) : gh X T vO .Eq rJ := fun B w σ H fr h x y d e c Q R rx ry q kk => by
 obtain ⟨p, p', e1, e2, s1, s2, rfl⟩ := yI q
 exact eU (op_eqD (by have := C.u; omega)) ⟨p, p', tV R.sub rx e1, Dc R ry e2, s1, s2, kk⟩
theorem tW (C : Cq X T W k) : gh X T vO .NotEq De := fun B w σ H fr h x y d e c Q R rx ry q kk => by
 obtain ⟨c', q', rfl⟩ := Option.map_eq_some_iff.mp q
 obtain ⟨p, p', e1, e2, s1, s2, rfl⟩ := yI q'
 exact eU (op_neD (by have := C.u; omega)) ⟨p, p', tV R.sub rx e1, Dc R ry e2, s1, s2, kk⟩
def D.flat : D → Bool
 | .non => true
 | .bl _ => true
 | .int _ => true
 | .str _ => true
 | _ => false
def D.eqf : D → D → Bool
 | .non, .non => true
 | .bl a, .bl b => a == b
 | .bl a, .int b => (if a then 1 else 0) == b
 | .int a, .bl b => a == (if b then 1 else 0)
 | .int a, .int b => a == b
 | .str a, .str b => a == b
 | _, _ => false
theorem sr {K : PySem.W.Frag} {w : Wd} {v : V} {d : D} (r : aA K T w v d) (f : d.flat = true) : flatV v = true := by
 cases r <;> first | rfl | cases f
theorem pF {K : PySem.W.Frag} {w : Wd} : ∀ {vs : List V} {ds : List D}, aa K T w vs ds → ds.all D.flat = true → vs.all flatV = true
 | _, _, .nil, _ => rfl
 | _, _, .cons h t, f => by
   rw [List.all_cons, Bool.and_eq_true] at f ⊢
   exact ⟨sr h f.1, pF t f.2⟩
theorem IK {K : PySem.W.Frag} {w : Wd} {v u : V} {d e : D} (r : aA K T w v d) (s : aA K T w u e) : eqV v u = D.eqf d e := by
 cases r <;> cases s <;> rfl
theorem vo {K : PySem.W.Frag} {w : Wd} {u : V} {e : D} (s : aA K T w u e) : ∀ {vs : List V} {ds : List D}, aa K T w vs ds → inV u vs = ds.any fun z => D.eqf z e
 | _, _, .nil => rfl
 | _, _, @aa.cons _ _ _ v d vs ds h t => by
   have q := vo s t
   unfold inV at q ⊢
   rw [List.any_cons, List.any_cons, IK h s, q]
def tX (h : Hh) (x y : D) : Option Bool := match x, y with
 | .str c, .str z => if c.length = 1 then some (decide (c.cps.toList.headD 0 ∈ z.cps.toList)) else some (!(Builtin.Str.occurrences z c 0 z.length 1).isEmpty)
 | x, y => match y.its h with
   | some l => if x.flat && l.all D.flat then some (l.any fun z => D.eqf z x) else none
   | none => none
def KJ (h : Hh) (x y : D) : Option Bool := (tX h x y).map (!·)
theorem str1 {c : Str} (h : c.length = 1) : c = ⟨#[c.cps.toList.headD 0]⟩ := by
 obtain ⟨⟨l⟩⟩ := c
 have h' : l.length = 1 := h
 match l, h' with
 | [x], _ => rfl
theorem pG : gh X T vO .In tX := fun B w σ H fr h x y d e c Q R rx ry q kk => by
 unfold tX at q
 split at q
 · rename_i cc z
   have ey : y = .str z := by
    rcases ry with ry | ⟨_, _, _, _, r⟩
    · exact gK ry
    · cases r
   rw [gK rx, ey]
   split at q
   · rename_i h1
     cases q
     exact eU op_in_sign ⟨_, z, by rw [← str1 h1], rfl, kk⟩
   · cases q
     exact eU op_in_str ⟨cc, z, rfl, rfl, kk⟩
 · split at q
   · rename_i l el
     split at q
     · rename_i hf
       obtain ⟨f1, f2⟩ := Bool.and_eq_true_iff.mp hf
       cases q
       obtain ⟨p, vs, rfl, rl, sq⟩ := iJ R ry el
       refine eU op_in_seq ⟨p, vs, rfl, sq, sr rx f1, pF rl f2, ?_⟩
       rw [if_neg Bool.false_ne_true, vo rx rl]
       exact kk
     · cases q
   · cases q
theorem IV : gh X T vO .NotIn KJ := fun B w σ H fr h x y d e c Q R rx ry q kk => by
 obtain ⟨c', q', rfl⟩ := Option.map_eq_some_iff.mp q
 clear q
 have q := q'
 clear q'
 unfold tX at q
 split at q
 · rename_i cc z
   have ey : y = .str z := by
    rcases ry with ry | ⟨_, _, _, _, r⟩
    · exact gK ry
    · cases r
   rw [gK rx, ey]
   split at q
   · rename_i h1
     cases q
     exact eU op_notIn_sign ⟨_, z, by rw [← str1 h1], rfl, kk⟩
   · cases q
     exact eU op_notin_str ⟨cc, z, rfl, rfl, kk⟩
 · split at q
   · rename_i l el
     split at q
     · rename_i hf
       obtain ⟨f1, f2⟩ := Bool.and_eq_true_iff.mp hf
       cases q
       obtain ⟨p, vs, rfl, rl, sq⟩ := iJ R ry el
       refine eU op_notIn_seq ⟨p, vs, rfl, sq, sr rx f1, pF rl f2, ?_⟩
       rw [if_pos rfl, vo rx rl]
       exact kk
     · cases q
   · cases q
def D.isNon : D → Bool
 | .non => true
 | _ => false
def Vx (_ : Hh) (d e : D) : Option Bool := if e.isNon then some d.isNon else none
def Ul (_ : Hh) (d e : D) : Option Bool := if e.isNon then some (!d.isNon) else none
theorem cI {op : CmpOp} {VR2 : bG V D} {f : Hh → D → D → Option Bool} (o : gh X T VR2 op f) (sa : ao X T W a ma) (sb : bO (WE X b) X.K T W VR2 mb) (hm : behindInMarks op b = false := by with_unfolding_all rfl) :
 jK X T W (.Compare a [op] [b] pos) (aM f ma mb) := fun B w σ H fr h Q r1 p =>
 tU (pt_cmpR pA aK aK hm) (Bo (VR := vB) (r := fun x y H Q => rM X (compareOp op) x y H fun z H' => ∃ k, z = .bl k ∧ Q k H') sa sb (fun B w σ H fr h x y d e z Q R rx ry q k =>
  o B w σ H fr h x y d e z _ R rx ry q ⟨z, rfl, k w H z (Wd.le_refl _) R rfl⟩) B w σ H fr h Q r1 p)
def Vy (m : M Bool) : M D := m.bind fun b => M.ret (.bl b)
def Df (f g : Hh → D → D → Option Bool) (ma mb mc : M D) : M Bool := ma.bind fun x => mb.bind fun y fr h => match f h x y with
 | some true => (mc.bind fun z fr h => M.opt (g h y z) fr h) fr h
 | some false => .ok false fr h
 | none => .err
theorem FJ {op op' : CmpOp} {f g : Hh → D → D → Option Bool} (o : gh X T vV op f) (o' : gh X T vV op' g) (sa : ao X T W a ma) (sb : ao X T W b mb) (sc : ao X T W c mc) (hm : lastMarks [op, op'] [b, c] = false := by with_unfolding_all rfl) :
 jK X T W (.Compare a [op, op'] [b, c] pos) (Df f g ma mb mc) := fun B w σ H fr h Q r1 p =>
 tU (pt_chain pA pA aK aK aK hm) (sa B w σ H fr h _ r1 (ak.bind (VR := vV X.K T B σ) p fun d fr1 h1 w1 H1 x e1 l1 r1 rx p1 => sb B w1 σ H1 fr1 h1 _ r1 (ak.bind (VR := vV X.K T B σ) p1 fun e fr2 h2 w2 H2 y e2 l2 r2 ry p2 => by
  cases q : f h2 d e with
  | none => rw [q] at p2; exact p2.elim
  | some k =>
    rw [q] at p2
    cases k with
    | false => exact o B w2 σ H2 fr2 h2 x y d e false _ r2 (rx.mono l2) ry q ⟨false, rfl, ⟨false, rfl, p2 w2 H2 false (Wd.le_refl _) r2 rfl⟩⟩
    | true => exact o B w2 σ H2 fr2 h2 x y d e true _ r2 (rx.mono l2) ry q ⟨true, rfl, by
     show WE X c σ H2 _
     exact sc B w2 σ H2 fr2 h2 _ r2 (ak.bind (VR := vV X.K T B σ) p2 fun z fr3 h3 w3 H3 zv e3 l3 r3 rz p3 => by
      cases q' : g h3 e z with
      | none => rw [q'] at p3; exact p3.elim
      | some k' =>
        rw [q'] at p3
        exact o' B w3 σ H3 fr3 h3 y zv e z k' _ r3 (ry.mono l3) rz q' ⟨k', rfl, p3 w3 H3 k' (Wd.le_refl _) r3 rfl⟩)⟩)))
def D.tb : D → Option Bool
 | .bl b => some b
 | _ => none
theorem Dg {K : PySem.W.Frag} {B : Bs} {σ : L2.St} {w : Wd} {H : Hp} {fr : Fr} {v : V} {d : D} {b : Bool} (r : vO K T B σ w H fr v d) (e : d.tb = some b) : v = .bl b := by
 rcases r with r | ⟨_, _, _, _, r⟩
 · cases r <;> first | (cases e; rfl) | cases e
 · cases r <;> cases e
def D.tru (h : Hh) (d : D) : Option Bool := match d with
 | .non => some false
 | .bl b => some b
 | .int i => some (i != 0)
 | .str z => if z.length ≤ big then some ((z.length : Int) != 0) else none
 | d => (d.its h).map fun l => !l.isEmpty
theorem wy {K : PySem.W.Frag} {w : Wd} {vs : List V} {ds : List D} (r : aa K T w vs ds) : vs.isEmpty = ds.isEmpty := by
 cases r <;> rfl
theorem yJ (s : m9 X T W e m) (he : ∀ whole, isTrue e X.env whole = (do let v ← whole; standAt e.pos; holding [v] (truthy v)) := by intro _; rfl) : jK X T W e (aZ D.tru m) := fun B w σ H fr h Q r1 p =>
 tU (pt_truth aK he) (Fy (VR := vB) (r := fun x H Q => ∃ k, TruV X.K x H k ∧ Q k H) s (fun B w σ H fr h x d z Q R rx q k => by
  refine ⟨z, ?_, k w H z (Wd.le_refl _) R rfl⟩
  have viaIts : ∀ {l : List D}, d.its h = some l → (!l.isEmpty) = z → TruV X.K x H z := fun {l} el ez => by
   obtain ⟨p, vs, rfl, rl, sq⟩ := iJ R rx el
   rcases sq with sq | sq
   · exact .inl ⟨vs, sq, by rw [← ez, wy rl]⟩
   · exact .inr (.inl ⟨vs, sq, by rw [← ez, wy rl]⟩)
  unfold D.tru at q
  split at q
  · rcases rx with rx | ⟨_, _, _, _, rx⟩
    · cases rx
      cases q
      rfl
    · cases rx
  · rcases rx with rx | ⟨_, _, _, _, rx⟩
    · cases rx
      cases q
      rfl
    · cases rx
  · rcases rx with rx | ⟨_, _, _, _, rx⟩
    · cases rx
      cases q
      rfl
    · cases rx
  · split at q
    · rename_i hl
      rcases rx with rx | ⟨_, _, _, _, rx⟩
      · cases rx
        cases q
        exact ⟨cW hl, rfl⟩
      · cases rx
    · cases q
  · obtain ⟨l, e1, e2⟩ := Option.map_eq_some_iff.mp q
    exact viaIts e1 e2) B w σ H fr h Q r1 p)
def yK (m : M Bool) : M Bool := m.bind fun b => M.ret !b
def Um (m n : M Bool) : M Bool := m.bind fun b => if b then n else M.ret false
def Ag (m n : M Bool) : M Bool := m.bind fun b => if b then M.ret true else n
variable {n ta tb tc : M Bool} {rest : List Expr}
theorem tY (s : jK X T W a n) : jK X T W (.UnaryOp .Not a pos) (yK n) := fun B w σ H fr h Q r1 p =>
 tU (pt_not lQ) (s B w σ H fr h _ r1 (ak.bind (VR := vB X.K T B σ) p fun d fr1 h1 w1 H1 x e1 l1 r1 rx p1 => by
  have rx' : x = d := rx
  subst rx'
  exact p1 w1 H1 _ (Wd.le_refl _) r1 rfl))
theorem yg (s : Bm X T W e n) : jK X T W e n := fun B w σ H fr h Q r1 p => tU CW.pt (s B w σ H fr h Q r1 p)
theorem tZ (s : jK X T W a ta) : Bm X T W (.BoolOp .Or [a] pos) ta := fun B w σ H fr h Q r1 p => Ho (pw_or1 lQ) (s B w σ H fr h Q r1 p)
theorem t7 (s : jK X T W a ta) (t : Bm X T W (.BoolOp .Or (b :: rest) pos) tb) : Bm X T W (.BoolOp .Or (a :: b :: rest) pos) (Ag ta tb) := fun B w σ H fr h Q r1 p =>
 Ho (pw_or lQ CW) (s B w σ H fr h _ r1 (ak.bind (VR := vB X.K T B σ) p fun d fr1 h1 w1 H1 x e1 l1 r1 rx p1 => by
  have rx' : x = d := rx
  subst rx'
  cases x with
  | false => exact t B w1 σ H1 fr1 h1 Q r1 p1
  | true => exact p1 w1 H1 true (Wd.le_refl _) r1 rfl))
def Hr (m : M D) : M D := m.bind fun d => M.opt (d.tb.map fun b => .bl (!b))
def Ht (m n : M D) : M D := m.bind fun d => match d.tb with
 | some true => n
 | some false => M.ret (.bl false)
 | none => M.opt none
def Uo (m n : M D) : M D := m.bind fun d => match d.tb with
 | some true => M.ret (.bl true)
 | some false => n
 | none => M.opt none
theorem KN {op : BoolOp} (s : ao X T W a ma) : ao X T W (.BoolOp op [a] pos) ma := fun B w σ H fr h Q r1 p => bB (pe_one aK) (s B w σ H fr h Q r1 p)
theorem KQ (s : ao X T W a ma) : ao X T W (.UnaryOp .Not a pos) (Hr ma) := fun B w σ H fr h Q r1 p =>
 bB (pe_not aK) (s B w σ H fr h _ r1 (ak.bind (VR := vV X.K T B σ) p fun d fr1 h1 w1 H1 x e1 l1 r1 rx p1 => by
  cases q : d.tb with
  | none => rw [q] at p1; exact p1.elim
  | some c =>
    rw [q] at p1
    exact ⟨c, Dg (fr := fr1) (B := B) (σ := σ) (H := H1) (.inl rx) q, p1 w1 H1 _ (Wd.le_refl _) r1 (.bl _)⟩))
theorem KR (s : ao X T W a ma) (t : ao X T W (.BoolOp .And (b :: rest) pos) mb) : ao X T W (.BoolOp .And (a :: b :: rest) pos) (Ht ma mb) := fun B w σ H fr h Q r1 p =>
 bB (pe_and aK aK) (s B w σ H fr h _ r1 (ak.bind (VR := vV X.K T B σ) p fun d fr1 h1 w1 H1 x e1 l1 r1 rx p1 => by
  cases q : d.tb with
  | none => rw [q] at p1; exact p1.elim
  | some c =>
    rw [q] at p1
    refine ⟨c, Dg (fr := fr1) (B := B) (σ := σ) (H := H1) (.inl rx) q, ?_⟩
    cases c with
    | true => exact t B w1 σ H1 fr1 h1 Q r1 p1
    | false => exact p1 w1 H1 _ (Wd.le_refl _) r1 (.bl _)))
def Ah {α : Type} (t : M Bool) (m n : M α) : M α := t.bind fun b => if b then m else n
theorem s_if {VR : bG V D} (st : jK X T W c tc) (sa : bO (WE X a) X.K T W VR ma) (sb : bO (WE X b) X.K T W VR mb) : bO (WE X (.IfExp c a b pos)) X.K T W VR (Ah tc ma mb) := fun B w σ H fr h Q r1 p =>
 bB (pe_ifExp lQ aK aK) (st B w σ H fr h _ r1 (ak.bind (VR := vB X.K T B σ) p fun d fr1 h1 w1 H1 x e1 l1 r1 rx p1 => by
  have rx' : x = d := rx
  subst rx'
  cases x with
  | true => exact sa B w1 σ H1 fr1 h1 Q r1 p1
  | false => exact sb B w1 σ H1 fr1 h1 Q r1 p1))
def Om : Expr → Bool
 | .Starred .. => true
 | _ => false
theorem aW {e : Expr} {es : List Expr} {env : Env} (h : Om e = false) : starEach (e :: es) env = (false, eval e env) :: starEach es env := by
 cases e <;> first | (cases h; done) | rfl
def az : List (M D) → M (List D)
 | [] => M.ret []
 | m :: ms => m.bind fun d => (az ms).bind fun ds => M.ret (d :: ds)
variable {ms : List (M D)}
theorem bf : pB X T W [] (az []) := fun B w σ H fr h Q r1 p => Hq pa_nil (p w H _ (Wd.le_refl _) r1 .nil)
theorem aC (s : ao X T W e m) (t : pB X T W es (az ms)) (hs : starEach (e :: es) X.env = (false, eval e X.env) :: starEach es X.env := by exact aW rfl) : pB X T W (e :: es) (az (m :: ms)) := fun B w σ H fr h Q r1 p =>
 Hq (pa_cons aK yD hs) (s B w σ H fr h _ r1 (ak.bind (VR := vV X.K T B σ) p fun d fr1 h1 w1 H1 x e1 l1 r1 rx p1 =>
  t B w1 σ H1 fr1 h1 _ r1 (ak.bind (VR := vA X.K T B σ) p1 fun ds fr2 h2 w2 H2 vs e2 l2 r2 rs p2 => p2 w2 H2 _ (Wd.le_refl _) r2 (.cons (rx.mono l2) rs))))
def jM (ms : List (M D)) : M D := (az ms).bind fun ds => M.opt (if ds.length ≤ big then some (.tup ds) else none)
def gA (ms : List (M D)) : M D := (az ms).bind fun ds => M.opt (if ds.length ≤ big then some (.nl ds) else none)
theorem lW {x1 : Nat} (s : pB X T W es (az ms)) : ao X T W (.Tuple es x1 pos) (jM ms) := fun B w σ H fr h Q r1 p =>
 bB (pe_tup yD) (s B w σ H fr h _ r1 (ak.bind (VR := vA X.K T B σ) p fun ds fr1 h1 w1 H1 vs e1 l1 r1 rs p1 => by
  by_cases hl : ds.length ≤ big
  · rw [if_pos hl] at p1
    exact ⟨by rw [aa.length rs]; exact cW hl, fun q nq => jF r1 rs nq p1⟩
  · rw [if_neg hl] at p1
    exact p1.elim))
theorem jN (s : pB X T W es (az ms)) : du X T W (.List es pos) (gA ms) := fun B w σ H fr h Q r1 p =>
 bB (pe_lst yD) (s B w σ H fr h _ r1 (ak.bind (VR := vA X.K T B σ) p fun ds fr1 h1 w1 H1 vs e1 l1 r1 rs p1 => by
  by_cases hl : ds.length ≤ big
  · rw [if_pos hl] at p1
    exact ⟨by rw [aa.length rs]; exact cW hl, fun q nq => lV r1 rs nq p1⟩
  · rw [if_neg hl] at p1
    exact p1.elim))
end
end Pk
namespace Pk
open PySem PySem.Spec L2
section
variable {X : Cx} {T : Tb} {W : WX} {k : Nat} {e a b c o : Expr} {es : List Expr} {m ma mb mc : M D} {pos p2 pf : Pos}
def eQ (h : Hh) (d i : D) : Option D := match d, i with
 | .str z, .int i => if z.length ≤ big then (atI z.cps.toList i).map fun c => .str ⟨#[c]⟩ else none
 | d, .int i => match d.its h with
   | some l => atI l i
   | none => none
 | _, _ => none
def KY (X : Cx) : R2 := fun x y H Q => ∀ value slice pins s σ v u, Inv X pins σ H s → RelV x v → RelV y u → subscripted slice false v u = operate [v, u] (getItem v u) → wpAny (model X.prog X.w) X.A (PyProof.Rows.subscriptTail value slice v u) (EP X pins σ Q) X.xe s
theorem KZ : IxR X (KY X) := fun value slice pins s σ H x y v u Q I rx ry h hs => h value slice pins s σ v u I rx ry hs
theorem yL {r : R2} (o : IxR X r) {x y : V} {H : Hp} {Q : VK} (h : r x y H Q) : KY X x y H Q := fun value slice pins s σ v u I rx ry hs => o value slice pins s σ H x y v u Q I rx ry h hs
theorem IW {K : PySem.W.Frag} {w : Wd} {vs : List V} {ds : List D} {i : Int} {d : D} (r : aa K T w vs ds) (e : atI ds i = some d) : ∃ v, atI vs i = some v ∧ aA K T w v d := by
 unfold atI at e ⊢
 rw [r.length]
 cases q : ixN ds.length i with
 | none => rw [q] at e; cases e
 | some j =>
   rw [q] at e
   exact r.get (show ds[j]? = some d from e)
theorem yM {K : PySem.W.Frag} {B : Bs} {σ : L2.St} {w : Wd} {H : Hp} {fr : Fr} {v : V} {z : Str} (r : vO K T B σ w H fr v (.str z)) : v = .str z := by
 rcases r with r | ⟨_, _, _, _, r⟩
 · exact gK r
 · cases r
theorem K6 {B : Bs} {w : Wd} {σ : L2.St} {H : Hp} {fr : Fr} {h : Hh} {x y : V} {d i z : D} {Q : VK} (R : Rel X.K T B w σ H fr h) (rx : vO X.K T B σ w H fr x d) (ry : aA X.K T w y i) (q : eQ h d i = some z)
 (k : ∀ v, aA X.K T w v z → Q v H) : KY X x y H Q := by
 unfold eQ at q
 split at q
 · rename_i z' i'
   split at q
   · rename_i hl
     obtain ⟨c, ec, rfl⟩ := Option.map_eq_some_iff.mp q
     rw [yM rx, bR ry]
     exact yL ix_str ⟨z', i', c, rfl, rfl, cW hl, ec, k _ (.str _)⟩
   · cases q
 · rename_i i' _
   split at q
   · rename_i l el
     obtain ⟨p, vs, rfl, rl, sq⟩ := iJ R rx el
     obtain ⟨v, ev, rv⟩ := IW rl q
     rw [bR ry]
     rcases sq with sq | sq
     · exact yL ix_list ⟨p, vs, i', v, rfl, rfl, sq, ev, k v rv⟩
     · exact yL ix_tup ⟨p, vs, i', v, rfl, rfl, sq, ev, k v rv⟩
   · cases q
 · cases q
def cX (i : Nat) : M Unit := fun fr h => match fr[i]? with
 | some (some _) => .ok () fr h
 | _ => .err
def cU {α : Type} (i : Nat) (m : M α) (f : Hh → D → α → Option D) : M D := (cX i).bind fun _ => m.bind fun y => (aR i).bind fun d fr h => M.opt (f h d y) fr h
theorem yN {K : PySem.W.Frag} {B : Bs} {w : Wd} {σ : L2.St} {H : Hp} {fr : Fr} {h : Hh} {i : Nat} {α β : Type} {VR : Wd → Hp → Fr → β → α → Prop} {m : M α} {Q : β → Hp → Prop} (R : Rel K T B w σ H fr h) (p : ak K T B W VR w σ ((cX i).bind (fun _ => m) fr h) Q) :
 (∃ v, σ[i]? = some (some v)) ∧ ak K T B W VR w σ (m fr h) Q := by
 cases e1 : fr[i]? with
 | none =>
   have q : cX i fr h = .err := by unfold cX; rw [e1]
   rw [M.bind_err q] at p
   exact p.elim
 | some o =>
   cases o with
   | none =>
     have q : cX i fr h = .err := by unfold cX; rw [e1]
     rw [M.bind_err q] at p
     exact p.elim
   | some d =>
     have q : cX i fr h = .ok () fr h := by unfold cX; rw [e1]
     rw [M.bind_ok q] at p
     obtain ⟨v, e2, z⟩ := bA R e1
     exact ⟨⟨v, e2⟩, p⟩
theorem yO {K : PySem.W.Frag} {B : Bs} {w : Wd} {σ : L2.St} {H : Hp} {fr : Fr} {h : Hh} {i : Nat} {v : V} {α β : Type} {VR : Wd → Hp → Fr → β → α → Prop} {f : D → M α} {Q : β → Hp → Prop} (R : Rel K T B w σ H fr h) (ev : σ[i]? = some (some v))
 (p : ak K T B W VR w σ ((aR i).bind f fr h) Q) : ∃ d, vO K T B σ w H fr v d ∧ ak K T B W VR w σ (f d fr h) Q := by
 cases e1 : fr[i]? with
 | none =>
   have q : aR i fr h = .err := by unfold aR; rw [e1]
   rw [M.bind_err q] at p
   exact p.elim
 | some o =>
   cases o with
   | none =>
     have q : aR i fr h = .err := by unfold aR; rw [e1]
     rw [M.bind_err q] at p
     exact p.elim
   | some d =>
     have q : aR i fr h = .ok d fr h := by unfold aR; rw [e1]
     rw [M.bind_ok q] at p
     obtain ⟨v', e2, z⟩ := bA R e1
     rw [ev] at e2
     cases e2
     refine ⟨d, ?_, p⟩
     cases z with
     | val rd => exact .inl rd
     | own O eH rd => exact .inr ⟨_, _, rfl, eH, rd⟩
theorem fK (i : Nat) {x : Str} {px : Pos} (sb : ao X T W b mb) (hs : PlainIx b := by intro _ _; rfl) (hN : X.N[i]? = some x := by rfl) (hv : Vis X.env.scope x := by first | exact Or.inl rfl | exact Or.inr (Or.inl rfl) | exact Or.inr (Or.inr rfl)) (hd : (x == ("__debug__" : Str)) = false := by decide)
 (hcd : (x == ("__classdict__" : Str)) = false := by decide) : ao X T W (.Subscript (.Name x px) b pos) (cU i mb eQ) := fun B w σ H fr h Q r1 p => by
 obtain ⟨⟨v, ev⟩, p⟩ := yN r1 p
 refine bB (pe_ix KZ (pe_var hN hv hd hcd) aK hs) ⟨v, ev, sb B w σ H fr h _ r1 (ak.bind (VR := vV X.K T B σ) p fun y fr1 h1 w1 H1 u e1 l1 r2 ru p1 => ?_)⟩
 obtain ⟨d, rd, p2⟩ := yO r2 ev p1
 cases q : eQ h1 d y with
 | none => rw [q] at p2; exact p2.elim
 | some z =>
   rw [q] at p2
   exact K6 r2 rd ru q fun v' rv => p2 w1 H1 v' (Wd.le_refl _) r2 rv
def Hu (X : Cx) : V → Option Int → Option Int → Hp → VK → Prop := fun x lo hi H Q => ∀ pins s σ v vl vu sl, Inv X pins σ H s → RelV x v → s.heap.IsSliceOf sl vl vu .none → IsPart vl lo → IsPart vu hi →
    ∃ T id, typeLookup (.type T) "__getitem__" = pure (some (.builtin id)) ∧ s.TypeIs v T ∧ wpAny (model X.prog X.w) X.A (getItem v (.ref sl)) (EP X pins σ Q) X.xe s
theorem K7 : SlR X (Hu X) := fun pins s σ H x v vl vu lo hi sl Q I rx hs pl pu h => h pins s σ v vl vu sl I rx hs pl pu
theorem yP {r : V → Option Int → Option Int → Hp → VK → Prop} (o : SlR X r) {x : V} {lo hi : Option Int} {H : Hp} {Q : VK} (h : r x lo hi H Q) : Hu X x lo hi H Q := fun pins s σ v vl vu sl I rx hs pl pu => o pins s σ H x v vl vu lo hi sl Q I rx hs pl pu h
def WO (X : Cx) (e : Option Expr) : TO := fun σ H Q => ∀ pins s, Inv X pins σ H s → wpAny (model X.prog X.w) X.A (evalPart e X.env) (fun u s' => ∃ o H', Inv X pins σ H' s' ∧ IsPart u o ∧ Q o H') X.xe s
theorem Dh {e : Option Expr} : PO X e (WO X e) := ⟨fun pins s σ H Q I h => h pins s I⟩
theorem Hv {e : Option Expr} {t : TO} (p : PO X e t) {σ : L2.St} {H : Hp} {Q : Option Int → Hp → Prop} (h : t σ H Q) : WO X e σ H Q := fun pins s I => p.run pins s σ H Q I h
def vI : bG (Option Int) (Option Int) := fun _ _ _ _ _ _ _ b c => b = c
abbrev Bv (X : Cx) (T : Tb) (W : WX) (e : Option Expr) (m : M (Option Int)) : Prop := bO (WO X e) X.K T W vI m
def K8 : M (Option Int) := M.ret none
def K9 (m : M D) : M (Option Int) := m.bind fun d => M.opt (match d with | .int i => some (some i) | _ => none)
theorem Ai : Bv X T W none K8 := fun B w σ H fr h Q r p => Hv po_none (p w H _ (Wd.le_refl _) r rfl)
theorem Aj (s : ao X T W e m) : Bv X T W (some e) (K9 m) := fun B w σ H fr h Q r p =>
 Hv (po_some aK) (s B w σ H fr h _ r (ak.bind (VR := vV X.K T B σ) p fun d fr1 h1 w1 H1 x e1 l1 r1 rx p1 => by
  cases rx with
  | int i => exact ⟨i, rfl, p1 w1 H1 _ (Wd.le_refl _) r1 rfl⟩
  | _ => exact (show False from p1).elim))
def cutD {α : Type} (xs : List α) (lo hi : Option Int) : List α := (xs.drop (HT.sIx xs.length 0 lo)).take (HT.sIx xs.length xs.length hi - HT.sIx xs.length 0 lo)
theorem Ak {K : PySem.W.Frag} {w : Wd} {vs : List V} {ds : List D} {lo hi : Option Int} (r : aa K T w vs ds) : aa K T w (cutV vs lo hi) (cutD ds lo hi) := by
 unfold cutV cutD
 rw [r.length]
 exact (r.drop _).take _
def lL (h : Hh) (d : D) (p : Option Int × Option Int) : Option D := match d with
 | .str z => if z.length ≤ big then some (.str (cutS z p.1 p.2)) else none
 | .tup l => some (.tup (cutD l p.1 p.2))
 | d => match d.der h with
   | .fl l => some (.nl (cutD l p.1 p.2))
   | .nl l => some (.nl (cutD l p.1 p.2))
   | .kl l => some (.nl (cutD l p.1 p.2))
   | _ => none
theorem Di {α : Type} {xs : List α} {lo hi : Option Int} (h1 : HT.sIx xs.length 0 lo = 0) (h2 : HT.sIx xs.length xs.length hi = xs.length) : cutD xs lo hi = xs := by
 unfold cutD
 rw [h1, h2, List.drop_zero, Nat.sub_zero, List.take_length]
theorem lX {K : PySem.W.Frag} {B : Bs} {w : Wd} {σ : L2.St} {H : Hp} {fr : Fr} {h : Hh} {v : V} {d : D} {l : List D} (R : Rel K T B w σ H fr h) (z : vO K T B σ w H fr v d) (e : d.der h = .fl l ∨ d.der h = .nl l ∨ d.der h = .kl l) :
 ∃ p vs, v = .ref p ∧ aa K T w vs l ∧ SqL K H p vs := by
 rcases z with z | ⟨p, o, rfl, eH, z⟩
 · cases z with
   | fl s r =>
     rcases e with e | e | e <;> cases e
     exact ⟨_, _, rfl, r, SqL.of (R.sub _ _ s)⟩
   | kl s r =>
     rcases e with e | e | e <;> cases e
     exact ⟨_, _, rfl, r, bU R.sub s⟩
   | @ref a n s =>
     have ln : n < h.length := by
      rw [← R.len]
      exact (List.getElem?_eq_some_iff.mp s).1
     obtain ⟨o, q, rr⟩ := R.cel n a h[n] s (Wx ln)
     have e0 : D.der h (.ref n) = h[n] := by
      unfold D.der
      dsimp only
      rw [Wx ln]
      rfl
     rw [e0] at e
     generalize h[n] = c at rr e
     cases rr with
     | lst r =>
       rcases e with e | e | e <;> cases e
       exact ⟨_, _, rfl, r, SqL.of q⟩
     | obj r => rcases e with e | e | e <;> cases e
     | dct _ r => rcases e with e | e | e <;> cases e
   | _ => rcases e with e | e | e <;> cases e
 · cases z with
   | lst r =>
     rcases e with e | e | e <;> cases e
     exact ⟨_, _, rfl, r, SqL.of eH⟩
   | obj r => rcases e with e | e | e <;> cases e
theorem La {B : Bs} {w : Wd} {σ : L2.St} {H : Hp} {fr : Fr} {h : Hh} {x : V} {d z : D} {lo hi : Option Int} {Q : VK} (R : Rel X.K T B w σ H fr h) (rx : vO X.K T B σ w H fr x d) (q : lL h d (lo, hi) = some z)
 (k : ∀ w' H' v, w.le w' → Rel X.K T B w' σ H' fr h → vE X.K T B σ w' H' fr v z → Q v H') : Hu X x lo hi H Q := by
 have fin : ∀ {l : List D}, (d.der h = .fl l ∨ d.der h = .nl l ∨ d.der h = .kl l) → z = .nl (cutD l lo hi) → Hu X x lo hi H Q := fun {l} el ez => by
  obtain ⟨p, vs, rfl, rl, sq⟩ := lX R rx el
  subst ez
  exact yP sl_list ⟨p, vs, rfl, sq, fun q nq => lV R (Ak rl) nq k⟩
 unfold lL at q
 split at q
 · split at q
   · rename_i hl
     cases q
     rw [yM rx]
     exact yP sl_str ⟨_, rfl, cW hl, k w H _ (Wd.le_refl _) R (.inl (.str _))⟩
   · cases q
 · cases q
   rcases rx with rx | ⟨_, _, _, _, r⟩
   · obtain ⟨p, vs, rfl, s, rl⟩ := iK rx
     refine yP sl_tupA ⟨p, vs, rfl, aV R.sub s, fun hw => ?_, fun _ q nq => jF R (Ak rl) nq fun w' H' v l R' r' => k w' H' v l R' (.inl r')⟩
     rw [rl.length] at hw
     refine k w H _ (Wd.le_refl _) R (.inl ?_)
     rw [Di hw.1 hw.2]
     exact rx
   · cases r
 · split at q
   · rename_i l el
     exact fin (.inl el) (by cases q; rfl)
   · rename_i l el
     exact fin (.inr (.inl el)) (by cases q; rfl)
   · rename_i l el
     exact fin (.inr (.inr el)) (by cases q; rfl)
   · cases q
def t8 (ml mh : M (Option Int)) : M (Option Int × Option Int) := ml.bind fun l => mh.bind fun u => M.ret (l, u)
variable {lo hi : Option Expr} {ml mh : M (Option Int)}
theorem Am (i : Nat) {x : Str} {px : Pos} (sl : Bv X T W lo ml) (sh : Bv X T W hi mh) (hN : X.N[i]? = some x := by rfl) (hv : Vis X.env.scope x := by first | exact Or.inl rfl | exact Or.inr (Or.inl rfl) | exact Or.inr (Or.inr rfl)) (hd : (x == ("__debug__" : Str)) = false := by decide)
 (hcd : (x == ("__classdict__" : Str)) = false := by decide) : du X T W (.Subscript (.Name x px) (.Slice lo hi none p2) pos) (cU i (t8 ml mh) lL) := fun B w σ H fr h Q r1 p => by
 obtain ⟨⟨v, ev⟩, p⟩ := yN r1 p
 have p0 : ak X.K T B W (vE X.K T B σ) w σ ((ml.bind fun l => mh.bind fun u => (aR i).bind fun d fr h => M.opt (lL h d (l, u)) fr h) fr h) Q := by
  have e : (t8 ml mh).bind (fun y => (aR i).bind fun d fr h => M.opt (lL h d y) fr h) fr h = (ml.bind fun l => mh.bind fun u => (aR i).bind fun d fr h => M.opt (lL h d (l, u)) fr h) fr h := by
   unfold t8 M.bind
   cases ml fr h with
   | ok l fr1 h1 => dsimp only; cases mh fr1 h1 <;> rfl
   | exc _ _ _ => rfl
   | err => rfl
  rw [← e]
  exact p
 refine bB (pe_slice K7 (pe_var hN hv hd hcd) Dh Dh) ⟨v, ev, sl B w σ H fr h _ r1 (ak.bind (VR := vI X.K T B σ) p0 fun l fr1 h1 w1 H1 l' e1 l1 r2 rl p1 => sh B w1 σ H1 fr1 h1 _ r2 (ak.bind (VR := vI X.K T B σ) p1 fun u fr2 h2 w2 H2 u' e2 l2 r3 ru p2 => ?_))⟩
 have rl' : l' = l := rl
 have ru' : u' = u := ru
 subst rl' ru'
 obtain ⟨d, rd, p3⟩ := yO r3 ev p2
 cases q : lL h2 d (l', u') with
 | none => rw [q] at p3; exact p3.elim
 | some z =>
   rw [q] at p3
   exact La r3 rd q p3
def Uq (ma : M D) (ml mh : M (Option Int)) : M D := ma.bind fun d => ml.bind fun l => mh.bind fun u fr h => M.opt (lL h d (l, u)) fr h
variable {x : Str}
theorem FP {VR1 VR : bG V D} {id : String} {f : Hh → D → Option D} (sa : bO (WE X a) X.K T W VR1 ma) (hr : ∀ B w σ H fr h x d z Q, Rel X.K T B w σ H fr h → VR1 X.K T B σ w H fr x d → f h d = some z → (∀ w' H' v, w.le w' → Rel X.K T B w' σ H' fr h → VR X.K T B σ w' H' fr v z → Q v H') → cM X (.builtin id) [x] H Q)
 (hm : X.mg x = none) (hg : Gl X x := by rfl) (hv : bootBuiltins x = some (.builtin id) := by decide +kernel) (hn : x ≠ "__name__" := by decide) (hdb : (x == ("__debug__" : Str)) = false := by decide)
 (he : starEach (a :: []) X.env = (false, eval a X.env) :: starEach [] X.env := by exact aW rfl) (hpl : (backTo pos (starEach [] X.env)).any (·.1) = false := by rfl) : bO (WE X (.Call (.Name x pf) [a] [] pos)) X.K T W VR (aZ f ma) := fun B w σ H fr h Q r1 p =>
 bB (pe_callB rZ hg hm hv (pa_cons aK pa_nil he) hn hdb he hpl) (Fy (r := fun x H Q => cM X (.builtin id) [x] H Q) sa hr B w σ H fr h Q r1 p)
theorem FQ {VR1 VR : bG V D} {id : String} {f : Hh → D → Option D} (sa : bO (WE X a) X.K T W VR1 ma) (hr : ∀ B w σ H fr h x d z Q, Rel X.K T B w σ H fr h → VR1 X.K T B σ w H fr x d → f h d = some z → (∀ w' H' v, w.le w' → Rel X.K T B w' σ H' fr h → VR X.K T B σ w' H' fr v z → Q v H') → cM X (.type id) [x] H Q)
 (hm : X.mg x = none) (hg : Gl X x := by rfl) (hv : bootBuiltins x = some (.type id) := by decide +kernel) (hn : x ≠ "__name__" := by decide) (hdb : (x == ("__debug__" : Str)) = false := by decide)
 (he : starEach (a :: []) X.env = (false, eval a X.env) :: starEach [] X.env := by exact aW rfl) (hpl : (backTo pos (starEach [] X.env)).any (·.1) = false := by rfl) : bO (WE X (.Call (.Name x pf) [a] [] pos)) X.K T W VR (aZ f ma) := fun B w σ H fr h Q r1 p =>
 bB (pe_callTy rZ hg hm hv (pa_cons aK pa_nil he) hn hdb he hpl) (Fy (r := fun x H Q => cM X (.type id) [x] H Q) sa hr B w σ H fr h Q r1 p)
def iQ (h : Hh) (d : D) : Option D := match d with
 | .str z => if z.length ≤ big then some (.int z.length) else none
 | d => (d.its h).map fun l => .int l.length
theorem ue (sa : m9 X T W a ma) (hm : X.mg "len" = none) (hg : Gl X "len" := by rfl) (he : starEach (a :: []) X.env = (false, eval a X.env) :: starEach [] X.env := by exact aW rfl) : ao X T W (.Call (.Name "len" pf) [a] [] pos) (aZ iQ ma) :=
 FP (id := "len") sa (fun B w σ H fr h x d z Q R rx q k => by
  unfold iQ at q
  split at q
  · split at q
    · rename_i hl
      cases q
      rw [yM rx]
      exact bJ call_len_str ⟨_, rfl, cW hl, k w H _ (Wd.le_refl _) R (.int _)⟩
    · cases q
  · obtain ⟨l, el, rfl⟩ := Option.map_eq_some_iff.mp q
    obtain ⟨p, vs, rfl, rl, sq⟩ := iJ R rx el
    refine bJ call_len_seq ⟨p, vs, rfl, sq, ?_⟩
    rw [rl.length]
    exact k w H _ (Wd.le_refl _) R (.int _)) hm hg (by decide +kernel) (by decide) (by decide) he
def gj (_ : Hh) (d : D) : Option D := match d with
 | .int i => some (.int i)
 | .bl b => some (.int (if b then 1 else 0))
 | .str z => if z.length ≤ 640 then (PySem.intText? z).map .int else none
 | _ => none
theorem lY (sa : ao X T W a ma) (hm : X.mg "int" = none) (hg : Gl X "int" := by rfl) (he : starEach (a :: []) X.env = (false, eval a X.env) :: starEach [] X.env := by exact aW rfl) : ao X T W (.Call (.Name "int" pf) [a] [] pos) (aZ gj ma) :=
 FQ (id := "int") sa (fun B w σ H fr h x d z Q R rx q k => by
  unfold gj at q
  split at q
  · cases q
    rw [bR rx]
    exact bJ call_int1 (.inl ⟨_, rfl, k w H _ (Wd.le_refl _) R (.int _)⟩)
  · cases q
    rw [Kz rx]
    exact bJ call_int1 (.inr ⟨_, rfl, k w H _ (Wd.le_refl _) R (.int _)⟩)
  · split at q
    · rename_i hl
      obtain ⟨n, en, rfl⟩ := Option.map_eq_some_iff.mp q
      rw [gK rx]
      exact bJ call_int_str ⟨_, n, rfl, en, hl, k w H _ (Wd.le_refl _) R (.int _)⟩
    · cases q
  · cases q) hm hg (by decide +kernel) (by decide) (by decide) he
def su (_ : Hh) (d : D) : Option D := match d with
 | .int i => some (.int (if i < 0 then -i else i))
 | _ => none
theorem Dj (sa : ao X T W a ma) (hm : X.mg "abs" = none) (hg : Gl X "abs" := by rfl) (he : starEach (a :: []) X.env = (false, eval a X.env) :: starEach [] X.env := by exact aW rfl) : ao X T W (.Call (.Name "abs" pf) [a] [] pos) (aZ su ma) :=
 FP (id := "abs") sa (fun B w σ H fr h x d z Q R rx q k => by
  unfold su at q
  split at q
  · cases q
    rw [bR rx]
    exact bJ call_abs ⟨_, rfl, k w H _ (Wd.le_refl _) R (.int _)⟩
  · cases q) hm hg (by decide +kernel) (by decide) (by decide) he
def Bw (h : Hh) (d : D) : Option D := (d.its h).map .nl
theorem Ao (sa : m9 X T W a ma) (hm : X.mg "list" = none) (hg : Gl X "list" := by rfl) (he : starEach (a :: []) X.env = (false, eval a X.env) :: starEach [] X.env := by exact aW rfl) : du X T W (.Call (.Name "list" pf) [a] [] pos) (aZ Bw ma) :=
 FQ (id := "list") sa (fun B w σ H fr h x d z Q R rx q k => by
  obtain ⟨l, el, rfl⟩ := Option.map_eq_some_iff.mp q
  obtain ⟨p, vs, rfl, rl, sq⟩ := iJ R rx el
  exact bJ call_list_of ⟨p, vs, rfl, sq, fun q nq => lV R rl nq k⟩) hm hg (by decide +kernel) (by decide) (by decide) he
def Dk (h : Hh) (d : D) : Option D := (d.its h).map .tup
theorem FT (sa : m9 X T W a ma) (hm : X.mg "tuple" = none) (hg : Gl X "tuple" := by rfl) (he : starEach (a :: []) X.env = (false, eval a X.env) :: starEach [] X.env := by exact aW rfl) : ao X T W (.Call (.Name "tuple" pf) [a] [] pos) (aZ Dk ma) :=
 FQ (id := "tuple") sa (fun B w σ H fr h x d z Q R rx q k => by
  obtain ⟨l, el, rfl⟩ := Option.map_eq_some_iff.mp q
  cases hd : d.der h with
  | tup l' =>
    have ed : d = .tup l' := by
     rcases rx with rx | ⟨_, _, _, _, rr⟩
     · cases rx with
       | tup s r => exact hd
       | @ref a n s =>
         have ln : n < h.length := by
          rw [← R.len]
          exact (List.getElem?_eq_some_iff.mp s).1
         obtain ⟨o, q, rr⟩ := R.cel n a h[n] s (Wx ln)
         have e0 : D.der h (.ref n) = h[n] := by
          unfold D.der
          dsimp only
          rw [Wx ln]
          rfl
         rw [e0] at hd
         rw [hd] at rr
         cases rr
       | _ => cases hd
     · cases rr <;> cases hd
    subst ed
    cases el
    rcases rx with rx | ⟨_, _, _, _, rr⟩
    · obtain ⟨p, vs, rfl, s, rl⟩ := iK rx
      exact bJ call_tuple_of ⟨p, vs, rfl, .inr ⟨aV R.sub s, k w H _ (Wd.le_refl _) R rx⟩⟩
    · cases rr
  | _ =>
    have el' := el
    unfold D.its at el'
    rw [hd] at el'
    first
     | (cases el'; done)
     | (cases el'
        obtain ⟨p, vs, rfl, rl, sq⟩ := lX R rx (by first | exact .inl hd | exact .inr (.inl hd) | exact .inr (.inr hd))
        exact bJ call_tuple_of ⟨p, vs, rfl, .inl ⟨sq, fun q nq => jF R rl nq k⟩⟩)) hm hg (by decide +kernel) (by decide) (by decide) he
def D.ints : List D → Option (List Int)
 | [] => some []
 | .int i :: r => (D.ints r).map (i :: ·)
 | _ :: _ => none
def D.lints (h : Hh) (d : D) : Option (List Int) := match d.der h with
 | .fl l => D.ints l
 | .nl l => D.ints l
 | .kl l => D.ints l
 | _ => none
def P0 (h : Hh) (d : D) : Option D := (d.lints h).map fun l => .int l.sum
def BJ : Int → List Int → Int
 | a, [] => a
 | a, b :: r => BJ (if b > a then b else a) r
def Ld : Int → List Int → Int
 | a, [] => a
 | a, b :: r => Ld (if b < a then b else a) r
def Oo (h : Hh) (d : D) : Option D := match d.lints h with
 | some (a :: r) => some (.int (BJ a r))
 | _ => none
def RW (h : Hh) (d : D) : Option D := match d.lints h with
 | some (a :: r) => some (.int (Ld a r))
 | _ => none
theorem FW {VR2 VR : bG V D} {id : String} {f : Hh → D → D → Option D} (sa : ao X T W a ma) (sb : bO (WE X b) X.K T W VR2 mb)
 (hr : ∀ B w σ H fr h x y d e z Q, Rel X.K T B w σ H fr h → aA X.K T w x d → VR2 X.K T B σ w H fr y e → f h d e = some z → (∀ w' H' v, w.le w' → Rel X.K T B w' σ H' fr h → VR X.K T B σ w' H' fr v z → Q v H') → cM X (.builtin id) [x, y] H Q)
 (hm : X.mg x = none) (hg : Gl X x := by rfl) (hv : bootBuiltins x = some (.builtin id) := by decide +kernel) (hn : x ≠ "__name__" := by decide) (hdb : (x == ("__debug__" : Str)) = false := by decide)
 (he : starEach (a :: b :: []) X.env = (false, eval a X.env) :: starEach (b :: []) X.env := by exact aW rfl) (he2 : starEach (b :: []) X.env = (false, eval b X.env) :: starEach [] X.env := by exact aW rfl)
 (hpl : (backTo pos (starEach (b :: []) X.env)).any (·.1) = false := by rfl) : bO (WE X (.Call (.Name x pf) [a, b] [] pos)) X.K T W VR (aM f ma mb) := fun B w σ H fr h Q r1 p =>
 bB (pe_callB rZ hg hm hv (pa_cons aK (pa_cons aK pa_nil he2) he) hn hdb he hpl) (Bo (r := fun x y H Q => cM X (.builtin id) [x, y] H Q) sa sb hr B w σ H fr h Q r1 p)
abbrev uf := eO yF fun i j => if j > i then j else i
abbrev ug := eO yF fun i j => if j < i then j else i
theorem Ja (C : Cq X T W k) (sa : ao X T W a ma) (sb : ao X T W b mb) (hm : X.mg "max" = none) (hg : Gl X "max" := by rfl) (he : starEach (a :: b :: []) X.env = (false, eval a X.env) :: starEach (b :: []) X.env := by exact aW rfl) (he2 : starEach (b :: []) X.env = (false, eval b X.env) :: starEach [] X.env := by exact aW rfl)
 (hpl : (backTo pos (starEach (b :: []) X.env)).any (·.1) = false := by rfl) : ao X T W (.Call (.Name "max" pf) [a, b] [] pos) (aM uf ma mb) :=
 FW (id := "max") sa sb (fun B w σ H fr h x y d e z Q R rx ry q kk => by
  unfold uf eO at q
  split at q
  · cases q
    rw [bR rx, bR ry]
    exact bJ (call_max2 C.calm) ⟨_, _, rfl, kk w H _ (Wd.le_refl _) R (.int _)⟩
  · cases q) hm hg (by decide +kernel) (by decide) (by decide) he he2 hpl
theorem Jb (C : Cq X T W k) (sa : ao X T W a ma) (sb : ao X T W b mb) (hm : X.mg "min" = none) (hg : Gl X "min" := by rfl) (he : starEach (a :: b :: []) X.env = (false, eval a X.env) :: starEach (b :: []) X.env := by exact aW rfl) (he2 : starEach (b :: []) X.env = (false, eval b X.env) :: starEach [] X.env := by exact aW rfl)
 (hpl : (backTo pos (starEach (b :: []) X.env)).any (·.1) = false := by rfl) : ao X T W (.Call (.Name "min" pf) [a, b] [] pos) (aM ug ma mb) :=
 FW (id := "min") sa sb (fun B w σ H fr h x y d e z Q R rx ry q kk => by
  unfold ug eO at q
  split at q
  · cases q
    rw [bR rx, bR ry]
    exact bJ (call_min2 C.calm) ⟨_, _, rfl, kk w H _ (Wd.le_refl _) R (.int _)⟩
  · cases q) hm hg (by decide +kernel) (by decide) (by decide) he he2 hpl
end
end Pk
namespace Pk
open PySem PySem.Spec L2
def Bs.pr (B : Bs) (p : Addr) (o : HO) : Bs := ⟨B.w0, B.H0, (p, o) :: B.P, B.me⟩
section
variable {K : PySem.W.Frag} {T : Tb} {B : Bs} {w w' : Wd} {σ : L2.St} {H H' : Hp} {fr : Fr} {h : Hh} {p : Addr} {o : HO}
theorem Own.pr (O : Own B w p) {q : Addr} {u : HO} (hq : q ≠ p) : Own (B.pr q u) w p := ⟨O.f, O.i, O.e, fun z hz => by
 rcases List.mem_cons.mp hz with e | hz
 · rw [e]
   exact hq
 · exact O.p z hz⟩
theorem Own.unpr {q : Addr} {u : HO} (O : Own (B.pr q u) w p) : Own B w p := ⟨O.f, O.i, O.e, fun z hz => O.p z (WQ _ hz)⟩
theorem Rel.protect (R : Rel K T B w σ H fr h) (O : Own B w p) (lo : fY σ fr p) (e : H p = some o) : Rel K T (B.pr p o) w σ H fr h :=
 { R with
   prot := fun q hq => by
    rcases List.mem_cons.mp hq with z | hq
    · rw [z]
      exact ⟨e, O.f, O.i⟩
    · exact R.prot q hq
   sl := fun i s d e1 e2 => by
    have z := R.sl i s d e1 e2
    cases z with
    | none => exact .none
    | val r => exact .val r
    | @own q u _ O' eH' rr =>
      have hne : p ≠ q := fun z => lo i ⟨by rw [z]; exact e1, _, e2, rr.own⟩
      exact .own (O'.pr hne) eH' rr }
theorem Rel.unprotect (R : Rel K T (B.pr p o) w σ H fr h) (e0 : B.H0 p = none) (hP : ∀ q ∈ B.P, q.1 ≠ p) : Rel K T B w σ H fr h ∧ Own B w p ∧ fY σ fr p ∧ H p = some o := by
 obtain ⟨h1, h2, h3⟩ := R.prot (p, o) (WK)
 refine ⟨{ R with prot := fun q hq => R.prot q (WQ _ hq), sl := fun i s d e1 e2 => ?_ }, ⟨h2, h3, e0, hP⟩, fun i ⟨q1, d, q2, od⟩ => ?_, h1⟩
 · have z := R.sl i s d e1 e2
   cases z with
   | none => exact .none
   | val r => exact .val r
   | own O' eH' rr => exact .own O'.unpr eH' rr
 · have z := R.sl i _ _ q1 q2
   cases z with
   | val r => exact gJ od r
   | own O' eH' rr => exact O'.p (p, o) (WK) rfl
theorem Rel.repr {o' : HO} (R : Rel K T (B.pr p o) w σ H fr h) (e0 : B.H0 p = none) (hP : ∀ q ∈ B.P, q.1 ≠ p) : Rel K T (B.pr p o') w σ (upd H p o') fr h := by
 obtain ⟨R1, O, lo, e⟩ := R.unprotect e0 hP
 refine Rel.protect { R1 with keep := fun a u ha hm => ?_, prot := fun q hq => ?_, sub := fun a u ha => ?_, cel := fun n a c q1 q2 => ?_, sl := fun j s dj q1 q2 => ?_ } O lo upd_same
 · rw [upd_ne (fun z => by rw [z, e0] at ha; cases ha)]
   exact R1.keep a u ha hm
 · obtain ⟨h1, h2, h3⟩ := R1.prot q hq
   exact ⟨by rw [upd_ne (hP q hq)]; exact h1, h2, h3⟩
 · rw [upd_ne (fun z => by rw [z, O.f] at ha; cases ha)]
   exact R1.sub a u ha
 · have hne : a ≠ p := fun z => O.i (by rw [← z]; exact WL q1)
   exact lK.keep (Wd.le_refl w) (upd_ne hne) (R1.cel n a c q1 q2)
 · have z := R1.sl j s dj q1 q2
   cases z with
   | none => exact .none
   | val r => exact .val r
   | @own q u _ O' eH' rr =>
     have hne : q ≠ p := fun z => lo j ⟨by rw [← z]; exact q1, _, q2, rr.own⟩
     exact .own O' (by rw [upd_ne hne]; exact eH') rr
end
def WG (X : Cx) (tg : Expr) : TG := fun v σ H Q => ∀ pins s u, Inv X pins σ H s → RelV v u → wpAny (model X.prog X.w) X.A (assign tg X.env u) (fun _ s' => ∃ σ' H', Inv X pins σ' H' s' ∧ Q σ' H') X.xe s
structure WI (X : Cx) (tg iter : Expr) (σ : L2.St) (H : Hp) (R : It → Hp → Prop) : Prop where
 go : ∀ pins s, Inv X pins σ H s → wpAny (model X.prog X.w) X.A (eval iter X.env) (fun v s1 => wpAny (model X.prog X.w) X.A (pyIter v) (PIE X pins σ tg R) X.xe s1) X.xe s
def yQ (X : Cx) (ifs : List Expr) : TT := fun σ H Q => ∀ pins s, Inv X pins σ H s →
    wpAny (model X.prog X.w) X.A (forIn ifs true fun c r => if r = true then do let ok ← isTrue c X.env (eval c X.env); pure (ForInStep.yield ok) else pure (ForInStep.yield r)) (TP X pins σ Q) X.xe s
section
variable {X : Cx} {tg iter : Expr} {ifs : List Expr}
theorem Dm : PG X tg (WG X tg) := ⟨fun pins s σ H v u Q I r h => h pins s u I r⟩
theorem yR : PI X tg iter (WI X tg iter) := ⟨fun pins s σ H R I h => h.go pins s I⟩
theorem Hz {t : TG} (p : PG X tg t) {v : V} {σ : L2.St} {H : Hp} {Q : L2.St → Hp → Prop} (h : t v σ H Q) : WG X tg v σ H Q := fun pins s u I r => p.run pins s σ H v u Q I r h
theorem BK {t : TI} (p : PI X tg iter t) {σ : L2.St} {H : Hp} {R : It → Hp → Prop} (h : t σ H R) : WI X tg iter σ H R := ⟨fun pins s I => p.run pins s σ H R I h⟩
theorem Aq {t : TT} (p : PTs X ifs t) {σ : L2.St} {H : Hp} {Q : Bool → Hp → Prop} (h : t σ H Q) : yQ X ifs σ H Q := fun pins s I => p.run pins s σ H Q I h
end
inductive iI (K : PySem.W.Frag) (T : Tb) (B : Bs) (σ : L2.St) (w : Wd) (H : Hp) (fr : Fr) : List V → List D → List Addr → Prop where
 | nil : iI K T B σ w H fr [] [] []
 | val {v : V} {d : D} {vs : List V} {ds : List D} {ps : List Addr} : aA K T w v d → iI K T B σ w H fr vs ds ps → iI K T B σ w H fr (v :: vs) (d :: ds) ps
 | own {p : Addr} {o : HO} {d : D} {vs : List V} {ds : List D} {ps : List Addr} : Own B w p → fY σ fr p → H p = some o → di K T w o d → p ∉ ps → iI K T B σ w H fr vs ds ps → iI K T B σ w H fr (.ref p :: vs) (d :: ds) (p :: ps)
def QW : bG (List V) (List D) := fun K T B σ w H fr vs ds => ∃ ps, iI K T B σ w H fr vs ds ps
abbrev RX (X : Cx) (T : Tb) (W : WX) (es : List Expr) (m : M (List D)) : Prop := bO (WA X es) X.K T W QW m
theorem iI.unpr {K : PySem.W.Frag} {T : Tb} {B : Bs} {σ : L2.St} {w : Wd} {H : Hp} {fr : Fr} {p : Addr} {o : HO} {vs : List V} {ds : List D} {ps : List Addr} (x : iI K T (B.pr p o) σ w H fr vs ds ps) : iI K T B σ w H fr vs ds ps ∧ p ∉ ps := by
 induction x with
 | nil => exact ⟨.nil, by simp⟩
 | val r _ ih => exact ⟨.val r ih.1, ih.2⟩
 | @own q u d vs ds ps O lo e r nq _ ih =>
   refine ⟨.own O.unpr lo e r nq ih.1, fun z => ?_⟩
   rcases List.mem_cons.mp z with z | z
   · exact O.p (p, o) (WK) z
   · exact ih.2 z
theorem iI.length {K : PySem.W.Frag} {T : Tb} {B : Bs} {σ : L2.St} {w : Wd} {H : Hp} {fr : Fr} {vs : List V} {ds : List D} {ps : List Addr} (x : iI K T B σ w H fr vs ds ps) : vs.length = ds.length := by
 induction x with
 | nil => rfl
 | val _ _ ih => exact congrArg Nat.succ ih
 | own _ _ _ _ _ _ ih => exact congrArg Nat.succ ih
theorem ak.pr {α β : Type} {K : PySem.W.Frag} {T : Tb} {B : Bs} {W : WX} {VR VR' : Wd → Hp → Fr → β → α → Prop} {w : Wd} {σ : L2.St} {p : Addr} {o : HO} {r : R α} {Q Q' : β → Hp → Prop} (e0 : B.H0 p = none) (hP : ∀ q ∈ B.P, q.1 ≠ p) (x : ak K T B W VR w σ r Q)
 (k : ∀ d fr h w' H' v, r = .ok d fr h → w.le w' → Rel K T (B.pr p o) w' σ H' fr h → VR' w' H' fr v d → (∀ w2 H2 v2, w.le w2 → Rel K T B w2 σ H2 fr h → VR w2 H2 fr v2 d → Q v2 H2) → Q' v H') : ak K T (B.pr p o) W VR' w σ r Q' := by
 cases r with
 | ok d fr h => exact fun w' H' v l R z => k d fr h w' H' v rfl l R z x
 | exc e fr h => exact fun w' H' c dd l R z => x w' H' c dd l (R.unprotect e0 hP).1 z
 | err => exact x
section
variable {X : Cx} {T : Tb} {W : WX} {e : Expr} {es : List Expr} {m : M D} {ms : List (M D)}
end
def qT (is : List Nat) (σ' σ : L2.St) : Prop := σ'.length = σ.length ∧ ∀ j : Nat, j ∉ is → σ'[j]? = σ[j]?
def iT (X : Cx) (T : Tb) (is : List Nat) (tg : Expr) (mg : D → M Unit) : Prop := ∀ B w σ H fr h x d (Q : L2.St → Hp → Prop), Rel X.K T B w σ H fr h → aA X.K T w x d →
 (match mg d fr h with
  | .ok _ fr' h' => ∀ w' σ' H', w.le w' → Rel X.K T B w' σ' H' fr' h' → qT is σ' σ → Q σ' H'
  | _ => False) → WG X tg x σ H Q
def yh (X : Cx) (T : Tb) (is : List Nat) (tgs : List Expr) (mg : List D → M Unit) : Prop := ∃ t, PGs X tgs t ∧ ∀ B w σ H fr h xs ds (Q : L2.St → Hp → Prop), Rel X.K T B w σ H fr h → aa X.K T w xs ds →
 (match mg ds fr h with
  | .ok _ fr' h' => ∀ w' σ' H', w.le w' → Rel X.K T B w' σ' H' fr' h' → qT is σ' σ → Q σ' H'
  | _ => False) → t xs σ H Q
def bz (i : Nat) (d : D) : M Unit := fun fr h => .ok () (fr.set i (some d)) h
def uh : List D → M Unit
 | [] => M.ret ()
 | _ => M.opt none
def gM (g : D → M Unit) (gs : List D → M Unit) : List D → M Unit
 | [] => M.opt none
 | d :: ds => (g d).bind fun _ => gs ds
def ul (n : Nat) (gs : List D → M Unit) (d : D) : M Unit := match d with
 | .tup l => if l.length = n then gs l else M.opt none
 | _ => M.opt none
section
variable {X : Cx} {T : Tb} {W : WX} {k : Nat} {pos : Pos} {tg : Expr} {tgs : List Expr} {g : D → M Unit} {gs : List D → M Unit} {is js : List Nat}
theorem aX (C : Cq X T W k) (i : Nat) {x : Str} (hi : X.N[i]? = some x := by rfl) (hx : Loc X.env.scope x := by first | exact Or.inl rfl | exact Or.inr rfl) (hf : X.fn x = true ∨ X.env.scope.names.lookup x = some .local := by first | exact .inl rfl | exact .inr rfl) :
 iT X T [i] (.Name x pos) (bz i) := fun B w σ H fr h v d Q R rd p => Hz (pg_name C.nd hi hx hf) (p w _ H (Wd.le_refl _) (R.set_slot (.val rd) (fun _ _ _ e od => by
 cases e
 exact (gJ od rd).elim) fun _ _ e => by
 cases e
 exact mZ rd) ⟨WD, fun j hj => by
  rw [Wy]
  intro e
  exact hj (by simp [e])⟩)
theorem qU : yh X T [] [] uh := ⟨_, pgs_nil, fun B w σ H fr h vs ds Q R rd p => by
 cases rd with
 | nil => exact ⟨rfl, p w σ H (Wd.le_refl _) R ⟨rfl, fun _ _ => rfl⟩⟩
 | cons _ _ => exact p.elim⟩
theorem eZ (s : iT X T is tg g) (t : yh X T js tgs gs) (hs : (assignEach (tg :: tgs) X.env).map (·.2) = assign tg X.env :: (assignEach tgs X.env).map (·.2) := by rfl) : yh X T (is ++ js) (tg :: tgs) (gM g gs) := by
 obtain ⟨u, pu, t⟩ := t
 refine ⟨_, pgs_cons Dm pu hs, fun B w σ H fr h vs ds Q R rd p => ?_⟩
 cases rd with
 | nil => exact p.elim
 | @cons v d vr dr r rr =>
   refine ⟨v, vr, rfl, s B w σ H fr h v d _ R r ?_⟩
   have p' : (match (g d).bind (fun _ => gs dr) fr h with
    | .ok _ fr' h' => ∀ w' σ' H', w.le w' → Rel X.K T B w' σ' H' fr' h' → qT (is ++ js) σ' σ → Q σ' H'
    | _ => False) := p
   cases e : g d fr h with
   | ok _ fr1 h1 =>
     rw [M.bind_ok e] at p'
     intro w1 σ1 H1 l1 R1 k1
     refine t B w1 σ1 H1 fr1 h1 vr dr Q R1 (rr.mono l1) ?_
     cases e2 : gs dr fr1 h1 with
     | ok _ fr2 h2 =>
       rw [e2] at p'
       exact fun w2 σ2 H2 l2 R2 k2 => p' w2 σ2 H2 (Wd.le_trans l1 l2) R2 ⟨k2.1.trans k1.1, fun j hj => by
        rw [List.mem_append, not_or] at hj
        rw [k2.2 j hj.2, k1.2 j hj.1]⟩
     | exc _ _ _ => rw [e2] at p'; exact p'
     | err => rw [e2] at p'; exact p'
   | exc y fr1 h1 =>
     rw [M.bind_exc e] at p'
     exact p'.elim
   | err =>
     rw [M.bind_err e] at p'
     exact p'.elim
theorem uo (C : Cq X T W k) {kk : Nat} {n : Nat} (t : yh X T is tgs gs) (hn : (assignEach tgs X.env).length = n := by rfl) (hst : (assignEach tgs X.env).findIdx? (·.1) = none := by rfl) : iT X T is (.Tuple tgs kk pos) (ul n gs) := by
 obtain ⟨u, pu, t⟩ := t
 refine fun B w σ H fr h x d Q R rd p => Hz (pg_tup C.calm pu hn hst) ?_
 cases d with
 | tup l =>
   have p' : (match (if l.length = n then gs l else M.opt none) fr h with
    | .ok _ fr' h' => ∀ w' σ' H', w.le w' → Rel X.K T B w' σ' H' fr' h' → qT is σ' σ → Q σ' H'
    | _ => False) := p
   by_cases hl : l.length = n
   · rw [if_pos hl] at p'
     obtain ⟨a, vs, rfl, sq, rl⟩ := iK rd
     exact ⟨a, vs, rfl, aV R.sub sq, rl.length.trans hl, t B w σ H fr h vs l Q R rl p'⟩
   · rw [if_neg hl] at p'
     exact p'.elim
 | _ => exact (show False from p).elim
def BL : List Nat → List D → Fr → Option Fr
 | [], [], fr => some fr
 | i :: is, d :: ds, fr => BL is ds (fr.set i (some d))
 | _, _, _ => none
theorem Rel.putV {K : PySem.W.Frag} {B : Bs} {w : Wd} {σ : L2.St} {H : Hp} {fr : Fr} {h : Hh} {v : V} {d : D} (R : Rel K T B w σ H fr h) (i : Nat) (r : aA K T w v d) : Rel K T B w (σ.set i (some v)) H (fr.set i (some d)) h :=
 R.set_slot (.val r) (fun _ _ _ e od => by
  cases e
  exact (gJ od r).elim) fun _ _ e => by
  cases e
  exact mZ r
theorem Rel.put {K : PySem.W.Frag} {B : Bs} {w : Wd} {σ : L2.St} {H : Hp} {fr : Fr} {h : Hh} {v : V} {d : D} (R : Rel K T B w σ H fr h) (i : Nat) (hi : i ≠ 0) (x : vE K T B σ w H fr v d) : Rel K T B w (σ.set i (some v)) H (fr.set i (some d)) h := by
 rcases x with r | ⟨p, o, rfl, O, lo, e, r⟩
 · exact R.putV i r
 · exact R.set_slot (.own O e r) (fun q d' e1 e2 od => by
    cases e1
    cases e2
    exact lo) fun z => (hi z).elim
theorem Do {σ : L2.St} {fr : Fr} {i : Nat} {v : V} {d : D} {p : Addr} (lo : fY σ fr p) (hv : d.own = true → v ≠ .ref p) : fY (σ.set i (some v)) (fr.set i (some d)) p := fun j z => by
 obtain ⟨e1, dd, e2, od⟩ := z
 by_cases hj : i = j
 · subst hj
   have l1 : i < σ.length := by
    have := (List.getElem?_eq_some_iff.mp e1).1
    rwa [WD] at this
   have l2 : i < fr.length := by
    have := (List.getElem?_eq_some_iff.mp e2).1
    rwa [WD] at this
   rw [Wz l1] at e1
   rw [Wz l2] at e2
   cases e1
   cases e2
   exact hv od rfl
 · rw [Wy hj] at e1 e2
   exact lo j ⟨e1, dd, e2, od⟩
theorem iI.set {K : PySem.W.Frag} {B : Bs} {w : Wd} {σ : L2.St} {H : Hp} {fr : Fr} {vs : List V} {ds : List D} {ps : List Addr} {i : Nat} {v : V} {d : D} (x : iI K T B σ w H fr vs ds ps) (hv : ∀ p ∈ ps, d.own = true → v ≠ .ref p) :
 iI K T B (σ.set i (some v)) w H (fr.set i (some d)) vs ds ps := by
 induction x with
 | nil => exact .nil
 | val r _ ih => exact .val r (ih hv)
 | own O lo e r nq _ ih => exact .own O (Do lo (hv _ (WK))) e r nq (ih fun q hq => hv q (WQ _ hq))
def R4 (X : Cx) (T : Tb) (is : List Nat) (tgs : List Expr) : Prop := ∃ t, PGs X tgs t ∧ ∀ B w σ H fr fr' h xs ds ps (Q : L2.St → Hp → Prop), Rel X.K T B w σ H fr h → iI X.K T B σ w H fr xs ds ps → BL is ds fr = some fr' →
 (∀ σ', Rel X.K T B w σ' H fr' h → Q σ' H) → t xs σ H Q
end
def vJ : bG It (List D) := fun K T _ _ w _ _ J ds => ∀ i w1 H1, w.le w1 → (∀ a o, w1.F a = some o → H1 a = some o) →
 (ds.length ≤ i → J.stop i H1) ∧ ∀ d, ds[i]? = some d → J.go i H1 ∧ ∀ x H2, J.yld i H1 x H2 → ∀ B σ fr h, Rel K T B w1 σ H1 fr h → ∃ w2, w1.le w2 ∧ Rel K T B w2 σ H2 fr h ∧ aA K T w2 x d
abbrev lM (X : Cx) (T : Tb) (W : WX) (tg iter : Expr) (m : M (List D)) : Prop := bO (WI X tg iter) X.K T W vJ m
section
variable {X : Cx} {T : Tb} {W : WX} {k : Nat} {pos p pf tpos : Pos} {tg e a b : Expr} {m ma mb : M D}
def jO (m : M D) : M (List D) := m.bind fun d => M.opt (d.its [])
theorem Jc {K : PySem.W.Frag} {w : Wd} {v : V} {d : D} {l : List D} (r : aA K T w v d) (e : d.its [] = some l) : ∃ p vs, v = .ref p ∧ aa K T w vs l ∧ (SqT K w.F p vs ∨ SqL K w.F p vs) := by
 cases r with
 | tup s r =>
   have e' : some _ = some l := e
   cases e'
   exact ⟨_, _, rfl, r, .inl s⟩
 | fl s r =>
   have e' : some _ = some l := e
   cases e'
   exact ⟨_, _, rfl, r, .inr (SqL.of s)⟩
 | kl s r =>
   have e' : some _ = some l := e
   cases e'
   exact ⟨_, _, rfl, r, .inr s⟩
 | ref s => cases e
 | _ => cases e
def Qa (K : PySem.W.Frag) (tl : TE) : TI := fun σ H R => tl σ H fun x H1 => ∃ a, x = .ref a ∧ (((∃ xs, SqT K H1 a xs) ∧ R (Itt K a) H1) ∨ ((∃ xs, SqL K H1 a xs) ∧ R (Itl K a) H1))
open PyProof.Rows in
theorem Le {l : Expr} {tl : TE} (hl : PE X l tl) : PI X tg l (Qa X.K tl) := by
 refine ⟨fun pins s σ H R I h => ?_⟩
 refine thn (hl.run pins s σ H _ I h) fun v s1 ⟨x, H1, I1, r1, q1⟩ => ?_
 obtain ⟨a, e, ⟨⟨xs, hq⟩, q⟩ | ⟨⟨xs, hq⟩, q⟩⟩ := q1
 · subst e
   cases r1
   obtain ⟨its, rv, p, hz⟩ := I1.tuple hq
   refine wpAny_pyIter_tuple (show s1.heap.IsTuple a its.toArray from p) ?_
   refine ⟨s1.heap.objs.size, [s1.heap.objs.size], _, _, H1, rfl, I1.kept (t' := s1.toks) fun b o e => Heap.get?_push_of_some _ e, turn_tuple a _, ⟨_, Heap.get?_push_size _ rfl, rfl, rfl⟩, fun b hb => ?_, q⟩
   have e : b = s1.heap.objs.size := by simpa using hb
   subst e
   exact I1.fpOk (Nat.le_refl _) (I1.hok.fresh (Nat.le_refl _))
 · subst e
   cases r1
   obtain ⟨its, rv, p, hz⟩ := I1.list hq
   refine wpAny_pyIter_list p.isList ?_
   refine ⟨s1.heap.objs.size, [s1.heap.objs.size], _, _, H1, rfl, I1.kept (t' := s1.toks) fun b o e => Heap.get?_push_of_some _ e, turn_list a _, ⟨_, Heap.get?_push_size _ rfl, rfl, rfl⟩, fun b hb => ?_, q⟩
   have e : b = s1.heap.objs.size := by simpa using hb
   subst e
   exact I1.fpOk (Nat.le_refl _) (I1.hok.fresh (Nat.le_refl _))
theorem Lf {K : PySem.W.Frag} {B : Bs} {σ : L2.St} {w : Wd} {H : Hp} {fr : Fr} {a : Addr} {vs : List V} {l : List D} (sq : SqT K w.F a vs) (rl : aa K T w vs l) : vJ K T B σ w H fr (Itt K a) l := fun i w2 H2 l2 hs => ⟨fun hi => ⟨vs, aV hs (aV l2.1 sq), by rw [rl.length]; exact hi⟩, fun d' hd => by
 obtain ⟨v, hv, rv⟩ := rl.get hd
 refine ⟨⟨vs, v, aV hs (aV l2.1 sq), hv⟩, fun y H3 hy B' σ' fr' h' R' => ?_⟩
 obtain ⟨rfl, hy⟩ := hy
 have z := hy vs (aV hs (aV l2.1 sq))
 rw [hv] at z
 cases z
 exact ⟨w2, Wd.le_refl _, R', rv.mono l2⟩⟩
theorem Lg {K : PySem.W.Frag} {B : Bs} {σ : L2.St} {w : Wd} {H : Hp} {fr : Fr} {a : Addr} {vs : List V} {l : List D} (sq : SqL K w.F a vs) (rl : aa K T w vs l) : vJ K T B σ w H fr (Itl K a) l := fun i w2 H2 l2 hs => ⟨fun hi => ⟨vs, bU hs (bU l2.1 sq), by rw [rl.length]; exact hi⟩, fun d' hd => by
 obtain ⟨v, hv, rv⟩ := rl.get hd
 refine ⟨⟨vs, v, bU hs (bU l2.1 sq), hv⟩, fun y H3 hy B' σ' fr' h' R' => ?_⟩
 obtain ⟨rfl, hy⟩ := hy
 have z := hy vs (bU hs (bU l2.1 sq))
 rw [hv] at z
 cases z
 exact ⟨w2, Wd.le_refl _, R', rv.mono l2⟩⟩
theorem fU (s : ao X T W e m) : lM X T W tg e (jO m) := fun B w σ H fr h Q r p => BK (Le aK) (s B w σ H fr h _ r (ak.bind (VR := vV X.K T B σ) p fun d fr1 h1 w1 H1 x e1 l1 r1 rx p1 => by
 cases q : d.its [] with
 | none => rw [q] at p1; exact p1.elim
 | some l =>
   rw [q] at p1
   obtain ⟨a, vs, rfl, rl, sq⟩ := Jc rx q
   refine ⟨a, rfl, ?_⟩
   rcases sq with sq | sq
   · exact .inl ⟨⟨vs, aV r1.sub sq⟩, p1 w1 H1 (Itt X.K a) (Wd.le_refl _) r1 (Lf sq rl)⟩
   · exact .inr ⟨⟨vs, bU r1.sub sq⟩, p1 w1 H1 (Itl X.K a) (Wd.le_refl _) r1 (Lg sq rl)⟩))
def jP (lo : Int) (n : Nat) : List D := (List.range n).map fun (i : Nat) => D.int (lo + (i : Int))
def rK (i : Int) : Bool := decide (-(2 ^ 62) ≤ i) && decide (i < 2 ^ 62)
theorem Lh {i : Int} (h : rK i = true) : -(2 ^ 62) ≤ i ∧ i < 2 ^ 62 := by
 obtain ⟨h1, h2⟩ := Bool.and_eq_true_iff.mp h
 exact ⟨of_decide_eq_true h1, of_decide_eq_true h2⟩
def jA (m : M D) : M (List D) := m.bind fun d => M.opt (match d with
 | .int j => if rK j then some (jP 0 j.toNat) else none
 | _ => none)
def R8 (ma mb : M D) : M (List D) := ma.bind fun x => mb.bind fun y => M.opt (match x, y with
 | .int i, .int j => if rK i && rK j then some (jP i (j - i).toNat) else none
 | _, _ => none)
theorem Lj {K : PySem.W.Frag} {B : Bs} {σ : L2.St} {w : Wd} {H : Hp} {fr : Fr} (lo : Int) (n : Nat) : vJ K T B σ w H fr (Itr lo n) (jP lo n) := fun i w2 H2 l2 hs => ⟨fun hi => by
 have hi' : (jP lo n).length ≤ i := hi
 unfold jP at hi'
 rw [WR, List.length_range] at hi'
 exact hi', fun d' hd => by
 unfold jP at hd
 rw [W3] at hd
 obtain ⟨j, hj, rfl⟩ := Option.map_eq_some_iff.mp hd
 obtain ⟨hl, ej⟩ := List.getElem?_eq_some_iff.mp hj
 rw [List.length_range] at hl
 rw [List.getElem_range] at ej
 subst ej
 refine ⟨hl, fun y H3 hy B' σ' fr' h' R' => ?_⟩
 obtain ⟨rfl, rfl⟩ := hy
 exact ⟨w2, Wd.le_refl _, R', .int _⟩⟩
theorem vp (s : ao X T W a ma) (hm : X.mg "range" = none) (hg : Gl X "range" := by rfl) (hs : starEach [a] X.env = [(false, eval a X.env)] := by rfl) : lM X T W tg (.Call (.Name "range" p) [a] [] pos) (jA ma) := fun B w σ H fr h Q r p =>
 BK (pi_range1 hg hm (pa_cons aK pa_nil (hs.trans (by rfl))) hs) (s B w σ H fr h _ r (ak.bind (VR := vV X.K T B σ) p fun d fr1 h1 w1 H1 x e1 l1 r1 rx p1 => by
  cases rx with
  | int j =>
    dsimp only at p1
    cases hj : rK j with
    | false => rw [hj] at p1; exact (show False from p1).elim
    | true =>
      rw [hj] at p1
      obtain ⟨h1', h2'⟩ := Lh hj
      exact ⟨j, rfl, h1', h2', p1 w1 H1 (Itr 0 j.toNat) (Wd.le_refl _) r1 (Lj 0 _)⟩
  | _ => exact (show False from p1).elim))
end
end Pk
namespace Pk
open PySem PySem.Spec L2
inductive Fl where
 | nx | brk | ct | rt (d : D)
def aP (K : PySem.W.Frag) (T : Tb) (B : Bs) (W : WX) (w : Wd) (r : R Fl) (D : Ends) : Prop :=
 match r with
 | .ok .nx fr h => ∀ w' σ' H', w.le w' → Rel K T B w' σ' H' fr h → D.nx σ' H'
 | .ok .brk fr h => ∀ w' σ' H', w.le w' → Rel K T B w' σ' H' fr h → D.bk σ' H'
 | .ok .ct fr h => ∀ w' σ' H', w.le w' → Rel K T B w' σ' H' fr h → D.ct σ' H'
 | .ok (.rt d) fr h => ∀ w' σ' H' v, w.le w' → Rel K T B w' σ' H' fr h → vE K T B σ' w' H' fr v d → D.rt v H'
 | .exc x fr h => ∀ w' σ' H' cls dd, w.le w' → Rel K T B w' σ' H' fr h → rY K T w' x cls dd → W cls dd σ' H'
 | .err => False
def gQ (X : Cx) (T : Tb) (W : WX) (st : Stmt) (m : M Fl) : Prop := ∀ (B : Bs) (w : Wd) (σ : L2.St) (H : Hp) (fr : Fr) (h : Hh) (D : Ends), Rel X.K T B w σ H fr h → aP X.K T B W w (m fr h) D → WS X st D σ H
def gR (X : Cx) (T : Tb) (W : WX) (sts : List Stmt) (m : M Fl) : Prop := ∀ (B : Bs) (w : Wd) (σ : L2.St) (H : Hp) (fr : Fr) (h : Hh) (D : Ends), Rel X.K T B w σ H fr h → aP X.K T B W w (m fr h) D → Af X sts D σ H
section
variable {K : PySem.W.Frag} {T : Tb} {B : Bs} {W : WX} {w w' : Wd} {σ : L2.St} {H : Hp}
theorem aP.le {r : R Fl} {D : Ends} (x : w.le w') (p : aP K T B W w r D) : aP K T B W w' r D := by
 cases r with
 | ok f fr h =>
   cases f with
   | rt d => exact fun w2 σ2 H2 v y => p w2 σ2 H2 v (Wd.le_trans x y)
   | _ => exact fun w2 σ2 H2 y => p w2 σ2 H2 (Wd.le_trans x y)
 | exc e fr h => exact fun w2 σ2 H2 c d y => p w2 σ2 H2 c d (Wd.le_trans x y)
 | err => exact p
theorem aP.bind {α β : Type} {VR : Wd → Hp → Fr → β → α → Prop} {m : M α} {f : α → M Fl} {fr : Fr} {h : Hh} {D : Ends} {Q : β → Hp → Prop} (p : aP K T B W w (m.bind f fr h) D)
 (k : ∀ d fr1 h1 w1 H1 v, m fr h = .ok d fr1 h1 → w.le w1 → Rel K T B w1 σ H1 fr1 h1 → VR w1 H1 fr1 v d → aP K T B W w1 (f d fr1 h1) D → Q v H1) : ak K T B W VR w σ (m fr h) Q := by
 cases e : m fr h with
 | ok d fr1 h1 =>
   rw [M.bind_ok e] at p
   exact fun w1 H1 v x r z => k d fr1 h1 w1 H1 v e x r z (p.le x)
 | exc y fr1 h1 =>
   rw [M.bind_exc e] at p
   exact fun w1 H1 c dd x r z => p w1 σ H1 c dd x r z
 | err =>
   rw [M.bind_err e] at p
   exact p
end
def aN (m n : M Fl) : M Fl := m.bind fun f => match f with
 | .nx => n
 | f => M.ret f
def fj (t : M Bool) (m n : M Fl) : M Fl := t.bind fun b => if b then m else n
def km {α : Type} (m : M α) : M Fl := m.bind fun _ => M.ret .nx
def bM (m : M D) : M Fl := m.bind fun d => M.ret (.rt d)
def bj (i : Nat) (m : M D) : M Fl := m.bind fun d fr h => .ok .nx (fr.set i (some d)) h
def Ur (m : M D) (g : D → M Unit) : M Fl := m.bind fun d fr h => match g d fr h with
 | .ok _ fr h => .ok .nx fr h
 | _ => .err
def R9 (is : List Nat) (m : M (List D)) : M Fl := m.bind fun ds fr h => match BL is ds fr with
 | some fr' => if ds.length ≤ big then .ok .nx fr' h else .err
 | none => .err
section
variable {X : Cx} {T : Tb} {W : WX} {k : Nat} {pos pos' p2 : Pos} {e a b c : Expr} {st : Stmt} {sts as bs : List Stmt} {m : M D} {s n : M Fl} {t : M Bool} {es : List Expr}
theorem fV : gR X T W [] (M.ret .nx) := fun B w σ H fr h D R p => vf pss_nil (p w σ H (Wd.le_refl _) R)
theorem aD (s1 : gQ X T W st s) (s2 : gR X T W sts n) : gR X T W (st :: sts) (aN s n) := fun B w σ H fr h D R p =>
 vf (pss_cons CZ jE) (s1 B w σ H fr h _ R (by
  unfold aN at p
  cases e : s fr h with
  | ok f fr1 h1 =>
    rw [M.bind_ok e] at p
    cases f with
    | nx => exact fun w1 σ1 H1 l R1 => s2 B w1 σ1 H1 fr1 h1 D R1 (p.le l)
    | _ => exact p
  | exc y fr1 h1 => rw [M.bind_exc e] at p; exact p
  | err => rw [M.bind_err e] at p; exact p))
theorem aQ (s1 : gQ X T W st s) : gR X T W [st] s := fun B w σ H fr h D R p => vf (pss_one CZ) (s1 B w σ H fr h _ R p)
theorem yS {VR : bG V D} (s : bO (WE X e) X.K T W VR m) (hs : swapsWith e none pos.line X.env = pure false := by rfl) : gQ X T W (.Expr e pos) (km m) := fun B w σ H fr h D R p =>
 jc (ps_expr aK hs) (s B w σ H fr h _ R (aP.bind (VR := VR X.K T B σ) p fun d fr1 h1 w1 H1 v e1 l1 r1 rx p1 => p1 w1 σ H1 (Wd.le_refl _) r1))
theorem s_ret (s : du X T W e m) : gQ X T W (.Return (some e) pos) (bM m) := fun B w σ H fr h D R p =>
 jc (ps_ret aK) (s B w σ H fr h _ R (aP.bind (VR := vE X.K T B σ) p fun d fr1 h1 w1 H1 v e1 l1 r1 rx p1 => p1 w1 σ H1 v (Wd.le_refl _) r1 rx))
theorem je (st : jK X T W c t) (sa : gR X T W as s) (sb : gR X T W bs n) : gQ X T W (.If c as bs pos) (fj t s n) := fun B w σ H fr h D R p =>
 jc (ps_if lQ jE jE) (st B w σ H fr h _ R (aP.bind (VR := vB X.K T B σ) p fun d fr1 h1 w1 H1 x e1 l1 r1 rx p1 => by
  have rx' : x = d := rx
  subst rx'
  cases x with
  | true => exact sa B w1 σ H1 fr1 h1 D r1 p1
  | false => exact sb B w1 σ H1 fr1 h1 D r1 p1))
theorem Ar : gQ X T W st (fun _ _ => .err) := fun B w σ H fr h D R p => p.elim
theorem fL (C : Cq X T W k) (i : Nat) {x : Str} (s : du X T W e m) (hs : swapsWith e (some (.Name x pos')) pos.line X.env = pure false := by rfl) (hi : X.N[i]? = some x := by rfl) (hx : Loc X.env.scope x := by first | exact Or.inl rfl | exact Or.inr rfl)
 (hf : X.fn x = true ∨ X.env.scope.names.lookup x = some .local := by first | exact .inl rfl | exact .inr rfl) (h0 : i ≠ 0 := by decide) : gQ X T W (.Assign [.Name x pos'] e pos) (bj i m) := fun B w σ H fr h D R p =>
 jc (ps_set C.nd hi hx aK hs hf) (s B w σ H fr h _ R (aP.bind (VR := vE X.K T B σ) p fun d fr1 h1 w1 H1 v e1 l1 r1 rx p1 => p1 w1 _ H1 (Wd.le_refl _) (r1.put i h0 rx)))
theorem lZ (C : Cq X T W k) (i : Nat) {x : Str} (s : ao X T W e m) (hs : swapsWith e (some (.Name x pos')) pos.line X.env = pure false := by rfl) (hi : X.N[i]? = some x := by rfl) (hx : Loc X.env.scope x := by first | exact Or.inl rfl | exact Or.inr rfl)
 (hf : X.fn x = true ∨ X.env.scope.names.lookup x = some .local := by first | exact .inl rfl | exact .inr rfl) : gQ X T W (.Assign [.Name x pos'] e pos) (bj i m) := fun B w σ H fr h D R p =>
 jc (ps_set C.nd hi hx aK hs hf) (s B w σ H fr h _ R (aP.bind (VR := vV X.K T B σ) p fun d fr1 h1 w1 H1 v e1 l1 r1 rx p1 => p1 w1 _ H1 (Wd.le_refl _) (r1.putV i rx)))
theorem iI.temp {K : PySem.W.Frag} {B : Bs} {σ : L2.St} {w : Wd} {H : Hp} {fr : Fr} {vs : List V} {ds : List D} {ps : List Addr} {p : Addr} {o : HO} (x : iI K T B σ w H fr vs ds ps) (np : H p = none) : iI K T B σ w (upd H p o) fr vs ds ps := by
 induction x with
 | nil => exact .nil
 | val r _ ih => exact .val r ih
 | own O lo e r nq _ ih => exact .own O lo (by rw [upd_ne (ne_of_none e np)]; exact e) r nq ih
end
end Pk
namespace Pk
open PySem PySem.Spec L2
def cY (g : D → M Unit) (b : M Fl) : List D → M Fl
 | [] => M.ret .nx
 | d :: ds => fun fr h => match g d fr h with
   | .ok _ fr h => match b fr h with
     | .ok .nx fr h => cY g b ds fr h
     | .ok .ct fr h => cY g b ds fr h
     | .ok .brk fr h => .ok .nx fr h
     | .ok (.rt d) fr h => .ok (.rt d) fr h
     | .exc x fr h => .exc x fr h
     | .err => .err
   | _ => .err
def dJ (l : M (List D)) (g : D → M Unit) (b : M Fl) : M Fl := l.bind fun ds => cY g b ds
def Dq (t : M Bool) (b : M Fl) : Nat → M Fl
 | 0 => fun _ _ => .err
 | n + 1 => fun fr h => match t fr h with
   | .ok true fr h => match b fr h with
     | .ok .nx fr h => Dq t b n fr h
     | .ok .ct fr h => Dq t b n fr h
     | .ok .brk fr h => .ok .nx fr h
     | .ok (.rt d) fr h => .ok (.rt d) fr h
     | .exc x fr h => .exc x fr h
     | .err => .err
   | .ok false fr h => .ok .nx fr h
   | .exc x fr h => .exc x fr h
   | .err => .err
section
variable {X : Cx} {T : Tb} {W : WX} {k : Nat} {pos pos' : Pos} {tg iter c : Expr} {body : List Stmt} {li : M (List D)} {g : D → M Unit} {b : M Fl} {is : List Nat} {t : M Bool}
theorem kE (C : Cq X T W k) (si : lM X T W tg iter li) (sg : iT X T is tg g) (sb : gR X T W body b) (hs : ∀ x, foldedSetIterable iter X.env x = pure x := by intro _; rfl) : gQ X T W (.For tg iter body [] pos) (dJ li g b) := fun B w σ H fr h D R p =>
 jc (ps_for C.po C.calm yR Dm jE hs) (si B w σ H fr h _ R (aP.bind (VR := vJ X.K T B σ) p fun ds fr1 h1 w1 H1 J e1 l1 r1 vj p1 => by
  refine ⟨fun i m σ H => m = ds.length - i ∧ i ≤ ds.length ∧ ∃ w' fr' h', w1.le w' ∧ Rel X.K T B w' σ H fr' h' ∧ aP X.K T B W w' (cY g b (ds.drop i) fr' h') D, ⟨ds.length, by simp, Nat.zero_le _, w1, fr1, h1, Wd.le_refl _, r1, p1⟩, ?_⟩
  rintro i m σ2 H2 ⟨rfl, hi, w2, fr2, h2, l2, r2, p2⟩
  obtain ⟨js, jg⟩ := vj i w2 H2 l2 r2.sub
  by_cases hlt : i < ds.length
  · obtain ⟨go, y⟩ := jg ds[i] (Wx hlt)
    refine .inr ⟨go, fun σ' H' => ∃ w' fr' h', w1.le w' ∧ Rel X.K T B w' σ' H' fr' h' ∧ aP X.K T B W w' (cY g b (ds.drop (i + 1)) fr' h') D, fun σ' H' q => ⟨ds.length - (i + 1), by omega, rfl, hlt, q⟩, fun x H3 yx => ?_⟩
    obtain ⟨w3, l3, r3, rx⟩ := y x H3 yx B σ2 fr2 h2 r2
    have ed : ds.drop i = ds[i] :: ds.drop (i + 1) := List.drop_eq_getElem_cons hlt
    rw [ed] at p2
    refine sg B w3 σ2 H3 fr2 h2 x ds[i] _ r3 rx ?_
    unfold cY at p2
    cases e2 : g ds[i] fr2 h2 with
    | ok u fr3 h3 =>
      rw [e2] at p2
      intro w4 σ4 H4 l4 r4 _
      refine sb B w4 σ4 H4 fr3 h3 _ r4 ?_
      have l34 : w1.le w4 := Wd.le_trans l2 (Wd.le_trans l3 l4)
      dsimp only at p2
      cases e3 : b fr3 h3 with
      | ok f fr4 h4 =>
        rw [e3] at p2
        cases f with
        | nx => exact fun w5 σ5 H5 l5 r5 => ⟨w5, fr4, h4, Wd.le_trans l34 l5, r5, p2.le (Wd.le_trans (Wd.le_trans l3 l4) l5)⟩
        | ct => exact fun w5 σ5 H5 l5 r5 => ⟨w5, fr4, h4, Wd.le_trans l34 l5, r5, p2.le (Wd.le_trans (Wd.le_trans l3 l4) l5)⟩
        | brk => exact fun w5 σ5 H5 l5 r5 => p2 w5 σ5 H5 (Wd.le_trans (Wd.le_trans l3 l4) l5) r5
        | rt d => exact fun w5 σ5 H5 v l5 r5 rv => p2 w5 σ5 H5 v (Wd.le_trans (Wd.le_trans l3 l4) l5) r5 rv
      | exc y fr4 h4 =>
        rw [e3] at p2
        exact fun w5 σ5 H5 cc dd l5 r5 z => p2 w5 σ5 H5 cc dd (Wd.le_trans (Wd.le_trans l3 l4) l5) r5 z
      | err => rw [e3] at p2; exact p2
    | exc y fr3 h3 => rw [e2] at p2; exact p2
    | err => rw [e2] at p2; exact p2
  · have e : i = ds.length := by omega
    subst e
    rw [List.drop_length] at p2
    exact .inl ⟨js (Nat.le_refl _), p2 w2 σ2 H2 (Wd.le_refl _) r2⟩))
end
def WF : WX := fun _ _ _ _ => False
def cJ (fr : Fr) : List Nat → Fr
 | [] => fr
 | v :: vs => (cJ fr vs).set v none
theorem pH (fr : Fr) : ∀ vs : List Nat, (cJ fr vs).length = fr.length
 | [] => rfl
 | v :: vs => by unfold cJ; rw [WD, pH fr vs]
theorem pJ {fr : Fr} {i : Nat} : ∀ {vs : List Nat}, i ∉ vs → (cJ fr vs)[i]? = fr[i]?
 | [], _ => rfl
 | v :: vs, h => by
   unfold cJ
   rw [List.mem_cons, not_or] at h
   rw [Wy (Ne.symm h.1), pJ h.2]
theorem iU {fr : Fr} {i : Nat} {d : D} : ∀ {vs : List Nat}, i ∈ vs → (cJ fr vs)[i]? ≠ some (some d)
 | [], h => by cases h
 | v :: vs, h => by
   unfold cJ
   by_cases e : v = i
   · subst e
     by_cases l : v < (cJ fr vs).length
     · rw [Wz l]
       exact fun z => by cases z
     · rw [List.getElem?_eq_none (by rw [WD]; omega)]
       exact fun z => by cases z
   · rw [Wy e]
     rcases List.mem_cons.mp h with z | z
     · exact absurd z.symm e
     · exact iU z
theorem wipe_out {σ : L2.St} {i : Nat} : ∀ {vs : List Nat}, i ∉ vs → (wipe σ vs)[i]? = σ[i]?
 | [], _ => rfl
 | v :: vs, h => by
   unfold wipe
   rw [List.mem_cons, not_or] at h
   rw [Wy (Ne.symm h.1), wipe_out h.2]
theorem Jd {σ : L2.St} {i : Nat} {v : V} {vs : List Nat} (h : i ∈ vs) : (wipe σ vs)[i]? ≠ some (some v) := fun z => (wipe_some z).2 h
section
variable {K : PySem.W.Frag} {T : Tb} {B : Bs} {w w' : Wd} {σ σ' : L2.St} {H H' : Hp} {fr fr' : Fr} {h : Hh}
theorem Rel.refr (R : Rel K T B w σ H fr h) (fl : fr'.length = σ'.length) (hs : ∀ (i : Nat) (d : D), fr'[i]? = some (some d) → fr[i]? = some (some d) ∧ σ'[i]? = σ[i]?) : Rel K T B w σ' H fr' h :=
 { R with
   me := fun x d bx e od => by
    obtain ⟨h1, h2⟩ := hs 0 d e
    rw [h2]
    exact R.me x d bx h1 od
   fl := fl
   sl := fun i s d e1 e2 => by
    cases d with
    | none => exact .none
    | some d =>
      obtain ⟨h1, h2⟩ := hs i d e2
      rw [h2] at e1
      exact R.sl i s (some d) e1 h1
   sep := fun i j p hij ⟨a1, d1, a2, a3⟩ ⟨b1, d2, b2, b3⟩ => by
    obtain ⟨h1, h2⟩ := hs i d1 a2
    obtain ⟨h3, h4⟩ := hs j d2 b2
    rw [h2] at a1
    rw [h4] at b1
    exact R.sep i j p hij ⟨a1, d1, h1, a3⟩ ⟨b1, d2, h3, b3⟩ }
theorem Rel.wipe (R : Rel K T B w σ H fr h) (vs : List Nat) : Rel K T B w (wipe σ vs) H (cJ fr vs) h := by
 refine R.refr (by rw [pH, wipe_length]; exact R.fl) fun i d e => ?_
 by_cases hi : i ∈ vs
 · exact absurd e (iU hi)
 · rw [pJ hi] at e
   exact ⟨e, wipe_out hi⟩
end
def jB (vs : List Nat) (g : D → M Unit) (t : M Bool) (e : M D) (d : D) : M (Option D) := fun fr h => match g d fr h with
 | .ok _ fr h => match t fr h with
   | .ok true fr h => match e fr h with
     | .ok y fr h => .ok (some y) (cJ fr vs) h
     | _ => .err
   | .ok false fr h => .ok none (cJ fr vs) h
   | _ => .err
 | _ => .err
def vq {α : Type} : Option α → List α → List α
 | some y, r => y :: r
 | none, r => r
def jQ (vs : List Nat) (g : D → M Unit) (t : M Bool) (e : M D) : List D → M (List D)
 | [] => M.ret []
 | d :: ds => (jB vs g t e d).bind fun o => (jQ vs g t e ds).bind fun r => M.ret (vq o r)
def BP (vs : List Nat) : M Unit := fun fr h => .ok () (cJ fr vs) h
def uv (vs : List Nat) (l : M (List D)) (g : D → M Unit) (t : M Bool) (e : M D) : M D := l.bind fun ds => (BP vs).bind fun _ => if ds.length ≤ big then (jQ vs g t e ds).bind fun r => M.ret (.nl r) else M.opt none
section
variable {X : Cx} {T : Tb} {W : WX} {k : Nat} {pos pos' : Pos} {tg iter elt c : Expr} {ifs : List Expr} {li : M (List D)} {g : D → M Unit} {b : M Fl} {is : List Nat} {t : M Bool} {me : M D} {scope : Scope} {own : List (Str × Nat)}
theorem FZ {σ σ2 : L2.St} {vs is : List Nat} (hl : σ2.length = σ.length) (hi : ∀ i ∈ is, i ∈ vs) (hk : ∀ (j : Nat), j ∉ is → σ2[j]? = (wipe σ vs)[j]?) : wipe σ2 vs = wipe σ vs := by
 refine List.ext_getElem? fun j => ?_
 by_cases hj : j ∈ vs
 · have key : ∀ τ : L2.St, τ.length = σ.length → (wipe τ vs)[j]? = if j < σ.length then some none else none := fun τ hτ => by
    by_cases hjl : j < σ.length
    · rw [if_pos hjl]
      have hjl' : j < (wipe τ vs).length := by rw [wipe_length, hτ]; exact hjl
      rw [Wx hjl']
      cases e : (wipe τ vs)[j] with
      | none => rfl
      | some v => exact absurd (by rw [Wx hjl', e]) (Jd (σ := τ) (v := v) hj)
    · rw [if_neg hjl]
      exact List.getElem?_eq_none (by rw [wipe_length, hτ]; omega)
   rw [key σ2 hl, key σ rfl]
 · rw [wipe_out hj, hk j fun z => hj (hi j z), wipe_out hj]
def GB (X : Cx) (scope : Scope) (tg : Expr) : TG := fun v σ H Q => ∀ (s : Shared) (H0 : Hp) (C : Addr) (cl : List (Str × Addr)) (fp : List Addr), WG (X.blk s H0 scope (compEnvC scope cl C X.env) fp) tg v σ H Q
def TB (X : Cx) (scope : Scope) (ifs : List Expr) : TT := fun σ H Q => ∀ (s : Shared) (H0 : Hp) (C : Addr) (cl : List (Str × Addr)) (fp : List Addr), yQ (X.blk s H0 scope (compEnvC scope cl C X.env) fp) ifs σ H Q
def EB (X : Cx) (scope : Scope) (e : Expr) : TE := fun σ H Q => ∀ (s : Shared) (H0 : Hp) (C : Addr) (cl : List (Str × Addr)) (fp : List Addr), WE (X.blk s H0 scope (compEnvC scope cl C X.env) fp) e σ H Q
theorem Dr {B : Bs} {w : Wd} {σ : L2.St} {H : Hp} {fr : Fr} {h : Hh} {Q : VK} (si : lM X T W tg iter li) (hi : ∀ i ∈ is, i ∈ own.map (·.2))
 (sg : ∀ (s : Shared) (H0 : Hp) (C : Addr) (cl : List (Str × Addr)) (fp : List Addr), iT (X.blk s H0 scope (compEnvC scope cl C X.env) fp) T is tg g)
 (st : ∀ (s : Shared) (H0 : Hp) (C : Addr) (cl : List (Str × Addr)) (fp : List Addr), bO (yQ (X.blk s H0 scope (compEnvC scope cl C X.env) fp) ifs) X.K T WF vB t)
 (se : ∀ (s : Shared) (H0 : Hp) (C : Addr) (cl : List (Str × Addr)) (fp : List Addr), ao (X.blk s H0 scope (compEnvC scope cl C X.env) fp) T WF elt me)
 (R : Rel X.K T B w σ H fr h) (p : ak X.K T B W (vE X.K T B σ) w σ (uv (own.map (·.2)) li g t me fr h) Q) : tLc (WI X tg iter) (GB X scope tg) (TB X scope ifs) (EB X scope elt) (own.map (·.2)) σ H Q := by
 refine si B w σ H fr h _ R (ak.bind (VR := vJ X.K T B σ) p fun ds fr0 h0 w1 H1 J e1 l1 r0 vj p0 => ?_)
 generalize hvs : own.map (·.2) = vs at hi p0 ⊢
 intro A0 nD
 have p1 : ak X.K T B W (vE X.K T B σ) w1 σ ((if ds.length ≤ big then (jQ vs g t me ds).bind fun r => M.ret (.nl r) else M.opt none) (cJ fr0 vs) h0) Q := p0
 by_cases hb : ds.length ≤ big
 · rw [if_pos hb] at p1
   have rD := r0.temp (o := .lst []) nD
   have OD : Own B w1 A0 := r0.own_new nD
   refine ⟨fun i m H => m = ds.length - i ∧ i ≤ ds.length ∧ ∃ w' fr' h' acc vs', w1.le w' ∧ aa X.K T w' vs' acc ∧ acc.length ≤ i ∧ Rel X.K T (B.pr A0 (.lst vs')) w' (wipe σ vs) H fr' h' ∧ (∀ j ∈ vs, ∀ d, fr'[j]? ≠ some (some d)) ∧
    ak X.K T B W (vE X.K T B σ) w' σ (((jQ vs g t me (ds.drop i)).bind fun r => M.ret (D.nl (acc ++ r))) fr' h') Q, ⟨ds.length, by simp, Nat.zero_le _, w1, cJ fr0 vs, h0, [], [], Wd.le_refl _, .nil, Nat.zero_le _,
     (rD.wipe vs).protect OD (fun i ⟨z1, dd, z2, z3⟩ => r0.loose_new nD i (by
      by_cases hj : i ∈ vs
      · exact absurd z2 (iU hj)
      · rw [pJ hj] at z2
        rw [wipe_out hj] at z1
        exact ⟨z1, dd, z2, z3⟩)) upd_same, fun j hj d => iU hj, p1⟩, ?_⟩
   rintro i m H2 ⟨rfl, hil, w2, fr2, h2, acc, us, l2, ra, la, r2, hw2, p2⟩
   have hP := OD.p
   obtain ⟨js, jg⟩ := vj i w2 H2 l2 r2.sub
   by_cases hlt : i < ds.length
   · obtain ⟨go, y⟩ := jg ds[i] (Wx hlt)
     have ed : ds.drop i = ds[i] :: ds.drop (i + 1) := List.drop_eq_getElem_cons hlt
     rw [ed] at p2
     refine .inr ⟨go, fun H' => ∃ w' fr' h' acc vs', w1.le w' ∧ aa X.K T w' vs' acc ∧ acc.length ≤ i + 1 ∧ Rel X.K T (B.pr A0 (.lst vs')) w' (wipe σ vs) H' fr' h' ∧ (∀ j ∈ vs, ∀ d, fr'[j]? ≠ some (some d)) ∧
      ak X.K T B W (vE X.K T B σ) w' σ (((jQ vs g t me (ds.drop (i + 1))).bind fun r => M.ret (D.nl (acc ++ r))) fr' h') Q, fun H' q => ⟨ds.length - (i + 1), by omega, rfl, hlt, q⟩, fun x H3 yx => ?_⟩
     obtain ⟨w3, l3, r3, rx⟩ := y x H3 yx (B.pr A0 (.lst us)) (wipe σ vs) fr2 h2 r2
     have turn : ∃ o fr' h', jB vs g t me ds[i] fr2 h2 = .ok o fr' h' ∧ ak X.K T B W (vE X.K T B σ) w2 σ (((jQ vs g t me (ds.drop (i + 1))).bind fun r => M.ret (D.nl (acc ++ vq o r))) fr' h') Q := by
      have p2' : ak X.K T B W (vE X.K T B σ) w2 σ (((jB vs g t me ds[i]).bind fun o => (jQ vs g t me (ds.drop (i + 1))).bind fun r => M.ret (D.nl (acc ++ vq o r))) fr2 h2) Q := by
       have ee : ((jQ vs g t me (ds[i] :: ds.drop (i + 1))).bind fun r => M.ret (D.nl (acc ++ r))) fr2 h2 = ((jB vs g t me ds[i]).bind fun o => (jQ vs g t me (ds.drop (i + 1))).bind fun r => M.ret (D.nl (acc ++ vq o r))) fr2 h2 := by
        show M.bind (M.bind _ _) _ fr2 h2 = _
        unfold M.bind
        cases jB vs g t me ds[i] fr2 h2 with
        | ok o fr' h' => dsimp only; cases jQ vs g t me (ds.drop (i + 1)) fr' h' <;> rfl
        | exc _ _ _ => rfl
        | err => rfl
       rw [← ee]
       exact p2
      cases q : jB vs g t me ds[i] fr2 h2 with
      | ok o fr' h' =>
        rw [M.bind_ok q] at p2'
        exact ⟨o, fr', h', rfl, p2'⟩
      | exc y fr' h' =>
        exfalso
        unfold jB at q
        split at q
        · split at q
          · split at q <;> cases q
          · cases q
          · cases q
        · cases q
      | err =>
        rw [M.bind_err q] at p2'
        exact p2'.elim
     obtain ⟨o, fro, ho, qt, p3⟩ := turn
     have upw : ∀ {u2 : L2.St} {w' : Wd} {H' : Hp} {fr' : Fr} {h' : Hh} {B' : Bs}, wipe u2 vs = wipe σ vs → Rel X.K T B' w' u2 H' fr' h' → Rel X.K T B' w' (wipe σ vs) H' (cJ fr' vs) h' := fun {u2 w' H' fr' h' B'} e R' => by
      rw [← e]
      exact R'.wipe vs
     intro s0 H0 C cl fp
     refine sg s0 H0 C cl fp (B.pr A0 (.lst us)) w3 (wipe σ vs) H3 fr2 h2 x ds[i] _ r3 rx ?_
     unfold jB at qt
     cases q1 : g ds[i] fr2 h2 with
     | exc _ _ _ => rw [q1] at qt; cases qt
     | err => rw [q1] at qt; cases qt
     | ok _ fr3 h3 =>
       rw [q1] at qt
       dsimp only at qt
       intro w4 σ4 H4 l4 r4 k4
       have ew : wipe σ4 vs = wipe σ vs := FZ (k4.1.trans (wipe_length σ vs)) hi k4.2
       refine ⟨ew, fun s0 H0 C cl fp => st s0 H0 C cl fp (B.pr A0 (.lst us)) w4 σ4 H4 fr3 h3 _ r4 ?_⟩
       cases q2 : t fr3 h3 with
       | exc _ _ _ => rw [q2] at qt; cases qt
       | err => rw [q2] at qt; cases qt
       | ok b fr4 h4 =>
         rw [q2] at qt
         intro w5 H5 v l5 r5 rv
         have rv' : v = b := rv
         subst rv'
         cases v with
         | false =>
           dsimp only at qt
           cases qt
           simp only [Bool.false_eq_true, if_false]
           exact ⟨w5, _, _, acc, us, Wd.le_trans l2 (Wd.le_trans l3 (Wd.le_trans l4 l5)), ra.mono (Wd.le_trans l3 (Wd.le_trans l4 l5)), Nat.le_succ_of_le la, upw ew r5, fun j hj d => iU hj, p3.le (Wd.le_trans l3 (Wd.le_trans l4 l5))⟩
         | true =>
           dsimp only at qt
           simp only [if_true]
           intro s0 H0 C cl fp
           refine se s0 H0 C cl fp (B.pr A0 (.lst us)) w5 σ4 H5 fr4 h4 _ r5 ?_
           cases q3 : me fr4 h4 with
           | exc _ _ _ => rw [q3] at qt; cases qt
           | err => rw [q3] at qt; cases qt
           | ok yd fr5 h5 =>
             rw [q3] at qt
             cases qt
             intro w6 H6 yv l6 r6 ry
             have hD6 : H6 A0 = some (.lst us) := (r6.prot (A0, .lst us) (WK)).1
             have lall : w2.le w6 := Wd.le_trans l3 (Wd.le_trans l4 (Wd.le_trans l5 l6))
             refine ⟨us, hD6, ?_, w6, _, _, acc ++ [yd], us ++ [yv], Wd.le_trans l2 lall, (ra.mono lall).append (.cons ry .nil), ?_, (upw ew r6).repr OD.e OD.p, fun j hj d => iU hj, ?_⟩
             · rw [ra.length]
               have : big < sizeLine := by decide
               omega
             · rw [WY]
               show acc.length + 1 ≤ i + 1
               omega
             · have e9 : ∀ r : List _, acc ++ vq (some yd) r = acc ++ [yd] ++ r := fun r => by
                show acc ++ yd :: r = _
                rw [List.append_assoc]
                rfl
               simp only [e9] at p3
               exact p3.le lall
   · have e : i = ds.length := by omega
     subst e
     rw [List.drop_length] at p2
     obtain ⟨r3, O3, lo3, eD⟩ := r2.unprotect OD.e OD.p
     refine .inl ⟨js (Nat.le_refl _), ?_⟩
     have p3 : ak X.K T B W (vE X.K T B σ) w2 σ (.ok (D.nl (acc ++ [])) fr2 h2) Q := p2
     rw [WN] at p3
     have r4 : Rel X.K T B w2 σ H2 fr2 h2 := r3.refr (by rw [← wipe_length σ vs]; exact r3.fl) fun j d ej => ⟨ej, by
      by_cases hj : j ∈ vs
      · exact absurd ej (hw2 j hj d)
      · exact (wipe_out hj).symm⟩
     refine p3 w2 H2 (.ref A0) (Wd.le_refl _) r4 (.inr ⟨A0, _, rfl, O3, fun j ⟨z1, dd, z2, z3⟩ => lo3 j ⟨?_, dd, z2, z3⟩, eD, .lst ra⟩)
     by_cases hj : j ∈ vs
     · exact absurd z2 (hw2 j hj dd)
     · rw [wipe_out hj]
       exact z1
 · rw [if_neg hb] at p1
   exact p1.elim
theorem uw (C : Cq X T W k) (own : List (Str × Nat)) (si : lM X T W tg iter li) (hi : ∀ i ∈ is, i ∈ own.map (·.2))
 (sg : ∀ (s : Shared) (H0 : Hp) (C : Addr) (cl : List (Str × Addr)) (fp : List Addr), iT (X.blk s H0 scope (compEnvC scope cl C X.env) fp) T is tg g)
 (st : ∀ (s : Shared) (H0 : Hp) (C : Addr) (cl : List (Str × Addr)) (fp : List Addr), bO (yQ (X.blk s H0 scope (compEnvC scope cl C X.env) fp) ifs) X.K T WF vB t)
 (se : ∀ (s : Shared) (H0 : Hp) (C : Addr) (cl : List (Str × Addr)) (fp : List Addr), ao (X.blk s H0 scope (compEnvC scope cl C X.env) fp) T WF elt me)
 (ok : BlkOk X.N X.env.scope scope own) (hs : ∀ x, foldedSetIterable iter X.env x = pure x := by intro _; rfl) : du X T W (.ListComp elt [⟨tg, iter, ifs, 0⟩] scope pos) (uv (own.map (·.2)) li g t me) := fun B w σ H fr h Q R p =>
 bB (pe_lc C.calm C.nd yR ok (fun s H C cl fp => ⟨fun pins s' σ H v u Q I r hh => hh s _ C cl fp pins s' u I r⟩) (fun s H C cl fp => ⟨fun pins s' σ H Q I hh => hh s _ C cl fp pins s' I⟩) (fun s H C cl fp => ⟨fun pins s' σ H Q I hh => (hh s _ C cl fp).go pins s' I⟩) hs) (Dr si hi sg st se R p)
theorem Je (C : Cq X T W k) (j : Nat) {y : Str} {py spos : Pos} (own : List (Str × Nat)) (si : lM X T W tg iter li) (hi : ∀ i ∈ is, i ∈ own.map (·.2))
 (sg : ∀ (s : Shared) (H0 : Hp) (C : Addr) (cl : List (Str × Addr)) (fp : List Addr), iT (X.blk s H0 scope (compEnvC scope cl C X.env) fp) T is tg g)
 (st : ∀ (s : Shared) (H0 : Hp) (C : Addr) (cl : List (Str × Addr)) (fp : List Addr), bO (yQ (X.blk s H0 scope (compEnvC scope cl C X.env) fp) ifs) X.K T WF vB t)
 (se : ∀ (s : Shared) (H0 : Hp) (C : Addr) (cl : List (Str × Addr)) (fp : List Addr), ao (X.blk s H0 scope (compEnvC scope cl C X.env) fp) T WF elt me)
 (ok : BlkOk X.N X.env.scope scope own) (hsw : swapsWith (.ListComp elt [⟨tg, iter, ifs, 0⟩] scope pos) (some (.Name y py)) spos.line X.env = pure true) (hy : X.N[j]? = some y := by rfl) (j0 : j ≠ 0 := by decide) (hyl : X.env.scope.names.lookup y = some .local := by rfl)
 (hs : ∀ x, foldedSetIterable iter X.env x = pure x := by intro _; rfl) : gQ X T W (.Assign [.Name y py] (.ListComp elt [⟨tg, iter, ifs, 0⟩] scope pos) spos) (bj j (uv (own.map (·.2)) li g t me)) := fun B w σ H fr h D R p =>
 jc (ps_setLc C.calm C.nd hy hyl hsw yR ok (fun s H C cl fp => ⟨fun pins s' σ H v u Q I r hh => hh s _ C cl fp pins s' u I r⟩) (fun s H C cl fp => ⟨fun pins s' σ H Q I hh => hh s _ C cl fp pins s' I⟩) (fun s H C cl fp => ⟨fun pins s' σ H Q I hh => (hh s _ C cl fp).go pins s' I⟩) hs)
  (Dr si hi sg st se R (aP.bind (VR := vE X.K T B σ) p fun d fr1 h1 w1 H1 v e1 l1 r1 rx p1 => p1 w1 _ H1 (Wd.le_refl _) (r1.put j j0 rx)))
theorem qW : bO (yQ X []) X.K T W vB (M.ret true) := fun B w σ H fr h Q R p => Aq pts_nil (p w H true (Wd.le_refl _) R rfl)
theorem Av (s : jK X T W c t) : bO (yQ X [c]) X.K T W vB t := fun B w σ H fr h Q R p => Aq (pts_one lQ) (s B w σ H fr h Q R p)
theorem Cq.blk (C : Cq X T W k) {s : Shared} {H0 : Hp} {A0 : Addr} {cl : List (Str × Addr)} {fp : List Addr} : Cq (X.blk s H0 scope (compEnvC scope cl A0 X.env) fp) T WF k :=
 ⟨C.calm, C.nd, C.room, fun u s' ⟨_, _, _, _, _, _, _, _, _, _, _, _, _, _, _, _, w⟩ => w.elim, fun _ _ z => z.elim⟩
end
def aH (i : Nat) (f : List D → Option (List D)) : M Unit := fun fr h => match fr[i]? with
 | some (some (.nl l)) => match f l with
   | some l' => .ok () (fr.set i (some (.nl l'))) h
   | none => .err
 | some (some (.ref n)) => match h[n]? with
   | some (.nl l) => match f l with
     | some l' => .ok () fr (h.set n (.nl l'))
     | none => .err
   | _ => .err
 | _ => .err
def ux (d : D) (f : List D → Option (List D)) : M Unit := fun fr h => match d with
 | .ref n => match h[n]? with
   | some (.nl l) => match f l with
     | some l' => .ok () fr (h.set n (.nl l'))
     | none => .err
   | _ => .err
 | _ => .err
def fM (l : List D) : Option (List D) := some l
def pK (d : D) (l : List D) : Option (List D) := if l.length < big then some (l ++ [d]) else none
def nj (j : D) (d : D) (l : List D) : Option (List D) := match j with
 | .int j => (ixN l.length j).map fun n => l.set n d
 | _ => none
def Lk (_ : List D) : Option (List D) := some []
def nu (K : PySem.W.Frag) (T : Tb) (B : Bs) (w : Wd) (σ : L2.St) (H : Hp) (v : V) (f : List D → Option (List D)) (fr' : Fr) (h' : Hh) : Prop :=
 ∃ p vs l l', v = .ref p ∧ H p = some (.lst vs) ∧ aa K T w vs l ∧ f l = some l' ∧ ∀ vs', aa K T w vs' l' → Rel K T B w σ (upd H p (.lst vs')) fr' h'
section
variable {K : PySem.W.Frag} {T : Tb} {B : Bs} {w : Wd} {σ : L2.St} {H : Hp} {fr : Fr} {h : Hh}
theorem yU (R : Rel K T B w σ H fr h) {n : Nat} {v : V} (rv : aA K T w v (.ref n)) {f : List D → Option (List D)} {l l' : List D} (e : h[n]? = some (.nl l)) (ef : f l = some l') : nu K T B w σ H v f fr (h.set n (.nl l')) := by
 cases rv with
 | @ref a n s =>
   obtain ⟨o, q, rr⟩ := R.cel n a _ s e
   cases rr with
   | lst r => exact ⟨a, _, l, l', rfl, q, r, ef, fun vs' rs => R.change_cell s e (.lst rs)⟩
theorem yV {α β : Type} {VR : Wd → Hp → Fr → β → α → Prop} {W : WX} {i : Nat} {v : V} {f : List D → Option (List D)} {m : M α} {Q : β → Hp → Prop} (R : Rel K T B w σ H fr h) (ev : σ[i]? = some (some v)) (p : ak K T B W VR w σ ((aH i f).bind (fun _ => m) fr h) Q) :
 ∃ fr' h', nu K T B w σ H v f fr' h' ∧ ak K T B W VR w σ (m fr' h') Q := by
 cases q : aH i f fr h with
 | ok u fr' h' =>
   rw [M.bind_ok q] at p
   refine ⟨fr', h', ?_, p⟩
   unfold aH at q
   split at q
   · rename_i l e1
     split at q
     · rename_i l' ef
       cases q
       obtain ⟨v', e2, z⟩ := bA R e1
       rw [ev] at e2
       cases e2
       cases z with
       | val r => cases r
       | own O eH r =>
         cases r with
         | lst r => exact ⟨_, _, l, l', rfl, eH, r, ef, fun vs' rs => R.change_slot ev e1 O eH rfl (.lst rs)⟩
     · cases q
   · rename_i n e1
     split at q
     · split at q
       · cases q
         obtain ⟨v', e2, z⟩ := bA R e1
         rw [ev] at e2
         cases e2
         cases z with
         | val r => exact yU R r (by assumption) (by assumption)
         | own O eH r => cases r
       · cases q
     · cases q
   · cases q
 | exc y fr' h' =>
   exfalso
   unfold aH at q
   split at q
   · split at q <;> cases q
   · split at q
     · split at q <;> cases q
     · cases q
   · cases q
 | err =>
   rw [M.bind_err q] at p
   exact p.elim
end
def kJ (i : Nat) (m : M D) : M D := (aH i fM).bind fun _ => m.bind fun d => (aH i (pK d)).bind fun _ => M.ret .non
def Sd (i : Nat) : M D := (aH i Lk).bind fun _ => M.ret .non
def Sh (mo m : M D) : M D := mo.bind fun o => (ux o fM).bind fun _ => m.bind fun d => (ux o (pK d)).bind fun _ => M.ret .non
def Ss (mo : M D) : M D := mo.bind fun o => (ux o Lk).bind fun _ => M.ret .non
section
variable {X : Cx} {T : Tb} {W : WX} {k : Nat} {apos cpos px : Pos} {e o : Expr} {m mo : M D}
theorem Ln {K : PySem.W.Frag} {B : Bs} {w : Wd} {σ : L2.St} {H : Hp} {v : V} {f : List D → Option (List D)} {fr' : Fr} {h' : Hh} (z : nu K T B w σ H v f fr' h') : tyV K "list" v H := by
 obtain ⟨p, vs, l, l', rfl, e, _⟩ := z
 exact .inl ⟨rfl, vs, SqL.of e⟩
theorem Ge {K : PySem.W.Frag} {B : Bs} {w : Wd} {σ : L2.St} {H : Hp} {v : V} {fr' : Fr} {h' : Hh} (z : nu K T B w σ H v fM fr' h') : Rel K T B w σ H fr' h' := by
 obtain ⟨p, vs, l, l', rfl, e, r, ef, k⟩ := z
 have e1 : l = l' := Option.some.inj ef
 subst e1
 have z := k vs r
 have : upd H p (.lst vs) = H := by
  funext a
  unfold upd
  split
  · rename_i h
    rw [h, e]
  · rfl
 rw [this] at z
 exact z
theorem Jf {K : PySem.W.Frag} {B : Bs} {w : Wd} {σ : L2.St} {H : Hp} {v y : V} {d : D} {fr' : Fr} {h' : Hh} {Q : VK} (z : nu K T B w σ H v (pK d) fr' h') (ry : aA K T w y d) (q : ∀ H', Rel K T B w σ H' fr' h' → Q .non H') : rAppend v [y] H Q := by
 obtain ⟨p, vs, l, l', rfl, e, r, ef, k⟩ := z
 unfold pK at ef
 by_cases hl : l.length < big
 · rw [if_pos hl] at ef
   cases ef
   exact ⟨p, vs, y, rfl, rfl, e, by rw [r.length]; exact Nat.lt_of_lt_of_le hl (by decide), q _ (k _ (r.append (.cons ry .nil)))⟩
 · rw [if_neg hl] at ef
   cases ef
theorem vz (i : Nat) {x : Str} (s : ao X T W e m) (hN : X.N[i]? = some x := by rfl) (hv : Vis X.env.scope x := by first | exact Or.inl rfl | exact Or.inr (Or.inl rfl) | exact Or.inr (Or.inr rfl)) (hd : (x == ("__debug__" : Str)) = false := by decide)
 (hcd : (x == ("__classdict__" : Str)) = false := by decide)
 (hbase : attributeBase (.Name x px) "append" X.env (eval (.Name x px) X.env) = eval (.Name x px) X.env := by rfl)
 (hfew : ((backTo cpos (starEach (e :: []) X.env)).all (fun x => !x.1) && (backToKw cpos (keywordEach [] X.env)).all (fun x => x.1.isSome)
  && decide ((e :: []).length + ([] : List Keyword).length + (if ([] : List Keyword).isEmpty then 0 else 1) < 30)) = true := by rfl)
 (hline : (apos.endLine == cpos.line) = true := by rfl) (hs : starEach (e :: []) X.env = (false, eval e X.env) :: starEach [] X.env := by exact aW rfl) (hplain : (backTo cpos (starEach [] X.env)).any (·.1) = false := by rfl) :
 ao X T W (.Call (.Attribute (.Name x px) "append" apos) [e] [] cpos) (kJ i m) := fun B w σ H fr h Q R p => by
 have hh : ∃ v, σ[i]? = some (some v) := by
  cases e1 : fr[i]? with
  | none =>
    have q : aH i fM fr h = .err := by unfold aH; rw [e1]
    have p' : ak X.K T B W (vV X.K T B σ) w σ ((aH i fM).bind _ fr h) Q := p
    rw [M.bind_err q] at p'
    exact p'.elim
  | some o =>
    cases o with
    | none =>
      have q : aH i fM fr h = .err := by unfold aH; rw [e1]
      have p' : ak X.K T B W (vV X.K T B σ) w σ ((aH i fM).bind _ fr h) Q := p
      rw [M.bind_err q] at p'
      exact p'.elim
    | some d =>
      obtain ⟨v, e2, _⟩ := bA R e1
      exact ⟨v, e2⟩
 obtain ⟨v, ev⟩ := hh
 obtain ⟨fr1, h1, z1, p1⟩ := yV (VR := vV X.K T B σ) R ev p
 have R1 := Ge z1
 refine bB (pe_bm PySem.F.plainAttrs_list PySem.F.slot_list_append PySem.F.type_list_append mt_append (pe_var hN hv hd hcd) (pa_cons aK pa_nil hs) hbase hfew hline hs hplain) ⟨v, ev, Ln z1, s B w σ H fr1 h1 _ R1 (ak.bind (VR := vV X.K T B σ) p1 fun d fr2 h2 w2 H2 y e2 l2 r2 ry p2 => ?_)⟩
 obtain ⟨fr3, h3, z3, p3⟩ := yV (VR := vV X.K T B σ) r2 ev p2
 exact Jf z3 ry fun H' R' => p3 w2 H' .non (Wd.le_refl _) R' .non
def uz (i : Nat) (m mi : M D) : M Fl := m.bind fun d => (cX i).bind fun _ => mi.bind fun j => (aH i (nj j d)).bind fun _ => M.ret .nx
def Sv (mo m mi : M D) : M Fl := m.bind fun d => mo.bind fun o => mi.bind fun j => (ux o (nj j d)).bind fun _ => M.ret .nx
end
end Pk
namespace Pk
open PySem PySem.Spec L2
section
variable {K : PySem.W.Frag} {T : Tb} {B : Bs} {w : Wd} {σ : L2.St} {H : Hp} {fr : Fr} {h : Hh}
theorem Ds {i : Nat} {v : V} {f : List D → Option (List D)} (R : Rel K T B w σ H fr h) (ev : σ[i]? = some (some v)) : aH i f fr h = .err ∨ ∃ fr' h', aH i f fr h = .ok () fr' h' ∧ nu K T B w σ H v f fr' h' := by
 cases q : aH i f fr h with
 | ok u fr' h' =>
   right
   refine ⟨fr', h', rfl, ?_⟩
   unfold aH at q
   split at q
   · rename_i l e1
     split at q
     · rename_i l' ef
       cases q
       obtain ⟨v', e2, z⟩ := bA R e1
       rw [ev] at e2
       cases e2
       cases z with
       | val r => cases r
       | own O eH r =>
         cases r with
         | lst r => exact ⟨_, _, l, l', rfl, eH, r, ef, fun vs' rs => R.change_slot ev e1 O eH rfl (.lst rs)⟩
     · cases q
   · rename_i n e1
     split at q
     · split at q
       · cases q
         obtain ⟨v', e2, z⟩ := bA R e1
         rw [ev] at e2
         cases e2
         cases z with
         | val r => exact yU R r (by assumption) (by assumption)
         | own O eH r => cases r
       · cases q
     · cases q
   · cases q
 | exc y fr' h' =>
   exfalso
   unfold aH at q
   split at q
   · split at q <;> cases q
   · split at q
     · split at q <;> cases q
     · cases q
   · cases q
 | err => exact .inl rfl
end
section
variable {X : Cx} {T : Tb} {W : WX} {k : Nat} {pos px tpos : Pos} {e o j : Expr} {m mo mj : M D}
theorem Lp {K : PySem.W.Frag} {B : Bs} {w : Wd} {σ : L2.St} {H : Hp} {v y u : V} {d jd : D} {fr' : Fr} {h' : Hh} {Q : Hp → Prop} (z : nu K T B w σ H v (nj jd d) fr' h') (ry : aA K T w y d) (rj : aA K T w u jd) (q : ∀ H', Rel K T B w σ H' fr' h' → Q H') : rSetL v u y H Q := by
 obtain ⟨p, vs, l, l', rfl, e, r, ef, k⟩ := z
 unfold nj at ef
 split at ef
 · rename_i i
   obtain ⟨n, en, rfl⟩ := Option.map_eq_some_iff.mp ef
   rw [bR rj]
   exact ⟨p, vs, i, n, rfl, rfl, e, by rw [r.length]; exact en, q _ (k _ (r.set n ry))⟩
 · cases ef
theorem Dt (i : Nat) {x : Str} (s : ao X T W e m) (sj : ao X T W j mj) (hN : X.N[i]? = some x := by rfl) (hv : Vis X.env.scope x := by first | exact Or.inl rfl | exact Or.inr (Or.inl rfl) | exact Or.inr (Or.inr rfl)) (hd : (x == ("__debug__" : Str)) = false := by decide)
 (hcd : (x == ("__classdict__" : Str)) = false := by decide)
 (ha : ∀ v, assign (.Subscript (.Name x px) j tpos) X.env v = (do
  let ov ← holding [v] (eval (.Name x px) X.env)
  let iv ← holding [v, ov] (eval j X.env)
  standAt tpos
  holding [v, ov, iv] (setItem ov iv v)
  release [v, ov, iv] []) := by intro _; rfl)
 (hs : swapsWithSole [.Subscript (.Name x px) j tpos] e pos.line X.env = pure false := by rfl) (hw : swappedStores [.Subscript (.Name x px) j tpos] e X.env = pure none := by rfl)
 (h1 : (assignEach [.Subscript (.Name x px) j tpos] X.env).map (·.2) = [assign (.Subscript (.Name x px) j tpos) X.env] := by rfl) : gQ X T W (.Assign [.Subscript (.Name x px) j tpos] e pos) (uz i m mj) := fun B w σ H fr h D R p =>
 jc (ps_asg aK (pg_sub (pe_var hN hv hd hcd) aK set_list ha) hs hw h1) (s B w σ H fr h _ R (aP.bind (VR := vV X.K T B σ) p fun d fr1 h1 w1 H1 v e1 l1 r1 rx p1 => by
  have p1' : aP X.K T B W w1 ((cX i).bind (fun _ => mj.bind fun j => (aH i (nj j d)).bind fun _ => M.ret .nx) fr1 h1) D := p1
  cases es : fr1[i]? with
  | none =>
    have q : cX i fr1 h1 = .err := by unfold cX; rw [es]
    rw [M.bind_err q] at p1'
    exact p1'.elim
  | some os =>
    cases os with
    | none =>
      have q : cX i fr1 h1 = .err := by unfold cX; rw [es]
      rw [M.bind_err q] at p1'
      exact p1'.elim
    | some ds =>
      have q : cX i fr1 h1 = .ok () fr1 h1 := by unfold cX; rw [es]
      rw [M.bind_ok q] at p1'
      obtain ⟨ov, ev, _⟩ := bA r1 es
      refine ⟨ov, ev, sj B w1 σ H1 fr1 h1 _ r1 (aP.bind (VR := vV X.K T B σ) p1' fun jd fr2 h2 w2 H2 jv e2 l2 r2 rj p2 => ?_)⟩
      have p2' : aP X.K T B W w2 ((aH i (nj jd d)).bind (fun _ => M.ret .nx) fr2 h2) D := p2
      rcases Ds (f := nj jd d) r2 ev with q | ⟨fr3, h3, q, z⟩
      · rw [M.bind_err q] at p2'
        exact p2'.elim
      · rw [M.bind_ok q] at p2'
        exact Lp z (rx.mono l2) rj fun H' R' => p2' w2 σ H' (Wd.le_refl _) R'))
def qX (m : M D) : M D := m.bind fun d fr h => if d.own then .ok (.ref h.length) fr (h ++ [d]) else .err
theorem Jg (s : du X T W e m) : ao X T W e (qX m) := fun B w σ H fr h Q R p => s B w σ H fr h Q R (ak.bind (VR := vE X.K T B σ) p fun d fr1 h1 w1 H1 v e1 l1 r1 rx p1 => by
 rcases rx with rx | ⟨q, o, rfl, O, lo, eH, rd⟩
 · have p1' : ak X.K T B W (vV X.K T B σ) w1 σ (if d.own then .ok (.ref h1.length) fr1 (h1 ++ [d]) else .err) Q := p1
   rw [mZ rx] at p1'
   exact (show False from p1').elim
 · have p1' : ak X.K T B W (vV X.K T B σ) w1 σ (if d.own then .ok (.ref h1.length) fr1 (h1 ++ [d]) else .err) Q := p1
   rw [rd.own] at p1'
   have R2 := r1.to_cell O lo eH rd
   exact p1' ⟨w1.F, w1.I ++ [q]⟩ H1 (.ref q) ⟨fun _ _ z => z, [q], rfl⟩ R2 (.ref (by
    rw [← r1.len]
    show (w1.I ++ [q])[w1.I.length]? = some q
    rw [List.getElem?_append_right (Nat.le_refl _), Nat.sub_self]
    rfl)))
theorem uA {α : Type} {f : Str} : ∀ {fs : List Str} {vs : List α} {i : Nat}, fs.Nodup → fs[i]? = some f → (fs.zip vs).lookup f = vs[i]?
 | [], _, _, _, e => by simp at e
 | g :: fs, [], i, _, _ => by simp
 | g :: fs, v :: vs, 0, _, e => by
   simp at e
   subst e
   simp [Ww]
 | g :: fs, v :: vs, i + 1, n, e => by
   have hf : f ∈ fs := WL (by simpa using e)
   have hne : (f == g) = false := by
    rw [beq_eq_false_iff_ne]
    rintro rfl
    exact (List.nodup_cons.mp n).1 hf
   show Ww f ((g, v) :: fs.zip vs) = (v :: vs)[i + 1]?
   rw [List.lookup_cons, hne]
   show (fs.zip vs).lookup f = _
   rw [uA (List.nodup_cons.mp n).2 (by simpa using e)]
   simp
theorem yW {f : Str} {y : V} : ∀ {fs : List Str} {vs : List V} {i : Nat}, fs.Nodup → fs[i]? = some f → i ≤ vs.length → putF f y (fs.zip vs) = fs.zip (if i < vs.length then vs.set i y else vs ++ [y])
 | [], _, _, _, e, _ => by simp at e
 | g :: fs, [], i, _, e, hl => by
   have h0 : i = 0 := by simpa using hl
   subst h0
   simp at e
   subst e
   simp [putF]
 | g :: fs, v :: vs, 0, _, e, _ => by
   simp at e
   subst e
   show putF g y ((g, v) :: fs.zip vs) = _
   unfold putF
   rw [if_pos rfl, if_pos (show 0 < (v :: vs).length from Nat.succ_pos _)]
   rfl
 | g :: fs, v :: vs, i + 1, n, e, hl => by
   have hf : f ∈ fs := WL (by simpa using e)
   have hne : ¬ g = f := by
    rintro rfl
    exact (List.nodup_cons.mp n).1 hf
   show putF f y ((g, v) :: fs.zip vs) = _
   unfold putF
   rw [if_neg hne, yW (List.nodup_cons.mp n).2 (i := i) (by simpa using e) (by simpa using hl)]
   by_cases h : i < vs.length
   · rw [if_pos h, if_pos (by simpa using h)]
     rfl
   · rw [if_neg h, if_neg (by simpa using h)]
     rfl
structure BR (X : Cx) (T : Tb) (f : Str) (ix : Nat → Option Nat) : Prop where
 cls : ∀ c i, ix c = some i → Cls X.K (T.cad c)
 na : ∀ c i, ix c = some i → NoAttr X.K (T.cad c) f
 nd : ∀ c i, ix c = some i → (T.fld c).Nodup ∧ (T.fld c).length < 1000
 at_ : ∀ c i, ix c = some i → (T.fld c)[i]? = some f
def D.ins (h : Hh) (d : D) : Option (Nat × List D) := match d.der h with
 | .obj c fs => some (c, fs)
 | .no c fs => some (c, fs)
 | _ => none
def gG (ix : Nat → Option Nat) (h : Hh) (d : D) : Option D := match d.ins h with
 | some (c, fs) => match ix c with
   | some i => fs[i]?
   | none => none
 | none => none
theorem jG {K : PySem.W.Frag} {B : Bs} {w : Wd} {σ : L2.St} {H : Hp} {fr : Fr} {h : Hh} {v : V} {d : D} {c : Nat} {fs : List D} (R : Rel K T B w σ H fr h) (z : vO K T B σ w H fr v d) (e : d.ins h = some (c, fs)) :
 ∃ a dx vs, v = .ref a ∧ H a = some (.ins (T.cad c) dx ((T.fld c).zip vs)) ∧ aa K T w vs fs := by
 rcases z with z | ⟨p, o, rfl, eH, z⟩
 · cases z with
   | obj s r =>
     cases e
     exact ⟨_, _, _, rfl, R.sub _ _ s, r⟩
   | @ref a n s =>
     have ln : n < h.length := by
      rw [← R.len]
      exact (List.getElem?_eq_some_iff.mp s).1
     obtain ⟨o, q, rr⟩ := R.cel n a h[n] s (Wx ln)
     have e0 : D.der h (.ref n) = h[n] := by
      unfold D.der
      dsimp only
      rw [Wx ln]
      rfl
     unfold D.ins at e
     rw [e0] at e
     generalize h[n] = cc at rr e
     cases rr with
     | lst r => cases e
     | dct _ r => cases e
     | obj r =>
       cases e
       exact ⟨_, _, _, rfl, q, r⟩
   | _ => cases e
 · cases z with
   | lst r => cases e
   | obj r =>
     cases e
     exact ⟨_, _, _, rfl, eH, r⟩
theorem fW {f : Str} {ix : Nat → Option Nat} (F : BR X T f ix) (s : m9 X T W o mo) (hb : attributeBase o f X.env (eval o X.env) = eval o X.env := by rfl) : ao X T W (.Attribute o f pos) (aZ (gG ix) mo) := fun B w σ H fr h Q R p =>
 bB (pe_fld aK hb) (s B w σ H fr h _ R (ak.bind (VR := vO X.K T B σ) p fun d fr1 h1 w1 H1 v e1 l1 r1 rx p1 => by
  have p1' : ak X.K T B W (vV X.K T B σ) w1 σ (M.opt (gG ix h1 d) fr1 h1) Q := p1
  cases q : gG ix h1 d with
  | none => rw [q] at p1'; exact p1'.elim
  | some z =>
    rw [q] at p1'
    unfold gG at q
    split at q
    · rename_i c fs ei
      split at q
      · rename_i i ec
        obtain ⟨a, dx, vs, rfl, eH, rs⟩ := jG r1 rx ei
        obtain ⟨v, ev, rv⟩ := rs.get q
        exact ⟨a, _, dx, _, v, rfl, eH, F.cls c i ec, F.na c i ec, by rw [uA (F.nd c i ec).1 (F.at_ c i ec)]; exact ev, p1' w1 H1 v (Wd.le_refl _) r1 rv⟩
      · cases q
    · cases q))
def kW (i : Nat) (d : D) (fs : List D) : Option (List D) := if i ≤ fs.length then some (if i < fs.length then fs.set i d else fs ++ [d]) else none
def pM (j : Nat) (ix : Nat → Option Nat) (d : D) : M Unit := fun fr h => match fr[j]? with
 | some (some (.no c fs)) => match ix c with
   | some i => match kW i d fs with
     | some fs' => .ok () (fr.set j (some (.no c fs'))) h
     | none => .err
   | none => .err
 | some (some (.ref n)) => match h[n]? with
   | some (.no c fs) => match ix c with
     | some i => match kW i d fs with
       | some fs' => .ok () fr (h.set n (.no c fs'))
       | none => .err
     | none => .err
   | _ => .err
 | _ => .err
def vC (j : Nat) (ix : Nat → Option Nat) (m : M D) : M Fl := m.bind fun d => (pM j ix d).bind fun _ => M.ret .nx
theorem Du {K : PySem.W.Frag} {w : Wd} {f : Str} {c i : Nat} {fs fs' : List D} {vs : List V} {y : V} {d : D} (nd : (T.fld c).Nodup) (at_ : (T.fld c)[i]? = some f) (rs : aa K T w vs fs) (ry : aA K T w y d) (e : kW i d fs = some fs') :
 ∃ vs', putF f y ((T.fld c).zip vs) = (T.fld c).zip vs' ∧ aa K T w vs' fs' := by
 unfold kW at e
 by_cases hi : i ≤ fs.length
 · rw [if_pos hi] at e
   cases e
   refine ⟨_, yW nd at_ (by rw [rs.length]; exact hi), ?_⟩
   rw [rs.length]
   by_cases hl : i < fs.length
   · rw [if_pos hl, if_pos hl]
     exact rs.set i ry
   · rw [if_neg hl, if_neg hl]
     exact rs.append (.cons ry .nil)
 · rw [if_neg hi] at e
   cases e
theorem yX (j : Nat) {x f : Str} {ix : Nat → Option Nat} (F : BR X T f ix) (s : ao X T W e m) (hs : swapsWith e (some (.Attribute (.Name x px) f tpos)) pos.line X.env = pure false := by rfl)
 (hN : X.N[j]? = some x := by rfl) (hv : Vis X.env.scope x := by first | exact Or.inl rfl | exact Or.inr (Or.inl rfl) | exact Or.inr (Or.inr rfl)) (hd : (x == ("__debug__" : Str)) = false := by decide)
 (hcd : (x == ("__classdict__" : Str)) = false := by decide) : gQ X T W (.Assign [.Attribute (.Name x px) f tpos] e pos) (vC j ix m) := fun B w σ H fr h D R p =>
 jc (ps_fld (pe_var hN hv hd hcd) aK hs) (s B w σ H fr h _ R (aP.bind (VR := vV X.K T B σ) p fun d fr1 h1 w1 H1 y e1 l1 r1 ry p1 => by
  have p1' : aP X.K T B W w1 ((pM j ix d).bind (fun _ => M.ret .nx) fr1 h1) D := p1
  have fin : ∀ {c i : Nat} {a dx : Addr} {vs : List V} {fs fs' : List Pk.D}, ix c = some i → H1 a = some (.ins (T.cad c) dx ((T.fld c).zip vs)) → aa X.K T w1 vs fs → kW i d fs = some fs' → (∀ vs', aa X.K T w1 vs' fs' → D.nx σ (upd H1 a (.ins (T.cad c) dx ((T.fld c).zip vs')))) → σ[j]? = some (some (.ref a)) →
   ∃ v, σ[j]? = some (some v) ∧ ∃ a C dx fs, v = .ref a ∧ H1 a = some (.ins C dx fs) ∧ Cls X.K C ∧ NoAttr X.K C f ∧ fs.length < 1000 ∧ D.nx σ (upd H1 a (.ins C dx (putF f y fs))) := fun {c i a dx vs fs fs'} ec eH rs ep kk es => by
   obtain ⟨vs', e1, rs'⟩ := Du (F.nd c i ec).1 (F.at_ c i ec) rs ry ep
   refine ⟨_, es, a, _, dx, _, rfl, eH, F.cls c i ec, F.na c i ec, ?_, ?_⟩
   · rw [List.length_zip]
     have := (F.nd c i ec).2
     omega
   · rw [e1]
     exact kk vs' rs'
  cases q : pM j ix d fr1 h1 with
  | err => rw [M.bind_err q] at p1'; exact p1'.elim
  | exc z fr2 h2 =>
    exfalso
    unfold pM at q
    repeat' (first | (split at q) | (cases q))
  | ok u fr2 h2 =>
    rw [M.bind_ok q] at p1'
    have p2 : ∀ w' σ' H', w1.le w' → Rel X.K T B w' σ' H' fr2 h2 → D.nx σ' H' := p1'
    unfold pM at q
    split at q
    · rename_i c fs es
      split at q
      · rename_i i ec
        split at q
        · rename_i fs' ep
          cases q
          obtain ⟨v, e2, z⟩ := bA r1 es
          cases z with
          | val r => cases r
          | own O eH r =>
            cases r with
            | obj r => exact fin ec eH r ep (fun vs' rs' => p2 w1 σ _ (Wd.le_refl _) (r1.change_slot e2 es O eH rfl (.obj rs'))) e2
        · cases q
      · cases q
    · rename_i n es
      split at q
      · rename_i c fs en
        split at q
        · rename_i i ec
          split at q
          · rename_i fs' ep
            cases q
            obtain ⟨v, e2, z⟩ := bA r1 es
            cases z with
            | val r =>
              cases r with
              | ref sI =>
                obtain ⟨o, qo, rr⟩ := r1.cel n _ _ sI en
                cases rr with
                | obj r => exact fin ec qo r ep (fun vs' rs' => p2 w1 σ _ (Wd.le_refl _) (r1.change_cell sI en (.obj rs'))) e2
            | own O eH r => cases r
          · cases q
        · cases q
      · cases q
    · cases q))
end
end Pk
namespace Pk
open PySem PySem.Spec L2
abbrev Fn := List D → Hh → R D
def startF (n : Nat) (ds : List D) : Fr := ds.map some ++ List.replicate (n - ds.length) none
def cA (n : Nat) (m : M Fl) : Fn := fun ds h => match m (startF n ds) h with
 | .ok (.rt d) _ h => .ok d [] h
 | .ok .nx _ h => .ok .non [] h
 | .ok _ _ _ => .err
 | .exc x _ h => .exc x [] h
 | .err => .err
def runI (c n : Nat) (m : M Fl) : Fn := fun ds h => match m (startF n (.no c [] :: ds)) h with
 | .ok .nx fr h => match (fr : Fr)[0]? with
   | some (some (D.no c' fs)) => if c' = c then .ok (.no c fs) [] h else .err
   | _ => .err
 | .ok _ _ _ => .err
 | .exc x _ h => .exc x [] h
 | .err => .err
def spF (K : PySem.W.Frag) (T : Tb) (n : Nat) (F : Fn) : Sp := fun vs H Q E => ∃ w h ds, Rel K T (Bs.of w H) w [] H [] h ∧ aa K T w vs ds ∧ ds.length = n ∧ ak K T (Bs.of w H) (fun c d _ H' => E c d H') (vE K T (Bs.of w H) []) w [] (F ds h) Q
def vN (K : PySem.W.Frag) (T : Tb) (w : Wd) (G : Hp) (x : Addr) (w' : Wd) (H' : Hp) (_ : Fr) (v : V) (d : D) : Prop := v = .non ∧ Own (Bs.of w G) w' x ∧ ∃ o, H' x = some o ∧ di K T w' o d
def spI (K : PySem.W.Frag) (T : Tb) (c n : Nat) (F : Fn) : Sp := fun vs H Q E => ∃ w h ds G x dx us, vs = .ref x :: us ∧ G x = none ∧ H = upd G x (.ins (T.cad c) dx []) ∧ Rel K T (Bs.of w G) w [] G [] h ∧ aa K T w us ds ∧ ds.length + 1 = n ∧
 ak K T (Bs.of w G) (fun c d _ H' => E c d H') (vN K T w G x) w [] (F ds h) Q
section
variable {K : PySem.W.Frag} {T : Tb} {B : Bs} {w w' : Wd} {σ : L2.St} {H H' : Hp} {fr : Fr} {h : Hh}
theorem oO {n : Nat} {ds : List D} (hl : ds.length ≤ n) : (startF n ds).length = n := by
 unfold startF
 rw [WY, WR, List.length_replicate]
 omega
theorem jn {n i : Nat} {ds : List D} {d : D} (e : (startF n ds)[i]? = some (some d)) : ds[i]? = some d := by
 unfold startF at e
 by_cases hi : i < ds.length
 · rw [List.getElem?_append_left (by simpa using hi), W3] at e
   cases q : ds[i]? with
   | none => rw [q] at e; cases e
   | some a => rw [q] at e; cases e; rfl
 · rw [List.getElem?_append_right (by simpa using hi), List.getElem?_replicate] at e
   split at e <;> cases e
theorem yZ {N : List Str} {vs : List V} {i : Nat} {v : V} (e : vs[i]? = some v) : (L2.start N vs)[i]? = some (some v) := by
 unfold L2.start
 have hi : i < vs.length := (List.getElem?_eq_some_iff.mp e).1
 rw [List.getElem?_append_left (by simpa using hi), W3, e]
 rfl
theorem wz {N : List Str} {vs : List V} (hl : vs.length ≤ N.length) : (L2.start N vs).length = N.length := by
 unfold L2.start
 rw [WY, WR, List.length_replicate]
 omega
theorem Rel.start (R : Rel K T B w [] H [] h) {N : List Str} {vs : List V} {ds : List D} (rs : aa K T w vs ds) (hl : ds.length ≤ N.length) : Rel K T B w (L2.start N vs) H (startF N.length ds) h :=
 { R with
   me := fun x d bx e od => by
    obtain ⟨v, ev, rv⟩ := rs.get (jn e)
    exact (gJ od rv).elim
   fl := by rw [oO hl, wz (by rw [rs.length]; exact hl)]
   sl := fun i s d e1 e2 => by
    cases d with
    | none => exact .none
    | some d =>
      obtain ⟨v, ev, rv⟩ := rs.get (jn e2)
      rw [yZ ev] at e1
      cases e1
      exact .val rv
   sep := fun i j p hij ⟨_, d, e, od⟩ _ => by
    obtain ⟨v, ev, rv⟩ := rs.get (jn e)
    exact gJ od rv }
theorem Rel.startI (R : Rel K T B w [] H [] h) {N : List Str} {x dx : Addr} {c : Nat} {vs : List V} {ds : List D} (hB : B.me = some x) (nx : H x = none) (rs : aa K T w vs ds) (hl : ds.length + 1 ≤ N.length) :
 Rel K T B w (L2.start N (.ref x :: vs)) (upd H x (.ins (T.cad c) dx [])) (startF N.length (.no c [] :: ds)) h := by
 have R1 : Rel K T B w [] (upd H x (.ins (T.cad c) dx [])) [] h := R.temp nx
 have O : Own B w x := R.own_new nx
 have sl : ∀ (i : Nat) s d, (L2.start N (.ref x :: vs))[i]? = some s → (startF N.length (.no c [] :: ds))[i]? = some d → m7 K T B w (upd H x (.ins (T.cad c) dx [])) s d := fun i s d e1 e2 => by
  cases d with
  | none => exact .none
  | some d =>
    have q := jn e2
    cases i with
    | zero =>
      cases q
      cases e1
      exact .own O upd_same (by
       have z : di K T w (.ins (T.cad c) dx ((T.fld c).zip [])) (.no c []) := .obj .nil
       rw [List.zip_nil_right] at z
       exact z)
    | succ i =>
      obtain ⟨v, ev, rv⟩ := rs.get (show ds[i]? = some d from q)
      have e3 : (L2.start N (.ref x :: vs))[i + 1]? = some (some v) := yZ (show (V.ref x :: vs)[i + 1]? = some v from ev)
      rw [e3] at e1
      cases e1
      exact .val rv
 have hown : ∀ (i : Nat) d, (startF N.length (.no c [] :: ds))[i]? = some (some d) → d.own = true → i = 0 := fun i d e od => by
  cases i with
  | zero => rfl
  | succ i =>
    have q := jn e
    obtain ⟨v, ev, rv⟩ := rs.get (show ds[i]? = some d from q)
    exact (gJ od rv).elim
 refine { R1 with fl := ?_, sl := sl, sep := fun i j p hij ⟨_, d, e, od⟩ ⟨_, d', e', od'⟩ => hij ((hown i d e od).trans (hown j d' e' od').symm), me := fun y d bx e od => ?_ }
 · rw [oO (by simpa using hl), wz (by rw [W0, rs.length]; exact hl)]
 · have bx' : some x = some y := hB.symm.trans bx
   cases bx'
   rfl
theorem Rel.unme {m : Option Addr} {w0 : Wd} {G : Hp} (R : Rel K T ⟨w0, G, [], m⟩ w [] H [] h) : Rel K T (Bs.of w0 G) w [] H [] h := { R with me := (fun _ _ _ q _ => by simp at q), sl := fun _ _ _ q => by simp at q }
theorem Rel.ofme {x : Addr} {w0 : Wd} {G : Hp} (R : Rel K T (Bs.of w0 G) w [] H [] h) : Rel K T ⟨w0, G, [], some x⟩ w [] H [] h := { R with me := (fun _ _ _ q _ => by simp at q), sl := fun _ _ _ q => by simp at q }
end
section
variable {P : Program} {w : World} {K : PySem.W.Frag} {mg : Str → Option Value} {base : Heap} {T : Tb} {k : Nat} {x qual : Str} {params : Arguments} {body : List Stmt} {scope : Scope} {dvs : List V} {kws : List (Str × V)} {f : Addr} {fd : FuncData} {N ps : List Str}
abbrev Ax (P : Program) (w : World) (K : PySem.W.Frag) (mg : Str → Option Value) (base : Heap) (N : List Str) (qual : Str) (scope : Scope) (f : Addr) (cdv : Value) (A : Around) (outer : List Env) (s : Shared) (H : Hp) (E : XK) : Cx := cxOf (L2.CX P w) P w K mg base N qual scope f cdv A outer s H E
def WX.up (E : XK) : WX := fun c d _ H' => E c d H'
def Does (P : Program) (w : World) (K : PySem.W.Frag) (mg : Str → Option Value) (base : Heap) (T : Tb) (k : Nat) (N : List Str) (qual : Str) (scope : Scope) (body : List Stmt) (m : M Fl) : Prop :=
 ∀ (f : Addr) (cdv : Value) (A : Around) (outer : List Env) (s : Shared) (H : Hp) (E : XK), Cq (Ax P w K mg base N qual scope f cdv A outer s H E) T (WX.up E) k → gR (Ax P w K mg base N qual scope f cdv A outer s H E) T (WX.up E) body m
theorem HD (S : FnScope N ps scope) {cdv : Value} {A : Around} {outer : List Env} {s : Shared} {H : Hp} {E : XK} (hr : Room k (A.deeper (PyProof.Rows.envOfC qual scope s.heap.objs.size f cdv))) : Cq (Ax P w K mg base N qual scope f cdv A outer s H E) T (WX.up E) k :=
 ⟨rfl, S.nd, hr, takes_of rfl rfl rfl rfl, passes_of rfl⟩
theorem fn_sim (F : FunD K x qual params body scope dvs kws f fd) (S : FnScope N ps scope) {m : M Fl} (dm : Does P w K mg base T k N qual scope body m) : FnOk P w K mg base (L2.CX P w) (k + 1) f fd ps (spF K T ps.length (cA N.length m)) := by
 refine F.ok S (fun vs H Q E ⟨w, h, ds, _, rs, hl, _⟩ => rs.length.trans hl) fun cdv A outer s H vs Q E hr ⟨w, h, ds, R, rs, hl, post⟩ => ⟨Af _ body, jE, ?_⟩
 have hpl : ps.length ≤ N.length := by
  have := congrArg List.length S.pre
  rw [List.length_take] at this
  omega
 refine dm f cdv A outer s H E (HD S hr) (Bs.of w H) w _ H (startF N.length ds) h _ (R.start rs (by rw [hl]; exact hpl)) ?_
 unfold cA at post
 cases e : m (startF N.length ds) h with
 | ok fl fr h' =>
   rw [e] at post
   cases fl with
   | nx => exact fun w' σ' H' l R' => post w' H' .non l R'.unframe (.inl .non)
   | rt d => exact fun w' σ' H' v l R' rv => post w' H' v l R'.unframe (by
    rcases rv with rv | ⟨p, o, rfl, O, lo, eH, rd⟩
    · exact .inl rv
    · exact .inr ⟨p, o, rfl, O, fun i => tR, eH, rd⟩)
   | brk => exact post.elim
   | ct => exact post.elim
 | exc y fr h' =>
   rw [e] at post
   exact fun w' σ' H' c dd l R' z => post w' H' c dd l R'.unframe z
 | err => rw [e] at post; exact post
end
end Pk
namespace Pk
open PySem PySem.Spec L2
structure Lq (X : Cx) (kws : List Keyword) (σ : L2.St) (H : Hp) (Q : List V → Hp → Prop) : Prop where
 go : ∀ pos pins s, Inv X pins σ H s → wpAny (model X.prog X.w) X.A (evalAll ((backToKw pos (keywordEach kws X.env)).map (·.2))) (AP X pins σ Q) X.xe s
theorem Lr {X : Cx} {kws : List Keyword} : PK X kws (Lq X kws) := ⟨fun pos pins s σ H Q I h => h.go pos pins s I⟩
theorem HF {X : Cx} {kws : List Keyword} {t : TA} (p : PK X kws t) {σ : L2.St} {H : Hp} {Q : List V → Hp → Prop} (h : t σ H Q) : Lq X kws σ H Q := ⟨fun pos pins s I => p.run pos pins s σ H Q I h⟩
abbrev vD (X : Cx) (T : Tb) (W : WX) (kws : List Keyword) (m : M (List D)) : Prop := bO (Lq X kws) X.K T W vA m
section
variable {X : Cx} {T : Tb} {W : WX} {e : Expr} {kws : List Keyword} {m : M D} {ms : List (M D)} {nm : Option Str} {kpos : Pos}
theorem uB : vD X T W [] (az []) := fun B w σ H fr h Q r1 p => HF pk_nil (p w H _ (Wd.le_refl _) r1 .nil)
theorem qY (s : ao X T W e m) (t : vD X T W kws (az ms)) : vD X T W (⟨nm, e, kpos⟩ :: kws) (az (m :: ms)) := fun B w σ H fr h Q r1 p =>
 HF (pk_cons aK Lr) (s B w σ H fr h _ r1 (ak.bind (VR := vV X.K T B σ) p fun d fr1 h1 w1 H1 x e1 l1 r1 rx p1 =>
  t B w1 σ H1 fr1 h1 _ r1 (ak.bind (VR := vA X.K T B σ) p1 fun ds fr2 h2 w2 H2 vs e2 l2 r2 rs p2 => p2 w2 H2 _ (Wd.le_refl _) r2 (.cons (rx.mono l2) rs))))
end
def bH (fr : Fr) : R D → R D
 | .ok d _ h => .ok d fr h
 | .exc x _ h => .exc x fr h
 | .err => .err
theorem Ay {K : PySem.W.Frag} {T : Tb} {B : Bs} {W : WX} {w : Wd} {σ : L2.St} {H : Hp} {fr : Fr} {h : Hh} {n : Nat} {F : Fn} {vs : List V} {ds : List D} {Q : VK} (R : Rel K T B w σ H fr h) (rs : aa K T w vs ds) (hl : ds.length = n)
 (p : ak K T B W (vE K T B σ) w σ (bH fr (F ds h)) Q) : spF K T n F vs H Q (fun c d H' => W c d σ H') := by
 refine ⟨w, h, ds, R.enter, rs, hl, ?_⟩
 cases e : F ds h with
 | ok d fr' h' =>
   rw [e] at p
   intro w' H' v l R' rv
   have ef : fr' = [] := by
    have := R'.fl
    exact List.length_eq_zero_iff.mp this
   subst ef
   have R2 := R.back l R'
   refine p w' H' v l R2 ?_
   rcases rv with rv | ⟨q, o, rfl, O, lo, eH, rd⟩
   · exact .inl rv
   · have nq : H q = none := O.e
     refine .inr ⟨q, o, rfl, ⟨O.f, O.i, (R.own_new nq).e, (R.own_new nq).p⟩, fun i z => R.loose_new nq i z, eH, rd⟩
 | exc y fr' h' =>
   rw [e] at p
   intro w' H' c dd l R' z
   have ef : fr' = [] := by
    have := R'.fl
    exact List.length_eq_zero_iff.mp this
   subst ef
   exact p w' H' c dd l (R.back l R') z
 | err => rw [e] at p; exact p
theorem Gf {K : PySem.W.Frag} {T : Tb} {B : Bs} {W : WX} {w : Wd} {σ : L2.St} {H : Hp} {fr : Fr} {h : Hh} {n c : Nat} {F : Fn} {vs : List V} {ds : List D} {Q : VK} {x dx : Addr} (R : Rel K T B w σ H fr h) (rs : aa K T w vs ds) (hl : ds.length + 1 = n)
 (nx : H x = none) (nd : H dx = none) (ne : dx ≠ x)
 (p : ak K T B W (vE K T B σ) w σ (bH fr (F ds h)) Q) : spI K T c n F (.ref x :: vs) (upd (upd H dx (.own x)) x (.ins (T.cad c) dx [])) (fun v H2 => v = .non ∧ Q (.ref x) H2) (fun c d H' => W c d σ H') := by
 have R1 : Rel K T B w σ (upd H dx (.own x)) fr h := R.temp nd
 have nx1 : (upd H dx (.own x)) x = none := by rw [upd_ne (Ne.symm ne)]; exact nx
 refine ⟨w, h, ds, upd H dx (.own x), x, dx, vs, rfl, nx1, rfl, R1.enter, rs, hl, ?_⟩
 cases e : F ds h with
 | ok d fr' h' =>
   rw [e] at p
   intro w' H' v l R' ⟨ev, O, o, eH, rd⟩
   have ef : fr' = [] := by
    have := R'.fl
    exact List.length_eq_zero_iff.mp this
   subst ef
   exact ⟨ev, p w' H' (.ref x) l (R1.back l R') (.inr ⟨x, o, rfl, ⟨O.f, O.i, (R1.own_new nx1).e, (R1.own_new nx1).p⟩, fun i z => R1.loose_new nx1 i z, eH, rd⟩)⟩
 | exc y fr' h' =>
   rw [e] at p
   intro w' H' c dd l R' z
   have ef : fr' = [] := by
    have := R'.fl
    exact List.length_eq_zero_iff.mp this
   subst ef
   exact p w' H' c dd l (R1.back l R') z
 | err => rw [e] at p; exact p
structure Bn (K : PySem.W.Frag) (T : Tb) (fd : FuncData) (ps : List Str) (n : Nat) (ks : List Str) (gD : List D → List D → List D) : Prop where
 ex : ∃ (g : List Value → List Value → List Value) (gV : List V → List V → List V), KBn K fd ps n ks g gV ∧
  ∀ (w : Wd) (vs zs : List V) (ds es : List D), aa K T w vs ds → aa K T w zs es → ds.length = n → es.length = ks.length → aa K T w (gV vs zs) (gD ds es) ∧ (gD ds es).length = ps.length
def aU (dfl : List D) (ds _ : List D) : List D := ds ++ dfl
structure dB (P : Program) (w : World) (K : PySem.W.Frag) (mg : Str → Option Value) (base : Heap) (T : Tb) (k : Nat) (f : Addr) (fd : FuncData) (ps : List Str) (F : Fn) : Prop where
 ok : FnOk P w K mg base (L2.CX P w) k f fd ps (spF K T ps.length F)
 kp : PySem.W.keepIn K (.ref f) = true
structure Vz (P : Program) (w : World) (K : PySem.W.Frag) (mg : Str → Option Value) (base : Heap) (T : Tb) (k c : Nat) (f : Addr) (fd : FuncData) (ps : List Str) (F : Fn) : Prop where
 ok : FnOk P w K mg base (L2.CX P w) k f fd ps (spI K T c ps.length F)
 made : Mk K (T.cad c) f
def bD (n m : Nat) (F : Fn) (gD : List D → List D → List D) (ma mk : M (List D)) : M D := ma.bind fun ds => mk.bind fun es fr h => if ds.length = n ∧ es.length = m then bH fr (F (gD ds es) h) else .err
theorem gU {K : PySem.W.Frag} {T : Tb} {fd : FuncData} {ps : List Str} (h : Binds K fd ps []) : Bn K T fd ps ps.length [] (aU []) :=
 ⟨fun us _ => us, fun vs _ => vs, ⟨fun s us ws X l1 _ => by
  have b := h s us X (by rw [WN]; exact l1)
  rw [WN] at b
  exact b, fun r _ => r⟩, fun w vs zs ds es rs _ hl _ => ⟨by
   show aa K T w vs (ds ++ [])
   rw [WN]
   exact rs, by
   show (ds ++ []).length = _
   rw [WN]
   exact hl⟩⟩
section
variable {X : Cx} {T : Tb} {W : WX} {k kk n : Nat} {f C : Addr} {fd : FuncData} {ps ks : List Str} {F : Fn} {x m : Str} {p pos apos : Pos} {e o : Expr} {es : List Expr} {kws : List Keyword} {mo : M D} {ma mk : M (List D)} {gD : List D → List D → List D}
theorem vG {pins : List (Addr × Obj)} {σ : L2.St} {H : Hp} {s : Shared} {Q : VK} {us ws : List Value} {vs zs : List V} {g : List Value → List Value → List Value} {gV : List V → List V → List V} {sp : Sp} (F : FnOk X.prog X.w X.K X.mg X.base (L2.CX X.prog X.w) kk f fd ps sp) (hr : Room kk X.A) (hb : KBn X.K fd ps n ks g gV) (tk : Takes X W)
 (I : Inv X pins σ H s) (r : Vals vs us) (rz : Vals zs ws) (l1 : vs.length = n) (l2 : zs.length = ks.length) (h : sp (gV vs zs) H Q (fun c d H' => W c d σ H')) : wpAny (model X.prog X.w) X.A (call (.ref f) us (ks.zip ws)) (EP X pins σ Q) X.xe s := by
 have r2 := hb.rel r rz
 refine wpAny_call (codeAny_mono (F.run X.A X.stack s H ⟨us, ks.zip ws⟩ (g us ws) (gV vs zs) Q _ hr I.env0 (hb.to s us ws I.kIn (r.length.symm.trans l1) (rz.length.symm.trans l2)) r2 h) fun r s' hq => ?_)
 cases r with
 | error e => exact passAt tk σ pins H s e s' I hq
 | ok fl =>
   cases fl with
   | ret u => exact I.after hq
   | next => exact False.elim hq
   | brk => exact False.elim hq
   | cont => exact False.elim hq
theorem sE {B : Bs} {w : Wd} {σ : L2.St} {H : Hp} {fr : Fr} {h : Hh} {m : Nat} {vs zs : List V} {ds es : List D} {Q : VK} {gV : List V → List V → List V} (hg : ∀ (w : Wd) (vs zs : List V) (ds es : List D), aa X.K T w vs ds → aa X.K T w zs es → ds.length = n → es.length = m → aa X.K T w (gV vs zs) (gD ds es) ∧ (gD ds es).length = ps.length)
 (R : Rel X.K T B w σ H fr h) (rs : aa X.K T w vs ds) (rz : aa X.K T w zs es) (p : ak X.K T B W (vE X.K T B σ) w σ (if ds.length = n ∧ es.length = m then bH fr (F (gD ds es) h) else .err) Q) :
 vs.length = n ∧ zs.length = m ∧ spF X.K T ps.length F (gV vs zs) H Q (fun c d H' => W c d σ H') := by
 by_cases hl : ds.length = n ∧ es.length = m
 · rw [if_pos hl] at p
   obtain ⟨r2, l2⟩ := hg w vs zs ds es rs rz hl.1 hl.2
   exact ⟨rs.length.trans hl.1, rz.length.trans hl.2, Ay R r2 l2 p⟩
 · rw [if_neg hl] at p
   exact p.elim
theorem fO (C : Cq X T W k) (F0 : dB X.prog X.w X.K X.mg X.base T kk f fd ps F) (hk : kk ≤ k) (bn : Bn X.K T fd ps n [] gD) (hm : X.mg x = some (.ref f)) (sa : pB X T W (e :: es) ma) (hg : Gl X x := by rfl) (hdb : (x == ("__debug__" : Str)) = false := by decide)
 (he : starEach (e :: es) X.env = (false, eval e X.env) :: starEach es X.env := by exact aW rfl) (hpl : (backTo pos (starEach es X.env)).any (·.1) = false := by rfl) : du X T W (.Call (.Name x p) (e :: es) [] pos) (bD n 0 F gD ma (az [])) := fun B w σ H fr h Q R pp => WE.mk <| fun pins s I => by
 obtain ⟨g, gV, hb, hgD⟩ := bn.ex
 refine wpAny_Call_Name_kw (ld_glob I hg hm ?_ hdb)
 refine PySem.W.callWith_K (h₀ := X.base) I.ok.mod.kin F0.kp (thn ((sa B w σ H fr h _ R (ak.bind (VR := vA X.K T B σ) pp fun ds fr1 h1 w1 H1 vs e1 l1 r1 rs p1 => sE hgD r1 rs .nil p1)).go pos pins s I) fun us s1 ⟨vs, H1, I1, r, q⟩ => ⟨I1.kIn, ?_⟩) he hpl
 exact vG (ws := []) F0.ok (C.room.mono hk) hb C.takes I1 r .nil q.1 rfl q.2.2
end
end Pk
namespace Pk
open PySem PySem.Spec L2
structure VB (K : PySem.W.Frag) (T : Tb) (fd : FuncData) (ps : List Str) (n : Nat) (ks : List Str) (gD : List D → List D → List D) : Prop where
 ex : ∃ (g : List Value → List Value → List Value) (gV gW : List V → List V → List V), KBn K fd ps (n + 1) ks g gV ∧ (∀ x vs zs, vs.length = n → zs.length = ks.length → gV (x :: vs) zs = x :: gW vs zs) ∧
  ∀ (w : Wd) (vs zs : List V) (ds es : List D), aa K T w vs ds → aa K T w zs es → ds.length = n → es.length = ks.length → aa K T w (gW vs zs) (gD ds es) ∧ (gD ds es).length + 1 = ps.length
section
variable {X : Cx} {T : Tb} {W : WX} {k kk n c : Nat} {f : Addr} {fd : FuncData} {ps ks : List Str} {F : Fn} {x m : Str} {p pos apos : Pos} {e o : Expr} {es : List Expr} {kws : List Keyword} {mo : M D} {ma mk : M (List D)} {gD : List D → List D → List D}
theorem gY {α : Type} {f : Str} : ∀ {fs : List Str} {vs : List α}, f ∉ fs → (fs.zip vs).lookup f = none
 | [], _, _ => rfl
 | g :: fs, [], _ => by simp
 | g :: fs, v :: vs, h => by
   rw [List.mem_cons, not_or] at h
   show Ww f ((g, v) :: fs.zip vs) = none
   rw [List.lookup_cons, beq_eq_false_iff_ne.mpr h.1]
   exact gY h.2
structure BV (X : Cx) (T : Tb) (k : Nat) (m : Str) (mt : Nat → Option Fn) (n : Nat) (ks : List Str) (gD : List D → List D → List D) : Prop where
 ex : ∀ c F, mt c = some F → ∃ (kk : Nat) (f : Addr) (fd : FuncData) (ps : List Str), Cls X.K (T.cad c) ∧ Meth X.K (T.cad c) m f ∧ dB X.prog X.w X.K X.mg X.base T kk f fd ps F ∧ Bn X.K T fd ps (n + 1) ks gD ∧ m ∉ T.fld c ∧ kk ≤ k
def fnOf (mt : Nat → Option Fn) (h : Hh) (o : D) : Option Fn := match o.ins h with
 | some (c, _) => mt c
 | none => none
def HH (n m : Nat) (mt : Nat → Option Fn) (gD : List D → List D → List D) (mo : M D) (ma mk : M (List D)) : M D := mo.bind fun o fr h => match fnOf mt h o with
 | some F => (bD (n + 1) m F gD (ma.bind fun ds => M.ret (o :: ds)) mk) fr h
 | none => .err
theorem Dy {B : Bs} {w : Wd} {σ : L2.St} {H : Hp} {fr : Fr} {h : Hh} {mt : Nat → Option Fn} {v : V} {d : D} {G : Fn} (M : BV X T k m mt n ks gD) (R : Rel X.K T B w σ H fr h) (rv : aA X.K T w v d) (e : fnOf mt h d = some G) :
 ∃ (kk : Nat) (f : Addr) (fd : FuncData) (ps : List Str) (a C dx : Addr) (fs : List (Str × V)), v = .ref a ∧ H a = some (.ins C dx fs) ∧ fs.lookup m = none ∧ Cls X.K C ∧ Meth X.K C m f ∧ dB X.prog X.w X.K X.mg X.base T kk f fd ps G ∧ Bn X.K T fd ps (n + 1) ks gD ∧ kk ≤ k := by
 unfold fnOf at e
 split at e
 · rename_i c fs ei
   obtain ⟨kk, f, fd, ps, c1, c2, c3, c4, c5, c6⟩ := M.ex c G e
   obtain ⟨a, dx, vs, rfl, eH, rs⟩ := jG R (.inl rv) ei
   exact ⟨kk, f, fd, ps, a, T.cad c, dx, _, rfl, eH, gY c5, c1, c2, c3, c4, c6⟩
 · cases e
theorem Jh {pl : Sem Bool} {mt : Nat → Option Fn} (C : Cq X T W k) (Mf : BV X T k m mt n [] gD) (so : ao X T W o mo) (sa : pB X T W (e :: es) ma)
 (hst : starEach (e :: es) X.env = (false, eval e X.env) :: starEach es X.env := by exact aW rfl) (hpl : (backTo pos (starEach es X.env)).any (·.1) = false := by rfl)
 (ht : eval (.Call (.Attribute o m apos) (e :: es) [] pos) X.env = (do
  let ov ← eval o X.env
  standAt apos.atName
  let (f, first) ← holding [ov] (getMethod ov m pl)
  callWith pos f first (backTo pos (starEach (e :: es) X.env)) (backToKw pos (keywordEach [] X.env))) := by rfl) :
 du X T W (.Call (.Attribute o m apos) (e :: es) [] pos) (HH n 0 mt gD mo ma (az [])) := fun B w σ H fr h Q R pp => WE.mk <| fun pins s I => by
 refine PySem.W.methodCall_KW (pl := pl) (thn ((so B w σ H fr h (fun v H1 => ∃ (kk : Nat) (f : Addr) (fd : FuncData) (ps : List Str) (a C dx : Addr) (fs : List (Str × V)) (G : Fn), v = .ref a ∧ H1 a = some (.ins C dx fs) ∧ fs.lookup m = none ∧ Cls X.K C ∧ Meth X.K C m f ∧ dB X.prog X.w X.K X.mg X.base T kk f fd ps G ∧ Bn X.K T fd ps (n + 1) [] gD ∧ kk ≤ k ∧
  ∀ g gV, KBn X.K fd ps (n + 1) [] g gV → (∀ (w : Wd) (vs zs : List V) (ds es : List D), aa X.K T w vs ds → aa X.K T w zs es → ds.length = n + 1 → es.length = ([] : List Str).length → aa X.K T w (gV vs zs) (gD ds es) ∧ (gD ds es).length = ps.length) →
    WA X (e :: es) σ H1 fun vs H2 => (.ref a :: vs).length = n + 1 ∧ spF X.K T ps.length G (gV (.ref a :: vs) []) H2 Q (fun c d H' => W c d σ H')) R (ak.bind (VR := vV X.K T B σ) pp fun d fr1 h1 w1 H1 v e1 l1 r1 rv p1 => ?_)).go pins s I) fun u s1 ⟨x, H1, I1, rx, kk, f, fd, ps, a, Cl, dx, fs, G, ex, ea, l, c1, c2, c3, c4, c5, q⟩ => ?_) ht
 · have p1' : ak X.K T B W (vE X.K T B σ) w1 σ (match fnOf mt h1 d with | some F => (bD (n + 1) 0 F gD (ma.bind fun ds => M.ret (d :: ds)) (az [])) fr1 h1 | none => .err) Q := p1
   cases ef : fnOf mt h1 d with
   | none => rw [ef] at p1'; exact p1'.elim
   | some G =>
     rw [ef] at p1'
     obtain ⟨kk, f, fd, ps, a, Cl, dx, fs, rfl, eH, l, c1, c2, c3, c4, c5⟩ := Dy Mf r1 rv ef
     refine ⟨kk, f, fd, ps, a, Cl, dx, fs, G, rfl, eH, l, c1, c2, c3, c4, c5, fun g gV hb hgD => ?_⟩
     have p2 : ak X.K T B W (vE X.K T B σ) w1 σ ((ma.bind fun ds fr h => if (d :: ds).length = n + 1 ∧ ([] : List D).length = 0 then bH fr (G (gD (d :: ds) []) h) else .err) fr1 h1) Q := by
      have ee : (bD (n + 1) 0 G gD (ma.bind fun ds => M.ret (d :: ds)) (az [])) fr1 h1 = (ma.bind fun ds fr h => if (d :: ds).length = n + 1 ∧ ([] : List D).length = 0 then bH fr (G (gD (d :: ds) []) h) else .err) fr1 h1 := by
       unfold bD M.bind
       cases ma fr1 h1 <;> rfl
      rw [← ee]
      exact p1'
     refine sa B w1 σ H1 fr1 h1 _ r1 (ak.bind (VR := vA X.K T B σ) p2 fun ds fr2 h2 w2 H2 vs e2 l2 r2 rs p3 => ?_)
     have q := sE (n := n + 1) (m := 0) (zs := []) (es := []) hgD r2 (.cons (rv.mono l2) rs) .nil p3
     exact ⟨q.1, q.2.2⟩
 · subst ex
   obtain rfl : u = Value.ref a := rx
   obtain ⟨g, gV, hb, hgD⟩ := c4.ex
   refine getmeth_ok I1 ea c1 c2 l ?_
   refine PySem.W.callWith_K (first := [.ref a]) (h₀ := X.base) I.ok.mod.kin c2.kp (thn ((q g gV hb hgD).go pos pins s1 I1) fun us s2 ⟨vs, H2, I2, r, q2⟩ => ⟨I2.kIn, ?_⟩) hst hpl
   exact vG (us := .ref a :: us) (ws := []) (vs := .ref a :: vs) c3.ok (C.room.mono c5) hb C.takes I2 (.cons rfl r) .nil q2.1 rfl q2.2
structure HJ (X : Cx) (T : Tb) (k : Nat) (m : Str) (mt : Nat → Option Fn) : Prop where
 ex : ∀ c F, mt c = some F → ∃ (kk : Nat) (pa f : Addr) (fd : FuncData) (ps : List Str), Cls X.K (T.cad c) ∧ PropOf X.K (T.cad c) m pa f ∧ dB X.prog X.w X.K X.mg X.base T kk f fd ps F ∧ Binds X.K fd ps [] ∧ ps.length = 1 ∧ kk + 1 ≤ k
def BW (mt : Nat → Option Fn) (mo : M D) : M D := mo.bind fun o fr h => match fnOf mt h o with
 | some F => match F [o] h with
   | .ok d _ h => .ok d fr h
   | _ => .err
 | none => .err
theorem zU {X : Cx} : Passes (L2.CX X.prog X.w) X.nox (fun _ _ _ => False) := fun pins σ H s e s' I c => by
 obtain ⟨a, B, H', cls, d, rfl, fl, hok, ub, na, os, ag, hE⟩ := c
 exact hE.elim
theorem Az {mt : Nat → Option Fn} (C : Cq X T W k) (M : HJ X T k m mt) (so : ao X T W o mo) (hab : attributeBase o m X.env (eval o X.env) = eval o X.env := by rfl) : du X T W (.Attribute o m pos) (BW mt mo) := fun B w σ H fr h Q R pp => WE.mk <| fun pins s I => by
 refine attr_of hab (thn ((so B w σ H fr h (fun v H1 => ∃ (kk : Nat) (pa f : Addr) (fd : FuncData) (ps : List Str) (a C dx : Addr) (fs : List (Str × V)) (G : Fn), v = .ref a ∧ H1 a = some (.ins C dx fs) ∧ Cls X.K C ∧ PropOf X.K C m pa f ∧ dB X.prog X.w X.K X.mg X.base T kk f fd ps G ∧ Binds X.K fd ps [] ∧ kk + 1 ≤ k ∧ spF X.K T ps.length G [.ref a] H1 Q (fun _ _ _ => False))
  R (ak.bind (VR := vV X.K T B σ) pp fun d fr1 h1 w1 H1 v e1 l1 r1 rv p1 => ?_)).go pins s I) fun u s1 ⟨x, H1, I1, rx, kk, pa, f, fd, ps, a, Cl, dx, fs, G, ex, ea, c1, c2, c3, c4, c5, q⟩ => ?_)
 · have p1' : ak X.K T B W (vE X.K T B σ) w1 σ (match fnOf mt h1 d with | some F => (match F [d] h1 with | .ok d _ h => .ok d fr1 h | _ => .err) | none => .err) Q := p1
   cases ef : fnOf mt h1 d with
   | none => rw [ef] at p1'; exact p1'.elim
   | some G =>
     rw [ef] at p1'
     have ei : ∃ c fs, d.ins h1 = some (c, fs) ∧ mt c = some G := by
      unfold fnOf at ef
      split at ef
      · rename_i c fs ei
        exact ⟨c, fs, ei, ef⟩
      · cases ef
     obtain ⟨c, fs, ei, em⟩ := ei
     obtain ⟨kk, pa, f, fd, ps, c1, c2, c3, c4, c5, c6⟩ := M.ex c G em
     obtain ⟨a, dx, vs, rfl, eH, rs⟩ := jG r1 (.inl rv) ei
     refine ⟨kk, pa, f, fd, ps, a, T.cad c, dx, _, G, rfl, eH, c1, c2, c3, c4, c6, ?_⟩
     have z := Ay (W := WF) (n := ps.length) (F := G) (Q := Q) r1 (.cons rv .nil) (show [d].length = ps.length from c5.symm) (by
      dsimp only at p1'
      cases e : G [d] h1 with
      | ok d' fr' h' => rw [e] at p1'; exact p1'
      | exc _ _ _ => rw [e] at p1'; exact p1'.elim
      | err => rw [e] at p1'; exact p1'.elim)
     exact z
 · subst ex
   obtain rfl : u = Value.ref a := rx
   exact getprop_ok (dvs := []) I1 ea c1 c2 c3.ok (C.room.mono c5) c4 .nil zU q
end
end Pk
namespace Pk
open PySem PySem.Spec L2
section
variable {X : Cx} {T : Tb} {W : WX} {k c : Nat} {x : Str} {pos : Pos}
theorem Ls (hm : X.mg x = some (.ref (T.cad c))) (hg : Gl X x := by rfl) (hd : (x == ("__debug__" : Str)) = false := by decide) : ao X T W (.Name x pos) (mC (.cls c)) := fun B w σ H fr h Q r p =>
 bB (pe_glob (v := .ref (T.cad c)) hg hm rfl hd) (p w H _ (Wd.le_refl _) r (.cls c))
theorem BX {t : String} (hm : X.mg x = none) (hg : Gl X x := by rfl) (hv : bootBuiltins x = some (.type t) := by decide +kernel) (hn : x ≠ "__name__" := by decide) (hd : (x == ("__debug__" : Str)) = false := by decide) : ao X T W (.Name x pos) (mC (.ty t)) := fun B w σ H fr h Q r p =>
 bB (pe_bltn (v := .ty t) hg hm hv rfl hn hd) (p w H _ (Wd.le_refl _) r (.ty t))
structure Us (X : Cx) (T : Tb) (x : Str) (d : D) : Prop where
 ex : ∃ (u : Value) (v : V), X.mg x = some u ∧ RelV v u ∧ aA X.K T ⟨fun _ => none, []⟩ v d
theorem Wd.le_bot (w : Wd) : Wd.le ⟨fun _ => none, []⟩ w := by
 refine ⟨fun a o q => ?_, w.I, rfl⟩
 have q' : (none : Option HO) = some o := q
 cases q'
end
inductive Tg where
 | b (t : String) | o (c : Nat)
 deriving DecidableEq
def Tg.v (T : Tb) : Tg → Value
 | .b t => .type t
 | .o c => .ref (T.cad c)
def D.tag (h : Hh) (d : D) : Option Tg := match d.der h with
 | .non => some (.b "NoneType")
 | .bl _ => some (.b "bool")
 | .int _ => some (.b "int")
 | .str _ => some (.b "str")
 | .tup _ => some (.b "tuple")
 | .fl _ => some (.b "list")
 | .nl _ => some (.b "list")
 | .kl _ => some (.b "list")
 | .obj c _ => some (.o c)
 | .no c _ => some (.o c)
 | _ => none
def D.ctag : D → Option Tg
 | .ty t => some (.b t)
 | .cls c => some (.o c)
 | _ => none
structure BZ (K : PySem.W.Frag) (C : Addr) : Prop where
 cls : Cls K C
 ha : PySem.W.findIn K (.ref C) "__class__" = some (some (.builtin "object.__class__"))
 hn : PySem.W.specialIn K (.builtin "object.__class__") "__get__" = some (some (.builtin "getset_descriptor.__get__"))
 htk : PySem.W.takesIn K (.builtin "object.__class__") = some true
 hm : PySem.W.mroIn K C (.type "object") = some true
structure vH (K : PySem.W.Frag) (T : Tb) (tab : Tg → Tg → Option Bool) : Prop where
 kit : ∀ t u b, tab t u = some b → PySem.W.kitOne K (t.v T) (u.v T) = some b
 ins : ∀ c u b, tab (.o c) u = some b → BZ K (T.cad c)
def nA : List String := ["NoneType", "bool", "int", "str", "tuple", "list"]
def za (a b : String) : Option Bool := if nA.contains a && nA.contains b then some (a == b || (a == "bool" && b == "int")) else none
theorem Ji : ∀ a b r, za a b = some r → kitB a b = some r := by
 have key : ∀ a ∈ nA, ∀ b ∈ nA, kitB a b = za a b := by decide +kernel
 intro a b r h
 unfold za at h
 split at h
 · rename_i hh
   obtain ⟨h1, h2⟩ := Bool.and_eq_true_iff.mp hh
   rw [key a (List.contains_iff_mem.mp h1) b (List.contains_iff_mem.mp h2)]
   unfold za
   rw [if_pos hh]
   exact h
 · cases h
def kY : List D → Option (List Tg)
 | [] => some []
 | d :: ds => match d.ctag, kY ds with
   | some u, some us => some (u :: us)
   | _, _ => none
def jR (tab : Tg → Tg → Option Bool) (t : Tg) : List Tg → Option Bool
 | [] => some false
 | u :: us => match tab t u with
   | some true => some true
   | some false => jR tab t us
   | none => none
def nH (tab : Tg → Tg → Option Bool) (h : Hh) (d c : D) : Option D := match d.tag h with
 | some t => match c with
   | .tup l => match kY l with
     | some (u :: us) => (jR tab t (u :: us)).map .bl
     | _ => none
   | c => match c.ctag with
     | some u => (tab t u).map .bl
     | none => none
 | none => none
section
variable {X : Cx} {T : Tb} {W : WX} {k : Nat} {pos pf : Pos} {a b : Expr} {ma mb : M D} {tab : Tg → Tg → Option Bool}
theorem sG {K : PySem.W.Frag} {w : Wd} {v : V} {d : D} {u : Tg} (r : aA K T w v d) (e : d.ctag = some u) : ClsV v (u.v T) := by
 cases r <;> cases e
 · exact .own _
 · exact .ty _
theorem qZ {K : PySem.W.Frag} {B : Bs} {w : Wd} {σ : L2.St} {H : Hp} {fr : Fr} {h : Hh} {v : V} {d : D} {t u : Tg} {bb : Bool} (F : vH K T tab) (R : Rel K T B w σ H fr h) (rv : vO K T B σ w H fr v d) (e : d.tag h = some t) (e2 : tab t u = some bb) : TyX K H v (t.v T) := by
 have sqT : ∀ {a : Addr} {vs : List V}, SqT K H a vs → TyX K H (.ref a) (.type "tuple") := fun {a vs} q => by
  rcases q with (q | ⟨o, q⟩) | ⟨o, its, n, q1, q2, _⟩
  · exact .base (.tup q)
  · exact .fTuple q
  · exact .kTuple q1 q2
 have sqL : ∀ {a : Addr} {vs : List V}, SqL K H a vs → TyX K H (.ref a) (.type "list") := fun {a vs} q => by
  rcases q with (q | ⟨o, q⟩) | ⟨o, its, n, q1, q2, _⟩
  · exact .base (.lst q)
  · exact .base (.frz q)
  · exact .kList q1 q2
 have ins : ∀ {c : Nat} {a dx : Addr} {fs : List (Str × V)}, tab (.o c) u = some bb → H a = some (.ins (T.cad c) dx fs) → TyX K H (.ref a) (.ref (T.cad c)) := fun {c a dx fs} q eH => by
  have i := F.ins c u bb q
  exact .base (.ins eH i.cls i.ha i.hn i.htk i.hm)
 rcases rv with rv | ⟨p, o, rfl, eH, rv⟩
 · cases rv with
   | non => cases e; exact .base .non
   | bl b => cases e; exact .base (.bl b)
   | int i => cases e; exact .base (.int i)
   | str s => cases e; exact .base (.str s)
   | tup s r => cases e; exact sqT (aV R.sub s)
   | fl s r => cases e; exact .base (.lst (R.sub _ _ s))
   | kl s r => cases e; exact sqL (bU R.sub s)
   | obj s r => cases e; exact ins e2 (R.sub _ _ s)
   | @ref a n s =>
     have ln : n < h.length := by
      rw [← R.len]
      exact (List.getElem?_eq_some_iff.mp s).1
     obtain ⟨o, q, rr⟩ := R.cel n a h[n] s (Wx ln)
     have e0 : D.der h (.ref n) = h[n] := by
      unfold D.der
      dsimp only
      rw [Wx ln]
      rfl
     unfold D.tag at e
     rw [e0] at e
     generalize h[n] = cc at rr e
     cases rr with
     | lst r => cases e; exact .base (.lst q)
     | obj r => cases e; exact ins e2 q
     | dct _ r => cases e
   | cls _ => cases e
   | ty _ => cases e
   | sl _ => cases e
 · cases rv with
   | lst r => cases e; exact .base (.lst eH)
   | obj r => cases e; exact ins e2 eH
theorem pN {K : PySem.W.Frag} {w : Wd} : ∀ {vs : List V} {ds : List D} {us : List Tg}, aa K T w vs ds → kY ds = some us → Paired ClsV vs (us.map (Tg.v T))
 | _, _, _, .nil, e => by cases e; exact .nil
 | _, _, _, @aa.cons _ _ _ v d vs ds r rr, e => by
   unfold kY at e
   cases e1 : d.ctag with
   | none => rw [e1] at e; cases e
   | some u =>
     cases e2 : kY ds with
     | none => rw [e1, e2] at e; cases e
     | some us =>
       rw [e1, e2] at e
       cases e
       exact .cons (sG r e1) (pN rr e2)
theorem nJ {K : PySem.W.Frag} {t : Tg} {bb : Bool} (F : vH K T tab) : ∀ {us : List Tg}, jR tab t us = some bb → PySem.W.kitAny K (t.v T) (us.map (Tg.v T)) = some bb
 | [], e => by cases e; exact kitAny_nil
 | u :: us, e => by
   unfold jR at e
   cases et : tab t u with
   | none => rw [et] at e; cases e
   | some b1 =>
     rw [et] at e
     cases b1 with
     | false => exact kitAny_cons (F.kit t u false et) (fun _ => nJ F e) (fun z => by cases z)
     | true =>
       cases e
       exact kitAny_cons (F.kit t u true et) (fun z => by cases z) (fun _ => rfl)
theorem rN {t : Tg} {bb : Bool} {us : List Tg} (e : jR tab t us = some bb) : us = [] ∨ ∃ u b, tab t u = some b := by
 cases us with
 | nil => exact .inl rfl
 | cons u us =>
   right
   unfold jR at e
   cases et : tab t u with
   | none => rw [et] at e; cases e
   | some b => exact ⟨u, b, et⟩
theorem wA : CallR X (.builtin "isinstance") (fun xs H Q => ∃ (x : V) (tp : Addr) (cs : List V) (t : Value) (us : List Value) (b : Bool), xs = [x, .ref tp] ∧ SqT X.K H tp cs ∧ Paired ClsV cs us ∧ TyX X.K H x t ∧ PySem.W.kitAny X.K t us = some b ∧ Q (.bl b) H) := by
 intro pins s σ H xs us Q I r h
 obtain ⟨x, tp, cs, t, ws, b, rfl, hT, k, ty, e, q⟩ := h
 obtain ⟨u1, u2, rfl, r1, r2⟩ := vals2 r
 cases (show u2 = Value.ref tp from r2)
 obtain ⟨P, Z, p, hx⟩ := kit_of I r1 ty
 obtain ⟨its, rv, pl, _⟩ := I.tuple hT
 obtain ⟨o, h1, h2, n, h3⟩ := pl
 have e3 := ClsV.all k rv
 subst e3
 obtain ⟨oc, od, dt, sl⟩ := o
 simp only at h2 h3
 subst h2 h3
 exact PySem.W.kia_tup Z I.kIn p h1 e hx fun tk => ⟨.bl b, H, I.tok tk, rfl, q⟩
theorem uC (F : vH X.K T tab) (sa : ao X T W a ma) (sb : ao X T W b mb) (hm : X.mg "isinstance" = none) (hg : Gl X "isinstance" := by rfl) (he : starEach (a :: b :: []) X.env = (false, eval a X.env) :: starEach (b :: []) X.env := by exact aW rfl) (he2 : starEach (b :: []) X.env = (false, eval b X.env) :: starEach [] X.env := by exact aW rfl)
 (hpl : (backTo pos (starEach (b :: []) X.env)).any (·.1) = false := by rfl) : ao X T W (.Call (.Name "isinstance" pf) [a, b] [] pos) (aM (nH tab) ma mb) :=
 FW (id := "isinstance") sa sb (fun B w σ H fr h x y d e z Q R rx ry q kk => by
  have ry : aA X.K T w y e := ry
  unfold nH at q
  cases et : d.tag h with
  | none => rw [et] at q; cases q
  | some t =>
    rw [et] at q
    have one : ∀ u, e.ctag = some u → (tab t u).map D.bl = some z → cM X (.builtin "isinstance") [x, y] H Q := fun u ec eq => by
     obtain ⟨bb, eb, rfl⟩ := Option.map_eq_some_iff.mp eq
     exact bJ call_isi ⟨x, y, t.v T, u.v T, bb, rfl, sG ry ec, qZ F R (.inl rx) et eb, F.kit t u bb eb, kk w H _ (Wd.le_refl _) R (.bl bb)⟩
    cases e with
    | tup l =>
      dsimp only at q
      cases ec : kY l with
      | none => rw [ec] at q; cases q
      | some us =>
        rw [ec] at q
        cases us with
        | nil => cases q
        | cons u us =>
          obtain ⟨bb, eb, rfl⟩ := Option.map_eq_some_iff.mp q
          obtain ⟨p, vs, rfl, sq, rs⟩ := iK ry
          have ty : TyX X.K H x (t.v T) := by
           rcases rN eb with z | ⟨u', b', z⟩
           · cases z
           · exact qZ F R (.inl rx) et z
          exact bJ wA ⟨x, p, vs, t.v T, (u :: us).map (Tg.v T), bb, rfl, aV R.sub sq, pN rs ec, ty, nJ F eb, kk w H _ (Wd.le_refl _) R (.bl bb)⟩
    | cls c => exact one _ rfl q
    | ty t => exact one _ rfl q
    | _ => cases q) hm hg (by decide +kernel) (by decide) (by decide) he he2 hpl
end
end Pk
namespace Pk
open PySem PySem.Spec L2
structure PD where
 adr : PySem.W.Frag → Addr
 name : Str
 qual : Str
 params : Arguments
 body : List Stmt
 scope : Scope
 dfl : List He.Dv
 kwd : List (Str × He.Dv)
 /-- an __init__ that says super() -/
 clo : Bool
def fnWa (K : PySem.W.Frag) (a : Addr) : He.FnW := match K.lookup a with
 | some ⟨_, _, .func fd, _⟩ => some (fd.name, fd.qualname, fd.params, fd.body, fd.scope, fd.globals, fd.closure.map (fun q => (q.1, 0)), fd.builtins)
 | _ => none
def PD.val (d : PD) : He.FnW := some (d.name, d.qual, d.params, .stmts d.body, d.scope, mainGlobals, if d.clo then [("__class__", 0)] else [], builtinsNs)
def PD.dvs (K : PySem.W.Frag) (d : PD) : List V := d.dfl.map (He.Dv.v K)
def PD.kws (K : PySem.W.Frag) (d : PD) : List (Str × V) := d.kwd.map fun q => (q.1, q.2.v K)
def PD.ok (K : PySem.W.Frag) (d : PD) : Bool := PySem.W.keepIn K (.ref (d.adr K)) && (match K.lookup (d.adr K) with
 | some ⟨_, _, .func fd, _⟩ => PySem.W.codeIn K fd.code d.qual && (He.dflB K fd.defaults (d.dvs K) && He.kwdB K fd.kwdefaults (d.kws K))
 | _ => false)
theorem PD.funD {K : PySem.W.Frag} {d : PD} (hc : d.clo = false) (e : fnWa K (d.adr K) = d.val) (c : d.ok K = true) : ∃ fd, FunD K d.name d.qual d.params d.body d.scope (d.dvs K) (d.kws K) (d.adr K) fd := by
 obtain ⟨kp, c2⟩ := He.ba c
 unfold fnWa at e
 cases q : K.lookup (d.adr K) with
 | none =>
   rw [q] at c2
   cases c2
 | some o =>
   obtain ⟨oc, od, dt, osl⟩ := o
   rw [q] at c2 e
   cases dt with
   | func fd =>
     obtain ⟨n1, n2, n3, n4, n5, n6, n7, n8, n9, n10, n11, n12, n13, n14, n15⟩ := fd
     unfold PD.val at e
     rw [hc] at e
     have e2 : (some (n1, n2, n3, n4, n5, n6, n7.map (fun q => (q.1, 0)), n15) : He.FnW) = some (d.name, d.qual, d.params, .stmts d.body, d.scope, mainGlobals, [], builtinsNs) := e
     simp only [Option.some.injEq, Prod.mk.injEq, List.map_eq_nil_iff] at e2
     obtain ⟨h1, h2, h3, h4, h5, h6, h7, h8⟩ := e2
     subst h1 h2 h3 h4 h5 h6 h7 h8
     have c3 : (PySem.W.codeIn K n13 d.qual && (He.dflB K n8 (d.dvs K) && He.kwdB K n9 (d.kws K))) = true := c2
     obtain ⟨k1, k2⟩ := He.ba c3
     obtain ⟨k3, k4⟩ := He.ba k2
     exact ⟨_, ⟨oc, od, n8, n9, n10, n11, n12, n13, n14, osl, rfl, q, k1, He.dflB_ok k3, He.kwdB_ok k4⟩, kp⟩
   | _ => cases c2
def Lw (K : PySem.W.Frag) (C : Addr) (f : Str) : Addr := match PySem.W.findIn K (.ref C) f with
 | some (some (.ref p)) => (match PySem.W.recIn K p "property" with
   | some (.ref g :: _) => g
   | _ => 0)
 | _ => 0
def VD (a : PySem.W.Frag → Addr) (x : Str) (K : PySem.W.Frag) : Addr := match K.lookup (a K) with
 | some ⟨_, _, .func fd, _⟩ => (match fd.kwdefaults with
   | .ref d => (match PySem.W.nsIn K d x with
     | some (some (.ref b)) => b
     | _ => 0)
   | _ => 0)
 | _ => 0
def VF (a : PySem.W.Frag → Addr) (i : Nat) (K : PySem.W.Frag) : Addr := match K.lookup (a K) with
 | some ⟨_, _, .func fd, _⟩ => (match fd.defaults with
   | .ref T => (match K.lookup T with
     | some ⟨_, _, .seq its _, _⟩ => (match its.toList[i]? with
       | some (.ref b) => b
       | _ => 0)
     | _ => 0)
   | _ => 0)
 | _ => 0
def Ca (K : PySem.W.Frag) (a : Addr) (vs : List He.Dv) : Bool := match K.lookup a with
 | some ⟨.type c, _, .seq its _, _⟩ => decide (c = "tuple") && (decide (its.size ≤ sizeLine) && He.relAll (vs.map (He.Dv.v K)) its.toList)
 | _ => false
theorem Jj {K : PySem.W.Frag} {a : Addr} {vs : List He.Dv} (h : Ca K a vs = true) (H : Hp) : SqT K H a (vs.map (He.Dv.v K)) := by
 unfold Ca at h
 cases q : K.lookup a with
 | none =>
   rw [q] at h
   cases h
 | some o =>
   obtain ⟨oc, od, dt, osl⟩ := o
   rw [q] at h
   cases oc with
   | type c =>
     cases dt with
     | seq its n =>
       obtain ⟨h1, h2⟩ := He.ba (show (decide (c = "tuple") && (decide (its.size ≤ sizeLine) && He.relAll (vs.map (He.Dv.v K)) its.toList)) = true from h)
       obtain ⟨h3, h4⟩ := He.ba h2
       exact .inr ⟨_, its, n, q, congrArg Value.type (of_decide_eq_true h1), rfl, of_decide_eq_true h3, He.relAll_ok h4⟩
     | _ => cases h
   | _ => cases dt <;> cases h
inductive Fx where
 | he (f : He.Fa)
 | prop (x f : Str)
 | ins (x : Str)
 | kit (t u : Tg) (b : Bool)
 | tup (a : PySem.W.Frag → Addr) (vs : List He.Dv)
 | slf (x : Str)
 /-- an own error class whose __init__ says super(): its fields, the file -/
 | own (x file : Str) (fs : List Str)
 /-- an error class as isinstance wants it -/
 | exi (x : Str)
 /-- a class that is no kind of number -/
 | nsb (x : Str)
 /-- anything else that is to be seen -/
 | raw (p : PySem.W.Frag → Bool)
def Dz (cn : Nat → Str) (fld : Nat → List Str) (K : PySem.W.Frag) : Tb := ⟨fun c => He.ga K (cn c), fld⟩
def clsX (K : PySem.W.Frag) (C : Addr) : Bool := match K.lookup C with
 | some ⟨.type "type", _, .cls cd, sl⟩ => (match cd.mro, sl.toList with
   | .ref C' :: bm, [_, _, _, _, some (.builtin n), _] => C' == C && (n == "ValueError.__new__" && (!cd.hasDel && (cd.hasDict && (PySem.HandSPX.refsVE bm && He.eqO (PySem.W.alongIn K "__init__" bm) (some (some (.builtin "ValueError.__init__")))))))
   | _, _ => false)
 | _ => false
def iniX (K : PySem.W.Frag) (C f : Addr) (file : Str) : Bool := match K.lookup f with
 | some ⟨_, _, .func fd, _⟩ => (match fd.closure, fd.defaults, fd.code with
   | [(_, cc)], .none, .ref cda => (match K.lookup cc with
       | some ⟨_, _, .cell (some (.ref a)), _⟩ => decide (a = C)
       | _ => false) && (PySem.W.codeIn K (.ref cda) fd.qualname && (match K.lookup cda with
       | some ⟨_, _, Data.fields vs, _⟩ => (match (vs[2]? : Option Value) with
         | some (.str fi _) => decide (fi = file)
         | _ => false)
       | _ => false))
   | _, _, _ => false)
 | _ => false
def Ly (K : PySem.W.Frag) (C f : Addr) (file : Str) (fs : List Str) : Bool :=
 clsX K C && (He.eqO (PySem.W.findIn K (.ref C) "__setattr__") (some (some (.builtin "object.__setattr__"))) && (He.eqO (PySem.W.findIn K (.ref C) "__init__") (some (some (.ref f))) && (decide (PySem.W.typeIn K (.ref f) = some (.type "function")) &&
  (decide (PySem.W.subIn K (.ref C) (.type "ValueError") = some true) && (decide (PySem.W.mroIn K C (.ref C) = some true) && (He.eqO (PySem.W.nsIn K cStatics "thirdparty.any") (some none) && (iniX K C f file && (fs.all (fun y => He.eqO (PySem.W.findIn K (.ref C) y) (some none)) &&
  (PySem.W.keepIn K (.ref C) && (decide (PySem.W.subIn K (.ref C) (.type "BaseException") = some true) && (decide (PySem.W.typeIn K (.ref C) = some (.type "type")) && (He.eqO (PySem.W.findIn K (.ref C) "__getattribute__") (some (some (.builtin "BaseException.__getattribute__"))) &&
  (He.eqO (PySem.W.findIn K (.ref C) "__getattr__") (some none) && PySem.W.hasDictIn K C)))))))))))))
def Qc (K : PySem.W.Frag) (C : Addr) : Bool :=
 He.eqO (PySem.W.findIn K (.ref C) "__getattribute__") (some (some (.builtin "BaseException.__getattribute__"))) && (He.eqO (PySem.W.findIn K (.ref C) "__getattr__") (some none) && (decide (PySem.W.subIn K (.ref C) (.type "BaseException") = some true) && (PySem.W.hasDictIn K C &&
  (He.eqO (PySem.W.findIn K (.ref C) "__class__") (some (some (.builtin "object.__class__"))) && (He.eqO (PySem.W.specialIn K (.builtin "object.__class__") "__get__") (some (some (.builtin "getset_descriptor.__get__"))) && (decide (PySem.W.takesIn K (.builtin "object.__class__") = some true) && decide (PySem.W.mroIn K C (.type "object") = some true)))))))
def Fx.ok (cn : Nat → Str) (K : PySem.W.Frag) : Fx → Bool
 | .he f => f.ok K
 | .prop x f => He.eqO (PySem.W.findIn K (.ref (He.ga K x)) f) (some (some (.ref (He.ma K (He.ga K x) f)))) && (He.eqO (PySem.W.specialIn K (.ref (He.ma K (He.ga K x) f)) "__get__") (some (some (.builtin "property.__get__"))) &&
  (decide (PySem.W.takesIn K (.ref (He.ma K (He.ga K x) f)) = some true) && (match PySem.W.recIn K (He.ma K (He.ga K x) f) "property" with
   | some (.ref g :: _) => decide (g = Lw K (He.ga K x) f)
   | _ => false)))
 | .ins x => (He.Fa.cls x).ok K && (He.eqO (PySem.W.findIn K (.ref (He.ga K x)) "__class__") (some (some (.builtin "object.__class__"))) && (He.eqO (PySem.W.specialIn K (.builtin "object.__class__") "__get__") (some (some (.builtin "getset_descriptor.__get__"))) &&
  (decide (PySem.W.takesIn K (.builtin "object.__class__") = some true) && decide (PySem.W.mroIn K (He.ga K x) (.type "object") = some true))))
 | .kit t u b => decide (PySem.W.kitOne K (t.v (Dz cn (fun _ => []) K)) (u.v (Dz cn (fun _ => []) K)) = some b)
 | .tup a vs => Ca K (a K) vs
 | .slf x => PySem.W.selfFirst K (He.ga K x)
 | .nsb x => decide (PySem.W.subIn K (.ref (He.ga K x)) (.type "int") = some false) && decide (PySem.W.subIn K (.ref (He.ga K x)) (.type "bool") = some false)
 | .exi x => Qc K (He.ga K x)
 | .raw p => p K
 | .own x file fs => Ly K (He.ga K x) (He.ma K (He.ga K x) "__init__") file fs
section
variable {K : PySem.W.Frag} {cn : Nat → Str} {fld : Nat → List Str}
theorem Lz {p : PySem.W.Frag → Bool} (c : (Fx.raw p).ok cn K = true) : p K = true := c
theorem Jk {x f : Str} (c : (Fx.prop x f).ok cn K = true) : PropOf K (He.ga K x) f (He.ma K (He.ga K x) f) (Lw K (He.ga K x) f) := by
 obtain ⟨c1, c⟩ := He.ba c
 obtain ⟨c2, c⟩ := He.ba c
 obtain ⟨c3, c4⟩ := He.ba c
 refine ⟨He.eqO_ok c1, He.eqO_ok c2, of_decide_eq_true c3, ?_⟩
 split at c4
 · rename_i g rest e
   rw [e, of_decide_eq_true c4]
   exact ⟨rest, rfl⟩
 · cases c4
theorem mD {x : Str} (c : (Fx.ins x).ok cn K = true) : BZ K (He.ga K x) := by
 obtain ⟨c1, c⟩ := He.ba c
 obtain ⟨c2, c⟩ := He.ba c
 obtain ⟨c3, c⟩ := He.ba c
 obtain ⟨c4, c5⟩ := He.ba c
 exact ⟨He.cls_ok c1, He.eqO_ok c2, He.eqO_ok c3, of_decide_eq_true c4, of_decide_eq_true c5⟩
theorem dY {t u : Tg} {b : Bool} (c : (Fx.kit t u b).ok cn K = true) : PySem.W.kitOne K (t.v (Dz cn fld K)) (u.v (Dz cn fld K)) = some b := by
 have h := of_decide_eq_true c
 cases t <;> cases u <;> exact h
end
abbrev AlP : Type := Bool × List He.FnW
def LC (cn : Nat → Str) (fa : List Fx) (fn : List PD) (K : PySem.W.Frag) : AlP := ((fa.all fun f => f.ok cn K) && fn.all fun d => d.ok K, fn.map fun d => fnWa K (d.adr K))
def LK (fn : List PD) : AlP := (true, fn.map PD.val)
def kZ (cn : Nat → Str) (fa : List Fx) (fn : List PD) (K : PySem.W.Frag) : Prop := LC cn fa fn K = LK fn
def Ot (o : Obj) : List Addr := (match o.dict with
 | some d => [d]
 | none => []) ++ match o.data with
 | .seq its _ => its.toList.flatMap He.refV
 | .dict es _ => es.toList.flatMap fun e => He.refV e.val
 | .func fd => He.refV fd.code ++ (He.refV fd.defaults ++ (He.refV fd.kwdefaults ++ fd.closure.map (·.2)))
 | .cls cd => cd.ns :: (cd.mro.drop 1).flatMap He.refV
 | .fields vs => vs.toList.flatMap He.refV
 | .cell (some v) => He.refV v
 | _ => []
def PB (g : Addr → Option Obj) : Nat → List Addr → List Addr
 | 0, l => l
 | n + 1, l => l ++ PB g n (l.flatMap fun a => match g a with
   | some o => Ot o
   | none => [])
def asP (g : Addr → Option Obj) (n : Nat) : List Addr := PB g n [mainGlobals] ++ [cStatics]
def obsPG (n : Nat) (cn : Nat → Str) (fa : List Fx) (fn : List PD) (g : Addr → Option Obj) : AlP := LC cn fa fn (He.frG g (asP g n))
def hookP (n : Nat) (cn : Nat → Str) (fa : List Fx) (fn : List PD) : PySem.W.Hook where
 α := AlP
 obs := fun s => obsPG n cn fa fn s.heap.get?
 val := fun _ => LK fn
 says := fun _ h => ∃ K : PySem.W.Frag, K.In h ∧ kZ cn fa fn K
 of := fun _ _ e => ⟨_, He.frG_in, e⟩
 keeps := fun _ _ _ ⟨K, hK, c⟩ k => ⟨K, PySem.W.Frag.In.keeps hK k, c⟩
theorem obsPG_eq {n : Nat} {cn : Nat → Str} {fa : List Fx} {fn : List PD} {g : Addr → Option Obj} {s : Shared} (h : ∀ a, g a = s.heap.get? a) : obsPG n cn fa fn g = (hookP n cn fa fn).obs s := by
 have e : g = s.heap.get? := funext h
 rw [e] <;> rfl
section
variable {cn : Nat → Str} {fa : List Fx} {fn : List PD} {K : PySem.W.Frag}
theorem kZ.fact (c : kZ cn fa fn K) (i : Nat) {f : Fx} (h : fa[i]? = some f := by rfl) : f.ok cn K = true := by
 have c1 := (He.ba (show ((fa.all fun f => f.ok cn K) && fn.all fun d => d.ok K) = true from congrArg (fun z : AlP => z.1) c)).1
 exact List.all_eq_true.mp c1 f (WL h)
theorem kZ.def_ (c : kZ cn fa fn K) (i : Nat) {d : PD} (h : fn[i]? = some d := by rfl) (hc : d.clo = false := by rfl) : ∃ fd, FunD K d.name d.qual d.params d.body d.scope (d.dvs K) (d.kws K) (d.adr K) fd := by
 have c2 := (He.ba (show ((fa.all fun f => f.ok cn K) && fn.all fun d => d.ok K) = true from congrArg (fun z : AlP => z.1) c)).2
 have e : fn.map (fun d => fnWa K (d.adr K)) = fn.map PD.val := congrArg (fun z : AlP => z.2) c
 have e2 : (fn.map fun d => fnWa K (d.adr K))[i]? = (fn.map PD.val)[i]? := by rw [e]
 rw [W3, W3, h] at e2
 exact PD.funD hc (Option.some.inj e2) (List.all_eq_true.mp c2 d (WL h))
theorem kZ.wrote (c : kZ cn fa fn K) (i : Nat) {d : PD} (h : fn[i]? = some d := by rfl) : fnWa K (d.adr K) = d.val := by
 have e : fn.map (fun d => fnWa K (d.adr K)) = fn.map PD.val := congrArg (fun z : AlP => z.2) c
 have e2 : (fn.map fun d => fnWa K (d.adr K))[i]? = (fn.map PD.val)[i]? := by rw [e]
 rw [W3, W3, h] at e2
 exact Option.some.inj e2
end
theorem uD {K : PySem.W.Frag} {T : Tb} {w : Wd} : ∀ ns : List Int, aa K T w (ns.map V.int) (ns.map D.int)
 | [] => .nil
 | i :: r => .cons (.int i) (uD r)
theorem law_sp {K : PySem.W.Frag} {T : Tb} {F : Fn} {H : Hp} {a : Addr} {ns : List Int} (hq : SqL K H a (ns.map V.int)) {fr : Fr} {h : Hh} (e : F [.kl (ns.map D.int)] [] = .ok (.bl true) fr h) : spF K T 1 F [.ref a] H (fun v _ => v = .bl true) (fun _ _ _ => False) := by
 refine ⟨⟨H, []⟩, [], [.kl (ns.map D.int)], ⟨Wd.le_refl _, fun _ q => .inl q, fun _ q => (by cases q), fun _ _ q _ => q, fun _ q => (by cases q), fun _ _ q => q, rfl, List.nodup_nil, fun _ q => (by cases q), fun _ _ _ q => (by simp at q), rfl, fun _ _ _ q => (by simp at q), fun _ _ _ _ q => (tR q).elim, fun _ _ _ q _ => (by simp at q)⟩, .cons (.kl hq (uD ns)) .nil, rfl, ?_⟩
 rw [e]
 intro w' H' v l R rv
 rcases rv with rv | ⟨p, o, _, _, _, _, r⟩
 · cases rv
   rfl
 · cases r
def pick {α : Type} (is : List Nat) (l : List α) : List α := is.filterMap fun i => l[i]?
def VG {α : Type} (is : List Nat) (us mv ws : List α) : List α := us ++ pick is (ws ++ mv)
end Pk
namespace PySem
namespace EnT
abbrev zb (l : Addr) : Obj := { cls := .type "tuple_iterator", data := .fields #[.ref l, .int 0 0] }
abbrev DG (it : Addr) : Obj := { cls := .type "enumerate", data := .fields #[.none, .bool false, .ref it, rawInt 0, .none, .none] }
theorem jF (l : Addr) (items : Array Value) (n : Nat) (dct : Option Addr) (sl : Array (Option Value)) :
 Meets (Builtin.«enumerate.__new__» ⟨[.type "enumerate", .ref l], []⟩) (fun _ R s => s.heap.get? l = some { cls := .type "tuple", dict := dct, data := .seq items n, slots := sl } ∧
  R (.ok (.ret (.ref (s.heap.push (zb l)).objs.size))) { s with heap := (s.heap.push (zb l)).push (DG s.heap.objs.size) }) := by
 refine .of_wp fun prog w A R s h => ?_
 obtain ⟨hp, g, d, tk, os⟩ := s
 obtain ⟨hl, h⟩ := h
 have hsub := sub_enumerate
 have hT : Heap.IsTuple (Shared.heap ⟨hp, g, d, tk, os⟩) l items := ⟨_, hl, rfl, n, rfl⟩
 wp_walk using AutoSeq1.wpAny_loadPart' hl
 refine wpAny_stack_any fun st => wpAny_pure ?_
 split
 · rename_i c _ _ _ _ _
   cases (c == Value.type "enumerate") <;> (wp_walk using AutoSeq1.wpAny_loadPart' hl, wpAny_pyIter_tuple hT; exact ⟨_, rfl, h⟩)
 · wp_walk using AutoSeq1.wpAny_loadPart' hl, wpAny_pyIter_tuple hT
   exact ⟨_, rfl, h⟩
section
variable {prog : Program} {w : World} {A : Around} {E : Value → Shared → Prop} {s : Shared}
theorem call_tup {l : Addr} {items : Array Value} {Q : Value → Shared → Prop} (hT : s.heap.IsTuple l items)
 (h : ∀ h', IsEnum h' (s.heap.objs.size + 1) s.heap.objs.size 0 .none → h'.IsTupleIter s.heap.objs.size l 0 → (∀ b o, s.heap.get? b = some o → h'.get? b = some o) → Q (.ref (s.heap.objs.size + 1)) { s with heap := h' }) :
 wpAny (model prog w) A (call (.type "enumerate") [.ref l]) Q E s := by
 obtain ⟨⟨c, dct, dt, sl⟩, hl, hc, n, hd⟩ := hT
 obtain rfl : c = .type "tuple" := hc
 obtain rfl : dt = .seq items n := hd
 have hz : (s.heap.push (zb l)).objs.size = s.heap.objs.size + 1 := Heap.size_push ..
 have he : ((s.heap.push (zb l)).push (DG s.heap.objs.size)).get? (s.heap.objs.size + 1) = some (DG s.heap.objs.size) := by
  have z := Heap.get?_push_size (s.heap.push (zb l)) (o := DG s.heap.objs.size) rfl
  rw [hz] at z
  exact z
 have hi : ((s.heap.push (zb l)).push (DG s.heap.objs.size)).get? s.heap.objs.size = some (zb l) := Heap.get?_push_of_some _ (Heap.get?_push_size _ rfl)
 refine callType_new F.called_enumerate (by decide) (F.typeCall_enumerate_1 _) (F.newCall_enumerate_1 _) (fun obj => F.args_object_init_2 obj _) F.entry_enumerate_new (jF l items n dct sl) ⟨hl, ?_⟩
 show _ ∧ _
 rw [hz]
 exact ⟨⟨_, he, rfl⟩, h _ he ⟨_, hi, rfl, rfl⟩ fun b o x => Heap.get?_push_of_some _ (Heap.get?_push_of_some _ x)⟩
end
end EnT
end PySem
namespace L2
open PySem PySem.Spec PyProof.Rows
def ItE (K : PySem.W.Frag) (a : Addr) : It :=
 ⟨fun i H => ∃ (xs : List V) (x : V), SqT K H a xs ∧ xs[i]? = some x, fun i H v H' => ∃ T x, v = .ref T ∧ H T = none ∧ H' = upd H T (.tup [.int (i : Nat), x]) ∧ ∀ xs, SqT K H a xs → xs[i]? = some x, fun i H => ∃ xs : List V, SqT K H a xs ∧ xs.length ≤ i⟩
theorem vK {h : Heap} {a b : Addr} {its : Array Value} {n : String} {o : Obj} (p : h.IsTuple a its) (e : h.get? b = some o) (c : o.cls = .type n) (hn : n ≠ "tuple") : a ≠ b := fun z => by
 obtain ⟨oa, ea, ca, _⟩ := p
 rw [z, e] at ea
 cases ea
 rw [c] at ca
 exact hn (by injection ca)
theorem Gg {P : Program} {w : World} {K : PySem.W.Frag} {elts : List Expr} {kk : Nat} {tpos : Pos} (a e it : Addr) :
 Turn P w K (.Tuple elts kk tpos) (ItE K a) [e, it] e (fun i h => (∃ old, IsEnum h e it ((i : Nat) : Int) old) ∧ h.IsTupleIter it a i ∧ e ≠ it) where
 mem := by simp
 obj := fun i h st b hb => by
  obtain ⟨⟨old, he⟩, ⟨o, ho, _, hd⟩, _⟩ := st
  rcases (show b = e ∨ b = it by simpa using hb) with rfl | rfl
  · exact ⟨_, he, fun v q => nomatch q⟩
  · exact ⟨o, ho, fun v q => by rw [hd] at q; cases q⟩
 keep := fun i h h' st k => by
  obtain ⟨⟨old, he⟩, hi, hne⟩ := st
  exact ⟨⟨old, k e (by simp) _ he⟩, hi.at fun o q => k it (by simp) o q, hne⟩
 item := by
  intro X hP hw hK hc i pins s σ H E I hf st hg
  subst hP hw hK
  obtain ⟨⟨old, he⟩, hit, hne⟩ := st
  obtain ⟨xs, x, hq, hx⟩ := hg
  obtain ⟨its, rv, p, _⟩ := I.tuple hq
  obtain ⟨u, hu, ru⟩ := rv.get hx
  have pt : s.heap.IsTuple a its.toArray := p
  have hai : a ≠ it := by
   obtain ⟨o, ho, c, _⟩ := id hit
   exact vK pt ho c (by decide)
  have hae : a ≠ e := vK pt he rfl (by decide)
  have hlt : i < its.toArray.size := by
   have := (List.getElem?_eq_some_iff.mp hu).1
   simpa using this
  have hel : e < s.heap.objs.size := Heap.lt_size he
  have hil : it < s.heap.objs.size := by
   obtain ⟨_, q, _⟩ := hit
   exact Heap.lt_size q
  refine wpAny_pyNext_enum_itemD (Draws.tuple (show X.A.in1.handled = none from I.ok.hd hc) it a hai its.toArray) he ⟨hit, pt⟩ hlt hne (by simp [hne, Ne.symm hae]) fun y h' tk hy ho hst hT hsz hk => ?_
  obtain rfl : u = y := by
   have e1 : its[i]? = some y := by simpa using hy
   rw [hu] at e1
   exact Option.some.inj e1
  refine ⟨_, rfl, wpAny_letOwnedTupleGo_enum (s := { s with heap := h', toks := tk + 1 }) ho fun h'' he' sb => ?_⟩
  have ne : s.heap.objs.size ≠ e := Nat.ne_of_gt hel
  have new : ObjOk X.prog X.w (upd H s.heap.objs.size (.tup [.int (i : Nat), x])) h'' s.heap.objs.size (.tup [.int (i : Nat), x]) :=
   ⟨by show 2 ≤ sizeLine; decide, [.int i tk, u], .cons ⟨_, rfl⟩ (.cons ru .nil), ⟨_, (sb.2 _ ne).trans hT, rfl, _, rfl⟩⟩
  have I1 : Inv X pins σ (upd H s.heap.objs.size (.tup [.int (i : Nat), x])) { s with heap := h'', toks := tk + 1 } :=
   I.turnedNew (ch := [e, it]) (fun b ob hb q => (sb.2 b (fun z => hb (by simp [z]))).trans (hk b ob (fun z => hb (by simp [z])) (fun z => hb (by simp [z])) q)) hf (Nat.le_refl _) new
  refine ⟨.ref s.heap.objs.size, _, I1, rfl, ⟨_, x, rfl, I.hok.fresh (Nat.le_refl _), rfl, fun ys hy => by rw [I.tuple_inj hy hq]; exact hx⟩, ⟨⟨u, ?_⟩, hst.1.at fun o q => (sb.2 it (Ne.symm hne)).trans q, hne⟩, fun b hb => ?_⟩
  · rw [show ((i + 1 : Nat) : Int) = (i : Int) + 1 by omega]
    exact he'
  · have hb' : b < s.heap.objs.size := by
     rcases (show b = e ∨ b = it by simpa using hb) with rfl | rfl
     · exact hel
     · exact hil
    rw [upd_ne (Nat.ne_of_lt hb')]
    exact (hf b hb).1
 done := by
  intro X hP hw hK hc i pins s σ H E I hf st hg
  subst hP hw hK
  obtain ⟨⟨old, he⟩, hit, hne⟩ := st
  obtain ⟨xs, hq, hx⟩ := hg
  obtain ⟨its, rv, p, _⟩ := I.tuple hq
  have pt : s.heap.IsTuple a its.toArray := p
  obtain ⟨f0, f1, f2, f3, f4, f5⟩ := hf it (by simp)
  have hai : a ≠ it := by
   obtain ⟨o, ho, c, _⟩ := id hit
   exact vK pt ho c (by decide)
  have hi : its.toArray[i]? = none := by
   have hl := rv.length
   simp
   omega
  have D : Draws X.prog X.w X.A.in1 it [it, a] i (fun _ _ => True) (fun j h => j = i ∧ h.IsTupleIter it a j ∧ h.IsTuple a its.toArray) :=
   { live := fun _ _ st => by
      obtain ⟨_, ⟨o, ho, _⟩, _⟩ := st
      exact ⟨o, ho⟩
     frame := fun _ _ _ st hk => ⟨st.1, st.2.1.at fun o e => hk it (by simp) o e, st.2.2.at fun o e => hk a (by simp) o e⟩
     item := fun j s Q E hj st _ => absurd st.1 (Nat.ne_of_lt hj)
     done := fun s Q E st hE => PySem.wpAny_nextOf_tuple_end (show X.A.in1.handled = none from I.ok.hd hc) st.2.1 st.2.2 hi hE }
  exact wpAny_pyNext_enum_endD D he ⟨rfl, hit, pt⟩ fun h' eb => ⟨rfl, I.turned (t' := s.toks) (fun b o hb q => eb b o hb q) f0 f1 f3 f4 f5⟩
 self := fun A i s Q E st h => by
  obtain ⟨⟨_, he⟩, _⟩ := st
  exact wpAny_pyIter_enum he h
def Qe (K : PySem.W.Frag) (ta : TA) : TI := fun σ H R => ta σ H fun vs H1 => ∃ a xs, vs = [.ref a] ∧ ((SqL K H1 a xs ∧ R (Ite K a) H1) ∨ (SqT K H1 a xs ∧ R (ItE K a) H1))
theorem LQ {X : Cx} {e : Expr} {ta : TA} {p pos tpos : Pos} {elts : List Expr} {kk : Nat} (hg : Gl X "enumerate") (hm : X.mg "enumerate" = none) (ha : PA X [e] ta) (hs : starEach [e] X.env = [(false, eval e X.env)] := by rfl) :
 PI X (.Tuple elts kk tpos) (.Call (.Name "enumerate" p) [e] [] pos) (Qe X.K ta) := by
 refine ⟨fun pins s σ H R I h => ?_⟩
 refine Call_ (ld_blt I hg hm boot_enumerate (PyProof.Rows.callWith_type1 (thn (ha.run pos pins s σ H _ I h) fun us s1 hh => ?_) hs rfl))
 obtain ⟨vs, H1, I1, r1, a, xs, rfl, q⟩ := hh
 cases r1 with
 | cons r rr =>
   cases rr
   cases r
   have two : ∀ b ∈ [s1.heap.objs.size + 1, s1.heap.objs.size], FpOk X pins H1 b := fun b hb => by
    have hle : s1.heap.objs.size ≤ b := by
     rcases (show b = s1.heap.objs.size + 1 ∨ b = s1.heap.objs.size by simpa using hb) with rfl | rfl
     · exact Nat.le_succ _
     · exact Nat.le_refl _
    exact I1.fpOk hle (I1.hok.fresh hle)
   rcases q with ⟨hq, q⟩ | ⟨hq, q⟩
   · obtain ⟨its, rv, pl, _⟩ := I1.list hq
     refine call_enumerate_list pl.isList fun h' he hit _ hk => wpAny_pyIter_enum he ?_
     exact ⟨s1.heap.objs.size + 1, [s1.heap.objs.size + 1, s1.heap.objs.size], _, _, H1, rfl, I1.kept (t' := s1.toks) hk, turn_enum a (s1.heap.objs.size + 1) s1.heap.objs.size, ⟨⟨.none, he⟩, hit, Nat.succ_ne_self _⟩, two, q⟩
   · obtain ⟨its, rv, pl, _⟩ := I1.tuple hq
     refine PySem.EnT.call_tup (show s1.heap.IsTuple a its.toArray from pl) fun h' he hit hk => wpAny_pyIter_enum he ?_
     exact ⟨s1.heap.objs.size + 1, [s1.heap.objs.size + 1, s1.heap.objs.size], _, _, H1, rfl, I1.kept (t' := s1.toks) hk, Gg a (s1.heap.objs.size + 1) s1.heap.objs.size, ⟨⟨.none, he⟩, hit, Nat.succ_ne_self _⟩, two, q⟩
end L2
namespace Pk
open PySem PySem.Spec L2
def jf : Nat → List D → List D
 | _, [] => []
 | i, d :: ds => .tup [.int (i : Int), d] :: jf (i + 1) ds
theorem jT : ∀ (i : Nat) (l : List D), (jf i l).length = l.length
 | _, [] => rfl
 | i, _ :: l => congrArg Nat.succ (jT (i + 1) l)
theorem pO : ∀ (i : Nat) (l : List D) (j : Nat) (z : D), (jf i l)[j]? = some z → ∃ d, l[j]? = some d ∧ z = .tup [.int ((i + j : Nat) : Int), d]
 | _, [], j, z, e => by simp [jf] at e
 | i, d :: l, 0, z, e => by
   simp [jf] at e
   exact ⟨d, rfl, e.symm⟩
 | i, d :: l, j + 1, z, e => by
   obtain ⟨d', h1, h2⟩ := pO (i + 1) l j z (by simpa [jf] using e)
   exact ⟨d', by simpa using h1, by rw [h2]; congr 3; omega⟩
def D.lst : D → Option (List D)
 | .fl l => some l
 | .kl l => some l
 | .tup l => some l
 | _ => none
def yj (m : M D) : M (List D) := m.bind fun d => M.opt (d.lst.map (jf 0))
section
variable {X : Cx} {T : Tb} {W : WX} {k kk : Nat} {pos p tpos : Pos} {elts : List Expr} {a : Expr} {ma : M D}
theorem Jl {K : PySem.W.Frag} {B : Bs} {σ : L2.St} {w : Wd} {H : Hp} {fr : Fr} {a : Addr} {vs : List V} {l : List D} (sq : SqL K w.F a vs) (rl : aa K T w vs l) : vJ K T B σ w H fr (Ite K a) (jf 0 l) := fun i w2 H2 l2 hs => ⟨fun hi => ⟨vs, bU hs (bU l2.1 sq), by rw [rl.length, ← jT 0 l]; exact hi⟩, fun d' hd => by
 obtain ⟨d, hd1, rfl⟩ := pO 0 l i d' hd
 obtain ⟨v, hv, rv⟩ := rl.get hd1
 have sq2 : SqL K H2 a vs := bU hs (bU l2.1 sq)
 refine ⟨⟨vs, v, sq2, hv⟩, fun y H3 hy B' σ' fr' h' R' => ?_⟩
 obtain ⟨Tp, x, rfl, nT, rfl, hx⟩ := hy
 have z := hx vs sq2
 rw [hv] at z
 cases z
 have nf : w2.F Tp = none := (R'.nP nT).1
 have lw := Wd.le_add (o := .tup [.int (i : Nat), v]) nf
 rw [Nat.zero_add]
 exact ⟨w2.add Tp (.tup [.int (i : Nat), v]), lw, R'.laid nT, .tup (SqT.of (by show upd w2.F Tp _ Tp = _; rw [upd_same])) (.cons (.int _) (.cons ((rv.mono l2).mono lw) .nil))⟩⟩
theorem LR {K : PySem.W.Frag} {B : Bs} {σ : L2.St} {w : Wd} {H : Hp} {fr : Fr} {a : Addr} {vs : List V} {l : List D} (sq : SqT K w.F a vs) (rl : aa K T w vs l) : vJ K T B σ w H fr (ItE K a) (jf 0 l) := fun i w2 H2 l2 hs => ⟨fun hi => ⟨vs, aV hs (aV l2.1 sq), by rw [rl.length, ← jT 0 l]; exact hi⟩, fun d' hd => by
 obtain ⟨d, hd1, rfl⟩ := pO 0 l i d' hd
 obtain ⟨v, hv, rv⟩ := rl.get hd1
 have sq2 : SqT K H2 a vs := aV hs (aV l2.1 sq)
 refine ⟨⟨vs, v, sq2, hv⟩, fun y H3 hy B' σ' fr' h' R' => ?_⟩
 obtain ⟨Tp, x, rfl, nT, rfl, hx⟩ := hy
 have z := hx vs sq2
 rw [hv] at z
 cases z
 have lw := Wd.le_add (o := .tup [.int (i : Nat), v]) (R'.nP nT).1
 rw [Nat.zero_add]
 exact ⟨w2.add Tp (.tup [.int (i : Nat), v]), lw, R'.laid nT, .tup (SqT.of (by show upd w2.F Tp _ Tp = _; rw [upd_same])) (.cons (.int _) (.cons ((rv.mono l2).mono lw) .nil))⟩⟩
theorem Ma {K : PySem.W.Frag} {w : Wd} {v : V} {d : D} {l : List D} (r : aA K T w v d) (e : d.lst = some l) : ∃ p vs, v = .ref p ∧ aa K T w vs l ∧ (SqL K w.F p vs ∨ SqT K w.F p vs) := by
 cases r with
 | fl s r =>
   cases e
   exact ⟨_, _, rfl, r, .inl (SqL.of s)⟩
 | kl s r =>
   cases e
   exact ⟨_, _, rfl, r, .inl s⟩
 | tup s r =>
   cases e
   exact ⟨_, _, rfl, r, .inr s⟩
 | _ => cases e
theorem vL (s : ao X T W a ma) (hm : X.mg "enumerate" = none) (hg : Gl X "enumerate" := by rfl) (hs : starEach [a] X.env = [(false, eval a X.env)] := by rfl) : lM X T W (.Tuple elts kk tpos) (.Call (.Name "enumerate" p) [a] [] pos) (yj ma) := fun B w σ H fr h Q r p =>
 BK (LQ hg hm (pa_cons aK pa_nil (hs.trans (by rfl))) hs) (s B w σ H fr h _ r (ak.bind (VR := vV X.K T B σ) p fun d fr1 h1 w1 H1 x e1 l1 r1 rx p1 => by
  cases q : d.lst with
  | none => rw [q] at p1; exact p1.elim
  | some l =>
    rw [q] at p1
    obtain ⟨a, vs, rfl, rl, sq | sq⟩ := Ma rx q
    · exact ⟨a, vs, rfl, .inl ⟨bU r1.sub sq, p1 w1 H1 (Ite X.K a) (Wd.le_refl _) r1 (Jl sq rl)⟩⟩
    · exact ⟨a, vs, rfl, .inr ⟨aV r1.sub sq, p1 w1 H1 (ItE X.K a) (Wd.le_refl _) r1 (LR sq rl)⟩⟩))
end
end Pk
namespace Pk
open PySem PySem.Spec L2
inductive AllL {β : Type} (Q : Nat → β → Prop) : List (Nat × β) → Prop where
 | nil : AllL Q []
 | cons {a : Nat} {b : β} {l : List (Nat × β)} : Q a b → AllL Q l → AllL Q ((a, b) :: l)
theorem dZ {β : Type} {Q : Nat → β → Prop} : ∀ {l : List (Nat × β)}, AllL Q l → ∀ c i, Ww c l = some i → Q c i
 | _, .nil, _, _, e => by cases e
 | _, @AllL.cons _ _ a b l q r, c, i, e => by
   rw [List.lookup_cons] at e
   cases h : c == a with
   | true =>
     rw [h] at e
     cases e
     rw [beq_iff_eq.mp h]
     exact q
   | false =>
     rw [h] at e
     exact dZ r c i e
def Mg (rows : List ((Tg × Tg) × Bool)) (t u : Tg) : Option Bool := match t, u with
 | .b a, .b b => za a b
 | t, u => Ww (t, u) rows
inductive g8 (K : PySem.W.Frag) (T : Tb) : List ((Tg × Tg) × Bool) → Prop where
 | nil : g8 K T []
 | b {a : String} {c : Nat} {r : Bool} {l : List ((Tg × Tg) × Bool)} : PySem.W.kitOne K (Tg.v T (.b a)) (Tg.v T (.o c)) = some r → g8 K T l → g8 K T (((.b a, .o c), r) :: l)
 | o {c : Nat} {u : Tg} {r : Bool} {l : List ((Tg × Tg) × Bool)} : PySem.W.kitOne K (Tg.v T (.o c)) (u.v T) = some r → BZ K (T.cad c) → g8 K T l → g8 K T (((.o c, u), r) :: l)
theorem mF {K : PySem.W.Frag} {T : Tb} : ∀ {l : List ((Tg × Tg) × Bool)}, g8 K T l → ∀ t u b, Ww (t, u) l = some b → PySem.W.kitOne K (t.v T) (u.v T) = some b ∧ ∀ c, t = .o c → BZ K (T.cad c)
 | _, .nil, _, _, _, e => by cases e
 | _, @g8.b _ _ a c r l q rr, t, u, b, e => by
   rw [List.lookup_cons] at e
   cases h : (t, u) == (Tg.b a, Tg.o c) with
   | true =>
     rw [h] at e
     cases e
     cases beq_iff_eq.mp h
     exact ⟨q, fun c' z => by cases z⟩
   | false =>
     rw [h] at e
     exact mF rr t u b e
 | _, @g8.o _ _ c u' r l q i rr, t, u, b, e => by
   rw [List.lookup_cons] at e
   cases h : (t, u) == (Tg.o c, u') with
   | true =>
     rw [h] at e
     cases e
     cases beq_iff_eq.mp h
     exact ⟨q, fun c' z => by cases z; exact i⟩
   | false =>
     rw [h] at e
     exact mF rr t u b e
theorem Mh {K : PySem.W.Frag} {T : Tb} {l : List ((Tg × Tg) × Bool)} (h : g8 K T l) : vH K T (Mg l) := by
 refine ⟨fun t u b e => ?_, fun c u b e => ?_⟩
 · cases t with
   | b a =>
     cases u with
     | b a' => exact kit_ty (Ji _ _ _ e)
     | o c => exact (mF h _ _ _ e).1
   | o c => exact (mF h _ _ _ e).1
 · exact (mF h _ _ _ e).2 c rfl
def Ut (is : List Nat) (md : List D) (ds es : List D) : List D := ds ++ pick is (es ++ md)
theorem fn_cx0 {P : Program} {w : World} {K : PySem.W.Frag} {mg : Str → Option Value} {base : Heap} {k : Nat} {f : Addr} {fd : FuncData} {ps : List Str} {sp : Sp} (F : FnOk P w K mg base (L2.CX P w) k f fd ps sp) :
 FnOk P w K mg base CX0 k f fd ps (fun vs H Q _ => sp vs H Q fun _ _ _ => False) := by
 refine ⟨fun vs H Q _ q => F.len vs H Q _ q, fun A outer s H args us vs Q E hr e0 hb r hsp => codeAny_mono (F.run A outer s H args us vs Q _ hr e0 hb r hsp) fun r s' hq => ?_⟩
 cases r with
 | error e =>
   obtain ⟨a, B, H', cls, d, rfl, fl, hok, ub, na, os, ag, hE⟩ := (show L2.CX P w outer H s (fun _ _ _ => False) e s' from hq)
   exact hE.elim
 | ok fl => cases fl <;> exact hq
end Pk
namespace Pk
open PySem PySem.Spec L2
section
variable {P : Program} {w : World} {K : PySem.W.Frag} {mg : Str → Option Value} {base : Heap} {T : Tb} {k : Nat} {x qual : Str} {params : Arguments} {body : List Stmt} {scope : Scope} {dvs : List V} {kws : List (Str × V)} {f : Addr} {fd : FuncData} {N ps : List Str}
theorem DK (c : Nat) (S : FnScope N ps scope) {m : M Fl} (dm : Does P w K mg base T k N qual scope body m) (cdv : Value) (A : Around) (outer : List Env) (s : Shared) (H : Hp) (vs : List V) (Q : VK) (E : XK)
 (hr : Room k (A.deeper (PyProof.Rows.envOfC qual scope s.heap.objs.size f cdv))) (sp : spI K T c ps.length (runI c N.length m) vs H Q E) :
 ∃ t, PSs (Ax P w K mg base N qual scope f cdv A outer s H E) body t ∧ t { nx := fun _ H' => Q .non H', rt := Q } (L2.start N vs) H := by
 obtain ⟨w, h, ds, G, x, dx, us, ev, nx, eH, R, rs, hl, post⟩ := sp
 refine ⟨Af _ body, jE, ?_⟩
 have hpl : ps.length ≤ N.length := by
  have := congrArg List.length S.pre
  rw [List.length_take] at this
  omega
 subst ev eH
 refine dm f cdv A outer s _ E (HD S hr) ⟨w, G, [], some x⟩ w _ _ (startF N.length (.no c [] :: ds)) h _ (R.ofme.startI rfl nx rs (by rw [hl]; exact hpl)) ?_
 unfold runI at post
 cases e : m (startF N.length (.no c [] :: ds)) h with
 | ok fl fr h' =>
   rw [e] at post
   cases fl with
   | nx =>
     intro w' σ' H' l R'
     dsimp only at post
     cases e0 : (fr : Fr)[0]? with
     | none => rw [e0] at post; exact post.elim
     | some od =>
       rw [e0] at post
       cases od with
       | none => exact post.elim
       | some d =>
         cases d with
         | no c' fs =>
           dsimp only at post
           by_cases hc : c' = c
           · rw [if_pos hc] at post
             subst hc
             have s0 := R'.me x _ rfl e0 rfl
             obtain ⟨v, ev, z⟩ := bA R' e0
             rw [s0] at ev
             cases ev
             cases z with
             | val r => cases r
             | own O eH r => exact post w' H' .non l R'.unframe.unme ⟨rfl, ⟨O.f, O.i, O.e, fun q hq => by cases hq⟩, _, eH, r⟩
           · rw [if_neg hc] at post
             exact post.elim
         | _ => exact post.elim
   | rt d => exact post.elim
   | brk => exact post.elim
   | ct => exact post.elim
 | exc y fr h' =>
   rw [e] at post
   exact fun w' σ' H' c dd l R' z => post w' H' c dd l R'.unframe.unme z
 | err => rw [e] at post; exact post
end
structure Ba (P : Program) (w : World) (K : PySem.W.Frag) (mg : Str → Option Value) (base : Heap) (T : Tb) (k c : Nat) (f : Addr) (n : Nat) (ks : List Str) (F : Fn) : Prop where
 run : ∀ (A : Around) (outer : List Env) (s : Shared) (H : Hp) (u0 : Value) (ur ws : List Value) (v0 : V) (vr zs : List V) (Q : VK) (E : XK), Room k A → Env0 P w K mg base A outer s H → RelV v0 u0 → Vals vr ur → Vals zs ws → zs.length = ks.length → vr.length ≤ sizeLine →
  (∀ p, H p = none → spI K T c n F (v0 :: (zs ++ [.ref p])) (upd H p (.tup vr)) Q E) → codeAny (model P w) A (.call (.ref f) ⟨u0 :: ur, ks.zip ws⟩) (CR (L2.CX P w) outer P w H s Q E) s
 made : Mk K (T.cad c) f
section
variable {P : Program} {w : World} {K : PySem.W.Frag} {mg : Str → Option Value} {base : Heap} {T : Tb} {k : Nat} {x qual : Str} {params : Arguments} {body : List Stmt} {scope : Scope} {f : Addr} {fd : FuncData} {N : List Str} {p0 pv : Str} {ks : List Str}
theorem Jm (c : Nat) (F : FunD K x qual params body scope [] [] f fd) (Mf : Mk K (T.cad c) f) (S : FnScope N (p0 :: ks ++ [pv]) scope) {m : M Fl} (dm : Does P w K mg base T k N qual scope body m)
 (hb : ∀ (kV doc pm : Value) (an : Option Addr) (cdv ct u0 : Value) (ur ws : List Value), ws.length = ks.length → bindArgs (PySem.W.fnOf x qual params body scope .none kV doc pm an cdv ct) ⟨u0 :: ur, ks.zip ws⟩ = (newTuple ur >>= fun t => pure ((p0 :: ks).zip (u0 :: ws) ++ [(pv, t)]))) :
 Ba P w K mg base T (k + 1) c f (p0 :: ks ++ [pv]).length ks (runI c N.length m) := by
 refine ⟨fun A outer s H u0 ur ws v0 vr zs Q E hr e0 r0 rr rz hz hbig hq => ?_, Mf⟩
 obtain ⟨oc, od, dV, kV, doc, pm, an, cdv, ct, osl, rfl, lk, hcd, hD, hK⟩ := F.ex
 have edV : dV = .none := by
  rcases hD with ⟨_, e⟩ | ⟨e, _⟩
  · exact e
  · exact absurd rfl e
 subst edV
 have hn : H s.heap.objs.size = none := e0.hok.fresh (Nat.le_refl _)
 have hl2 : ur.length ≤ sizeLine := by rw [← rr.length]; exact hbig
 have hws : ws.length = ks.length := by rw [← rz.length]; exact hz
 refine StX.run_bnd lk hcd S hr e0 (G := fun xs H2 => ∃ p, H p = none ∧ xs = v0 :: (zs ++ [V.ref p]) ∧ H2 = upd H p (.tup vr)) (fun A' Ex Q' h => ?_) fun s2 H2 xs ⟨p, hp, ex, eH⟩ hr' => ?_
 · rw [hb kV doc pm an cdv ct u0 ur ws hws]
   refine wpAny_bind (wpAny_newTuple (wpAny_pure ?_) hl2)
   have new : ObjOk P w (upd H s.heap.objs.size (.tup vr)) (s.heap.push ({ cls := .type "tuple", data := .seq ur.toArray } : Obj)) s.heap.objs.size (.tup vr) := ⟨hbig, ur, rr, ⟨_, Heap.get?_push_size _ rfl, rfl, _, rfl⟩⟩
   have un := StX.un_laid (fs := frs outer) (s := s) (o := ({ cls := .type "tuple", data := .seq ur.toArray } : Obj)) (u := .tup vr) hn
   have z := h _ _ (v0 :: (zs ++ [V.ref s.heap.objs.size])) (u0 :: (ws ++ [Value.ref s.heap.objs.size])) (StX.env0_laid e0 new) un rfl (fun e s' => StX.cxUp outer s H _ _ E e s' un (fun b o q => Heap.get?_push_of_some _ q) rfl) (.cons r0 (rz.append (.cons rfl .nil)))
    (by simp [hz]) ⟨_, hn, rfl, rfl⟩
   have ez : (p0 :: ks ++ [pv]).zip (u0 :: (ws ++ [Value.ref s.heap.objs.size])) = (p0 :: ks).zip (u0 :: ws) ++ [(pv, Value.ref s.heap.objs.size)] := by
    show ((p0 :: ks) ++ [pv]).zip ((u0 :: ws) ++ [Value.ref s.heap.objs.size]) = _
    rw [List.zip_append (by simp [hws])]
    rfl
   rw [ez] at z
   exact z
 · subst ex eH
   exact DK c S dm _ A outer s2 _ _ Q E hr' (hq p hp)
end
def ie (ds es : List D) : List D := es ++ [.tup ds]
def Ce (m : Nat) (F : Fn) (ma : M D) (mk : M (List D)) : M D := ma.bind fun d => mk.bind fun es fr h => match d.its [] with
 | some ds => if ds.length ≤ big ∧ es.length = m then bH fr (F (ie ds es) h) else .err
 | none => .err
section
variable {X : Cx} {T : Tb} {W : WX} {k kk n c : Nat} {f : Addr} {ks : List Str} {F : Fn} {x : Str} {p pos apos : Pos} {e : Expr} {es : List Expr} {kws : List Keyword} {ma : M (List D)} {mo : M D} {mk : M (List D)}
theorem pP {B : Bs} {w : Wd} {σ : L2.St} {H : Hp} {fr : Fr} {h : Hh} {vs zs : List V} {ds es : List D} {Q : VK} (hn : n = ks.length + 2)
 (R : Rel X.K T B w σ H fr h) (rs : aa X.K T w vs ds) (rz : aa X.K T w zs es) (hb : ds.length ≤ big) (hm : es.length = ks.length) (pp : ak X.K T B W (vE X.K T B σ) w σ (bH fr (F (ie ds es) h)) Q) :
 zs.length = ks.length ∧ vs.length ≤ sizeLine ∧ ∀ x dx, H x = none → H dx = none → dx ≠ x → ∀ p, (upd (upd H dx (.own x)) x (.ins (T.cad c) dx [])) p = none →
  spI X.K T c n F (.ref x :: (zs ++ [.ref p])) (upd (upd (upd H dx (.own x)) x (.ins (T.cad c) dx [])) p (.tup vs)) (fun v H2 => v = .non ∧ Q (.ref x) H2) (fun c d H' => W c d σ H') := by
 refine ⟨rz.length.trans hm, by rw [rs.length]; exact cW hb, fun x dx nx nd ne p np => ?_⟩
 have px : p ≠ x := fun z => by rw [z, upd_same] at np; cases np
 rw [upd_ne px] at np
 have pd : p ≠ dx := fun z => by rw [z, upd_same] at np; cases np
 rw [upd_ne pd] at np
 have R1 := R.laid (o := .tup vs) np
 have le := Wd.le_add (p := p) (o := .tup vs) (R.nP np).1
 have eH : upd (upd (upd H dx (.own x)) x (.ins (T.cad c) dx [])) p (.tup vs) = upd (upd (upd H p (.tup vs)) dx (.own x)) x (.ins (T.cad c) dx []) := by
  funext b
  by_cases hp : b = p
  · subst hp
    rw [upd_same, upd_ne px, upd_ne pd, upd_same]
  · rw [upd_ne hp]
    by_cases hx : b = x
    · subst hx; rw [upd_same, upd_same]
    · rw [upd_ne hx, upd_ne hx]
      by_cases hd : b = dx
      · subst hd; rw [upd_same, upd_same]
      · rw [upd_ne hd, upd_ne hd, upd_ne hp]
 rw [eH]
 refine Gf R1 (ds := ie ds es) ((rz.mono le).append (.cons (.tup (.inl (.inl (by show upd w.F p _ p = _; rw [upd_same]))) (rs.mono le)) .nil)) ?_ ?_ ?_ ne (pp.le le)
 · unfold ie
   rw [WY, hm, List.length_singleton, hn]
 · rw [upd_ne (Ne.symm px)]; exact nx
 · rw [upd_ne (Ne.symm pd)]; exact nd
theorem vM {pins : List (Addr × Obj)} {σ : L2.St} {H : Hp} {s : Shared} {Q : VK} {us ws : List Value} {vs zs : List V} (F0 : Ba X.prog X.w X.K X.mg X.base T kk c f n ks F) (hr : Room (kk + 1) X.A) (tk : Takes X W)
 (I : Inv X pins σ H s) (r : Vals vs us) (rz : Vals zs ws) (l2 : zs.length = ks.length) (lb : vs.length ≤ sizeLine)
 (h : ∀ x dx, H x = none → H dx = none → dx ≠ x → ∀ p, (upd (upd H dx (.own x)) x (.ins (T.cad c) dx [])) p = none →
  spI X.K T c n F (.ref x :: (zs ++ [.ref p])) (upd (upd (upd H dx (.own x)) x (.ins (T.cad c) dx [])) p (.tup vs)) (fun v H2 => v = .non ∧ Q (.ref x) H2) (fun c d H' => W c d σ H')) :
 wpAny (model X.prog X.w) X.A (call (.ref (T.cad c)) us (ks.zip ws)) (EP X pins σ Q) X.xe s := by
 have hq := h (s.heap.objs.size + 1) s.heap.objs.size (I.hok.fresh (Nat.le_succ _)) (I.hok.fresh (Nat.le_refl _)) (Nat.ne_of_lt (Nat.lt_succ_self _))
 have I2 := Inv.made (C := T.cad c) I
 refine wpAny_call (make_map (f := f) I.kIn F0.made.makes F0.made.init (beq_iff_eq.mp F0.made.fn) (codeAny_mono (F0.run _ X.stack _ _ (Value.ref (s.heap.objs.size + 1)) us ws (V.ref (s.heap.objs.size + 1)) vs zs _ _ (hr.make (T.cad c) us (ks.zip ws))
  (I2.env0.make (T.cad c) us (ks.zip ws)) rfl r rz l2 lb hq) fun r s' hq' => ?_))
 cases r with
 | error e => exact passAt tk σ pins _ _ e s' I2 hq'
 | ok fl =>
   cases fl with
   | ret u =>
     obtain ⟨v, H', I3, rv, ev, q3⟩ := I2.after hq'
     subst ev
     exact ⟨rv, ⟨V.ref (s.heap.objs.size + 1), H', I3, rfl, q3⟩⟩
   | next => exact False.elim hq'
   | brk => exact False.elim hq'
   | cont => exact False.elim hq'
theorem DN (C : Cq X T W k) (F0 : Ba X.prog X.w X.K X.mg X.base T kk c f n ks F) (hn : n = ks.length + 2) (hk : kk + 1 ≤ k) (hm : X.mg x = some (.ref (T.cad c))) (sk : vD X T W kws mk) (hg : Gl X x := by rfl) (hdb : (x == ("__debug__" : Str)) = false := by decide)
 (hall : (backToKw pos (keywordEach kws X.env)).all (·.1.isSome) = true := by rfl) (hks : (backToKw pos (keywordEach kws X.env)).filterMap (·.1) = ks := by rfl)
 (hpl : ((backTo pos (starEach [] X.env)).any (·.1) || (backToKw pos (keywordEach kws X.env)).any (·.1.isNone)) = false := by rfl) :
 du X T W (.Call (.Name x p) [] kws pos) (bD 0 ks.length F ie (az []) mk) := fun B w σ H fr h Q R pp => WE.mk <| fun pins s I => by
 refine wpAny_Call_Name_kw (ld_glob I hg hm ?_ hdb)
 refine PySem.W.callWith_KW0 (h₀ := X.base) I.ok.mod.kin F0.made.kp hall ?_ hpl
 have fin : ∀ {w2 : Wd} {H2 : Hp} {fr2 : Fr} {h2 : Hh} {zs : List V} {es : List D}, Rel X.K T B w2 σ H2 fr2 h2 → aa X.K T w2 zs es → ak X.K T B W (vE X.K T B σ) w2 σ (if ([] : List D).length = 0 ∧ es.length = ks.length then bH fr2 (F (ie [] es) h2) else .err) Q →
  zs.length = ks.length ∧ ([] : List V).length ≤ sizeLine ∧ ∀ x dx, H2 x = none → H2 dx = none → dx ≠ x → ∀ p, (upd (upd H2 dx (.own x)) x (.ins (T.cad c) dx [])) p = none →
  spI X.K T c n F (.ref x :: (zs ++ [.ref p])) (upd (upd (upd H2 dx (.own x)) x (.ins (T.cad c) dx [])) p (.tup [])) (fun v H2 => v = .non ∧ Q (.ref x) H2) (fun c d H' => W c d σ H') := fun {w2 H2 fr2 h2 zs es} r2 rz p2 => by
  by_cases hl : es.length = ks.length
  · rw [if_pos ⟨rfl, hl⟩] at p2
    exact pP hn r2 .nil rz (Nat.zero_le _) hl p2
  · rw [if_neg fun z => hl z.2] at p2
    exact p2.elim
 refine thn ((sk B w σ H fr h _ R (ak.bind (VR := vA X.K T B σ) pp fun es fr2 h2 w2 H2 zs e2 l2 r2 rz p2 => fin r2 rz p2)).go pos pins s I) fun ws s2 ⟨zs, H2, I2, rz, q2⟩ => ⟨I2.kIn, ?_⟩
 rw [hks]
 exact vM (us := []) F0 (C.room.mono hk) C.takes I2 .nil rz q2.1 q2.2.1 q2.2.2
theorem DP (C : Cq X T W k) (F0 : Ba X.prog X.w X.K X.mg X.base T kk c f n ks F) (hn : n = ks.length + 2) (hk : kk + 1 ≤ k) {j : Nat} (hj : j ≤ big) (hm : X.mg x = some (.ref (T.cad c))) (sa : pB X T W (e :: es) ma) (sk : vD X T W kws mk) (hg : Gl X x := by rfl) (hdb : (x == ("__debug__" : Str)) = false := by decide)
 (hall : (backToKw pos (keywordEach kws X.env)).all (·.1.isSome) = true := by rfl) (hks : (backToKw pos (keywordEach kws X.env)).filterMap (·.1) = ks := by rfl)
 (he : starEach (e :: es) X.env = (false, eval e X.env) :: starEach es X.env := by exact aW rfl) (hpl : ((backTo pos (starEach (e :: es) X.env)).any (·.1) || (backToKw pos (keywordEach kws X.env)).any (·.1.isNone)) = false := by rfl) :
 du X T W (.Call (.Name x p) (e :: es) kws pos) (bD j ks.length F ie ma mk) := fun B w σ H fr h Q R pp => WE.mk <| fun pins s I => by
 refine wpAny_Call_Name_kw (ld_glob I hg hm ?_ hdb)
 have fin : ∀ {w2 : Wd} {H2 : Hp} {fr2 : Fr} {h2 : Hh} {vs zs : List V} {ds es : List D}, Rel X.K T B w2 σ H2 fr2 h2 → aa X.K T w2 vs ds → aa X.K T w2 zs es → ak X.K T B W (vE X.K T B σ) w2 σ (if ds.length = j ∧ es.length = ks.length then bH fr2 (F (ie ds es) h2) else .err) Q →
  zs.length = ks.length ∧ vs.length ≤ sizeLine ∧ ∀ x dx, H2 x = none → H2 dx = none → dx ≠ x → ∀ p, (upd (upd H2 dx (.own x)) x (.ins (T.cad c) dx [])) p = none →
  spI X.K T c n F (.ref x :: (zs ++ [.ref p])) (upd (upd (upd H2 dx (.own x)) x (.ins (T.cad c) dx [])) p (.tup vs)) (fun v H2 => v = .non ∧ Q (.ref x) H2) (fun c d H' => W c d σ H') := fun {w2 H2 fr2 h2 vs zs ds es} r2 rs rz p2 => by
  by_cases hl : ds.length = j ∧ es.length = ks.length
  · rw [if_pos hl] at p2
    exact pP hn r2 rs rz (by rw [hl.1]; exact hj) hl.2 p2
  · rw [if_neg hl] at p2
    exact p2.elim
 refine PySem.W.callWith_KW (h₀ := X.base) I.ok.mod.kin F0.made.kp hall (thn ((sa B w σ H fr h _ R (ak.bind (VR := vA X.K T B σ) pp fun ds fr1 h1 w1 H1 vs e1 l1 r1 rs p1 =>
  sk B w1 σ H1 fr1 h1 _ r1 (ak.bind (VR := vA X.K T B σ) p1 fun es fr2 h2 w2 H2 zs e2 l2 r2 rz p2 => fin r2 (rs.mono l2) rz p2))).go pos pins s I) fun us s1 ⟨vs, H1, I1, r, q⟩ => ?_) hpl he
 refine thn (q.go pos pins s1 I1) fun ws s2 ⟨zs, H2, I2, rz, q2⟩ => ⟨I2.kIn, ?_⟩
 rw [hks]
 exact vM F0 (C.room.mono hk) C.takes I2 r rz q2.1 q2.2.1 q2.2.2
end
section
open PySem.W
variable {M' : Model} {A : Around} {E : Value → Shared → Prop} {s : Shared}
theorem Jo {f : Value} {x : Sem Value} {pos : Pos} {keywords : List (Option Str × Sem Value)} {Q : Args → Shared → Prop} (hall : keywords.all (·.1.isSome) = true)
 (h : wpAny M' A x (fun v s₁ => wpAny M' A (evalAll (keywords.map (·.2))) (fun ks s₂ => StarOf M' A E v (fun vs s₃ => Q ⟨vs, (keywords.filterMap (·.1)).zip ks⟩ s₃) s₂) E s₁) E s) :
 wpAny M' A (evalArgs f true [(true, (do let v ← x; standAt pos; pure v))] keywords) Q E s := by
 unfold evalArgs
 refine wpAny_bind (wpAny_bind (wpAny_mono h (fun v s₁ h₁ => wpAny_bind (wpAny_standAt (wpAny_pure ?_))) fun _ _ x => x))
 refine wpAny_holding ?_
 simp only [hall, if_true]
 refine wpAny_bind (wpAny_mono h₁ (fun ks s₂ h₂ => ?_) fun _ _ x => x)
 unfold StarOf at h₂
 refine wpAny_bind (wpAny_bind (wpAny_mono h₂ (fun b s₃ h₃ => ?_) fun _ _ x => x))
 obtain ⟨rfl, h₃⟩ := h₃
 simp only [Bool.false_eq_true, if_false]
 exact wpAny_holding (wpAny_mono h₃ (fun vs s₄ h₄ => wpAny_pure h₄) fun _ _ x => x)
theorem Cg {f : Value} {first : List Value} {pos : Pos} {Q : Value → Shared → Prop} {P : Heap → Prop} {args : List (Bool × Sem Value)} {keywords : List (Option Str × Sem Value)} (hst : args.any (·.1) = true)
 (hk : ∀ h, P h → ∃ k, (k = Keeper.frame ∨ k = Keeper.machine ∨ k = Keeper.boundFrame) ∧ Looks M' h (keeperOf f) k)
 (h : wpAny M' A (evalArgs f true args keywords) (fun a s₁ => P s₁.heap ∧ wpAny M' A (call f (first ++ a.pos) a.kw) Q E s₁) E s) : wpAny M' A (callWith pos f first args keywords) Q E s := by
 unfold callWith
 refine wpAny_bind (wpAny_holding (wpAny_mono h (fun a s₁ h₁ => wpAny_bind (wpAny_standAt ?_)) fun _ _ x => x))
 obtain ⟨k, hk', L⟩ := hk _ h₁.1
 simp only [hst, Bool.true_or]
 refine wpAny_bind (L.here ?_)
 have tail : ∀ {t : Sem Value}, wpAny M' A t Q E s₁ → wpAny M' A (t >>= fun r => holding [r] point >>= fun _ => pure r) Q E s₁ :=
  fun ht => wpAny_bind (wpAny_mono ht (fun r s₂ hr => wpAny_bind (wpAny_holding (wpAny_point (wpAny_pure hr)))) fun _ _ x => x)
 have marked (mk : Value) : wpAny M' A (callMarked mk f (first ++ a.pos) a.kw) Q E s₁ := by unfold callMarked; exact Calls.wpAny_keep h₁.2
 rcases hk' with rfl | rfl | rfl <;> dsimp only <;> first | exact tail (marked _) | exact tail (wpAny_operating h₁.2)
end
theorem Jp {d : D} {ds : List D} (e : d.its [] = some ds) (h : Hh) : d.its h = some ds := by
 cases d <;> first | exact e | (unfold D.its D.der at e; simp at e)
section
variable {X : Cx} {T : Tb} {W : WX} {k kk n c : Nat} {f : Addr} {ks : List Str} {F : Fn} {x : Str} {p sp_ pos apos : Pos} {e : Expr} {kws : List Keyword} {mo : M D} {mk : M (List D)}
theorem rO (C : Cq X T W k) (F0 : Ba X.prog X.w X.K X.mg X.base T kk c f n ks F) (hn : n = ks.length + 2) (hk : kk + 1 ≤ k) (hm : X.mg x = some (.ref (T.cad c))) (so : ao X T W e mo) (sk : vD X T W kws mk) (hg : Gl X x := by rfl) (hdb : (x == ("__debug__" : Str)) = false := by decide)
 (hall : (backToKw pos (keywordEach kws X.env)).all (·.1.isSome) = true := by rfl) (hks : (backToKw pos (keywordEach kws X.env)).filterMap (·.1) = ks := by rfl)
 (hst : starEach [.Starred e sp_] X.env = [(true, eval e X.env)] := by rfl) :
 du X T W (.Call (.Name x p) [.Starred e sp_] kws pos) (Ce ks.length F mo mk) := fun B w σ H fr h Q R pp => WE.mk <| fun pins s I => by
 refine wpAny_Call_Name_kw (ld_glob I hg hm ?_ hdb)
 rw [hst]
 refine Cg rfl (PySem.W.keeps_K F0.made.kp) (Jo hall ?_)
 have fin : ∀ {w2 : Wd} {H2 : Hp} {fr2 : Fr} {h2 : Hh} {y : V} {zs : List V} {d : D} {es : List D}, Rel X.K T B w2 σ H2 fr2 h2 → aA X.K T w2 y d → aa X.K T w2 zs es → ak X.K T B W (vE X.K T B σ) w2 σ (match d.its [] with
  | some ds => if ds.length ≤ big ∧ es.length = ks.length then bH fr2 (F (ie ds es) h2) else .err
  | none => .err) Q →
  ∃ a vs, y = .ref a ∧ (SqT X.K H2 a vs ∨ SqL X.K H2 a vs) ∧ zs.length = ks.length ∧ vs.length ≤ sizeLine ∧ ∀ x dx, H2 x = none → H2 dx = none → dx ≠ x → ∀ p, (upd (upd H2 dx (.own x)) x (.ins (T.cad c) dx [])) p = none →
  spI X.K T c n F (.ref x :: (zs ++ [.ref p])) (upd (upd (upd H2 dx (.own x)) x (.ins (T.cad c) dx [])) p (.tup vs)) (fun v H2 => v = .non ∧ Q (.ref x) H2) (fun c d H' => W c d σ H') := fun {w2 H2 fr2 h2 y zs d es} r2 rd rz p2 => by
  cases ed : d.its [] with
  | none => rw [ed] at p2; exact p2.elim
  | some ds =>
    rw [ed] at p2
    dsimp only at p2
    obtain ⟨a, vs, ey, rs, sq⟩ := iJ (h := h2) r2 (.inl rd) (Jp ed h2)
    by_cases hl : ds.length ≤ big ∧ es.length = ks.length
    · rw [if_pos hl] at p2
      exact ⟨a, vs, ey, sq.symm, pP hn r2 rs rz hl.1 hl.2 p2⟩
    · rw [if_neg hl] at p2
      exact p2.elim
 refine thn ((so B w σ H fr h _ R (ak.bind (VR := vV X.K T B σ) pp fun d fr1 h1 w1 H1 y e1 l1 r1 rd p1 =>
  sk B w1 σ H1 fr1 h1 _ r1 (ak.bind (VR := vA X.K T B σ) p1 fun es fr2 h2 w2 H2 zs e2 l2 r2 rz p2 => fin r2 (rd.mono l2) rz p2))).go pins s I) fun v s1 ⟨y, H1, I1, ry, q⟩ => ?_
 refine thn (q.go pos pins s1 I1) fun ws s2 ⟨zs, H2, I2, rz, a, vs, ey, sq, hz, hb, q2⟩ => ?_
 subst ey
 obtain rfl : v = Value.ref a := ry
 refine StX.star_any I2 sq fun us s3 I3 rv => ⟨I3.kIn, ?_⟩
 rw [hks]
 exact vM F0 (C.room.mono hk) C.takes I3 rv rz hz hb q2
end
end Pk
namespace Pk
open PySem PySem.Spec L2
structure Mi (X : Cx) (T : Tb) (k : Nat) (op : Operator) (mt : Nat → Option Fn) : Prop where
 ex : ∀ c F, mt c = some F → ∃ (kk : Nat) (f : Addr) (fd : FuncData) (ps : List Str), Cls X.K (T.cad c) ∧ Meth X.K (T.cad c) (PySem.dunder op.info.2) f ∧ PySem.W.selfFirst X.K (T.cad c) = true ∧ dB X.prog X.w X.K X.mg X.base T kk f fd ps F ∧ Bn X.K T fd ps 2 [] (aU []) ∧ kk ≤ k
def rA (h : Hh) (x y : D) : Option Nat := match x.ins h, y.ins h with
 | some (c, _), some (c', _) => if c = c' then some c else none
 | _, _ => none
def ym (mt : Nat → Option Fn) (h : Hh) (x y : D) : Option Fn := match rA h x y with
 | some c => mt c
 | none => none
def Mj (mt : Nat → Option Fn) (ma mb : M D) : M D := ma.bind fun x => mb.bind fun y fr h => match ym mt h x y with
 | some F => bH fr (F [x, y] h)
 | none => .err
section
variable {X : Cx} {T : Tb} {W : WX} {k : Nat} {a b : Expr} {ma mb : M D} {pos : Pos} {op : Operator}
theorem Ci {pins : List (Addr × Obj)} {σ : L2.St} {Q : VK} {v : Value} {s : Shared} (h : EP X pins σ Q v s) : PySem.W.CmpBack (EP X pins σ Q) v s := by
 obtain ⟨y, H', I', r, q⟩ := id h
 cases y <;> first | (obtain rfl := (r : v = _); exact h) | (obtain ⟨t, rfl⟩ := r; exact h)
theorem Gh {h : Hh} {x y : D} {c : Nat} (e : rA h x y = some c) : (∃ fs, x.ins h = some (c, fs)) ∧ ∃ gs, y.ins h = some (c, gs) := by
 unfold rA at e
 split at e
 · rename_i c1 fs c2 gs e1 e2
   by_cases hc : c1 = c2
   · rw [if_pos hc] at e
     cases e
     subst hc
     exact ⟨⟨fs, e1⟩, gs, e2⟩
   · rw [if_neg hc] at e
     cases e
 · cases e
theorem Ml {mt : Nat → Option Fn} (C : Cq X T W k) (Mf : Mi X T k op mt) (sa : ao X T W a ma) (sb : ao X T W b mb) : du X T W (.BinOp a op b pos) (Mj mt ma mb) := fun B w σ H fr h Q R pp => WE.mk <| fun pins s I => by
 refine wpAny_BinOp (binT (R := fun x y H2 => ∃ (kk : Nat) (f : Addr) (fd : FuncData) (ps : List Str) (p1 p2 C dx dy : Addr) (fs gs : List (Str × V)) (G : Fn), x = .ref p1 ∧ y = .ref p2 ∧ H2 p1 = some (.ins C dx fs) ∧ H2 p2 = some (.ins C dy gs) ∧ Meth X.K C (PySem.dunder op.info.2) f ∧ PySem.W.selfFirst X.K C = true ∧
  dB X.prog X.w X.K X.mg X.base T kk f fd ps G ∧ Bn X.K T fd ps 2 [] (aU []) ∧ kk ≤ k ∧
  ∀ g gV, KBn X.K fd ps 2 [] g gV → (∀ (w : Wd) (vs zs : List V) (ds es : List D), aa X.K T w vs ds → aa X.K T w zs es → ds.length = 2 → es.length = ([] : List Str).length → aa X.K T w (gV vs zs) (aU [] ds es) ∧ (aU [] ds es).length = ps.length) →
    spF X.K T ps.length G (gV [.ref p1, .ref p2] []) H2 Q (fun c d H' => W c d σ H')) aK aK I (sa B w σ H fr h _ R (ak.bind (VR := vV X.K T B σ) pp fun d fr1 h1 w1 H1 v e1 l1 r1 rd p1 =>
  sb B w1 σ H1 fr1 h1 _ r1 (ak.bind (VR := vV X.K T B σ) p1 fun e fr2 h2 w2 H2 u e2 l2 r2 re p2 => ?_))) fun v u s2 x y H2 I2 rx ry ⟨kk, f, fd, ps, p1, p2, Cl, dx, dy, fs, gs, G, ex, ey, ea, eb, c2, c3, c4, c5, c6, q⟩ => ?_)
 · have p3 : ak X.K T B W (vE X.K T B σ) w2 σ (match ym mt h2 d e with | some F => bH fr2 (F [d, e] h2) | none => .err) Q := p2
   cases ef : ym mt h2 d e with
   | none => rw [ef] at p3; exact p3.elim
   | some G =>
     rw [ef] at p3
     dsimp only at p3
     have : ∃ c, rA h2 d e = some c ∧ mt c = some G := by
      unfold ym at ef
      split at ef
      · rename_i c ec
        exact ⟨c, ec, ef⟩
      · cases ef
     obtain ⟨c, ec, em⟩ := this
     obtain ⟨⟨fs, i1⟩, gs, i2⟩ := Gh ec
     obtain ⟨kk, f, fd, ps, c1, c2, c3, c4, c5, c6⟩ := Mf.ex c G em
     obtain ⟨p1', dx, vs, rfl, eH, rs⟩ := jG r2 (.inl (rd.mono l2)) i1
     obtain ⟨p2', dy, us, rfl, eH2, rs2⟩ := jG r2 (.inl re) i2
     refine ⟨kk, f, fd, ps, p1', p2', T.cad c, dx, dy, _, _, G, rfl, rfl, eH, eH2, c2, c3, c4, c5, c6, fun g gV hb hgD => ?_⟩
     have p4 : ak X.K T B W (vE X.K T B σ) w2 σ (if ([d, e] : List D).length = 2 ∧ ([] : List D).length = 0 then bH fr2 (G (aU [] [d, e] []) h2) else .err) Q := by
      rw [if_pos ⟨rfl, rfl⟩]
      exact p3
     exact (sE (n := 2) (m := 0) (zs := []) (es := []) (ds := [d, e]) hgD r2 (.cons (rd.mono l2) (.cons re .nil)) .nil p4).2.2
 · subst ex ey
   obtain rfl : v = Value.ref p1 := rx
   obtain rfl : u = Value.ref p2 := ry
   obtain ⟨mA, J, _⟩ := ins_get I2.hok ea
   obtain ⟨mB, J', _⟩ := ins_get I2.hok eb
   obtain ⟨od, J, _⟩ := J.look
   obtain ⟨od', J', _⟩ := J'.look
   obtain ⟨m, hF⟩ := I2.fr
   refine PySem.W.binop_K hF I2.ok.mod.kin J J'.type c3 c2.at_ c2.fn (wpAny_mono (Q := EP X pins σ Q) ?_ (fun _ _ z => Ci z) fun _ _ z => z)
   obtain ⟨g, gV, hb, hgD⟩ := c5.ex
   exact vG (us := [.ref p1, .ref p2]) (ws := []) (vs := [.ref p1, .ref p2]) c4.ok (C.room.mono c6) hb C.takes I2 (.cons rfl (.cons rfl .nil)) .nil rfl rfl (q g gV hb hgD)
end
end Pk
namespace PySem
namespace ExS
open PySem.W PySem.Calls PyProof.Rows PySem.HandSPX
abbrev QX (f : Str) (q1 q2 q3 q4 : Pos) : Stmt := .Assign [.Attribute (.Name "self" q1) f q2] (.Name f q3) q4
abbrev sup (e : Expr) (p0 p1 p2 p3 p4 : Pos) : Stmt := .Expr (.Call (.Attribute (.Call (.Name "super" p0) [] [] p1) "__init__" p2) [e] [] p3) p4
structure rB (prog : Program) (K : Frag) (C fI : Addr) (params : Arguments) (body : List Stmt) (scope : Scope) (qual : Str) : Prop where
 cls : ∃ nm q N bs bm sn sub ab col dd k0 k1 k2 k3 k5, K.lookup C = some (excClassObj nm q C N bs bm true sn sub ab col dd k0 k1 k2 k3 k5 "ValueError.__new__") ∧ refsVE bm = true ∧ alongIn K "__init__" bm = some (some (.builtin "ValueError.__init__"))
 sa : findIn K (.ref C) "__setattr__" = some (some (.builtin "object.__setattr__"))
 iC : findIn K (.ref C) "__init__" = some (some (.ref fI))
 tC : typeIn K (.ref fI) = some (.type "function")
 subB : subIn K (.ref C) (.type "ValueError") = some true
 subC : mroIn K C (.ref C) = some true
 opq : nsIn K cStatics "thirdparty.any" = some none
 top : (prog.main.scope.names.lookup ("super" : Str)).isSome = false
 fn : ∃ (oc : Value) (od : Option Addr) (kV doc pm : Value) (an : Option Addr) (cda : Addr) (ct : Value) (osl : Array (Option Value)) (cc : Addr),
  K.lookup fI = some ⟨oc, od, .func (ksFn "__init__" qual params body scope .none kV doc pm an (.ref cda) ct cc), osl⟩ ∧ codeIn K (.ref cda) qual = true ∧
  (∃ (ccl : Value) (cdd : Option Addr) (vs : Array Value) (ccs : Array (Option Value)) (file : Str) (tf : Tok), K.lookup cda = some ⟨ccl, cdd, .fields vs, ccs⟩ ∧ vs[2]? = some (.str file tf) ∧ ((prog.main.file : Str) == file) = true) ∧
  ∃ (cl : Value) (cld : Option Addr) (csl : Array (Option Value)), K.lookup cc = some ⟨cl, cld, .cell (some (.ref C)), csl⟩
section
variable {prog : Program} {w : World} {M : Model} {A : Around} {E : Value → Shared → Prop} {s : Shared}
theorem Gi {t : Sem Value} {Q : List Value → Shared → Prop} (h : wpAny M A t (fun v s => Q [v] s) E s) : wpAny M A (spliced [(false, t)]) Q E s := by
 unfold spliced
 refine wpAny_bind (wpAny_mono h (fun v s' h' => ?_) fun _ _ x => x)
 refine wpAny_bind (wpAny_pure ?_)
 refine wpAny_bind (wpAny_holding ?_)
 exact Calls.spliced_nil (wpAny_pure h')
theorem Jq {h : Heap} {g : Array GenState} {d : Drawn} {t : Nat} {os : OsState} {nm q : Str} {C N : Addr} {bs bm : List Value} {hdct : Bool} {sn : List Str} {sub : List Value} {ab : Bool} {col : Option Bool} {dd : Option Addr} {k0 k1 k2 k3 k5 : Option Value} {u x t0 : Addr} {rest : List Value} {Q : Value → Shared → Prop}
 (hC : h.get? C = some (excClassObj nm q C N bs bm hdct sn sub ab col dd k0 k1 k2 k3 k5 "ValueError.__new__")) (he : h.get? x = some (excO C t0)) (hu : h.get? u = some (kxs_mw "ValueError.__init__" x)) (hz : rest.length ≤ sizeLine)
 (hq : ∀ h' t1, (∀ b o, b ≠ x → h.get? b = some o → h'.get? b = some o) → h'.get? x = some (excO C t1) → Q .none ⟨h', g, d, t, os⟩) :
 wpAny (model prog w) A (call (.ref u) rest) Q E ⟨h, g, d, t, os⟩ := by
 refine wpAny_call (codeAny_of_tree ?_)
 show wpAny _ A.in1 (callAny (.ref u) ⟨rest, []⟩) _ _ _
 simp only [callAny]
 refine wpAny_bind (wpAny_load hu ?_)
 simp only [kxs_mw, show (Value.type "method-wrapper" == Value.type "method" || Value.type "method-wrapper" == Value.type "builtin_function_or_method" || Value.type "method-wrapper" == Value.type "method-wrapper") = true by decide, if_true]
 refine KFB.if_so (by decide) ?_
 refine wpAny_bind (check_bound_init F.excBase_ValueError.toExcCallFacts hC he rfl ?_)
 refine wpAny_bind (wpAny_pure (wpAny_pure ?_))
 refine ⟨plainId_quiet F.excBase_ValueError.init.plain _, codeAny_builtin F.excBase_ValueError.initEntry ?_⟩
 exact exc_init_tree (cls := .ref C) (t0 := t0) (dv := none) (c2 := .none) (c3 := .none) (b4 := .bool false) he hz fun h' k e' _ => hq h' _ k e'
end
theorem Jr {K : Frag} {h : Heap} {b : Addr} (X : K.In h) (hb : h.objs.size ≤ b) : K.lookup b = none := by
 cases e : K.lookup b with
 | none => rfl
 | some o => exact absurd (Heap.lt_size (X _ _ e)) (Nat.not_lt.mpr hb)
theorem zf {K : Frag} {h h' : Heap} {x : Addr} (X : K.In h) (hx : K.lookup x = none) (k : ∀ b o, b ≠ x → h.get? b = some o → h'.get? b = some o) : K.In h' := fun a o e =>
 k a o (fun z => by rw [z, hx] at e; cases e) (X a o e)
section
variable {prog : Program} {w : World} {A : Around} {R : Result → Shared → Prop} {s : Shared} {K : Frag} {C fI : Addr} {params : Arguments} {scope : Scope} {qual : Str} {ex : Expr} {p0 p1 p2 p3 p4 : Pos} {rest : List Stmt} {mg mb : Str → Option Value}
theorem enter (T : rB prog K C fI params (sup ex p0 p1 p2 p3 p4 :: rest) scope qual) {x t0 : Addr} {us : List Value} {binds : List (Str × Value)} (X : K.In s.heap) (hlim : s.heap.NoLimit) (hx : s.heap.get? x = some (excO C t0)) (hnx : K.lookup x = none) (hroom : A.depth < recursionLimit)
 (hG : s.heap.Ns mainGlobals mg) (hg : mg "super" = none) (hB : s.heap.Ns builtinsNs mb) (hb : mb "super" = some (.type "super"))
 (hbind : ∀ (kV doc pm : Value) (an : Option Addr) (cdv ct : Value) (cc : Addr), bindArgs (ksFn "__init__" qual params (sup ex p0 p1 p2 p3 p4 :: rest) scope .none kV doc pm an cdv ct cc) ⟨.ref x :: us, []⟩ = pure binds)
 (hself : binds.reverse.lookup ("self" : Str) = some (.ref x)) (hloc : ∀ y ∈ binds, scope.names.lookup y.1 = some .local)
 (hcell : ∀ y ∈ scope.names, y.2 ≠ .cell) (hp : ∃ ar : Arg, (params.posonlyargs ++ params.args).head? = some ar ∧ ar.arg = "self") (hks : scope.names.lookup ("super" : Str) = some .globalImplicit) (hkc : scope.names.lookup ("__class__" : Str) = some .free) (hka : scope.names.lookup ("self" : Str) = some .local)
 (hco : scope.isCoroutine = false) (hgen : scope.isGenerator = false) (hk : scope.kind = .function)
 (hE : ∀ (cda cc : Addr) (L : Addr) (A' : Around) (h : Heap) (g : Array GenState) (d : Drawn) (t : Nat) (os : OsState) (E' : Value → Shared → Prop) (Q : Value → Shared → Prop), (∀ b o, s.heap.get? b = some o → h.get? b = some o) → h.Ns L (fun y => binds.reverse.lookup y) → (∀ v t', Q v ⟨h, g, d, t', os⟩) → wpAny (model prog w) A' (eval ex (ksEnv qual scope L fI (.ref cda) cc)) Q E' ⟨h, g, d, t, os⟩)
 (hin : ∀ (cda cc L : Addr), interactive (ksEnv qual scope L fI (.ref cda) cc) = false)
 (hev : ∀ (cda cc L : Addr), ∃ pl : Sem Bool, eval (.Call (.Attribute (.Call (.Name "super" p0) [] [] p1) "__init__" p2) [ex] [] p3) (ksEnv qual scope L fI (.ref cda) cc) = (do
  let ov ← attributeBase (.Call (.Name "super" p0) [] [] p1) "__init__" (ksEnv qual scope L fI (.ref cda) cc) (eval (.Call (.Name "super" p0) [] [] p1) (ksEnv qual scope L fI (.ref cda) cc))
  standAt p2.atName
  let (f, first) ← holding [ov] (getMethod ov "__init__" pl)
  callWith p3 f first (backTo p3 (starEach [ex] (ksEnv qual scope L fI (.ref cda) cc))) []))
 (hsw : ∀ (cda cc L : Addr), swapsWith (.Call (.Attribute (.Call (.Name "super" p0) [] [] p1) "__init__" p2) [ex] [] p3) none p4.line (ksEnv qual scope L fI (.ref cda) cc) = pure false)
 (hst : ∀ env : Env, starEach [ex] env = [(false, eval ex env)])
 (hq : ∀ (cda cc : Addr) h' tk t1, (∀ b o, b ≠ x → s.heap.get? b = some o → h'.get? b = some o) → h'.get? x = some (excO C t1) → h'.Ns s.heap.objs.size (fun y => binds.reverse.lookup y) →
  wpAny (model prog w) (A.deeper (ksEnv qual scope s.heap.objs.size fI (.ref cda) cc)) (execs rest (ksEnv qual scope s.heap.objs.size fI (.ref cda) cc)) (fun f s' => R (.ok (.ret (match f with | .ret v => v | _ => .none))) s')
   (fun _ _ => False) { s with heap := h', toks := tk }) : codeAny (model prog w) A (.call (.ref fI) ⟨.ref x :: us, []⟩) R s := by
 obtain ⟨oc, od, kV, doc, pm, an, cda, ct, osl, cc, ho, hcd, ⟨ccl, cdd, vs, ccs, file, tf, hcode, hvs, hfile⟩, cl, cld, csl, hcel⟩ := T.fn
 obtain ⟨nm, q, N, bs, bm, sn, sub, ab, col, dd, k0, k1, k2, k3, k5, hC, hbm, hal⟩ := T.cls
 obtain ⟨ar, hp, har⟩ := hp
 have hcl : clsIn K C = some { name := nm, bases := bs, mro := .ref C :: bm, ns := N, qualname := q, hasDict := true, slotNames := sn, subclasses := sub, abstract := ab, collection := col, hasDel := false } := by unfold clsIn; rw [hC] <;> rfl
 refine ks_codeAny_call_defAt (fd := ksFn "__init__" qual params (sup ex p0 p1 p2 p3 p4 :: rest) scope .none kV doc pm an (.ref cda) ct cc) (body := sup ex p0 p1 p2 p3 p4 :: rest) (binds := binds) hroom (X _ _ ho) rfl hlim (codeRec_of X hcd) rfl (BindsTo.of_eq (hbind kV doc pm an (.ref cda) ct cc)) hcell hloc (fun h₁ hns hk₁ => ?_) hco hgen hk
 obtain ⟨hp0, g, d, t, os⟩ := s
 show wpAt (model prog w) (A.deeper (ksEnv qual scope hp0.objs.size fI (.ref cda) cc)) (.func (sup ex p0 p1 p2 p3 p4 :: rest) (ksEnv qual scope hp0.objs.size fI (.ref cda) cc)) (execs (sup ex p0 p1 p2 p3 p4 :: rest) (ksEnv qual scope hp0.objs.size fI (.ref cda) cc)) _ _ _
 have X₁ : K.In h₁ := X.keeps hk₁
 have hx₁ := hk₁ _ _ hx
 have hC₁ := X₁ _ _ hC
 have hxC : x ≠ C := fun z => by
  rw [z, hC₁] at hx₁
  cases hx₁
 obtain ⟨pl, hev⟩ := hev cda cc hp0.objs.size
 refine ks_wpAt_execs_cons (ks_wpAt_Expr_any (ks_wpAt_MethodCall (pl := pl) ?_ hev) (hin _ _ _) (hsw _ _ _))
 refine ks_wpAt_super_base (fd := ksFn "__init__" qual params (sup ex p0 p1 p2 p3 p4 :: rest) scope .none kV doc pm an (.ref cda) ct cc) hks hkc (by decide) rfl (X₁ _ _ ho) rfl hp rfl (X₁ _ _ hcode) rfl hvs hfile T.top ?_
 refine ks_loadName_global hk hks (Calls.loadGlobal_builtin (hG.keeps hk₁) hg (hB.keeps hk₁) hb ⟨rfl, ?_⟩)
 refine wpAny_loadName_free hk hkc rfl ⟨_, X₁ _ _ hcel, rfl⟩ ?_
 rw [har]
 refine wpAny_loadName_local hk hka hns hself ?_
 refine ks_wpAny_isType_cls hC₁ rfl ⟨rfl, ?_⟩
 refine ks_wpAny_call_super hC₁ rfl hx₁ rfl (fun c e => by cases e) (looks_mroIn X₁ T.subC) (fun h₂ hso k₂ => ?_)
 have X₂ : K.In h₂ := X₁.keeps k₂
 have hx₂ := k₂ _ _ hx₁
 have I₂ : InstAt h₂ x (excO C t0) C none := ⟨hx₂, rfl, rfl, trivial⟩
 refine kxs_getMethod kxs_ValueError hso (looks_opaque X₂ T.opq) (l₀ := .ref C :: bm) ((looks_clsIn X₂ hcl).andThen .now) (by simp [List.dropWhile_cons]) X₂ hal (I₂.type.andThen (looks_subIn X₂ T.subB)) hxC rfl ?_
 have k₃ : ∀ b o, h₂.get? b = some o → (h₂.push (kxs_mw "ValueError.__init__" x)).get? b = some o := fun b o e => Heap.get?_push_of_some _ e
 have hu : (h₂.push (kxs_mw "ValueError.__init__" x)).get? h₂.objs.size = some (kxs_mw "ValueError.__init__" x) := Heap.get?_push_at rfl rfl
 refine kxs_callWith (i := "ValueError.__init__") (x := x) (by rw [hst]; rfl) ?_
 rw [hst]
 refine evalArgs_plain ?_
 show wpAny _ _ (spliced [(false, eval ex (ksEnv qual scope hp0.objs.size fI (.ref cda) cc))]) _ _ _
 refine Gi (hE cda cc hp0.objs.size _ _ _ _ _ _ _ _ (fun b o e => k₃ _ _ (k₂ _ _ (hk₁ _ _ e))) ((hns.keeps k₂).keeps k₃) fun v t' => ⟨hu, ?_⟩)
 refine Jq (k₃ _ _ (k₂ _ _ hC₁)) (k₃ _ _ hx₂) hu (by show 1 ≤ sizeLine; decide) fun h₄ t1 k₄ hx₄ => ?_
 have hxL : hp0.objs.size ≠ x := Nat.ne_of_gt (Heap.lt_size hx)
 refine wpAt_of_wpAny (wpAny_mono (hq cda cc h₄ _ t1 (fun b o hb e => k₄ b o hb (k₃ _ _ (k₂ _ _ (hk₁ _ _ e)))) hx₄ ?_) (fun _ _ z => z) fun _ _ z => z.elim)
 obtain ⟨o, es, ep, eo, r⟩ := (hns.keeps k₂).keeps k₃
 exact ⟨o, es, ep, k₄ _ _ hxL eo, r⟩
end
abbrev Asg : Type := Str × Pos × Pos × Pos × Pos
abbrev asgs (gs : List Asg) : List Stmt := gs.map fun g => QX g.1 g.2.1 g.2.2.1 g.2.2.2.1 g.2.2.2.2
theorem look_put {α : Type} (f g : Str) (y : α) (fs : List (Str × α)) : ((f, y) :: fs).lookup g = if g = f then some y else fs.lookup g := by
 by_cases h : g = f
 · subst h
   simp [Ww]
 · have e : (g == f) = false := by simpa using h
   rw [if_neg h]
   simp [Ww, e]
theorem sH {α : Type} {y : Str} : ∀ {l : List (Str × α)} {v : α}, l.lookup y = some v → y ∈ l.map (·.1)
 | [], v, h => by cases h
 | (f, z) :: l, v, h => by
   rw [look_put] at h
   by_cases e : y = f
   · rw [e]; exact WK ..
   · rw [if_neg e] at h
     exact WQ _ (sH h)
theorem zg {α : Type} {y : Str} : ∀ (l r : List (Str × α)), (l ++ r).lookup y = match l.lookup y with | some v => some v | none => r.lookup y
 | [], r => rfl
 | (f, z) :: l, r => by
   rw [List.cons_append, look_put, look_put]
   by_cases e : y = f
   · rw [if_pos e, if_pos e]
   · rw [if_neg e, if_neg e]; exact zg l r
theorem look_none {α : Type} {y : Str} {l : List (Str × α)} (h : y ∉ l.map (·.1)) : l.lookup y = none := by
 cases e : l.lookup y with
 | none => rfl
 | some v => exact absurd (sH e) h
theorem look_rev {α : Type} {y : Str} : ∀ {l : List (Str × α)}, (l.map (·.1)).Nodup → l.reverse.lookup y = l.lookup y
 | [], _ => rfl
 | (f, z) :: l, h => by
   rw [WP, List.nodup_cons] at h
   have e1 : ((f, z) :: l).lookup y = if y = f then some z else l.lookup y := look_put f y z l
   have e2 : [(f, z)].lookup y = if y = f then some z else none := look_put f y z []
   rw [List.reverse_cons, zg, look_rev h.2, e1, e2]
   by_cases e : y = f
   · subst e
     rw [look_none h.1, if_pos rfl]
   · rw [if_neg e, if_neg e]
     cases l.lookup y <;> rfl
structure StX (h0 h : Heap) (x C : Addr) (done : List (Str × Value)) : Prop where
 keep : ∀ b o, b ≠ x → h0.get? b = some o → h.get? b = some o
 big : h0.objs.size ≤ h.objs.size
 at_ : ∃ (t1 : Addr) (dv : Option Addr), h.get? x = some { cls := .ref C, dict := dv, data := .fields #[.ref t1, .none, .none, .none, .bool false, .none] } ∧
  ((done = [] ∧ dv = none) ∨ ∃ (dx : Addr) (m : Str → Option Value), dv = some dx ∧ h0.objs.size ≤ dx ∧ dx ≠ x ∧ h.Ns1 dx m ∧ ∀ y, m y = done.lookup y)
section
variable {prog : Program} {w : World} {A : Around} {E : Value → Shared → Prop} {K : Frag} {C fI L x : Addr} {scope : Scope} {qual : Str} {cda cc : Addr} {m : Str → Option Value} {h0 : Heap} {g : Array GenState} {d : Drawn} {os : OsState} {Q : Flow → Shared → Prop} {cd : ClassData}
theorem stores (X0 : K.In h0) (hnx : K.lookup x = none) (hLx : L ≠ x) (hL0 : L < h0.objs.size) (hcl : clsIn K C = some cd) (hm : refsVE cd.mro = true) (hh : cd.hasDict = true) (sa : findIn K (.ref C) "__setattr__" = some (some (.builtin "object.__setattr__"))) (hk : scope.kind = .function) (hself : m "self" = some (.ref x)) (ls : scope.names.lookup ("self" : Str) = some .local)
 (hsw : ∀ g : Asg, swapsWith (.Name g.1 g.2.2.2.1) (some (.Attribute (.Name "self" g.2.1) g.1 g.2.2.1)) g.2.2.2.2.line (ksEnv qual scope L fI (.ref cda) cc) = pure false) (hns0 : h0.Ns L m) :
 ∀ (gs : List Asg) (vs : List Value) (done : List (Str × Value)) (h : Heap) (t : Nat), (∀ g ∈ gs, (g.1 == ("__debug__" : Str)) = false ∧ scope.names.lookup g.1 = some .local ∧ findIn K (.ref C) g.1 = some none) → gs.length = vs.length → (∀ (i : Nat) (f : Str) (v : Value), (gs.map (·.1))[i]? = some f → vs[i]? = some v → m f = some v) → done.length + gs.length ≤ 500 → StX h0 h x C done →
   (∀ h' t', StX h0 h' x C (((gs.map (·.1)).zip vs).reverse ++ done) → Q .next ⟨h', g, d, t', os⟩) → wpAny (model prog w) A (execs (asgs gs) (ksEnv qual scope L fI (.ref cda) cc)) Q E ⟨h, g, d, t, os⟩
 | [], vs, done, h, t, _, hl, _, _, S, hq => by
   cases vs with
   | nil => exact wpAny_execs_nil (hq h t S)
   | cons v vs => cases hl
 | a :: gs, vs, done, h, t, hg, hl, hv, hlen, S, hq => by
   cases vs with
   | nil => cases hl
   | cons v vs =>
     obtain ⟨n1, n2, n3⟩ := hg a WK
     have hva : m a.1 = some v := hv 0 a.1 v rfl rfl
     obtain ⟨t1, dv, hx, hd⟩ := S.at_
     have X : K.In h := zf X0 hnx S.keep
     have hns : h.Ns L m := by
      obtain ⟨o, es, ep, eo, r⟩ := hns0
      exact ⟨o, es, ep, S.keep _ _ hLx eo, r⟩
     have go : ∀ h' t', StX h0 h' x C ((a.1, v) :: done) → wpAny (model prog w) A (execs (asgs gs) (ksEnv qual scope L fI (.ref cda) cc)) Q E ⟨h', g, d, t', os⟩ := fun h' t' S' => by
      refine stores X0 hnx hLx hL0 hcl hm hh sa hk hself ls hsw hns0 gs vs ((a.1, v) :: done) h' t' (fun b hb => hg b (WQ _ hb)) (Nat.succ.inj hl) (fun i f u e1 e2 => hv (i + 1) f u e1 e2) (by simp only [W0] at hlen ⊢; omega) S' fun h2 t2 S2 => hq h2 t2 ?_
      have e : ((List.map (·.1) (a :: gs)).zip (v :: vs)).reverse ++ done = ((gs.map (·.1)).zip vs).reverse ++ (a.1, v) :: done := by
       simp
      rw [e]
      exact S2
     refine wpAny_execs_cons (plainObj_wpAny_Assign_Attribute ?_ (hsw a))
     refine wpAny_Name (wpAny_loadName_local hk (show (ksEnv qual scope L fI (.ref cda) cc).kindOf a.1 = some .local from n2) hns hva ?_) n1
     refine wpAny_Name (wpAny_loadName_local hk (show (ksEnv qual scope L fI (.ref cda) cc).kindOf "self" = some .local from ls) hns hself ?_) (by decide)
     rcases hd with ⟨rfl, rfl⟩ | ⟨dx, m0, rfl, dn, dne, hn1, hmm⟩
     · refine set_plain X (ox := { cls := .ref C, dict := none, data := .fields #[.ref t1, .none, .none, .none, .bool false, .none] }) (od := none) ⟨hx, rfl, rfl, trivial⟩ sa ?_
       refine exc_osa X hx hcl hm hh n3 (fun h₃ tk₃ dx k₃ dn dne hx₃ hn₃ => ?_)
       have zz : dx < h₃.objs.size := by
        obtain ⟨o, es, ep, eo, _⟩ := hn₃
        exact Heap.lt_size eo
       refine go h₃ _ ⟨fun b o hb e => k₃ b o hb (S.keep b o hb e), Nat.le_of_lt (Nat.lt_of_le_of_lt (Nat.le_trans S.big dn) zz), t1, some dx, hx₃, .inr ⟨dx, _, rfl, Nat.le_trans S.big dn, dne, hn₃, fun y => ?_⟩⟩
       · rw [look_put]
         rfl
     · obtain ⟨oD, es, ep, hoD, r⟩ := id hn1
       have hw : Within m0 (done.map (·.1)) := fun y hy => by
        rw [hmm y] at hy
        cases e : done.lookup y with
        | none => exact absurd e hy
        | some u => exact sH e
       refine set_plain X (ox := { cls := .ref C, dict := some dx, data := .fields #[.ref t1, .none, .none, .none, .bool false, .none] }) (od := some oD) ⟨hx, rfl, rfl, hoD⟩ sa ?_
       refine OEX.osa_old X hx hn1 hw (by rw [WR]; omega) hcl hm hh n3 (fun h₃ tk₃ k₃ hn₃ => ?_)
       have zz : dx < h₃.objs.size := by
        obtain ⟨o, es, ep, eo, _⟩ := hn₃
        exact Heap.lt_size eo
       refine go h₃ _ ⟨fun b o hb e => k₃ b o (fun z => ?_) (S.keep b o hb e), Nat.le_of_lt (Nat.lt_of_le_of_lt dn zz), t1, some dx, k₃ _ _ (Ne.symm dne) hx, .inr ⟨dx, _, rfl, dn, dne, hn₃, fun y => ?_⟩⟩
       · rw [z] at e
         exact absurd (Heap.lt_size e) (Nat.not_lt.mpr dn)
       · rw [look_put, hmm y]
end
structure ExSt (K : Frag) (params : Arguments) (scope : Scope) (qual : Str) (ex : Expr) (p0 p1 p2 p3 p4 : Pos) (gs : List Asg) (Ok : L2.Hp → List L2.V → Prop) : Prop where
 bind : ∀ (kV doc pm : Value) (an : Option Addr) (cdv ct : Value) (cc x : Addr) (us : List Value), us.length = gs.length → bindArgs (ksFn "__init__" qual params (sup ex p0 p1 p2 p3 p4 :: asgs gs) scope .none kV doc pm an cdv ct cc) ⟨.ref x :: us, []⟩ = pure ((("self" : Str) :: gs.map (·.1)).zip (.ref x :: us))
 nd : (("self" : Str) :: gs.map (·.1)).Nodup
 len : gs.length ≤ 100
 loc : ∀ y ∈ ("self" : Str) :: gs.map (·.1), scope.names.lookup y = some .local
 dbg : ∀ g ∈ gs, (g.1 == ("__debug__" : Str)) = false
 cell : ∀ y ∈ scope.names, y.2 ≠ .cell
 hp : ∃ ar : Arg, (params.posonlyargs ++ params.args).head? = some ar ∧ ar.arg = "self"
 ks : scope.names.lookup ("super" : Str) = some .globalImplicit
 kc : scope.names.lookup ("__class__" : Str) = some .free
 co : scope.isCoroutine = false
 gen : scope.isGenerator = false
 k : scope.kind = .function
 hE : ∀ (H0 : L2.Hp) (vs : List L2.V) (us : List Value), Ok H0 vs → L2.Vals vs us → vs.length = gs.length → ∀ (cda cc L x fI : Addr) (prog : Program) (w : World) (A' : Around) (h0 h : Heap) (g : Array GenState) (d : Drawn) (t : Nat) (os : OsState) (E' : Value → Shared → Prop) (Q : Value → Shared → Prop), K.In h → L2.HOk prog w H0 h0 → (∀ b o, h0.get? b = some o → h.get? b = some o) →
  h.Ns L (fun y => ((("self" : Str) :: gs.map (·.1)).zip (Value.ref x :: us)).reverse.lookup y) → (∀ v t', Q v ⟨h, g, d, t', os⟩) → wpAny (model prog w) A' (eval ex (ksEnv qual scope L fI (.ref cda) cc)) Q E' ⟨h, g, d, t, os⟩
 hin : ∀ (fI cda cc L : Addr), interactive (ksEnv qual scope L fI (.ref cda) cc) = false
 hev : ∀ (fI cda cc L : Addr), ∃ pl : Sem Bool, eval (.Call (.Attribute (.Call (.Name "super" p0) [] [] p1) "__init__" p2) [ex] [] p3) (ksEnv qual scope L fI (.ref cda) cc) = (do
     let ov ← attributeBase (.Call (.Name "super" p0) [] [] p1) "__init__" (ksEnv qual scope L fI (.ref cda) cc) (eval (.Call (.Name "super" p0) [] [] p1) (ksEnv qual scope L fI (.ref cda) cc))
     standAt p2.atName
     let (f, first) ← holding [ov] (getMethod ov "__init__" pl)
     callWith p3 f first (backTo p3 (starEach [ex] (ksEnv qual scope L fI (.ref cda) cc))) [])
 hsw : ∀ (fI cda cc L : Addr), swapsWith (.Call (.Attribute (.Call (.Name "super" p0) [] [] p1) "__init__" p2) [ex] [] p3) none p4.line (ksEnv qual scope L fI (.ref cda) cc) = pure false
 hst : ∀ env : Env, starEach [ex] env = [(false, eval ex env)]
 hsw2 : ∀ (fI cda cc L : Addr) (g : Asg), swapsWith (.Name g.1 g.2.2.2.1) (some (.Attribute (.Name "self" g.2.1) g.1 g.2.2.1)) g.2.2.2.2.line (ksEnv qual scope L fI (.ref cda) cc) = pure false
theorem zip_get {α : Type} : ∀ {ps : List Str} {us : List α} {i : Nat} {f : Str} {v : α}, ps.Nodup → ps[i]? = some f → us[i]? = some v → (ps.zip us).lookup f = some v
 | [], _, i, f, v, _, e, _ => by simp at e
 | _ :: _, [], i, f, v, _, _, e => by simp at e
 | p :: ps, u :: us, 0, f, v, _, e1, e2 => by
   simp at e1 e2
   subst e1 e2
   simp [Ww]
 | p :: ps, u :: us, i + 1, f, v, nd, e1, e2 => by
   rw [List.nodup_cons] at nd
   have e1' : ps[i]? = some f := by simpa using e1
   have e2' : us[i]? = some v := by simpa using e2
   rw [List.zip_cons_cons, look_put, if_neg (fun z => nd.1 (by rw [← z]; exact WL e1'))]
   exact zip_get nd.2 e1' e2'
theorem zip_keys {α : Type} {ps : List Str} {us : List α} (hl : ps.length = us.length) : (ps.zip us).map (·.1) = ps := by
 rw [List.map_fst_zip]
 omega
section
variable {prog : Program} {w : World} {A : Around} {R : Result → Shared → Prop} {s : Shared} {K : Frag} {C fI : Addr} {params : Arguments} {scope : Scope} {qual : Str} {ex : Expr} {p0 p1 p2 p3 p4 : Pos} {gs : List Asg} {Ok : L2.Hp → List L2.V → Prop} {H0 : L2.Hp} {h00 : Heap} {mg mb : Str → Option Value}
theorem Gj (T : rB prog K C fI params (sup ex p0 p1 p2 p3 p4 :: asgs gs) scope qual) (S : ExSt K params scope qual ex p0 p1 p2 p3 p4 gs Ok) (hno : ∀ g ∈ gs, findIn K (.ref C) g.1 = some none) {x t0 : Addr} {vs : List L2.V} {us : List Value} (X : K.In s.heap) (hlim : s.heap.NoLimit) (hx : s.heap.get? x = some (excO C t0)) (hnx : K.lookup x = none) (hroom : A.depth < recursionLimit)
 (hG : s.heap.Ns mainGlobals mg) (hg : mg "super" = none) (hB : s.heap.Ns builtinsNs mb) (hb : mb "super" = some (.type "super")) (hH : L2.HOk prog w H0 h00) (kp0 : ∀ b o, h00.get? b = some o → s.heap.get? b = some o) (ok : Ok H0 vs) (rv : L2.Vals vs us) (hl : vs.length = gs.length)
 (hq : ∀ h' tk, StX s.heap h' x C ((gs.map (·.1)).zip us).reverse → R (.ok (.ret .none)) { s with heap := h', toks := tk }) : codeAny (model prog w) A (.call (.ref fI) ⟨.ref x :: us, []⟩) R s := by
 have hlu : us.length = gs.length := by rw [← rv.length]; exact hl
 have keys : (((("self" : Str) :: gs.map (·.1)).zip (Value.ref x :: us)).map (·.1)) = ("self" : Str) :: gs.map (·.1) := zip_keys (by simp [hlu])
 have hrev : ∀ y, ((("self" : Str) :: gs.map (·.1)).zip (Value.ref x :: us)).reverse.lookup y = ((("self" : Str) :: gs.map (·.1)).zip (Value.ref x :: us)).lookup y := fun y => look_rev (by rw [keys]; exact S.nd)
 have hself : ((("self" : Str) :: gs.map (·.1)).zip (Value.ref x :: us)).reverse.lookup ("self" : Str) = some (.ref x) := by
  rw [hrev]
  exact zip_get S.nd (i := 0) rfl rfl
 refine enter T (mg := mg) (mb := mb) (binds := (("self" : Str) :: gs.map (·.1)).zip (.ref x :: us)) X hlim hx hnx hroom hG hg hB hb (fun kV doc pm an cdv ct cc => S.bind kV doc pm an cdv ct cc x us hlu) hself (fun y hy => S.loc y.1 (List.of_mem_zip hy).1) S.cell S.hp S.ks S.kc (S.loc _ WK) S.co S.gen S.k
  (fun cda cc L A' h g d t os E' Q hk hn hq' => S.hE H0 vs us ok rv hl cda cc L x fI prog w A' h00 h g d t os E' Q (X.keeps hk) hH (fun b o e => hk b o (kp0 b o e)) hn hq') (S.hin fI) (S.hev fI) (S.hsw fI) S.hst fun cda cc h' tk t1 k hx' hns => ?_
 obtain ⟨nm, q, N, bs, bm, sn, sub, ab, col, dd, k0, k1, k2, k3, k5, hC, hbm, hal⟩ := T.cls
 have hcl : clsIn K C = some { name := nm, bases := bs, mro := .ref C :: bm, ns := N, qualname := q, hasDict := true, slotNames := sn, subclasses := sub, abstract := ab, collection := col, hasDel := false } := by unfold clsIn; rw [hC] <;> rfl
 have X' : K.In h' := zf X hnx k
 have hsz : s.heap.objs.size < h'.objs.size := by
  obtain ⟨o, es, ep, eo, _⟩ := hns
  exact Heap.lt_size eo
 obtain ⟨hp0, g, d, t, os⟩ := s
 refine stores (C := C) (x := x) (L := hp0.objs.size) (h0 := h') (m := fun y => ((("self" : Str) :: gs.map (·.1)).zip (Value.ref x :: us)).reverse.lookup y) X' hnx (Nat.ne_of_gt (Heap.lt_size hx)) hsz hcl (show refsVE (.ref C :: bm) = true from hbm) rfl T.sa S.k hself (S.loc _ WK) (S.hsw2 fI cda cc _) hns gs us [] h' tk
  (fun b hb' => ⟨S.dbg b hb', S.loc b.1 (WQ _ (List.mem_map_of_mem hb')), hno b hb'⟩) hlu.symm (fun i f v e1 e2 => by
   show Ww f _ = _
   rw [hrev]
   exact zip_get S.nd (i := i + 1) (by simpa using e1) (by simpa using e2)) (by have := S.len; simp only [List.length_nil]; omega) ⟨fun b o hb' e => e, Nat.le_refl _, t1, none, hx', .inl ⟨rfl, rfl⟩⟩ fun h2 t2 S2 => ?_
 rw [WN] at S2
 refine hq h2 t2 ⟨fun b o hb' e => S2.keep b o hb' (k b o hb' e), Nat.le_trans (Nat.le_of_lt hsz) S2.big, ?_⟩
 obtain ⟨t3, dv, e1, e2⟩ := S2.at_
 refine ⟨t3, dv, e1, ?_⟩
 rcases e2 with e2 | ⟨dx, m, q1, q2, q3, q4, q5⟩
 · exact .inl e2
 · exact .inr ⟨dx, m, q1, Nat.le_trans (Nat.le_of_lt hsz) q2, q3, q4, q5⟩
end
end ExS
end PySem
namespace PySem
namespace ExS
open PySem.W PySem.Calls PyProof.Rows PySem.HandSPX
structure MadeX (h h' : Heap) (e C : Addr) (fs : List (Str × Value)) : Prop where
 keep : ∀ b o, h.get? b = some o → h'.get? b = some o
 new : h.objs.size ≤ e
 at_ : ∃ (t1 : Addr) (dv : Option Addr), h'.get? e = some { cls := .ref C, dict := dv, data := .fields #[.ref t1, .none, .none, .none, .bool false, .none] } ∧
  ((fs = [] ∧ dv = none) ∨ ∃ (dx : Addr) (m : Str → Option Value), dv = some dx ∧ h.objs.size ≤ dx ∧ dx ≠ e ∧ h'.Ns1 dx m ∧ ∀ y, m y = fs.lookup y)
section
variable {prog : Program} {w : World} {A : Around} {R : Result → Shared → Prop} {s : Shared} {K : Frag} {C fI : Addr} {params : Arguments} {scope : Scope} {qual : Str} {ex : Expr} {p0 p1 p2 p3 p4 : Pos} {gs : List Asg} {Ok : L2.Hp → List L2.V → Prop} {H0 : L2.Hp} {mg mb : Str → Option Value}
theorem small {l : List Value} {n : Nat} (e : l.length = n) (h : n ≤ 100) : l.length ≤ sizeLine := by
 have : (100 : Nat) ≤ sizeLine := by decide
 omega
theorem made (T : rB prog K C fI params (sup ex p0 p1 p2 p3 p4 :: asgs gs) scope qual) (S : ExSt K params scope qual ex p0 p1 p2 p3 p4 gs Ok) (hno : ∀ g ∈ gs, findIn K (.ref C) g.1 = some none) {vs : List L2.V} {us : List Value} (X : K.In s.heap) (hlim : s.heap.NoLimit) (hroom : A.depth + 1 < recursionLimit)
 (hG : s.heap.Ns mainGlobals mg) (hg : mg "super" = none) (hB : s.heap.Ns builtinsNs mb) (hb : mb "super" = some (.type "super")) (hH : L2.HOk prog w H0 s.heap) (ok : Ok H0 vs) (rv : L2.Vals vs us) (hl : vs.length = gs.length)
 (hq : ∀ h' tk e, MadeX s.heap h' e C ((gs.map (·.1)).zip us).reverse → R (.ok (.ret (.ref e))) { s with heap := h', toks := tk }) : codeAny (model prog w) A (.call (.ref C) ⟨us, []⟩) R s := by
 have hlu : us.length = gs.length := by rw [← rv.length]; exact hl
 obtain ⟨nm, q, N, bs, bm, sn, sub, ab, col, dd, k0, k1, k2, k3, k5, hC, hbm, hal⟩ := T.cls
 obtain ⟨hp, g, dr, tk, os⟩ := s
 have k : ∀ b o, hp.get? b = some o → ((hp.push (kdv_tup us)).push (excO C hp.objs.size)).get? b = some o := fun b o e => Heap.get?_push_of_some _ (Heap.get?_push_of_some _ e)
 have hget : ((hp.push (kdv_tup us)).push (excO C hp.objs.size)).get? (hp.objs.size + 1) = some (excO C hp.objs.size) := by heap_get
 have hnx : K.lookup (hp.objs.size + 1) = none := Jr X (Nat.le_succ _)
 refine call_own F.excBase_ValueError (fun X => refsVE_contains X bm hbm) (X _ _ hC) (looks_findIn X T.iC) (fun self => bind_fn X self T.tC) (small hlu S.len) ?_
 refine Gj (s := ⟨(hp.push (kdv_tup us)).push (excO C hp.objs.size), g, dr, tk, os⟩) T S hno (X.keeps k) (hlim.keeps k) hget hnx ?_ (hG.keeps k) hg (hB.keeps k) hb hH k ok rv hl fun h' tk' S' => ?_
 · show A.depth + 1 < recursionLimit
   exact hroom
 · have old : ∀ b o, hp.get? b = some o → h'.get? b = some o := fun b o e => S'.keep b o (Nat.ne_of_lt (Nat.lt_succ_of_lt (Heap.lt_size e))) (k b o e)
   refine ⟨rfl, hq h' tk' (hp.objs.size + 1) ⟨old, Nat.le_succ _, ?_⟩⟩
   obtain ⟨t1, dv, e1, e2⟩ := S'.at_
   refine ⟨t1, dv, e1, ?_⟩
   rcases e2 with ⟨e2, e3⟩ | ⟨dx, m, q1, q2, q3, q4, q5⟩
   · exact .inl ⟨e2, e3⟩
   · refine .inr ⟨dx, m, q1, ?_, q3, q4, q5⟩
     have z : hp.objs.size + 1 + 1 ≤ dx := by
      first
       | (simpa only [Heap.size_push] using q2)
       | exact q2
       | (have q := q2; rw [Heap.size_push, Heap.size_push] at q; exact q)
     exact Nat.le_trans (Nat.le_trans (Nat.le_succ _) (Nat.le_succ _)) z
end
end ExS
end PySem
namespace Pk
open PySem PySem.Spec PyProof.Rows L2
open PySem.ExS (rB ExSt sup asgs Asg)
structure ExC (P : Program) (K : PySem.W.Frag) (T : Tb) (c : Nat) (Ok : Hp → List V → Prop) : Prop where
 tx : ∃ (fI : Addr) (params : Arguments) (scope : Scope) (qual : Str) (ex : Expr) (p0 p1 p2 p3 p4 : Pos) (gs : List Asg),
  rB P K (T.cad c) fI params (sup ex p0 p1 p2 p3 p4 :: asgs gs) scope qual ∧ ExSt K params scope qual ex p0 p1 p2 p3 p4 gs Ok ∧ (∀ g ∈ gs, PySem.W.findIn K (.ref (T.cad c)) g.1 = some none) ∧ T.fld c = gs.map (·.1) ∧ (T.fld c).Nodup
 kC : PySem.W.keepIn K (.ref (T.cad c)) = true
 exC : PySem.W.subIn K (.ref (T.cad c)) (.type "BaseException") = some true
 tyC : PySem.W.typeIn K (.ref (T.cad c)) = some (.type "type")
section
variable {X : Cx} {T : Tb} {W : WX} {k c : Nat} {x : Str} {a : Expr} {es : List Expr} {ma : M (List D)} {p pos pos2 : Pos} {Ok : Hp → List V → Prop}
theorem zj {f : Str} : ∀ {ns : List Str} {vs : List V} {us : List Value}, Vals vs us → RelO ((ns.zip vs).lookup f) ((ns.zip us).lookup f)
 | [], _, _, _ => trivial
 | _ :: _, _, _, .nil => trivial
 | n :: ns, v :: vs, u :: us, .cons rv r => by
   rw [List.zip_cons_cons, List.zip_cons_cons, PySem.ExS.look_put, PySem.ExS.look_put]
   by_cases e : f = n
   · rw [if_pos e, if_pos e]
     exact rv
   · rw [if_neg e, if_neg e]
     exact zj r
def Qg (T : Tb) (c : Nat) (Ok : Hp → List V → Prop) (ta : TA) : L2.St → Hp → XK → Prop := fun σ H Q => ta σ H fun vs H1 => Ok H1 vs ∧ vs.length = (T.fld c).length ∧
 (T.fld c = [] → Q (.ref (T.cad c)) none H1) ∧ (∀ d, H1 d = none → Q (.ref (T.cad c)) (some d) (upd H1 d (.xd ((T.fld c).zip vs))))
theorem mk_end {pins : List (Addr × Obj)} {σ : L2.St} {H1 : Hp} {Q : XK} {s1 : Shared} {vs : List V} {us : List Value} (E : ExC X.prog X.K T c Ok) (hr : Room k X.A) (I1 : Inv X pins σ H1 s1) (hsg : X.mg "super" = none) (rv : Vals vs us) (ok : Ok H1 vs) (hl : vs.length = (T.fld c).length)
 (q1 : T.fld c = [] → Q (.ref (T.cad c)) none H1) (q2 : ∀ d, H1 d = none → Q (.ref (T.cad c)) (some d) (upd H1 d (.xd ((T.fld c).zip vs)))) :
 wpAny (model X.prog X.w) X.A (call (.ref (T.cad c)) us) (MkP X pins σ Q) X.xe s1 := by
 obtain ⟨fI, params, scope, qual, ex, p0, p1, p2, p3, p4, gs, TX, S, hno, hf, nd⟩ := E.tx
 have hl' : vs.length = gs.length := by rw [hl, hf, WR]
 have hlu : us.length = gs.length := by rw [← rv.length]; exact hl'
 have hlim := I1.nolimit
 have X1 := I1.kIn
 obtain ⟨mb, hB, hmb⟩ := I1.mod.blt
 have hB' : s1.heap.Ns builtinsNs mb := hB.keeps I1.bk
 have hG' : s1.heap.Ns mainGlobals X.mg := I1.mod.glob.keeps I1.bk
 have hsu : mb "super" = some (.type "super") := (hmb "super" (by decide)).trans (by first | rfl | decide | with_unfolding_all rfl)
 have hok := I1.hok
 obtain ⟨hp, g, dr, tk, os⟩ := s1
 refine wpAny_call (PySem.ExS.made TX S hno X1 hlim (by have := hr.dp; omega) hG' hsg hB' hsu hok ok rv hl' fun h' tk' e M => ?_)
 show MkP X pins σ Q (.ref e) ⟨h', g, dr, tk', os⟩
 obtain ⟨t1, dv, he, hd⟩ := M.at_
 obtain ⟨G', g1, g2⟩ := restrict h' fun b => decide (b ≠ e)
 have gk : ∀ b, b ≠ e → G'.get? b = h'.get? b := fun b hb => g1 b (decide_eq_true hb)
 have ge : G'.get? e = none := g2 e (by simp)
 have old : ∀ b o, hp.get? b = some o → G'.get? b = some o := fun b o q => (gk b (Nat.ne_of_lt (Nat.lt_of_lt_of_le (Heap.lt_size q) M.new))).trans (M.keep b o q)
 have back : ∀ b o, G'.get? b = some o → h'.get? b = some o := fun b o q => by
  by_cases hb : b = e
  · rw [hb, ge] at q; cases q
  · exact (gk b hb).symm.trans q
 have kz : (gs.map (·.1)).zip us = [] ↔ gs = [] := by
  cases gs with
  | nil => simp
  | cons a l => cases us with
    | nil => cases hlu
    | cons u l => simp
 rcases hd with ⟨hz, rfl⟩ | ⟨dx, m, rfl, dn, dne, hns, hm⟩
 · have hg0 : gs = [] := kz.mp (by simpa using hz)
   have hf0 : T.fld c = [] := by rw [hf, hg0]; rfl
   exact ⟨e, _, _, ⟨G', g, dr, tk', os⟩, H1, _, none, rfl, I1.kept (t' := tk') old, back, ge, he, ⟨rfl, rfl⟩, rfl, rfl, I1.hok.fresh M.new, rfl, I1.bare, raises_own E.exC E.tyC, q1 hf0⟩
 · have ob : ObjOk X.prog X.w (upd H1 dx (.xd ((T.fld c).zip vs))) G' dx (.xd ((T.fld c).zip vs)) :=
    ⟨m, hns.at (fun o q => (gk dx dne).trans q), fun f => by
      rw [hm f, ← hf, PySem.ExS.look_rev (by rw [PySem.ExS.zip_keys (by rw [hf, WR, hlu])]; exact nd)]
      exact zj rv⟩
   have J : Inv X pins σ (upd H1 dx (.xd ((T.fld c).zip vs))) ⟨G', g, dr, tk', os⟩ := I1.laid (t' := tk') old dn ob
   exact ⟨e, _, _, ⟨G', g, dr, tk', os⟩, _, _, some dx, rfl, J, back, ge, he, ⟨rfl, rfl⟩, rfl, rfl, by rw [upd_ne (Ne.symm dne)]; exact I1.hok.fresh M.new, rfl, I1.bare, raises_own E.exC E.tyC, q2 dx (I1.hok.fresh dn)⟩
end
end Pk
namespace PySem
namespace ExS
open PySem.W PySem.Calls PyProof.Rows PySem.HandSPX
theorem clsX_ok {K : Frag} {C : Addr} (h : Pk.clsX K C = true) : ∃ nm q N bs bm sn sub ab col dd k0 k1 k2 k3 k5, K.lookup C = some (excClassObj nm q C N bs bm true sn sub ab col dd k0 k1 k2 k3 k5 "ValueError.__new__") ∧ refsVE bm = true ∧ alongIn K "__init__" bm = some (some (.builtin "ValueError.__init__")) := by
 unfold Pk.clsX at h
 split at h
 · rename_i dd cd sl ho
   split at h
   · rename_i C' bm k0 k1 k2 k3 n k5 hm hs
     obtain ⟨c1, h⟩ := He.ba h
     obtain ⟨c2, h⟩ := He.ba h
     obtain ⟨c3, h⟩ := He.ba h
     obtain ⟨c4, h⟩ := He.ba h
     obtain ⟨c5, c6⟩ := He.ba h
     obtain ⟨nm, bs, mro, ns, qn, hd, sn, sub, ab, col, del⟩ := cd
     have e1 : C' = C := beq_iff_eq.mp c1
     have e2 : n = "ValueError.__new__" := beq_iff_eq.mp c2
     have e3 : del = false := by simpa using c3
     have e4 : hd = true := c4
     have em : mro = .ref C' :: bm := hm
     subst e1 e2 e3 e4 em
     have hsl : sl = #[k0, k1, k2, k3, some (.builtin "ValueError.__new__"), k5] := by
      obtain ⟨l⟩ := sl
      have z : l = [k0, k1, k2, k3, some (.builtin "ValueError.__new__"), k5] := hs
      rw [z]
     subst hsl
     exact ⟨nm, qn, ns, bs, bm, sn, sub, ab, col, dd, k0, k1, k2, k3, k5, ho, c5, He.eqO_ok c6⟩
   · cases h
 · cases h
theorem iniX_ok {K : Frag} {C f : Addr} {file name qual : Str} {params : Arguments} {body : List Stmt} {scope : Scope} (h : Pk.iniX K C f file = true) (e : Pk.fnWa K f = some (name, qual, params, FuncBody.stmts body, scope, mainGlobals, [(("__class__" : Str), (0 : Addr))], builtinsNs)) :
 ∃ (oc : Value) (od : Option Addr) (kV doc pm : Value) (an : Option Addr) (cda : Addr) (ct : Value) (osl : Array (Option Value)) (cc : Addr),
 K.lookup f = some ⟨oc, od, .func (ksFn name qual params body scope .none kV doc pm an (.ref cda) ct cc), osl⟩ ∧ codeIn K (.ref cda) qual = true ∧
 (∃ (ccl : Value) (cdd : Option Addr) (vs : Array Value) (ccs : Array (Option Value)) (fi : Str) (tf : Tok), K.lookup cda = some ⟨ccl, cdd, .fields vs, ccs⟩ ∧ vs[2]? = some (.str fi tf) ∧ fi = file) ∧
 ∃ (cl : Value) (cld : Option Addr) (csl : Array (Option Value)), K.lookup cc = some ⟨cl, cld, .cell (some (.ref C)), csl⟩ := by
 unfold Pk.iniX at h
 unfold Pk.fnWa at e
 cases q : K.lookup f with
 | none => rw [q] at h; cases h
 | some o =>
   obtain ⟨oc, od, dt, osl⟩ := o
   rw [q] at h e
   cases dt with
   | func fd =>
     obtain ⟨n1, n2, n3, n4, n5, n6, n7, n8, n9, n10, n11, n12, n13, n14, n15⟩ := fd
     have e2 : (some (n1, n2, n3, n4, n5, n6, n7.map (fun q => (q.1, 0)), n15) : He.FnW) = some (name, qual, params, FuncBody.stmts body, scope, mainGlobals, [(("__class__" : Str), (0 : Addr))], builtinsNs) := e
     simp only [Option.some.injEq, Prod.mk.injEq] at e2
     obtain ⟨h1, h2, h3, h4, h5, h6, h7, h8⟩ := e2
     subst h1 h2 h3 h4 h5 h6 h8
     dsimp only at h
     split at h
     · rename_i nm cc cda
       obtain ⟨c1, h⟩ := He.ba h
       obtain ⟨c2, c3⟩ := He.ba h
       have en : nm = "__class__" := by
        simp only [WP, List.map_nil, List.cons.injEq, Prod.mk.injEq, and_true] at h7
        exact h7
       subst en
       refine ⟨oc, od, n9, n10, n11, n12, cda, n14, osl, cc, rfl, c2, ?_, ?_⟩
       · split at c3
         · rename_i ccl cdd vs ccs e3
           split at c3
           · rename_i fi tf e4
             exact ⟨ccl, cdd, vs, ccs, fi, tf, e3, e4, of_decide_eq_true c3⟩
           · cases c3
         · cases c3
       · split at c1
         · rename_i cl cld a csl e3
           have ea : a = C := of_decide_eq_true c1
           subst ea
           exact ⟨cl, cld, csl, e3⟩
         · cases c1
     · cases h
   | _ => cases h
end ExS
end PySem
namespace Pk
open PySem PySem.Spec PyProof.Rows L2
open PySem.ExS (rB ExSt sup asgs Asg)
theorem Mp {P : Program} {K : PySem.W.Frag} {T : Tb} {c : Nat} {x file : Str} {fs : List Str} {d : PD} {ex : Expr} {p0 p1 p2 p3 p4 : Pos} {gs : List Asg} {Ok : Hp → List V → Prop} {cn : Nat → Str} (own : (Fx.own x file fs).ok cn K = true) (hx : T.cad c = He.ga K x) (ha : d.adr K = He.ma K (He.ga K x) "__init__")
 (wr : fnWa K (d.adr K) = d.val) (hc : d.clo = true) (hn : d.name = "__init__") (hb : d.body = sup ex p0 p1 p2 p3 p4 :: asgs gs) (S : ExSt K d.params d.scope d.qual ex p0 p1 p2 p3 p4 gs Ok) (hfs : fs = gs.map (·.1)) (hT : T.fld c = fs) (nd : fs.Nodup) (hfile : ((P.main.file : Str) == file) = true)
 (htop : (P.main.scope.names.lookup ("super" : Str)).isSome = false) : ExC P K T c Ok := by
 obtain ⟨o1, q⟩ := He.ba (show Ly K (He.ga K x) (He.ma K (He.ga K x) "__init__") file fs = true from own)
 obtain ⟨o2, q⟩ := He.ba q
 obtain ⟨o3, q⟩ := He.ba q
 obtain ⟨o4, q⟩ := He.ba q
 obtain ⟨o5, q⟩ := He.ba q
 obtain ⟨o6, q⟩ := He.ba q
 obtain ⟨o7, q⟩ := He.ba q
 obtain ⟨o8, q⟩ := He.ba q
 obtain ⟨o9, q⟩ := He.ba q
 obtain ⟨o10, q⟩ := He.ba q
 obtain ⟨o11, q⟩ := He.ba q
 obtain ⟨o12, q⟩ := He.ba q
 have wr2 : fnWa K (He.ma K (He.ga K x) "__init__") = some (("__init__" : Str), d.qual, d.params, FuncBody.stmts (sup ex p0 p1 p2 p3 p4 :: asgs gs), d.scope, mainGlobals, [(("__class__" : Str), (0 : Addr))], builtinsNs) := by
  rw [← ha, wr]
  unfold PD.val
  rw [hc, hn, hb]
  rfl
 obtain ⟨oc, od, kV, doc, pm, an, cda, ct, osl, cc, e1, e2, ⟨ccl, cdd, vs, ccs, fi, tf, e3, e4, e5⟩, e6⟩ := PySem.ExS.iniX_ok o8 wr2
 subst e5
 rw [← hx] at o1 o2 o3 o4 o5 o6 o9 o10 o11 o12 e1 e6
 refine ⟨⟨_, d.params, d.scope, d.qual, ex, p0, p1, p2, p3, p4, gs, ⟨PySem.ExS.clsX_ok o1, He.eqO_ok o2, He.eqO_ok o3, of_decide_eq_true o4, of_decide_eq_true o5, of_decide_eq_true o6, He.eqO_ok o7, htop, ⟨oc, od, kV, doc, pm, an, cda, ct, osl, cc, e1, e2, ⟨ccl, cdd, vs, ccs, fi, tf, e3, e4, hfile⟩, e6⟩⟩, S, ?_, by rw [hT, hfs], by rw [hT]; exact nd⟩, o10, of_decide_eq_true o11, of_decide_eq_true o12⟩
 intro g hg
 have z := List.all_eq_true.mp o9 g.1 (by rw [hfs]; exact List.mem_map_of_mem hg)
 exact He.eqO_ok z
section
variable {params : Arguments} {scope : Scope} {qual : Str}
theorem Mq {z : Str} {j : Nat} {pos : Pos} {env : Env} {prog : Program} {w : World} {A' : Around} {h : Heap} {g : Array GenState} {d : Drawn} {t : Nat} {os : OsState} {E' : Value → Shared → Prop} {Q : Value → Shared → Prop} (hq : ∀ v t', Q v ⟨h, g, d, t', os⟩) :
 wpAny (model prog w) A' (eval (.Constant (.str z) j pos) env) Q E' ⟨h, g, d, t, os⟩ := wpAny_Constant_str (hq _ _)
end
section
variable {X : Cx} {T : Tb} {W : WX} {k c n : Nat} {x : Str} {a : Expr} {es : List Expr} {ma : M (List D)} {p pos pos2 : Pos} {Ok : Hp → List V → Prop} {chk : List D → Bool}
def QZ (c n : Nat) (chk : List D → Bool) (ma : M (List D)) : M Fl := ma.bind fun ds fr h => if ds.length = n ∧ chk ds = true then .exc ⟨c, ds⟩ fr h else .err
theorem DQ {B : Bs} {w1 : Wd} {σ : L2.St} {H1 : Hp} {fr1 : Fr} {h1 : Hh} {D : Ends} {vs : List V} {ds : List Pk.D} (hn : (T.fld c).length = n) (hok : chk ds = true → Ok H1 vs) (r1 : Rel X.K T B w1 σ H1 fr1 h1) (rs : aa X.K T w1 vs ds)
 (p1 : aP X.K T B W w1 (if ds.length = n ∧ chk ds = true then .exc ⟨c, ds⟩ fr1 h1 else .err) D) : Ok H1 vs ∧ vs.length = (T.fld c).length ∧ (T.fld c = [] → W (.ref (T.cad c)) none σ H1) ∧ (∀ d, H1 d = none → W (.ref (T.cad c)) (some d) σ (upd H1 d (.xd ((T.fld c).zip vs)))) := by
 by_cases hl : ds.length = n ∧ chk ds = true
 · rw [if_pos hl] at p1
   have e0 : vs.length = (T.fld c).length := rs.length.trans (hl.1.trans hn.symm)
   refine ⟨hok hl.2, e0, fun hf => p1 w1 σ H1 _ _ (Wd.le_refl _) r1 ⟨rfl, .inl ⟨?_, rfl⟩⟩, fun d nd => p1 (w1.add d (.xd ((T.fld c).zip vs))) σ _ _ _ (Wd.le_add (r1.nP nd).1) (r1.laid nd) ⟨rfl, .inr ⟨d, vs, rfl, by show upd w1.F d _ d = _; rw [upd_same], rs.mono (Wd.le_add (r1.nP nd).1)⟩⟩⟩
   rw [hf] at hn
   have z : ds.length = 0 := hl.1.trans hn.symm
   exact List.length_eq_zero_iff.mp z
 · rw [if_neg hl] at p1
   exact p1.elim
theorem Ou (E : ExC X.prog X.K T c Ok) (hr : Room k X.A) (hsg : X.mg "super" = none) (hm : X.mg x = some (.ref (T.cad c))) (hg : Gl X x := by rfl) (hdb : (x == ("__debug__" : Str)) = false := by decide) :
 PMk X (.Call (.Name x p) [] [] pos) (Qg T c Ok tNil) := by
 intro pins s σ H Q I h
 refine wpAny_Call_Name_kw (ld_glob I hg hm ?_ hdb)
 obtain ⟨ok, hl, q1, q2⟩ := h
 exact PySem.W.callWith_K0 I.kIn E.kC (mk_end E hr I hsg .nil ok hl q1 q2)
theorem Gk (C : Cq X T W k) (E : ExC X.prog X.K T c Ok) (hn : (T.fld c).length = 0) (ok : ∀ H, Ok H []) (hsg : X.mg "super" = none) (hm : X.mg x = some (.ref (T.cad c))) (hg : Gl X x := by rfl) (hdb : (x == ("__debug__" : Str)) = false := by decide) :
 gQ X T W (.Raise (some (.Call (.Name x p) [] [] pos)) none pos2) (fun fr h => .exc ⟨c, []⟩ fr h) := fun B w σ H fr h D R pp =>
 jc (ps_raise C.calm C.takes (Ou E C.room hsg hm hg hdb)) (DQ (Ok := Ok) (chk := fun _ => true) (vs := []) (ds := []) (n := 0) hn (fun _ => ok _) R .nil pp)
end
end Pk
namespace Pk
open PySem PySem.Spec L2
def zm {α β : Type} (P : Wd → L2.St → Prop) (run : L2.St → Hp → (β → Hp → Prop) → Prop) (K : PySem.W.Frag) (T : Tb) (W : WX) (VR : bG β α) (m : M α) : Prop :=
 ∀ (B : Bs) (w : Wd) (σ : L2.St) (H : Hp) (fr : Fr) (h : Hh) (Q : β → Hp → Prop), P w σ → Rel K T B w σ H fr h → ak K T B W (VR K T B σ) w σ (m fr h) Q → run σ H Q
def Uu (P : Wd → L2.St → Prop) : Prop := ∀ w w' σ, w.le w' → P w σ → P w' σ
abbrev VH (P : Wd → L2.St → Prop) (X : Cx) (T : Tb) (W : WX) (e : Expr) (m : M D) : Prop := zm P (WE X e) X.K T W vE m
abbrev VJ (P : Wd → L2.St → Prop) (X : Cx) (T : Tb) (W : WX) (e : Expr) (m : M D) : Prop := zm P (WE X e) X.K T W vV m
abbrev Uv (P : Wd → L2.St → Prop) (X : Cx) (T : Tb) (W : WX) (e : Expr) (m : M Bool) : Prop := zm P (WT X e) X.K T W vB m
abbrev VL (P : Wd → L2.St → Prop) (X : Cx) (T : Tb) (W : WX) (e : Expr) (m : M Bool) : Prop := zm P (WW X e) X.K T W vB m
abbrev VM (P : Wd → L2.St → Prop) (X : Cx) (T : Tb) (W : WX) (es : List Expr) (m : M (List D)) : Prop := zm P (WA X es) X.K T W vA m
section
variable {P : Wd → L2.St → Prop} {X : Cx} {T : Tb} {W : WX} {a b c e : Expr} {es rest : List Expr} {m ma mb : M D} {n ta tb tc : M Bool} {ms : List (M D)} {pos : Pos}
end
def jh (P : Wd → L2.St → Prop) (K : PySem.W.Frag) (T : Tb) (B : Bs) (W : WX) (w : Wd) (r : R Fl) (D : Ends) : Prop :=
 match r with
 | .ok .nx fr h => ∀ w' σ' H', w.le w' → P w' σ' → Rel K T B w' σ' H' fr h → D.nx σ' H'
 | r => aP K T B W w r D
def VN (P : Wd → L2.St → Prop) (X : Cx) (T : Tb) (W : WX) (st : Stmt) (m : M Fl) : Prop := ∀ (B : Bs) (w : Wd) (σ : L2.St) (H : Hp) (fr : Fr) (h : Hh) (D : Ends), P w σ → Rel X.K T B w σ H fr h → jh P X.K T B W w (m fr h) D → WS X st D σ H
def Cj (P : Wd → L2.St → Prop) (X : Cx) (T : Tb) (W : WX) (sts : List Stmt) (m : M Fl) : Prop := ∀ (B : Bs) (w : Wd) (σ : L2.St) (H : Hp) (fr : Fr) (h : Hh) (D : Ends), P w σ → Rel X.K T B w σ H fr h → jh P X.K T B W w (m fr h) D → Af X sts D σ H
section
variable {P : Wd → L2.St → Prop} {K : PySem.W.Frag} {T : Tb} {B : Bs} {W : WX} {w w' : Wd} {σ : L2.St} {H : Hp}
theorem jh.of {r : R Fl} {D : Ends} (p : aP K T B W w r D) : jh P K T B W w r D := by
 cases r with
 | ok f fr h =>
   cases f with
   | nx => exact fun w' σ' H' l _ r => p w' σ' H' l r
   | _ => exact p
 | exc e fr h => exact p
 | err => exact p
theorem jh.le {r : R Fl} {D : Ends} (x : w.le w') (p : jh P K T B W w r D) : jh P K T B W w' r D := by
 cases r with
 | ok f fr h =>
   cases f with
   | nx => exact fun w2 σ2 H2 y => p w2 σ2 H2 (Wd.le_trans x y)
   | brk => exact aP.le x (show aP K T B W w (.ok .brk fr h) D from p)
   | ct => exact aP.le x (show aP K T B W w (.ok .ct fr h) D from p)
   | rt d => exact aP.le x (show aP K T B W w (.ok (.rt d) fr h) D from p)
 | exc e fr h => exact aP.le (D := D) (r := .exc e fr h) x p
 | err => exact p
theorem jh.bind {α β : Type} {VR : Wd → Hp → Fr → β → α → Prop} {m : M α} {f : α → M Fl} {fr : Fr} {h : Hh} {D : Ends} {Q : β → Hp → Prop} (p : jh P K T B W w (m.bind f fr h) D)
 (k : ∀ d fr1 h1 w1 H1 v, m fr h = .ok d fr1 h1 → w.le w1 → Rel K T B w1 σ H1 fr1 h1 → VR w1 H1 fr1 v d → jh P K T B W w1 (f d fr1 h1) D → Q v H1) : ak K T B W VR w σ (m fr h) Q := by
 cases e : m fr h with
 | ok d fr1 h1 =>
   rw [M.bind_ok e] at p
   exact fun w1 H1 v x r z => k d fr1 h1 w1 H1 v e x r z (p.le x)
 | exc y fr1 h1 =>
   rw [M.bind_exc e] at p
   exact fun w1 H1 c dd x r z => p w1 σ H1 c dd x r z
 | err =>
   rw [M.bind_err e] at p
   exact p.elim
end
section
variable {P : Wd → L2.St → Prop} {X : Cx} {T : Tb} {W : WX} {k : Nat} {pos pos' p2 : Pos} {e a b c : Expr} {st : Stmt} {sts as bs : List Stmt} {m : M D} {s n : M Fl} {t : M Bool}
end
def PX (K : PySem.W.Frag) (T : Tb) (i : Nat) (a : Addr) (x : aO) (cls : Value) (dd : Option Addr) : Wd → L2.St → Prop := fun w σ => σ[i]? = some (some (.ref a)) ∧ rY K T w x cls dd
theorem rY.mono {K : PySem.W.Frag} {T : Tb} {w w' : Wd} {x : aO} {cls : Value} {dd : Option Addr} (l : w.le w') (h : rY K T w x cls dd) : rY K T w' x cls dd :=
 ⟨h.1, h.2.imp id fun ⟨d, vs, e1, e2, e3⟩ => ⟨d, vs, e1, l.1 _ _ e2, e3.mono l⟩⟩
section
variable {K : PySem.W.Frag} {T : Tb} {i j : Nat} {a : Addr} {x : aO} {cls : Value} {dd : Option Addr}
theorem Mr (h : j ≠ i := by decide) : ∀ w σ v, PX K T i a x cls dd w σ → PX K T i a x cls dd w (σ.set j v) := fun w σ v h' => ⟨by rw [Wy h]; exact h'.1, h'.2⟩
end
structure Su (X : Cx) (T : Tb) (i : Nat) (a : Addr) (oe : Obj) (cls : Value) (dd : Option Addr) (pn : List (Addr × Obj)) (y : aO) : Prop where
 hz : Zc cls dd oe
 hf : ∃ vs, oe.data = .fields vs
theorem Su.st {X : Cx} {T : Tb} {i j : Nat} {a : Addr} {oe : Obj} {cls : Value} {dd : Option Addr} {pn : List (Addr × Obj)} {y : aO} (_ : Su X T i a oe cls dd pn y) (h : j ≠ i := by decide) : ∀ w σ v, PX X.K T i a y cls dd w σ → PX X.K T i a y cls dd w (σ.set j v) := Mr h
structure Uw (K : PySem.W.Frag) (T : Tb) (tab : Tg → Tg → Option Bool) : Prop where
 kit : ∀ t u b, tab t u = some b → PySem.W.kitOne K (t.v T) (u.v T) = some b
 exc : ∀ c u b, tab (.o c) u = some b → L2.ExcC K (T.cad c)
def Qh (tab : Tg → Tg → Option Bool) (c : Nat) (d : D) : Option Bool := match d with
 | .tup l => match kY l with
   | some (u :: us) => jR tab (.o c) (u :: us)
   | _ => none
 | d => match d.ctag with
   | some u => tab (.o c) u
   | none => none
def Ux (tab : Tg → Tg → Option Bool) (c : Nat) (mb : M D) : M D := mb.bind fun d => M.opt ((Qh tab c d).map .bl)
def Q3 (H : Hp) (dd : Option Addr) : Prop := dd = none ∨ ∃ d0 fs, dd = some d0 ∧ H d0 = some (.xd fs)
def Uy (K : PySem.W.Frag) (C a : Addr) (dd : Option Addr) : List V → Hp → VK → Prop := fun xs H Q => ∃ (y : V) (b : Bool), xs = [.ref a, y] ∧ L2.ExcC K C ∧ Q3 H dd ∧
 ((∃ cv, ClsV y cv ∧ PySem.W.kitOne K (.ref C) cv = some b) ∨ ∃ tp cs us, y = .ref tp ∧ L2.SqT K H tp cs ∧ Paired ClsV cs us ∧ PySem.W.kitAny K (.ref C) us = some b) ∧ Q (.bl b) H
section
variable {X : Cx} {T : Tb} {W : WX} {k i : Nat} {a : Addr} {oe : Obj} {cls : Value} {dd : Option Addr} {x : aO} {pn : List (Addr × Obj)} {tab : Tg → Tg → Option Bool} {b : Expr} {mb : M D} {n : Str} {np pf pos : Pos}
def Q4 (j : Nat) (x : aO) : M D := fun fr h => match x.fs[j]? with
 | some d => .ok d fr h
 | none => .err
structure VP (K : PySem.W.Frag) (T : Tb) (f : Str) (ix : Nat → Option Nat) : Prop where
 at_ : ∀ c j, ix c = some j → (T.fld c)[j]? = some f ∧ (T.fld c).Nodup ∧ XfC K (T.cad c) ∧ PySem.W.findIn K (.ref (T.cad c)) f = some none
def V1 (ix : Nat → Option Nat) (x : aO) : M D := match ix x.c with
 | some j => Q4 j x
 | none => fun _ _ => .err
end
def Ms (i : Nat) (r : R Fl) : R Fl := match r with
 | .ok .nx fr h => .ok .nx (fr.set i none) h
 | .ok .brk fr h => .ok .brk (fr.set i none) h
 | .ok .ct fr h => .ok .ct (fr.set i none) h
 | r => r
def Sw (i : Nat) (cond : Nat → Option Bool) (mb : M Fl) (ms : aO → M Fl) : M Fl := fun fr h => match mb fr h with
 | .exc x fr1 h1 => match cond x.c with
   | some true => if i < fr1.length then Ms i (ms x (fr1.set i none) h1) else .err
   | some false => .exc x fr1 h1
   | none => .err
 | r => r
def Sy (cond : Nat → Option Bool) (mb : M Fl) (ms : aO → M Fl) : M Fl := fun fr h => match mb fr h with
 | .exc x fr1 h1 => match cond x.c with
   | some true => ms x fr1 h1
   | some false => .exc x fr1 h1
   | none => .err
 | r => r
section
variable {X : Cx} {T : Tb} {W : WX} {k : Nat} {x n : Str} {c : Value} {cond : Nat → Option Bool} {body suite : List Stmt} {b₀ : Stmt} {np pos pos' : Pos} {mb : M Fl} {ms : aO → M Fl}
end
end Pk
namespace PySem
namespace OwO
open PySem.W PySem.Calls PyProof.Rows
section
variable {prog : Program} {w : World} {A : Around} {E : Value → Shared → Prop} {s : Shared} {K : Frag} {x C L f : Addr} {h₀ : Heap} {m : Str → Option Value} {ox : Obj} {od : Option Obj} {t : String} {b : Value} {op : Operator} {Q : Value → Shared → Prop}
def Uz (Q : Option Value → Shared → Prop) (v : Value) (s : Shared) : Prop := v ≠ .notImplemented ∧ Q (some v) s
end
section
variable {prog : Program} {w : World} {A : Around} {E : Value → Shared → Prop} {s : Shared} {x C dx : Addr}
end
end OwO
end PySem
namespace Pk
open PySem PySem.Spec L2
structure UG (X : Cx) (T : Tb) (k : Nat) (mt : Nat → Option Fn) : Prop where
 ex : ∀ c F, mt c = some F → ∃ (kk : Nat) (f : Addr) (fd : FuncData) (ps : List Str), Cls X.K (T.cad c) ∧ Meth X.K (T.cad c) (PySem.dunder "mul") f ∧ PySem.W.selfFirst X.K (T.cad c) = true ∧ dB X.prog X.w X.K X.mg X.base T kk f fd ps F ∧ Bn X.K T fd ps 2 [] (aU []) ∧ kk ≤ k ∧
  ∃ g, PySem.W.findIn X.K (.ref (T.cad c)) (PySem.dunderR "mul") = some (some (.ref g))
structure SJ (X : Cx) (T : Tb) (k : Nat) (mt : Nat → Option Fn) : Prop where
 ex : ∀ c F, mt c = some F → ∃ (kk : Nat) (f : Addr) (fd : FuncData) (ps : List Str), Cls X.K (T.cad c) ∧ Meth X.K (T.cad c) (PySem.dunderR "mul") f ∧ PySem.W.selfFirst X.K (T.cad c) = true ∧ dB X.prog X.w X.K X.mg X.base T kk f fd ps F ∧ Bn X.K T fd ps 2 [] (aU []) ∧ kk ≤ k ∧
  (∃ g, PySem.W.findIn X.K (.ref (T.cad c)) (PySem.dunder "mul") = some (some (.ref g))) ∧ PySem.W.subIn X.K (.ref (T.cad c)) (.type "int") = some false ∧ PySem.W.subIn X.K (.ref (T.cad c)) (.type "bool") = some false
def D.bty (h : Hh) (d : D) : Option String := match d.tag h with
 | some (.b t) => some t
 | _ => none
def SM (mt : Nat → Option Fn) (ma mb : M D) : M D := ma.bind fun x => mb.bind fun y fr h => match fnOf mt h x, y.bty h with
 | some F, some _ => bH fr (F [x, y] h)
 | _, _ => .err
def D.smp : D → Bool
 | .non => true
 | .bl _ => true
 | .int _ => true
 | _ => false
def SN (mt : Nat → Option Fn) (ma mb : M D) : M D := ma.bind fun x => mb.bind fun y fr h => match fnOf mt h y, x.smp with
 | some F, true => bH fr (F [y, x] h)
 | _, _ => .err
section
variable {X : Cx} {T : Tb} {W : WX} {k : Nat} {a b : Expr} {ma mb : M D} {pos : Pos}
end
end Pk
namespace Pk
open PySem PySem.Spec L2
def Qi (l : List ((Tg × Tg) × Bool)) : Tg → Tg → Option Bool := fun t u => Ww (t, u) l
inductive Ck (K : PySem.W.Frag) (T : Tb) : List ((Tg × Tg) × Bool) → Prop where
 | nil : Ck K T []
 | cons {c : Nat} {u : Tg} {b : Bool} {l : List ((Tg × Tg) × Bool)} (q : PySem.W.kitOne K (.ref (T.cad c)) (u.v T) = some b) (i : L2.ExcC K (T.cad c)) (r : Ck K T l) : Ck K T (((.o c, u), b) :: l)
end Pk
namespace Pk
open PySem PySem.Spec L2
def vP (mt : Nat → Option Fn) (o : D) (as : List D) : M D := fun fr h => match fnOf mt h o with
 | some F => match F (o :: as) h with
   | .ok d _ h => .ok d fr h
   | _ => .err
 | none => .err
def HQ (mt : Nat → Option Fn) (o : D) (as : List D) : M D := fun fr h => match fnOf mt h o with
 | some F => bH fr (F (o :: as) h)
 | none => .err
section
variable {X : Cx} {T : Tb} {W : WX} {k kk j n : Nat} {f C : Addr} {fd : FuncData} {ps ks : List Str} {F : Fn} {m : Str} {pos pf : Pos} {a b : Expr} {ma mb : M D}
structure OwnRun (X : Cx) (T : Tb) (k n : Nat) (m : Str) (v : V) (H : Hp) (vs : List V) (Q : VK) (E : XK) : Prop where
 ex : ∃ (kk : Nat) (f : Addr) (fd : FuncData) (ps : List Str) (a C dx : Addr) (fs : List (Str × V)) (G : Fn), v = .ref a ∧ H a = some (.ins C dx fs) ∧ Cls X.K C ∧ Meth X.K C m f ∧ dB X.prog X.w X.K X.mg X.base T kk f fd ps G ∧ kk ≤ k ∧
  ∃ g gV, KBn X.K fd ps (n + 1) [] g gV ∧ spF X.K T ps.length G (gV (.ref a :: vs) []) H Q E
def Mu (d : D) : M D := fun fr h => match d with
 | .int i => if 0 ≤ i ∧ i < 2 ^ 60 then .ok (.int i) fr h else .err
 | _ => .err
def SQ (mt : Nat → Option Fn) (ma : M D) : M D := ma.bind fun o => (vP mt o []).bind Mu
def S8 (mt : Nat → Option Fn) (ma mb : M D) : M D := ma.bind fun o => mb.bind fun i => HQ mt o [i]
def UJ (X : Cx) (T : Tb) (W : WX) (VR2 : bG V D) (op : CmpOp) (g : D → D → M Bool) : Prop :=
 ∀ B w σ H fr h x y d e Q, Rel X.K T B w σ H fr h → aA X.K T w x d → VR2 X.K T B σ w H fr y e → ak X.K T B W (vB X.K T B σ) w σ (g d e fr h) Q → rM X (compareOp op) x y H (fun z H' => ∃ c, z = .bl c ∧ Q c H')
def UL {α : Type} (g : D → D → M α) (ma mb : M D) : M α := ma.bind fun x => mb.bind fun y => g x y
def Mv (d : D) : M Bool := M.opt d.tb
def V2 (mt : Nat → Option Fn) (c : Bool → Bool) (x o : D) : M Bool := (vP mt o [x]).bind fun d => (Mv d).bind fun b => M.ret (c b)
end
end Pk
namespace PySem
namespace OwE
open PySem.W PySem.Calls PyProof.Rows
section
variable {prog : Program} {w : World} {M : Model} {A : Around} {E : Value → Shared → Prop} {s : Shared} {K : Frag} {x C f : Addr} {ox : Obj} {od : Option Obj} {b tb : Value}
end
end OwE
end PySem
namespace Pk
open PySem PySem.Spec L2
def V3 (K : PySem.W.Frag) (C : Addr) : Bool := He.eqO (PySem.W.findIn K (.ref C) "__ne__") (some (some (.builtin "object.__ne__"))) && (decide (PySem.W.mroIn K C (.type "object") = some true) && (nA.all (fun t => PySem.W.notFirst K C (.type t)) && nA.all fun t => decide (PySem.W.subIn K (.ref C) (.type t) = some false)))
structure Q5 (K : PySem.W.Frag) (C : Addr) : Prop where
 ne : PySem.W.findIn K (.ref C) "__ne__" = some (some (.builtin "object.__ne__"))
 ob : PySem.W.mroIn K C (.type "object") = some true
 nf : ∀ t ∈ nA, PySem.W.notFirst K C (.type t) = true
 nb : ∀ t ∈ nA, PySem.W.subIn K (.ref C) (.type t) = some false
structure V4 (K : PySem.W.Frag) (T : Tb) (mt : Nat → Option Fn) : Prop where
 ex : ∀ c F, mt c = some F → Q5 K (T.cad c)
def Q6 (mt : Nat → Option Fn) (c : Bool → Bool) (x y : D) : M Bool := fun fr h => if (y.bty h).isSome || (rA h x y).isSome then ((vP mt x [y]).bind fun d => (Mv d).bind fun b => M.ret (c b)) fr h else .err
section
variable {X : Cx} {T : Tb} {W : WX} {k j : Nat}
end
end Pk
namespace Pk
open PySem PySem.Spec L2
def uE (K : PySem.W.Frag) (C : Addr) : Bool := PySem.W.readsIn K C (.type "type") && He.eqO (PySem.W.specialIn K (.ref C) "__getattribute__") (some (some (.builtin "type.__getattribute__")))
theorem DR {K : PySem.W.Frag} {C : Addr} (h : uE K C = true) : ClX.CRead K C (.type "type") := by
 obtain ⟨c1, c2⟩ := He.ba h
 exact ⟨c1, He.eqO_ok c2⟩
def HR (K : PySem.W.Frag) (C : Addr) (f : Str) : Addr := match PySem.W.findCls K (.ref C) (.type "type") f with
 | some (.val (.ref a)) => a
 | _ => 0
def Cm (K : PySem.W.Frag) (C : Addr) (f : Str) (vs : List He.Dv) : Bool := uE K C && ((match PySem.W.findCls K (.ref C) (.type "type") f with
 | some (.val (.ref a)) => decide (a = HR K C f)
 | _ => false) && Ca K (HR K C f) vs)
structure Cp (X : Cx) (T : Tb) (c : Nat) (f : Str) (d : D) : Prop where
 ex : ∃ (u : Value) (v : V), ClX.CRead X.K (T.cad c) (.type "type") ∧ ClX.CVal X.K (T.cad c) (.type "type") f v u ∧ aA X.K T ⟨fun _ => none, []⟩ v d
theorem Jt {X : Cx} {T : Tb} {c : Nat} {f : Str} {vs : List He.Dv} {ds : List D} (h : Cm X.K (T.cad c) f vs = true) (r : aa X.K T ⟨fun _ => none, []⟩ (vs.map (He.Dv.v X.K)) ds) : Cp X T c f (.tup ds) := by
 obtain ⟨c1, h⟩ := He.ba h
 obtain ⟨c2, c3⟩ := He.ba h
 refine ⟨.ref (HR X.K (T.cad c) f), .ref (HR X.K (T.cad c) f), DR c1, ⟨?_, rfl⟩, .tup (Jj c3 _) r⟩
 split at c2
 · rename_i a e
   rw [e, of_decide_eq_true c2]
 · cases c2
section
variable {X : Cx} {T : Tb} {W : WX} {k c : Nat} {x f : Str} {p pos : Pos} {d : D}
theorem vQ (F : Cp X T c f d) (hm : X.mg x = some (.ref (T.cad c))) (hg : Gl X x := by rfl) (hd : (x == ("__debug__" : Str)) = false := by decide) (hb : attributeBase (.Name x p) f X.env (eval (.Name x p) X.env) = eval (.Name x p) X.env := by rfl) : ao X T W (.Attribute (.Name x p) f pos) (mC d) := fun B w σ H fr h Q r q => by
 obtain ⟨u, v, c1, c2, rd⟩ := F.ex
 exact bB (ClX.pe_cval (pe_glob (v := .ref (T.cad c)) hg hm rfl hd) hb) ⟨_, _, v, u, rfl, c1, c2, q w H _ (Wd.le_refl _) r (rd.mono (Wd.le_bot w))⟩
end
end Pk
namespace L
open PySem PySem.Spec L2 Pk
def cn : Nat → Str
 | 0 => "World"
 | 1 => "Unlike"
 | _ => "?"
def Ov : List D → Bool := fun _ => true
def top (i : Nat) : Stmt := PySem.Challenge.pw_countrestarts_k16_subsets.main.body.getD i (.Pass ⟨0, 0, 0, 0⟩)
abbrev cP : Stmt := top 11
abbrev oR : List Str := ["_law_script", "_law_at", "_law_cell", "_law_large"]
abbrev jr : List Str := ["_law_script", "_law_at"]
theorem vR : FnScope oR jr (defScope cP) := ⟨rfl, rfl, rfl, by decide +kernel, rfl, by decide +kernel, by decide +kernel⟩
def jt : PD := ⟨fun K => He.ga K "_law_source", "_law_source", "_law_source", defArgs cP, defBody cP, defScope cP, [], [], false⟩
abbrev eE : Stmt := top 12
abbrev rP : List Str := ["_law_source_here", "_law_many", "_law_digit", "_law_mixed"]
abbrev lN : List Str := ["_law_source_here", "_law_many"]
theorem zp : FnScope rP lN (defScope eE) := ⟨rfl, rfl, rfl, by decide +kernel, rfl, by decide +kernel, by decide +kernel⟩
def lO : PD := ⟨fun K => He.ga K "_law_draw", "_law_draw", "_law_draw", defArgs eE, defBody eE, defScope eE, [], [], false⟩
abbrev dC : Stmt := top 15
abbrev pQ : List Str := ["_law_source_here", "_law_found", "_law_word"]
abbrev jU : List Str := ["_law_source_here"]
theorem wZ : FnScope pQ jU (defScope dC) := ⟨rfl, rfl, rfl, by decide +kernel, rfl, by decide +kernel, by decide +kernel⟩
def jV : PD := ⟨fun K => He.ga K "_law_words", "_law_words", "_law_words", defArgs dC, defBody dC, defScope dC, [], [], false⟩
abbrev dD : Stmt := top 6
abbrev pU : List Str := ["value"]
abbrev jW : List Str := ["value"]
theorem xf : FnScope pU jW (defScope dD) := ⟨rfl, rfl, rfl, by decide +kernel, rfl, by decide +kernel, by decide +kernel⟩
def jX : PD := ⟨fun K => He.ga K "is_integer", "is_integer", "is_integer", defArgs dD, defBody dD, defScope dD, [], [], false⟩
abbrev bK : Stmt := inClass (top 9) 1
abbrev ju : List Str := ["self", "readings", "habits", "at", "habit", "word"]
abbrev rG : List Str := ["self", "readings", "habits"]
theorem pW : FnScope ju rG (defScope bK) := ⟨rfl, rfl, rfl, by decide +kernel, rfl, by decide +kernel, by decide +kernel⟩
def fQ : PD := ⟨fun K => He.ma K (He.ga K "World") "__init__", "__init__", "World.__init__", defArgs bK, defBody bK, defScope bK, [], [], false⟩
abbrev bu : Stmt := inClass (top 9) 7
abbrev ig : List Str := ["self", "other", "words"]
abbrev dM : List Str := ["self", "other", "words"]
theorem mG : FnScope ig dM (defScope bu) := ⟨rfl, rfl, rfl, by decide +kernel, rfl, by decide +kernel, by decide +kernel⟩
def dN : PD := ⟨fun K => He.ma K (He.ga K "World") "joined_with", "joined_with", "World.joined_with", defArgs bu, defBody bu, defScope bu, [], [], false⟩
abbrev bY : Stmt := inClass (top 9) 8
abbrev lg : List Str := ["self", "other", "words", "word"]
abbrev il : List Str := ["self", "other"]
theorem sJ : FnScope lg il (defScope bY) := ⟨rfl, rfl, rfl, by decide +kernel, rfl, by decide +kernel, by decide +kernel⟩
def ir : PD := ⟨fun K => He.ma K (He.ga K "World") "__or__", "__or__", "World.__or__", defArgs bY, defBody bY, defScope bY, [], [], false⟩
abbrev dF : Stmt := top 14
abbrev pX : List Str := ["_law_words_here", "_law_size", "_law_found", "_law_word"]
abbrev jY : List Str := ["_law_words_here", "_law_size"]
theorem xg : FnScope pX jY (defScope dF) := ⟨rfl, rfl, rfl, by decide +kernel, rfl, by decide +kernel, by decide +kernel⟩
def jZ : PD := ⟨fun K => He.ga K "_law_world", "_law_world", "_law_world", defArgs dF, defBody dF, defScope dF, [], [], false⟩
abbrev fP : Stmt := top 16
abbrev uF : List Str := ["_law_words_here", "_law_kinds", "_law_rows", "_law_at", "_law_word", "_law_pairs", "_law_row", "_law_many"]
abbrev nM : List Str := ["_law_words_here"]
theorem zV : FnScope uF nM (defScope fP) := ⟨rfl, rfl, rfl, by decide +kernel, rfl, by decide +kernel, by decide +kernel⟩
def nO : PD := ⟨fun K => He.ga K "_law_due", "_law_due", "_law_due", defArgs fP, defBody fP, defScope fP, [], [], false⟩
abbrev cQ : Stmt := top 8
abbrev oU : List Str := ["words", "many", "found", "at", "word", "rest"]
abbrev cC : List Str := ["words", "many"]
theorem mH : FnScope oU cC (defScope cQ) := ⟨rfl, rfl, rfl, by decide +kernel, rfl, by decide +kernel, by decide +kernel⟩
def d7 : PD := ⟨fun K => He.ga K "chosen_sets", "chosen_sets", "chosen_sets", defArgs cQ, defBody cQ, defScope cQ, [], [], false⟩
abbrev au : Stmt := inClass (top 9) 15
abbrev aG : List Str := ["self", "many", "words"]
abbrev dO : List Str := ["self"]
theorem jw : GScope aG dO (defScope au) := ⟨rfl, rfl, rfl, by decide +kernel, rfl, by decide +kernel, by decide +kernel⟩
def gH : PD := ⟨fun K => He.ma K (He.ga K "World") "subsets", "subsets", "World.subsets", defArgs au, defBody au, defScope au, [], [], false⟩
abbrev bZ : Stmt := inClass (top 9) 2
abbrev lu : List Str := ["self"]
abbrev iw : List Str := ["self"]
theorem sO : FnScope lu iw (defScope bZ) := ⟨rfl, rfl, rfl, by decide +kernel, rfl, by decide +kernel, by decide +kernel⟩
def iy : PD := ⟨fun K => Lw K (He.ga K "World") "habits", "habits", "World.habits", defArgs bZ, defBody bZ, defScope bZ, [], [], false⟩
abbrev rC : Stmt := top 17
abbrev HS : List Str := ["_law_script", "_law_at", "_law_source_here", "_law_size", "_law_words_here", "_law_world_here", "_law_due_here", "_law_turn", "_law_found", "_law_one"]
abbrev Ow : List Str := ["_law_script"]
theorem Mw : FnScope HS Ow (defScope rC) := ⟨rfl, rfl, rfl, by decide +kernel, rfl, by decide +kernel, by decide +kernel⟩
def HW : PD := ⟨fun K => He.ga K "law", "law", "law", defArgs rC, defBody rC, defScope rC, [], [], false⟩
abbrev bV : Stmt := inClass (top 3) 0
def fu : PD := ⟨fun K => He.ma K (He.ga K "Unlike") "__init__", "__init__", "Unlike.__init__", defArgs bV, defBody bV, defScope bV, [], [], true⟩
abbrev wB : List PySem.ExS.Asg := []
def wC (K : PySem.W.Frag) (H : Hp) (vs : List V) : Prop := True
theorem DW {K : PySem.W.Frag} : PySem.ExS.ExSt K (defArgs bV) (defScope bV) "Unlike.__init__" (.Constant (.str "the windows have different numbers of moments") 0 ⟨10, 25, 10, 72⟩) ⟨10, 8, 10, 13⟩ ⟨10, 8, 10, 15⟩ ⟨10, 8, 10, 24⟩ ⟨10, 8, 10, 73⟩ ⟨10, 8, 10, 73⟩ wB (wC K) where
 bind := fun _ _ _ _ _ _ _ _ us hl => match us, hl with | [], _ => (by kernel_rfl)
 nd := by decide +kernel
 len := by decide
 loc := by decide +kernel
 dbg := by decide +kernel
 cell := by decide +kernel
 hp := ⟨_, rfl, rfl⟩
 ks := rfl
 kc := rfl
 co := rfl
 gen := rfl
 k := rfl
 hE := fun _ _ _ _ _ _ _ _ _ _ _ _ _ _ _ _ _ _ _ _ _ _ _ _ _ _ hq => Mq hq
 hin := fun _ _ _ _ => rfl
 hev := fun _ _ _ _ => ⟨_, rfl⟩
 hsw := fun _ _ _ _ => rfl
 hst := fun _ => rfl
 hsw2 := fun _ _ _ _ _ => rfl
theorem DY : (fu).body = PySem.ExS.sup (.Constant (.str "the windows have different numbers of moments") 0 ⟨10, 25, 10, 72⟩) ⟨10, 8, 10, 13⟩ ⟨10, 8, 10, 15⟩ ⟨10, 8, 10, 24⟩ ⟨10, 8, 10, 73⟩ ⟨10, 8, 10, 73⟩ :: PySem.ExS.asgs wB := rfl
def fa : List Fx := [.he (.free "len"),
 .he (.free "abs"),
 .he (.free "int"),
 .he (.glo "_law_draw"),
 .he (.free "isinstance"),
 .he (.free "bool"),
 .he (.glo "is_integer"),
 .he (.free "enumerate"),
 .he (.free "str"),
 .he (.glo "World"),
 .he (.free "tuple"),
 .he (.free "super"),
 .he (.glo "Unlike"),
 .he (.free "sorted"),
 .he (.glo "chosen_sets"),
 .he (.free "range"),
 .he (.free "min"),
 .he (.free "max"),
 .he (.glo "_law_source"),
 .he (.glo "_law_words"),
 .he (.glo "_law_world"),
 .he (.glo "_law_due"),
 .he (.free "list"),
 .he (.cls "World"),
 .he (.noat "World" "readings"),
 .he (.noat "World" "own_habits"),
 .prop "World" "habits",
 .he (.meth "World" "subsets"),
 .he (.meth "World" "joined_with"),
 .he (.meth "World" "__or__"),
 .slf "World",
 .own "Unlike" (PySem.Str.ofString "/claim/cut.py") [],
 .raw (fun K => Cm K (He.ga K "World") "HABITS" [.str "restart", .str "lost", .str "join", .str "leave", .str "tail", .str "past"]),
 .he (.mkr "World"),
 .ins "World",
 .kit (.b "NoneType") (.o 0) false,
 .kit (.b "bool") (.o 0) false,
 .kit (.b "int") (.o 0) false,
 .kit (.b "str") (.o 0) false,
 .kit (.b "tuple") (.o 0) false,
 .kit (.b "list") (.o 0) false,
 .kit (.o 0) (.b "bool") false,
 .kit (.o 0) (.b "int") false,
 .kit (.o 0) (.b "str") false,
 .kit (.o 0) (.b "tuple") false,
 .kit (.o 0) (.b "list") false,
 .kit (.o 0) (.o 0) true,
 .he (.glo "law")]
def fn : List PD := [fu, jt, lO, jV, jX, fQ, dN, ir, jZ, nO, d7, gH, iy, HW]
class PF (P : Program) : Prop where
 f : ((P.main.file : Str) == (PySem.Str.ofString "/claim/cut.py")) = true
 t : (P.main.scope.names.lookup ("super" : Str)).isSome = false
abbrev aJ (K : PySem.W.Frag) : Prop := kZ cn fa fn K
section
open PySem PySem.Spec PyProof.Rows L2
abbrev Rw : PySem.W.OpenRow := PySem.W.OpenLaw.row PySem.Challenge.rw_countrestarts_k16_subsets
abbrev hk : PySem.W.Hook := Pk.hookP 7 cn fa fn
def ob (s : PySem.W.SharedT) : Pk.AlP := Pk.obsPG 7 cn fa fn (HandSHeadRun.getT s)
theorem ob_eq (s : PySem.W.SharedT) : ob s = hk.obs s.abs := Pk.obsPG_eq (HandSHeadRun.getT_eq s)
def names : List PySem.Str := "_wall" :: "CountError" :: "Unlike" :: "BadWorld" :: "is_integer" :: "chosen_sets" :: "World" :: "_law_source" :: "_law_draw" :: "_law_of" :: "_law_world" :: "_law_words" :: "_law_due" :: []
theorem Ql {α β γ δ : Type} {o : Option α} {f : α → β} {g : α → γ} {k : α → δ} {a : β} {b : γ} {c : δ} (h1 : o.map f = some a) (h2 : o.map g = some b) (h3 : o.map k = some c) : o.map (fun s => (f s, g s, k s)) = some (a, b, c) := by
 cases o with
 | none => cases h1
 | some s =>
   cases h1
   cases h2
   cases h3
   rfl
abbrev vw : Program := PySem.W.view Rw.prog [17]
noncomputable abbrev ends (w : World) (os : PySem.OsState) : Option PySem.W.SharedT := HandSHeadRun.endF (HandSHeadRun.stepQ (HandSHeadRun.denQ HandSHeadRun.tabQ) Rw.prog w) 20000 Rw.prog w os
open PySem.W PySem.Calls HandSHeadRun in
set_option maxHeartbeats 0 in
theorem Ox (w : World) (os : PySem.OsState) : (ends w os).map (fun s => looksF Rw.prog (boot_heap w.params) s.abs) = some true := by
 kernel_rfl
open PySem.W PySem.Calls HandSHeadRun in
set_option maxHeartbeats 0 in
theorem Oz (w : World) (os : PySem.OsState) : (ends w os).map (fun s => seenQ vw names (importedModules Rw.prog.main.body) (fun s => xlAt vw [] s && recOk Rw.toRowW.records s) s.abs) = some (openGood vw names) := by
 kernel_rfl
abbrev fr0 (s : PySem.W.SharedT) : PySem.W.Frag := He.frG (HandSHeadRun.getT s) (Pk.asP (HandSHeadRun.getT s) 7)
abbrev nh : Nat := fn.length / 2
set_option maxHeartbeats 0 in
theorem Mx (w : World) (os : PySem.OsState) : (ends w os).map (fun s => fa.all fun f => f.ok cn (fr0 s)) = some true := by
 kernel_rfl
set_option maxHeartbeats 0 in
theorem Mz (w : World) (os : PySem.OsState) : (ends w os).map (fun s => (fn.take nh).all fun d => d.ok (fr0 s)) = some true := by
 kernel_rfl
set_option maxHeartbeats 0 in
theorem MF (w : World) (os : PySem.OsState) : (ends w os).map (fun s => (fn.drop nh).all fun d => d.ok (fr0 s)) = some true := by
 kernel_rfl
theorem all2 {α : Type} {l : List α} {p : α → Bool} {m : Nat} (h1 : (l.take m).all p = true) (h2 : (l.drop m).all p = true) : l.all p = true := by
 rw [← List.take_append_drop m l, List.all_append, h1, h2]
 rfl
theorem Qm {α : Type} {o : Option α} {f g k b : α → Bool} (h1 : o.map f = some true) (h2 : o.map g = some true) (h3 : o.map k = some true) (h : ∀ s, f s = true → g s = true → k s = true → b s = true) : o.map b = some true := by
 cases o with
 | none => cases h1
 | some s => exact congrArg some (h s (Option.some.inj h1) (Option.some.inj h2) (Option.some.inj h3))
theorem OJ (w : World) (os : PySem.OsState) : (ends w os).map (fun s => (ob s).1) = some true :=
 Qm (Mx w os) (Mz w os) (MF w os) fun s h1 h2 h3 => (show ((fa.all fun f => f.ok cn (fr0 s)) && fn.all fun d => d.ok (fr0 s)) = true by rw [h1, all2 h2 h3]; rfl)
abbrev nq : Nat := fn.length / 3
set_option maxHeartbeats 0 in
theorem MJ (w : World) (os : PySem.OsState) : (ends w os).map (fun s => (ob s).2.take nq) = some ((fn.map Pk.PD.val).take nq) := by
 kernel_rfl
set_option maxHeartbeats 0 in
theorem MK (w : World) (os : PySem.OsState) : (ends w os).map (fun s => ((ob s).2.drop nq).take nq) = some (((fn.map Pk.PD.val).drop nq).take nq) := by
 kernel_rfl
set_option maxHeartbeats 0 in
theorem MN (w : World) (os : PySem.OsState) : (ends w os).map (fun s => ((ob s).2.drop nq).drop nq) = some (((fn.map Pk.PD.val).drop nq).drop nq) := by
 kernel_rfl
theorem MP {α : Type} {l x : List α} {m : Nat} (h1 : l.take m = x.take m) (h2 : l.drop m = x.drop m) : l = x := by
 rw [← List.take_append_drop m l, h1, h2, List.take_append_drop]
theorem Qn {α β : Type} {o : Option α} {f : α → List β} {x : List β} {m : Nat} (h1 : o.map (fun s => (f s).take m) = some (x.take m)) (h2 : o.map (fun s => ((f s).drop m).take m) = some ((x.drop m).take m)) (h3 : o.map (fun s => ((f s).drop m).drop m) = some ((x.drop m).drop m)) : o.map f = some x := by
 cases o with
 | none => cases h1
 | some s => exact congrArg some (MP (Option.some.inj h1) (MP (Option.some.inj h2) (Option.some.inj h3)))
theorem O2 (w : World) (os : PySem.OsState) : (ends w os).map (fun s => (ob s).2) = some (fn.map Pk.PD.val) := Qn (MJ w os) (MK w os) (MN w os)
theorem Qo {α β γ : Type} {o : Option α} {f : α → β × γ} {a : β} {b : γ} (h1 : o.map (fun s => (f s).1) = some a) (h2 : o.map (fun s => (f s).2) = some b) : o.map f = some (a, b) := by
 cases o with
 | none => cases h1
 | some s =>
   have e1 := Option.some.inj h1
   have e2 := Option.some.inj h2
   exact congrArg some (Prod.ext e1 e2)
theorem run (w : World) : HandSHeadRun.RunEq Rw vw hk ob 20000 names w := fun os => Ql (Ox w os) (Oz w os) (Qo (OJ w os) (O2 w os))
end
end L
namespace PySem
namespace OwB
open PySem.W PySem.Calls PyProof.Rows
section
variable {prog : Program} {w : World} {A : Around} {E : Value → Shared → Prop} {s : Shared} {K : Frag} {x C f : Addr} {ox : Obj} {od : Option Obj}
def QM (Q : Bool → Shared → Prop) (v : Value) (s' : Shared) : Prop := match v with
 | .int n _ => (0 ≤ n ∧ n < 2 ^ 63) ∧ Q (n != 0) { s' with toks := s'.toks + 1 }
 | _ => False
end
end OwB
end PySem
namespace Pk
open PySem PySem.Spec L2
section
variable {X : Cx} {T : Tb} {W : WX} {k kk j n c : Nat} {pos pf px apos cpos p : Pos} {a b e : Expr} {es : List Expr} {ma mb m : M D} {m1 : M (List D)} {x f : Str}
structure V5 (K : PySem.W.Frag) (T : Tb) (mt : Nat → Option Fn) : Prop where
 ex : ∀ c F, mt c = some F → PySem.W.findIn K (.ref (T.cad c)) "__bool__" = some none
def UT (K : PySem.W.Frag) (C : Addr) : Bool := He.eqO (PySem.W.findIn K (.ref C) "__bool__") (some none)
def Q7 (mt : Nat → Option Fn) (ma : M D) : M D := ma.bind fun o => (vP mt o []).bind fun d => (Mu d).bind fun d => M.opt (match d with
 | .int i => some (.bl (i != 0))
 | _ => none)
theorem aa.eraseIdx {K : PySem.W.Frag} {w : Wd} : ∀ {vs : List V} {ds : List D} (n : Nat), aa K T w vs ds → aa K T w (vs.eraseIdx n) (ds.eraseIdx n)
 | _, _, _, .nil => .nil
 | _, _, 0, .cons _ t => t
 | _, _, n + 1, .cons h t => .cons h (aa.eraseIdx n t)
def Ju (i : Nat) (d : D) : M D := fun fr h => match fr[i]?, d with
 | some (some (.nl l)), .int j => if -(2 ^ 63) ≤ j ∧ j < 2 ^ 63 then (match seqIndex? j l.length with
   | some q => (match l[q]? with
     | some y => .ok y (fr.set i (some (.nl (l.eraseIdx q)))) h
     | none => .err)
   | none => .err) else .err
 | _, _ => .err
def S9 (i : Nat) (m : M D) : M D := (aH i fM).bind fun _ => m.bind fun d => Ju i d
structure V6 (X : Cx) (T : Tb) (k c : Nat) (m : Str) (n : Nat) (F : Fn) : Prop where
 ex : ∃ (kk : Nat) (p f : Addr) (fd : FuncData) (ps : List Str), ClX.CRead X.K (T.cad c) (.type "type") ∧ ClX.CMet X.K (T.cad c) (.type "type") m p f ∧ dB X.prog X.w X.K X.mg X.base T kk f fd ps F ∧ Bn X.K T fd ps (n + 1) [] (aU []) ∧ kk ≤ k
def PL (K : PySem.W.Frag) (C : Addr) (m : Str) : Addr := match PySem.W.findCls K (.ref C) (.type "type") m with
 | some (.get _ (.ref p) _ _) => (match PySem.W.recIn K p "classmethod" with
   | some (.ref g :: _) => g
   | _ => 0)
 | _ => 0
def V7 (K : PySem.W.Frag) (C : Addr) (m : Str) : Bool := uE K C && (match PySem.W.findCls K (.ref C) (.type "type") m with
 | some (.get (.builtin i) (.ref p) .none (.ref C')) => decide (i = "classmethod.__get__") && (decide (C' = C) && ((match PySem.W.recIn K p "classmethod" with
   | some (.ref g :: _) => decide (g = PL K C m)
   | _ => false) && PySem.W.fnIn K (PL K C m)))
 | _ => false)
def V8 (n c : Nat) (F : Fn) (ma : M (List D)) : M D := ma.bind fun ds fr h => if ds.length = n then bH fr (F (.cls c :: ds) h) else .err
end
end Pk
namespace Pk
open PySem PySem.Spec L2
section
variable {X : Cx} {T : Tb} {W : WX} {k : Nat} {b : Expr} {mb : M D} {pos px : Pos}
def Tc (X : Cx) (T : Tb) (op : CmpOp) (f : Hh → D → D → Option Bool) : Prop :=
 ∀ B w σ H fr h x y d e c Q, Rel X.K T B w σ H fr h → vO X.K T B σ w H fr x d → vO X.K T B σ w H fr y e → f h d e = some c → Q (.bl c) H → rM X (compareOp op) x y H Q
def Q8 (i : Nat) (f : Hh → D → D → Option Bool) (mb : M D) : M Bool := (cX i).bind fun _ => mb.bind fun y => (aR i).bind fun d fr h => M.opt (f h d y) fr h
end
end Pk
namespace PySem
namespace OwR
open PySem.W PySem.Calls PyProof.Rows
open PySem.AutoSeq1 (wpAny_loadPart')
section
variable {K : Frag} {x C : Addr} {ox : Obj} {od : Option Obj}
end
section
variable {prog : Program} {w : World} {A : Around} {E : Value → Shared → Prop} {s : Shared} {K : Frag} {x C f : Addr} {ox : Obj} {od : Option Obj} {a : Value} {t : String}
def Gm (prog : Program) (w : World) (A : Around) (E : Value → Shared → Prop) (s : Shared) (a : Value) (nm : Str) (x : Addr) : Prop := ∀ P' : Option Value → Shared → Prop, P' none s → wpAny (model prog w) A (tryCompare a nm (.ref x)) P' E s
theorem right (op : CmpOp) {Q : Value → Shared → Prop} (hu : A.units < cLine) (X : K.In s.heap) (I : InstAt s.heap x ox C od) (h1 : oneThing? op a (.ref x) = none) (ha : Looks (model prog w) s.heap (typeOf a) (.type t)) (hn : subIn K (.ref C) (.type t) = some false)
 (hd : Gm prog w A E s a (cmpInfo op).2.1 x) (h : wpAny (model prog w) A (tryCompare (.ref x) (cmpInfo op).2.2 a) (fun r s' => ∃ v, r = some v ∧ Q v s') E s) : wpAny (model prog w) A (richCompare op a (.ref x)) Q E s := by
 unfold richCompare
 simp only [h1]
 refine wpAny_holding (wpAny_bind (wpAny_cRoomFor hu ?_))
 refine wpAny_bind (ha.here (wpAny_bind (I.type.here ?_)))
 rw [if_pos (show ((Value.type t != Value.ref C) = true) from rfl)]
 refine wpAny_bind ((looks_subIn X hn).here ?_)
 simp only [Bool.false_eq_true, if_false]
 refine wpAny_bind (hd _ ?_)
 simp only [Bool.not_false, if_true]
 refine wpAny_bind (wpAny_mono h (fun r s' z => ?_) fun _ _ e => e)
 obtain ⟨v, rfl, q⟩ := z
 exact wpAny_pure q
end
end OwR
end PySem
namespace Pk
open PySem PySem.Spec L2
def UV (mt : Nat → Option Fn) (c : Bool → Bool) (x y : D) : M Bool := fun fr h => match fnOf mt h x with
 | some _ => Q6 mt c x y fr h
 | none => if (x.bty h).isSome then ((vP mt y [x]).bind fun d => (Mv d).bind fun b => M.ret (c b)) fr h else .err
section
variable {X : Cx} {T : Tb} {W : WX} {k j : Nat}
end
end Pk
namespace Pk
open PySem PySem.Spec L2
def UW (_ : Hh) : D → D → Option Bool
 | .bl a, .bl b => some (decide (a = b))
 | _, _ => none
def Td (_ : Hh) : D → D → Option Bool
 | .bl a, .bl b => some (!decide (a = b))
 | _, _ => none
section
variable {X : Cx} {T : Tb}
end
end Pk
namespace PySem
namespace OwT
open PySem.W PySem.Calls PyProof.Rows PySem.SeqAt
open PySem.AutoSeq1 (wpAny_loadPart')
section
variable {prog : Program} {w : World} {A : Around} {R : Result → Shared → Prop}
end
end OwT
end PySem
namespace Pk
open PySem PySem.Spec L2
mutual
def D.sim : D → D → Bool
 | .int i, .int j => i == j
 | .bl a, .bl b => a == b
 | .str a, .str b => a == b
 | .tup l, .tup m => D.sims l m
 | _, _ => true
def D.sims : List D → List D → Bool
 | d :: ds, e :: es => D.sim d e && D.sims ds es
 | [], [] => true
 | _, _ => false
end
section
variable {X : Cx} {T : Tb} {W : WX} {k j : Nat} {w : Wd} {pins : List (Addr × Obj)} {σ : L2.St} {H : Hp} {s : Shared}
mutual
theorem Jv (I : Inv X pins σ H s) (sub : ∀ a o, w.F a = some o → H a = some o) : ∀ {v : V} {d : D}, aA X.K T w v d → ∀ {e : D}, aA X.K T w v e → D.sim d e = true
 | _, _, .tup h1 t1, _, r2 => by
   cases r2 with
   | tup h2 t2 =>
     have := I.tuple_inj (aV sub h1) (aV sub h2)
     subst this
     exact zq I sub t1 t2
   | _ => rfl
 | _, _, .int i, _, r2 => by cases r2; simp [D.sim]
 | _, _, .bl b, _, r2 => by cases r2; simp [D.sim]
 | _, _, .str z, _, r2 => by cases r2; simp [D.sim]
 | _, _, .non, _, _ => rfl
 | _, _, .fl _ _, _, _ => rfl
 | _, _, .kl _ _, _, _ => rfl
 | _, _, .obj _ _, _, _ => rfl
 | _, _, .ref _, _, _ => rfl
 | _, _, .cls _, _, _ => rfl
 | _, _, .ty _, _, _ => rfl
 | _, _, .sl _, _, _ => rfl
theorem zq (I : Inv X pins σ H s) (sub : ∀ a o, w.F a = some o → H a = some o) : ∀ {vs : List V} {ds : List D}, aa X.K T w vs ds → ∀ {es : List D}, aa X.K T w vs es → D.sims ds es = true
 | _, _, .nil, _, r2 => by cases r2; rfl
 | _, _, .cons h t, _, r2 => by
   cases r2 with
   | cons h2 t2 =>
     show (_ && _) = true
     rw [Jv I sub h h2, zq I sub t t2]
     rfl
end
noncomputable def pPair (mt : Nat → Option Fn) (nf : Nat → Nat) (h : Hh) : D → D → Option Bool
 | .obj c l, .obj c' m => if c = c' ∧ l.length = nf c ∧ m.length = nf c then match mt c with
  | some F => match F [.obj c l, .obj c m] h with
    | .ok (.bl b) _ h' => open Classical in if h' = h ∧ (b = true ∨ D.sims l m = false) then some b else none
    | _ => none
  | none => none
  else none
 | _, _ => none
noncomputable def MT (mt : Nat → Option Fn) (nf : Nat → Nat) (h : Hh) : List D → List D → Option Bool
 | d :: ds, e :: es => (pPair mt nf h d e).bind fun b => if b then MT mt nf h ds es else some false
 | [], [] => some true
 | _, _ => some false
noncomputable def Qp (mt : Nat → Option Fn) (nf : Nat → Nat) (h : Hh) : D → D → Option Bool
 | .tup l, .tup m => MT mt nf h l m
 | _, _ => none
noncomputable def U0 (mt : Nat → Option Fn) (nf : Nat → Nat) (x y : D) : M Bool := fun fr h => M.opt (Qp mt nf h x y) fr h
structure V9 (T : Tb) (mt : Nat → Option Fn) (nf : Nat → Nat) : Prop where
 ex : ∀ c F, mt c = some F → (T.fld c).length = nf c
end
end Pk
namespace L2
open PySem PySem.Spec PyProof.Rows
def endsAt (oi : Option Nat) (D : Ends) : Ends := match oi with
 | none => D
 | some i => { nx := fun σ' H' => D.nx (σ'.set i none) H', rt := D.rt, bk := fun σ' H' => D.bk (σ'.set i none) H', ct := fun σ' H' => D.ct (σ'.set i none) H' }
def Bb (oi : Option Nat) (σ : St) (a : Addr) : St := match oi with
 | none => σ
 | some i => σ.set i (some (.ref a))
abbrev uG := Value × Option Nat × (Addr → Value → Option Addr → TS)
def Qq (K : PySem.W.Frag) (Wout : WX) (D : Ends) : List uG → WX
 | [] => Wout
 | (c, oi, ts) :: r => fun cls d σ H => ∃ b, PySem.W.exmOne K cls c = some b ∧ (b = true → ∀ a, H a = none → ts a cls d (endsAt oi D) (Bb oi σ a) H) ∧ (b = false → Qq K Wout D r cls d σ H)
inductive uH (X : Cx) : Option Str → Option Nat → Prop
 | no : uH X none none
 | at_ {n : Str} {i : Nat} (hi : X.N[i]? = some n) (hln : X.env.kindOf n = some .local) : uH X (some n) (some i)
inductive pY (X : Cx) : List ExceptHandler → List uG → Prop
 | nil : pY X [] []
 | cons {x : Str} {c : Value} {ts : Addr → Value → Option Addr → TS} {b₀ : Stmt} {suite : List Stmt} {np pos' : Pos} {nm : Option Str} {oi : Option Nat} {hds : List ExceptHandler} {l : List uG} (hc : Names X x c) (hn : uH X nm oi)
  (hsu : ∀ (a : Addr) (oe : Obj) (cls : Value) (d : Option Addr) (pn : List (Addr × Obj)), Zc cls d oe → (∃ vs, oe.data = .fields vs) → PSs (X.suite a ((a, oe) :: pn)) (b₀ :: suite) (ts a cls d)) (r : pY X hds l) :
  pY X (.ExceptHandler (some (.Name x np)) nm (b₀ :: suite) pos' :: hds) ((c, oi, ts) :: l)
section
variable {X : Cx} {body : List Stmt} {h₀ : ExceptHandler} {hds : List ExceptHandler} {l : List uG} {pos : Pos} {tb : WX → TS} {Wout : WX}
end
end L2
namespace Pk
open PySem PySem.Spec L2
abbrev Hd := Option Nat × (Nat → Option Bool) × (aO → M Fl)
def HX : List Hd → aO → M Fl
 | [], x => fun fr h => .exc x fr h
 | (oi, cond, ms) :: r, x => fun fr h => match cond x.c with
   | some true => match oi with
     | some i => if i < fr.length then Ms i (ms x (fr.set i none) h) else .err
     | none => ms x fr h
   | some false => HX r x fr h
   | none => .err
def Tf (cs : List Hd) (mb : M Fl) : M Fl := fun fr h => match mb fr h with
 | .exc x fr1 h1 => HX cs x fr1 h1
 | r => r
section
variable {X : Cx} {T : Tb} {W : WX} {k : Nat} {body : List Stmt} {h₀ : ExceptHandler} {hds : List ExceptHandler} {pos : Pos} {mb : M Fl} {cs : List Hd}
inductive pZ (X : Cx) (T : Tb) (W : WX) : List ExceptHandler → List Hd → Prop
 | nil : pZ X T W [] []
 | named {x n : Str} {c : Value} {cond : Nat → Option Bool} {b₀ : Stmt} {suite : List Stmt} {np pos' : Pos} {i : Nat} {ms : aO → M Fl} {hds : List ExceptHandler} {l : List Hd} (hi : X.N[i]? = some n) (hln : X.env.kindOf n = some .local) (hc : Names X x c)
  (hcond : ∀ cc b, cond cc = some b → PySem.W.exmOne X.K (.ref (T.cad cc)) c = some b)
  (hsu : ∀ (a : Addr) (oe : Obj) (cls : Value) (d : Option Addr) (pn : List (Addr × Obj)) (y : aO), Su X T i a oe cls d pn y → Cj (PX X.K T i a y cls d) (X.suite a ((a, oe) :: pn)) T W (b₀ :: suite) (ms y))
  (r : pZ X T W hds l) : pZ X T W (.ExceptHandler (some (.Name x np)) (some n) (b₀ :: suite) pos' :: hds) ((some i, cond, ms) :: l)
 | only {x : Str} {c : Value} {cond : Nat → Option Bool} {b₀ : Stmt} {suite : List Stmt} {np pos' : Pos} {ms : aO → M Fl} {hds : List ExceptHandler} {l : List Hd} (hc : Names X x c)
  (hcond : ∀ cc b, cond cc = some b → PySem.W.exmOne X.K (.ref (T.cad cc)) c = some b)
  (hsu : ∀ (a : Addr) (oe : Obj) (pn : List (Addr × Obj)) (y : aO), Cj (fun _ _ => True) (X.suite a ((a, oe) :: pn)) T W (b₀ :: suite) (ms y))
  (r : pZ X T W hds l) : pZ X T W (.ExceptHandler (some (.Name x np)) none (b₀ :: suite) pos' :: hds) ((none, cond, ms) :: l)
end
end Pk
namespace Pk
open PySem PySem.Spec L2
section
variable {P : Wd → L2.St → Prop} {X : Cx} {T : Tb} {W : WX} {a b : Expr} {ma mb : M D} {pos pf : Pos} {x : Str} {tab : Tg → Tg → Option Bool}
end
end Pk
namespace Pk
open PySem PySem.Spec L2
def Th (_ : Hh) : D → Option D
 | .bl b => some (.str (if b then "True" else "False"))
 | _ => none
def Q9 (_ : Hh) : D → Option D
 | .bl b => some (.bl b)
 | .int i => some (.bl (i != 0))
 | _ => none
section
variable {X : Cx} {T : Tb} {W : WX} {a : Expr} {ma : M D} {pos pf : Pos}
end
end Pk
namespace Pk
open PySem PySem.Spec PyProof.Rows L2
def Tj : List Stmt → Expr
 | .Expr (.Call _ [e] _ _) _ :: _ => e
 | _ => .Name "" ⟨0, 0, 0, 0⟩
def HY : List D → Option (List Str)
 | [] => some []
 | .str s :: r => (HY r).map (s :: ·)
 | _ => none
def QQ (K : PySem.W.Frag) (H : Hp) (vs : List V) : Prop := ∃ (a : Addr) (ss : List Str), vs = [.ref a] ∧ SqT K H a (ss.map V.str) ∧ (ss.map (·.length)).sum + ss.length ≤ 1000
def Qs (ds : List D) : Bool := match ds with
 | [.tup l] => match HY l with
   | some ss => decide ((ss.map (·.length)).sum + ss.length ≤ 1000)
   | none => false
 | _ => false
inductive JP (scope : Scope) (m : Str → Option Value) : List Expr → List Str → Prop
 | nil : JP scope m [] []
 | con {z : Str} {j : Nat} {pos : Pos} {es : List Expr} {ys : List Str} (hz : z.length ≤ 2000) (r : JP scope m es ys) : JP scope m (.Constant (.str z) j pos :: es) (z :: ys)
 | int {f : Str} {i : Int} {t : Tok} {pos pos2 : Pos} {es : List Expr} {ys : List Str} (hl : scope.names.lookup f = some .local) (hd : (f == ("__debug__" : Str)) = false) (hm : m f = some (.int i t)) (hi : i.natAbs.log2 < 1920) (r : JP scope m es ys) : JP scope m (.FormattedValue (.Name f pos) (-1) none pos2 :: es) (toString i :: ys)
 | str {f y : Str} {t : Tok} {pos pos2 : Pos} {es : List Expr} {ys : List Str} (hl : scope.names.lookup f = some .local) (hd : (f == ("__debug__" : Str)) = false) (hm : m f = some (.str y t)) (hy : y.length ≤ 2000) (r : JP scope m es ys) : JP scope m (.FormattedValue (.Name f pos) (-1) none pos2 :: es) (y :: ys)
section
variable {scope : Scope} {qual : Str} {m : Str → Option Value} {L fI cda cc : Addr} {prog : Program} {w : World} {A' : Around} {h : Heap} {g : Array GenState} {d : Drawn} {os : OsState} {E' : Value → Shared → Prop}
end
end Pk
namespace L2
open PySem PySem.Spec PyProof.Rows
def zr (X : Cx) (te : Expr) (tst : Value → Option Bool) : Prop :=
 ∀ (a : Addr) (oe : Obj) (pn pins : List (Addr × Obj)) (σ : St) (H : Hp) (s : Shared) (cls : Value) (b : Bool) (Q : Bool → Shared → Prop) (E : Value → Shared → Prop), Inv (X.suite a ((a, oe) :: pn)) pins σ H s → PySem.W.Looks (model X.prog X.w) s.heap (typeOf (.ref a)) cls → tst cls = some b →
   (∀ h', (∀ q o, s.heap.get? q = some o → h'.get? q = some o) → Q b { s with heap := h' }) →
   wpAny (model X.prog X.w) (X.A.mark (some (.ref a))) (eval te X.env) (fun c s1 => wpAny (model X.prog X.w) (X.A.mark (some (.ref a))) (excMatches (.ref a) c) Q E s1) E s
abbrev rE := (Value → Option Bool) × Option Nat × (Addr → Value → Option Addr → TS)
def O4 (Wout : WX) (D : Ends) : List rE → WX
 | [] => Wout
 | (c, oi, ts) :: r => fun cls d σ H => ∃ b, c cls = some b ∧ (b = true → ∀ a, H a = none → ts a cls d (endsAt oi D) (Bb oi σ a) H) ∧ (b = false → O4 Wout D r cls d σ H)
inductive sS (X : Cx) : List ExceptHandler → List rE → Prop
 | nil : sS X [] []
 | cons {te : Expr} {c : Value → Option Bool} {ts : Addr → Value → Option Addr → TS} {b₀ : Stmt} {suite : List Stmt} {pos' : Pos} {nm : Option Str} {oi : Option Nat} {hds : List ExceptHandler} {l : List rE} (hc : zr X te c) (hn : uH X nm oi)
  (hsu : ∀ (a : Addr) (oe : Obj) (cls : Value) (d : Option Addr) (pn : List (Addr × Obj)), Zc cls d oe → (∃ vs, oe.data = .fields vs) → PSs (X.suite a ((a, oe) :: pn)) (b₀ :: suite) (ts a cls d)) (r : sS X hds l) :
  sS X (.ExceptHandler (some te) nm (b₀ :: suite) pos' :: hds) ((c, oi, ts) :: l)
section
variable {X : Cx} {body : List Stmt} {h₀ : ExceptHandler} {hds : List ExceptHandler} {l : List rE} {pos : Pos} {tb : WX → TS} {Wout : WX}
end
end L2
namespace Pk
open PySem PySem.Spec L2
section
variable {X : Cx} {T : Tb} {W : WX} {k : Nat} {body : List Stmt} {h₀ : ExceptHandler} {hds : List ExceptHandler} {pos : Pos} {mb : M Fl} {cs : List Hd}
inductive qb (X : Cx) (T : Tb) (W : WX) : List ExceptHandler → List Hd → Prop
 | nil : qb X T W [] []
 | named {te : Expr} {n : Str} {tst : Value → Option Bool} {cond : Nat → Option Bool} {b₀ : Stmt} {suite : List Stmt} {pos' : Pos} {i : Nat} {ms : aO → M Fl} {hds : List ExceptHandler} {l : List Hd} (hi : X.N[i]? = some n) (hln : X.env.kindOf n = some .local) (hc : zr X te tst)
  (hcond : ∀ cc b, cond cc = some b → tst (.ref (T.cad cc)) = some b)
  (hsu : ∀ (a : Addr) (oe : Obj) (cls : Value) (d : Option Addr) (pn : List (Addr × Obj)) (y : aO), Su X T i a oe cls d pn y → Cj (PX X.K T i a y cls d) (X.suite a ((a, oe) :: pn)) T W (b₀ :: suite) (ms y))
  (r : qb X T W hds l) : qb X T W (.ExceptHandler (some te) (some n) (b₀ :: suite) pos' :: hds) ((some i, cond, ms) :: l)
 | only {te : Expr} {tst : Value → Option Bool} {cond : Nat → Option Bool} {b₀ : Stmt} {suite : List Stmt} {pos' : Pos} {ms : aO → M Fl} {hds : List ExceptHandler} {l : List Hd} (hc : zr X te tst)
  (hcond : ∀ cc b, cond cc = some b → tst (.ref (T.cad cc)) = some b)
  (hsu : ∀ (a : Addr) (oe : Obj) (pn : List (Addr × Obj)) (y : aO), Cj (fun _ _ => True) (X.suite a ((a, oe) :: pn)) T W (b₀ :: suite) (ms y))
  (r : qb X T W hds l) : qb X T W (.ExceptHandler (some te) none (b₀ :: suite) pos' :: hds) ((none, cond, ms) :: l)
def U3 (K : PySem.W.Frag) (C : Addr) : Bool := PySem.W.excIn K C [.type "ValueError", .type "Exception", .type "BaseException", .type "object"] "ValueError.__new__" && (PySem.W.keepIn K (.ref C) && (decide (PySem.W.subIn K (.ref C) (.type "BaseException") = some true) && decide (PySem.W.typeIn K (.ref C) = some (.type "type"))))
structure Wb (K : PySem.W.Frag) (C : Addr) : Prop where
 q : PySem.W.excIn K C [.type "ValueError", .type "Exception", .type "BaseException", .type "object"] "ValueError.__new__" = true
 kC : PySem.W.keepIn K (.ref C) = true
 exC : PySem.W.subIn K (.ref C) (.type "BaseException") = some true
 tyC : PySem.W.typeIn K (.ref C) = some (.type "type")
def QR (c : Nat) (ma : M D) : M Fl := ma.bind fun _ fr h => .exc ⟨c, []⟩ fr h
end
section
variable {P : Wd → L2.St → Prop} {X : Cx} {T : Tb} {W : WX} {a b e : Expr} {m ma mb : M D} {pos : Pos}
end
end Pk
namespace Pk
open PySem PySem.Spec L2
def nQ : List D → List D → List D
 | a :: as, b :: bs => .tup [a, b] :: nQ as bs
 | _, _ => []
def Qt : D → D → Option (List D)
 | .tup l, .tup m => some (nQ l m)
 | .fl l, .fl m => some (nQ l m)
 | .fl l, .kl m => some (nQ l m)
 | .kl l, .fl m => some (nQ l m)
 | .kl l, .kl m => some (nQ l m)
 | _, _ => none
def U4 (ma mb : M D) : M (List D) := ma.bind fun x => mb.bind fun y => M.opt (Qt x y)
section
variable {X : Cx} {T : Tb} {W : WX} {k kk : Nat} {pos p tpos : Pos} {elts : List Expr} {a b : Expr} {ma mb : M D}
end
section
variable {P : Wd → L2.St → Prop} {X : Cx} {T : Tb} {W : WX} {k : Nat} {a b e : Expr} {m ma mb : M D} {pos : Pos}
end
def U5 (n : Nat) (gs : List D → M Unit) (d : D) : M Unit := match d with
 | .tup l => if l.length = n then gs l else M.opt none
 | .fl l => if l.length = n then gs l else M.opt none
 | _ => M.opt none
def U6 (_ : Hh) : D → D → Option D
 | .fl l, .int k => if 0 ≤ k ∧ k < 1000 ∧ l.length ≤ 100 then some (.nl (List.replicate k.toNat l).flatten) else none
 | _, _ => none
section
variable {X : Cx} {T : Tb} {W : WX} {k kk n : Nat} {is : List Nat} {tgs : List Expr} {gs : List D → M Unit} {pos : Pos} {a b : Expr} {ma mb : M D}
end
def putS : List Nat → List V → L2.St → L2.St
 | i :: is, v :: vs, σ => putS is vs (σ.set i (some v))
 | _, _, σ => σ
section
variable {X : Cx} {T : Tb} {W : WX} {k : Nat} {a b c : Expr} {pos : Pos}
end
end Pk
namespace Pk
open PySem PySem.Spec PyProof.Rows L2
section
variable {prog : Program} {w : World} {A : Around} {E : Value → Shared → Prop} {s : Shared} {l : Addr} {its : List Value} {ns : List Int} {Q : Value → Shared → Prop}
end
def Tq (K : PySem.W.Frag) : List V → Hp → VK → Prop := fun vs H Q => ∃ (a : Addr) (ns : List Int), vs = [V.ref a] ∧ SqT K H a (ns.map V.int) ∧ 0 < ns.length ∧ ∀ m, m ∈ ns → (∀ y, y ∈ ns → y ≤ m) → Q (.int m) H
section
variable {X : Cx} {T : Tb} {W : WX} {k : Nat} {e a b c : Expr} {es : List Expr} {m ma mb mc : M D} {pos pf : Pos}
def Tr (h : Hh) (d : D) : Option D := match d with
 | .tup l => match D.ints l with
   | some (a :: r) => some (.int (BJ a r))
   | _ => none
 | _ => Oo h d
end
end Pk
namespace Pk
open PySem PySem.Spec PyProof.Rows L2
section
variable {P : Program} {w : World} {A : Around} {E : Value → Shared → Prop} {s : Shared} {env : Env} {x : Str} {pe pt px p0 pc pos : Pos} {iter : Expr} {scope : Scope} {cl : List (Str × Addr)} {c : Int} {k0 : Nat} {Q : Value → Shared → Prop}
def Qu (ns : List Int) (c : Int) (i : Nat) (k : Int) : Bool := decide (k ∈ (ns.take i).filter fun k => decide (k > c))
end
def M3 (a : Int) : List Int → List Int
 | [] => [a]
 | b :: l => if a < b then a :: b :: l else if a = b then b :: l else b :: M3 a l
def Ib : List Int → List Int
 | [] => []
 | a :: l => M3 a (Ib l)
section
variable {X : L2.Cx} {T : Tb} {W : WX} {k : Nat} {a iter : Expr} {ma : M D} {pf pos pe pt px p0 pc pos2 : Pos} {x : Str} {scope : Scope} {cl : List (Str × Addr)} {c : Int} {k0 : Nat}
def Wc (w0 : World) (c : Int) : bG V D := fun _ _ _ _ _ H _ v d => ∃ p is n, v = .ref p ∧ d = .fl (is.map .int) ∧ H p = some (SetO w0 p (Qu is c is.length) n) ∧ n ≤ is.length ∧ is.length ≤ 50
def We : D → Option D
 | .tup l => match D.ints l with
   | some is => if is.length ≤ 50 then some (.fl (is.map .int)) else none
   | none => none
 | _ => none
def Ra (c : Int) (_ : Hh) (d : D) : Option D := match d with
 | .fl l => match D.ints l with
   | some is => some (.nl ((Ib (is.filter fun k => decide (k > c))).map .int))
   | none => none
 | _ => none
def M4 (a : Int) : List Int → List Int
 | [] => [a]
 | b :: l => if a ≤ b then a :: b :: l else b :: M4 a l
def Ie : List Int → List Int
 | [] => []
 | a :: l => M4 a (Ie l)
def QS (h : Hh) (d : D) : Option D := match d.lints h with
 | some is => if is.length < 64 then some (.nl ((Ie is).map .int)) else none
 | none => none
end
end Pk
namespace Pk
open PySem PySem.Spec L2
def Wf : bG It (Nat × List D × List D) := fun K T B _ w _ _ J x => ∀ i w1 σ1 H1 fr1 h1, w.le w1 → Rel K T B w1 σ1 H1 fr1 h1 → h1[x.1]? = some (.nl x.2.1) →
 (x.2.2.length ≤ i → J.stop i H1) ∧ ∀ d, x.2.2[i]? = some d → J.go i H1 ∧ ∀ y H2, J.yld i H1 y H2 → ∃ w2, w1.le w2 ∧ Rel K T B w2 σ1 H2 fr1 h1 ∧ aA K T w2 y d
open Classical in
noncomputable def Cr (n : Nat) (l : List D) (g : D → M Unit) (b : M Fl) : List D → M Fl
 | [] => fun fr h => if h[n]? = some (.nl l) then .ok .nx fr h else .err
 | d :: ds => fun fr h => if h[n]? = some (.nl l) then (match g d fr h with
   | .ok _ fr h => match b fr h with
     | .ok .nx fr h => Cr n l g b ds fr h
     | .ok .ct fr h => Cr n l g b ds fr h
     | .ok .brk fr h => .ok .nx fr h
     | .ok (.rt d) fr h => .ok (.rt d) fr h
     | .exc x fr h => .exc x fr h
     | .err => .err
   | _ => .err) else .err
noncomputable def Rb (li : M (Nat × List D × List D)) (g : D → M Unit) (b : M Fl) : M Fl := li.bind fun x => Cr x.1 x.2.1 g b x.2.2
def yo (h : Hh) (d : D) : Option (Nat × List D) := match d with
 | .ref n => match h[n]? with
   | some (.nl l) => some (n, l)
   | _ => none
 | _ => none
def U7 (m : M D) : M (Nat × List D × List D) := m.bind fun d fr h => M.opt ((yo h d).map fun x => (x.1, x.2, x.2)) fr h
def Qv (h : Hh) (d e : D) : Option (Nat × List D × List D) := match yo h d, e with
 | some (n, l), .fl m => some (n, l, nQ l m)
 | _, _ => none
def Tt (ma mb : M D) : M (Nat × List D × List D) := ma.bind fun d => mb.bind fun e fr h => M.opt (Qv h d e) fr h
section
variable {X : Cx} {T : Tb} {W : WX} {k kk : Nat} {pos p tpos : Pos} {tg iter a c : Expr} {elts : List Expr} {body : List Stmt} {g : D → M Unit} {b : M Fl} {is : List Nat} {li : M (Nat × List D × List D)} {ma mb : M D}
end
end Pk
namespace PySem
namespace SlK
open Sem (wp)
open PySem.W PySem.Calls PyProof.Rows
section
variable {prog : Program} {w : World} {A : Around} {E : Value → Shared → Prop} {h : Heap} {g : Array GenState} {d : Drawn} {t : Nat} {os : OsState} {a : Addr} {o : Obj}
end
section
variable {prog : Program} {w : World} {A : Around} {E : Value → Shared → Prop} {s : Shared} {K : Frag} {x C L f : Addr} {h₀ : Heap} {m : Str → Option Value} {ox : Obj} {od : Option Obj}
end
end SlK
end PySem
namespace Pk
open PySem PySem.Spec L2
def U8 (K : PySem.W.Frag) (C : Addr) : Bool := PySem.W.noSeq K C
structure U9 (K : PySem.W.Frag) (T : Tb) (mt : Nat → Option Fn) : Prop where
 ex : ∀ c F, mt c = some F → PySem.W.noSeq K (T.cad c) = true
section
variable {X : Cx} {T : Tb} {W : WX} {k kk j n c : Nat} {pos pf px p2 : Pos} {a b e : Expr} {es : List Expr} {lo hi : Option Expr} {ma mb m : M D} {ml mh : M (Option Int)} {x : Str}
def Rh (mt : Nat → Option Fn) (ma : M D) (ml mh : M (Option Int)) : M D := ma.bind fun o => ml.bind fun l => mh.bind fun u => HQ mt o [.sl l u]
def Qw (t : String) : Bool := ["int", "bool", "str", "tuple", "list"].contains t
def Tu (tab : Tg → Tg → Option Bool) (h : Hh) (d c : D) : Option D := match d with
 | .sl _ _ => match c with
   | .ty t => if Qw t then some (.bl false) else none
   | _ => none
 | d => nH tab h d c
theorem qd {tab : Tg → Tg → Option Bool} (F : vH X.K T tab) {B : Bs} {w : Wd} {σ : L2.St} {H : Hp} {fr : Fr} {h : Hh} {x y : V} {d e z : D} {Q : VK} (R : Rel X.K T B w σ H fr h) (rx : aA X.K T w x d) (ry : aA X.K T w y e) (q : nH tab h d e = some z)
 (kk : ∀ w' H' v, w.le w' → Rel X.K T B w' σ H' fr h → vV X.K T B σ w' H' fr v z → Q v H') : cM X (.builtin "isinstance") [x, y] H Q := by
 unfold nH at q
 cases et : d.tag h with
 | none => rw [et] at q; cases q
 | some t =>
   rw [et] at q
   have one : ∀ u, e.ctag = some u → (tab t u).map D.bl = some z → cM X (.builtin "isinstance") [x, y] H Q := fun u ec eq => by
    obtain ⟨bb, eb, rfl⟩ := Option.map_eq_some_iff.mp eq
    exact bJ call_isi ⟨x, y, t.v T, u.v T, bb, rfl, sG ry ec, qZ F R (.inl rx) et eb, F.kit t u bb eb, kk w H _ (Wd.le_refl _) R (.bl bb)⟩
   cases e with
   | tup l =>
     dsimp only at q
     cases ec : kY l with
     | none => rw [ec] at q; cases q
     | some us =>
       rw [ec] at q
       cases us with
       | nil => cases q
       | cons u us =>
         obtain ⟨bb, eb, rfl⟩ := Option.map_eq_some_iff.mp q
         obtain ⟨p, vs, rfl, sq, rs⟩ := iK ry
         have ty : TyX X.K H x (t.v T) := by
          rcases rN eb with z | ⟨u', b', z⟩
          · cases z
          · exact qZ F R (.inl rx) et z
         exact bJ wA ⟨x, p, vs, t.v T, (u :: us).map (Tg.v T), bb, rfl, aV R.sub sq, pN rs ec, ty, nJ F eb, kk w H _ (Wd.le_refl _) R (.bl bb)⟩
   | cls c => exact one _ rfl q
   | ty t => exact one _ rfl q
   | _ => cases q
def Tv (h : Hh) (d i : D) : Option D := match i with
 | .sl lo hi => match d.der h with
   | .fl l => some (.nl (cutD l lo hi))
   | .nl l => some (.nl (cutD l lo hi))
   | .kl l => some (.nl (cutD l lo hi))
   | _ => none
 | i => eQ h d i
end
end Pk
namespace Pk
open PySem PySem.Spec L2
section
variable {X : Cx} {T : Tb} {W : WX} {k kk j n c : Nat} {pos pf px p2 p pr : Pos} {a b e : Expr} {es : List Expr} {ma mb m : M D} {ms : List (M D)} {x : Str}
def Qx (a b : Int) : Bool := decide (-(2 ^ 62) ≤ a) && decide (a < 2 ^ 62) && decide (-(2 ^ 62) ≤ b) && decide (b < 2 ^ 62) && decide ((b - a).toNat ≤ 2 ^ 24)
def Ri (a b : Int) : List D := (List.range (b - a).toNat).map fun i => D.int (a + (i : Nat))
def PN (x y : D) : Option D := match x, y with
 | .int a, .int b => if Qx a b then some (.nl (Ri a b)) else none
 | _, _ => none
def Rj (ma : M D) : M D := ma.bind fun n => M.opt (PN (.int 0) n)
def Rk (ma mb : M D) : M D := ma.bind fun a => mb.bind fun b => M.opt (PN a b)
def Va (i : Nat) (f : Int → Int → Int) (m : M D) : M Fl := fun fr h => match fr[i]? with
 | some (some (.int a)) => (m.bind fun d fr h => match d with
   | .int b => .ok .nx (fr.set i (some (.int (f a b)))) h
   | _ => .err) fr h
 | _ => .err
def Qy (d : D) : Option D := match d with
 | .str y => if y.length ≤ big then some (.str y) else none
 | .int i => if i.natAbs.log2 < 1920 then some (.str (toString i)) else none
 | _ => none
def Vb (m : M D) : M D := m.bind fun d => M.opt (Qy d)
def vS : bG Str Str := fun _ _ _ _ _ _ _ b c => b = c
def M5 : List (M D) → Str → M Str
 | [], acc => M.ret acc
 | m :: ms, acc => m.bind fun d => match d with
   | .str y => if (acc ++ y).length ≤ big then M5 ms (acc ++ y) else M.opt none
   | _ => M.opt none
def Vc (X : Cx) (T : Tb) (W : WX) (es : List Expr) (ms : List (M D)) : Prop := ∀ acc, bO (fun σ H Q => tJs (es.map fun e => (WE X e : TE)) acc σ H Q) X.K T W vS (M5 ms acc)
def Tw (ms : List (M D)) : M D := (M5 ms Str.empty).bind fun s => M.ret (.str s)
end
structure WM (X : Cx) (cs : List MatchCase) (z : Str) (D : Ends) (σ : L2.St) (H : Hp) : Prop where
 go : ∀ pins s t first, Inv X pins σ H s → wpAny (model X.prog X.w) X.A (matchCases cs X.env (.str z t) first) (SP X pins D) X.xe s
structure Vd (X : Cx) (p : Pattern) (ss : List Str) : Prop where
 go : ∀ (z : Str) pins (σ : L2.St) (H : Hp) s t (R : Option (List (Str × Value)) → Shared → Prop), Inv X pins σ H s → (∀ s', Inv X pins σ H s' → R (if ss.contains z then some [] else none) s') → wpAny (model X.prog X.w) X.A (matchPattern p X.env (.str z t)) R X.xe s
structure Tz (X : Cx) (ps : List Pattern) (ss : List Str) : Prop where
 go : ∀ (z : Str) pins (σ : L2.St) (H : Hp) s t (R : Option (List (Str × Value)) → Shared → Prop), Inv X pins σ H s → (∀ s', Inv X pins σ H s' → R (if ss.contains z then some [] else none) s') → wpAny (model X.prog X.w) X.A (matchFirst ps X.env (.str z t)) R X.xe s
section
variable {X : Cx} {T : Tb} {W : WX} {pos p2 : Pos} {e : Expr} {m : M D} {cs : List MatchCase} {ms : List (List Str × M Fl)} {body : List Stmt} {mb : M Fl} {pt : Pattern} {pts : List Pattern} {ss ts : List Str} {y : Str} {jj : Nat}
def Ve (X : Cx) (T : Tb) (W : WX) (cs : List MatchCase) (m : Str → M Fl) : Prop := ∀ z, ∀ (B : Bs) (w : Wd) (σ : L2.St) (H : Hp) (fr : Fr) (h : Hh) (D : Ends), Rel X.K T B w σ H fr h → aP X.K T B W w (m z fr h) D → WM X cs z D σ H
def M6 : List (List Str × M Fl) → Str → M Fl
 | [], _ => M.ret .nx
 | (ss, b) :: r, z => if ss.contains z then b else M6 r z
def Rm (m : M D) (f : Str → M Fl) : M Fl := m.bind fun d => match d with
 | .str z => f z
 | _ => fun _ _ => .err
end
end Pk
namespace Pk
open PySem PySem.Spec L2
section
variable {X : Cx} {T : Tb} {W : WX} {k : Nat} {pos pf : Pos} {a : Expr} {ma : M D}
def TF (_ : Hh) (d : D) : Option D := match d with
 | .int i => if i.natAbs.log2 < 1920 then some (.str (toString i)) else none
 | .str z => some (.str z)
 | _ => none
end
end Pk
namespace Pk
open PySem PySem.Spec L2
section
variable {X : Cx} {T : Tb} {W : WX} {k j : Nat} {pos : Pos} {a b : Expr} {ma mb : M D}
end
end Pk
namespace Pk
open PySem PySem.Spec PyProof.Rows L2
section
variable {prog : Program} {w : World} {A : Around} {E : Value → Shared → Prop} {s : Shared} {l : Addr} {its : List Value} {ns : List Int} {Q : Value → Shared → Prop}
end
def TJ (K : PySem.W.Frag) : List V → Hp → VK → Prop := fun vs H Q => ∃ (a : Addr) (ns : List Int), vs = [V.ref a] ∧ SqT K H a (ns.map V.int) ∧ Q (.int ns.sum) H
section
variable {X : Cx} {T : Tb} {W : WX} {k : Nat} {e a b c : Expr} {es : List Expr} {m ma mb mc : M D} {pos pf : Pos}
def TQ (h : Hh) (d : D) : Option D := match d with
 | .tup l => (D.ints l).map fun l => .int l.sum
 | _ => P0 h d
end
end Pk
namespace PySem
namespace OwA
open PySem.W PySem.Calls PyProof.Rows
section
variable {prog : Program} {w : World} {A : Around} {E : Value → Shared → Prop} {s : Shared} {K : Frag} {x C L f : Addr} {h₀ : Heap} {m : Str → Option Value} {ox : Obj} {od : Option Obj}
end
end OwA
end PySem
namespace Pk
open PySem PySem.Spec L2
section
variable {X : Cx} {T : Tb} {W : WX} {k j : Nat} {pos pf : Pos} {a b : Expr} {ma mb : M D}
def Vf (mt : Nat → Option Fn) (ma : M D) : M D := ma.bind fun o => vP mt o []
def TV (K : PySem.W.Frag) (C : Addr) (f : Str) (i : Int) : Bool := uE K C && (match PySem.W.findCls K (.ref C) (.type "type") f with
 | some (.val (.int j _)) => decide (j = i)
 | _ => false)
end
end Pk
namespace PySem
namespace OwO
open PySem.W PySem.Calls PyProof.Rows
section
variable {prog : Program} {w : World} {A : Around} {E : Value → Shared → Prop} {s : Shared} {x C dx : Addr}
end
structure NmOk (nm : String) : Prop where
 n0 : fillsNumberSlot (.type "NoneType") nm = pure false
 n1 : fillsNumberSlot (.type "str") nm = pure false
 n2 : fillsNumberSlot (.type "list") nm = pure false
 n3 : fillsNumberSlot (.type "tuple") nm = pure false
 i0 : fillsNumberSlot (.type "int") nm = pure true
 b0 : fillsNumberSlot (.type "bool") nm = pure true
 i1 : numberSlotInPython (.type "int") nm = pure false
 b1 : numberSlotInPython (.type "bool") nm = pure false
 i2 : ∃ tk, typeLookup (.type "int") (dunderR nm) = pure tk
 b2 : ∃ tk, typeLookup (.type "bool") (dunderR nm) = pure tk
 ti : ∀ (prog : Program) (w : World) (A : Around) (E : Value → Shared → Prop) (s : Shared) (x C dx : Addr) (a : Int) (t : Tok), s.heap.get? x = some (instObj C dx) → ∀ P' : Option Value → Shared → Prop, P' none s → wpAny (model prog w) A (tryMethod (.int a t) (PySem.dunder nm) (.ref x)) P' E s
 tb : ∀ (prog : Program) (w : World) (A : Around) (E : Value → Shared → Prop) (s : Shared) (x C dx : Addr) (a : Bool), s.heap.get? x = some (instObj C dx) → ∀ P' : Option Value → Shared → Prop, P' none s → wpAny (model prog w) A (tryMethod (.bool a) (PySem.dunder nm) (.ref x)) P' E s
end OwO
end PySem
namespace Pk
open PySem PySem.Spec L2
structure Wg (X : Cx) (T : Tb) (k : Nat) (nm : String) (mt : Nat → Option Fn) : Prop where
 ok : PySem.OwO.NmOk nm
 ex : ∀ c F, mt c = some F → ∃ (kk : Nat) (f : Addr) (fd : FuncData) (ps : List Str), Cls X.K (T.cad c) ∧ Meth X.K (T.cad c) (PySem.dunder nm) f ∧ PySem.W.selfFirst X.K (T.cad c) = true ∧ dB X.prog X.w X.K X.mg X.base T kk f fd ps F ∧ Bn X.K T fd ps 2 [] (aU []) ∧ kk ≤ k ∧
  ∃ g, PySem.W.findIn X.K (.ref (T.cad c)) (PySem.dunderR nm) = some (some (.ref g))
structure Vg (X : Cx) (T : Tb) (k : Nat) (nm : String) (mt : Nat → Option Fn) : Prop where
 ex : ∀ c F, mt c = some F → ∃ (kk : Nat) (f : Addr) (fd : FuncData) (ps : List Str), Cls X.K (T.cad c) ∧ Meth X.K (T.cad c) (PySem.dunderR nm) f ∧ PySem.W.selfFirst X.K (T.cad c) = true ∧ dB X.prog X.w X.K X.mg X.base T kk f fd ps F ∧ Bn X.K T fd ps 2 [] (aU []) ∧ kk ≤ k ∧
  (∃ g, PySem.W.findIn X.K (.ref (T.cad c)) (PySem.dunder nm) = some (some (.ref g))) ∧ PySem.W.subIn X.K (.ref (T.cad c)) (.type "int") = some false ∧ PySem.W.subIn X.K (.ref (T.cad c)) (.type "bool") = some false
def O5 (mtl mtr : Nat → Option Fn) (h : Hh) (x y : D) : Option (Fn × Bool) := match rA h x y with
 | some c => (mtl c).map fun F => (F, false)
 | none => match fnOf mtl h x, y.bty h with
   | some F, some _ => some (F, false)
   | _, _ => match fnOf mtr h y, x.smp with
     | some F, true => some (F, true)
     | _, _ => none
def Vh (mtl mtr : Nat → Option Fn) (ma mb : M D) : M D := ma.bind fun x => mb.bind fun y fr h => match O5 mtl mtr h x y with
 | some (F, false) => bH fr (F [x, y] h)
 | some (F, true) => bH fr (F [y, x] h)
 | none => .err
section
variable {X : Cx} {T : Tb} {W : WX} {k : Nat} {a b : Expr} {ma mb : M D} {pos : Pos} {op : Operator}
def zu (X : Cx) (T : Tb) (W : WX) (k : Nat) (σ : L2.St) (f : Addr) (x y : V) (H2 : Hp) (Q : VK) : Prop :=
 ∃ (kk : Nat) (fd : FuncData) (ps : List Str) (G : Fn), dB X.prog X.w X.K X.mg X.base T kk f fd ps G ∧ Bn X.K T fd ps 2 [] (aU []) ∧ kk ≤ k ∧
   ∀ g gV, KBn X.K fd ps 2 [] g gV → (∀ (w : Wd) (vs zs : List V) (ds es : List D), aa X.K T w vs ds → aa X.K T w zs es → ds.length = 2 → es.length = ([] : List Str).length → aa X.K T w (gV vs zs) (aU [] ds es) ∧ (aU [] ds es).length = ps.length) →
     spF X.K T ps.length G (gV [x, y] []) H2 Q (fun c d H' => W c d σ H')
def Ro (X : Cx) (T : Tb) (W : WX) (k : Nat) (op : Operator) (σ : L2.St) (x y : V) (H2 : Hp) (Q : VK) : Prop :=
 (∃ (p1 p2 C dx dy f : Addr) (fs gs : List (Str × V)), x = .ref p1 ∧ y = .ref p2 ∧ H2 p1 = some (.ins C dx fs) ∧ H2 p2 = some (.ins C dy gs) ∧ Meth X.K C (PySem.dunder op.info.2) f ∧ PySem.W.selfFirst X.K C = true ∧ zu X T W k σ f x y H2 Q) ∨
 (∃ (p1 C dx f g : Addr) (fs : List (Str × V)) (t : String), x = .ref p1 ∧ H2 p1 = some (.ins C dx fs) ∧ TyX X.K H2 y (.type t) ∧ t ∈ nA ∧ Meth X.K C (PySem.dunder op.info.2) f ∧ PySem.W.selfFirst X.K C = true ∧ PySem.W.findIn X.K (.ref C) (PySem.dunderR op.info.2) = some (some (.ref g)) ∧ zu X T W k σ f x y H2 Q) ∨
 (∃ (p1 C dx f g : Addr) (fs : List (Str × V)), y = .ref p1 ∧ H2 p1 = some (.ins C dx fs) ∧ (x = .non ∨ (∃ bb, x = .bl bb) ∨ ∃ i, x = .int i) ∧ Meth X.K C (PySem.dunderR op.info.2) f ∧ PySem.W.selfFirst X.K C = true ∧ PySem.W.findIn X.K (.ref C) (PySem.dunder op.info.2) = some (some (.ref g)) ∧ PySem.W.subIn X.K (.ref C) (.type "int") = some false ∧ PySem.W.subIn X.K (.ref C) (.type "bool") = some false ∧ zu X T W k σ f y x H2 Q)
end
end Pk
namespace Pk
open PySem PySem.Spec L2
def D.lstP (h : Hh) (d : D) : Option (List PyData) := match d.der h with
 | .fl l => D.toPs l
 | .nl l => D.toPs l
 | .kl l => D.toPs l
 | _ => none
section
variable {K : PySem.W.Frag} {T : Tb} {B : Bs} {w : Wd} {σ : L2.St} {H : Hp} {fr : Fr} {h : Hh} {v : V} {d : D} {ps : List PyData}
end
section
variable {X : Cx} {T : Tb} {W : WX} {k : Nat}
def Qz (h : Hh) (x y : D) : Option Bool := match x.toP, y.lstP h with
 | some p, some ps => if SeqAt.shaped p && SeqAt.shaped (.list ps) then some (ps.any fun z => PyData.eqv z p) else none
 | _, _ => none
def TY (h : Hh) (x y : D) : Option Bool := (Qz h x y).map (!·)
def Jw (h : Hh) (o x : D) : Option D := match x.toP, o.lstP h with
 | some p, some ps => if SeqAt.shaped p && SeqAt.shaped (.list ps) then (ps.findIdx? fun z => PyData.eqv z p).map (fun j => .int (j : Nat)) else none
 | _, _ => none
def Rp (mo m : M D) : M D := mo.bind fun o fr h => if (o.lstP h).isSome then m.bind (fun x fr h => M.opt (Jw h o x) fr h) fr h else .err
variable {e o : Expr} {m mo : M D} {cpos apos : Pos}
end
end Pk
namespace Pk
open PySem PySem.Spec L2
theorem M.bind_assoc {α β γ : Type} {m : M α} {f : α → M β} {g : β → M γ} : (m.bind f).bind g = m.bind fun a => (f a).bind g := by
 funext fr h
 unfold M.bind
 cases m fr h <;> rfl
def Vi (ix : Nat → Option Nat) (x : D) : M D := fun fr h => M.opt (gG ix h x) fr h
section
variable {X : Cx} {T : Tb} {W : WX} {k j : Nat} {apos pos : Pos} {o b : Expr} {mo mb : M D} {f : Str} {ix : Nat → Option Nat}
end
end Pk
namespace Pk
open PySem PySem.Spec L2
def Wh : bG It (Nat × List D × List D) := fun K T _ _ w _ _ J x => ∀ i w1 B1 σ1 H1 fr1 h1, w.le w1 → Rel K T B1 w1 σ1 H1 fr1 h1 → h1[x.1]? = some (.nl x.2.1) →
 (x.2.2.length ≤ i → J.stop i H1) ∧ ∀ d, x.2.2[i]? = some d → J.go i H1 ∧ ∀ y H2, J.yld i H1 y H2 → ∃ w2, w1.le w2 ∧ Rel K T B1 w2 σ1 H2 fr1 h1 ∧ aA K T w2 y d
open Classical in
noncomputable def Ih (n : Nat) (l : List D) (vs : List Nat) (g : D → M Unit) (t : M Bool) (e : M D) : List D → M (List D)
 | [] => fun fr h => if h[n]? = some (.nl l) then .ok [] fr h else .err
 | d :: ds => fun fr h => if h[n]? = some (.nl l) then ((jB vs g t e d).bind fun o => (Ih n l vs g t e ds).bind fun r => M.ret (vq o r)) fr h else .err
noncomputable def Vj (vs : List Nat) (l : M (Nat × List D × List D)) (g : D → M Unit) (t : M Bool) (e : M D) : M D := l.bind fun x => (BP vs).bind fun _ => if x.2.2.length ≤ big then (Ih x.1 x.2.1 vs g t e x.2.2).bind fun r => M.ret (.nl r) else M.opt none
section
variable {X : Cx} {T : Tb} {W : WX} {k : Nat} {pos pos' : Pos} {tg iter elt c e : Expr} {ifs : List Expr} {li : M (Nat × List D × List D)} {g : D → M Unit} {b : M Fl} {is : List Nat} {t : M Bool} {m me : M D} {scope : Scope} {own : List (Str × Nat)} {body : List Stmt}
end
section
variable {X : Cx} {T : Tb} {W : WX} {k : Nat} {pos : Pos} {tg iter elt : Expr} {ifs : List Expr} {lj : M (List D)} {g : D → M Unit} {is : List Nat} {t : M Bool} {me : M D} {scope : Scope} {own : List (Str × Nat)}
end
end Pk
namespace Pk
open PySem PySem.Spec L2
def keyD : D → Option Key
 | .int i => some (.inl i)
 | .str s => some (.inr s)
 | _ => none
def Ii : List D → Option (List Key)
 | [] => some []
 | d :: ds => (keyD d).bind fun k => (Ii ds).map fun ks => k :: ks
def valD : List (List Key) → List D → List Key → Option D
 | k' :: ks, d :: ds, k => if k' = k then some d else valD ks ds k
 | _, _, _ => none
def M7 (ks : List (List Key)) (k : List Key) : Bool := ks.any fun k' => decide (k' = k)
def O6 (ks : List (List Key)) (k : List Key) : List (List Key) := if M7 ks k = true then ks else ks ++ [k]
def O7 {α : Type} (ks : List (List Key)) (ds : List α) (k : List Key) (v : α) : List α := if M7 ks k = true then List.zipWith (fun k' d => if k' = k then v else d) ks ds else ds ++ [v]
def Ij (ds : List D) : Option (List Key) := if ds.length ≤ big then Ii ds else none
def Ea (h : Hh) (d : D) : Option (Nat × List (List Key) × List D) := match d with
 | .ref n => match h[n]? with
   | some (.dc ks ds) => some (n, ks, ds)
   | _ => none
 | _ => none
def O8 (h : Hh) (o : D) (ks : List D) : Option D := (Ea h o).bind fun x => (Ij ks).bind fun k => valD x.2.1 x.2.2 k
def O9 (h : Hh) (o : D) (ks : List D) (d : D) : Option Hh := (Ea h o).bind fun x => (Ij ks).bind fun k => if x.2.1.length ≤ big then some (h.set x.1 (.dc (O6 x.2.1 k) (O7 x.2.1 x.2.2 k d))) else none
def T5 : M D := fun fr h => .ok (.ref h.length) fr (h ++ [.dc [] []])
def T6 (mo : M D) (ms : List (M D)) : M D := mo.bind fun o => (az ms).bind fun ks fr h => M.opt (O8 h o ks) fr h
def T7 (mo : M D) (ms : List (M D)) (mv : M D) : M Fl := mv.bind fun d => mo.bind fun o => (az ms).bind fun ks fr h => match O9 h o ks d with
 | some h' => .ok .nx fr h'
 | none => .err
section
variable {X : Cx} {T : Tb} {W : WX} {k x1 : Nat} {pos tpos pos' : Pos} {o e : Expr} {es : List Expr} {mo m : M D} {ms : List (M D)}
end
end Pk
namespace Pk
open PySem PySem.Spec L2
def Vk (K : PySem.W.Frag) (ta : TE) (f : Str) : TG := fun v σ H Q => ta σ H fun x H1 => ∃ a C dx fs, x = .ref a ∧ H1 a = some (.ins C dx fs) ∧ Cls K C ∧ NoAttr K C f ∧ fs.length < 1000 ∧ Q σ (upd H1 a (.ins C dx (putF f v fs)))
section
variable {X : Cx} {o : Expr} {f : Str} {pos : Pos} {ta : TE}
end
def T8 (j : Nat) (ix : Nat → Option Nat) (d : D) : M Unit := fun fr h => match fr[j]? with
 | some (some (.ref n)) => match h[n]? with
   | some (.no c fs) => match ix c with
     | some i => match kW i d fs with
       | some fs' => .ok () fr (h.set n (.no c fs'))
       | none => .err
     | none => .err
   | _ => .err
 | _ => .err
section
variable {X : Cx} {T : Tb} {W : WX} {k kk n c : Nat} {px tpos p pos : Pos} {f : Addr} {fd : FuncData} {ps : List Str} {F : Fn} {x : Str} {e : Expr} {es : List Expr} {ma mk : M (List D)} {gD : List D → List D → List D}
structure Wi (P : Program) (w : World) (K : PySem.W.Frag) (mg : Str → Option Value) (base : Heap) (T : Tb) (k c : Nat) (f : Addr) (fd : FuncData) (ps : List Str) (F : Fn) : Prop where
 ok : FnOk P w K mg base (L2.CX P w) k f fd ps (spF K T ps.length F)
 made : Mk K (T.cad c) f
def Pa (fr : Fr) (n : Nat) : R D → R D
 | .ok .non _ h => .ok (.ref n) fr h
 | .ok _ _ _ => .err
 | .exc x _ h => .exc x fr h
 | .err => .err
def Rr (c n m : Nat) (F : Fn) (gD : List D → List D → List D) (ma mk : M (List D)) : M D := ma.bind fun ds => mk.bind fun es fr h => if ds.length = n ∧ es.length = m then Pa fr h.length (F (.ref h.length :: gD ds es) (h ++ [.no c []])) else .err
end
def T9 (h : Hh) (d e : D) : Option D := match d, e with
 | .fl a, .ref n => match h[n]? with
   | some (.nl b) => if a.length + b.length ≤ big then some (.nl (a ++ b)) else none
   | _ => none
 | _, _ => none
section
variable {X : Cx} {T : Tb} {W : WX} {pos : Pos} {a b : Expr} {ma mb : M D}
end
end Pk
namespace Pk
open PySem PySem.Spec L2
def Ru (m : M D) : M (Nat × List D × List D) := m.bind fun d fr h => M.opt ((yo h d).map fun x => (x.1, x.2, jf 0 x.2)) fr h
section
variable {X : Cx} {T : Tb} {W : WX} {p pos tpos : Pos} {kk : Nat} {elts : List Expr} {a : Expr} {ma : M D}
end
end Pk
namespace Pk
open PySem PySem.Spec L2
def QT (j : Nat) (ix : Nat → Option Nat) (f : Int → Int → Int) (m : M D) : M Fl := fun fr h => match fr[j]? with
 | some (some (.ref n)) => match h[n]? with
   | some (.no c fs) => match ix c with
     | some i => match fs[i]? with
       | some (.int a) => (m.bind fun d fr h => match d with
         | .int b => match h[n]? with
           | some (.no c' fs') => if c' = c then match kW i (.int (f a b)) fs' with
            | some fs'' => .ok .nx fr (h.set n (.no c fs''))
            | none => .err
            else .err
           | _ => .err
         | _ => .err) fr h
       | _ => .err
     | none => .err
   | _ => .err
 | _ => .err
section
variable {X : Cx} {T : Tb} {W : WX} {k : Nat} {px pos tpos apos cpos : Pos} {e o : Expr} {m mo : M D}
def QC (d : D) (l : List D) : Option (List D) := match d with
 | .fl r => if l.length + r.length ≤ big then some (l ++ r) else none
 | _ => none
def Ua (i : Nat) (m : M D) : M D := (aH i fM).bind fun _ => m.bind fun d => (aH i (QC d)).bind fun _ => M.ret .non
end
def Bc (i : Nat) (f : Hh → D → D → Option Bool) (m mt : M D) (b : M Fl) : Nat → M Fl
 | 0 => fun _ _ => .err
 | n + 1 => m.bind fun d fr h => (mt.bind fun t fr h => match f h d t with
   | some true => (match b fr h with
     | .ok .nx fr h => Bc i f m mt b n fr h
     | .ok .ct fr h => Bc i f m mt b n fr h
     | .ok .brk fr h => .ok .nx fr h
     | .ok (.rt d) fr h => .ok (.rt d) fr h
     | .exc x fr h => .exc x fr h
     | .err => .err)
   | some false => .ok .nx fr h
   | none => .err) (fr.set i (some d)) h
section
variable {X : Cx} {T : Tb} {W : WX} {k : Nat} {pos px npos cpos : Pos} {e t : Expr} {m mt : M D} {body : List Stmt} {b : M Fl} {x : Str}
end
end Pk
namespace Pk
open PySem PySem.Spec L2
section
variable {P : Program} {w : World} {K : PySem.W.Frag} {mg : Str → Option Value} {base : Heap} {T : Tb} {k : Nat} {x qual : Str} {params : Arguments} {body : List Stmt} {scope : Scope} {dvs : List V} {kws : List (Str × V)} {f : Addr} {fd : FuncData} {N ps : List Str} {p0 pv : Str}
end
def Rv (K : PySem.W.Frag) (T : Tb) (F : Fn) : Sp := fun vs H Q E => ∃ ws rest, vs = ws ++ rest ∧ ws.length = 1 ∧ rest.length ≤ sizeLine ∧ ∀ p, H p = Option.none → spF K T 2 F (ws ++ [V.ref p]) (upd H p (.tup rest)) Q E
structure Rx (P : Program) (w : World) (K : PySem.W.Frag) (mg : Str → Option Value) (base : Heap) (T : Tb) (k : Nat) (f : Addr) (F : Fn) : Prop where
 run : FnR P w K mg base (L2.CX P w) k f (Rv K T F)
section
variable {P : Program} {w : World} {K : PySem.W.Frag} {mg : Str → Option Value} {base : Heap} {T : Tb} {k : Nat} {x qual : Str} {params : Arguments} {body : List Stmt} {scope : Scope} {f : Addr} {fd : FuncData} {N : List Str} {p0 pv : Str}
end
def Ry (mt : Nat → Option Fn) (mo : M D) (ma : M (List D)) : M D := mo.bind fun o fr h => match fnOf mt h o with
 | some F => (ma.bind fun ds fr h => if ds.length ≤ big then bH fr (F [o, .tup ds] h) else .err) fr h
 | none => .err
def Vl (m : M D) (ma : M (List D)) : M (List D) := m.bind fun d fr h => match d.its h with
 | some l => (ma.bind fun r => M.ret (l ++ r)) fr h
 | none => .err
def Ub (m : M D) (ma : M (List D)) : M (List D) := m.bind fun d => ma.bind fun r => M.ret (d :: r)
structure Rz (X : Cx) (T : Tb) (k : Nat) (m : Str) (mt : Nat → Option Fn) : Prop where
 ex : ∀ c F, mt c = some F → ∃ (kk : Nat) (f : Addr), Cls X.K (T.cad c) ∧ BMeth X.K (T.cad c) m f ∧ Rx X.prog X.w X.K X.mg X.base T kk f F ∧ m ∉ T.fld c ∧ kk ≤ k
section
variable {X : Cx} {T : Tb} {W : WX} {k kk : Nat} {f : Addr} {F : Fn} {m : Str} {p sp_ pos apos : Pos} {e o : Expr} {es : List Expr} {mo me : M D} {ma : M (List D)} {mt : Nat → Option Fn}
end
def Wj (K : PySem.W.Frag) (C : Addr) (m : Str) : Bool := He.eqO (PySem.W.specialIn K (.ref (He.ma K C m)) "__get__") (some (some (.builtin "function.__get__"))) && (decide (PySem.W.takesIn K (.ref (He.ma K C m)) = some false) && (decide (PySem.W.copiedNames.contains m = false) && PySem.W.fnIn K (He.ma K C m)))
end Pk
namespace Pk
open PySem PySem.Spec PyProof.Rows L2 GenW
section
variable {prog : Program} {w : World} {A : Around} {R : GenEnd} {Y : Protocol} {n : Nat} {s₀ : Shared} {c : Code} {fs : List Frame} {s : Shared} {env : Env} {K : Flow → Sem PySem.Fin} {J : Value → Sem PySem.Fin} {gd : Bool → Bool} {lv : List Value → List Value}
abbrev iz (env : Env) (e : Value) : Sem PySem.Fin := (do noteFrame e env; theTreesLotGoes e : Sem Unit).wrap (fun _ => .raise e) .raise id id
abbrev turned (target : Expr) (it : Value) (body : List Stmt) (env : Env) : Flow → Sem PySem.Fin := fun f => match f with
 | .next | .cont => .pure (.again (.forLoop target it body [] env))
 | .brk => .pure (.done .next)
 | .ret v => .pure (.done (.ret v))
theorem rQ {target : Expr} {it : Value} {body : List Stmt}
 (h : wpAny (model prog w) (A.over (.forLoop target it body [] env) fs) (pyNext it) (fun r s' => match r with
  | none => Seg (model prog w) A R Y n s₀ (.forLoop target it body [] env) (.pure (.again (.block [] env))) fs s'
  | some v => wpAny (model prog w) (A.over (.forLoop target it body [] env) fs) (letOwnedTupleGo target it v) (fun _ s1 => wpAny (model prog w) (A.over (.forLoop target it body [] env) fs) (assign target env v) (fun _ s2 =>
   Seg (model prog w) A R Y n s₀ (.forLoop target it body [] env) ((execs body env).wrap (turned target it body env) (iz env) id id) fs s2)
   (fun x s' => Seg (model prog w) A R Y n s₀ (.forLoop target it body [] env) (iz env x) fs s') s1) (fun x s' => Seg (model prog w) A R Y n s₀ (.forLoop target it body [] env) (iz env x) fs s') s')
  (fun x s' => Seg (model prog w) A R Y n s₀ (.forLoop target it body [] env) (iz env x) fs s') s) :
 Seg (model prog w) A R Y n s₀ (.forLoop target it body [] env) ((model prog w).den (.forLoop target it body [] env)) fs s := by
 show Seg _ A R Y n s₀ _ ((forTurn target it body [] env).onRaise (fun x => do noteFrame x env; theTreesLotGoes x)) fs s
 have e : (forTurn target it body [] env).onRaise (fun x => do noteFrame x env; theTreesLotGoes x) =
  ((do standAt target.pos; (pyNext it).onRaise (fun _ => standAt { target.pos with line := 0 }) : Sem (Option Value))).wrap (fun r => match r with
    | none => .pure (.again (.block [] env))
    | some v => (letOwnedTupleGo target it v).wrap (fun _ => (assign target env v).wrap (fun _ => (execs body env).wrap (turned target it body env) (iz env) id id) (iz env) id id) (iz env) id id) (iz env) id id := by
  have e1 : forTurn target it body [] env = ((do standAt target.pos; (pyNext it).onRaise (fun _ => standAt { target.pos with line := 0 }) : Sem (Option Value)) >>= fun r => match r with
   | none => (.pure (.again (.block [] env)) : Sem PySem.Fin)
   | some v => letOwnedTupleGo target it v >>= fun _ => assign target env v >>= fun _ => execs body env >>= fun f => turned target it body env f) := by
   unfold forTurn
   show (Sem.bind _ _ : Sem PySem.Fin) = Sem.bind (Sem.bind _ _) _
   rw [Sem.bind_assoc]
   congr 1
  have hn : ∀ x, ((do noteFrame x env; theTreesLotGoes x : Sem Unit).bind fun _ => (Sem.raise x : Sem PySem.Fin)) = iz env x := fun x => Sem.bind_eq_wrap _ _
  rw [e1, Sem.onRaise_eq_wrap, Sem.bind_eq_wrap', Sem.wrap_wrap]
  refine Sem.wrap_congr _ _ _ (fun r => ?_) fun x => hn x
  cases r with
  | none => rfl
  | some v =>
    show (letOwnedTupleGo target it v >>= _).wrap _ _ _ _ = _
    rw [Sem.bind_eq_wrap', Sem.wrap_wrap]
    refine Sem.wrap_congr _ _ _ (fun _ => ?_) fun x => hn x
    rw [Sem.bind_eq_wrap', Sem.wrap_wrap]
    refine Sem.wrap_congr _ _ _ (fun _ => ?_) fun x => hn x
    rw [Sem.bind_eq_wrap', Sem.wrap_wrap]
    refine Sem.wrap_congr _ _ _ (fun f => ?_) fun x => hn x
    cases f <;> rfl
 rw [e]
 refine seg_wrap (wpAny_bind (wpAny_standAt (wpAny_onRaise (wpAny_mono h (fun r s' hr => ?_) fun x s' hx => wpAny_standAt hx))))
 cases r with
 | none => exact hr
 | some v => exact seg_wrap (wpAny_mono hr (fun _ s1 h1 => seg_wrap h1) fun _ _ z => z)
end
end Pk
namespace Pk
open PySem PySem.Spec PyProof.Rows L2 GenW
section
variable {M : Model} {A : Around} {R : GenEnd} {Y : Protocol} {n : Nat} {s₀ : Shared} {c : Code} {fs : List Frame} {s : Shared} {env : Env} {K : Flow → Sem PySem.Fin} {J : Value → Sem PySem.Fin} {gd : Bool → Bool} {lv : List Value → List Value}
theorem Jx {target iter : Expr} {body orelse : List Stmt} {pos : Pos} (hs : ∀ x, foldedSetIterable iter env x = pure x)
 (h : wpAny M (A.over c fs) (eval iter env) (fun x s₁ => wpAny M (A.over c fs) (pyIter x) (fun it s₂ => ∀ p, Seg M A R Y n s₀ (.forLoop target it body orelse env) (M.den (.forLoop target it body orelse env))
  (.ret (fun r => ((match r with | .ok f => (.pure f : Sem Flow) | .error e => .raise e).onRaise (cameBack env)).wrap K J gd lv) none (gd false) (lv []) c p [] :: fs) s₂)
  (fun x s' => Seg M A R Y n s₀ c (J x) fs s') s₁) (fun x s' => Seg M A R Y n s₀ c (J x) fs s') s) :
 Seg M A R Y n s₀ c ((exec (.For target iter body orelse pos) env).wrap K J gd lv) fs s := by
 rw [exec_For]
 show Seg M A R Y n s₀ c (.at pos fun _ => ((eval iter env >>= fun y => foldedSetIterable iter env y >>= fun x => standAt iter.pos >>= fun _ => holding [x] (pyIter x) >>= fun it => runOwn (.forLoop target it body orelse env) env).wrap K J gd lv)) fs s
 refine seg_at ?_
 rw [Sem.bind_eq_wrap', Sem.wrap_wrap]
 refine seg_wrap (wpAny_mono h (fun x s1 h1 => ?_) fun _ _ z => z)
 show Seg M A R Y n s₀ c ((foldedSetIterable iter env x >>= fun x => standAt iter.pos >>= fun _ => holding [x] (pyIter x) >>= fun it => runOwn (.forLoop target it body orelse env) env).wrap K J gd lv) fs s1
 rw [hs x]
 show Seg M A R Y n s₀ c (.at iter.pos fun _ => ((holding [x] (pyIter x) >>= fun it => runOwn (.forLoop target it body orelse env) env).wrap K J gd lv)) fs s1
 refine seg_at ?_
 rw [Sem.bind_eq_wrap', Sem.wrap_wrap]
 exact seg_wrap (wpAny_holding (wpAny_mono h1 (fun it s2 h2 => seg_call h2) fun _ _ z => z))
end
section
variable {X : Cx} {tg : Expr}
def Uc (wi : TI) (g : TG) (tb : TGn) : TGn := fun D ys σ H => wi σ H fun J H1 => ∃ W : Nat → Nat → List V → L2.St → Hp → Prop, (∃ m, W 0 m ys σ H1) ∧ ∀ i m ys σ H, W i m ys σ H →
 (J.stop i H ∧ D.nx ys σ H) ∨ (J.go i H ∧ ∃ N : List V → L2.St → Hp → Prop, (∀ ys' σ' H', N ys' σ' H' → ∃ m', m' < m ∧ W (i + 1) m' ys' σ' H') ∧ ∀ x H', J.yld i H x H' → g x σ H' fun σ2 H2 => tb { D with nx := N, ct := N, bk := D.nx } ys σ2 H2)
theorem GI.unpinned {S : Addr} {ip pl : List (Addr × Obj)} {ys : List V} {σ : L2.St} {H : Hp} {s : Shared} (h : GI X S (ip ++ pl) ys σ H s) : GI X S ip ys σ H s := by
 obtain ⟨acc, c, r, I⟩ := h
 exact ⟨acc, c, r, Inv.unpinned (pins := (S, lstObj acc c) :: ip) (pl := pl) I⟩
end
end Pk
namespace Pk
open PySem PySem.Spec PyProof.Rows L2
def Ud (ma : M (List D)) : M D := ma.bind fun ds => M.opt (if ds.length ≤ big then some (.tup ds) else none)
section
variable {X : Cx} {T : Tb} {W : WX} {es : List Expr} {ma : M (List D)} {pos : Pos}
end
def M8 (vs vs1 : List Nat) (g : D → M Unit) (t : M Bool) (l1 : M (List D)) (g1 : D → M Unit) (t1 : M Bool) (e : M D) (acc : List D) (d : D) : M (List D) := fun fr h => match g d fr h with
 | .ok _ fr h => match t fr h with
   | .ok true fr h => match l1 fr h with
     | .ok ds1 fr h => if acc.length + ds1.length ≤ big then (match jQ vs1 g1 t1 e ds1 (cJ fr vs1) h with
       | .ok r fr h => .ok (acc ++ r) (cJ fr vs) h
       | _ => .err) else .err
     | _ => .err
   | .ok false fr h => .ok acc (cJ fr vs) h
   | _ => .err
 | _ => .err
def Ik (vs vs1 : List Nat) (g : D → M Unit) (t : M Bool) (l1 : M (List D)) (g1 : D → M Unit) (t1 : M Bool) (e : M D) : List D → List D → M (List D)
 | acc, [] => M.ret acc
 | acc, d :: ds => (M8 vs vs1 g t l1 g1 t1 e acc d).bind fun acc' => Ik vs vs1 g t l1 g1 t1 e acc' ds
def Vm (vs vs1 : List Nat) (l : M (List D)) (g : D → M Unit) (t : M Bool) (l1 : M (List D)) (g1 : D → M Unit) (t1 : M Bool) (e : M D) : M D := l.bind fun ds => (BP vs).bind fun _ => (Ik vs vs1 g t l1 g1 t1 e [] ds).bind fun r => M.ret (.nl r)
section
variable {X : Cx} {T : Tb} {W : WX} {k : Nat} {pos pos' : Pos} {tg iter elt tg1 iter1 : Expr} {ifs ifs1 : List Expr} {li l1 : M (List D)} {g g1 : D → M Unit} {is is1 vs1 : List Nat} {t t1 : M Bool} {me : M D} {scope : Scope} {own : List (Str × Nat)}
def IB (X : Cx) (scope : Scope) (tg iter : Expr) : TI := fun σ H R => ∀ (s : Shared) (H0 : Hp) (C : Addr) (cl : List (Str × Addr)) (fp : List Addr), WI (X.blk s H0 scope (compEnvC scope cl C X.env) fp) tg iter σ H R
end
end Pk
namespace Pk
open PySem PySem.Spec PyProof.Rows L2 GenW
structure RB (X : Cx) (st : Stmt) (D : GEnds) (ys : List V) (σ : L2.St) (H : Hp) : Prop where
 go : ∀ (A : Around) (S : Addr) (ip : List (Addr × Obj)) (R : GenEnd) (n : Nat) (s₀ : Shared) (c : Code) (fs : List Frame) (K : Flow → Sem PySem.Fin) (J : Value → Sem PySem.Fin) (gd : Bool → Bool) (lv : List Value → List Value) (s : Shared),
  GC X S ip A c fs gd → n + ys.length = sizeLine → GK X S ip A R c fs K J D → GI X S ip ys σ H s →
  Seg (model X.prog X.w) A R (GY X S) n s₀ c ((exec st X.env).wrap K J gd lv) fs s
structure QD (X : Cx) (st : List Stmt) (D : GEnds) (ys : List V) (σ : L2.St) (H : Hp) : Prop where
 go : ∀ (A : Around) (S : Addr) (ip : List (Addr × Obj)) (R : GenEnd) (n : Nat) (s₀ : Shared) (c : Code) (fs : List Frame) (K : Flow → Sem PySem.Fin) (J : Value → Sem PySem.Fin) (gd : Bool → Bool) (lv : List Value → List Value) (s : Shared),
  GC X S ip A c fs gd → n + ys.length = sizeLine → GK X S ip A R c fs K J D → GI X S ip ys σ H s →
  Seg (model X.prog X.w) A R (GY X S) n s₀ c ((execs st X.env).wrap K J gd lv) fs s
section
variable {X : Cx} {st : Stmt} {sts : List Stmt} {D : GEnds} {ys : List V} {σ : L2.St} {H : Hp}
end
def uI (K : PySem.W.Frag) (T : Tb) (B : Bs) (w : Wd) (r : R (List D)) (E : GEnds) : Prop := match r with
 | .ok ds fr h => ∀ w' σ' H' vs, w.le w' → Rel K T B w' σ' H' fr h → aa K T w' vs ds → E.nx vs σ' H'
 | _ => False
def Ue (X : Cx) (T : Tb) (st : Stmt) (m : List D → M (List D)) : Prop := ∀ (B : Bs) (w : Wd) (σ : L2.St) (H : Hp) (fr : Fr) (h : Hh) (E : GEnds) (vs : List V) (ds : List D), Rel X.K T B w σ H fr h → aa X.K T w vs ds → uI X.K T B w (m ds fr h) E → RB X st E vs σ H
def M9 (X : Cx) (T : Tb) (sts : List Stmt) (m : List D → M (List D)) : Prop := ∀ (B : Bs) (w : Wd) (σ : L2.St) (H : Hp) (fr : Fr) (h : Hh) (E : GEnds) (vs : List V) (ds : List D), Rel X.K T B w σ H fr h → aa X.K T w vs ds → uI X.K T B w (m ds fr h) E → QD X sts E vs σ H
def RD (m : M Fl) (ds : List D) : M (List D) := fun fr h => match m fr h with
 | .ok .nx fr h => .ok ds fr h
 | _ => .err
def gNil (ds : List D) : M (List D) := M.ret ds
def Ug (m n : List D → M (List D)) (ds : List D) : M (List D) := (m ds).bind n
def RG (me : M D) (ds : List D) : M (List D) := me.bind fun d => if ds.length < big then M.ret (ds ++ [d]) else fun _ _ => .err
def Nb (g : D → M Unit) (b : List D → M (List D)) : List D → List D → M (List D)
 | [], out => M.ret out
 | d :: ds, out => (g d).bind fun _ => (b out).bind fun out' => Nb g b ds out'
def Uh (l : M (List D)) (g : D → M Unit) (b : List D → M (List D)) (out : List D) : M (List D) := l.bind fun ds => Nb g b ds out
section
variable {X : Cx} {T : Tb} {W : WX} {k : Nat} {st : Stmt} {sts body : List Stmt} {m n : List D → M (List D)} {b : List D → M (List D)} {pos yp : Pos} {e tg iter : Expr} {me : M D} {li : M (List D)} {g : D → M Unit} {is : List Nat}
theorem uI.le {K : PySem.W.Frag} {T : Tb} {B : Bs} {w w' : Wd} {r : R (List D)} {E : GEnds} (l : w.le w') (p : uI K T B w r E) : uI K T B w' r E := by
 cases r with
 | ok ds fr h => exact fun w2 σ' H' vs l2 r rs => p w2 σ' H' vs (Wd.le_trans l l2) r rs
 | exc _ _ _ => exact p
 | err => exact p
end
end Pk
namespace Pk
open PySem PySem.Spec PyProof.Rows L2 GenW
abbrev zA := List D → Hh → R (List D)
def Vn (n : Nat) (m : List D → M (List D)) : zA := fun ds h => match m [] (startF n ds) h with
 | .ok ys _ h => .ok ys [] h
 | _ => .err
def QF (K : PySem.W.Frag) (T : Tb) (n : Nat) (F : zA) : SpG := fun vs H Q _ => ∃ w h ds, Rel K T (Bs.of w H) w [] H [] h ∧ aa K T w vs ds ∧ ds.length = n ∧ match F ds h with
 | .ok ys _ h' => ∀ w' H' vs', w.le w' → Rel K T (Bs.of w H) w' [] H' [] h' → aa K T w' vs' ys → Q vs' H'
 | _ => False
def Ui (P : Program) (w : World) (K : PySem.W.Frag) (mg : Str → Option Value) (base : Heap) (T : Tb) (k : Nat) (N : List Str) (qual : Str) (scope : Scope) (body : List Stmt) (m : List D → M (List D)) : Prop :=
 ∀ (f : Addr) (cdv : Value) (A : Around) (outer : List Env) (s : Shared) (H : Hp) (E : XK) (pn : List (Addr × Obj)), Cq (gcxOf P w K mg base N qual scope f cdv A outer s H E pn) T (WX.up E) k → M9 (gcxOf P w K mg base N qual scope f cdv A outer s H E pn) T body m
section
variable {P : Program} {w : World} {K : PySem.W.Frag} {mg : Str → Option Value} {base : Heap} {T : Tb} {k : Nat} {name qual : Str} {params : Arguments} {body : List Stmt} {scope : Scope} {f : Addr} {N ps : List Str} {dV kV doc pm cdv ct oc : Value} {an od : Option Addr} {osl : Array (Option Value)}
end
end Pk
namespace Pk
open PySem PySem.Spec PyProof.Rows L2 GenW
def Pb (mt : Nat → Option zA) (h : Hh) (o : D) : Option zA := match o.ins h with
 | some (c, _) => mt c
 | none => none
def RJ (mt : Nat → Option zA) (mo : M D) : M D := mo.bind fun o fr h => match Pb mt h o with
 | some F => match F [o] h with
   | .ok ys _ h => .ok (.nl ys) fr h
   | _ => .err
 | none => .err
structure RK (X : Cx) (T : Tb) (kk : Nat) (m : Str) (mt : Nat → Option zA) : Prop where
 ex : ∀ c F, mt c = some F → ∃ (f : Addr) (fd : FuncData) (ps : List Str), Cls X.K (T.cad c) ∧ Meth X.K (T.cad c) m f ∧ GFn X.prog X.w X.K X.mg X.base kk f fd ps (QF X.K T 1 F) ∧ Binds X.K fd ps [] ∧ m ∉ T.fld c
def Wk (X : Cx) (k : Nat) (e : Expr) (E : XK) : TGen := fun σ H cont => ∀ pins s, Inv X pins σ H s → wpAny (model X.prog X.w) X.A (eval e X.env)
    (fun u s' => ∃ H1 sc ex, Inv X pins σ H1 sc ∧ ExOk X pins ex ∧ GMade X.prog X.w k X.stack H1 sc ex cont E u s') X.xe s
section
variable {X : Cx} {T : Tb} {W : WX} {k kk : Nat} {m nm : Str} {p pos pos' apos : Pos} {o e : Expr} {mo : M D} {mt : Nat → Option zA} {E : XK}
end
section
variable {P : Program} {w : World} {K : PySem.W.Frag} {mg : Str → Option Value} {base : Heap} {T : Tb} {k : Nat} {x qual : Str} {params : Arguments} {body : List Stmt} {scope : Scope} {f : Addr} {fd : FuncData} {N ps : List Str} {dvs : List V} {kws : List (Str × V)}
end
end Pk
namespace L2
open PySem PySem.Spec PyProof.Rows
def wD (K : PySem.W.Frag) : Bool → Hp → Addr → List V → Prop
 | true, H, a, xs => SqT K H a xs
 | false, H, a, xs => SqL K H a xs
def Vo : Bool → Heap → Addr → Addr → Nat → Prop
 | true, h, it, a, i => h.IsTupleIter it a i
 | false, h, it, a, i => h.IsListIter it a i
def Wl : Bool → Heap → Addr → Array Value → Prop
 | true, h, a, xs => h.IsTuple a xs
 | false, h, a, xs => h.IsList a xs
def itOb : Bool → Addr → Obj
 | true, t => { cls := .type "tuple_iterator", data := .fields #[.ref t, .int 0 0] }
 | false, t => { cls := .type "list_iterator", data := .fields #[.ref t, .int 0 0] }
def QG (K : PySem.W.Frag) (k1 k2 : Bool) (a b : Addr) : It :=
 ⟨fun i H => ∃ xs ys x y, wD K k1 H a xs ∧ wD K k2 H b ys ∧ xs[i]? = some x ∧ ys[i]? = some y,
  fun i H v H' => ∃ T x y, v = V.ref T ∧ H T = none ∧ H' = upd H T (.tup [x, y]) ∧ (∀ xs, wD K k1 H a xs → xs[i]? = some x) ∧ ∀ ys, wD K k2 H b ys → ys[i]? = some y,
  fun i H => ∃ xs ys, wD K k1 H a xs ∧ wD K k2 H b ys ∧ (xs.length ≤ i ∨ ys.length ≤ i)⟩
def Uj (K : PySem.W.Frag) (ta : TA) : TI := fun σ H R => ta σ H fun vs H1 => ∃ k1 k2 a b xs ys, vs = [.ref a, .ref b] ∧ wD K k1 H1 a xs ∧ wD K k2 H1 b ys ∧ R (QG K k1 k2 a b) H1
end L2
namespace Pk
open PySem PySem.Spec L2
def Pg (h : Hh) (d e : D) : Option (Nat × List D × List D) := match yo h d, e with
 | some (n, l), .fl m => some (n, l, nQ l m)
 | some (n, l), .tup m => some (n, l, nQ l m)
 | _, _ => none
def RL (ma mb : M D) : M (Nat × List D × List D) := ma.bind fun d => mb.bind fun e fr h => M.opt (Pg h d e) fr h
section
variable {X : Cx} {T : Tb} {W : WX} {k kk : Nat} {pos p tpos : Pos} {tg iter a c : Expr} {elts : List Expr} {body : List Stmt} {g : D → M Unit} {b : M Fl} {is : List Nat} {li : M (Nat × List D × List D)} {ma mb : M D}
end
end Pk
namespace GenP
open PySem PySem.Spec
def rR : Frame → Bool
 | .gen .. => false
 | .ret .. => true
def yq : Frame → Frame
 | .gen _ _ _ c p => .ret (fun _ => .unsupported "") none false [] c p []
 | f => f
theorem zW (f : Frame) : (yq f).where_ = f.where_ := by cases f <;> rfl
def jC : GenState → GenState
 | .suspended _ l c p fs cl => .suspended (fun _ => .unsupported "") l c p (fs.map yq) cl
 | st => st
def cV : GenState → Bool
 | .fresh _ => false
 | _ => true
def clean : GenState → Bool
 | .suspended _ _ _ _ fs _ => fs.all rR
 | _ => true
theorem Eb (st : GenState) : (jC st).seen = st.seen := by
 cases st with
 | suspended k l c p fs cl =>
   show (_, some ((c, p) :: List.map Frame.where_ (fs.map yq))) = (_, some ((c, p) :: List.map Frame.where_ fs))
   rw [List.map_map, show Frame.where_ ∘ yq = Frame.where_ from funext zW]
 | _ => rfl
theorem wF (st : GenState) : (jC st).bare = st.bare := by cases st <;> rfl
theorem wG : ∀ {fs : List Frame}, fs.all rR = true → splitAtGen fs = none
 | [], _ => rfl
 | .gen _ _ _ _ _ :: fs, h => by simp [rR] at h
 | .ret _ _ _ _ _ _ _ :: fs, h => by
   have := wG (fs := fs) (by simpa [rR] using h)
   simp [splitAtGen, this]
structure PS (D : Nat → Prop) (s t : Shared) : Prop where
 heap : s.heap = t.heap
 drawn : s.drawn = t.drawn
 toks : s.toks = t.toks
 os : s.os = t.os
 size : s.gens.size = t.gens.size
 dead : ∀ i, D i → ∃ st, t.gens[i]? = some st ∧ cV st = true ∧ s.gens[i]? = some (jC st)
 live : ∀ i, ¬ D i → s.gens[i]? = t.gens[i]? ∧ ∀ st, t.gens[i]? = some st → clean st = true
theorem PS.mk' {D : Nat → Prop} {s t : Shared} (P : PS D s t) {s' t' : Shared} (h : s'.heap = t'.heap) (d : s'.drawn = t'.drawn) (k : s'.toks = t'.toks) (o : s'.os = t'.os) (g : s'.gens = s.gens) (g' : t'.gens = t.gens) : PS D s' t' :=
 ⟨h, d, k, o, by rw [g, g']; exact P.size, by rw [g, g']; exact P.dead, by rw [g, g']; exact P.live⟩
theorem PS.seen {D : Nat → Prop} {s t : Shared} (P : PS D s t) {g : Nat} {st : GenState} (h : s.gens[g]? = some st) : ∃ st', t.gens[g]? = some st' ∧ st'.seen = st.seen := by
 by_cases hd : D g
 · obtain ⟨st', e1, e2, e3⟩ := P.dead g hd
   rw [h] at e3
   cases e3
   exact ⟨st', e1, (Eb st').symm⟩
 · exact ⟨st, (P.live g hd).1.symm.trans h, rfl⟩
theorem PS.awake {D : Nat → Prop} {s t : Shared} (P : PS D s t) {g : Nat} {st : GenState} (h : s.gens[g]? = some st) (ns : cV st = false) : ¬ D g ∧ t.gens[g]? = some st := by
 have hd : ¬ D g := fun hd => by
  obtain ⟨st', e1, e2, e3⟩ := P.dead g hd
  rw [h] at e3
  cases e3
  cases st' with
  | fresh c => exact absurd e2 (by simp [cV])
  | _ => exact absurd ns (by simp [jC, cV])
 exact ⟨hd, (P.live g hd).1.symm.trans h⟩
theorem PS.same {D : Nat → Prop} {s t : Shared} (P : PS D s t) {g : Nat} {st : GenState} (h : s.gens[g]? = some st) (ns : ∀ k l c p fs cl, st ≠ .suspended k l c p fs cl) : t.gens[g]? = some st := by
 by_cases hd : D g
 · obtain ⟨st', e1, e2, e3⟩ := P.dead g hd
   rw [h] at e3
   cases st' with
   | suspended k l c p fs cl => exact absurd (Option.some.inj e3) (ns _ _ _ _ _ _)
   | _ => rw [e1]; exact e3.symm
 · exact (P.live g hd).1.symm.trans h
theorem PS.set {D : Nat → Prop} {s t : Shared} (P : PS D s t) {g : Nat} (hd : ¬ D g) {st : GenState} (hc : clean st = true) : PS D (s.setGen g st) (t.setGen g st) where
 heap := P.heap
 drawn := P.drawn
 toks := P.toks
 os := P.os
 size := by show (s.gens.setIfInBounds g st).size = (t.gens.setIfInBounds g st).size; simp [P.size]
 dead := fun i hi => by
  have ne : g ≠ i := fun e => hd (e ▸ hi)
  obtain ⟨st', e1, e2, e3⟩ := P.dead i hi
  exact ⟨st', by show (t.gens.setIfInBounds g st)[i]? = _; rw [Array.getElem?_setIfInBounds_ne ne]; exact e1, e2, by show (s.gens.setIfInBounds g st)[i]? = _; rw [Array.getElem?_setIfInBounds_ne ne]; exact e3⟩
 live := fun i hi => by
  obtain ⟨e1, e2⟩ := P.live i hi
  show (s.gens.setIfInBounds g st)[i]? = (t.gens.setIfInBounds g st)[i]? ∧ ∀ x, (t.gens.setIfInBounds g st)[i]? = some x → _
  by_cases ne : g = i
  · subst ne
    rw [Array.getElem?_setIfInBounds_self, Array.getElem?_setIfInBounds_self, P.size]
    refine ⟨rfl, fun x hx => ?_⟩
    split at hx
    · cases hx; exact hc
    · cases hx
  · rw [Array.getElem?_setIfInBounds_ne ne, Array.getElem?_setIfInBounds_ne ne]
    exact ⟨e1, e2⟩
theorem PS.push {D : Nat → Prop} {s t : Shared} (P : PS D s t) (c : Code) : PS D { s with gens := s.gens.push (.fresh c) } { t with gens := t.gens.push (.fresh c) } where
 heap := P.heap
 drawn := P.drawn
 toks := P.toks
 os := P.os
 size := by simp [P.size]
 dead := fun i hi => by
  obtain ⟨st', e1, e2, e3⟩ := P.dead i hi
  have l1 := (Array.getElem?_eq_some_iff.mp e1).1
  refine ⟨st', ?_, e2, ?_⟩
  · show (t.gens.push _)[i]? = _
    rw [Array.getElem?_push_lt l1, ← e1, Array.getElem?_eq_getElem l1]
  · have l2 := (Array.getElem?_eq_some_iff.mp e3).1
    show (s.gens.push _)[i]? = _
    rw [Array.getElem?_push_lt l2, ← e3, Array.getElem?_eq_getElem l2]
 live := fun i hi => by
  obtain ⟨e1, e2⟩ := P.live i hi
  show (s.gens.push _)[i]? = (t.gens.push _)[i]? ∧ ∀ st, (t.gens.push _)[i]? = some st → _
  rw [Array.getElem?_push, Array.getElem?_push, P.size, e1]
  refine ⟨rfl, fun st hst => ?_⟩
  split at hst
  · cases hst; rfl
  · exact e2 st hst
def Kept (D : Nat → Prop) (t t' : Shared) : Prop := (∀ i, D i → t'.gens[i]? = t.gens[i]?) ∧ t.gens.size ≤ t'.gens.size
theorem Kept.refl {D : Nat → Prop} {t : Shared} : Kept D t t := ⟨fun _ _ => rfl, Nat.le_refl _⟩
theorem Kept.trans {D : Nat → Prop} {t t' t2 : Shared} (a : Kept D t t') (b : Kept D t' t2) : Kept D t t2 := ⟨fun i hi => (b.1 i hi).trans (a.1 i hi), Nat.le_trans a.2 b.2⟩
theorem Kept.set {D : Nat → Prop} {t : Shared} {g : Nat} (hd : ¬ D g) (st : GenState) : Kept D t (t.setGen g st) := ⟨fun i hi => Array.getElem?_setIfInBounds_ne fun e => hd (by rw [e]; exact hi), by show t.gens.size ≤ (t.gens.setIfInBounds g st).size; simp⟩
theorem Kept.gens {D : Nat → Prop} {t t' : Shared} (h : t'.gens = t.gens) : Kept D t t' := ⟨fun i _ => by rw [h], by rw [h]; exact Nat.le_refl _⟩
theorem PS.keptPush {D : Nat → Prop} {s t : Shared} (P : PS D s t) (c : Code) : Kept D t { t with gens := t.gens.push (.fresh c) } := ⟨fun i hi => by
 obtain ⟨st', e1, _⟩ := P.dead i hi
 have l1 := (Array.getElem?_eq_some_iff.mp e1).1
 show (t.gens.push _)[i]? = _
 rw [Array.getElem?_push_lt l1, Array.getElem?_eq_getElem l1], by show t.gens.size ≤ (t.gens.push (.fresh c)).size; simp⟩
def Ec : End → Bool
 | .ret _ => true
 | .susp _ _ _ _ _ _ fs => fs.all rR
theorem nR {e : End} (h : Ec e = true) : clean e.genState = true := by
 cases e with
 | ret r => rfl
 | susp v g l k c p fs => exact h
theorem uJ {M : Model} {Γ : PySem.Ctx} {p : Pos} {m : String} {s : Shared} {e : End} {s' : Shared} (h : Runs M Γ p (.unsupported m) [] s e s') : False := by cases h
theorem stuck {M : Model} {Γ : PySem.Ctx} {p : Pos} {m : String} {fs : List Frame} {s : Shared} {e : End} {s' : Shared} (h : Runs M Γ p (.unsupported m) fs s e s') : False := by
 cases h with
 | segRet h _ => exact uJ h
 | segGen h _ => exact uJ h
 | segSuspOut _ h => exact uJ h
 | segSuspGen _ h => exact uJ h
theorem vU {D : Nat → Prop} {M : Model} {Γ : PySem.Ctx} {p : Pos} {t : Sem PySem.Fin} {fs : List Frame} {s s' : Shared} {e : End} (h : Runs M Γ p t fs s e s') :
 fs.all rR = true → ∀ u, PS D s u → ∃ u', Runs M Γ p t fs u e u' ∧ PS D s' u' ∧ Kept D u u' ∧ Ec e = true := by
 induction h with
 | done => exact fun _ u P => ⟨u, .done, P, .refl, rfl⟩
 | raise => exact fun _ u P => ⟨u, .raise, P, .refl, rfl⟩
 | again hq _ ih => exact fun hf u P => let ⟨u', r, z⟩ := ih hf u P; ⟨u', .again hq r, z⟩
 | rule _ ih => exact fun hf u P => let ⟨u', r, z⟩ := ih hf u P; ⟨u', .rule r, z⟩
 | «at» _ ih => exact fun hf u P => let ⟨u', r, z⟩ := ih hf u P; ⟨u', .at r, z⟩
 | load hl _ ih => exact fun hf u P => let ⟨u', r, z⟩ := ih hf u P; ⟨u', .load (P.heap ▸ hl) r, z⟩
 | @update Γ p k s e s' a part f hl _ ih =>
   intro hf u P
   obtain ⟨u', r, z, kk, c⟩ := ih hf { u with heap := u.heap.update a f } (P.mk' (by rw [P.heap]) P.drawn P.toks P.os rfl rfl)
   exact ⟨u', .update (P.heap ▸ hl) r, z, kk, c⟩
 | @loadIfAlive Γ p k s e s' a _ ih =>
   intro hf u P
   obtain ⟨u', r, z⟩ := ih hf u P
   exact ⟨u', .loadIfAlive (by rw [← P.heap]; exact r), z⟩
 | point _ ih => exact fun hf u P => let ⟨u', r, z⟩ := ih hf u P; ⟨u', .point r, z⟩
 | @alloc Γ p k s e s' o _ ih =>
   intro hf u P
   obtain ⟨u', r, z, kk, c⟩ := ih hf { u with heap := u.heap.push o } (P.mk' (by rw [P.heap]) P.drawn P.toks P.os rfl rfl)
   exact ⟨u', .alloc (by rw [← P.heap]; rw [← P.heap] at r; exact r), z, kk, c⟩
 | @fresh Γ p k s e s' _ ih =>
   intro hf u P
   obtain ⟨u', r, z, kk, c⟩ := ih hf { u with toks := u.toks + 1 } (P.mk' P.heap P.drawn (by rw [P.toks]) P.os rfl rfl)
   exact ⟨u', .fresh (by rw [← P.toks]; rw [← P.toks] at r; exact r), z, kk, c⟩
 | ask _ ih => exact fun hf u P => let ⟨u', r, z⟩ := ih hf u P; ⟨u', .ask r, z⟩
 | @choose n Γ p k s e s' src hn _ ih =>
   intro hf u P
   obtain ⟨u', r, z, kk, c⟩ := ih hf { u with drawn := u.drawn.bump src } (P.mk' P.heap (by rw [P.drawn]) P.toks P.os rfl rfl)
   exact ⟨u', .choose hn (by rw [← P.drawn]; rw [← P.drawn] at r; exact r), z, kk, c⟩
 | @os Γ p k s e s' q l _ ih =>
   intro hf u P
   obtain ⟨u', r, z, kk, c⟩ := ih hf { u with os := (Os.step u.os q).1 } (P.mk' P.heap P.drawn P.toks (by rw [P.os]) rfl rfl)
   exact ⟨u', .os (by rw [← P.os]; rw [← P.os] at r; exact r), z, kk, c⟩
 | handled _ ih => exact fun hf u P => let ⟨u', r, z⟩ := ih hf u P; ⟨u', .handled r, z⟩
 | genState hg _ ih => exact fun hf u P => let ⟨st', e1, e2⟩ := P.seen hg; let ⟨u', r, z⟩ := ih hf u P; ⟨u', .genState e1 (e2 ▸ r), z⟩
 | stack _ ih => exact fun hf u P => let ⟨u', r, z⟩ := ih hf u P; ⟨u', .stack r, z⟩
 | thread _ ih => exact fun hf u P => let ⟨u', r, z⟩ := ih hf u P; ⟨u', .thread r, z⟩
 | @newGen Γ p k s e s' c _ ih =>
   intro hf u P
   obtain ⟨u', r, z, k, cc⟩ := ih hf _ (P.push c)
   exact ⟨u', .newGen (by rw [← P.size]; exact r), z, (P.keptPush c).trans k, cc⟩
 | call _ _ ih1 ih2 =>
   intro hf u P
   obtain ⟨u1, r1, P1, k1, _⟩ := ih1 rfl u P
   obtain ⟨u2, r2, P2, k2, c2⟩ := ih2 hf u1 P1
   exact ⟨u2, .call r1 r2, P2, k1.trans k2, c2⟩
 | callSusp _ ih =>
   intro hf u P
   obtain ⟨u1, r1, P1, k1, c1⟩ := ih rfl u P
   exact ⟨u1, .callSusp r1, P1, k1, by
    show List.all _ rR = true
    rw [List.all_append, Bool.and_eq_true]
    exact ⟨c1, rfl⟩⟩
 | yield => exact fun _ u P => ⟨u, .yield, P, .refl, rfl⟩
 | resumeFresh hg _ hq _ ih1 ih2 =>
   intro hf u P
   obtain ⟨hd, hg'⟩ := P.awake hg rfl
   obtain ⟨u1, r1, P1, k1, c1⟩ := ih1 rfl _ (P.set hd (st := .running) rfl)
   obtain ⟨u2, r2, P2, k2, c2⟩ := ih2 hf _ (P1.set hd (nR c1))
   exact ⟨u2, .resumeFresh hg' r1 hq r2, P2, (Kept.set hd _).trans (k1.trans ((Kept.set hd _).trans k2)), c2⟩
 | @resumeSuspended Γ p g r l k s k₀ l₀ c₀ p₀ fs cl e₁ s₁ e s' hg h1 hq _ ih1 ih2 =>
   intro hf u P
   by_cases hd : D g
   · obtain ⟨st', e1, e2, e3⟩ := P.dead g hd
     rw [hg] at e3
     cases st' with
     | suspended k' l' c' p' fs' cl' =>
       have e3 := Option.some.inj e3
       simp only [jC, GenState.suspended.injEq] at e3
       obtain ⟨rfl, _⟩ := e3
       exact (stuck h1).elim
     | fresh c => cases e2
     | running => cases e3
     | finished => cases e3
   · obtain ⟨e1, e2⟩ := P.live g hd
     have hg' := e1.symm.trans hg
     have cf : fs.all rR = true := e2 _ hg'
     obtain ⟨u1, r1, P1, k1, c1⟩ := ih1 cf _ (P.set hd (st := .running) rfl)
     obtain ⟨u2, r2, P2, k2, c2⟩ := ih2 hf _ (P1.set hd (nR c1))
     exact ⟨u2, .resumeSuspended hg' r1 hq r2, P2, (Kept.set hd _).trans (k1.trans ((Kept.set hd _).trans k2)), c2⟩
 | resumeJustStarted hg hv _ ih => exact fun hf u P => let ⟨hd, hg'⟩ := P.awake hg rfl; let ⟨u', r, z⟩ := ih hf u P; ⟨u', .resumeJustStarted hg' hv r, z⟩
 | resumeThrowFresh hg _ ih =>
   intro hf u P
   obtain ⟨hd, hg'⟩ := P.awake hg rfl
   obtain ⟨u', r, z, k, c⟩ := ih hf _ (P.set hd (st := .finished) rfl)
   exact ⟨u', .resumeThrowFresh hg' r, z, (Kept.set hd _).trans k, c⟩
 | resumeRunning hg _ ih => exact fun hf u P => let hg' := P.same hg (fun _ _ _ _ _ _ h => by cases h); let ⟨u', r, z⟩ := ih hf u P; ⟨u', .resumeRunning hg' r, z⟩
 | resumeFinished hg _ ih => exact fun hf u P => let hg' := P.same hg (fun _ _ _ _ _ _ h => by cases h); let ⟨u', r, z⟩ := ih hf u P; ⟨u', .resumeFinished hg' r, z⟩
 | segRet _ _ ih1 ih2 =>
   intro hf u P
   rw [List.all_cons, Bool.and_eq_true] at hf
   obtain ⟨u1, r1, P1, k1, _⟩ := ih1 rfl u P
   obtain ⟨u2, r2, P2, k2, c2⟩ := ih2 hf.2 u1 P1
   exact ⟨u2, .segRet r1 r2, P2, k1.trans k2, c2⟩
 | segGen _ _ _ _ =>
   intro hf
   rw [List.all_cons, Bool.and_eq_true] at hf
   exact absurd hf.1 (by simp [rR])
 | segSuspOut hs _ ih =>
   intro hf u P
   obtain ⟨u1, r1, P1, k1, c1⟩ := ih rfl u P
   exact ⟨u1, .segSuspOut hs r1, P1, k1, by
    show List.all _ rR = true
    rw [List.all_append, Bool.and_eq_true]
    exact ⟨c1, hf⟩⟩
 | segSuspGen hs _ _ _ _ _ =>
   intro hf
   rw [wG hf] at hs
   cases hs
theorem Gn {D : Nat → Prop} {M : Model} {Γ : PySem.Ctx} {p : Pos} {g : Nat} {r : Resume} {s s' u : Shared} {res : GenResult} (h : Wakes M Γ p g r s res s') (P : PS D s u) : ∃ u', Wakes M Γ p g r u res u' ∧ PS D s' u' ∧ Kept D u u' := by
 unfold Wakes at h
 cases e : s.gens[g]? with
 | none => rw [e] at h; exact h.elim
 | some st =>
   rw [e] at h
   cases st with
   | fresh c =>
     obtain ⟨hd, hg⟩ := P.awake e rfl
     unfold Wakes
     rw [hg]
     dsimp only at h ⊢
     split at h
     · obtain ⟨e₁, s₁, h1, hq, rfl, rfl⟩ := h
       obtain ⟨u1, r1, P1, k1, c1⟩ := vU h1 rfl _ (P.set hd (st := .running) rfl)
       exact ⟨_, ⟨e₁, u1, r1, hq, rfl, rfl⟩, P1.set hd (nR c1), (Kept.set hd _).trans (k1.trans (Kept.set hd _))⟩
     · obtain ⟨rfl, rfl⟩ := h
       exact ⟨u, ⟨rfl, rfl⟩, P, .refl⟩
     · obtain ⟨rfl, rfl⟩ := h
       exact ⟨_, ⟨rfl, rfl⟩, P.set hd rfl, Kept.set hd _⟩
   | suspended k₀ l₀ c₀ p₀ fs cl =>
     obtain ⟨e₁, s₁, h1, hq, rfl, rfl⟩ := h
     by_cases hd : D g
     · obtain ⟨st', e1, e2, e3⟩ := P.dead g hd
       rw [e] at e3
       cases st' with
       | suspended k' l' c' p' fs' cl' =>
         have e3 := Option.some.inj e3
         simp only [jC, GenState.suspended.injEq] at e3
         obtain ⟨rfl, _⟩ := e3
         exact (stuck h1).elim
       | fresh c => cases e2
       | running => cases e3
       | finished => cases e3
     · obtain ⟨e1, e2⟩ := P.live g hd
       have hg := e1.symm.trans e
       obtain ⟨u1, r1, P1, k1, c1⟩ := vU h1 (e2 _ hg) _ (P.set hd (st := .running) rfl)
       refine ⟨_, ?_, P1.set hd (nR c1), (Kept.set hd _).trans (k1.trans (Kept.set hd _))⟩
       unfold Wakes
       rw [hg]
       exact ⟨e₁, u1, r1, hq, rfl, rfl⟩
   | running =>
     have hg := P.same e (fun _ _ _ _ _ _ h => by cases h)
     obtain ⟨rfl, rfl⟩ := h
     exact ⟨u, by unfold Wakes; rw [hg]; exact ⟨rfl, rfl⟩, P, .refl⟩
   | finished =>
     have hg := P.same e (fun _ _ _ _ _ _ h => by cases h)
     obtain ⟨rfl, rfl⟩ := h
     exact ⟨u, by unfold Wakes; rw [hg]; exact ⟨rfl, rfl⟩, P, .refl⟩
theorem yr {α : Type} {D : Nat → Prop} {M : Model} {Γ : PySem.Ctx} {u₀ : Shared} {Q : α → Pos → Shared → Prop} {E : Value → Pos → Shared → Prop} (t : Sem α) : ∀ {p : Pos} {s u : Shared}, Sem.wp M Γ t Q E p s → PS D s u → Kept D u₀ u →
 Sem.wp M Γ t (fun a p' u' => ∃ s', PS D s' u' ∧ Kept D u₀ u' ∧ Q a p' s') (fun e p' u' => ∃ s', PS D s' u' ∧ Kept D u₀ u' ∧ E e p' s') p u := by
 induction t with
 | pure a => exact fun h P k => ⟨_, P, k, h⟩
 | «raise» e => exact fun h P k => ⟨_, P, k, h⟩
 | unsupported m => exact fun h P k => h
 | finish e => exact fun h P k => h
 | rule tag k ih => exact fun h P kk => ih () h P kk
 | «at» p' k ih => exact fun h P kk => ih () h P kk
 | load a part k ih =>
   intro p s u h P kk
   obtain ⟨o, e, h⟩ := h
   exact ⟨o, P.heap ▸ e, ih o h P kk⟩
 | update a part f k ih =>
   intro p s u h P kk
   obtain ⟨e, h⟩ := h
   exact ⟨P.heap ▸ e, ih () h (P.mk' (by rw [P.heap]) P.drawn P.toks P.os rfl rfl) (kk.trans (.gens rfl))⟩
 | loadIfAlive a k ih =>
   intro p s u h P kk
   have := ih (s.heap.get? a) h P kk
   rw [P.heap] at this
   exact this
 | point l k ih => exact fun h P kk => ih () h P kk
 | register a k ih => exact fun h P k => h
 | alloc o k ih =>
   intro p s u h P kk
   have := ih s.heap.objs.size h (u := { u with heap := u.heap.push o }) (P.mk' (by rw [P.heap]) P.drawn P.toks P.os rfl rfl) (kk.trans (.gens rfl))
   rw [P.heap] at this
   exact this
 | fresh k ih =>
   intro p s u h P kk
   have := ih s.toks h (u := { u with toks := u.toks + 1 }) (P.mk' P.heap P.drawn (by rw [P.toks]) P.os rfl rfl) (kk.trans (.gens rfl))
   rw [P.toks] at this
   exact this
 | ask k ih => exact fun h P kk => ih _ h P kk
 | choose src n k ih =>
   intro p s u h P kk
   obtain ⟨e, h⟩ := h
   have := ih (M.w.draws src (s.drawn.get src) % n) h (u := { u with drawn := u.drawn.bump src }) (P.mk' P.heap (by rw [P.drawn]) P.toks P.os rfl rfl) (kk.trans (.gens rfl))
   rw [P.drawn] at this
   exact ⟨e, this⟩
 | os q l k ih =>
   intro p s u h P kk
   have := ih (Os.step s.os q).2 h (u := { u with os := (Os.step u.os q).1 }) (P.mk' P.heap P.drawn P.toks (by rw [P.os]) rfl rfl) (kk.trans (.gens rfl))
   rw [P.os] at this
   exact this
 | call c hd g l k ih =>
   intro p s u h P kk
   obtain ⟨r, s', hr, h⟩ := h
   obtain ⟨u', hr', P', k', _⟩ := vU hr rfl u P
   exact ⟨r, u', hr', ih r h P' (kk.trans k')⟩
 | handled own k ih => exact fun h P kk => ih _ h P kk
 | newGen c k ih =>
   intro p s u h P kk
   have Q : PS D { s with gens := s.gens.push (.fresh c) } { u with gens := u.gens.push (.fresh c) } := P.push c
   have := ih s.gens.size h Q (kk.trans (P.keptPush c))
   rw [P.size] at this
   exact this
 | genState g k ih =>
   intro p s u h P kk
   obtain ⟨st, e, h⟩ := h
   obtain ⟨st', e1, e2⟩ := P.seen e
   exact ⟨st', e1, by rw [e2]; exact ih _ h P kk⟩
 | resume g r l k ih =>
   intro p s u h P kk
   obtain ⟨res, s', hw, h⟩ := h
   obtain ⟨u', hw', P', k'⟩ := Gn hw P
   exact ⟨res, u', hw', ih res h P' (kk.trans k')⟩
 | yield v g l k ih => exact fun h P k => h
 | stack k ih => exact fun h P kk => ih _ h P kk
 | fork c k ih => exact fun h P k => h
 | thread k ih => exact fun h P kk => ih _ h P kk
 | await a f b l k ih => exact fun h P k => h
def cZ (u : Shared) : Nat → Prop := fun i => ∃ st, u.gens[i]? = some st ∧ cV st = true
def bF (u : Shared) : Shared := { u with gens := u.gens.map jC }
theorem Nf (u : Shared) : PS (cZ u) (bF u) u where
 heap := rfl
 drawn := rfl
 toks := rfl
 os := rfl
 size := by simp [bF]
 dead := fun i ⟨st, e, hs⟩ => ⟨st, e, hs, by simp [bF, e]⟩
 live := fun i hi => by
  cases e : u.gens[i]? with
  | none => simp [bF, e]
  | some st =>
    have hs : cV st = false := by
     cases h : cV st
     · rfl
     · exact absurd ⟨st, e, h⟩ hi
    have ed : jC st = st := by
     cases st with
     | fresh c => rfl
     | _ => exact absurd hs (by simp [cV])
    have ec : clean st = true := by
     cases st with
     | fresh c => rfl
     | _ => exact absurd hs (by simp [cV])
    refine ⟨by simp [bF, e, ed], fun x hx => ?_⟩
    cases hx
    exact ec
theorem Gp {u : Shared} (h : PyProof.Rows.AllBare u.gens) : PyProof.Rows.AllBare (bF u).gens := fun y hy => by
 obtain ⟨x, hx, rfl⟩ := Array.mem_map.mp (show y ∈ u.gens.map jC from hy)
 rw [wF]
 exact h x hx
theorem PS.bare {D : Nat → Prop} {s u : Shared} (P : PS D s u) (h : PyProof.Rows.AllBare s.gens) : PyProof.Rows.AllBare u.gens := fun y hy => by
 obtain ⟨i, hi, e⟩ := Array.mem_iff_getElem.mp hy
 have e : u.gens[i]? = some y := by rw [Array.getElem?_eq_getElem hi, e]
 by_cases hd : D i
 · obtain ⟨st, e1, _, e3⟩ := P.dead i hd
   rw [e] at e1
   cases e1
   rw [← wF]
   exact h _ (Array.mem_of_getElem? e3)
 · exact h _ (Array.mem_of_getElem? ((P.live i hd).1.trans e))
theorem j5 {α : Type} {M : Model} {A : Around} {t : Sem α} {u : Shared} {Q : α → Shared → Prop} {E : Value → Shared → Prop} (h : wpAny M A t Q E (bF u)) :
 wpAny M A t (fun a u' => ∃ s', PS (cZ u) s' u' ∧ Kept (cZ u) u u' ∧ Q a s') (fun e u' => ∃ s', PS (cZ u) s' u' ∧ Kept (cZ u) u u' ∧ E e s') u :=
 fun Γ p hΓ => yr t (h Γ p hΓ) (Nf u) .refl
end GenP
namespace GenP
open PySem PySem.Spec PyProof.Rows L2 GenW
section
variable {D : Nat → Prop} {s u : Shared} {X : Cx} {pins : List (Addr × Obj)} {σ : L2.St} {H : Hp}
theorem dR (I : L2.Inv X pins σ H s) (hh : s.heap = u.heap) (ho : s.os = u.os) (hb : AllBare u.gens) : L2.Inv X pins σ H u :=
 ⟨I.ok, ho ▸ I.os, hb, hh ▸ I.base, hh ▸ I.loc, hh ▸ I.cell, I.free, I.freeC, hh ▸ I.pin, hh ▸ I.hok, I.len⟩
theorem j6 (P : PS D s u) (I : L2.Inv X pins σ H s) : L2.Inv X pins σ H u := dR I P.heap P.os (P.bare I.bare)
theorem mJ (I : L2.Inv X pins σ H u) : L2.Inv X pins σ H (bF u) := dR I rfl rfl (Gp I.bare)
end
abbrev SL := List (Nat × GenState)
def Sl (sl : SL) (s : Shared) : Prop := ∀ p ∈ sl, s.gens[p.1]? = some p.2 ∧ cV p.2 = true
theorem Sl.keep {sl : SL} {u u' : Shared} (h : Sl sl u) (k : Kept (cZ u) u u') : Sl sl u' := fun p hp => by
 obtain ⟨e, hs⟩ := h p hp
 exact ⟨(k.1 p.1 ⟨_, e, hs⟩).trans e, hs⟩
def cutS (n : Nat) (s : Shared) : Shared := { s with heap := { s.heap with objs := s.heap.objs.extract 0 n } }
theorem fB {n : Nat} {s : Shared} (h : n ≤ s.heap.objs.size) : (cutS n s).heap.objs.size = n := by
 show (s.heap.objs.extract 0 n).size = n
 rw [Array.size_extract]
 omega
theorem Ed {n : Nat} {s : Shared} (b : Nat) : (cutS n s).heap.get? b = if b < n then s.heap.get? b else none := by
 unfold Heap.get?
 have e : (cutS n s).heap.objs[b]? = if b < n then s.heap.objs[b]? else none := by
  show (s.heap.objs.extract 0 n)[b]? = _
  rw [Array.getElem?_extract]
  by_cases h : b < n
  · rw [if_pos h]
    by_cases h2 : b < s.heap.objs.size
    · rw [if_pos (by omega), Nat.zero_add]
    · rw [if_neg (by omega), Array.getElem?_eq_none (by omega)]
  · rw [if_neg h, if_neg (by omega)]
 rw [e]
 by_cases h : b < n
 · rw [if_pos h, if_pos h]
 · rw [if_neg h, if_neg h]
theorem vW {n : Nat} {s : Shared} {b : Addr} {o : Obj} (h : (cutS n s).heap.get? b = some o) : s.heap.get? b = some o ∧ b < n := by
 rw [Ed] at h
 split at h
 · rename_i hb; exact ⟨h, hb⟩
 · cases h
theorem dG {n : Nat} {s : Shared} {b : Addr} {o : Obj} (h : s.heap.get? b = some o) (hb : b < n) : (cutS n s).heap.get? b = some o := by rw [Ed, if_pos hb]; exact h
theorem zB {n : Nat} {s : Shared} {base : Heap} : ∀ {l : List Env}, s.heap.FunFrames base l → (∀ b ∈ frs l, b < n) → (cutS n s).heap.FunFrames base l
 | [], _, _ => trivial
 | env :: rest, h, hb => by
   obtain ⟨hk, ⟨L, o, e1, e2, e3, e4⟩, hr⟩ := h
   have hm : frs (env :: rest) = L :: frs rest := by
    unfold frs
    rw [List.filterMap_cons, e1]
   rw [hm] at hb
   exact ⟨hk, ⟨L, o, e1, e2, dG e3 (hb L WK), e4⟩, zB hr fun b h => hb b (WQ _ h)⟩
section
variable {X : Cx} {pins : List (Addr × Obj)} {σ : L2.St} {H H1 : Hp} {s s1 : Shared} {n : Nat}
theorem rF {fs : List Addr} {h h1 : Heap} (U : Un fs [] H H1 h h1) {b : Addr} {o : Obj} (e : h.get? b = some o) (hb : H b = none) : ∃ sl, h1.get? b = some { cls := o.cls, dict := o.dict, data := o.data, slots := sl } := by
 by_cases hf : b ∈ fs
 · exact U.slot b o e hb hf (by simp)
 · exact ⟨o.slots, U.keep b o e hb hf (by simp)⟩
structure Nh (X : Cx) (pins : List (Addr × Obj)) (n : Nat) : Prop where
 loc : X.env.locals < n
 cel : ∀ (x : Str) (c : Addr), Ww x X.env.cells = some c → c < n
 pin : ∀ p ∈ X.pn ++ pins, p.1 < n
theorem wH (O : X.Ok) {b : Addr} (h : b ∈ frs X.stack) : b ∈ X.fs ∨ b = X.env.locals := by
 rcases O.stk with e | ⟨e, hf⟩
 · rw [e] at h
   exact .inl h
 · rw [e] at h
   unfold frs at h
   rw [List.filterMap_cons, hf] at h
   rcases List.mem_cons.mp h with h | h
   · exact .inr h
   · exact .inl h
theorem zE (I : L2.Inv X pins σ H s) (lo : Nh X pins n) (U : Un (frs X.stack) [] H H1 (cutS n s).heap s1.heap) (hk : HOk X.prog X.w H1 s1.heap) (ho : s1.os = s.os) (hb : AllBare s1.gens) : L2.Inv X pins σ H1 s1 where
 ok := I.ok
 os := ho.trans I.os
 bare := hb
 hok := hk
 len := I.len
 base := by
  have z0 : X.s_0.heap.objs.size ≤ X.env.locals := I.ok.above
  have lt : ∀ {b : Addr} {o : Obj}, X.s_0.heap.get? b = some o → b < X.env.locals := fun e => Nat.lt_of_lt_of_le (Heap.lt_size e) z0
  have nf : ∀ {b : Addr} {o : Obj}, X.s_0.heap.get? b = some o → b ∉ X.fs → b ∉ frs X.stack := fun e h q => (wH I.ok q).elim h fun z => Nat.lt_irrefl _ (z ▸ lt e)
  refine ⟨fun b o e h0 hf he => ?_, fun b o e h0 hf he => ?_, fun b o e h0 he => ?_, fun b o e he => ?_, fun b xs h => U.tups b xs (I.base.tups b xs h), fun b o v h => U.frzs b o v (I.base.frzs b o v h), fun b ps h => ?_⟩
  · exact U.keep b o (dG (I.base.keep b o e h0 hf he) (Nat.lt_trans (lt e) lo.loc)) (I.base.free b o e h0 he) (nf e hf) (by simp)
  · obtain ⟨sl, e1⟩ := I.base.slot b o e h0 hf he
    obtain ⟨sl2, e2⟩ := rF U (dG e1 (Nat.lt_trans (lt e) lo.loc)) (I.base.free b o e h0 he)
    exact ⟨sl2, e2⟩
  · obtain ⟨o', e1⟩ := I.base.there b o e he
    exact U.free b o' (dG e1 (Nat.lt_trans (lt e) lo.loc)) (I.base.free b o e h0 he) (by simp)
  · obtain ⟨o', e1⟩ := I.base.there b o e he
    exact U.there b o' (dG e1 (Nat.lt_trans (lt e) lo.loc)) (by simp)
  · obtain ⟨more, e1⟩ := I.base.tbls b ps h
    obtain ⟨more2, e2⟩ := U.tbls b _ e1
    exact ⟨more ++ more2, by rw [e2, Array.append_assoc]⟩
 loc := by
  obtain ⟨m, ⟨o, es, ep, e1, e2, e3, e4⟩, hv⟩ := I.loc
  obtain ⟨sl, e5⟩ := rF U (dG e1 lo.loc) I.free
  refine ⟨m, ⟨_, es, ep, e5, e2, e3, e4⟩, fun i x v h1 h2 h3 => ?_⟩
  obtain ⟨u, rv, lk⟩ := hv i x v h1 h2 h3
  refine ⟨u, rv, ?_⟩
  rcases lk with lk | ⟨kd, c, hc, o, e6, e7⟩
  · exact .inl lk
  · obtain ⟨sl, e8⟩ := rF U (dG e6 (lo.cel _ _ hc)) (I.freeC _ _ hc)
    exact .inr ⟨kd, c, hc, _, e8, e7⟩
 cell := fun x c hc => by
  obtain ⟨v, o, e6, e7⟩ := I.cell x c hc
  obtain ⟨sl, e8⟩ := rF U (dG e6 (lo.cel _ _ hc)) (I.freeC _ _ hc)
  exact ⟨v, _, e8, e7⟩
 free := by
  obtain ⟨m, ⟨o, es, ep, e1, _⟩, _⟩ := I.loc
  exact U.free _ o (dG e1 lo.loc) I.free (by simp)
 freeC := fun x c hc => by
  obtain ⟨v, o, e6, e7⟩ := I.cell x c hc
  exact U.free _ o (dG e6 (lo.cel _ _ hc)) (I.freeC _ _ hc) (by simp)
 pin := fun p hp => by
  obtain ⟨e1, e2, e3, e4, e5⟩ := I.pin p hp
  have nf : p.1 ∉ frs X.stack := fun q => (wH I.ok q).elim e4 e3
  exact ⟨U.keep _ _ (dG e1 (lo.pin p hp)) e2 nf (by simp), U.free _ _ (dG e1 (lo.pin p hp)) e2 (by simp), e3, e4, e5⟩
end
abbrev d8 : XK := fun _ _ _ => False
structure GD where
 P : Program
 w : World
 K : PySem.W.Frag
 mg : Str → Option Value
 base : Heap
 N : List Str
 qual : Str
 scope : Scope
 f : Addr
 cdv : Value
 A : Around
 outer : List Env
 n : Nat
 g : Nat
 pn : List (Addr × Obj)
def GD.cx (G : GD) (s : Shared) (H : Hp) : Cx := gcxOf G.P G.w G.K G.mg G.base G.N G.qual G.scope G.f G.cdv G.A G.outer s H d8 G.pn
def GD.env (G : GD) : Env := envOfC G.qual G.scope G.n G.f G.cdv
variable {G : GD} {s s0 s1 s2 : Shared} {H H0 H1 H2 : Hp} {pins : List (Addr × Obj)} {σ : L2.St}
theorem GD.env_eq (hs : s.heap.objs.size = G.n) : (G.cx s H).env = G.env := by
 show envOfC G.qual G.scope s.heap.objs.size G.f G.cdv = _
 rw [hs]
 rfl
theorem GD.A_eq (hs : s.heap.objs.size = G.n) : (G.cx s H).A = G.A.deeper G.env := by
 show G.A.deeper (envOfC G.qual G.scope s.heap.objs.size G.f G.cdv) = _
 rw [hs]
 rfl
theorem zF (hs0 : s0.heap.objs.size = G.n) (I : L2.Inv (G.cx s0 H0) pins σ H1 s1) (e0 : Env0 G.P G.w G.K G.mg G.base G.A G.outer s2 H2) (hc : G.env.cells = [])
 (hl : ∀ o, s1.heap.get? G.n = some o → s2.heap.get? G.n = some o) (hl2 : H2 G.n = none) (hp : ∀ p ∈ G.pn ++ pins, s2.heap.get? p.1 = some p.2 ∧ H2 p.1 = none)
 (hn : G.n ≤ s2.heap.objs.size) (hbz : G.base.objs.size ≤ G.n) (hfr : ∀ b ∈ frs G.outer, b < G.n) : L2.Inv (G.cx (cutS G.n s2) H2) pins σ H2 s2 := by
 have hz := fB hn
 have ev := G.env_eq (H := H0) hs0
 have ev2 := G.env_eq (H := H2) hz
 have ee : (G.cx (cutS G.n s2) H2).env = (G.cx s0 H0).env := ev2.trans ev.symm
 have lc : (G.cx s0 H0).env.locals = G.n := hs0
 have O := I.ok
 refine ⟨⟨e0.mod, by rw [ee]; exact O.kind, rfl, rfl, ?_, ?_, ?_, ?_, O.hd, ?_, ?_, ?_, ?_, ?_, ?_, ?_, ?_, e0.frf⟩, rfl, e0.bare, ?_, ?_, ?_, ?_, ?_, ?_, e0.hok, I.len⟩
 · show (cutS G.n s2).heap.objs.size ≤ (G.cx (cutS G.n s2) H2).env.locals
   exact Nat.le_refl _
 · rw [ee]; exact O.inj
 · rw [ee]; exact O.has
 · intro x c _ h
   rw [ee, ev, hc] at h
   cases h
 · show (G.cx (cutS G.n s2) H2).A.frames = some ((G.cx (cutS G.n s2) H2).env :: G.outer)
   exact Around.frames_deeper e0.frames
 · exact .inr ⟨rfl, rfl⟩
 · intro b hb; cases hb
 · intro b o e
   obtain ⟨h1, h2⟩ := e0.bs b o e
   exact ⟨dG h1 (Nat.lt_of_lt_of_le (Heap.lt_size e) hbz), h2⟩
 · show G.base.objs.size ≤ (cutS G.n s2).heap.objs.size
   rw [hz]; exact hbz
 · intro b o e hb; cases hb
 · intro b hb; cases hb
 · exact zB e0.funs hfr
 · refine ⟨fun b o e h0 _ _ => (vW e).1, fun b o e h0 _ _ => ⟨o.slots, (vW e).1⟩, fun b o e h0 _ => h0, fun b o e _ => ⟨o, (vW e).1⟩, fun b xs h => h, fun b o v h => h, fun b ps h => ⟨#[], by rw [Array.append_empty]; exact h⟩⟩
 · obtain ⟨m, ⟨o, es, ep, e1, e2, e3, e4⟩, hv⟩ := I.loc
   rw [lc] at e1
   refine ⟨m, ⟨o, es, ep, ?_, e2, e3, e4⟩, fun i x v h1 h2 h3 => ?_⟩
   · rw [ee, lc]; exact hl o e1
   · rw [ee] at h3
     obtain ⟨u, rv, lk⟩ := hv i x v h1 h2 h3
     refine ⟨u, rv, ?_⟩
     rw [ee]
     rcases lk with lk | ⟨kd, c, hcc, _⟩
     · exact .inl lk
     · rw [ev, hc] at hcc; cases hcc
 · intro x c h
   rw [ee, ev, hc] at h
   cases h
 · rw [ee, lc]; exact hl2
 · intro x c h
   rw [ee, ev, hc] at h
   cases h
 · intro p hpp
   obtain ⟨e1, e2, e3, e4, e5⟩ := I.pin p hpp
   obtain ⟨h1, h2⟩ := hp p hpp
   exact ⟨h1, h2, by rw [ee]; exact e3, e4, e5⟩
end GenP
namespace GenP
open PySem PySem.Spec PyProof.Rows L2 GenW Pk
inductive RM where
 | go (a : Fr) (h : Hh)
 | out (f : Fl) (a : Fr) (h : Hh)
 | err
inductive GR where
 | go (n : Nat) (a fr : Fr) (h : Hh)
 | out (f : Fl) (a : Fr) (h : Hh)
 | err
abbrev Step := D → Fr → Hh → RM
abbrev fD := Step → Nat → Fr → Fr → Hh → GR
def GR.bind (r : GR) (k : Nat → Fr → Fr → Hh → GR) : GR := match r with
 | .go n a fr h => k n a fr h
 | .out f a h => .out f a h
 | .err => .err
def uK : fD := fun _ n a fr h => .go n a fr h
def qj (b c : fD) : fD := fun st n a fr h => (b st n a fr h).bind (c st)
def QV (ms : M Fl) : fD := fun _ n a fr h => match ms fr h with
 | .ok .nx fr h => .go n a fr h
 | _ => .err
def frozen (fr : Fr) : Bool := fr.all fun o => match o with
 | some d => !d.own
 | none => true
def vX (m : M D) : fD := fun st n a fr h => match n with
 | 0 => .err
 | n + 1 => match m fr h with
   | .ok d fr h => if frozen fr then (match st d a h with
     | .go a h => .go n a fr h
     | .out f a h => .out f a h
     | .err => .err) else .err
   | _ => .err
def ql (g : D → M Unit) (b : fD) : List D → fD
 | [] => uK
 | d :: ds => fun st n a fr h => match g d fr h with
   | .ok _ fr h => (b st n a fr h).bind (ql g b ds st)
   | _ => .err
def yt (li : M (List D)) (g : D → M Unit) (b : fD) : fD := fun st n a fr h => match li fr h with
 | .ok ds fr h => ql g b ds st n a fr h
 | _ => .err
def Vp (t : M Bool) (b c : fD) : fD := fun st n a fr h => match t fr h with
 | .ok true fr h => b st n a fr h
 | .ok false fr h => c st n a fr h
 | _ => .err
def At (G : GD) (T : Tb) (Tok : Fr → Shared → Wd → Hp → Hh → Prop) (sl : SL) (X : Cx) (a : Fr) (w : Wd) (σ : L2.St) (H : Hp) (fr : Fr) (h : Hh) (s : Shared) (pins : List (Addr × Obj)) : Prop :=
 ∃ sw ww Hw hw, Tok a sw ww Hw hw ∧ G.n ≤ sw.heap.objs.size ∧ X = G.cx (cutS G.n sw) Hw ∧ L2.Inv X pins σ H s ∧ Rel G.K T (Bs.of ww Hw) w σ H fr h ∧ Sl ((G.g, .running) :: sl) s ∧ ∀ p ∈ pins, G.n ≤ p.1
def qm (G : GD) (X : Cx) : Prop := ∃ s H, s.heap.objs.size = G.n ∧ X = G.cx s H
theorem At.fam {G : GD} {T : Tb} {Tok : Fr → Shared → Wd → Hp → Hh → Prop} {sl : SL} {X : Cx} {a : Fr} {w : Wd} {σ : L2.St} {H : Hp} {fr : Fr} {h : Hh} {s : Shared} {pins : List (Addr × Obj)} (z : At G T Tok sl X a w σ H fr h s pins) : qm G X := by
 obtain ⟨sw, ww, Hw, hw, _, hn, e, _⟩ := z
 exact ⟨_, _, fB hn, e⟩
structure sU (G : GD) (T : Tb) where
 Tok : Fr → Shared → Wd → Hp → Hh → Prop
 R : GenEnd
 Y : Protocol
 step : Step
 Fin : Fl → Fr → Hh → Prop
 yld : ∀ {sl : SL} {X : Cx} {n : Nat} {s₀ : Shared} {kap : Resume → Shared → Prop} {x : V} {u : Value} {d : D} {a : Fr} {w : Wd} {σ : L2.St} {H : Hp} {fr : Fr} {h : Hh} {s : Shared} {pins : List (Addr × Obj)},
  At G T Tok sl X a w σ H fr h s pins → frozen fr = true → RelV x u → aA G.K T w x d →
  match step d a h with
  | .go a' h' => (∀ {X' : Cx} {w' : Wd} {H' : Hp} {s' : Shared}, w.le w' → At G T Tok sl X' a' w' σ H' fr h' s' pins → kap (.send .none) s' ∧ kap (.send (.bool true)) s') → Y n s₀ u s kap
  | .out f a' h' => Fin f a' h' → Y n s₀ u s kap
  | .err => True
structure sV (G : GD) (A : Around) (c : Code) (fs : List Frame) (gd : Bool → Bool) : Prop where
 over : A.over c fs = G.A.deeper G.env
 split : splitAtGen fs = none
 guard : fs.any Frame.guarded = false
 gd : gd false = false
section
variable {G : GD} {T : Tb}
def Nk (C : sU G T) (A : Around) (c : Code) (fs : List Frame) (J : Value → Sem PySem.Fin) : Prop := ∀ n s₀ X e s, qm G X → X.xe e s → Seg (model G.P G.w) A C.R C.Y n s₀ c (J e) fs s
def j7 (C : sU G T) (sl : SL) (A : Around) (c : Code) (fs : List Frame) (t : Sem PySem.Fin) (w : Wd) (pins : List (Addr × Obj)) (r : GR) : Prop := match r with
 | .go n a fr h => ∀ {X : Cx} {w' : Wd} {σ : L2.St} {H : Hp} {s s₀ : Shared}, w.le w' → At G T C.Tok sl X a w' σ H fr h s pins → Seg (model G.P G.w) A C.R C.Y n s₀ c t fs s
 | .out f a h => C.Fin f a h
 | .err => False
theorem j7.le {C : sU G T} {sl : SL} {A : Around} {c : Code} {fs : List Frame} {t : Sem PySem.Fin} {w w' : Wd} {pins : List (Addr × Obj)} {r : GR} (l : w.le w') (z : j7 C sl A c fs t w pins r) : j7 C sl A c fs t w' pins r := by
 cases r with
 | go n a fr h => exact fun l2 => z (Wd.le_trans l l2)
 | out f a h => exact z
 | err => exact z
def GA (G : GD) (T : Tb) (st : Stmt) (m : fD) : Prop := ∀ (C : sU G T) (sl : SL) (A : Around) (c : Code) (fs : List Frame) (Kf : Flow → Sem PySem.Fin) (J : Value → Sem PySem.Fin) (gd : Bool → Bool) (lv : List Value → List Value) (n : Nat) (s₀ : Shared) (X : Cx) (a : Fr) (w : Wd) (σ : L2.St) (H : Hp) (fr : Fr) (h : Hh) (s : Shared) (pins : List (Addr × Obj)),
 sV G A c fs gd → Nk C A c fs J → At G T C.Tok sl X a w σ H fr h s pins → j7 C sl A c fs (Kf .next) w pins (m C.step n a fr h) →
 Seg (model G.P G.w) A C.R C.Y n s₀ c ((exec st G.env).wrap Kf J gd lv) fs s
def Ef (G : GD) (T : Tb) (sts : List Stmt) (m : fD) : Prop := ∀ (C : sU G T) (sl : SL) (A : Around) (c : Code) (fs : List Frame) (Kf : Flow → Sem PySem.Fin) (J : Value → Sem PySem.Fin) (gd : Bool → Bool) (lv : List Value → List Value) (n : Nat) (s₀ : Shared) (X : Cx) (a : Fr) (w : Wd) (σ : L2.St) (H : Hp) (fr : Fr) (h : Hh) (s : Shared) (pins : List (Addr × Obj)),
 sV G A c fs gd → Nk C A c fs J → At G T C.Tok sl X a w σ H fr h s pins → j7 C sl A c fs (Kf .next) w pins (m C.step n a fr h) →
 Seg (model G.P G.w) A C.R C.Y n s₀ c ((execs sts G.env).wrap Kf J gd lv) fs s
theorem zG : Ef G T [] uK := fun C sl A c fs Kf J gd lv n s₀ X a w σ H fr h s pins sd ex z t => seg_execs_nil (t (Wd.le_refl w) z)
theorem vY {st : Stmt} {rest : List Stmt} {m ms : fD} (h1 : GA G T st m) (h2 : Ef G T rest ms) : Ef G T (st :: rest) (qj m ms) := fun C sl A c fs Kf J gd lv n s₀ X a w σ H fr h s pins sd ex z t => by
 refine seg_execs_cons (h1 C sl A c fs (fun f => match f with
  | Flow.next => Sem.wrap Kf J gd lv (execs rest G.env)
  | f => Kf f) J gd lv n s₀ X a w σ H fr h s pins sd ex z ?_)
 unfold qj at t
 cases e : m C.step n a fr h with
 | go n' a' fr' h' =>
   rw [e] at t
   intro X' w' σ' H' s' s₀' l z'
   exact h2 C sl A c fs Kf J gd lv n' s₀' X' a' w' σ' H' fr' h' s' pins sd ex z' (j7.le l t)
 | out f a' h' => rw [e] at t; exact t
 | err => rw [e] at t; exact t.elim
theorem zH {X : Cx} {e : Value} {s : Shared} (hF : qm G X) (h : X.xe e s) : wpAny (model G.P G.w) (G.A.deeper G.env) (leaving G.env e) (fun _ _ => False) (fun _ _ => False) s := by
 obtain ⟨s', H, hz, rfl⟩ := hF
 have h2 : wpAny (model G.P G.w) (G.A.deeper (envOfC G.qual G.scope s'.heap.objs.size G.f G.cdv)) (leaving (envOfC G.qual G.scope s'.heap.objs.size G.f G.cdv) e) (fun _ s'' => CX G.P G.w G.outer H s' d8 e s'' ∧ ∀ p ∈ G.pn, s''.heap.get? p.1 = some p.2) (fun _ _ => False) s := h
 rw [hz] at h2
 exact wpAny_mono h2 (fun _ s'' q => by
  obtain ⟨⟨_, _, _, _, _, _, _, _, _, _, _, _, z⟩, _⟩ := q
  exact z) fun _ _ q => q
theorem Ph {X : Cx} {e : Value} {s : Shared} (hF : qm G X) (h : wpAny (model G.P G.w) (G.A.deeper G.env) (leaving G.env e) (fun _ _ => False) (fun _ _ => False) s) : X.xe e s := by
 obtain ⟨s', H, hz, rfl⟩ := hF
 show wpAny (model G.P G.w) (G.A.deeper (envOfC G.qual G.scope s'.heap.objs.size G.f G.cdv)) (leaving (envOfC G.qual G.scope s'.heap.objs.size G.f G.cdv) e) (fun _ s'' => CX G.P G.w G.outer H s' d8 e s'' ∧ ∀ p ∈ G.pn, s''.heap.get? p.1 = some p.2) (fun _ _ => False) s
 rw [hz]
 exact wpAny_mono h (fun _ _ q => q.elim) fun _ _ q => q
theorem wI {α : Type} {D : Nat → Prop} {M : Model} {A : Around} {t : Sem α} {s u : Shared} {Q : α → Shared → Prop} {E : Value → Shared → Prop} (P : PS D s u) (h : wpAny M A t Q E s) :
 wpAny M A t (fun a u' => ∃ s', PS D s' u' ∧ Q a s') (fun e u' => ∃ s', PS D s' u' ∧ E e s') u :=
 fun Γ p hΓ => by
  have := yr (u₀ := u) t (h Γ p hΓ) P .refl
  exact wpAny_mono (M := M) (A := A) (Q := fun a u' => ∃ s', PS D s' u' ∧ Kept D u u' ∧ Q a s') (E := fun e u' => ∃ s', PS D s' u' ∧ Kept D u u' ∧ E e s') (fun Γ p hΓ => yr (u₀ := u) t (h Γ p hΓ) P .refl) (fun a s' ⟨x, y, _, z⟩ => ⟨x, y, z⟩) (fun a s' ⟨x, y, _, z⟩ => ⟨x, y, z⟩) Γ p hΓ
theorem nU {D : Nat → Prop} {X : Cx} {e : Value} {s u : Shared} (hF : qm G X) (P : PS D s u) (h : X.xe e s) : X.xe e u :=
 Ph hF (wpAny_mono (wI P (zH hF h)) (fun _ _ q => q.elim fun _ z => z.2) fun _ _ q => q.elim fun _ z => z.2)
theorem At.next {Tok : Fr → Shared → Wd → Hp → Hh → Prop} {sl : SL} {X : Cx} {a : Fr} {w w' : Wd} {σ σ' : L2.St} {H H' : Hp} {fr fr' : Fr} {h h' : Hh} {s s' : Shared} {pins : List (Addr × Obj)} (z : At G T Tok sl X a w σ H fr h s pins) (I : L2.Inv X pins σ' H' s')
 (r : ∀ B, Rel G.K T B w σ H fr h → Rel G.K T B w' σ' H' fr' h') (k : Sl ((G.g, .running) :: sl) s → Sl ((G.g, .running) :: sl) s') : At G T Tok sl X a w' σ' H' fr' h' s' pins := by
 obtain ⟨sw, ww, Hw, hw, t, hn, e, _, R, S, hp⟩ := z
 exact ⟨sw, ww, Hw, hw, t, hn, e, I, r _ R, k S, hp⟩
structure Il (G : GD) (T : Tb) (k : Nat) : Prop where
 cq : ∀ s H, s.heap.objs.size = G.n → Cq (G.cx s H) T (WX.up d8) k
theorem At.x {Tok : Fr → Shared → Wd → Hp → Hh → Prop} {sl : SL} {X : Cx} {a : Fr} {w : Wd} {σ : L2.St} {H : Hp} {fr : Fr} {h : Hh} {s : Shared} {pins : List (Addr × Obj)} (z : At G T Tok sl X a w σ H fr h s pins) :
 ∃ s' H', s'.heap.objs.size = G.n ∧ X = G.cx s' H' ∧ L2.Inv X pins σ H s ∧ (∃ B, Rel G.K T B w σ H fr h) ∧ Sl ((G.g, .running) :: sl) s := by
 obtain ⟨sw, ww, Hw, hw, _, hn, e, I, R, S, _⟩ := z
 exact ⟨_, _, fB hn, e, I, ⟨_, R⟩, S⟩
theorem Gq {k : Nat} {e : Expr} {yp pos : Pos} {m : M D} (O : Il G T k) (hs : ∀ s H, s.heap.objs.size = G.n → ao (G.cx s H) T (WX.up d8) e m) (hco : G.env.scope.isCoroutine = false := by rfl) (hi : interactive G.env = false := by rfl) :
 GA G T (.Expr (.Yield (some e) yp) pos) (vX m) := fun C sl A c fs Kf J gd lv n s₀ X a w σ H fr h s pins sd ex z t => by
 have hF := z.fam
 obtain ⟨sw, ww, Hw, hw, tk, hn, eX, I, R, S, hp⟩ := id z
 have hz := fB hn
 have ev := G.env_eq (H := Hw) hz
 have eA := G.A_eq (H := Hw) hz
 unfold vX at t
 cases n with
 | zero => exact t.elim
 | succ n =>
   dsimp only at t
   cases em : m fr h with
   | ok d fr' h' =>
     rw [em] at t
     dsimp only at t
     split at t
     · rename_i hfz
       subst eX
       have W := (hs _ Hw hz) (Bs.of ww Hw) w σ H fr h (fun x H' => ∃ w', w.le w' ∧ Rel G.K T (Bs.of ww Hw) w' σ H' fr' h' ∧ aA G.K T w' x d) R (by
        rw [em]
        exact fun w' H' v l R' rv => ⟨w', l, R', rv⟩)
       have g := W.go pins (bF s) (mJ I)
       rw [ev, eA] at g
       refine seg_Expr_Yield sd.split sd.gd sd.guard ?_ hco hi
       rw [sd.over]
       refine wpAny_mono (j5 g) (fun u u' hu => ?_) (fun x u' hx => ?_)
       · obtain ⟨s', P, kp, x, H', I', rv, w', l, R', rd⟩ := hu
         intro kap hk
         have z' : At G T C.Tok sl _ a w' σ H' fr' h' u' pins := ⟨sw, ww, Hw, hw, tk, hn, rfl, j6 P I', R', S.keep kp, hp⟩
         have y := C.yld (n := n) (s₀ := s₀) (kap := kap) z' hfz rv rd
         cases es : C.step d a h' with
         | go a' h2 =>
           rw [es] at t y
           exact y fun l2 z2 => ⟨hk .none _ (t (Wd.le_trans l l2) z2), hk (.bool true) _ (t (Wd.le_trans l l2) z2)⟩
         | out f a' h2 => rw [es] at t y; exact y t
         | err => rw [es] at t; exact t.elim
       · obtain ⟨s', P, kp, q⟩ := hx
         exact ex _ s₀ _ x u' hF (nU hF P q)
     · exact t.elim
   | exc _ _ _ => rw [em] at t; exact t.elim
   | err => rw [em] at t; exact t.elim
end
end GenP
namespace GenP
open PySem PySem.Spec PyProof.Rows L2 GenW Pk
theorem lA {α : Type} {D : Nat → Prop} {M : Model} {A : Around} {t : Sem α} {s u u₀ : Shared} {Q : α → Shared → Prop} {E : Value → Shared → Prop} (P : PS D s u) (k : Kept D u₀ u) (h : wpAny M A t Q E s) :
 wpAny M A t (fun a u' => ∃ s', PS D s' u' ∧ Kept D u₀ u' ∧ Q a s') (fun e u' => ∃ s', PS D s' u' ∧ Kept D u₀ u' ∧ E e s') u :=
 fun Γ p hΓ => yr t (h Γ p hΓ) P k
section
variable {G : GD} {T : Tb}
theorem sV.loop {A : Around} {c c' : Code} {fs : List Frame} {gd : Bool → Bool} (sd : sV G A c fs gd) {k : Result → Sem PySem.Fin} {l kp : List Value} {p : Pos} (hw : c'.weight = 0) (hu : c'.cUnits = 0) : sV G A c' (Frame.ret k none (gd false) l c p kp :: fs) id where
 over := (over_loop hw hu).trans sd.over
 split := by
  show Option.map _ (splitAtGen fs) = none
  rw [sd.split]
  rfl
 guard := by
  show (gd false || fs.any Frame.guarded) = false
  rw [sd.gd, sd.guard]
  rfl
 gd := rfl
theorem wJ {C : sU G T} {A : Around} {c : Code} {fs : List Frame} {Kf : Flow → Sem PySem.Fin} {J : Value → Sem PySem.Fin} {gd : Bool → Bool} {lv : List Value → List Value} {n : Nat} {s₀ s : Shared} {X : Cx} {e : Value} (sd : sV G A c fs gd) (ex : Nk C A c fs J) (hF : qm G X)
 (h : cameBackBy (model G.P G.w) (G.A.deeper G.env) G.env X.xe e s) : Seg (model G.P G.w) A C.R C.Y n s₀ c (Sem.wrap Kf J gd lv ((Sem.raise e).onRaise (cameBack G.env))) fs s := by
 have e1 : ((Sem.raise e : Sem Flow).onRaise (cameBack G.env)) = (cameBack G.env e).bind fun _ => (Sem.raise e : Sem Flow) := rfl
 rw [e1, Sem.bind_eq_wrap, Sem.wrap_wrap]
 refine seg_wrap ?_
 rw [sd.over]
 exact wpAny_mono h (fun _ s' hx => ex n s₀ X e s' hF hx) fun x s' hx => ex n s₀ X x s' hF hx
theorem Gr {X X' : Cx} {pins : List (Addr × Obj)} {H H' : Hp} {b : Addr} (h1 : qm G X) (h2 : qm G X') (f : FpOk X pins H b) (hb : H' b = none) : FpOk X' pins H' b := by
 obtain ⟨s, H0, hz, rfl⟩ := h1
 obtain ⟨s', H0', hz', rfl⟩ := h2
 obtain ⟨_, f1, f2, f3, f4, f5⟩ := f
 have ee : (G.cx s' H0').env = (G.cx s H0).env := (G.env_eq hz').trans (G.env_eq hz).symm
 refine ⟨hb, by rw [ee]; exact f1, f2, ?_, by rw [ee]; exact f4, f5⟩
 rcases f3 with f3 | f3
 · cases f3
 · right
   show s'.heap.objs.size ≤ b
   rw [hz', ← hz]
   exact f3
theorem Jy {X : Cx} {pins : List (Addr × Obj)} {H : Hp} {b : Addr} (h1 : qm G X) (f : FpOk X pins H b) : G.n ≤ b := by
 obtain ⟨s, H0, hz, rfl⟩ := h1
 obtain ⟨_, _, _, f3, _⟩ := f
 rcases f3 with f3 | f3
 · cases f3
 · have f3 : s.heap.objs.size ≤ b := f3
   rw [hz] at f3
   exact f3
theorem Eh {k : Nat} {tg iter : Expr} {body : List Stmt} {pos : Pos} {is : List Nat} {li : M (List D)} {g : D → M Unit} {b : fD} (O : Il G T k) (hi : ∀ s H, s.heap.objs.size = G.n → lM (G.cx s H) T (WX.up d8) tg iter li) (hg : ∀ s H, s.heap.objs.size = G.n → iT (G.cx s H) T is tg g) (hb : Ef G T body b)
 (hs : ∀ x, foldedSetIterable iter G.env x = pure x := by intro _; rfl) : GA G T (.For tg iter body [] pos) (yt li g b) := fun C sl A c fs Kf J gd lv n s₀ X a w σ H fr h s pins sd ex z t => by
 have hF := z.fam
 obtain ⟨sw, ww, Hw, hw, tk, hn, eX, I, R, S, hpn⟩ := id z
 have hz := fB hn
 have ev := G.env_eq (H := Hw) hz
 have eA := G.A_eq (H := Hw) hz
 unfold yt at t
 cases em : li fr h with
 | exc _ _ _ => rw [em] at t; exact t.elim
 | err => rw [em] at t; exact t.elim
 | ok ds fr0 h0 =>
   rw [em] at t
   subst eX
   have W := (hi _ Hw hz) (Bs.of ww Hw) w σ H fr h (fun J' H' => ∃ w', w.le w' ∧ Rel G.K T (Bs.of ww Hw) w' σ H' fr0 h0 ∧ vJ G.K T (Bs.of ww Hw) σ w' H' fr0 J' ds) R (by
    rw [em]
    exact fun w' H' v l R' rv => ⟨w', l, R', rv⟩)
   have g0 := W.go pins (bF s) (mJ I)
   rw [ev, eA] at g0
   refine Jx hs ?_
   rw [sd.over]
   refine wpAny_mono (j5 g0) (fun v u1 h1 => ?_) fun x u' hx => ?_
   rotate_left
   · obtain ⟨s', P, kp, q⟩ := hx
     exact ex n s₀ _ x u' hF (nU hF P q)
   obtain ⟨s1, P1, k1, h1⟩ := h1
   refine wpAny_mono (lA P1 k1 h1) (fun itv u2 h2 => fun p => ?_) fun x u' hx => ?_
   rotate_left
   · obtain ⟨s', P, kp, q⟩ := hx
     exact ex n s₀ _ x u' hF (nU hF P q)
   obtain ⟨s2, P2, k2, it, fp, tn, J', H2, rfl, I2, Tn, st2, f2, w2, l2, R2, vj⟩ := h2
   have I2 := j6 P2 I2
   rw [P2.heap] at st2
   have sdl : ∀ kk : Result → Sem PySem.Fin, sV G A (.forLoop tg (.ref it) body [] G.env) (.ret kk none (gd false) (lv []) c p [] :: fs) id := fun kk => sd.loop rfl rfl
   have ee : ∀ (n : Nat) (s₀ : Shared) (X : Cx) (x : Value) (s' : Shared), qm G X → X.xe x s' → Seg (model G.P G.w) A C.R C.Y n s₀ (.forLoop tg (.ref it) body [] G.env)
    (iz G.env x)
    (.ret (fun r => ((match r with | .ok f => (.pure f : Sem Flow) | .error e => .raise e).onRaise (cameBack G.env)).wrap Kf J gd lv) none (gd false) (lv []) c p [] :: fs) s' := fun n s₀ X x s' hF' hx => by
    refine seg_wrap ?_
    rw [(sdl _).over]
    have po : PassesOwn (model G.P G.w) (G.A.deeper G.env) G.env X.xe := by
     obtain ⟨s', H', hz', rfl⟩ := hF'
     have := (O.cq s' H' hz').po
     rw [G.env_eq hz', G.A_eq hz'] at this
     exact this
    refine wpAny_bind (wpAny_mono (po x s' hx) (fun _ s'' hcb => wpAny_theTreesLotGoes ?_) fun y s'' hcb => ?_)
    · exact seg_leaf (.error x) (wJ sd ex hF' hcb)
    · exact seg_leaf (.error y) (wJ sd ex hF' hcb)
   have fst : ∀ {X' : Cx} {H' : Hp}, qm G X' → (∀ b ∈ fp, H' b = none) → ∀ b ∈ fp, FpOk X' pins H' b := fun h1 h2 b hb => Gr hF h1 (f2 b hb) (h2 b hb)
   have loop : ∀ (r : List D) (i n : Nat) (s₀ s : Shared) (X : Cx) (a : Fr) (w : Wd) (σ : L2.St) (H : Hp) (fr : Fr) (h : Hh), ds.drop i = r → w2.le w → At G T C.Tok sl X a w σ H fr h s pins → tn i s.heap → (∀ b ∈ fp, H b = none) → j7 C sl A c fs (Kf .next) w pins (ql g b r C.step n a fr h) →
    Seg (model G.P G.w) A C.R C.Y n s₀ (.forLoop tg (.ref it) body [] G.env) ((model G.P G.w).den (.forLoop tg (.ref it) body [] G.env))
     (.ret (fun r => ((match r with | .ok f => (.pure f : Sem Flow) | .error e => .raise e).onRaise (cameBack G.env)).wrap Kf J gd lv) none (gd false) (lv []) c p [] :: fs) s := by
    intro r
    induction r with
    | nil =>
      intro i n s₀ s X a w σ H fr h er lw z st fn t
      have hF := z.fam
      obtain ⟨sw, ww, Hw, hw, tk, hn, eX, I, R, S, hpn⟩ := id z
      have hz := fB hn
      have eA := G.A_eq (H := Hw) hz
      subst eX
      have stop := (vj i w H lw R.sub).1 (by
       have := congrArg List.length er
       rw [List.length_drop] at this
       have e0 : ([] : List D).length = 0 := rfl
       omega)
      have g1 := Tn.done (G.cx (cutS G.n sw) Hw) rfl rfl rfl (O.cq _ Hw hz).calm i pins (bF s) σ H (G.cx (cutS G.n sw) Hw).xe (mJ I) (fst hF fn) st stop
      rw [eA] at g1
      refine rQ ?_
      rw [(sdl _).over]
      refine wpAny_mono (j5 g1) (fun r' u4 h4 => ?_) fun x u' hx => ?_
      · obtain ⟨s4, P4, k4, rfl, I4⟩ := h4
        refine seg_again rfl ?_
        exact seg_leaf (.ok .next) (t (Wd.le_refl w) ⟨sw, ww, Hw, hw, tk, hn, rfl, j6 P4 I4, R, S.keep k4, hpn⟩)
      · obtain ⟨s', P, kp, q⟩ := hx
        exact ee n s₀ _ x u' hF (nU hF P q)
    | cons d r ih =>
      intro i n s₀ s X a w σ H fr h er lw z st fn t
      have hF := z.fam
      obtain ⟨sw, ww, Hw, hw, tk, hn, eX, I, R, S, hpn⟩ := id z
      have hz := fB hn
      have ev := G.env_eq (H := Hw) hz
      have eA := G.A_eq (H := Hw) hz
      subst eX
      have hd : ds[i]? = some d := by
       have := congrArg (·[0]?) er
       simpa [List.getElem?_drop] using this
      have er' : ds.drop (i + 1) = r := by
       rw [← List.drop_drop, er]
       rfl
      obtain ⟨go, yl⟩ := (vj i w H lw R.sub).2 d hd
      have g1 := Tn.item (G.cx (cutS G.n sw) Hw) rfl rfl rfl (O.cq _ Hw hz).calm i pins (bF s) σ H (G.cx (cutS G.n sw) Hw).xe (mJ I) (fst hF fn) st go
      rw [eA] at g1
      refine rQ ?_
      rw [(sdl _).over]
      refine wpAny_mono (j5 g1) (fun r' u4 h4 => ?_) fun x u' hx => ?_
      rotate_left
      · obtain ⟨s', P, kp, q⟩ := hx
        exact ee n s₀ _ x u' hF (nU hF P q)
      obtain ⟨s4, P4, k4, uu, rfl, h4⟩ := h4
      refine wpAny_mono (lA P4 k4 h4) (fun _ u5 h5 => ?_) fun x u' hx => ?_
      rotate_left
      · obtain ⟨s', P, kp, q⟩ := hx
        exact ee n s₀ _ x u' hF (nU hF P q)
      obtain ⟨s5, P5, k5, x, H5, I5, r5, y5, st5, fr5⟩ := h5
      obtain ⟨w5, l5, R5, rd5⟩ := yl x H5 y5 _ _ _ _ R
      have I5p := I5.pinned (fst hF fr5) (Tn.obj _ _ st5)
      unfold ql at t
      cases eg : g d fr h with
      | exc _ _ _ => rw [eg] at t; exact t.elim
      | err => rw [eg] at t; exact t.elim
      | ok uu2 fr6 h6 =>
        rw [eg] at t
        have t : j7 C sl A c fs (Kf .next) w pins ((b C.step n a fr6 h6).bind (ql g b r C.step)) := t
        have WGt := hg _ Hw hz (Bs.of ww Hw) w5 σ H5 fr h x d (fun σ' H' => ∃ w', w5.le w' ∧ Rel G.K T (Bs.of ww Hw) w' σ' H' fr6 h6) R5 rd5 (by
         rw [eg]
         exact fun w' σ' H' l R' _ => ⟨w', l, R'⟩)
        have g2 := WGt (pins ++ pinsAt fp s5.heap) s5 uu I5p r5
        rw [ev, eA] at g2
        refine wpAny_mono (lA P5 k5 g2) (fun _ u6 h6' => ?_) fun x u' hx => ?_
        rotate_left
        · obtain ⟨s', P, kp, q⟩ := hx
          exact ee n s₀ _ x u' hF (nU hF P q)
        obtain ⟨s6, P6, k6, σ6, H6, I6, w6, l6, R6⟩ := h6'
        have z6 : At G T C.Tok sl _ a w6 σ6 H6 fr6 h6 u6 (pins ++ pinsAt fp s5.heap) := ⟨sw, ww, Hw, hw, tk, hn, rfl, j6 P6 I6, R6, S.keep k6, fun p hp => (List.mem_append.mp hp).elim (hpn p) fun h => Jy hF (fst hF fr5 p.1 (of_pinsAt h).1)⟩
        have l26 : w.le w6 := Wd.le_trans l5 l6
        refine hb C sl A _ _ (turned tg (.ref it) body G.env) (iz G.env) id id n s₀ _ a w6 σ6 H6 fr6 h6 u6 _ (sdl _) (fun n' s₀' X' x' s' hF' hx => ee n' s₀' X' x' s' hF' hx) z6 ?_
        cases eb : b C.step n a fr6 h6 with
        | out f a' h' => rw [eb] at t; exact t
        | err => rw [eb] at t; exact t.elim
        | go n' a' fr7 h7 =>
          rw [eb] at t
          intro X7 w7 σ7 H7 s7 s₀' l7 z7
          have pn : ∀ b ∈ fp, ∀ o, s5.heap.get? b = some o → s7.heap.get? b = some o ∧ H7 b = none := fun b hb o e => by
           obtain ⟨_, _, _, _, _, _, _, J7, _⟩ := z7
           have q := J7.pin (b, o) (W4 _ (W4 _ (mem_pinsAt hb e)))
           exact ⟨q.1, q.2.1⟩
          obtain ⟨sw', ww', Hw', hw', tk', hn', eX', I7, R7, S7, hpn7⟩ := z7
          refine seg_again rfl (ih (i + 1) n' s₀' s7 X7 a' w7 σ7 H7 fr7 h7 er' (Wd.le_trans lw (Wd.le_trans l26 l7)) ⟨sw', ww', Hw', hw', tk', hn', eX', I7.unpinned, R7, S7, hpn⟩ (Tn.keep _ _ _ st5 fun b hb o e => (pn b hb o e).1) (fun b hb => ?_) (j7.le (Wd.le_trans l26 l7) t))
          obtain ⟨o, e, _⟩ := Tn.obj _ _ st5 b hb
          exact (pn b hb o e).2
   exact loop ds 0 n s₀ u2 _ a w2 σ H2 fr0 h0 rfl (Wd.le_refl w2) ⟨sw, ww, Hw, hw, tk, hn, rfl, I2, R2, S.keep k2, hpn⟩ st2 (fun b hb => (f2 b hb).1) (j7.le l2 t)
end
end GenP
namespace GenP
open PySem PySem.Spec PyProof.Rows L2 GenW Pk
def yu (P : Program) (w : World) (K : PySem.W.Frag) (mg : Str → Option Value) (base : Heap) (N : List Str) (qual : Str) (scope : Scope) (body : List Stmt) (f : Addr) (cdv : Value) (outer : List Env) (H : Hp) (vs : List V) (s : Shared) (u : Value) (s' : Shared) : Prop :=
 ∃ a g go, u = .ref a ∧ s.heap.objs.size < a ∧ s'.heap.get? a = some go ∧ (∀ h : Heap, h.get? a = some go → h.IsGen a g) ∧ (∀ v, go.data ≠ .cell v) ∧ s'.gens[g]? = some (.fresh (.func body (envOfC qual scope s.heap.objs.size f cdv))) ∧
   s'.os = s.os ∧ AllBare s'.gens ∧ (∀ b o, s.heap.get? b = some o → s'.heap.get? b = some o) ∧
   ∀ A : Around, A.handled = none → A.frames = some outer → L2.Inv (GD.cx ⟨P, w, K, mg, base, N, qual, scope, f, cdv, A, outer, s.heap.objs.size, g, [(a, go)]⟩ s H) [] (L2.start N vs) H s'
structure Cu (P : Program) (w : World) (K : PySem.W.Frag) (mg : Str → Option Value) (base : Heap) (f : Addr) (fd : FuncData) (ps N : List Str) (qual : Str) (scope : Scope) (body : List Stmt) : Prop where
 ex : ∃ cdv, ∀ (A : Around) (outer : List Env) (s : Shared) (H : Hp) (args : Args) (us : List Value) (vs : List V), A.depth < recursionLimit → A.handled = none → Env0 P w K mg base A outer s H → BindsTo s fd args (ps.zip us) → Vals vs us → vs.length = ps.length →
  codeAny (model P w) A (.call (.ref f) args) (fun r s' => match r with
   | .ok (.ret u) => yu P w K mg base N qual scope body f cdv outer H vs s u s'
   | _ => False) s
theorem qp {h base : Heap} : ∀ {l : List Env}, h.FunFrames base l → ∀ b ∈ frs l, ∃ o, h.get? b = some o
 | [], _, b, hb => by cases hb
 | env :: rest, hf, b, hb => by
   obtain ⟨_, ⟨L, o, e1, _, e3, _⟩, hr⟩ := hf
   have hm : frs (env :: rest) = L :: frs rest := by
    unfold frs
    rw [List.filterMap_cons, e1]
   rw [hm] at hb
   rcases List.mem_cons.mp hb with rfl | hb
   · exact ⟨o, e3⟩
   · exact qp hr b hb
section
variable {P : Program} {w : World} {K : PySem.W.Frag} {mg : Str → Option Value} {base : Heap} {x qual : Str} {params : Arguments} {body : List Stmt} {scope : Scope} {f : Addr} {fd : FuncData} {N ps : List Str} {dvs : List V} {kws : List (Str × V)}
theorem QH (F : FunD K x qual params body scope dvs kws f fd) (S : GScope N ps scope) : Cu P w K mg base f fd ps N qual scope body := by
 obtain ⟨oc, od, dV, kV, doc, pm, an, cdv, ct, osl, rfl, lk, hcd, _, _⟩ := F.ex
 refine ⟨cdv, fun A outer s H args us vs hd hh e0 hb r hl => ?_⟩
 have KX := W.Frag.In.keeps e0.mod.kin fun b o e => (e0.bs b o e).1
 have lim := Heap.NoLimit.keeps e0.mod.nolimit fun b o e => (e0.bs b o e).1
 have hkind : ∀ y ∈ ps.zip us, Ww y.1 scope.names = some NameKind.local ∨ Ww y.1 scope.names = some NameKind.cell ∧ (Ww y.1 (cellsFrom (s.heap.objs.size + 1) scope.names [])).isSome = true := fun y hy => by
  obtain ⟨n, v⟩ := y
  rcases S.par n (List.of_mem_zip hy).1 with q | q
  · exact .inl q
  · exact .inr ⟨q, W.cellsFrom_some scope.names (s.heap.objs.size + 1) [] (.inl q)⟩
 refine codeAny_call_generator hd (KX f _ lk) rfl S.co S.gen rfl (W.codeRec_of KX hcd) (hb _ _ _ _ ?_)
 refine wpAny_newFunctionEnv_cells S.kind hkind fun env he s1 y => ?_
 subst he
 have z : InCallC s s.heap.objs.size (bindL (envOfC qual scope s.heap.objs.size f cdv).kindOf (ps.zip us) fun x => none) (cellsFrom (s.heap.objs.size + 1) scope.names []) (bindC (envOfC qual scope s.heap.objs.size f cdv).kindOf (ps.zip us) fun x => none) s1 := y
 have lim1 := Heap.NoLimit.keeps lim z.toInCall.keep
 refine ⟨lim1, ?_⟩
 obtain ⟨h1, tk, es1, hk1⟩ := z.done
 have lt1 := Heap.Ns.lt z.toInCall.ns
 have kp1 := z.toInCall.keep
 have os1 : s1.os = s.os := by rw [es1]
 have gen1 : s1.gens = s.gens := by rw [es1]
 have bare1 : AllBare s1.gens := by rw [gen1]; exact e0.bare
 have main : ∀ (go : Obj) (nm qn : Value) (tk2 : Nat), go.cls = .type "generator" → go.data = .fields #[.int (s1.gens.size : Nat) 0, nm, qn] → go.slots = #[] → (∀ h : Heap, (h.push go).get? h.objs.size = some go) →
  yu P w K mg base N qual scope body f cdv outer H vs s (.ref s1.heap.objs.size) { heap := s1.heap.push go, gens := s1.gens.push (.fresh (.func body (envOfC qual scope s.heap.objs.size f cdv))), drawn := s1.drawn, toks := tk2, os := s1.os } := fun go nm qn tk2 hc hd2 hs2 hp => by
  refine ⟨s1.heap.objs.size, s1.gens.size, go, rfl, lt1, hp s1.heap, fun h e => ⟨go, nm, qn, e, hc, hd2, hs2⟩, fun v q => (by rw [hd2] at q; cases q), Array.getElem?_push_size, os1, AllBare.push bare1 rfl, fun b o e => Heap.get?_push_of_some go (kp1 b o e), fun A2 hh2 hf2 => ?_⟩
  have e0w : Env0 P w K mg base A2 outer s H := ⟨hf2, e0.mod, e0.bs, e0.bsz, e0.funs, e0.frf, e0.hok, e0.bare⟩
  have I1 := inv_startG (E := d8) S hh2 e0w hl r z
  have I2 := I1.kept (h' := s1.heap.push go) (t' := tk2) fun b o e => Heap.get?_push_of_some go e
  have I3 := dR (u := { heap := s1.heap.push go, gens := s1.gens.push (.fresh (.func body (envOfC qual scope s.heap.objs.size f cdv))), drawn := s1.drawn, toks := tk2, os := s1.os }) I2 rfl rfl (AllBare.push bare1 rfl)
  have O := I3.ok
  have Ha : H s1.heap.objs.size = none := e0.hok.fresh (Nat.le_of_lt lt1)
  refine ⟨⟨O.mod, O.kind, O.glob, O.blt, O.above, O.inj, O.has, O.cab, O.hd, O.frames, O.stk, O.exf, O.bs, O.bsz, O.noex, O.exfs, O.funs, O.frf⟩, I3.os, I3.bare, I3.base, I3.loc, I3.cell, I3.free, I3.freeC, fun p hp2 => ?_, I3.hok, I3.len⟩
  have hp4 : p ∈ [(s1.heap.objs.size, go)] ++ [] := hp2
  have hp3 : p ∈ [(s1.heap.objs.size, go)] := by rw [WN] at hp4; exact hp4
  rw [List.mem_singleton.mp hp3]
  refine ⟨hp s1.heap, Ha, Nat.ne_of_gt lt1, fun q => ?_, fun v q => (by rw [hd2] at q; cases q)⟩
  obtain ⟨o, eo⟩ := qp e0.funs _ q
  exact absurd (Heap.lt_size eo) (Nat.not_lt.mpr (Nat.le_of_lt lt1))
 exact main _ _ _ _ rfl rfl rfl fun h => Heap.get?_push_size h rfl
end
section
theorem Ei {K : PySem.W.Frag} {T : Tb} {w w' : Wd} {B : Bs} {σ : L2.St} {H H' : Hp} {fr : Fr} {h h' : Hh} (R : Rel K T B w σ H fr h) (hf : frozen fr = true) (l : w.le w') (R2 : Rel K T (Bs.of w' H') w' [] H' [] h') : Rel K T (Bs.of w' H') w' σ H' fr h' where
 le := R2.le
 nF := R2.nF
 nI := R2.nI
 keep := R2.keep
 prot := R2.prot
 sub := R2.sub
 len := R2.len
 nd := R2.nd
 dis := R2.dis
 cel := R2.cel
 fl := R.fl
 sl := fun i s d e1 e2 => by
  cases R.sl i s d e1 e2 with
  | none => exact .none
  | val r => exact .val (r.mono l)
  | @own p o d _ _ r =>
    have := List.all_eq_true.mp hf _ (WL e2)
    simp [r.own] at this
 sep := fun i j p _ ⟨_, d, e, od⟩ _ => by
  have := List.all_eq_true.mp hf _ (WL e)
  simp [od] at this
 me := fun x d e => by cases e
variable {X : Cx} {T : Tb} {W : WX} {k : Nat}
def Yf (X : Cx) (pins : List (Addr × Obj)) (tg : Expr) (body : List Stmt) (a : Addr) (g : Nat) (D : Ends) : Protocol := fun _ _ v s kap => ∀ gs' : GenState, gs'.bare = true →
 wpAny (model X.prog X.w) X.A (assign tg X.env v) (fun _ s2 => wpAny (model X.prog X.w) X.A (execs body X.env) (fun f s3 => match f with
  | .next => (cV gs' = true → s3.gens[g]? = some gs') ∧ s3.heap.IsGen a g ∧ s3.heap.NoLimit ∧ kap (.send .none) (s3.setGen g .running) ∧ kap (.send (.bool true)) (s3.setGen g .running)
  | .cont => (cV gs' = true → s3.gens[g]? = some gs') ∧ s3.heap.IsGen a g ∧ s3.heap.NoLimit ∧ kap (.send .none) (s3.setGen g .running) ∧ kap (.send (.bool true)) (s3.setGen g .running)
  | .brk => ∃ σ' H', L2.Inv X pins σ' H' s3 ∧ D.nx σ' H'
  | .ret u => ∃ x σ' H', L2.Inv X pins σ' H' s3 ∧ RelV x u ∧ D.rt x H') X.xe s2) X.xe (s.setGen g gs')
def Rf (X : Cx) (pins : List (Addr × Obj)) (D : Ends) : GenEnd := fun _ _ r s => (r = .ok (.ret .none) ∨ r = .ok .next) ∧ (∃ σ' H', L2.Inv X pins σ' H' s ∧ D.nx σ' H') ∨ ∃ e, r = .error e ∧ False
def stepF (g : D → M Unit) (b : M Fl) : Step := fun d a h => match g d a h with
 | .ok _ a h => match b a h with
   | .ok .nx a h => .go a h
   | .ok .ct a h => .go a h
   | .ok .brk a h => .out .nx a h
   | .ok (.rt d) a h => .out (.rt d) a h
   | _ => .err
 | _ => .err
def Cv (X : Cx) (T : Tb) (B : Bs) (w0 : Wd) (pins : List (Addr × Obj)) : Fr → Shared → Wd → Hp → Hh → Prop := fun a sw ww Hw hw => ∃ σ, L2.Inv X pins σ Hw sw ∧ Rel X.K T B ww σ Hw a hw ∧ w0.le ww
def Nm (X : Cx) (T : Tb) (B : Bs) (W : WX) (w0 : Wd) (D : Ends) : Fl → Fr → Hh → Prop := fun f a h => aP X.K T B W w0 (.ok f a h) D
end
end GenP
namespace GenP
open PySem PySem.Spec PyProof.Rows L2 GenW Pk
abbrev Gc (X : Cx) (N : List Str) (qual : Str) (scope : Scope) (f : Addr) (cdv : Value) (n g : Nat) (a : Addr) (go : Obj) : GD := ⟨X.prog, X.w, X.K, X.mg, X.base, N, qual, scope, f, cdv, X.A.in1, X.stack, n, g, [(a, go)]⟩
section
variable {X : Cx} {T : Tb} {W : WX} {k : Nat} {pins : List (Addr × Obj)} {tg : Expr} {body : List Stmt} {gm : D → M Unit} {bm : M Fl} {is : List Nat} {B : Bs} {w0 : Wd} {Dn : Ends}
 {N : List Str} {qual : Str} {scope : Scope} {f : Addr} {cdv : Value} {n g : Nat} {a : Addr} {go : Obj}
structure Np (X : Cx) (pins : List (Addr × Obj)) (N : List Str) (qual : Str) (scope : Scope) (f : Addr) (cdv : Value) (n g : Nat) (a : Addr) (go : Obj) : Prop where
 low : Nh X pins n
 cel : (Gc X N qual scope f cdv n g a go).env.cells = []
 na : n < a
 gen : ∀ h : Heap, h.get? a = some go → h.IsGen a g
 dat : ∀ v, go.data ≠ .cell v
 fr : ∀ b ∈ frs X.stack, b < n
theorem nW (sg : iT X T is tg gm) (sb : gR X T W body bm) (hx : ∀ {D : Nat → Prop} {s u : Shared} {e : Value}, PS D s u → X.xe e s → X.xe e u) {σ : L2.St} {H : Hp} {s : Shared} {af : Fr} {h : Hh} {w : Wd} {x : V} {u : Value} {d : D} {uu : Unit} {a1 : Fr} {h1 : Hh} {D' : Ends}
 (I : L2.Inv X pins σ H s) (R : Rel X.K T B w σ H af h) (rx : RelV x u) (rd : aA X.K T w x d) (eg : gm d af h = .ok uu a1 h1) (p : aP X.K T B W w (bm a1 h1) D') :
 wpAny (model X.prog X.w) X.A (assign tg X.env u) (fun _ s2 => wpAny (model X.prog X.w) X.A (execs body X.env) (fun f s3 => ∃ s', PS (cZ s) s' s3 ∧ Kept (cZ s) s s3 ∧ SP X pins D' f s') X.xe s2) X.xe s := by
 have g1 := sg B w σ H af h x d (fun σ' H' => ∃ w', w.le w' ∧ Rel X.K T B w' σ' H' a1 h1) R rd (by
  rw [eg]
  exact fun w' σ' H' l R' _ => ⟨w', l, R'⟩) pins (bF s) u (mJ I) rx
 refine wpAny_mono (j5 g1) (fun _ s2 h2 => ?_) fun e s' ⟨s2, P, _, q⟩ => hx P q
 obtain ⟨s2', P2, k2, σ2, H2, I2, w2, l2, R2⟩ := h2
 have g2 := (sb B w2 σ2 H2 a1 h1 D' R2 (aP.le l2 p)).go pins s2' I2
 exact wpAny_mono (lA P2 k2 g2) (fun f s3 q => q) fun e s' ⟨s3, P, _, q⟩ => hx P q
theorem Nr (hB : Np X pins N qual scope f cdv n g a go) (sg : iT X T is tg gm) (sb : gR X T W body bm) (hx : ∀ {D : Nat → Prop} {s u : Shared} {e : Value}, PS D s u → X.xe e s → X.xe e u)
 {sl : SL} {Xg : Cx} {m : Nat} {s₀ : Shared} {kap : Resume → Shared → Prop} {x : V} {u : Value} {d : D} {af : Fr} {w : Wd} {σ : L2.St} {H : Hp} {fr : Fr} {h : Hh} {s : Shared} {pg : List (Addr × Obj)}
 (z : At (Gc X N qual scope f cdv n g a go) T (Cv X T B w0 pins) sl Xg af w σ H fr h s pg) (hf : frozen fr = true) (rx : RelV x u) (rd : aA X.K T w x d) :
 match stepF gm bm d af h with
 | .go a' h' => (∀ {X' : Cx} {w' : Wd} {H' : Hp} {s' : Shared}, w.le w' → At (Gc X N qual scope f cdv n g a go) T (Cv X T B w0 pins) sl X' a' w' σ H' fr h' s' pg → kap (.send .none) s' ∧ kap (.send (.bool true)) s') → Yf X pins tg body a g Dn m s₀ u s kap
 | .out f a' h' => Nm X T B W w0 Dn f a' h' → Yf X pins tg body a g Dn m s₀ u s kap
 | .err => True := by
 obtain ⟨sw, ww, Hw, hw, ⟨σc, Ic, Rc, lc⟩, hn, rfl, Ig, Rg, Sg, hpg⟩ := z
 have hz : (cutS n sw).heap.objs.size = n := fB hn
 have U : Un (frs X.stack) [] Hw H (cutS n sw).heap s.heap := Ig.base
 have I1 : L2.Inv X pins σc H s := zE Ic hB.low U Ig.hok Ig.os Ig.bare
 have R1 : Rel X.K T B w σc H af h := Rc.back Rg.le Rg.unframe
 have lw : w0.le w := Wd.le_trans lc Rg.le
 have lo : ((Gc X N qual scope f cdv n g a go).cx (cutS n sw) Hw).env.locals = n := hz
 have nX : X.env.locals < n := hB.low.loc
 have sX : X.s_0.heap.objs.size ≤ n := Nat.le_trans I1.ok.above (Nat.le_of_lt nX)
 have gp : ∀ p ∈ [(a, go)] ++ pg, s.heap.get? p.1 = some p.2 ∧ H p.1 = none ∧ ∀ v, p.2.data ≠ Data.cell v := fun p hp => by
  obtain ⟨e1, e2, _, _, e5⟩ := Ig.pin p hp
  exact ⟨e1, e2, e5⟩
 obtain ⟨oL, eL, dL⟩ : ∃ o, s.heap.get? n = some o ∧ ∀ v, o.data ≠ Data.cell v := by
  obtain ⟨m, ⟨o, es, ep, e1, e2, _⟩, _⟩ := Ig.loc
  rw [lo] at e1
  exact ⟨o, e1, fun v q => by rw [e2] at q; cases q⟩
 have HL : H n = none := by have := Ig.free; rw [lo] at this; exact this
 have ge : ∀ b ∈ n :: a :: pg.map (·.1), n ≤ b := fun b hb => by
  rcases List.mem_cons.mp hb with rfl | hb
  · exact Nat.le_refl _
  rcases List.mem_cons.mp hb with rfl | hb
  · exact Nat.le_of_lt hB.na
  · obtain ⟨p, hp, rfl⟩ := List.mem_map.mp hb
    exact hpg p hp
 have fOb : ∀ b ∈ n :: a :: pg.map (·.1), ∃ o, s.heap.get? b = some o ∧ ∀ v, o.data ≠ Data.cell v := fun b hb => by
  rcases List.mem_cons.mp hb with rfl | hb
  · exact ⟨oL, eL, dL⟩
  rcases List.mem_cons.mp hb with rfl | hb
  · obtain ⟨e1, _, e3⟩ := gp (b, go) (List.mem_append_left _ (List.mem_singleton.mpr rfl))
    exact ⟨go, e1, e3⟩
  · obtain ⟨p, hp, rfl⟩ := List.mem_map.mp hb
    obtain ⟨e1, _, e3⟩ := gp p (W4 _ hp)
    exact ⟨_, e1, e3⟩
 have fOk : ∀ b ∈ n :: a :: pg.map (·.1), FpOk X pins H b := fun b hb => by
  have hge := ge b hb
  refine ⟨?_, fun e => ?_, fun q => ?_, .inr (Nat.le_trans sX hge), fun x c hc e => ?_, fun p hp e => ?_⟩
  · rcases List.mem_cons.mp hb with rfl | hb
    · exact HL
    rcases List.mem_cons.mp hb with rfl | hb
    · exact (gp (b, go) (List.mem_append_left _ (List.mem_singleton.mpr rfl))).2.1
    · obtain ⟨p, hp, rfl⟩ := List.mem_map.mp hb
      exact (gp p (W4 _ hp)).2.1
  · exact absurd hge (Nat.not_le.mpr (e ▸ nX))
  · have q2 : b ∈ frs X.stack := by
     rcases I1.ok.stk with e | ⟨e, _⟩
     · rw [e]; exact q
     · rw [e]
       unfold frs
       rw [List.filterMap_cons]
       split
       · exact q
       · exact WQ _ q
    exact absurd hge (Nat.not_le.mpr (hB.fr b q2))
  · exact absurd hge (Nat.not_le.mpr (e ▸ hB.low.cel x c hc))
  · exact absurd hge (Nat.not_le.mpr (e ▸ hB.low.pin p hp))
 have I2 := I1.pinned fOk fOb
 obtain ⟨hgr, _⟩ := Sg (g, .running) WK
 have gl : g < s.gens.size := (Array.getElem?_eq_some_iff.mp hgr).1
 have I3 : ∀ gs' : GenState, gs'.bare = true → L2.Inv X (pins ++ pinsAt (n :: a :: pg.map (·.1)) s.heap) σc H (s.setGen g gs') := fun gs' hb => dR I2 rfl rfl (by
  intro y hy
  obtain ⟨i, hi, e⟩ := Array.mem_iff_getElem.mp (show y ∈ s.gens.setIfInBounds g gs' from hy)
  have e : (s.gens.setIfInBounds g gs')[i]? = some y := by rw [Array.getElem?_eq_getElem hi, e]
  by_cases hi2 : g = i
  · subst hi2
    rw [Array.getElem?_setIfInBounds_self_of_lt gl] at e
    cases e
    exact hb
  · rw [Array.getElem?_setIfInBounds_ne hi2] at e
    exact Ig.bare y (Array.mem_of_getElem? e))
 unfold stepF
 cases eg : gm d af h with
 | exc _ _ _ => trivial
 | err => trivial
 | ok uu a1 h1 =>
   dsimp only
   cases eb : bm a1 h1 with
   | exc _ _ _ => trivial
   | err => trivial
   | ok fl a2 h2 =>
     have goes : (∀ {X' : Cx} {w' : Wd} {H' : Hp} {s' : Shared}, w.le w' → At (Gc X N qual scope f cdv n g a go) T (Cv X T B w0 pins) sl X' a2 w' σ H' fr h2 s' pg → kap (.send .none) s' ∧ kap (.send (.bool true)) s') → ∀ (gs' : GenState) (s3 : Shared) (σ3 : L2.St) (H3 : Hp) (w3 : Wd) (s3' : Shared),
      PS (cZ (s.setGen g gs')) s3' s3 → Kept (cZ (s.setGen g gs')) (s.setGen g gs') s3 → L2.Inv X (pins ++ pinsAt (n :: a :: pg.map (·.1)) s.heap) σ3 H3 s3' → w.le w3 → Rel X.K T B w3 σ3 H3 a2 h2 →
      (cV gs' = true → s3.gens[g]? = some gs') ∧ s3.heap.IsGen a g ∧ s3.heap.NoLimit ∧ kap (.send .none) (s3.setGen g .running) ∧ kap (.send (.bool true)) (s3.setGen g .running) := fun hk gs' s3 σ3 H3 w3 s3' P Kp I l R3 => by
      have I := j6 P I
      have pn : ∀ b ∈ n :: a :: pg.map (·.1), ∀ o, s.heap.get? b = some o → s3.heap.get? b = some o ∧ H3 b = none := fun b hb o e => by
       have q := I.pin (b, o) (W4 _ (W4 _ (mem_pinsAt hb e)))
       exact ⟨q.1, q.2.1⟩
      have gl3 : g < s3.gens.size := Nat.lt_of_lt_of_le (by show g < (s.gens.setIfInBounds g gs').size; simpa using gl) Kp.2
      have ea := pn a (by simp) go (gp (a, go) (List.mem_append_left _ (List.mem_singleton.mpr rfl))).1
      refine ⟨fun hs => ?_, hB.gen _ ea.1, I.nolimit, ?_⟩
      · have e0 : (s.setGen g gs').gens[g]? = some gs' := by
         show (s.gens.setIfInBounds g gs')[g]? = _
         rw [Array.getElem?_setIfInBounds_self_of_lt gl]
        exact (Kp.1 g ⟨gs', e0, hs⟩).trans e0
      · have Ir : L2.Inv X pins σ3 H3 (s3.setGen g .running) := dR I.unpinned rfl rfl (by
         intro y hy
         obtain ⟨i, hi, e⟩ := Array.mem_iff_getElem.mp (show y ∈ s3.gens.setIfInBounds g .running from hy)
         have e : (s3.gens.setIfInBounds g .running)[i]? = some y := by rw [Array.getElem?_eq_getElem hi, e]
         by_cases hi2 : g = i
         · subst hi2
           rw [Array.getElem?_setIfInBounds_self_of_lt gl3] at e
           cases e
           rfl
         · rw [Array.getElem?_setIfInBounds_ne hi2] at e
           exact I.bare y (Array.mem_of_getElem? e))
        have e0 := Ir.env0
        have hn3 : n ≤ (s3.setGen g .running).heap.objs.size := Nat.le_of_lt (Heap.lt_size (pn n (by simp) oL eL).1)
        have Iw := zF (G := Gc X N qual scope f cdv n g a go) (s2 := s3.setGen g .running) (H2 := H3) hz Ig ⟨e0.frames, e0.mod, e0.bs, e0.bsz, e0.funs, e0.frf, e0.hok, e0.bare⟩ hB.cel (fun o e => (pn n (by simp) o e).1) (pn n (by simp) oL eL).2 (fun p hp => by
         rcases List.mem_append.mp hp with q | q
         · rw [List.mem_singleton.mp q]
           exact ea
         · exact pn p.1 (by simp only [List.mem_cons, List.mem_map]; exact .inr (.inr ⟨p, q, rfl⟩)) p.2 (gp p (W4 _ q)).1) hn3 (Nat.le_trans I1.ok.bsz sX) hB.fr
        refine hk l ⟨s3.setGen g .running, w3, H3, h2, ⟨σ3, Ir, R3, Wd.le_trans lw l⟩, hn3, rfl, Iw, Ei Rg hf l R3.enter, fun p hp => ?_, hpg⟩
        show (s3.gens.setIfInBounds g .running)[p.1]? = some p.2 ∧ _
        rcases List.mem_cons.mp hp with rfl | q
        · exact ⟨Array.getElem?_setIfInBounds_self_of_lt gl3, rfl⟩
        · obtain ⟨e1, e2⟩ := Sg p (WQ _ q)
          by_cases hp1 : g = p.1
          · rw [← hp1] at e1 ⊢
            rw [hgr] at e1
            rw [Array.getElem?_setIfInBounds_self_of_lt gl3, e1]
            exact ⟨rfl, e2⟩
          · rw [Array.getElem?_setIfInBounds_ne hp1]
            have e3 : (s.setGen g gs').gens[p.1]? = some p.2 := by
             show (s.gens.setIfInBounds g gs')[p.1]? = _
             rw [Array.getElem?_setIfInBounds_ne hp1]
             exact e1
            exact ⟨(Kp.1 p.1 ⟨_, e3, e2⟩).trans e3, e2⟩
     cases fl with
     | nx =>
       intro hk gs' hb
       refine wpAny_mono (nW (D' := { nx := fun σ' H' => ∃ w', w.le w' ∧ Rel X.K T B w' σ' H' a2 h2, rt := fun _ _ => False }) sg sb hx (I3 gs' hb) R1 rx rd eg (by rw [eb]; exact fun w' σ' H' l R' => ⟨w', l, R'⟩)) (fun _ s2 h2 => wpAny_mono h2 (fun f s3 q => ?_) fun _ _ z => z) fun _ _ z => z
       obtain ⟨s3', P, Kp, q⟩ := q
       cases f with
       | next => obtain ⟨σ3, H3, I, w3, l, R3⟩ := q; exact goes hk gs' s3 σ3 H3 w3 s3' P Kp I l R3
       | brk => obtain ⟨_, _, _, q⟩ := q; exact q.elim
       | cont => obtain ⟨_, _, _, q⟩ := q; exact q.elim
       | ret v => obtain ⟨_, _, _, _, _, q⟩ := q; exact q.elim
     | ct =>
       intro hk gs' hb
       refine wpAny_mono (nW (D' := { nx := fun _ _ => False, ct := fun σ' H' => ∃ w', w.le w' ∧ Rel X.K T B w' σ' H' a2 h2, rt := fun _ _ => False }) sg sb hx (I3 gs' hb) R1 rx rd eg (by rw [eb]; exact fun w' σ' H' l R' => ⟨w', l, R'⟩)) (fun _ s2 h2 => wpAny_mono h2 (fun f s3 q => ?_) fun _ _ z => z) fun _ _ z => z
       obtain ⟨s3', P, Kp, q⟩ := q
       cases f with
       | cont => obtain ⟨σ3, H3, I, w3, l, R3⟩ := q; exact goes hk gs' s3 σ3 H3 w3 s3' P Kp I l R3
       | brk => obtain ⟨_, _, _, q⟩ := q; exact q.elim
       | next => obtain ⟨_, _, _, q⟩ := q; exact q.elim
       | ret v => obtain ⟨_, _, _, _, _, q⟩ := q; exact q.elim
     | brk =>
       intro hfin gs' hb
       have hfin : ∀ w' σ' H', w0.le w' → Rel X.K T B w' σ' H' a2 h2 → Dn.nx σ' H' := hfin
       refine wpAny_mono (nW (D' := { nx := fun _ _ => False, bk := Dn.nx, rt := fun _ _ => False }) sg sb hx (I3 gs' hb) R1 rx rd eg (by rw [eb]; exact fun w' σ' H' l R' => hfin w' σ' H' (Wd.le_trans lw l) R')) (fun _ s2 h2 => wpAny_mono h2 (fun f s3 q => ?_) fun _ _ z => z) fun _ _ z => z
       obtain ⟨s3', P, Kp, q⟩ := q
       cases f with
       | brk => obtain ⟨σ3, H3, I, q⟩ := q; exact ⟨σ3, H3, (j6 P I).unpinned, q⟩
       | next => obtain ⟨_, _, _, q⟩ := q; exact q.elim
       | cont => obtain ⟨_, _, _, q⟩ := q; exact q.elim
       | ret v => obtain ⟨_, _, _, _, _, q⟩ := q; exact q.elim
     | rt dd =>
       intro hfin gs' hb
       have hfin : ∀ w' σ' H' v, w0.le w' → Rel X.K T B w' σ' H' a2 h2 → vE X.K T B σ' w' H' a2 v dd → Dn.rt v H' := hfin
       refine wpAny_mono (nW (D' := { nx := fun _ _ => False, rt := Dn.rt }) sg sb hx (I3 gs' hb) R1 rx rd eg (by rw [eb]; exact fun w' σ' H' v l R' rv => hfin w' σ' H' v (Wd.le_trans lw l) R' rv)) (fun _ s2 h2 => wpAny_mono h2 (fun f s3 q => ?_) fun _ _ z => z) fun _ _ z => z
       obtain ⟨s3', P, Kp, q⟩ := q
       cases f with
       | ret v => obtain ⟨x3, σ3, H3, I, rv, q⟩ := q; exact ⟨x3, σ3, H3, (j6 P I).unpinned, rv, q⟩
       | next => obtain ⟨_, _, _, q⟩ := q; exact q.elim
       | cont => obtain ⟨_, _, _, q⟩ := q; exact q.elim
       | brk => obtain ⟨_, _, _, q⟩ := q; exact q.elim
end
end GenP
namespace GenP
open PySem PySem.Spec PyProof.Rows L2 GenW Pk
def Ek (P : Program) (w : World) (K : PySem.W.Frag) (mg : Str → Option Value) (base : Heap) (T : Tb) (k : Nat) (N : List Str) (qual : Str) (scope : Scope) (body : List Stmt) (m : fD) : Prop :=
 ∀ (f : Addr) (cdv : Value) (A : Around) (outer : List Env) (n g : Nat) (pn : List (Addr × Obj)), Il ⟨P, w, K, mg, base, N, qual, scope, f, cdv, A, outer, n, g, pn⟩ T k → Ef ⟨P, w, K, mg, base, N, qual, scope, f, cdv, A, outer, n, g, pn⟩ T body m
structure RN (X : Cx) (e : Expr) (N : List Str) (qual : Str) (scope : Scope) (body : List Stmt) (σ : L2.St) (H : Hp) (Q : List V → Hp → Prop) : Prop where
 go : ∀ pins s, L2.Inv X pins σ H s → wpAny (model X.prog X.w) X.A (eval e X.env) (fun u s' => ∃ f cdv vs H1 s1, L2.Inv X pins σ H1 s1 ∧ Q vs H1 ∧ yu X.prog X.w X.K X.mg X.base N qual scope body f cdv X.stack H1 vs s1 u s') X.xe s
abbrev Im (X : Cx) (T : Tb) (W : WX) (e : Expr) (N : List Str) (qual : Str) (scope : Scope) (body : List Stmt) (m : M (List D)) : Prop := bO (RN X e N qual scope body) X.K T W vA m
def Cy (nN : Nat) (b : fD) (st : Step) : List D → Fr → Hh → R Fl := fun ds a h => match b st big a (startF nN ds) h with
 | .go _ a _ h => .ok .nx a h
 | .out f a h => .ok f a h
 | .err => .err
def Cz (mc : M (List D)) (nN : Nat) (b : fD) (g : D → M Unit) (bm : M Fl) : M Fl := fun fr h => match mc fr h with
 | .ok ds fr h => Cy nN b (stepF g bm) ds fr h
 | .exc x fr h => .exc x fr h
 | .err => .err
section
variable {X : Cx} {T : Tb} {W : WX} {k kk : Nat} {x : Str} {tp pos : Pos} {iter : Expr} {body gbody : List Stmt} {gm : D → M Unit} {bm : M Fl} {is : List Nat} {N ps : List Str} {qual : Str} {scope : Scope} {gb : fD} {mc : M (List D)}
theorem wL : ∀ (l : List (Str × NameKind)) (n : Nat), (l.all fun y => !(y.2 == .cell)) = true → cellsFrom n l [] = []
 | [], n, _ => rfl
 | (a, kd) :: l, n, h => by
   rw [List.all_cons, Bool.and_eq_true] at h
   have e : (kd == NameKind.cell) = false := by
    have := h.1
    cases q : (kd == NameKind.cell)
    · rfl
    · simp [q] at this
   rw [cellsFrom, if_neg (by rw [e]; decide)]
   exact wL l n h.2
theorem El {M : Model} {A : Around} {R : GenEnd} {Y : Protocol} {a : Addr} {g m : Nat} {gs' : GenState} {s3 : Shared} (h1 : cV gs' = true → s3.gens[g]? = some gs') (h2 : s3.heap.IsGen a g) (h3 : s3.heap.NoLimit)
 (h4 : match (generalizing := false) m with | 0 => False | .succ m => GenState.Goes M A R Y m gs' (.send .none) (s3.setGen g .running)) (h5 : match (generalizing := false) m with | 0 => False | .succ m => GenState.Goes M A R Y m gs' (.send (.bool true)) (s3.setGen g .running)) :
 ∃ m', m' < m ∧ ∃ gs, s3.gens[g]? = some gs ∧ s3.heap.IsGen a g ∧ s3.heap.NoLimit ∧ GenState.Goes M A R Y m' gs (.send .none) (s3.setGen g .running) := by
 cases m with
 | zero => exact h4.elim
 | succ m' =>
   cases gs' with
   | fresh c => exact absurd h5.1 (by intro q; cases q)
   | suspended kq l c p fs cl => exact ⟨m', Nat.lt_succ_self _, _, h1 rfl, h2, h3, h4⟩
   | running => exact h5.elim
   | finished => exact h5.elim
theorem Nt (C : Cq X T W k) (hx : ∀ {D : Nat → Prop} {s u : Shared} {e : Value}, PS D s u → X.xe e s → X.xe e u) (hk : kk + 1 ≤ k) (sc : Im X T W iter N qual scope gbody mc) (S : GScope N ps scope) (hps : ∀ fr h ds fr' h', mc fr h = .ok ds fr' h' → ds.length = ps.length)
 (dg : Ek X.prog X.w X.K X.mg X.base T kk N qual scope gbody gb) (sg : iT X T is (.Name x tp) gm) (sb : gR X T W body bm) (hcel : (scope.names.all fun y => !(y.2 == .cell)) = true := by rfl)
 (hs : ∀ x, foldedSetIterable iter X.env x = pure x := by intro _; rfl) : gQ X T W (.For (.Name x tp) iter body [] pos) (Cz mc N.length gb gm bm) := fun B w σ H fr h Dn R p => by
 refine ⟨fun pins s I => wpAny_For ?_ hs⟩
 unfold Cz at p
 cases em : mc fr h with
 | err => rw [em] at p; exact p.elim
 | exc y fr1 h1 =>
   rw [em] at p
   have p : ∀ w' σ' H' cls dd, w.le w' → Rel X.K T B w' σ' H' fr1 h1 → rY X.K T w' y cls dd → W cls dd σ' H' := p
   have W1 := sc B w σ H fr h (fun _ _ => False) R (by
    rw [em]
    exact fun w' H' cls dd l R' z => p w' σ H' cls dd l R' z)
   refine wpAny_mono (W1.go pins s I) (fun u s' hq => ?_) fun _ _ z => z
   obtain ⟨_, _, _, _, _, _, q, _⟩ := hq
   exact q.elim
 | ok ds fr1 h1 =>
   rw [em] at p
   have p : aP X.K T B W w (Cy N.length gb (stepF gm bm) ds fr1 h1) Dn := p
   have hl := hps _ _ _ _ _ em
   have W1 := sc B w σ H fr h (fun vs H1 => ∃ w1, w.le w1 ∧ Rel X.K T B w1 σ H1 fr1 h1 ∧ aa X.K T w1 vs ds) R (by
    rw [em]
    exact fun w' H' vs l R' rs => ⟨w', l, R', rs⟩)
   refine wpAny_mono (W1.go pins s I) (fun u s' hq => ?_) fun _ _ z => z
   obtain ⟨f, cdv, vs, H1, s1, I1, ⟨w1, l1, R1, rs⟩, a, g, go, rfl, hna, hget, hgen, hdat, hg, hos, hb, hkp, hInv⟩ := hq
   have I1' : L2.Inv X pins σ H1 s' := dR (I1.kept (h' := s'.heap) (t' := s'.toks) hkp) rfl hos.symm hb
   have hlow : Nh X pins s1.heap.objs.size := by
    refine ⟨?_, fun x c hc => ?_, fun p hp => ?_⟩
    · obtain ⟨m, ⟨o, es, ep, e1, _⟩, _⟩ := I1.loc
      exact Heap.lt_size e1
    · obtain ⟨v, o, e1, _⟩ := I1.cell x c hc
      exact Heap.lt_size e1
    · exact Heap.lt_size (I1.pin p hp).1
   have hfr : ∀ b ∈ frs X.stack, b < s1.heap.objs.size := fun b hb => by
    obtain ⟨o, e⟩ := qp I1.stack b hb
    exact Heap.lt_size e
   have hB : Np X pins N qual scope f cdv s1.heap.objs.size g a go := ⟨hlow, wL scope.names _ hcel, hna, hgen, hdat, hfr⟩
   have hh : X.A.handled = none := C.room.hd
   have Ig0 := hInv X.A.in1 hh I1.ok.frames
   have gl : g < s'.gens.size := (Array.getElem?_eq_some_iff.mp hg).1
   have bareR : AllBare (s'.setGen g .running).gens := by
    intro y hy
    obtain ⟨i, hi, e⟩ := Array.mem_iff_getElem.mp (show y ∈ s'.gens.setIfInBounds g .running from hy)
    have e : (s'.gens.setIfInBounds g .running)[i]? = some y := by rw [Array.getElem?_eq_getElem hi, e]
    by_cases hi2 : g = i
    · subst hi2
      rw [Array.getElem?_setIfInBounds_self_of_lt gl] at e
      cases e
      rfl
    · rw [Array.getElem?_setIfInBounds_ne hi2] at e
      exact hb y (Array.mem_of_getElem? e)
   have I1r : L2.Inv X pins σ H1 (s'.setGen g .running) := dR I1' rfl rfl bareR
   have Igr := dR (u := s'.setGen g .running) Ig0 rfl rfl bareR
   have e0 := I1r.env0
   have sX : X.s_0.heap.objs.size ≤ s1.heap.objs.size := I1.sz
   have hn3 : s1.heap.objs.size ≤ (s'.setGen g .running).heap.objs.size := Nat.le_of_lt (Nat.lt_trans hna (Heap.lt_size hget))
   have Iw := zF (G := Gc X N qual scope f cdv s1.heap.objs.size g a go) (s2 := s'.setGen g .running) (H2 := H1) rfl Igr ⟨e0.frames, e0.mod, e0.bs, e0.bsz, e0.funs, e0.frf, e0.hok, e0.bare⟩ hB.cel (fun o e => e) Igr.free (fun p hp => ⟨(Igr.pin p hp).1, (Igr.pin p hp).2.1⟩) hn3 (Nat.le_trans I1.ok.bsz sX) hfr
   have O : Il (Gc X N qual scope f cdv s1.heap.objs.size g a go) T kk := ⟨fun s H hz => ⟨rfl, S.nd, by
    have r := C.room
    have hd := r.dp
    have hu := r.un
    refine ⟨hh, ?_, ?_⟩
    · show X.A.depth + 1 + 3 * kk + 5 < recursionLimit
      omega
    · show X.A.units + 1 + 3 + 16 * kk + 200 < cLine
      omega, takes_gcx, owns_gcx⟩⟩
   have G1 := dg f cdv X.A.in1 X.stack s1.heap.objs.size g [(a, go)] O
   refine wpAny_pyIter_gen (hgen _ hget) ?_
   refine codeAny_forLoop_any (fun m s => ∃ gs, s.gens[g]? = some gs ∧ s.heap.IsGen a g ∧ s.heap.NoLimit ∧ GenState.Goes (model X.prog X.w) X.A.in1 (Rf X pins Dn) (Yf X pins (.Name x tp) body a g Dn) m gs (.send .none) (s.setGen g .running)) ?_ big ?_
   · rintro m s ⟨gs, e1, e2, e3, e4⟩
     have hpo : ∀ e s', X.xe e s' → notedBy (model X.prog X.w) X.A X.env (cameBackBy (model X.prog X.w) X.A X.env X.xe) e s' := C.po
     refine next_genG (F := fun _ _ s => ∃ σ' H', L2.Inv X pins σ' H' s ∧ Dn.nx σ' H') (Er := fun _ _ => False) hh e3 (by have := C.room.dp; omega) e2 e1 e4 (fun v s₁ gs' hbare y => ?_) (fun s₁ hend h' hh' => ?_) fun e s₁ q => q.elim
     · show wpAny (model X.prog X.w) X.A (letOwnedTupleGo (.Name x tp) (.ref a) v) _ _ _
       refine wpAny_pure (wpAny_mono (y gs' hbare) (fun _ s2 h2 => wpAny_mono h2 (fun f s3 q => ?_) hpo) hpo)
       cases f with
       | next => obtain ⟨h1, h2, h3, h4, h5⟩ := q; exact El h1 h2 h3 h4 h5
       | cont => obtain ⟨h1, h2, h3, h4, h5⟩ := q; exact El h1 h2 h3 h4 h5
       | brk => exact q
       | ret v => exact q
     · obtain ⟨σ', H', I', q⟩ := hend
       show wpAny (model X.prog X.w) X.A (execs [] X.env) _ _ _
       refine wpAny_pure ⟨σ', H', ?_, q⟩
       refine dR (I'.kept (h' := h') (t' := s₁.toks) hh') rfl rfl ?_
       intro y hy
       obtain ⟨i, hi, e⟩ := Array.mem_iff_getElem.mp (show y ∈ s₁.gens.setIfInBounds g .finished from hy)
       have e : (s₁.gens.setIfInBounds g .finished)[i]? = some y := by rw [Array.getElem?_eq_getElem hi, e]
       by_cases hi2 : g = i
       · subst hi2
         rw [Array.getElem?_setIfInBounds_self] at e
         split at e
         · cases e; rfl
         · cases e
       · rw [Array.getElem?_setIfInBounds_ne hi2] at e
         exact I'.bare y (Array.mem_of_getElem? e)
   · refine ⟨_, hg, hgen _ hget, I1'.nolimit, rfl, ?_⟩
     let Cn : sU (Gc X N qual scope f cdv s1.heap.objs.size g a go) T := ⟨Cv X T B w pins, Rf X pins Dn, Yf X pins (.Name x tp) body a g Dn, stepF gm bm, Nm X T B W w Dn, fun z hf rx rd => Nr hB sg sb hx z hf rx rd⟩
     have hpl : ps.length ≤ N.length := by
      have := congrArg List.length S.pre
      rw [List.length_take] at this
      omega
     refine seg_func (G1 Cn [] X.A.in1 _ [] _ _ id id big _ _ fr1 w1 (L2.start N vs) H1 (startF N.length ds) h1 _ [] ⟨over_func, rfl, rfl, rfl⟩ (fun n s₀ X' e s3 hF hxe => ?_) ⟨_, w1, H1, h1, ⟨σ, I1r, R1, l1⟩, hn3, rfl, Iw, R1.enter.start rs (by rw [hl]; exact hpl), fun p hp => ?_, fun p hp => by cases hp⟩ ?_)
     · refine seg_wrap ?_
       rw [over_func]
       exact wpAny_mono (zH hF hxe) (fun _ _ q => q.elim) fun _ _ q => q.elim
     · rw [List.mem_singleton.mp hp]
       exact ⟨by show (s'.gens.setIfInBounds g .running)[g]? = _; rw [Array.getElem?_setIfInBounds_self_of_lt gl], rfl⟩
     · unfold Cy at p
       show j7 Cn [] _ _ _ _ _ _ (gb (stepF gm bm) big fr1 (startF N.length ds) h1)
       cases eg : gb (stepF gm bm) big fr1 (startF N.length ds) h1 with
       | err => rw [eg] at p; exact p.elim
       | out ff a' h' =>
         rw [eg] at p
         exact p
       | go n' a' fr' h' =>
         rw [eg] at p
         have p : ∀ w' σ' H', w.le w' → Rel X.K T B w' σ' H' a' h' → Dn.nx σ' H' := p
         intro X' w' σ' H' s3 s₀ l z
         obtain ⟨sw, ww, Hw, hw, ⟨σc, Ic, Rc, lc⟩, hn, rfl, Ig, Rg, Sg, hpg⟩ := z
         have U : Un (frs X.stack) [] Hw H' (cutS s1.heap.objs.size sw).heap s3.heap := Ig.base
         exact seg_end (.ok (.ret .none)) (.inl ⟨.inl rfl, σc, H', zE Ic hlow U Ig.hok Ig.os Ig.bare, p w' σc H' (Wd.le_trans lc Rg.le) (Rc.back Rg.le Rg.unframe)⟩)
end
end GenP
namespace GenP
open PySem PySem.Spec PyProof.Rows L2 GenW Pk
def yw (c : Nat) (mo : M D) : M (List D) := mo.bind fun o fr h => match o.ins h with
 | some (c', _) => if c' = c then .ok [o] fr h else .err
 | none => .err
theorem En {c : Nat} {mo : M D} {fr : Fr} {h : Hh} {ds : List D} {fr' : Fr} {h' : Hh} (e : yw c mo fr h = .ok ds fr' h') : ds.length = 1 := by
 unfold yw M.bind at e
 split at e
 · dsimp only at e
   split at e
   · split at e
     · cases e; rfl
     · cases e
   · cases e
 · cases e
 · cases e
structure Eo (X : Cx) (T : Tb) (m : Str) (c : Nat) (ps N : List Str) (qual : Str) (scope : Scope) (body : List Stmt) : Prop where
 ex : ∃ (f : Addr) (fd : FuncData), Cls X.K (T.cad c) ∧ Meth X.K (T.cad c) m f ∧ Cu X.prog X.w X.K X.mg X.base f fd ps N qual scope body ∧ Binds X.K fd ps [] ∧ m ∉ T.fld c
 one : ps.length = 1
section
variable {X : Cx} {T : Tb} {W : WX} {k c : Nat} {m nm : Str} {p pos pos' apos : Pos} {o e : Expr} {mo : M D} {ps N : List Str} {qual : Str} {scope : Scope} {body : List Stmt}
theorem Gu {f : Addr} {fd : FuncData} {ds : List Value} {pins : List (Addr × Obj)} {σ : L2.St} {H : Hp} {s : Shared} {us : List Value} {vs dvs : List V} {Q : List V → Hp → Prop} {E1 : Value → Shared → Prop} (F : Cu X.prog X.w X.K X.mg X.base f fd ps N qual scope body) (hr : Room k X.A) (hb : Binds X.K fd ps ds) (hd : Vals dvs ds)
 (I : L2.Inv X pins σ H s) (r : Vals vs us) (hl : (vs ++ dvs).length = ps.length) (q : Q (vs ++ dvs) H) :
 wpAny (model X.prog X.w) X.A (call (.ref f) us) (fun u s' => ∃ f cdv vs H1 s1, L2.Inv X pins σ H1 s1 ∧ Q vs H1 ∧ yu X.prog X.w X.K X.mg X.base N qual scope body f cdv X.stack H1 vs s1 u s') E1 s := by
 obtain ⟨cdv, F⟩ := F.ex
 have r2 := Vals.append r hd
 have hl2 : (us ++ ds).length = ps.length := by rw [← r2.length]; exact hl
 refine wpAny_call (codeAny_mono (F X.A X.stack s H { pos := us } (us ++ ds) (vs ++ dvs) hr.depth hr.hd I.env0 (hb s us I.kIn hl2) r2 hl) fun r s' hq => ?_)
 cases r with
 | error e => exact hq.elim
 | ok fl =>
   cases fl with
   | ret u => exact ⟨f, cdv, _, H, s, I, q, hq⟩
   | _ => exact hq.elim
theorem Jz {pl : Sem Bool} (C : Cq X T W k) (Mf : Eo X T m c ps N qual scope body) (so : ao X T W o mo)
 (ht : eval (.Call (.Attribute o m apos) [] [] pos') X.env = (do
  let ov ← eval o X.env
  standAt apos.atName
  let (f, first) ← holding [ov] (getMethod ov m pl)
  callWith pos' f first (backTo pos' (starEach [] X.env)) (backToKw pos' (keywordEach [] X.env))) := by rfl) :
 Im X T W (.Call (.Attribute o m apos) [] [] pos') N qual scope body (yw c mo) := fun B w σ H fr h Q R pp => ⟨fun pins s I => by
 obtain ⟨f, fd, c1, c2, c3, c4, c5⟩ := Mf.ex
 refine PySem.W.methodCall_KW (pl := pl) (thn ((so B w σ H fr h (fun v H1 => ∃ (a dx : Addr) (fs : List (Str × V)), v = .ref a ∧ H1 a = some (.ins (T.cad c) dx fs) ∧ fs.lookup m = none ∧ Q [.ref a] H1) R (ak.bind (VR := vV X.K T B σ) pp fun d fr1 h1 w1 H1 v e1 l1 r1 rv p1 => ?_)).go pins s I) fun u s1 ⟨x, H1, I1, rx, a, dx, fs, ex, ea, l, q⟩ => ?_) ht
 · have p1' : ak X.K T B W (vA X.K T B σ) w1 σ (match d.ins h1 with | some (c', _) => if c' = c then Pk.R.ok [d] fr1 h1 else Pk.R.err | none => Pk.R.err) Q := p1
   cases ei : d.ins h1 with
   | none => rw [ei] at p1'; exact p1'.elim
   | some z =>
     obtain ⟨c', fs⟩ := z
     rw [ei] at p1'
     dsimp only at p1'
     by_cases hc : c' = c
     · subst hc
       rw [if_pos rfl] at p1'
       obtain ⟨a, dx, vs, rfl, eH, rs⟩ := jG r1 (.inl rv) ei
       exact ⟨a, dx, _, rfl, eH, gY c5, p1' w1 H1 _ (Wd.le_refl w1) r1 (.cons rv .nil)⟩
     · rw [if_neg hc] at p1'; exact p1'.elim
 · subst ex
   obtain rfl : u = Value.ref a := rx
   refine getmeth_ok I1 ea c1 c2 l ?_
   exact PySem.W.callWith_K0 (first := [.ref a]) I1.kIn c2.kp (Gu (us := [.ref a]) (vs := [.ref a]) (dvs := []) c3 C.room c4 .nil I1 (.cons rfl .nil) Mf.one.symm q)⟩
theorem Nu {P : Program} {w : World} {K : PySem.W.Frag} {mg : Str → Option Value} {base : Heap} {f : Addr} {cdv : Value} {A : Around} {outer : List Env} {s : Shared} {H : Hp} {E : XK} {D : Nat → Prop} {s1 u : Shared} {e : Value} (P1 : PS D s1 u) (h : (Ax P w K mg base N qual scope f cdv A outer s H E).xe e s1) :
 (Ax P w K mg base N qual scope f cdv A outer s H E).xe e u := by
 have key : ∀ (x : Value) (s1 u : Shared), PS D s1 u → CX P w outer H s E x s1 → CX P w outer H s E x u := fun x s1 u P1 ⟨a, B, H', cls, d, z1, z2, z3, z4, z5, z6, z7, z8⟩ =>
  ⟨a, B, H', cls, d, z1, P1.heap ▸ z2, z3, P1.heap ▸ z4, z5, P1.os ▸ z6, P1.bare z7, z8⟩
 refine wpAny_mono (wI P1 h) (fun _ s' ⟨s2, P2, q⟩ => key e s2 s' P2 q) fun x s' ⟨s2, P2, q⟩ => key x s2 s' P2 q
end
end GenP
namespace Pk
open PySem PySem.Spec L2
def D.enc (d : D) : PyData := d.toP.getD .none
def mK (a b : D) : Bool := PySem.W.dataLe false D.enc a b
theorem Ep (a b c : D) (h1 : mK a b = true) (h2 : mK b c = true) : mK a c = true := by
 have e1 : (!(PyProof.Rows.listOrd PyProof.Rows.itemOrd).blt (PySem.W.keyToks b.enc) (PySem.W.keyToks a.enc)) = true := h1
 have e2 : (!(PyProof.Rows.listOrd PyProof.Rows.itemOrd).blt (PySem.W.keyToks c.enc) (PySem.W.keyToks b.enc)) = true := h2
 show (!(PyProof.Rows.listOrd PyProof.Rows.itemOrd).blt (PySem.W.keyToks c.enc) (PySem.W.keyToks a.enc)) = true
 cases q : (PyProof.Rows.listOrd PyProof.Rows.itemOrd).blt (PySem.W.keyToks c.enc) (PySem.W.keyToks a.enc)
 · rfl
 · rcases (PyProof.Rows.listOrd PyProof.Rows.itemOrd).negTrans _ (PySem.W.keyToks b.enc) _ q with q | q
   · rw [q] at e2; cases e2
   · rw [q] at e1; cases e1
theorem wM (a b : D) : (mK a b || mK b a) = true := by
 show (!(PyProof.Rows.listOrd PyProof.Rows.itemOrd).blt (PySem.W.keyToks b.enc) (PySem.W.keyToks a.enc) || !(PyProof.Rows.listOrd PyProof.Rows.itemOrd).blt (PySem.W.keyToks a.enc) (PySem.W.keyToks b.enc)) = true
 cases q : (PyProof.Rows.listOrd PyProof.Rows.itemOrd).blt (PySem.W.keyToks b.enc) (PySem.W.keyToks a.enc)
 · rfl
 · cases q2 : (PyProof.Rows.listOrd PyProof.Rows.itemOrd).blt (PySem.W.keyToks a.enc) (PySem.W.keyToks b.enc)
   · rfl
   · have := (PyProof.Rows.listOrd PyProof.Rows.itemOrd).trans _ _ _ q q2
     rw [(PyProof.Rows.listOrd PyProof.Rows.itemOrd).irrefl] at this
     cases this
def CG (a : D) : List D → List D
 | [] => [a]
 | b :: l => if mK a b then a :: b :: l else b :: CG a l
def lB : List D → List D
 | [] => []
 | a :: l => CG a (lB l)
theorem wN {a : D} : ∀ {l : List D}, (CG a l).Perm (a :: l)
 | [] => List.Perm.refl _
 | b :: l => by
   unfold CG
   split
   · exact List.Perm.refl _
   · exact (wN.cons b).trans (List.Perm.swap a b l)
theorem nY : ∀ {l : List D}, (lB l).Perm l
 | [] => List.Perm.refl _
 | _ :: _ => wN.trans (nY.cons _)
def mO : List D → Bool
 | [] => true
 | a :: l => l.all (fun b => !mK b a) && mO l
theorem wO : ∀ {l : List D}, mO l = true → l.Pairwise fun a b => mK b a = false
 | [], _ => .nil
 | a :: l, h => by
   rw [mO, Bool.and_eq_true, List.all_eq_true] at h
   exact .cons (fun b hb => by simpa using h.1 b hb) (wO h.2)
theorem pw_or {α : Type} {R : α → α → Prop} : ∀ {l : List α}, l.Pairwise R → ∀ a ∈ l, ∀ b ∈ l, a = b ∨ R a b ∨ R b a
 | x :: l, h, a, ha, b, hb => by
   obtain ⟨h1, h2⟩ := List.pairwise_cons.mp h
   rcases List.mem_cons.mp ha with ea | ha
   · rcases List.mem_cons.mp hb with eb | hb
     · exact .inl (ea.trans eb.symm)
     · exact .inr (.inl (ea ▸ h1 b hb))
   · rcases List.mem_cons.mp hb with eb | hb
     · exact .inr (.inr (eb ▸ h1 a ha))
     · exact pw_or h2 a ha b hb
theorem JB {l : List D} (h : mO (lB l) = true) : l.mergeSort mK = lB l := by
 have pw := wO h
 refine ((List.mergeSort_perm l mK).trans nY.symm).eq_of_pairwise (le := fun a b => mK a b = true) (fun a b ha hb h1 h2 => ?_) (List.pairwise_mergeSort Ep wM l) (pw.imp fun {a b} q => ?_)
 · have ha2 := ((List.mergeSort_perm l mK).trans nY.symm).mem_iff.mp ha
   rcases pw_or pw a ha2 b hb with e | e | e
   · exact e
   · rw [h2] at e; cases e
   · rw [h1] at e; cases e
 · have := wM a b
   rw [q, Bool.or_false] at this
   exact this
def Es : PyData → Bool
 | .tuple (_ :: _) => true
 | _ => false
def Io : PyData → Bool
 | .none => false
 | .tuple _ => false
 | _ => true
def D.lds (h : Hh) (d : D) : Option (List D) := match d.der h with
 | .fl l => some l
 | .nl l => some l
 | .kl l => some l
 | _ => none
theorem JC {K : PySem.W.Frag} {T : Tb} {B : Bs} {w : Wd} {σ : L2.St} {H : Hp} {fr : Fr} {h : Hh} {v : V} {d : D} {l : List D} (R : Rel K T B w σ H fr h) (z : vO K T B σ w H fr v d) (e : d.lds h = some l) : ∃ p vs, v = .ref p ∧ aa K T w vs l ∧ SqL K H p vs := by
 unfold D.lds at e
 split at e
 · rename_i l el
   cases e
   exact lX R z (.inl el)
 · rename_i l el
   cases e
   exact lX R z (.inr (.inl el))
 · rename_i l el
   cases e
   exact lX R z (.inr (.inr el))
 · cases e
def zJ (h : Hh) (d : D) : Option D := match d.lds h with
 | some l => if l.all (fun d => d.toP.isSome && decide (d.enc.depth ≤ 8)) && (l.all fun a => l.all fun b => PySem.W.alike a.enc b.enc) && (l.all (fun d => Es d.enc) || l.all (fun d => Io d.enc)) && decide (l.length ≤ big) && mO (lB l) then some (.nl (lB l)) else none
 | none => none
theorem wQ {K : PySem.W.Frag} {T : Tb} {w : Wd} : ∀ {vs : List V} {ds : List D}, aa K T w vs ds → (vs.zip ds).map (·.1) = vs ∧ (vs.zip ds).map (·.2) = ds ∧ ∀ z ∈ vs.zip ds, aA K T w z.1 z.2
 | _, _, .nil => ⟨rfl, rfl, fun z hz => by cases hz⟩
 | _, _, .cons h t => by
   obtain ⟨h1, h2, h3⟩ := wQ t
   refine ⟨by rw [List.zip_cons_cons, WP, h1], by rw [List.zip_cons_cons, WP, h2], fun z hz => ?_⟩
   rw [List.zip_cons_cons] at hz
   rcases List.mem_cons.mp hz with rfl | hz
   · exact h
   · exact h3 z hz
theorem uL {K : PySem.W.Frag} {T : Tb} {w : Wd} : ∀ {zs : List (V × D)}, (∀ z ∈ zs, aA K T w z.1 z.2) → aa K T w (zs.map (·.1)) (zs.map (·.2))
 | [], _ => .nil
 | z :: zs, h => .cons (h z WK) (uL fun z hz => h z (WQ _ hz))
theorem wR : ∀ {zs : List (V × D)} {us : List Value}, Vals (zs.map (·.1)) us → PySem.W.EachIs (fun (v : Value) (b : V × D) => RelV b.1 v) us zs
 | [], _, .nil => .nil
 | z :: zs, _, .cons h t => .cons h (wR t)
theorem wU : ∀ {zs : List (V × D)} {us : List Value}, PySem.W.EachIs (fun (v : Value) (b : V × D) => RelV b.1 v) us zs → Vals (zs.map (·.1)) us
 | [], _, .nil => .nil
 | z :: zs, _, .cons h t => .cons h (wU t)
theorem uN {X : Cx} {pins : List (Addr × Obj)} {σ : L2.St} {H : Hp} {s : Shared} (I : L2.Inv X pins σ H s) : ∀ {zs : List (V × D)} {us : List Value}, Vals (zs.map (·.1)) us → (∀ z ∈ zs, Dp X.K H z.1 z.2.enc) → PySem.W.EachIs (fun (v : Value) (b : V × D) => ∃ as, Reads s.heap v b.2.enc as) us zs
 | [], _, .nil, _ => .nil
 | z :: zs, _, .cons h t, hd => .cons (Dp.reads I _ _ _ (hd z WK) h) (uN I t fun z hz => hd z (WQ _ hz))
section
variable {X : Cx} {T : Tb} {W : WX} {k : Nat} {a : Expr} {ma : M D} {pf pos : Pos}
theorem CJ (hu : X.A.units + 65 < cLine) : CallR X (.builtin "sorted") (fun vs H Q => ∃ (p : Addr) (zs : List (V × D)), vs = [.ref p] ∧ SqL X.K H p (zs.map (·.1)) ∧ (∀ z ∈ zs, Dp X.K H z.1 z.2.enc) ∧ PySem.W.AllAlike (zs.map (·.2.enc)) ∧ PySem.W.Sortable (zs.map (·.2.enc)) ∧ zs.length ≤ sizeLine ∧ (∀ z ∈ zs, z.2.enc.depth ≤ 8) ∧
 ∀ p, H p = none → Q (.ref p) (upd H p (.lst ((zs.mergeSort (PySem.W.dataLe false (·.2.enc))).map (·.1))))) := fun pins s σ H vs us Q I r h => by
 obtain ⟨p, zs, rfl, sq, hd, ha, hs, hl, hp, q⟩ := h
 obtain ⟨its, rv, pl, _⟩ := I.list sq
 rw [Vals.ref1 r]
 refine PySem.W.sorted_data (R := fun (v : Value) (b : V × D) => RelV b.1 v) (enc := fun b : V × D => b.2.enc) pl.isList (wR rv) (uN I rv hd) ha hs hl (fun b hb => by have := hp b hb; omega) fun out h1 h2 => ?_
 obtain ⟨ep, he'⟩ := PyProof.Rows.sortedAll_at s.heap its out.toArray
 have rv2 := wU h2
 have hlen : ((zs.mergeSort (PySem.W.dataLe false (·.2.enc))).map (·.1)).length ≤ sizeLine := by rw [WR, List.length_mergeSort]; exact hl
 exact ⟨.ref (s.heap.objs.size + 1), upd H (s.heap.objs.size + 1) (.lst ((zs.mergeSort (PySem.W.dataLe false (·.2.enc))).map (·.1))), I.laid (fun _ _ => PyProof.Rows.sortedAll_old) (Nat.le_succ _) ⟨hlen, out, ep, rv2, he'⟩, rfl, q _ (I.hok.fresh (Nat.le_succ _))⟩
theorem CK (C : Cq X T W k) (sa : m9 X T W a ma) (hm : X.mg "sorted" = none) (hg : Gl X "sorted" := by rfl) (he : starEach (a :: []) X.env = (false, eval a X.env) :: starEach [] X.env := by exact aW rfl) : du X T W (.Call (.Name "sorted" pf) [a] [] pos) (aZ zJ ma) :=
 FP (id := "sorted") sa (fun B w σ H fr h x d z Q R rx q kk => by
  unfold zJ at q
  split at q
  · rename_i l el
    split at q
    · rename_i hc
      cases q
      simp only [Bool.and_eq_true, List.all_eq_true, Bool.or_eq_true, decide_eq_true_eq] at hc
      obtain ⟨⟨⟨⟨c1, c2⟩, c3⟩, c4⟩, c5⟩ := hc
      obtain ⟨p, vs, rfl, rl, sq⟩ := JC R rx el
      obtain ⟨z1, z2, z3⟩ := wQ rl
      have me : ∀ z ∈ vs.zip l, z.2 ∈ l := fun z hz => by rw [← z2]; exact List.mem_map.mpr ⟨z, hz, rfl⟩
      have mm : (vs.zip l).map (·.2.enc) = l.map D.enc := by
       rw [← congrArg (List.map D.enc) z2, List.map_map]; rfl
      refine bJ (CJ C.u) ⟨p, vs.zip l, rfl, by rw [z1]; exact sq, fun z hz => ?_, ?_, ?_, ?_, fun z hz => (c1 z.2 (me z hz)).2, fun p' np => ?_⟩
      · have e := (c1 z.2 (me z hz)).1
        obtain ⟨pd, epd⟩ := Option.isSome_iff_exists.mp e
        have : z.2.enc = pd := by unfold D.enc; rw [epd]; rfl
        rw [this]
        exact tV R.sub (z3 z hz) epd
      · rw [mm]
        intro d hd d' hd'
        obtain ⟨x, hx, rfl⟩ := List.mem_map.mp hd
        obtain ⟨y, hy, rfl⟩ := List.mem_map.mp hd'
        exact c2 x hx y hy
      · rw [mm]
        rcases c3 with c3 | c3
        · left
          intro d hd
          obtain ⟨x, hx, rfl⟩ := List.mem_map.mp hd
          have := c3 x hx
          unfold Es at this
          split at this
          · rename_i e; exact ⟨_, _, e⟩
          · cases this
        · right
          intro d hd
          obtain ⟨x, hx, rfl⟩ := List.mem_map.mp hd
          have := c3 x hx
          unfold Io at this
          split at this
          · cases this
          · cases this
          · rename_i h1 h2; exact ⟨h1, h2⟩
      · have e1 : (vs.zip l).length = l.length := by rw [← WR (f := (·.2)), z2]
        rw [e1]
        exact Nat.le_trans c4 (by decide)
      · have e2 : ((vs.zip l).mergeSort (PySem.W.dataLe false (·.2.enc))).map (·.2) = lB l := by
         have e3 := List.map_mergeSort (r := PySem.W.dataLe false (fun x : V × D => x.2.enc)) (s := mK) (f := fun x : V × D => x.2) (l := vs.zip l) (fun a _ b _ => rfl)
         rw [z2] at e3
         exact e3.trans (JB c5)
        have rr : aa X.K T w (((vs.zip l).mergeSort (PySem.W.dataLe false (·.2.enc))).map (·.1)) (lB l) := by
         rw [← e2]
         exact uL fun z hz => z3 z ((List.mergeSort_perm _ _).mem_iff.mp hz)
        exact lV R rr np kk
    · cases q
  · cases q) hm hg (by decide +kernel) (by decide) (by decide) he
end
end Pk
namespace Pk
open PySem PySem.Spec L2
def Wq {α : Type} (r : R α) (Q : α → Fr → Hh → Prop) (E : aO → Fr → Hh → Prop) : Prop := match r with
 | .ok a fr h => Q a fr h
 | .exc x fr h => E x fr h
 | .err => False
def Nv (d : D) : Option (List D) := match d with
 | .int j => if rK j then some (jP 0 j.toNat) else none
 | _ => none
def Wm (x y : D) : Option (List D) := match x, y with
 | .int i, .int j => if rK i && rK j then some (jP i (j - i).toNat) else none
 | _, _ => none
def oV (_ : aO) (_ : Fr) (_ : Hh) : Prop := False
def Oq {α : Type} (o : Option α) (K : α → Prop) : Prop := match o with
 | some a => K a
 | none => False
def Sq (s : Option (Option D)) (K : D → Prop) : Prop := match s with
 | some (some d) => K d
 | _ => False
def wV (b : Bool) (A B : Prop) : Prop := if b then A else B
def Bq (fr : Fr) (K : Fr → Prop) : Prop := K fr
def Fq (f : Fl) (A B : Prop) : Prop := match f with
 | .nx => A
 | _ => B
def Rq (f : Fl) (K : D → Prop) : Prop := match f with
 | .rt d => K d
 | .nx => K .non
 | _ => False
section
variable {α β : Type} {Q : α → Fr → Hh → Prop} {E : aO → Fr → Hh → Prop} {fr : Fr} {h : Hh}
theorem uO {a : α} : Wq (.ok a fr h) Q E = Q a fr h := by unfold Wq; rfl
theorem Be : Wq (.err : R α) Q E = False := by unfold Wq; rfl
theorem sW {a : α} {K : α → Prop} : Oq (some a) K = K a := by unfold Oq; rfl
theorem Gv {K : α → Prop} : Oq none K = False := by unfold Oq; rfl
theorem vZ {c : Prop} [Decidable c] {a : α} {K : α → Prop} : Oq (if c then some a else none) K = (c ∧ K a) := by
 by_cases hc : c
 · rw [if_pos hc, sW]; simp [hc]
 · rw [if_neg hc, Gv]; simp [hc]
theorem JD {c : Bool} {a : α} {K : α → Prop} : Oq (if c then some a else none) K = (c = true ∧ K a) := vZ
theorem sY {d : D} {K : D → Prop} : Sq (some (some d)) K = K d := by unfold Sq; rfl
theorem Ip {A B : Prop} : wV true A B = A := by unfold wV; exact if_pos rfl
theorem Iu {A B : Prop} : wV false A B = B := by unfold wV; exact if_neg (fun z => by cases z)
theorem Gx {a : Option D} {l : Fr} {K : Fr → Prop} : Bq (a :: l) K = K (a :: l) := by unfold Bq; rfl
theorem Bf {A B : Prop} : Fq .nx A B = A := by unfold Fq; rfl
theorem JF {A B : Prop} {d : D} : Fq (.rt d) A B = B := by unfold Fq; rfl
theorem Gy {A B : Prop} : Fq .brk A B = B := by unfold Fq; rfl
theorem JG {A B : Prop} : Fq .ct A B = B := by unfold Fq; rfl
theorem JH {K : D → Prop} {d : D} : Rq (.rt d) K = K d := by unfold Rq; rfl
theorem Wq.mono {r : R α} {Q Q' : α → Fr → Hh → Prop} {E : aO → Fr → Hh → Prop} (w : Wq r Q E) (hq : ∀ a fr h, Q a fr h → Q' a fr h) : Wq r Q' E := by
 cases r with
 | ok a fr h => exact hq _ _ _ w
 | exc x fr h => exact w
 | err => exact w
theorem Wq.ex {r : R α} {Q : α → Fr → Hh → Prop} (w : Wq r Q oV) : ∃ a fr h, r = .ok a fr h ∧ Q a fr h := by
 cases r with
 | ok a fr h => exact ⟨a, fr, h, rfl, w⟩
 | exc x fr h => exact w.elim
 | err => exact w.elim
theorem Wq.eq {a : α} {r : R α} {fr : Fr} {h : Hh} (w : Wq r (fun b fr1 h1 => b = a ∧ fr1 = fr ∧ h1 = h) oV) : r = .ok a fr h := by
 obtain ⟨b, fr1, h1, e, e1, e2, e3⟩ := w.ex
 rw [e, e1, e2, e3]
theorem Wq.of_eq {r : R α} {a : α} {fr : Fr} {h : Hh} (e : r = .ok a fr h) (q : Q a fr h) : Wq r Q E := by
 rw [e]; exact q
theorem dH {a : α} : Wq (M.ret a fr h) Q E = Q a fr h := by unfold M.ret; exact uO
theorem aY {m : M β} {f : β → M α} : Wq (M.bind m f fr h) Q E = Wq (m fr h) (fun a fr h => Wq (f a fr h) Q E) E := by
 unfold M.bind
 cases m fr h <;> (unfold Wq; rfl)
theorem jH {o : Option α} : Wq (M.opt o fr h) Q E = Oq o fun a => Q a fr h := by
 cases o <;> (unfold Wq Oq M.opt; rfl)
end
section
variable {α : Type} {Q : D → Fr → Hh → Prop} {P : Bool → Fr → Hh → Prop} {S : α → Fr → Hh → Prop} {U : Unit → Fr → Hh → Prop} {G : List D → Fr → Hh → Prop} {L : Fl → Fr → Hh → Prop} {I : Option Int → Fr → Hh → Prop} {E : aO → Fr → Hh → Prop} {fr : Fr} {h : Hh} {m ma mb mc : M D} {i : Nat}
theorem Pj {d : D} : Wq (mC d fr h) Q E = Q d fr h := dH
theorem Ny : Wq (cO m fr h) Q E = Wq (m fr h) (fun d fr h => Q d.fz fr h) E := by
 unfold cO; rw [aY]; simp only [dH]
theorem JK : Wq (aq i fr h) Q E = Sq fr[i]? fun d => wV d.own (Bq (fr.set i (some d.fz)) fun fr => Q d.fz fr h) (Q d fr h) := by
 unfold aq
 cases fr[i]? with
 | none => rfl
 | some o => cases o with
   | none => rfl
   | some d =>
     rw [sY]
     dsimp only
     cases d.own <;> rfl
theorem Gz : Wq (fZ i fr h) Q E = Sq fr[i]? fun d => Bq (fr.set i none) fun fr => Q d fr h := by
 unfold fZ
 cases fr[i]? with
 | none => rfl
 | some o => cases o <;> rfl
theorem JL : Wq (aR i fr h) Q E = Sq fr[i]? fun d => Q d fr h := by
 unfold aR
 cases fr[i]? with
 | none => rfl
 | some o => cases o <;> rfl
theorem Nz {f : Hh → D → D → Option α} : Wq (aM f ma mb fr h) S E = Wq (ma fr h) (fun x fr h => Wq (mb fr h) (fun y fr h => Oq (f h x y) fun z => S z fr h) E) E := by
 unfold aM; simp only [aY, jH]
theorem NB {f : Hh → D → Option α} : Wq (aZ f ma fr h) S E = Wq (ma fr h) (fun x fr h => Oq (f h x) fun z => S z fr h) E := by
 unfold aZ; simp only [aY, jH]
theorem GF {β : Type} {b : Bool} {m n : M β} {Q : β → Fr → Hh → Prop} : Wq ((if b then m else n) fr h) Q E = wV b (Wq (m fr h) Q E) (Wq (n fr h) Q E) := by
 cases b
 · rw [Iu]; rfl
 · rw [Ip]; rfl
theorem Et : Wq (az [] fr h) G E = G [] fr h := dH
theorem Eu {ms : List (M D)} : Wq (az (m :: ms) fr h) G E = Wq (m fr h) (fun d fr h => Wq (az ms fr h) (fun ds fr h => G (d :: ds) fr h) E) E := by
 rw [az]; simp only [aY, dH]
theorem JM {ms : List (M D)} : Wq (jM ms fr h) Q E = Wq (az ms fr h) (fun ds fr h => ds.length ≤ big ∧ Q (.tup ds) fr h) E := by
 unfold jM; simp only [aY, jH, vZ]
theorem JN {ms : List (M D)} : Wq (gA ms fr h) Q E = Wq (az ms fr h) (fun ds fr h => ds.length ≤ big ∧ Q (.nl ds) fr h) E := by
 unfold gA; simp only [aY, jH, vZ]
theorem NK : Wq (jO m fr h) G E = Wq (m fr h) (fun d fr h => Oq (d.its []) fun l => G l fr h) E := by
 unfold jO; simp only [aY, jH]
theorem GJ : Wq (jA m fr h) G E = Wq (m fr h) (fun d fr h => Oq (Nv d) fun l => G l fr h) E := by
 unfold jA; simp only [aY, jH]; rfl
theorem JQ {s n : M Fl} : Wq (aN s n fr h) L E = Wq (s fr h) (fun f fr h => Fq f (Wq (n fr h) L E) (L f fr h)) E := by
 unfold aN; rw [aY]
 congr 1
 funext f fr h
 cases f with
 | nx => rw [Bf]
 | brk => rw [Gy]; exact dH
 | ct => rw [JG]; exact dH
 | rt d => rw [JF]; exact dH
theorem JR {t : M Bool} {s n : M Fl} : Wq (fj t s n fr h) L E = Wq (t fr h) (fun b fr h => wV b (Wq (s fr h) L E) (Wq (n fr h) L E)) E := by
 unfold fj; simp only [aY, GF]
theorem GP {m : M α} : Wq (km m fr h) L E = Wq (m fr h) (fun _ fr h => L .nx fr h) E := by
 unfold km; simp only [aY, dH]
theorem JS : Wq (bM m fr h) L E = Wq (m fr h) (fun d fr h => L (.rt d) fr h) E := by
 unfold bM; simp only [aY, dH]
theorem JT : Wq (bj i m fr h) L E = Wq (m fr h) (fun d fr h => Bq (fr.set i (some d)) fun fr => L .nx fr h) E := by
 unfold bj Bq; rw [aY]
 congr 1
theorem GX {l : M (List D)} {g : D → M Unit} {b : M Fl} : Wq (dJ l g b fr h) L E = Wq (l fr h) (fun ds fr h => Wq (cY g b ds fr h) L E) E := by
 unfold dJ; rw [aY]
theorem GZ {d : D} : Wq (bz i d fr h) U E = Bq (fr.set i (some d)) fun fr => U () fr h := by
 unfold bz Bq; exact uO
theorem JV {f : List D → Option (List D)} : Wq (aH i f fr h) U E = Sq fr[i]? fun d => match d with
 | .nl l => Oq (f l) fun l' => Bq (fr.set i (some (.nl l'))) fun fr => U () fr h
 | .ref n => Oq h[n]? fun c => match c with
   | .nl l => Oq (f l) fun l' => U () fr (h.set n (.nl l'))
   | _ => False
 | _ => False := by
 unfold aH Bq
 cases e : fr[i]? with
 | none => unfold Wq Sq; rfl
 | some o =>
   cases o with
   | none => unfold Wq Sq; rfl
   | some d =>
     rw [sY]
     cases d with
     | nl l => dsimp only; cases f l <;> (unfold Wq Oq; rfl)
     | ref n =>
       dsimp only
       cases h[n]? with
       | none => unfold Wq Oq; rfl
       | some c =>
         rw [sW]
         cases c with
         | nl l => dsimp only; cases f l <;> (unfold Wq Oq; rfl)
         | _ => unfold Wq; rfl
     | _ => unfold Wq; rfl
theorem G3 : Wq (kJ i m fr h) Q E = Wq (aH i fM fr h) (fun _ fr h => Wq (m fr h) (fun d fr h => Wq (aH i (pK d) fr h) (fun _ fr h => Q .non fr h) E) E) E := by
 unfold kJ; simp only [aY, dH]
theorem G4 : Wq (qX m fr h) Q E = Wq (m fr h) (fun d fr h => d.own = true ∧ Q (.ref h.length) fr (h ++ [d])) E := by
 unfold qX; rw [aY]
 congr 1
 funext d fr h
 split
 · rename_i hb; rw [uO]; simp only [hb, true_and]
 · rename_i hb; rw [Be, eq_iff_iff]
   exact ⟨False.elim, fun z => hb z.1⟩
theorem G5 {r : R D} {fr0 : Fr} : Wq (bH fr0 r) Q E = Wq r (fun d _ h => Q d fr0 h) (fun x _ h => E x fr0 h) := by
 cases r <;> (unfold Wq bH; rfl)
theorem G6 {n k : Nat} {F : Fn} {gD : List D → List D → List D} {ma mk : M (List D)} : Wq (bD n k F gD ma mk fr h) Q E = Wq (ma fr h) (fun ds fr h => Wq (mk fr h) (fun es fr h => ds.length = n ∧ es.length = k ∧ Wq (F (gD ds es) h) (fun d _ h => Q d fr h) (fun x _ h => E x fr h)) E) E := by
 unfold bD; rw [aY]
 congr 1
 funext ds fr h
 rw [aY]
 congr 1
 funext es fr h
 split
 · rename_i hb; rw [G5]; simp only [hb.1, hb.2, true_and]
 · rename_i hb
   rw [Be, eq_iff_iff]
   exact ⟨False.elim, fun z => hb ⟨z.1, z.2.1⟩⟩
theorem G7 {n : Nat} {m : M Fl} {ds : List D} : Wq (cA n m ds h) Q E = Bq (startF n ds) fun fr => Wq (m fr h) (fun f _ h => Rq f fun d => Q d [] h) (fun x _ h => E x [] h) := by
 unfold cA Bq
 show _ = Wq (m (startF n ds) h) _ _
 generalize m (startF n ds) h = r
 cases r with
 | ok f fr h => cases f <;> rfl
 | exc x fr h => rfl
 | err => rfl
def Nq (c : Nat) (s : Option (Option D)) (K : D → Prop) : Prop := match s with
 | some (some (.no c' fs)) => c' = c ∧ K (.no c fs)
 | _ => False
end
structure rW {β γ : Type} (_ : β) (_ : γ) : Type where
def Wp {α : Type} (r : R α) (Q : α → Fr → Hh → Prop) (E : aO → Fr → Hh → Prop) (_ : rW Q E := ⟨⟩) : Prop := Wq r Q E
def Op {α : Type} (o : Option α) (K : α → Prop) (_ : rW K K := ⟨⟩) : Prop := Oq o K
def Sl (s : Option (Option D)) (K : D → Prop) (_ : rW K K := ⟨⟩) : Prop := Sq s K
def Cd (b : Bool) (A B : Prop) (_ : rW A B := ⟨⟩) : Prop := wV b A B
def Bx (fr : Fr) (K : Fr → Prop) (_ : rW K K := ⟨⟩) : Prop := Bq fr K
def PP (f : Fl) (A B : Prop) (_ : rW A B := ⟨⟩) : Prop := Fq f A B
def PQ (f : Fl) (K : D → Prop) (_ : rW K K := ⟨⟩) : Prop := Rq f K
def Wn (c : Nat) (s : Option (Option D)) (K : D → Prop) (_ : rW K K := ⟨⟩) : Prop := Nq c s K
section
variable {α β : Type} {Q : α → Fr → Hh → Prop} {E : aO → Fr → Hh → Prop} {fr : Fr} {h : Hh}
theorem lC {a : α} : Wp (.ok a fr h) Q E = Q a fr h := uO
theorem jJ {a : α} {K : α → Prop} : Op (some a) K = K a := sW
theorem NP {c : Bool} {a : α} {K : α → Prop} : Op (if c then some a else none) K = (c = true ∧ K a) := JD
theorem mQ {d : D} {K : D → Prop} : Sl (some (some d)) K = K d := sY
theorem QJ {A B : Prop} : Cd true A B = A := Ip
theorem G8 {A B : Prop} : Cd false A B = B := Iu
theorem mU {a : Option D} {l : Fr} {K : Fr → Prop} : Bx (a :: l) K = K (a :: l) := Gx
theorem zK {A B : Prop} : PP .nx A B = A := Bf
theorem Ew {K : D → Prop} {d : D} : PQ (.rt d) K = K d := JH
theorem Wp.mono {r : R α} {Q Q' : α → Fr → Hh → Prop} {E : aO → Fr → Hh → Prop} (w : Wp r Q E) (hq : ∀ a fr h, Q a fr h → Q' a fr h) : Wp r Q' E := Wq.mono w hq
theorem Wp.ex {r : R α} {Q : α → Fr → Hh → Prop} (w : Wp r Q oV) : ∃ a fr h, r = .ok a fr h ∧ Q a fr h := Wq.ex w
theorem Wp.eq {a : α} {r : R α} {fr : Fr} {h : Hh} (w : Wp r (fun b fr1 h1 => b = a ∧ fr1 = fr ∧ h1 = h) oV) : r = .ok a fr h := Wq.eq w
theorem Wp.of_eq {r : R α} {a : α} {fr : Fr} {h : Hh} (e : r = .ok a fr h) (q : Q a fr h) : Wp r Q E := Wq.of_eq e q
theorem Ey {a : α} : Wp (M.ret a fr h) Q E = Q a fr h := dH
end
section
variable {α : Type} {Q : D → Fr → Hh → Prop} {P : Bool → Fr → Hh → Prop} {S : α → Fr → Hh → Prop} {U : Unit → Fr → Hh → Prop} {G : List D → Fr → Hh → Prop} {L : Fl → Fr → Hh → Prop} {I : Option Int → Fr → Hh → Prop} {E : aO → Fr → Hh → Prop} {fr : Fr} {h : Hh} {m ma mb mc : M D} {i : Nat}
theorem v4 {d : D} : Wp (mC d fr h) Q E = Q d fr h := Pj
theorem CN : Wp (cO m fr h) Q E = Wp (m fr h) (fun d fr h => Q d.fz fr h) E := Ny
theorem zL : Wp (aq i fr h) Q E = Sl fr[i]? fun d => Cd d.own (Bx (fr.set i (some d.fz)) fun fr => Q d.fz fr h) (Q d fr h) := JK
theorem JW : Wp (fZ i fr h) Q E = Sl fr[i]? fun d => Bx (fr.set i none) fun fr => Q d fr h := Gz
theorem NQ : Wp (aR i fr h) Q E = Sl fr[i]? fun d => Q d fr h := JL
theorem yz {f : Hh → D → D → Option α} : Wp (aM f ma mb fr h) S E = Wp (ma fr h) (fun x fr h => Wp (mb fr h) (fun y fr h => Op (f h x y) fun z => S z fr h) E) E := Nz
theorem Pn {f : Hh → D → Option α} : Wp (aZ f ma fr h) S E = Wp (ma fr h) (fun x fr h => Op (f h x) fun z => S z fr h) E := NB
theorem nZ : Wp (az [] fr h) G E = G [] fr h := Et
theorem oh {ms : List (M D)} : Wp (az (m :: ms) fr h) G E = Wp (m fr h) (fun d fr h => Wp (az ms fr h) (fun ds fr h => G (d :: ds) fr h) E) E := Eu
theorem NT {ms : List (M D)} : Wp (jM ms fr h) Q E = Wp (az ms fr h) (fun ds fr h => ds.length ≤ big ∧ Q (.tup ds) fr h) E := JM
theorem NZ {ms : List (M D)} : Wp (gA ms fr h) Q E = Wp (az ms fr h) (fun ds fr h => ds.length ≤ big ∧ Q (.nl ds) fr h) E := JN
theorem Pq : Wp (jO m fr h) G E = Wp (m fr h) (fun d fr h => Op (d.its []) fun l => G l fr h) E := NK
theorem JX : Wp (jA m fr h) G E = Wp (m fr h) (fun d fr h => Op (Nv d) fun l => G l fr h) E := GJ
theorem zM {s n : M Fl} : Wp (aN s n fr h) L E = Wp (s fr h) (fun f fr h => PP f (Wp (n fr h) L E) (L f fr h)) E := JQ
theorem Ez {t : M Bool} {s n : M Fl} : Wp (fj t s n fr h) L E = Wp (t fr h) (fun b fr h => Cd b (Wp (s fr h) L E) (Wp (n fr h) L E)) E := JR
theorem JZ {m : M α} : Wp (km m fr h) L E = Wp (m fr h) (fun _ fr h => L .nx fr h) E := GP
theorem EY : Wp (bM m fr h) L E = Wp (m fr h) (fun d fr h => L (.rt d) fr h) E := JS
theorem Fb : Wp (bj i m fr h) L E = Wp (m fr h) (fun d fr h => Bx (fr.set i (some d)) fun fr => L .nx fr h) E := JT
theorem Bg {l : M (List D)} {g : D → M Unit} {b : M Fl} : Wp (dJ l g b fr h) L E = Wp (l fr h) (fun ds fr h => Wp (cY g b ds fr h) L E) E := GX
theorem J5 {d : D} : Wp (bz i d fr h) U E = Bx (fr.set i (some d)) fun fr => U () fr h := GZ
theorem N5 {f : List D → Option (List D)} : Wp (aH i f fr h) U E = Sl fr[i]? fun d => match d with
 | .nl l => Op (f l) fun l' => Bx (fr.set i (some (.nl l'))) fun fr => U () fr h
 | .ref n => Op h[n]? fun c => match c with
   | .nl l => Op (f l) fun l' => U () fr (h.set n (.nl l'))
   | _ => False
 | _ => False := JV
theorem J8 : Wp (kJ i m fr h) Q E = Wp (aH i fM fr h) (fun _ fr h => Wp (m fr h) (fun d fr h => Wp (aH i (pK d) fr h) (fun _ fr h => Q .non fr h) E) E) E := G3
theorem J9 : Wp (qX m fr h) Q E = Wp (m fr h) (fun d fr h => d.own = true ∧ Q (.ref h.length) fr (h ++ [d])) E := G4
theorem v5 {n k : Nat} {F : Fn} {gD : List D → List D → List D} {ma mk : M (List D)} : Wp (bD n k F gD ma mk fr h) Q E = Wp (ma fr h) (fun ds fr h => Wp (mk fr h) (fun es fr h => ds.length = n ∧ es.length = k ∧ Wp (F (gD ds es) h) (fun d _ h => Q d fr h) (fun x _ h => E x fr h)) E) E := G6
theorem Bh {n : Nat} {m : M Fl} {ds : List D} : Wp (cA n m ds h) Q E = Bx (startF n ds) fun fr => Wp (m fr h) (fun f _ h => PQ f fun d => Q d [] h) (fun x _ h => E x [] h) := G7
end
end Pk
namespace Pk
open PySem PySem.Spec L2
section
variable {h : Hh} {l l' ds fs : List D} {i j : Int} {a b : Bool} {s z : Str} {n c : Nat} {t : String}
theorem Ka : (D.int i).own = false := by unfold D.own; rfl
theorem Kc : (D.str s).own = false := by unfold D.own; rfl
theorem N6 : (D.kl l).own = false := by unfold D.own; rfl
theorem v7 : (D.ref n).own = false := by unfold D.own; rfl
theorem N7 : (D.nl l).own = true := by unfold D.own; rfl
theorem zN : (D.int i).fz = .int i := by unfold D.fz; rfl
theorem Kd : (D.tup l).its h = some l := by unfold D.its D.der; rfl
theorem N8 : (D.kl l).its h = some l := by unfold D.its D.der; rfl
theorem Ke : iQ h (.kl l) = some (.int l.length) := by unfold iQ; dsimp only; rw [N8]; rfl
section
variable {α : Type} {xs : List α}
end
section
variable {C : Int → Int → Bool} {g : Int → Int → Int} {K : D → Prop}
theorem Oa : Op (eO C g h (.int i) (.int j)) K = (C i j = true ∧ K (.int (g i j))) := by unfold eO; exact NP
theorem Pr : yF i j = true := by unfold yF; rfl
theorem G9 : dw h (.int i) (.int j) = some (.int (i + j)) := by unfold dw; rfl
theorem Fd : rJ h (.int i) (.int j) = some (decide (i = j)) := by
 have : rJ h (.int i) (.int j) = some (i == j) := by unfold rJ; rfl
 rw [this]
 by_cases e : i = j
 · subst e; simp
 · simp [e]
end
theorem v8 {dfl es : List D} : aU dfl ds es = ds ++ dfl := by unfold aU; rfl
theorem Hf : fM l = some l := by unfold fM; rfl
theorem Kg {d : D} : pK d l = if l.length < big then some (l ++ [d]) else none := by unfold pK; rfl
end
theorem Fe : big = 100000 := by unfold big; rfl
def qu (f : Fl) (A : Prop) (B : Fl → Prop) (_ : rW A B := ⟨⟩) : Prop := match f with
 | .nx => A
 | .ct => A
 | .brk => B .nx
 | .rt d => B (.rt d)
theorem zP {A : Prop} {B : Fl → Prop} : qu .nx A B = A := by unfold qu; rfl
theorem zQ {A : Prop} {B : Fl → Prop} : qu .ct A B = A := by unfold qu; rfl
theorem Bj {A : Prop} {B : Fl → Prop} : qu .brk A B = B .nx := by unfold qu; rfl
theorem Ff {d : D} {A : Prop} {B : Fl → Prop} : qu (.rt d) A B = B (.rt d) := by unfold qu; rfl
section
variable {L : Fl → Fr → Hh → Prop} {E : aO → Fr → Hh → Prop} {g : D → M Unit} {b : M Fl}
theorem Kh {fr : Fr} {h : Hh} : Wp (cY g b [] fr h) L E = L .nx fr h := by unfold cY; exact Ey
theorem Kl {d : D} {ds : List D} {fr : Fr} {h : Hh} : Wp (cY g b (d :: ds) fr h) L E = Wp (g d fr h) (fun _ fr h => Wp (b fr h) (fun f fr h => qu f (Wp (cY g b ds fr h) L E) fun f => L f fr h) E) oV := by
 rw [cY]
 dsimp only
 cases g d fr h with
 | ok u fr h =>
   rw [lC]
   dsimp only
   cases b fr h with
   | ok f fr h =>
     rw [lC]
     cases f with
     | nx => rw [zP]
     | ct => rw [zQ]
     | brk => rw [Bj]; exact lC
     | rt d => rw [Ff]; exact lC
   | exc x fr h => unfold Wp; rfl
   | err => unfold Wp; rfl
 | exc x fr h => unfold Wp oV; rfl
 | err => unfold Wp; rfl
theorem Oc {α : Type} {F : α → D} {xs : List α} (I : List α → Fr → Hh → Prop) {fr : Fr} {h : Hh} (i0 : I [] fr h)
 (st : ∀ pre a suf fr h, xs = pre ++ a :: suf → I pre fr h → Wp (g (F a) fr h) (fun _ fr h => Wp (b fr h) (fun f fr h => qu f (I (pre ++ [a]) fr h) fun f => L f fr h) E) oV)
 (en : ∀ fr h, I xs fr h → L .nx fr h) : Wp (cY g b (xs.map F) fr h) L E := by
 have main : ∀ (suf pre : List α) (fr : Fr) (h : Hh), xs = pre ++ suf → I pre fr h → Wp (cY g b (suf.map F) fr h) L E := by
  intro suf
  induction suf with
  | nil =>
    intro pre fr h e i
    rw [List.map_nil, Kh]
    rw [WN] at e
    subst e
    exact en fr h i
  | cons a suf ih =>
    intro pre fr h e i
    rw [WP, Kl]
    refine (st pre a suf fr h e i).mono fun _ fr1 h1 w => w.mono fun f fr2 h2 z => ?_
    have e' : xs = (pre ++ [a]) ++ suf := by rw [e, List.append_assoc]; rfl
    cases f with
    | nx => rw [zP] at z ⊢; exact ih _ _ _ e' z
    | ct => rw [zQ] at z ⊢; exact ih _ _ _ e' z
    | brk => rw [Bj] at z ⊢; exact z
    | rt d => rw [Ff] at z ⊢; exact z
 exact main xs [] fr h rfl i0
theorem Km {lo : Int} {n : Nat} (I : Int → Fr → Hh → Prop) {fr : Fr} {h : Hh} (i0 : I lo fr h)
 (st : ∀ j fr h, lo ≤ j → j < lo + n → I j fr h → Wp (g (.int j) fr h) (fun _ fr h => Wp (b fr h) (fun f fr h => qu f (I (j + 1) fr h) fun f => L f fr h) E) oV)
 (en : ∀ fr h, I (lo + n) fr h → L .nx fr h) : Wp (cY g b (jP lo n) fr h) L E := by
 have e : jP lo n = ((List.range n).map fun (k : Nat) => lo + (k : Int)).map D.int := by unfold jP; rw [List.map_map]; rfl
 rw [e]
 refine Oc (fun pre fr h => I (lo + pre.length) fr h) (by simpa using i0) (fun pre a suf fr h ex i => ?_) (fun fr h i => en fr h ?_)
 · have hl : pre.length < n := by
    have := congrArg List.length ex
    simp only [WR, List.length_range, WY, W0] at this
    omega
   have ha : a = lo + pre.length := by
    have := congrArg (fun l => l[pre.length]?) ex
    simp only [W3, List.getElem?_range hl, Option.map_some, List.getElem?_append_right (Nat.le_refl _), Nat.sub_self, List.getElem?_cons_zero, Option.some.injEq] at this
    exact this.symm
   subst ha
   have z := st (lo + pre.length) fr h (by omega) (by omega) i
   rw [WY, List.length_singleton, Int.natCast_add, ← Int.add_assoc]
   exact z
 · simpa using i
end
section
variable {vs : List Nat} {g : D → M Unit} {t : M Bool} {e : M D}
end
end Pk
namespace Pk
open PySem PySem.Spec L2
structure Em (α : Type) [DecidableEq α] where
 f : α → PyData
 n : Nat
 ok : α → Prop
 lay : ∀ a, ok a → (f a).canLay0 = true
 dep : ∀ a, (f a).depth ≤ n
 eq : ∀ a b, PyData.eqv (f a) (f b) = decide (a = b)
theorem Ko (a b : Int) : (a == b) = decide (a = b) := by
 by_cases e : a = b
 · subst e; simp
 · simp [e]
def Em.int : Em Int where
 f := .int
 n := 0
 ok := fun _ => True
 lay := fun _ _ => rfl
 dep := fun _ => Nat.le_refl 0
 eq := fun a b => by
  show (a == b) = _
  exact Ko a b
def QK (s : Str) : Bool := (PyData.str s).canLay0
def Em.str : Em Str where
 f := .str
 n := 0
 ok := fun s => QK s = true
 lay := fun _ h => h
 dep := fun _ => Nat.le_refl 0
 eq := fun a b => by
  show (a == b) = _
  by_cases e : a = b
  · subst e; simp
  · simp [e]
section
variable {α β : Type} [DecidableEq α] [DecidableEq β]
theorem Em.all_lay (A : Em α) : ∀ {l : List α}, (∀ a ∈ l, A.ok a) → PyData.canLayAll0 (l.map A.f) = true
 | [], _ => rfl
 | a :: l, h => by
   rw [WP, PyData.canLayAll0, A.lay a (h a WK), A.all_lay fun x hx => h x (WQ _ hx)]
   rfl
theorem Em.all_dep (A : Em α) : ∀ l : List α, PyData.depthAll (l.map A.f) ≤ A.n
 | [] => Nat.zero_le _
 | a :: l => by
   rw [WP, PyData.depthAll]
   exact Nat.max_le.mpr ⟨A.dep a, A.all_dep l⟩
theorem Em.all_eq (A : Em α) : ∀ l m : List α, PyData.eqvAll (l.map A.f) (m.map A.f) = decide (l = m)
 | [], [] => rfl
 | [], b :: m => by simp [PyData.eqvAll]
 | a :: l, [] => by simp [PyData.eqvAll]
 | a :: l, b :: m => by
   rw [WP, WP, PyData.eqvAll, A.eq, A.all_eq l m]
   by_cases e : a = b <;> by_cases e2 : l = m <;> simp [e, e2]
def Em.list (A : Em α) : Em (List α) where
 f := fun l => .list (l.map A.f)
 n := A.n + 1
 ok := fun l => ∀ a ∈ l, A.ok a
 lay := fun l h => by rw [PyData.canLay0]; exact A.all_lay h
 dep := fun l => by rw [PyData.depth]; exact Nat.succ_le_succ (A.all_dep l)
 eq := fun l m => by rw [PyData.eqv]; exact A.all_eq l m
def Em.tup (A : Em α) : Em (List α) where
 f := fun l => .tuple (l.map A.f)
 n := A.n + 1
 ok := fun l => ∀ a ∈ l, A.ok a
 lay := fun l h => by rw [PyData.canLay0]; exact A.all_lay h
 dep := fun l => by rw [PyData.depth]; exact Nat.succ_le_succ (A.all_dep l)
 eq := fun l m => by rw [PyData.eqv]; exact A.all_eq l m
def Em.pair (A : Em α) (B : Em β) : Em (α × β) where
 f := fun p => .tuple [A.f p.1, B.f p.2]
 n := max A.n B.n + 1
 ok := fun p => A.ok p.1 ∧ B.ok p.2
 lay := fun p h => by
  rw [PyData.canLay0, PyData.canLayAll0, PyData.canLayAll0, PyData.canLayAll0, A.lay _ h.1, B.lay _ h.2]; rfl
 dep := fun p => by
  rw [PyData.depth, PyData.depthAll, PyData.depthAll, PyData.depthAll]
  have := A.dep p.1
  have := B.dep p.2
  omega
 eq := fun p q => by
  rw [PyData.eqv, PyData.eqvAll, PyData.eqvAll, PyData.eqvAll, A.eq, B.eq]
  obtain ⟨a, b⟩ := p
  obtain ⟨c, d⟩ := q
  by_cases e : a = c <;> by_cases e2 : b = d <;> simp [e, e2]
def Em.opt (A : Em α) (hn : ∀ a, PyData.eqv .none (A.f a) = false ∧ PyData.eqv (A.f a) .none = false) : Em (Option α) where
 f := fun o => match o with
   | some a => A.f a
   | none => .none
 n := A.n
 ok := fun o => ∀ a, o = some a → A.ok a
 lay := fun o h => by
  cases o with
  | none => rfl
  | some a => exact A.lay a (h a rfl)
 dep := fun o => by
  cases o with
  | none => exact Nat.zero_le _
  | some a => exact A.dep a
 eq := fun o p => by
  cases o with
  | none => cases p with
    | none => rfl
    | some b => simp only [(hn b).1]; simp
  | some a => cases p with
    | none => simp only [(hn a).2]; simp
    | some b => simp only [A.eq]; simp
theorem Em.shaped (A : Em α) {a : α} (h : A.ok a) (hn : A.n ≤ 64) : SeqAt.shaped (A.f a) = true := by
 unfold SeqAt.shaped
 rw [A.lay a h, decide_eq_true (Nat.le_trans (A.dep a) hn)]
 rfl
end
section
variable {h : Hh} {l m : List Int} {v : Int}
end
def Wo (d : D) : Option Int := match d with
 | .int i => some i
 | _ => none
theorem Od {i : Int} (h1 : -100000 ≤ i) (h2 : i ≤ 100000) : rK i = true := by
 unfold rK
 rw [decide_eq_true (show -(2 ^ 62) ≤ i by omega), decide_eq_true (show i < 2 ^ 62 by omega)]
 rfl
theorem Kr {n : Nat} {N : Int} {b : M Fl} {ns : List Int} (hn : 2 ≤ n) (h1 : 1 ≤ N) (hN : N ≤ 63)
 (hb : ∀ (k : Nat) (xs : Fr) (h : Hh), (k : Int) < N → xs.length = n - 2 → Wp (b (some (.kl (ns.map .int)) :: some (.int k) :: xs) h) (fun f fr _ => (f = .nx ∨ f = .ct) ∧ ∃ x1 ys, fr = some (.kl (ns.map .int)) :: x1 :: ys ∧ ys.length = n - 2) oV) :
 ∃ fr h, cA n (aN (dJ (jA (aM uf (mC (.int 1)) (aM ug (mC (.int N)) (aZ iQ (aR 0))))) (bz 1) b) (bM (mC (.bl true)))) [.kl (ns.map .int)] [] = .ok (.bl true) fr h := by
 have w : Wp (cA n (aN (dJ (jA (aM uf (mC (.int 1)) (aM ug (mC (.int N)) (aZ iQ (aR 0))))) (bz 1) b) (bM (mC (.bl true)))) [.kl (ns.map .int)] []) (fun d _ _ => d = .bl true) oV := by
  have es : startF n [.kl (ns.map .int)] = some (.kl (ns.map .int)) :: none :: List.replicate (n - 2) none := by
   unfold startF
   obtain ⟨m, rfl⟩ : ∃ m, n = m + 2 := ⟨n - 2, by omega⟩
   simp [List.replicate_succ]
  simp only [Bh, es, mU, ↓zM, ↓Bg, ↓JX, ↓yz, ↓v4, ↓Pn, ↓NQ, List.getElem?_cons_zero, mQ, Ke, jJ, Oa, Pr, true_and, Nv, WR]
  generalize hz : (if (if (ns.length : Int) < N then (ns.length : Int) else N) > 1 then (if (ns.length : Int) < N then (ns.length : Int) else N) else 1) = z
  have z1 : 1 ≤ z := by rw [← hz]; split <;> omega
  have z2 : z ≤ N := by rw [← hz]; split <;> split at * <;> omega
  rw [Od (by omega) (by omega)]
  simp only [↓reduceIte, jJ]
  refine Km (fun _ fr _ => ∃ x1 ys, fr = some (.kl (ns.map .int)) :: x1 :: ys ∧ ys.length = n - 2) ⟨none, _, rfl, by simp⟩ ?_ ?_
  · rintro j fr h j0 j1 ⟨x1, ys, rfl, hy⟩
    simp only [↓J5, List.set_cons_succ, List.set_cons_zero, mU]
    have ej : ((j.toNat : Nat) : Int) = j := by omega
    have := hb j.toNat ys h (by omega) hy
    rw [ej] at this
    refine this.mono ?_
    rintro f fr h ⟨rfl | rfl, q⟩
    · rw [zP]; exact q
    · rw [zQ]; exact q
  · rintro fr h ⟨x1, ys, rfl, hy⟩
    simp only [zK, ↓EY, ↓v4, Ew]
 obtain ⟨d, fr, h, e, rfl⟩ := w.ex
 exact ⟨fr, h, e⟩
end Pk
namespace Pk
open PySem PySem.Spec L2
section
variable {Q : D → Fr → Hh → Prop} {E : aO → Fr → Hh → Prop} {fr : Fr} {h : Hh} {ma mb : M D} {mk : M (List D)} {F : Fn} {m : Nat} {mt : Nat → Option Fn}
end
section
variable {h : Hh} {l m : List Str} {w : Str}
end
section
variable {vs : List Nat} {g : D → M Unit} {t : M Bool} {e : M D}
end
end Pk
namespace Pk
open PySem PySem.Spec L2
def endF (i : Nat) (f : Fl) (fr : Fr) : Fr := match f with
 | .rt _ => fr
 | _ => fr.set i none
section
variable {Q : Fl → Fr → Hh → Prop} {S : D → Fr → Hh → Prop} {E : aO → Fr → Hh → Prop} {fr : Fr} {h : Hh} {i : Nat} {cond : Nat → Option Bool} {mb : M Fl} {ms : aO → M Fl} {ma mc : M D} {mt : Nat → Option Fn}
end
section
variable {h : Hh} {i : Int} {b : Bool} {z : Str} {l : List D}
end
end Pk
namespace Pk
open PySem PySem.Spec L2
def Vq (d : D) (K : Int → Prop) : Prop := match d with
 | .int i => 0 ≤ i ∧ i < 2 ^ 60 ∧ K i
 | _ => False
section
variable {Q : Bool → Fr → Hh → Prop} {S : D → Fr → Hh → Prop} {E : aO → Fr → Hh → Prop} {fr : Fr} {h : Hh} {ma mb : M D} {mt : Nat → Option Fn}
end
end Pk
namespace Pk
open PySem PySem.Spec L2
section
variable {Q : Bool → Fr → Hh → Prop} {E : aO → Fr → Hh → Prop} {fr : Fr} {h : Hh} {mt : Nat → Option Fn} {n m : Nat} {fs gs : List D}
end
end Pk
namespace Pk
open PySem PySem.Spec L2
def QL (l : List D) (d : D) : Option (D × List D) := match d with
 | .int j => if -(2 ^ 63) ≤ j ∧ j < 2 ^ 63 then (match seqIndex? j l.length with
   | some q => (match l[q]? with
     | some y => some (y, l.eraseIdx q)
     | none => none)
   | none => none) else none
 | _ => none
def Vr (x d : D) (K : D → List D → Prop) : Prop := match x with
 | .nl l => Oq (QL l d) fun p => K p.1 p.2
 | _ => False
section
variable {S : D → Fr → Hh → Prop} {E : aO → Fr → Hh → Prop} {fr : Fr} {h : Hh} {ma : M D} {mas : M (List D)} {mt : Nat → Option Fn} {i n c : Nat} {d : D} {l : List D}
end
end Pk
namespace Pk
open PySem PySem.Spec L2
section
variable {Q : Bool → Fr → Hh → Prop} {E : aO → Fr → Hh → Prop} {fr : Fr} {h : Hh} {mb : M D} {i : Nat}
end
end Pk
namespace Pk
open PySem PySem.Spec L2
def Wr {α : Type} (o : Option α) (A B : Prop) : Prop := match o with
 | some _ => A
 | none => B
section
variable {Q : Bool → Fr → Hh → Prop} {E : aO → Fr → Hh → Prop} {fr : Fr} {h : Hh} {mt : Nat → Option Fn} {i : Int} {b c : Bool} {z : Str} {l : List D}
end
end Pk
namespace Pk
open PySem PySem.Spec L2
section
variable {Q : Bool → Fr → Hh → Prop} {E : aO → Fr → Hh → Prop} {fr : Fr} {h : Hh} {mt : Nat → Option Fn} {nf : Nat → Nat}
end
end Pk
namespace Pk
open PySem PySem.Spec L2
section
variable {Q : Fl → Fr → Hh → Prop} {E : aO → Fr → Hh → Prop} {fr : Fr} {h : Hh} {i : Nat} {cond : Nat → Option Bool} {mb : M Fl} {ms : aO → M Fl} {x : aO} {cs : List Hd}
end
end Pk
namespace Pk
open PySem PySem.Spec L2
end Pk
namespace Pk
open PySem PySem.Spec L2
section
variable {Q : Fl → Fr → Hh → Prop} {E : aO → Fr → Hh → Prop} {fr : Fr} {h : Hh} {c : Nat} {ma : M D}
end
end Pk
namespace Pk
open PySem PySem.Spec L2
section
variable {G : List D → Fr → Hh → Prop} {E : aO → Fr → Hh → Prop} {fr : Fr} {h : Hh} {ma mb : M D} {a b : D} {l m : List D}
end
end Pk
namespace Pk
open PySem PySem.Spec L2
def Vs : List Int → Int
 | a :: r => BJ a r
 | [] => 0
end Pk
namespace Pk
open PySem PySem.Spec L2
section
variable {L : Fl → Fr → Hh → Prop} {E : aO → Fr → Hh → Prop} {g : D → M Unit} {b : M Fl} {n : Nat} {l : List D} {fr : Fr} {h : Hh} {G : Nat × List D × List D → Fr → Hh → Prop} {li : M (Nat × List D × List D)} {ma mb : M D}
end
end Pk
namespace Pk
open PySem PySem.Spec L2
def Ws (d : D) (K : Str → Prop) : Prop := match d with
 | .str y => K y
 | _ => False
def Wt (d : D) (K : Int → Prop) : Prop := match d with
 | .int y => K y
 | _ => False
section
variable {α : Type} {Q : α → Fr → Hh → Prop} {S : D → Fr → Hh → Prop} {L : Fl → Fr → Hh → Prop} {G : Str → Fr → Hh → Prop} {E : aO → Fr → Hh → Prop} {fr : Fr} {h : Hh} {m ma mb : M D} {ml mh : M (Option Int)} {mt : Nat → Option Fn} {i : Nat} {ms : List (M D)} {acc : Str}
end
end Pk
namespace Pk
open PySem PySem.Spec L2
end Pk
namespace Pk
open PySem PySem.Spec L2
section
variable {h : Hh}
theorem Wp.out {α : Type} {r : R α} {Q : α → Fr → Hh → Prop} (w : Wp r Q oV) : ∃ a fr h, r = .ok a fr h ∧ Q a fr h := by
 cases r with
 | ok a fr h => exact ⟨a, fr, h, rfl, w⟩
 | exc y fr1 h1 => exact (show False from w).elim
 | err => exact (show False from w).elim
end
end Pk
namespace Pk
open PySem PySem.Spec L2
section
variable {S : D → Fr → Hh → Prop} {E : aO → Fr → Hh → Prop} {fr : Fr} {h : Hh} {ma : M D} {mt : Nat → Option Fn}
end
end Pk
namespace Pk
open PySem PySem.Spec L2
def RP (o : Option (Fn × Bool)) (A B : Fn → Prop) : Prop := match o with
 | some (F, false) => A F
 | some (F, true) => B F
 | none => False
def Wu (o : Option (Fn × Bool)) (A B : Fn → Prop) (_ : rW A B := ⟨⟩) : Prop := RP o A B
section
variable {S : D → Fr → Hh → Prop} {E : aO → Fr → Hh → Prop} {fr : Fr} {h : Hh} {ma mb : M D} {mtl mtr : Nat → Option Fn}
end
end Pk
namespace Pk
open PySem PySem.Spec L2
section
variable {S : D → Fr → Hh → Prop} {E : aO → Fr → Hh → Prop} {fr : Fr} {h : Hh} {mo ma : M D}
end
section
variable {α : Type} [DecidableEq α] {h : Hh} {x y : D} {a : α} {l : List α}
end
end Pk
namespace Pk
open PySem PySem.Spec L2
section
variable {Q : D → Fr → Hh → Prop} {S : List D → Fr → Hh → Prop} {E : aO → Fr → Hh → Prop} {fr : Fr} {h : Hh} {n : Nat} {l : List D} {vs : List Nat} {g : D → M Unit} {t : M Bool} {e : M D}
end
end Pk
namespace Pk
open PySem PySem.Spec L2
def Vt (h : Hh) (ix : Nat → Option Nat) (o d : D) : Option Hh := match o with
 | .ref n => match h[n]? with
   | some (.no c fs) => match ix c with
     | some i => match kW i d fs with
       | some fs' => some (h.set n (.no c fs'))
       | none => none
     | none => none
   | _ => none
 | _ => none
section
variable {Q : D → Fr → Hh → Prop} {L : Fl → Fr → Hh → Prop} {U : Unit → Fr → Hh → Prop} {E : aO → Fr → Hh → Prop} {fr : Fr} {h : Hh} {mo mv : M D} {ms : List (M D)}
end
end Pk
namespace Pk
open PySem PySem.Spec L2
section
variable {E : aO → Fr → Hh → Prop} {fr : Fr} {h : Hh} {G : Nat × List D × List D → Fr → Hh → Prop} {ma : M D}
end
end Pk
namespace Pk
open PySem PySem.Spec L2
def Vu (d : D) (K : Nat → Prop) : Prop := match d with
 | .ref n => K n
 | _ => False
def Vv (d : D) (K : Nat → List D → Prop) : Prop := match d with
 | .no c fs => K c fs
 | _ => False
section
variable {S : D → Fr → Hh → Prop} {L : Fl → Fr → Hh → Prop} {A : List D → Fr → Hh → Prop} {E : aO → Fr → Hh → Prop} {fr : Fr} {h : Hh} {m mo mt : M D} {ma : M (List D)} {t : M Bool} {b : M Fl} {i j n : Nat}
def Wv (f : Fl) (again : Prop) (out : Fl → Prop) : Prop := match f with
 | .nx => again
 | .ct => again
 | .brk => out .nx
 | .rt d => out (.rt d)
end
end Pk
namespace Pk
open PySem PySem.Spec L2
section
variable {S : D → Fr → Hh → Prop} {A : List D → Fr → Hh → Prop} {E : aO → Fr → Hh → Prop} {fr : Fr} {h : Hh} {m mo : M D} {ma li : M (List D)} {ms : M Fl} {ds out : List D} {g : D → M Unit} {b c : List D → M (List D)}
end
end Pk
namespace Pk
open PySem PySem.Spec L2
section
variable {G : Nat × List D × List D → Fr → Hh → Prop} {E : aO → Fr → Hh → Prop} {fr : Fr} {h : Hh} {ma mb : M D} {n : Nat} {l : List D}
end
end Pk
namespace Pk
open PySem PySem.Spec L2 GenP
section
variable {A : List D → Fr → Hh → Prop} {L : Fl → Fr → Hh → Prop} {E : aO → Fr → Hh → Prop} {fr : Fr} {h : Hh} {mo : M D} {mc : M (List D)} {c nN : Nat} {b : fD} {g : D → M Unit} {bm : M Fl}
end
end Pk
namespace L
open PySem PySem.Spec L2 Pk GenP
def fld : Nat → List Str
 | 0 => ["readings", "own_habits"]
 | 1 => []
 | _ => []
abbrev T (K : PySem.W.Frag) : Tb := Dz cn fld K
def dh : Nat → Option Nat := fun c => Ww c [(0, 0)]
def cD : Nat → Option Nat := fun c => Ww c [(0, 1)]
def qw : Tg → Tg → Option Bool := Mg [((.b "NoneType", .o 0), false), ((.b "bool", .o 0), false), ((.b "int", .o 0), false), ((.b "str", .o 0), false), ((.b "tuple", .o 0), false), ((.b "list", .o 0), false), ((.o 0, .b "bool"), false), ((.o 0, .b "int"), false), ((.o 0, .b "str"), false), ((.o 0, .b "tuple"), false), ((.o 0, .b "list"), false), ((.o 0, .o 0), true)]
def RQ : Tg → Tg → Option Bool := Qi []
def dU : List D := [.str "restart", .str "lost", .str "join", .str "leave", .str "tail", .str "past"]
def dW : M Fl :=
    (aN (bj 3 (Ah (aM Py (aZ su (aq 2)) (aM Bu (mC (.int 10)) (mC (.int 18)))) (aZ su (aq 2)) (mC (.int 0))))
    (bM (gA [(aq 3), (cO (aM dw (cO (aM dw (aM vm (aZ gj (aq 2)) (mC (.int 2147483629))) (aM Bt (mC (.int 15485863)) (aq 1)))) (mC (.int 7919)))), (mC (.int 0))])))
def d9 : M Fl :=
    (aN (bj 2 (Ah (aM Pu (aq 1) (aZ iQ (aR 0))) (cU 0 (aq 1) eQ) (mC (.int 0))))
    dW)
def bL : Fn := cA 4 d9
def iV : M Fl :=
    (aN (bj 3 (aM vm (aZ gj (aM Bu (cO (aM dw (aq 3) (aM Bt (mC (.int 49979687)) (cU 0 (mC (.int 2)) eQ)))) (mC (.int 2)))) (mC (.int 2305843009213693951))))
    (bM (aM vm (aZ gj (aM Fw (aq 3) (mC (.int 4096)))) (aq 1))))
def iW : M Fl :=
    (aN (bj 3 (aM vm (aZ gj (aM Bu (cO (aM dw (cU 0 (mC (.int 1)) eQ) (aM Bt (mC (.int 32452843)) (cU 0 (mC (.int 2)) eQ)))) (mC (.int 3)))) (mC (.int 2305843009213693921))))
    iV)
def iY : M Fl :=
    (aN (uz 0 (cO (aM dw (cU 0 (mC (.int 2)) eQ) (mC (.int 1)))) (mC (.int 2)))
    iW)
def ji : M Fl :=
    (aN (fj (aM Px (cU 0 (mC (.int 0)) eQ) (mC (.int 0)))
    (aN (bj 2 (aM vm (aZ gj (cU 0 (mC (.int 0)) eQ)) (aq 1)))
    (aN (uz 0 (aM Fw (cU 0 (mC (.int 0)) eQ) (aq 1)) (mC (.int 0)))
    (bM (fZ 2))))
    (M.ret .nx))
    iY)
def cH : Fn := cA 4 ji
def bh : M Fl :=
    (fj (aM rJ (cO (bD 2 0 cH (aU []) (az [(aq 0), (mC (.int 2))]) (az []))) (mC (.int 1)))
    (km (kJ 1 (aq 2)))
    (M.ret .nx))
def eV : M Fl :=
    (aN (dJ (jO (jM [(mC (.str "restart")), (mC (.str "lost")), (mC (.str "join")), (mC (.str "leave")), (mC (.str "tail")), (mC (.str "past"))])) (bz 2) bh)
    (bM (fZ 1)))
def fG : M Fl :=
    (aN (bj 1 (gA []))
    eV)
def dI : Fn := cA 3 fG
def qC : M Fl :=
    (bM (Ht (aM (nH qw) (aq 0) (mC (.ty "int"))) (Hr (aM (nH qw) (aq 0) (mC (.ty "bool"))))))
def qD : Fn := cA 1 qC
def ou : M Fl :=
    (fj (Ag (yK (aZ D.tru (aM (nH qw) (aq 4) (mC (.ty "str"))))) (Ag (aM KJ (aq 4) (mC (.tup dU))) (aM tX (aq 4) (cU 2 (t8 K8 (K9 (aq 3))) lL))))
    (fun _ _ => .err)
    (M.ret .nx))
def oA : D → M Unit :=
    (bz 5)
def oE : M Bool :=
    (aM tX (aq 5) (aR 2))
def oF : M D :=
    (aq 5)
def oG : M Fl :=
    (aN (vC 0 dh (aq 1))
    (vC 0 cD (aZ Dk (uv [5] (jO (mC (.tup dU))) oA oE oF))))
def oH : M Fl :=
    (aN (dJ (yj (aq 2)) (ul 2 (gM (bz 3) (gM (bz 4) uh))) ou)
    oG)
def jx : M Fl :=
    (aN (fj (Ag (yK (aZ D.tru (bD 1 0 qD (aU []) (az [(aq 1)]) (az [])))) (yK (Df KH KH (mC (.int 2)) (aq 1) (mC (.int 4)))))
    (fun _ _ => .err)
    (M.ret .nx))
    oH)
def cG : Fn := runI 0 6 jx
def iD : M Fl :=
    (aN (fj (aM De (aZ (gG dh) (aR 0)) (aZ (gG dh) (aR 1)))
    (fun fr h => .exc ⟨1, []⟩ fr h)
    (M.ret .nx))
    (bM (Ce 1 cG (aq 2) (az [(aZ (gG dh) (aR 0))]))))
def iG : Fn := cA 3 iD
def mV : Nat → Option Fn := fun c => Ww c [(0, iG)]
def qF : D → M Unit :=
    (bz 3)
def qG : M Bool :=
    (Ag (aM tX (aq 3) (aZ (gG cD) (aR 0))) (aM tX (aq 3) (aZ (gG cD) (aR 1))))
def qH : M D :=
    (aq 3)
def lD : M Fl :=
    (aN (bj 2 (uv [3] (jO (mC (.tup dU))) qF qG qH))
    (bM (HH 2 0 mV (aU []) (aq 0) (az [(aq 1), (aq 2)]) (az []))))
def lE : Fn := cA 4 lD
def wW : Nat → Option Fn := fun c => Ww c [(0, lE)]
def uP : M Fl :=
    (bj 2 (Mj wW (aq 2) (cO (bD 1 1 cG ie (az [(aq 3)]) (az [(aq 1)])))))
def uQ : M Fl :=
    (aN (dJ (jO (aq 0)) (bz 3) uP)
    (bM (fZ 2)))
def qI : M Fl :=
    (aN (bj 2 (bD 0 1 cG ie (az []) (az [(aq 1)])))
    uQ)
def qJ : Fn := cA 4 qI
def xj : D → M Unit :=
    (bz 6)
def xm : M Bool :=
    (M.ret true)
def xq : M D :=
    (cO (aM dw (aq 6) (jM [(aq 3)])))
def xr : M Fl :=
    (fj (aM tX (aq 4) (aR 0))
    (bj 2 (aM dw (aq 2) (cO (uv [6] (jO (aq 2)) xj xm xq))))
    (M.ret .nx))
def xF : D → M Unit :=
    (bz 6)
def xG : M Bool :=
    (M.ret true)
def xH : M D :=
    (jM [(aZ iQ (aR 6)), (aq 6)])
def xJ : D → M Unit :=
    (bz 3)
def xK : M Bool :=
    (M.ret true)
def xM : M D :=
    (cU 1 (aq 3) eQ)
def xN : D → M Unit :=
    (ul 2 (gM (bz 7) (gM (bz 6) uh)))
def xO : M Bool :=
    (M.ret true)
def xP : M D :=
    (cO (uv [3] (jO (aq 6)) xJ xK xM))
def xQ : M Fl :=
    (aN (bj 5 (aZ zJ (uv [6] (jO (aq 2)) xF xG xH)))
    (bM (uv [7, 6] (jO (aq 5)) xN xO xP)))
def xR : M Fl :=
    (aN (dJ (yj (aq 1)) (ul 2 (gM (bz 3) (gM (bz 4) uh))) xr)
    xQ)
def xT : M Fl :=
    (aN (bj 2 (gA [(jM [])]))
    xR)
def uR : M Fl :=
    (aN (bj 1 (gA [(mC (.str "restart")), (mC (.str "lost")), (mC (.str "join")), (mC (.str "leave")), (mC (.str "tail")), (mC (.str "past"))]))
    xT)
def uU : Fn := cA 8 uR
def tD (R : Fn) : M Fl :=
    (km (kJ 2 (cO (aM dw (jM [(aq 4)]) (aq 5)))))
def tE (R : Fn) : M Fl :=
    (dJ (jO (cO (bD 2 0 R (aU []) (az [(cO (cU 0 (t8 (K9 (cO (aM dw (aq 3) (mC (.int 1))))) K8) lL)), (aM KC (aq 1) (mC (.int 1)))]) (az [])))) (bz 5) (tD R))
def tG (R : Fn) : M Fl :=
    (aN (dJ (yj (aq 0)) (ul 2 (gM (bz 3) (gM (bz 4) uh))) (tE R))
    (bM (fZ 2)))
def tH (R : Fn) : M Fl :=
    (aN (bj 2 (gA []))
    (tG R))
def oW (R : Fn) : M Fl :=
    (aN (fj (aM rJ (aq 1) (mC (.int 0)))
    (bM (gA [(jM [])]))
    (M.ret .nx))
    (tH R))
def iZ : Nat → Fn
 | 0 => cA 6 (fun _ _ => .err)
 | j + 1 => cA 6 (oW (iZ j))
def oX : Fn := iZ 8
def oY : fD :=
    (qj (vX (cO (Ce 1 cG (aq 2) (az [(aZ (gG dh) (aR 0))]))))
    uK)
def oZ : fD :=
    (qj (yt (jO (cO (bD 2 0 oX (aU []) (az [(aZ (gG cD) (aR 0)), (aq 1)]) (az [])))) (bz 2) oY)
    uK)
def j8 : fD :=
    (qj (yt (jA (cO (aM dw (aZ iQ (aZ (gG cD) (aR 0))) (mC (.int 1))))) (bz 1) oZ)
    uK)
def lF : M Fl :=
    (bM (aZ (gG cD) (aR 0)))
def lG : Fn := cA 1 lF
def qK : Nat → Option Fn := fun c => Ww c [(0, lG)]
def Hg : M Fl :=
    (aN (fj (Ag (yK (aZ D.tru (aM (nH qw) (aq 9) (mC (.cls 0))))) (aM De (aZ (gG dh) (aR 9)) (aR 3)))
    (bM (mC (.bl false)))
    (M.ret .nx))
    (km (kJ 8 (cO (aZ Bw (BW qK (aq 9)))))))
def zX : M Fl :=
    (aN (Cz (yw 0 (aq 5)) 3 j8 (bz 9) Hg)
    (fj (aM De (aq 8) (aR 6))
    (bM (mC (.bl false)))
    (M.ret .nx)))
def Hi : M Fl :=
    (aN (bj 8 (gA []))
    zX)
def zY : M Fl :=
    (aN (dJ (jA (mC (.int 2))) (bz 7) Hi)
    (fj (aM De (cO (aZ Bw (BW qK (aq 5)))) (aR 4))
    (bM (mC (.bl false)))
    (M.ret .nx)))
def z9 : M Fl :=
    (aN (bj 6 (bD 1 0 uU (aU []) (az [(aq 4)]) (az [])))
    zY)
def bT : M Fl :=
    (aN (bj 5 (bD 2 0 qJ (aU []) (az [(aq 4), (aq 3)]) (az [])))
    z9)
def jk : M Fl :=
    (aN (bj 4 (bD 1 0 dI (aU []) (az [(aq 2)]) (az [])))
    bT)
def jm : M Fl :=
    (aN (bj 3 (aM dw (mC (.int 2)) (cO (bD 2 0 cH (aU []) (az [(aq 2), (mC (.int 3))]) (az [])))))
    jk)
def oJ : M Fl :=
    (aN (bj 2 (qX (bD 2 0 bL (aU []) (az [(aq 0), (aq 1)]) (az []))))
    jm)
def CP : M Fl :=
    (aN (dJ (jA (aM uf (mC (.int 1)) (aM ug (mC (.int 8)) (aZ iQ (aR 0))))) (bz 1) oJ)
    (bM (mC (.bl true))))
def CQ : Fn := cA 10 CP
end L
namespace L
open PySem PySem.Spec L2 Pk GenP
section
variable {P : Program} {w : World} {K : PySem.W.Frag} {mg : Str → Option Value} {base : Heap} [hp_ : PF P]
theorem qL (c : aJ K) (Y : K.In base) (G : base.Ns mainGlobals mg) : mg "_law_draw" = some (.ref (He.ga K "_law_draw")) := He.glo_ok Y G (c.fact 3 (f := .he (.glo "_law_draw")) rfl)
theorem xU (c : aJ K) (Y : K.In base) (G : base.Ns mainGlobals mg) : mg "is_integer" = some (.ref (He.ga K "is_integer")) := He.glo_ok Y G (c.fact 6 (f := .he (.glo "is_integer")) rfl)
theorem fH (c : aJ K) (Y : K.In base) (G : base.Ns mainGlobals mg) : mg "World" = some (.ref (He.ga K "World")) := He.glo_ok Y G (c.fact 9 (f := .he (.glo "World")) rfl)
theorem Fg (c : aJ K) (Y : K.In base) (G : base.Ns mainGlobals mg) : mg "Unlike" = some (.ref (He.ga K "Unlike")) := He.glo_ok Y G (c.fact 12 (f := .he (.glo "Unlike")) rfl)
theorem mW (c : aJ K) (Y : K.In base) (G : base.Ns mainGlobals mg) : mg "chosen_sets" = some (.ref (He.ga K "chosen_sets")) := He.glo_ok Y G (c.fact 14 (f := .he (.glo "chosen_sets")) rfl)
theorem v9 (c : aJ K) (Y : K.In base) (G : base.Ns mainGlobals mg) : mg "_law_source" = some (.ref (He.ga K "_law_source")) := He.glo_ok Y G (c.fact 18 (f := .he (.glo "_law_source")) rfl)
theorem xV (c : aJ K) (Y : K.In base) (G : base.Ns mainGlobals mg) : mg "_law_words" = some (.ref (He.ga K "_law_words")) := He.glo_ok Y G (c.fact 19 (f := .he (.glo "_law_words")) rfl)
theorem xW (c : aJ K) (Y : K.In base) (G : base.Ns mainGlobals mg) : mg "_law_world" = some (.ref (He.ga K "_law_world")) := He.glo_ok Y G (c.fact 20 (f := .he (.glo "_law_world")) rfl)
theorem Aa (c : aJ K) (Y : K.In base) (G : base.Ns mainGlobals mg) : mg "_law_due" = some (.ref (He.ga K "_law_due")) := He.glo_ok Y G (c.fact 21 (f := .he (.glo "_law_due")) rfl)
theorem uV (c : aJ K) (Y : K.In base) (G : base.Ns mainGlobals mg) : mg "len" = none := He.free_ok Y G (c.fact 0 (f := .he (.free "len")) rfl)
theorem Fj (c : aJ K) (Y : K.In base) (G : base.Ns mainGlobals mg) : mg "abs" = none := He.free_ok Y G (c.fact 1 (f := .he (.free "abs")) rfl)
theorem mX (c : aJ K) (Y : K.In base) (G : base.Ns mainGlobals mg) : mg "int" = none := He.free_ok Y G (c.fact 2 (f := .he (.free "int")) rfl)
theorem gq (c : aJ K) (Y : K.In base) (G : base.Ns mainGlobals mg) : mg "isinstance" = none := He.free_ok Y G (c.fact 4 (f := .he (.free "isinstance")) rfl)
theorem Ks (c : aJ K) (Y : K.In base) (G : base.Ns mainGlobals mg) : mg "bool" = none := He.free_ok Y G (c.fact 5 (f := .he (.free "bool")) rfl)
theorem j9 (c : aJ K) (Y : K.In base) (G : base.Ns mainGlobals mg) : mg "enumerate" = none := He.free_ok Y G (c.fact 7 (f := .he (.free "enumerate")) rfl)
theorem Oe (c : aJ K) (Y : K.In base) (G : base.Ns mainGlobals mg) : mg "str" = none := He.free_ok Y G (c.fact 8 (f := .he (.free "str")) rfl)
theorem Hj (c : aJ K) (Y : K.In base) (G : base.Ns mainGlobals mg) : mg "tuple" = none := He.free_ok Y G (c.fact 10 (f := .he (.free "tuple")) rfl)
theorem Hk (c : aJ K) (Y : K.In base) (G : base.Ns mainGlobals mg) : mg "super" = none := He.free_ok Y G (c.fact 11 (f := .he (.free "super")) rfl)
theorem Fo (c : aJ K) (Y : K.In base) (G : base.Ns mainGlobals mg) : mg "sorted" = none := He.free_ok Y G (c.fact 13 (f := .he (.free "sorted")) rfl)
theorem tK (c : aJ K) (Y : K.In base) (G : base.Ns mainGlobals mg) : mg "range" = none := He.free_ok Y G (c.fact 15 (f := .he (.free "range")) rfl)
theorem Og (c : aJ K) (Y : K.In base) (G : base.Ns mainGlobals mg) : mg "min" = none := He.free_ok Y G (c.fact 16 (f := .he (.free "min")) rfl)
theorem Oh (c : aJ K) (Y : K.In base) (G : base.Ns mainGlobals mg) : mg "max" = none := He.free_ok Y G (c.fact 17 (f := .he (.free "max")) rfl)
theorem Bl (c : aJ K) (Y : K.In base) (G : base.Ns mainGlobals mg) : mg "list" = none := He.free_ok Y G (c.fact 22 (f := .he (.free "list")) rfl)
theorem eG (c : aJ K) {X : Cx} (hK : X.K = K) : BR X (T K) "readings" dh := by
 subst hK
 exact ⟨dZ (Q := fun c _ => Cls X.K ((T X.K).cad c)) (.cons (He.cls_ok (c.fact 23 (f := .he (.cls "World")) rfl)) .nil),
  dZ (Q := fun c _ => NoAttr X.K ((T X.K).cad c) "readings") (.cons (He.noat_ok (c.fact 24 (f := .he (.noat "World" "readings")) rfl)) .nil),
  dZ (Q := fun c _ => ((T X.K).fld c).Nodup ∧ ((T X.K).fld c).length < 1000) (.cons ⟨(by show (fld 0).Nodup; decide +kernel), (by show (fld 0).length < 1000; decide)⟩ .nil),
  dZ (Q := fun (c i : Nat) => ((T X.K).fld c)[i]? = some (("readings" : Str))) (.cons rfl .nil)⟩
theorem cR (c : aJ K) {X : Cx} (hK : X.K = K) : BR X (T K) "own_habits" cD := by
 subst hK
 exact ⟨dZ (Q := fun c _ => Cls X.K ((T X.K).cad c)) (.cons (He.cls_ok (c.fact 23 (f := .he (.cls "World")) rfl)) .nil),
  dZ (Q := fun c _ => NoAttr X.K ((T X.K).cad c) "own_habits") (.cons (He.noat_ok (c.fact 25 (f := .he (.noat "World" "own_habits")) rfl)) .nil),
  dZ (Q := fun c _ => ((T X.K).fld c).Nodup ∧ ((T X.K).fld c).length < 1000) (.cons ⟨(by show (fld 0).Nodup; decide +kernel), (by show (fld 0).length < 1000; decide)⟩ .nil),
  dZ (Q := fun (c i : Nat) => ((T X.K).fld c)[i]? = some (("own_habits" : Str))) (.cons rfl .nil)⟩
theorem qd (c : aJ K) : vH K (T K) qw := Mh (.b (dY (c.fact 35 (f := .kit (.b "NoneType") (.o 0) false) rfl)) (.b (dY (c.fact 36 (f := .kit (.b "bool") (.o 0) false) rfl)) (.b (dY (c.fact 37 (f := .kit (.b "int") (.o 0) false) rfl)) (.b (dY (c.fact 38 (f := .kit (.b "str") (.o 0) false) rfl)) (.b (dY (c.fact 39 (f := .kit (.b "tuple") (.o 0) false) rfl)) (.b (dY (c.fact 40 (f := .kit (.b "list") (.o 0) false) rfl)) (.o (dY (c.fact 41 (f := .kit (.o 0) (.b "bool") false) rfl)) (mD (c.fact 34 (f := .ins "World") rfl)) (.o (dY (c.fact 42 (f := .kit (.o 0) (.b "int") false) rfl)) (mD (c.fact 34 (f := .ins "World") rfl)) (.o (dY (c.fact 43 (f := .kit (.o 0) (.b "str") false) rfl)) (mD (c.fact 34 (f := .ins "World") rfl)) (.o (dY (c.fact 44 (f := .kit (.o 0) (.b "tuple") false) rfl)) (mD (c.fact 34 (f := .ins "World") rfl)) (.o (dY (c.fact 45 (f := .kit (.o 0) (.b "list") false) rfl)) (mD (c.fact 34 (f := .ins "World") rfl)) (.o (dY (c.fact 46 (f := .kit (.o 0) (.o 0) true) rfl)) (mD (c.fact 34 (f := .ins "World") rfl)) .nil))))))))))))
theorem iH (c : aJ K) {X : Cx} (hK : X.K = K) : Cp X (T K) 0 "HABITS" (.tup dU) := by
 subst hK
 exact Jt (vs := [.str "restart", .str "lost", .str "join", .str "leave", .str "tail", .str "past"]) (Lz (c.fact 32 (f := .raw (fun K => Cm K (He.ga K "World") "HABITS" [.str "restart", .str "lost", .str "join", .str "leave", .str "tail", .str "past"])) rfl)) (.cons (.str _) (.cons (.str _) (.cons (.str _) (.cons (.str _) (.cons (.str _) (.cons (.str _) .nil))))))
theorem Fp (c : aJ K) : Pk.ExC P K (T K) 1 (wC K) := Mp (c.fact 31 (f := .own "Unlike" (PySem.Str.ofString "/claim/cut.py") []) rfl) rfl rfl (c.wrote 0 (d := fu) rfl) rfl rfl DY DW rfl rfl (by decide +kernel) hp_.f hp_.t
theorem tL (c : aJ K) (Y : K.In base) (G : base.Ns mainGlobals mg) : Does P w K mg base (T K) 0 oR "_law_source" (defScope cP) (defBody cP) d9 := by
 intro f cdv A outer s H E C
 exact (aD (lZ C 2 (s_if (cI cmp_lt (aj 1) (ue (bQ 0) (uV c Y G))) (fK 0 (aj 1)) aF))
  (aD (lZ C 3 (s_if (cI cmp_ge (Dj (aj 2) (Fj c Y G)) (yH aF aF)) (Dj (aj 2) (Fj c Y G)) aF))
  (aQ (s_ret (jN (aC (aj 3) (aC (bW (eY (bW (eY (pD (lY (aj 2) (mX c Y G)) aF) (yG aF (aj 1)))) aF)) (aC aF bf))))))))
theorem wg (c : aJ K) (Y : K.In base) (G : base.Ns mainGlobals mg) : ∃ fd : FuncData, dB P w K mg base (T K) 1 (jt.adr K) fd jr bL ∧ Bn K (T K) fd jr 2 [] (aU []) := by
 obtain ⟨fd, F⟩ := c.def_ 1 (d := jt) rfl
 exact ⟨fd, ⟨fn_sim F vR (tL c Y G), F.kp⟩, (gU (FunD.bindsN F fun _ _ _ _ _ _ us hl => match us, hl with | [_, _], _ => (by kernel_rfl)))⟩
theorem wj (c : aJ K) (Y : K.In base) (G : base.Ns mainGlobals mg) : Does P w K mg base (T K) 0 rP "_law_draw" (defScope eE) (defBody eE) ji := by
 intro f cdv A outer s H E C
 exact (aD (je (cI cmp_gt (fK 0 aF) aF)
  (aD (lZ C 2 (pD (lY (fK 0 aF) (mX c Y G)) (aj 1)))
  (aD (Dt 0 (Dd (fK 0 aF) (aj 1)) aF)
  (aQ (s_ret (qQ 2)))))
  fV)
  (aD (Dt 0 (bW (eY (fK 0 aF) aF)) aF)
  (aD (lZ C 3 (pD (lY (yH (bW (eY (fK 0 aF) (yG aF (fK 0 aF)))) aF) (mX c Y G)) aF))
  (aD (lZ C 3 (pD (lY (yH (bW (eY (aj 3) (yG aF (fK 0 aF)))) aF) (mX c Y G)) aF))
  (aQ (s_ret (ni (pD (lY (Dd (aj 3) aF) (mX c Y G)) (aj 1)))))))))
theorem qM (c : aJ K) (Y : K.In base) (G : base.Ns mainGlobals mg) : ∃ fd : FuncData, dB P w K mg base (T K) 1 (lO.adr K) fd lN cH ∧ Bn K (T K) fd lN 2 [] (aU []) := by
 obtain ⟨fd, F⟩ := c.def_ 2 (d := lO) rfl
 exact ⟨fd, ⟨fn_sim F zp (wj c Y G), F.kp⟩, (gU (FunD.bindsN F fun _ _ _ _ _ _ us hl => match us, hl with | [_, _], _ => (by kernel_rfl)))⟩
theorem uW (c : aJ K) (Y : K.In base) (G : base.Ns mainGlobals mg) : Does P w K mg base (T K) 1 pQ "_law_words" (defScope dC) (defBody dC) fG := by
 obtain ⟨fd__law_draw, F__law_draw, B__law_draw_0⟩ := qM (P := P) (w := w) c Y G
 intro f cdv A outer s H E C
 exact (aD (fL C 1 (jN bf))
  (aD (kE C (fU (lW (aC dX (aC dX (aC dX (aC dX (aC dX (aC dX bf)))))))) (aX C 2)
  (aQ (je (cI (cmp_eq C) (bW (fO C F__law_draw (by decide) B__law_draw_0 (qL c Y G) (aC (aj 0) (aC aF bf)))) (jy aF))
  (aQ (yS (vz 1 (aj 2))))
  fV)))
  (aQ (s_ret (qQ 1)))))
theorem xX (c : aJ K) (Y : K.In base) (G : base.Ns mainGlobals mg) : ∃ fd : FuncData, dB P w K mg base (T K) 2 (jV.adr K) fd jU dI ∧ Bn K (T K) fd jU 1 [] (aU []) := by
 obtain ⟨fd, F⟩ := c.def_ 3 (d := jV) rfl
 exact ⟨fd, ⟨fn_sim F wZ (uW c Y G), F.kp⟩, (gU (FunD.bindsN F fun _ _ _ _ _ _ us hl => match us, hl with | [_], _ => (by kernel_rfl)))⟩
theorem uX (c : aJ K) (Y : K.In base) (G : base.Ns mainGlobals mg) : Does P w K mg base (T K) 0 pU "is_integer" (defScope dD) (defBody dD) qC := by
 intro f cdv A outer s H E C
 exact (aQ (s_ret (ni (KR (uC (qd c) (aj 0) (BX (t := "int") (mX c Y G)) (gq c Y G)) (KN (KQ (uC (qd c) (aj 0) (BX (t := "bool") (Ks c Y G)) (gq c Y G))))))))
theorem xY (c : aJ K) (Y : K.In base) (G : base.Ns mainGlobals mg) : ∃ fd : FuncData, dB P w K mg base (T K) 1 (jX.adr K) fd jW qD ∧ Bn K (T K) fd jW 1 [] (aU []) := by
 obtain ⟨fd, F⟩ := c.def_ 4 (d := jX) rfl
 exact ⟨fd, ⟨fn_sim F xf (uX c Y G), F.kp⟩, (gU (FunD.bindsN F fun _ _ _ _ _ _ us hl => match us, hl with | [_], _ => (by kernel_rfl)))⟩
theorem oK (c : aJ K) (Y : K.In base) (G : base.Ns mainGlobals mg) : Does P w K mg base (T K) 1 ju "World.__init__" (defScope bK) (defBody bK) jx := by
 obtain ⟨fd_is_integer, F_is_integer, B_is_integer_0⟩ := xY (P := P) (w := w) c Y G
 intro f cdv A outer s H E C
 exact (aD (je (yg (t7 (tY (yJ (lU (fO C F_is_integer (by decide) B_is_integer_0 (xU c Y G) (aC (aj 1) bf))))) (tZ (tY (FJ cmp_le cmp_le aF (aj 1) aF)))))
  (aQ Ar)
  fV)
  (aD (kE C (vL (aj 2) (j9 c Y G)) (uo C (eZ (aX C 3) (eZ (aX C 4) qU)))
  (aQ (je (yg (t7 (tY (yJ (jy (uC (qd c) (aj 4) (BX (t := "str") (Oe c Y G)) (gq c Y G))))) (t7 (cI (IV) (aj 4) (jy (vQ (c := 0) (iH c rfl) (fH c Y G)))) (tZ (cI (pG) (aj 4) (lU (Am 2 Ai (Aj (aj 3)))))))))
  (aQ Ar)
  fV)))
  (aD (yX 0 (eG c rfl) (aj 1))
  (aQ (yX 0 (cR c rfl) (FT (lU (uw C [("word", 5)] (fU (vQ (c := 0) (iH c rfl) (fH c Y G))) (by decide) (fun _ _ _ _ _ => (aX (Cq.blk C) 5)) (fun _ _ _ _ _ => (Av (cI (pG) (aj 5) (bQ 2)))) (fun _ _ _ _ _ => (aj 5)) (blkOk_by rfl))) (Hj c Y G)))))))
theorem fJ (c : aJ K) (Y : K.In base) (G : base.Ns mainGlobals mg) : ∃ fd : FuncData, Ba P w K mg base (T K) 2 0 (fQ.adr K) 3 ["readings"] cG := by
 obtain ⟨fd, F⟩ := c.def_ 5 (d := fQ) rfl
 exact ⟨fd, Jm (p0 := "self") (pv := "habits") (ks := ["readings"]) 0 F (He.mkr_ok (c.fact 33 (f := .he (.mkr "World")) rfl)) pW (oK c Y G) (fun _ _ _ _ _ _ _ ur ws hl => match ur, ws, hl with | [], [_], _ => (by kernel_rfl) | _ :: _, [_], _ => (by kernel_rfl))⟩
theorem kh (c : aJ K) (Y : K.In base) (G : base.Ns mainGlobals mg) : Does P w K mg base (T K) 3 ig "World.joined_with" (defScope bu) (defBody bu) iD := by
 obtain ⟨fd_World____init__, F_World____init__⟩ := fJ (P := P) (w := w) c Y G
 intro f cdv A outer s H E C
 exact (aD (je (cI (tW C) (fW (eG c rfl) (bQ 0)) (jy (fW (eG c rfl) (bQ 1))))
  (aQ (Gk C (Fp (P := P) c) rfl (fun _ => trivial) (Hk c Y G) (Fg c Y G)))
  fV)
  (aQ (s_ret (rO C F_World____init__ rfl (by decide) (fH c Y G) (aj 2) (qY (fW (eG c rfl) (bQ 0)) uB)))))
theorem mY (c : aJ K) (Y : K.In base) (G : base.Ns mainGlobals mg) : ∃ fd : FuncData, dB P w K mg base (T K) 4 (dN.adr K) fd dM iG ∧ Bn K (T K) fd dM 3 [] (aU []) := by
 obtain ⟨fd, F⟩ := c.def_ 6 (d := dN) rfl
 exact ⟨fd, ⟨fn_sim F mG (kh c Y G), F.kp⟩, (gU (FunD.bindsN F fun _ _ _ _ _ _ us hl => match us, hl with | [_, _, _], _ => (by kernel_rfl)))⟩
theorem wk (c : aJ K) (Y : K.In base) (G : base.Ns mainGlobals mg) {X : Cx} {k : Nat} (hk : 4 ≤ k) (hP : X.prog = P) (hw : X.w = w) (hK : X.K = K) (hm : X.mg = mg) (hb : X.base = base) : BV X (T K) k "joined_with" mV 2 [] (aU []) := by
 subst hP hw hK hm hb
 exact ⟨dZ (.cons (by
  obtain ⟨fd, F, B⟩ := mY (P := X.prog) (w := X.w) c Y G
  exact ⟨_, _, fd, _, He.cls_ok (c.fact 23 (f := .he (.cls "World")) rfl), He.meth_ok (c.fact 28 (f := .he (.meth "World" "joined_with")) rfl), F, B, (by show _ ∉ fld 0; decide +kernel), Nat.le_trans (by decide) hk⟩) .nil)⟩
theorem qN (c : aJ K) (Y : K.In base) (G : base.Ns mainGlobals mg) : Does P w K mg base (T K) 4 lg "World.__or__" (defScope bY) (defBody bY) lD := by
 intro f cdv A outer s H E C
 exact (aD (Je C 2 [("word", 3)] (fU (vQ (c := 0) (iH c rfl) (fH c Y G))) (by decide) (fun _ _ _ _ _ => (aX (Cq.blk C) 3)) (fun _ _ _ _ _ => (Av (yg (t7 (cI (pG) (aj 3) (jy (fW (cR c rfl) (bQ 0)))) (tZ (cI (pG) (aj 3) (jy (fW (cR c rfl) (bQ 1))))))))) (fun _ _ _ _ _ => (aj 3)) (blkOk_by rfl) (sw_true rfl rfl rfl rfl))
  (aQ (s_ret (Jh C (wk (P := P) c Y G (by decide) rfl rfl rfl rfl rfl) (aj 0) (aC (aj 1) (aC (aj 2) bf))))))
theorem tM (c : aJ K) (Y : K.In base) (G : base.Ns mainGlobals mg) : ∃ fd : FuncData, dB P w K mg base (T K) 5 (ir.adr K) fd il lE ∧ Bn K (T K) fd il 2 [] (aU []) := by
 obtain ⟨fd, F⟩ := c.def_ 7 (d := ir) rfl
 exact ⟨fd, ⟨fn_sim F sJ (qN c Y G), F.kp⟩, (gU (FunD.bindsN F fun _ _ _ _ _ _ us hl => match us, hl with | [_, _], _ => (by kernel_rfl)))⟩
theorem Ft (c : aJ K) (Y : K.In base) (G : base.Ns mainGlobals mg) {X : Cx} {k : Nat} (hk : 5 ≤ k) (hP : X.prog = P) (hw : X.w = w) (hK : X.K = K) (hm : X.mg = mg) (hb : X.base = base) : Mi X (T K) k .BitOr wW := by
 subst hP hw hK hm hb
 exact ⟨dZ (.cons (by
  obtain ⟨fd, F, B⟩ := tM (P := X.prog) (w := X.w) c Y G
  exact ⟨_, _, fd, _, He.cls_ok (c.fact 23 (f := .he (.cls "World")) rfl), He.meth_ok (c.fact 29 (f := .he (.meth "World" "__or__")) rfl), (c.fact 30 (f := .slf "World") rfl), F, B, Nat.le_trans (by decide) hk⟩) .nil)⟩
theorem uY (c : aJ K) (Y : K.In base) (G : base.Ns mainGlobals mg) : Does P w K mg base (T K) 5 pX "_law_world" (defScope dF) (defBody dF) qI := by
 obtain ⟨fd_World____init__, F_World____init__⟩ := fJ (P := P) (w := w) c Y G
 intro f cdv A outer s H E C
 exact (aD (fL C 2 (DN C F_World____init__ rfl (by decide) (fH c Y G) (qY (aj 1) uB)))
  (aD (kE C (fU (aj 0)) (aX C 3)
  (aQ (fL C 2 (Ml C (Ft (P := P) c Y G (by decide) rfl rfl rfl rfl rfl) (aj 2) (bW (DP C F_World____init__ rfl (by decide) (by decide) (fH c Y G) (aC (aj 3) bf) (qY (aj 1) uB)))))))
  (aQ (s_ret (qQ 2)))))
theorem xZ (c : aJ K) (Y : K.In base) (G : base.Ns mainGlobals mg) : ∃ fd : FuncData, dB P w K mg base (T K) 6 (jZ.adr K) fd jY qJ ∧ Bn K (T K) fd jY 2 [] (aU []) := by
 obtain ⟨fd, F⟩ := c.def_ 8 (d := jZ) rfl
 exact ⟨fd, ⟨fn_sim F xg (uY c Y G), F.kp⟩, (gU (FunD.bindsN F fun _ _ _ _ _ _ us hl => match us, hl with | [_, _], _ => (by kernel_rfl)))⟩
theorem yc (c : aJ K) (Y : K.In base) (G : base.Ns mainGlobals mg) : Does P w K mg base (T K) 0 uF "_law_due" (defScope fP) (defBody fP) uR := by
 intro f cdv A outer s H E C
 exact (aD (fL C 1 (jN (aC dX (aC dX (aC dX (aC dX (aC dX (aC dX bf))))))))
  (aD (fL C 2 (jN (aC (lW bf) bf)))
  (aD (kE C (vL (aj 1) (j9 c Y G)) (uo C (eZ (aX C 3) (eZ (aX C 4) qU)))
  (aQ (je (cI (pG) (aj 4) (bQ 0))
  (aQ (fL C 2 (eY (aj 2) (bW (uw C [("_law_row", 6)] (fU (aj 2)) (by decide) (fun _ _ _ _ _ => (aX (Cq.blk C) 6)) (fun _ _ _ _ _ => qW) (fun _ _ _ _ _ => (bW (eY (aj 6) (lW (aC (aj 3) bf))))) (blkOk_by rfl))))))
  fV)))
  (aD (fL C 5 (CK C (lU (uw C [("_law_row", 6)] (fU (aj 2)) (by decide) (fun _ _ _ _ _ => (aX (Cq.blk C) 6)) (fun _ _ _ _ _ => qW) (fun _ _ _ _ _ => (lW (aC (ue (bQ 6) (uV c Y G)) (aC (aj 6) bf)))) (blkOk_by rfl))) (Fo c Y G)))
  (aQ (s_ret (uw C [("_law_many", 7), ("_law_row", 6)] (fU (aj 5)) (by decide) (fun _ _ _ _ _ => (uo (Cq.blk C) (eZ (aX (Cq.blk C) 7) (eZ (aX (Cq.blk C) 6) qU)))) (fun _ _ _ _ _ => qW) (fun _ _ _ _ _ => (bW (uw (Cq.blk C) [("_law_at", 3)] (fU (aj 6)) (by decide) (fun _ _ _ _ _ => (aX (Cq.blk (Cq.blk C)) 3)) (fun _ _ _ _ _ => qW) (fun _ _ _ _ _ => (fK 1 (aj 3))) (blkOk_by rfl)))) (blkOk_by rfl))))))))
theorem Ab (c : aJ K) (Y : K.In base) (G : base.Ns mainGlobals mg) : ∃ fd : FuncData, dB P w K mg base (T K) 1 (nO.adr K) fd nM uU ∧ Bn K (T K) fd nM 1 [] (aU []) := by
 obtain ⟨fd, F⟩ := c.def_ 9 (d := nO) rfl
 exact ⟨fd, ⟨fn_sim F zV (yc c Y G), F.kp⟩, (gU (FunD.bindsN F fun _ _ _ _ _ _ us hl => match us, hl with | [_], _ => (by kernel_rfl)))⟩
theorem tO (c : aJ K) (Y : K.In base) (G : base.Ns mainGlobals mg) {j : Nat} {R : Fn} {fdR : FuncData} (F_chosen_sets : dB P w K mg base (T K) (1 + j) (d7.adr K) fdR cC R) (B_chosen_sets_0 : Bn K (T K) fdR cC 2 [] (aU [])) : Does P w K mg base (T K) (1 + j) oU "chosen_sets" (defScope cQ) (defBody cQ) (oW R) := by
 intro f cdv A outer s H E C
 exact (aD (je (cI (cmp_eq C) (aj 1) (jy aF))
  (aQ (s_ret (jN (aC (lW bf) bf))))
  fV)
  (aD (fL C 2 (jN bf))
  (aD (kE C (vL (aj 0) (j9 c Y G)) (uo C (eZ (aX C 3) (eZ (aX C 4) qU)))
  (aQ (kE C (fU (bW (fO C F_chosen_sets (by omega) B_chosen_sets_0 (mW c Y G) (aC (bW (Am 0 (Aj (bW (eY (aj 3) aF))) Ai)) (aC (KD (aj 1) aF) bf))))) (aX C 5)
  (aQ (yS (vz 2 (bW (eY (lW (aC (aj 4) bf)) (aj 5)))))))))
  (aQ (s_ret (qQ 2))))))
theorem wu (c : aJ K) (Y : K.In base) (G : base.Ns mainGlobals mg) : ∃ fd : FuncData, dB P w K mg base (T K) 9 (d7.adr K) fd cC oX ∧ Bn K (T K) fd cC 2 [] (aU []) := by
 obtain ⟨fd, F⟩ := c.def_ 10 (d := d7) rfl
 have B : Bn K (T K) fd cC 2 [] (aU []) := (gU (FunD.bindsN F fun _ _ _ _ _ _ us hl => match us, hl with | [_, _], _ => (by kernel_rfl)))
 have key : ∀ j, dB P w K mg base (T K) (1 + j) (d7.adr K) fd cC (iZ j) := by
  intro j
  induction j with
  | zero => exact ⟨fn_sim (k := 0) F mH (m := fun _ _ => .err) (fun f cdv A outer s H E C B w σ H2 fr h D R p => p.elim), F.kp⟩
  | succ j ih => exact ⟨fn_sim F mH (tO c Y G ih B), F.kp⟩
 exact ⟨fd, key 8, B⟩
theorem ph (c : aJ K) (Y : K.In base) (G : base.Ns mainGlobals mg) : Ek P w K mg base (T K) 9 aG "World.subsets" (defScope au) (defBody au) j8 := by
 obtain ⟨fd_World____init__, F_World____init__⟩ := fJ (P := P) (w := w) c Y G
 obtain ⟨fd_chosen_sets, F_chosen_sets, B_chosen_sets_0⟩ := wu (P := P) (w := w) c Y G
 intro f cdv A outer n g pn O
 exact (vY (Eh (is := [1]) O (fun s H hz => (show lM (gcxOf P w K mg base aG "World.subsets" (defScope au) f cdv A outer s H d8 pn) (T K) (WX.up d8) _ _ _ from (have C : Cq (gcxOf P w K mg base aG "World.subsets" (defScope au) f cdv A outer s H d8 pn) (T K) (WX.up d8) 9 := O.cq s H hz; (vp (bW (eY (ue (jy (fW (cR c rfl) (bQ 0))) (uV c Y G)) aF)) (tK c Y G))))) (fun s H hz => (show iT (gcxOf P w K mg base aG "World.subsets" (defScope au) f cdv A outer s H d8 pn) (T K) _ _ _ from (have C : Cq (gcxOf P w K mg base aG "World.subsets" (defScope au) f cdv A outer s H d8 pn) (T K) (WX.up d8) 9 := O.cq s H hz; (aX C 1))))
  (vY (Eh (is := [2]) O (fun s H hz => (show lM (gcxOf P w K mg base aG "World.subsets" (defScope au) f cdv A outer s H d8 pn) (T K) (WX.up d8) _ _ _ from (have C : Cq (gcxOf P w K mg base aG "World.subsets" (defScope au) f cdv A outer s H d8 pn) (T K) (WX.up d8) 9 := O.cq s H hz; (fU (bW (fO C F_chosen_sets (by decide) B_chosen_sets_0 (mW c Y G) (aC (fW (cR c rfl) (bQ 0)) (aC (aj 1) bf)))))))) (fun s H hz => (show iT (gcxOf P w K mg base aG "World.subsets" (defScope au) f cdv A outer s H d8 pn) (T K) _ _ _ from (have C : Cq (gcxOf P w K mg base aG "World.subsets" (defScope au) f cdv A outer s H d8 pn) (T K) (WX.up d8) 9 := O.cq s H hz; (aX C 2))))
  (vY (Gq O (fun s H hz => (show ao (gcxOf P w K mg base aG "World.subsets" (defScope au) f cdv A outer s H d8 pn) (T K) (WX.up d8) _ _ from (have C : Cq (gcxOf P w K mg base aG "World.subsets" (defScope au) f cdv A outer s H d8 pn) (T K) (WX.up d8) 9 := O.cq s H hz; (bW (rO C F_World____init__ rfl (by decide) (fH c Y G) (aj 2) (qY (fW (eG c rfl) (bQ 0)) uB)))))))
  zG))
  zG))
  zG)
theorem rH (c : aJ K) (Y : K.In base) (G : base.Ns mainGlobals mg) : ∃ fd : FuncData, Cu P w K mg base (gH.adr K) fd dO aG "World.subsets" (defScope au) (defBody au) ∧ Binds K fd dO [] := by
 obtain ⟨fd, F⟩ := c.def_ 11 (d := gH) rfl
 exact ⟨fd, QH F jw, (FunD.bindsN F fun _ _ _ _ _ _ us hl => match us, hl with | [_], _ => (by kernel_rfl))⟩
theorem qO (c : aJ K) (Y : K.In base) (G : base.Ns mainGlobals mg) : Does P w K mg base (T K) 0 lu "World.habits" (defScope bZ) (defBody bZ) lF := by
 intro f cdv A outer s H E C
 exact (aQ (s_ret (ni (fW (cR c rfl) (bQ 0)))))
theorem tQ (c : aJ K) (Y : K.In base) (G : base.Ns mainGlobals mg) : ∃ fd : FuncData, dB P w K mg base (T K) 1 (iy.adr K) fd iw lG ∧ Binds K fd iw [] := by
 obtain ⟨fd, F⟩ := c.def_ 12 (d := iy) rfl
 exact ⟨fd, ⟨fn_sim F sO (qO c Y G), F.kp⟩, (FunD.bindsN F fun _ _ _ _ _ _ us hl => match us, hl with | [_], _ => (by kernel_rfl))⟩
theorem wX (c : aJ K) (Y : K.In base) (G : base.Ns mainGlobals mg) {X : Cx} {k : Nat} (hk : 2 ≤ k) (hP : X.prog = P) (hw : X.w = w) (hK : X.K = K) (hm : X.mg = mg) (hb : X.base = base) : HJ X (T K) k "habits" qK := by
 subst hP hw hK hm hb
 exact ⟨dZ (.cons (by
  obtain ⟨fd, F, B⟩ := tQ (P := X.prog) (w := X.w) c Y G
  exact ⟨_, _, _, fd, _, He.cls_ok (c.fact 23 (f := .he (.cls "World")) rfl), Jk (c.fact 26 (f := .prop "World" "habits") rfl), F, B, rfl, Nat.le_trans (by decide) hk⟩) .nil)⟩
theorem qP (c : aJ K) (Y : K.In base) (G : base.Ns mainGlobals mg) {X : Cx} (hP : X.prog = P) (hw : X.w = w) (hK : X.K = K) (hm : X.mg = mg) (hb : X.base = base) : Eo X (T K) "subsets" 0 dO aG "World.subsets" (defScope au) (defBody au) := by
 subst hP hw hK hm hb
 obtain ⟨fd, F, B⟩ := rH (P := X.prog) (w := X.w) c Y G
 exact ⟨⟨_, fd, He.cls_ok (c.fact 23 (f := .he (.cls "World")) rfl), He.meth_ok (c.fact 27 (f := .he (.meth "World" "subsets")) rfl), F, B, (by show _ ∉ fld 0; decide +kernel)⟩, rfl⟩
theorem Hl (c : aJ K) (Y : K.In base) (G : base.Ns mainGlobals mg) : Does P w K mg base (T K) 13 HS "law" (defScope rC) (defBody rC) CP := by
 obtain ⟨fd__law_draw, F__law_draw, B__law_draw_0⟩ := qM (P := P) (w := w) c Y G
 obtain ⟨fd__law_due, F__law_due, B__law_due_0⟩ := Ab (P := P) (w := w) c Y G
 obtain ⟨fd__law_source, F__law_source, B__law_source_0⟩ := wg (P := P) (w := w) c Y G
 obtain ⟨fd__law_words, F__law_words, B__law_words_0⟩ := xX (P := P) (w := w) c Y G
 obtain ⟨fd__law_world, F__law_world, B__law_world_0⟩ := xZ (P := P) (w := w) c Y G
 intro f cdv A outer s H E C
 exact (aD (kE C (vp (Ja C aF (Jb C aF (ue (bQ 0) (uV c Y G)) (Og c Y G)) (Oh c Y G)) (tK c Y G)) (aX C 1)
  (aD (lZ C 2 (Jg (fO C F__law_source (by decide) B__law_source_0 (v9 c Y G) (aC (aj 0) (aC (aj 1) bf)))))
  (aD (fL C 3 (eY aF (bW (fO C F__law_draw (by decide) B__law_draw_0 (qL c Y G) (aC (aj 2) (aC aF bf))))))
  (aD (fL C 4 (fO C F__law_words (by decide) B__law_words_0 (xV c Y G) (aC (aj 2) bf)))
  (aD (fL C 5 (fO C F__law_world (by decide) B__law_world_0 (xW c Y G) (aC (aj 4) (aC (aj 3) bf))))
  (aD (fL C 6 (fO C F__law_due (by decide) B__law_due_0 (Aa c Y G) (aC (aj 4) bf)))
  (aD (kE C (vp aF (tK c Y G)) (aX C 7)
  (aD (fL C 8 (jN bf))
  (aD (Nt C (fun P1 h1 => Nu P1 h1) (by decide) (Jz C (qP (P := P) c Y G rfl rfl rfl rfl rfl) (aj 5)) jw (fun _ _ _ _ _ => En) (ph (P := P) c Y G) (aX C 9)
  (aD (je (yg (t7 (tY (yJ (jy (uC (qd c) (aj 9) (Ls (c := 0) (fH c Y G)) (gq c Y G))))) (tZ (cI (tW C) (fW (eG c rfl) (bQ 9)) (bQ 3)))))
  (aQ (s_ret (ni yf)))
  fV)
  (aQ (yS (vz 8 (bW (Ao (lU (Az C (wX (P := P) c Y G (by decide) rfl rfl rfl rfl rfl) (aj 9))) (Bl c Y G))))))))
  (aQ (je (cI (tW C) (aj 8) (bQ 6))
  (aQ (s_ret (ni yf)))
  fV)))))
  (aQ (je (cI (tW C) (bW (Ao (lU (Az C (wX (P := P) c Y G (by decide) rfl rfl rfl rfl rfl) (aj 5))) (Bl c Y G))) (bQ 4))
  (aQ (s_ret (ni yf)))
  fV)))))))))
  (aQ (s_ret (ni yf))))
end
end L
namespace L
open PySem PySem.Spec L2 Pk GenP
theorem lH {fr : Fr} {h : Hh} {Q : Fl → Fr → Hh → Prop} {E : aO → Fr → Hh → Prop} : Wp (bh fr h) Q E = Wp ((
 (fj (aM rJ (cO (bD 2 0 cH (aU []) (az [(aq 0), (mC (.int 2))]) (az []))) (mC (.int 1)))
 (km (kJ 1 (aq 2)))
 (M.ret .nx))) fr h) Q E := congrArg (fun m => Wp (m fr h) Q E) bh.eq_1
theorem uZ {fr : Fr} {h : Hh} {Q : Fl → Fr → Hh → Prop} {E : aO → Fr → Hh → Prop} : Wp (eV fr h) Q E = Wp ((
 (aN (dJ (jO (jM [(mC (.str "restart")), (mC (.str "lost")), (mC (.str "join")), (mC (.str "leave")), (mC (.str "tail")), (mC (.str "past"))])) (bz 2) bh)
 (bM (fZ 1)))) fr h) Q E := congrArg (fun m => Wp (m fr h) Q E) eV.eq_1
theorem zR {fr : Fr} {h : Hh} {Q : Fl → Fr → Hh → Prop} {E : aO → Fr → Hh → Prop} : Wp (fG fr h) Q E = Wp ((
 (aN (bj 1 (gA []))
 eV)) fr h) Q E := congrArg (fun m => Wp (m fr h) Q E) fG.eq_1
theorem Ac {fr : Fr} {h : Hh} {Q : Fl → Fr → Hh → Prop} {E : aO → Fr → Hh → Prop} : Wp (jk fr h) Q E = Wp ((
 (aN (bj 4 (bD 1 0 dI (aU []) (az [(aq 2)]) (az [])))
 bT)) fr h) Q E := congrArg (fun m => Wp (m fr h) Q E) jk.eq_1
theorem Ad {fr : Fr} {h : Hh} {Q : Fl → Fr → Hh → Prop} {E : aO → Fr → Hh → Prop} : Wp (jm fr h) Q E = Wp ((
 (aN (bj 3 (aM dw (mC (.int 2)) (cO (bD 2 0 cH (aU []) (az [(aq 2), (mC (.int 3))]) (az [])))))
 jk)) fr h) Q E := congrArg (fun m => Wp (m fr h) Q E) jm.eq_1
theorem Hm {fr : Fr} {h : Hh} {Q : Fl → Fr → Hh → Prop} {E : aO → Fr → Hh → Prop} : Wp (oJ fr h) Q E = Wp ((
 (aN (bj 2 (qX (bD 2 0 bL (aU []) (az [(aq 0), (aq 1)]) (az []))))
 jm)) fr h) Q E := congrArg (fun m => Wp (m fr h) Q E) oJ.eq_1
theorem ye {ds : List D} {h : Hh} {Q : D → Fr → Hh → Prop} {E : aO → Fr → Hh → Prop} : Wp (dI ds h) Q E = Wp (cA 3 fG ds h) Q E := congrArg (fun m => Wp (m ds h) Q E) dI.eq_1
end L
namespace L
open PySem PySem.Spec L2 Pk
def Src (h : Hh) (n : Nat) (C : Int) : Prop := ∃ a b c : Int, h[n]? = some (.nl [.int a, .int b, .int c]) ∧ 0 ≤ b ∧ b < 2 ^ 33 ∧ 0 ≤ c ∧ c ≤ C
theorem log2_lt {i : Int} {k : Nat} (h : i.natAbs < 2 ^ k) (hk : 0 < k) : i.natAbs.log2 < k := by
 by_cases h0 : i.natAbs = 0
 · rw [h0]; simpa using hk
 · exact (Nat.log2_lt h0).mpr h
theorem oM {i j : Int} (h : 0 < j) : Fv i j = true := decide_eq_true h
theorem wY {h : Hh} {n : Nat} {C m : Int} (S : Src h n C) (hC : C ≤ 100000) (hm : 0 < m) (hl : m < 2 ^ 200) :
 ∃ r h', cH [.ref n, .int m] h = .ok (.int r) [] h' ∧ Src h' n (C + 1) ∧ 0 ≤ r ∧ r < m := by
 obtain ⟨a, b, c, e, b0, b1, c0, c1⟩ := S
 have hn : n < h.length := (List.getElem?_eq_some_iff.mp e).1
 have hml : m.natAbs.log2 < 9000 := by
  refine Nat.lt_of_lt_of_le (log2_lt (k := 200) ?_ (by decide)) (by decide)
  omega
 by_cases ha : 0 < a
 · refine ⟨a % m, h.set n (.nl [.int (a / m), .int b, .int c]), ?_, ⟨a / m, b, c, by rw [Wz hn], b0, b1, c0, by omega⟩, Int.emod_nonneg _ (by omega), Int.emod_lt_of_pos _ hm⟩
   simp [cH, cA, ji, iY, iW, iV, startF, aN, fj, M.bind, M.ret, M.opt, aM, cU, cX, aR, mC, eQ, D.its, D.der, e, atI, ixN, cInt, ha, bj, aZ, gj, aq, D.own, eO, Fv, hm, uz, aH, nj, Br, hml, bM, fZ]
 · have z1 : (b + 32452843 * (c + 1)).natAbs < 2 ^ 64 := by omega
   generalize hx : (b + 32452843 * (c + 1)) ^ 3 % 2305843009213693921 = x
   have hx0 : 0 ≤ x := by rw [← hx]; exact Int.emod_nonneg _ (by decide)
   have hx1 : x < 2305843009213693921 := by rw [← hx]; exact Int.emod_lt_of_pos _ (by decide)
   have z2 : (x + 49979687 * (c + 1)).natAbs < 2 ^ 64 := by omega
   have l1 : (c + 1).natAbs.log2 < 64 := log2_lt (by omega) (by decide)
   have l2 : ((32452843 : Int)).natAbs.log2 < 64 := log2_lt (by decide) (by decide)
   have l3 : ((49979687 : Int)).natAbs.log2 < 64 := log2_lt (by decide) (by decide)
   have l4 : ((4096 : Int)).natAbs.log2 < 9000 := Nat.lt_trans (log2_lt (k := 64) (by decide) (by decide)) (by decide)
   have c1' : Bp 32452843 (c + 1) = true := decide_eq_true (by omega)
   have c2' : Bp 49979687 (c + 1) = true := decide_eq_true (by omega)
   have c3' : vh (b + 32452843 * (c + 1)) 3 = true := by
    unfold vh
    rw [decide_eq_true z1]
    rfl
   have c4' : vh (x + 49979687 * (c + 1)) 2 = true := by
    unfold vh
    rw [decide_eq_true z2]
    rfl
   have c5' : Br ((x + 49979687 * (c + 1)) ^ 2 % 2305843009213693951) 4096 = true := by
    unfold Br
    rw [decide_eq_true l4]
    rfl
   refine ⟨((x + 49979687 * (c + 1)) ^ 2 % 2305843009213693951) / 4096 % m, h.set n (.nl [.int a, .int b, .int (c + 1)]), ?_, ⟨a, b, c + 1, by rw [Wz hn], b0, b1, by omega, by omega⟩, Int.emod_nonneg _ (by omega), Int.emod_lt_of_pos _ hm⟩
   have ha' : decide (0 < a) = false := decide_eq_false ha
   have e2 : ∀ v : D, (h.set n v)[n]? = some v := fun v => Wz hn
   simp [cH, cA, ji, iY, iW, iV, startF, aN, fj, M.bind, M.ret, M.opt, aM, cU, cX, aR, mC, eQ, D.its, D.der, e, atI, ixN, cInt, ha', bj, aZ, gj, aq, D.own, eO, uz, aH, nj, bM, fZ, cO, D.fz, dw, e2, c1', c2', c3', c4', c5', oM, hm, hx]
end L
namespace L
open PySem PySem.Spec L2 Pk
theorem Src.up {h : Hh} {n : Nat} {C C' : Int} (S : Src h n C) (hC : C ≤ C') : Src h n C' := by
 obtain ⟨a, b, c, q1, q2, q3, q4, q5⟩ := S
 exact ⟨a, b, c, q1, q2, q3, q4, by omega⟩
theorem Ku {h : Hh} {l : List Int} {i : Nat} {t : Int} {j : Int} (hj : j = (i : Int)) (e : l[i]? = some t) : eQ h (.fl (l.map .int)) (.int j) = some (.int t) := by
 subst hj
 have hl := (List.getElem?_eq_some_iff.mp e).1
 show atI (l.map D.int) i = _
 unfold atI
 have : ixN (l.map D.int).length (i : Int) = some i := by
  unfold ixN
  rw [WR, if_pos (by omega), if_pos (by omega)]
  congr 1
 rw [this]
 simp [e]
theorem Ae {h : Hh} {ns : List Int} {k : Nat} (hk : k ≤ 62) : ∃ a b, bL [.kl (ns.map .int), .int k] h = .ok (.nl [.int a, .int b, .int 0]) [] h ∧ 0 ≤ b ∧ b < 2 ^ 33 := by
 have p18 : vh 10 18 = true := by decide
 have b3 : 3 ≤ big := by decide
 have c1 : Bp 15485863 (k : Int) = true := by
  have l2 : ((15485863 : Int)).natAbs.log2 < 64 := log2_lt (by decide) (by decide)
  have l1 : ((k : Int)).natAbs.log2 < 64 := log2_lt (by omega) (by decide)
  exact decide_eq_true (by omega)
 have main : ∀ v : Int, (if (k : Int) < ns.length then eQ h (.kl (ns.map .int)) (.int k) = some (.int v) else v = 0) → ∃ a b, bL [.kl (ns.map .int), .int k] h = .ok (.nl [.int a, .int b, .int 0]) [] h ∧ 0 ≤ b ∧ b < 2 ^ 33 := fun v hv => by
  have hb0 : 0 ≤ v % 2147483629 := Int.emod_nonneg _ (by decide)
  have hb1 : v % 2147483629 < 2147483629 := Int.emod_lt_of_pos _ (by decide)
  refine ⟨if (1000000000000000000 : Int) ≤ (if v < 0 then -v else v) then (if v < 0 then -v else v) else 0, v % 2147483629 + 15485863 * (k : Int) + 7919, ?_, by omega, by omega⟩
  by_cases hl : (k : Int) < ns.length
  · rw [if_pos hl] at hv
    have hl' : k < ns.length := by omega
    by_cases hbig : (1000000000000000000 : Int) ≤ (if v < 0 then -v else v)
    · simp [bL, cA, d9, dW, startF, aN, bj, Ah, aM, aq, D.own, M.bind, M.ret, M.opt, aZ, iQ, aR, D.its, D.der, cInt, hl, hl', cU, cX, hv, mC, su, eO, p18, hbig, bM, gA, az, cO, dw, D.fz, gj, oM, c1, b3]
    · simp [bL, cA, d9, dW, startF, aN, bj, Ah, aM, aq, D.own, M.bind, M.ret, M.opt, aZ, iQ, aR, D.its, D.der, cInt, hl, hl', cU, cX, hv, mC, su, eO, p18, hbig, bM, gA, az, cO, dw, D.fz, gj, oM, c1, b3]
  · rw [if_neg hl] at hv
    subst hv
    have hl' : ¬ k < ns.length := by omega
    simp [bL, cA, d9, dW, startF, aN, bj, Ah, aM, aq, D.own, M.bind, M.ret, M.opt, aZ, iQ, aR, D.its, D.der, cInt, hl, hl', mC, su, eO, p18, bM, gA, az, cO, dw, D.fz, gj, oM, c1, b3]
 by_cases hl : (k : Int) < ns.length
 · have e : ns[k]? = some (ns[k]'(by omega)) := Wx _
   exact main _ (by rw [if_pos hl]; exact Ku (h := h) rfl e)
 · exact main 0 (by rw [if_neg hl])
end L
namespace L
open PySem PySem.Spec L2 Pk
def six : List Str := ["restart", "lost", "join", "leave", "tail", "past"]
theorem Oi : six.Nodup := by decide +kernel
def wS (p : Str → Bool) : List Str := six.filter p
abbrev Vw (size : Int) (p : Str → Bool) : List D := [.int size, .tup ((wS p).map .str)]
end L
namespace L
open PySem PySem.Spec L2 Pk
theorem CT {h : Hh} {n : Nat} {C : Int} (S : Src h n C) (hC : C ≤ 90000) : ∃ p h', dI [.ref n] h = .ok (.nl ((wS p).map .str)) [] h' ∧ Src h' n (C + 6) := by
 have key : ∀ (suf pre : List Str) (C : Int) (h : Hh) (p : Str → Bool) (x2 : Option D), (pre ++ suf).Nodup → pre.length + suf.length ≤ 100 → Src h n C → C + suf.length ≤ 95000 →
  ∃ (p' : Str → Bool) (h' : Hh), (∀ w ∈ pre, p' w = p w) ∧ Src h' n (C + suf.length) ∧ ∃ y2, cY (bz 2) bh (suf.map .str) [some (.ref n), some (.nl ((pre.filter p).map .str)), x2] h = .ok .nx [some (.ref n), some (.nl (((pre ++ suf).filter p').map .str)), y2] h' := by
  intro suf
  induction suf with
  | nil => intro pre C h p x2 hn hl S hC; exact ⟨p, h, fun _ _ => rfl, by simpa using S, x2, by rw [WN]; rfl⟩
  | cons w suf ih =>
    intro pre C h p x2 hn hl S hC
    rw [W0] at hC hl
    obtain ⟨r, h1, e1, S1, r0, r1⟩ := wY (m := 2) S (by omega) (by decide) (by decide)
    have hw : w ∉ pre := fun z => by
     rw [List.nodup_append] at hn
     exact hn.2.2 w z w WK rfl
    have hfl : (pre.filter p).length < 100000 := by have := List.length_filter_le p pre; omega
    obtain ⟨p', h', hp, S', y2, e2⟩ := ih (pre ++ [w]) (C + 1) h1 (fun v => if v = w then decide (r = 1) else p v) (some (.str w)) (by rw [List.append_assoc]; exact hn) (by rw [WY, List.length_singleton]; omega) S1 (by omega)
    have hf : (pre ++ [w]).filter (fun v => if v = w then decide (r = 1) else p v) = pre.filter p ++ (if r = 1 then [w] else []) := by
     rw [List.filter_append, List.filter_congr (q := p) fun v hv => by rw [if_neg (fun z : v = w => hw (by rw [← z]; exact hv))]]
     congr 1
     by_cases hr : r = 1 <;> simp [hr]
    rw [hf] at e2
    refine ⟨p', h', fun v hv => ?_, by rw [W0, show C + ((suf.length + 1 : Nat) : Int) = C + 1 + (suf.length : Int) by omega]; exact S', y2, ?_⟩
    · rw [hp v (List.mem_append_left _ hv), if_neg (fun z : v = w => hw (by rw [← z]; exact hv))]
    · rw [List.append_assoc, List.singleton_append] at e2
      rw [← e2]
      have one : cY (bz 2) bh (.str w :: suf.map .str) [some (.ref n), some (.nl ((pre.filter p).map .str)), x2] h = cY (bz 2) bh (suf.map .str) [some (.ref n), some (.nl ((pre.filter p ++ if r = 1 then [w] else []).map .str)), some (.str w)] h1 := by
       rw [cY]
       have et : bz 2 (.str w) [some (.ref n), some (.nl ((pre.filter p).map .str)), x2] h = .ok () [some (.ref n), some (.nl ((pre.filter p).map .str)), some (.str w)] h := rfl
       have eb : bh [some (.ref n), some (.nl ((pre.filter p).map .str)), some (.str w)] h = .ok .nx [some (.ref n), some (.nl ((pre.filter p ++ if r = 1 then [w] else []).map .str)), some (.str w)] h1 := by
        apply Wp.eq
        by_cases hr : r = 1
        · simp only [↓lH, ↓Ez, ↓yz, ↓CN, ↓v5, ↓oh, ↓zL, List.getElem?_cons_zero, List.set_cons_zero, W0, mQ, v7, G8, ↓v4, ↓nZ, List.length_nil, Nat.zero_add, Nat.reduceAdd, v8, WN, e1, hr, ↓lC, zN, Fd, decide_true, jJ, QJ, ↓JZ, ↓J8, ↓N5, List.getElem?_cons_succ, List.set_cons_succ, Hf, mU, Kc, Kg, WR, Fe, hfl, ↓reduceIte, List.map_append, WP, List.map_nil, and_self]
        · simp only [↓lH, ↓Ez, ↓yz, ↓CN, ↓v5, ↓oh, ↓zL, List.getElem?_cons_zero, List.set_cons_zero, W0, mQ, v7, G8, ↓v4, ↓nZ, List.length_nil, Nat.zero_add, Nat.reduceAdd, v8, WN, e1, ↓lC, zN, Fd, hr, decide_false, jJ, ↓Ey, ↓reduceIte, and_self]
       dsimp only
       rw [et]
       dsimp only
       rw [eb]
      exact one
 obtain ⟨p', h', _, S', y2, e⟩ := key six [] C h (fun _ => false) none (by simpa using Oi) (by decide) S (by show C + 6 ≤ 95000; omega)
 refine ⟨p', h', ?_, S'⟩
 have e' : cY (bz 2) bh [.str "restart", .str "lost", .str "join", .str "leave", .str "tail", .str "past"] [some (.ref n), some (.nl []), none] h = .ok .nx [some (.ref n), some (.nl ((wS p').map .str)), y2] h' := e
 apply Wp.eq
 simp only [↓ye, ↓Bh, startF, WP, List.map_nil, W0, List.length_nil, Nat.zero_add, Nat.reduceSub, List.replicate_succ, List.replicate_zero, List.cons_append, List.nil_append, mU, ↓zR, ↓zM, ↓Fb, ↓NZ, ↓nZ, Fe, Nat.reduceLeDiff, List.set_cons_succ, List.set_cons_zero, zK, ↓uZ, ↓Bg, ↓Pq, ↓NT, ↓oh, ↓v4, Nat.reduceAdd, Kd, jJ, e', ↓lC, ↓EY, ↓JW, List.getElem?_cons_succ, List.getElem?_cons_zero, mQ, Ew, and_self]
end L
namespace L
open PySem PySem.Spec L2 Pk
theorem oN {α β : Type} {f g : α → β} : ∀ {l : List α}, l.map f = l.map g → ∀ a ∈ l, f a = g a
 | x :: l, e, a, h => by
   rw [WP, WP] at e
   obtain ⟨e1, e2⟩ := List.cons.inj e
   rcases List.mem_cons.mp h with rfl | h
   · exact e1
   · exact oN e2 a h
def jo : List Str → List (List Str)
 | [] => [[]]
 | w :: l => (jo l).flatMap fun r => [r, w :: r]
theorem jD (p : Str → Bool) : ∀ l : List Str, l.filter p ∈ jo l
 | [] => List.mem_singleton.mpr rfl
 | w :: l => List.mem_flatMap.mpr ⟨_, jD p l, by
   rw [List.filter_cons]
   split <;> simp⟩
def u9 : R Fl → Option (Option D × Option D × Nat)
 | .ok .nx (a :: b :: r) _ => some (a, b, r.length)
 | _ => none
section
variable {h : Hh} {x0 x1 x2 x5 x6 x7 x8 x9 : Option D}
theorem Kv : (jo six).map (fun ws => u9 (bT [x0, x1, x2, some (.int 2), some (.nl (ws.map .str)), x5, x6, x7, x8, x9] h)) = (jo six).map fun _ => some (x0, x1, 8) := by kernel_rfl
theorem Kw : (jo six).map (fun ws => u9 (bT [x0, x1, x2, some (.int 3), some (.nl (ws.map .str)), x5, x6, x7, x8, x9] h)) = (jo six).map fun _ => some (x0, x1, 8) := by kernel_rfl
theorem Ky : (jo six).map (fun ws => u9 (bT [x0, x1, x2, some (.int 4), some (.nl (ws.map .str)), x5, x6, x7, x8, x9] h)) = (jo six).map fun _ => some (x0, x1, 8) := by kernel_rfl
theorem Oj {n : Int} (h2 : 2 ≤ n) (h4 : n ≤ 4) (p : Str → Bool) : ∃ fr h', bT [x0, x1, x2, some (.int n), some (.nl ((wS p).map .str)), x5, x6, x7, x8, x9] h = .ok .nx (x0 :: x1 :: fr) h' ∧ fr.length = 8 := by
 have e : u9 (bT [x0, x1, x2, some (.int n), some (.nl ((wS p).map .str)), x5, x6, x7, x8, x9] h) = some (x0, x1, 8) := by
  have : n = 2 ∨ n = 3 ∨ n = 4 := by omega
  rcases this with rfl | rfl | rfl
  · exact oN Kv _ (jD p six)
  · exact oN Kw _ (jD p six)
  · exact oN Ky _ (jD p six)
 generalize bT [x0, x1, x2, some (.int n), some (.nl ((wS p).map .str)), x5, x6, x7, x8, x9] h = r at *
 unfold u9 at e
 split at e
 · have e := Option.some.inj e
   have e1 := congrArg (fun q => q.1) e
   have e2 := congrArg (fun q => q.2.1) e
   have e3 := congrArg (fun q => q.2.2) e
   dsimp only at e1 e2 e3
   subst e1 e2
   exact ⟨_, _, rfl, e3⟩
 · cases e
end
end L
namespace L
open PySem PySem.Spec L2 Pk
theorem Ol {ns : List Int} {k : Nat} (hk : k ≤ 62) (h : Hh) (x2 x3 x4 x5 x6 x7 x8 x9 : Option D) : Wp (oJ [some (.kl (ns.map .int)), some (.int k), x2, x3, x4, x5, x6, x7, x8, x9] h) (fun f fr _ => (f = .nx ∨ f = .ct) ∧ ∃ x1 ys, fr = some (.kl (ns.map .int)) :: x1 :: ys ∧ ys.length = 10 - 2) oV := by
 obtain ⟨a, b, e1, b0, b1⟩ := Ae (h := h) (ns := ns) hk
 have S1 : Src (h ++ [.nl [.int a, .int b, .int 0]]) h.length 0 := ⟨a, b, 0, by rw [List.getElem?_append_right (Nat.le_refl _), Nat.sub_self]; rfl, b0, b1, by decide, by decide⟩
 obtain ⟨r, h2, e2, S2, r0, r1⟩ := wY (m := 3) S1 (by decide) (by decide) (by decide)
 obtain ⟨p, h3, e3, S3⟩ := CT S2 (by decide)
 obtain ⟨fr, h4, e4, l4⟩ := Oj (h := h3) (x0 := some (.kl (ns.map .int))) (x1 := some (.int k)) (x2 := some (.ref h.length)) (x5 := x5) (x6 := x6) (x7 := x7) (x8 := x8) (x9 := x9) (n := 2 + r) (by omega) (by omega) p
 have hB : ∃ B, B = bT := ⟨_, rfl⟩
 obtain ⟨B, hB⟩ := hB
 rw [← hB] at e4
 generalize (wS p).map D.str = WS at *
 simp only [↓Hm, ↓zM, ↓Fb, ↓J9, ↓v5, ↓oh, ↓zL, List.getElem?_cons_zero, List.set_cons_zero, W0, Nat.reduceSub, mQ, N6, G8, List.getElem?_cons_succ, List.set_cons_succ, Ka, ↓nZ, List.length_nil, Nat.zero_add, Nat.reduceAdd, v8, WN, e1, ↓lC, N7, mU, zK, ↓Ad, ↓yz, ↓v4, ↓CN, v7, e2, zN, G9, jJ, ↓Ac, e3, ← hB, e4, reduceCtorEq, true_and]
 exact ⟨.inl trivial, _, _, rfl, l4⟩
theorem plain (ns : List Int) (hl : ns.length ≤ 63) : ∃ fr h, CQ [.kl (ns.map Pk.D.int)] [] = .ok (.bl true) fr h := by
 unfold CQ CP
 refine Kr (by decide) (by decide) (by decide) fun k xs h hk hx => ?_
 match xs, hx with
 | [x2, x3, x4, x5, x6, x7, x8, x9], _ => exact Ol (by omega) h x2 x3 x4 x5 x6 x7 x8 x9
end L
namespace L
open PySem PySem.Spec PyProof.Rows L2
instance : PF (PySem.Challenge.rw_countrestarts_k16_subsets).prog := ⟨by kernel_rfl, by kernel_rfl⟩
theorem facts {P : Program} [PF P] {w : World} {K : PySem.W.Frag} {h : Heap} {mg : Str → Option Value} {f : Addr} (X : K.In h) (G : h.Ns mainGlobals mg) (hfa : mg ("law" : Str) = some (.ref f)) (c : aJ K) :
 ∃ fd : FuncData, (∀ (s : Shared) (v : Value), BindsTo s fd ⟨[v], []⟩ [("_law_script", v)]) ∧ ∀ base : Heap, K.In base → base.Ns mainGlobals mg → FnOk P w K mg base (L2.CX P w) 14 f fd ["_law_script"] (Pk.spF K (T K) 1 CQ) := by
 obtain ⟨fd, F⟩ := c.def_ (fn.length - 1) (d := HW) rfl
 have e := hfa.symm.trans (He.glo_ok X G (c.fact (fa.length - 1) (f := .he (.glo "law")) rfl))
 cases e
 have b := FunD.bindsA (ps := ["_law_script"]) F fun _ _ _ _ _ _ us hl => match us, hl with | [_], _ => rfl
 exact ⟨fd, fun s v => b s [v] rfl, fun base Y Gb => Pk.fn_sim F Mw (Hl c Y Gb)⟩
end L
open PySem PySem.W PySem.Calls PyProof.Rows
theorem PySem.Challenge.cw_countrestarts_k16_subsets_holds : PySem.Challenge.rw_countrestarts_k16_subsets.Holds := by
 w_on; o_law
 refine HandSHeadRun.head_any (r := OpenLaw.row PySem.Challenge.rw_countrestarts_k16_subsets) (q := L.vw) (H := L.hk) (ob := L.ob) (M := 20000) (loose := L.names) (d := HandSHeadRun.topDef (OpenLaw.row PySem.Challenge.rw_countrestarts_k16_subsets).prog 17) (kwd := []) L.ob_eq
  (by kernel_rfl) (fun s => by kernel_rfl) L.run (by kernel_rfl) (by kernel_rfl) (by kernel_rfl) (by rfl) (by first | assumption | decide +kernel) (by decide +kernel) ⟨rfl, rfl, rfl, rfl, rfl, by decide +kernel⟩ ?hw ?hc
 case hw => w_witness2
 case hc =>
  refine L2.walk_ofE (l := PySem.Challenge.rw_countrestarts_k16_subsets) (n := 63) (k := 14) (x := "_law_script") (CX := L2.CX0) rfl (by decide) (by kernel_rfl) ⟨rfl, by decide, by decide⟩ ?F (fun _ _ _ _ z => z)
  intro w mg fa h Y G hmg0
  obtain ⟨K, KX, c⟩ := Y
  have hmg : mg ("law" : PySem.Str) = some (.ref fa) := by
   have e : (HandSHeadRun.topDef (OpenLaw.row PySem.Challenge.rw_countrestarts_k16_subsets).prog 17).name = ("law" : PySem.Str) := by kernel_rfl
   rw [← e]
   exact hmg0
  obtain ⟨fd, hb, hF⟩ := L.facts (P := (PySem.Challenge.rw_countrestarts_k16_subsets).prog) (w := w) KX G hmg c
  exact ⟨K, fd, _, KX, hb, fun H a ns hl _ hS => (let ⟨fr, h, e⟩ := L.plain ns hl; Pk.law_sp hS e), fun base Y Gb => Pk.fn_cx0 (hF base Y Gb)⟩
