import PyProof.Rows.All
import Wide.All
import OpenK.AllK
import Wide.FinOn
import HandS.ForMost
import HandS.Exc
import HandS.IsInst
import HandS.Slots
import HandS.Wide
import HandS.TupAny
import HandS.Conv
import HandS.Deep
import HandS.ExcCtx
import HandS.Property
import HandS.MakeKwOnly
import HandS.SortInts
import HandS.RaiseMore
import HandS.Style
import HandS.Zip
import HandS.CallSlots
import HandS.Defaults
import HandS.HeadHook1
import HandS.HeadHook2
import HandS.HeadHook3
import HandS.HeadHook4
import HandS.HeadEnd
import HandS.ExcIs
import HandS.ExcField
import KE.GoesMore
import PyProof.EnumMake
import PyProof.EnumFor
import HandS.Iter
import HandS.Star
import KE.KExcSuper
import KE.KSuper
import HandS.ExcInit
import KE.KStateDown
import HandS.Head0
import HandS.Head1
import HandS.Head2
import HandS.MakeKw
import PySem.Challenge.RW_countrestarts_k52_solutions
import KE.KExcIs
import HandS.TryOnly
import HandS.TryMany
import HandS.ClsMeth
import HandS.OwnEq
import PyProof.CallFns
import HandS.FStr
import PyProof.Rows.StrWeight2
import PyProof.Rows.StrSplitJoin
import PyProof.Rows.StrFin3
import HandS.ExcOwn
import KE.GoesSet
import HandS.Strs
import KE.KTupSum
import PyProof.Rows.RuleN_abs
import KE.KOpsOwn
import KE.KMethU
import HandS.Dict
import HandS.Flow
import HandS.MethStar
import HandS.GenList
import HandS.GenYield
import KE.GoesZip
import KE.GoesEnum
import HandS.GenCall
import KE.SortData
import KE.SortLaws
import KE.KDictList
import HandS.Text
import HandS.StrMore
import KE.KxField
import PyProof.StrBlock2
import HandS.ReplaceLit
import HandS.ReplaceDef
import HandS.Rev
import PyProof.TupleIter
import PyProof.WalksMore
import PyProof.CollectIter
import PyProof.RulesMatch
import HandS.Finally
import HandS.SuiteRaise
import HandS.RaiseFrom
import HandS.HotCalls
import HandS.SetKeys
import PyProof.DictMoreH
set_option Elab.async false
set_option linter.all false
set_option maxRecDepth 100000
set_option maxHeartbeats 40000000
set_option autoImplicit false
open List renaming set_cons_zero → aiG, getElem?_cons_zero → aiH, set_cons_succ → aiI, range → aiJ, getElem?_cons_succ → aiK, length_cons → aiL, length_nil → aiM, map_cons → aiN, getElem?_eq_getElem → aiO, length_map → aiP, append_nil → aiQ, map_nil → aiR, length_range → aiS, length_append → aiT, lookup → aiU, getElem?_set_ne → aiV, getElem?_set_self → aiW, mem_cons_self → aiX, getD_eq_getElem?_getD → aiY, length_set → aiZ, replicate_zero → ai0, mem_of_getElem? → ai1, mem_cons_of_mem → ai2, getElem?_map → ai3, map_map → ai4, replicate_succ → ai5, cons_append → ai6, length_singleton → ai7, append_assoc → ai8, not_mem_nil → ai9, getElem_mem → aja, nil_append → ajb, getElem?_append_right → ajc, map_append → ajd, map_congr_left → aje, getElem?_append_left → ajf
namespace Pk
open PySem PySem.Spec L2
inductive D where
 | non | bl (b : Bool) | int (i : Int) | str (s : Str)
 | tup (l : List D) | fl (l : List D) | nl (l : List D) | kl (l : List D)
 | obj (c : Nat) (fs : List D) | no (c : Nat) (fs : List D) | ref (n : Nat) | cls (c : Nat) | ty (t : String)
 | sl (lo hi : Option Int)
 /-- a tuple that the heap knows (it may be a key) -/
 | tp (l : List D)
 /-- a dict with tuples for keys, in a cell: its keys, its values -/
 | dc (ks : List (List (Sum Int Str))) (ds : List D)
 /-- a dict with ints and texts for keys, in a cell -/
 | dk (ks : List (Sum Int Str)) (ds : List D)
 /-- an instance with slots, in a cell: its class, the cell of its dict, its slots -/
 | so (c m : Nat) (fs : List D)
 /-- .. its dict, before the first store and behind it -/
 | hid (b : Bool)
 deriving Inhabited
def D.own : D → Bool
 | .nl _ => true
 | .no _ _ => true
 | _ => false
def D.fz : D → D
 | .nl l => .fl l
 | .no c fs => .obj c fs
 | d => d
abbrev Fr := List (Option D)
abbrev Hh := List D
structure Tb where
 cad : Nat → Addr
 fld : Nat → List Str
structure Wd where
 F : Hp
 I : List Addr
def Wd.le (w w' : Wd) : Prop := (∀ a o, w.F a = some o → w'.F a = some o) ∧ ∃ r, w'.I = w.I ++ r
theorem Wd.le_refl (w : Wd) : w.le w := ⟨fun _ _ h => h, [], by simp⟩
theorem Wd.le_trans {a b c : Wd} (x : a.le b) (y : b.le c) : a.le c :=
 ⟨fun p o h => y.1 p o (x.1 p o h), by
  obtain ⟨r, e⟩ := x.2
  obtain ⟨q, f⟩ := y.2
  exact ⟨r ++ q, by rw [f, e, ai8]⟩⟩
theorem Wd.le_at {w w' : Wd} (x : w.le w') {n : Nat} {a : Addr} (h : w.I[n]? = some a) : w'.I[n]? = some a := by
 obtain ⟨r, e⟩ := x.2
 rw [e, ajf (List.getElem?_eq_some_iff.mp h).1]
 exact h
theorem Wd.le_mem {w w' : Wd} (x : w.le w') {a : Addr} (h : a ∈ w.I) : a ∈ w'.I := by
 obtain ⟨r, e⟩ := x.2
 rw [e]
 exact List.mem_append_left _ h
theorem ZG {F F' : Hp} (x : ∀ a o, F a = some o → F' a = some o) {a : Addr} {u : HO} (h : Rd F a u) : Rd F' a u := by
 rcases h with h | ⟨o, h⟩
 · exact .inl (x _ _ h)
 · exact .inr ⟨o, x _ _ h⟩
theorem fL {K : PySem.W.Frag} {F F' : Hp} (x : ∀ a o, F a = some o → F' a = some o) {a : Addr} {vs : List V} (h : SqL K F a vs) : SqL K F' a vs := by
 rcases h with h | h
 · exact .inl (ZG x h)
 · exact .inr h
theorem dI {K : PySem.W.Frag} {F F' : Hp} (x : ∀ a o, F a = some o → F' a = some o) {a : Addr} {vs : List V} (h : SqT K F a vs) : SqT K F' a vs := by
 rcases h with h | h
 · exact .inl (ZG x h)
 · exact .inr h
def SlO (a : Addr) (lo hi : Option Int) (h : Heap) : Prop := ∃ vl vu, h.IsSliceOf a vl vu .none ∧ IsPart vl lo ∧ IsPart vu hi
mutual
inductive bA (K : PySem.W.Frag) (T : Tb) (w : Wd) : V → D → Prop where
 | non : bA K T w .non .non
 | bl (b : Bool) : bA K T w (.bl b) (.bl b)
 | int (i : Int) : bA K T w (.int i) (.int i)
 | str (s : Str) : bA K T w (.str s) (.str s)
 | tup {a : Addr} {vs : List V} {ds : List D} : SqT K w.F a vs → au K T w vs ds → bA K T w (.ref a) (.tup ds)
 | fl {a : Addr} {vs : List V} {ds : List D} : w.F a = some (.lst vs) → au K T w vs ds → bA K T w (.ref a) (.fl ds)
 | kl {a : Addr} {vs : List V} {ds : List D} : SqL K w.F a vs → au K T w vs ds → bA K T w (.ref a) (.kl ds)
 | obj {a dx : Addr} {c : Nat} {vs : List V} {ds : List D} : w.F a = some (.ins (T.cad c) dx ((T.fld c).zip vs)) → au K T w vs ds → bA K T w (.ref a) (.obj c ds)
 | ref {a : Addr} {n : Nat} : w.I[n]? = some a → bA K T w (.ref a) (.ref n)
 | cls (c : Nat) : bA K T w (.ref (T.cad c)) (.cls c)
 | ty (t : String) : bA K T w (.ty t) (.ty t)
 | sl {a : Addr} {lo hi : Option Int} : w.F a = some (.ext (SlO a lo hi)) → bA K T w (.ref a) (.sl lo hi)
 | tp {a : Addr} {vs : List V} {ds : List D} : w.F a = some (.tup vs) → au K T w vs ds → bA K T w (.ref a) (.tp ds)
inductive au (K : PySem.W.Frag) (T : Tb) (w : Wd) : List V → List D → Prop where
 | nil : au K T w [] []
 | cons {v : V} {d : D} {vs : List V} {ds : List D} : bA K T w v d → au K T w vs ds → au K T w (v :: vs) (d :: ds)
end
section
variable {K : PySem.W.Frag} {T : Tb} {w w' : Wd}
mutual
theorem bA.mono (x : w.le w') : ∀ {v : V} {d : D}, bA K T w v d → bA K T w' v d
 | _, _, .non => .non
 | _, _, .bl b => .bl b
 | _, _, .int i => .int i
 | _, _, .str s => .str s
 | _, _, .tup h t => .tup (dI x.1 h) (au.mono x t)
 | _, _, .fl h t => .fl (x.1 _ _ h) (au.mono x t)
 | _, _, .kl h t => .kl (fL x.1 h) (au.mono x t)
 | _, _, .obj h t => .obj (x.1 _ _ h) (au.mono x t)
 | _, _, .ref h => .ref (Wd.le_at x h)
 | _, _, .cls c => .cls c
 | _, _, .ty t => .ty t
 | _, _, .sl h => .sl (x.1 _ _ h)
 | _, _, .tp h t => .tp (x.1 _ _ h) (au.mono x t)
theorem au.mono (x : w.le w') : ∀ {vs : List V} {ds : List D}, au K T w vs ds → au K T w' vs ds
 | _, _, .nil => .nil
 | _, _, .cons h t => .cons (bA.mono x h) (au.mono x t)
end
theorem au.length : ∀ {vs : List V} {ds : List D}, au K T w vs ds → vs.length = ds.length
 | _, _, .nil => rfl
 | _, _, .cons _ t => congrArg Nat.succ (au.length t)
theorem au.get : ∀ {vs : List V} {ds : List D} {i : Nat} {d : D}, au K T w vs ds → ds[i]? = some d → ∃ v, vs[i]? = some v ∧ bA K T w v d
 | _, _, _, _, .nil, e => by simp at e
 | _, _, 0, _, .cons h _, e => by
   simp at e
   subst e
   exact ⟨_, rfl, h⟩
 | _, _, i + 1, d, .cons _ t, e => by
   obtain ⟨v, h1, h2⟩ := au.get (i := i) (d := d) t (by simpa using e)
   exact ⟨v, by simpa using h1, h2⟩
theorem au.append : ∀ {vs us : List V} {ds es : List D}, au K T w vs ds → au K T w us es → au K T w (vs ++ us) (ds ++ es)
 | _, _, _, _, .nil, t => t
 | _, _, _, _, .cons h r, t => .cons h (au.append r t)
theorem au.drop : ∀ {vs : List V} {ds : List D} (n : Nat), au K T w vs ds → au K T w (vs.drop n) (ds.drop n)
 | _, _, 0, h => h
 | _, _, _ + 1, .nil => .nil
 | _, _, n + 1, .cons _ t => au.drop n t
theorem au.take : ∀ {vs : List V} {ds : List D} (n : Nat), au K T w vs ds → au K T w (vs.take n) (ds.take n)
 | _, _, 0, _ => .nil
 | _, _, _ + 1, .nil => .nil
 | _, _, n + 1, .cons h t => .cons h (au.take n t)
theorem au.set : ∀ {vs : List V} {ds : List D} {v : V} {d : D} (n : Nat), au K T w vs ds → bA K T w v d → au K T w (vs.set n v) (ds.set n d)
 | _, _, _, _, _, .nil, _ => .nil
 | _, _, _, _, 0, .cons _ t, h => .cons h t
 | _, _, _, _, n + 1, .cons h t, k => .cons h (au.set n t k)
theorem au.ints : ∀ {vs : List V} {is : List Int}, au K T w vs (is.map D.int) → vs = is.map V.int
 | _, [], .nil => rfl
 | _, i :: is, .cons h t => by
   cases h
   rw [au.ints t]
   rfl
end
structure Bs where
 w0 : Wd
 H0 : Hp
 P : List (Addr × HO)
 /-- where an __init__'s own instance is: in slot 0, as long as that holds an object of the body's own -/
 me : Option Addr
abbrev Bs.of (w : Wd) (H : Hp) : Bs := ⟨w, H, [], none⟩
structure Own (B : Bs) (w : Wd) (p : Addr) : Prop where
 f : w.F p = none
 i : p ∉ w.I
 e : B.H0 p = none
 p : ∀ q ∈ B.P, q.1 ≠ p
inductive pW (K : PySem.W.Frag) (T : Tb) (w : Wd) : HO → D → Prop where
 | lst {vs : List V} {ds : List D} : au K T w vs ds → pW K T w (.lst vs) (.nl ds)
 | obj {dx : Addr} {c : Nat} {vs : List V} {ds : List D} : au K T w vs ds → pW K T w (.ins (T.cad c) dx ((T.fld c).zip vs)) (.no c ds)
theorem pW.own {K : PySem.W.Frag} {T : Tb} {w : Wd} {o : HO} {d : D} (x : pW K T w o d) : d.own = true := by
 cases x <;> rfl
theorem pW.mono {K : PySem.W.Frag} {T : Tb} {w w' : Wd} {o : HO} {d : D} (l : w.le w') (x : pW K T w o d) : pW K T w' o d := by
 cases x with
 | lst r => exact .lst (r.mono l)
 | obj r => exact .obj (r.mono l)
theorem pW.fz {K : PySem.W.Frag} {T : Tb} {w w' : Wd} {o : HO} {d : D} {p : Addr} (l : w.le w') (e : w'.F p = some o) (x : pW K T w o d) : bA K T w' (.ref p) d.fz := by
 cases x with
 | lst r => exact .fl e (r.mono l)
 | obj r => exact .obj e (r.mono l)
theorem Dj {K : PySem.W.Frag} {T : Tb} {w : Wd} {v : V} {d : D} (r : bA K T w v d) : d.own = false := by
 cases r <;> rfl
theorem Z9 {K : PySem.W.Frag} {T : Tb} {w : Wd} {v : V} {d : D} (r : bA K T w v d) : d.fz = d := by
 cases r <;> rfl
theorem t8 {K : PySem.W.Frag} {T : Tb} {w : Wd} {v : V} {d : D} (o : d.own = true) (r : bA K T w v d) : False := by
 rw [Dj r] at o
 cases o
theorem VN (d : D) : d.fz.own = false := by
 cases d <;> rfl
inductive HH (K : PySem.W.Frag) (T : Tb) (B : Bs) (w : Wd) (H : Hp) : Option V → Option D → Prop where
 | none {v : Option V} : HH K T B w H v none
 | val {v : V} {d : D} : bA K T w v d → HH K T B w H (some v) (some d)
 | own {p : Addr} {o : HO} {d : D} : Own B w p → H p = some o → pW K T w o d → HH K T B w H (some (.ref p)) (some d)
inductive lV (K : PySem.W.Frag) (T : Tb) (w : Wd) : List (Option V) → List D → Prop where
 | nil : lV K T w [] []
 | hole {vs : List (Option V)} {ds : List D} : lV K T w vs ds → lV K T w (none :: vs) (.hid false :: ds)
 | cons {v : V} {d : D} {vs : List (Option V)} {ds : List D} : bA K T w v d → lV K T w vs ds → lV K T w (some v :: vs) (d :: ds)
section
variable {K : PySem.W.Frag} {T : Tb} {w w' : Wd}
theorem lV.mono (l : w.le w') : ∀ {vs : List (Option V)} {ds : List D}, lV K T w vs ds → lV K T w' vs ds
 | _, _, .nil => .nil
 | _, _, .hole t => .hole (t.mono l)
 | _, _, .cons r t => .cons (r.mono l) (t.mono l)
theorem lV.length : ∀ {vs : List (Option V)} {ds : List D}, lV K T w vs ds → vs.length = ds.length
 | _, _, .nil => rfl
 | _, _, .hole t => congrArg Nat.succ t.length
 | _, _, .cons _ t => congrArg Nat.succ t.length
def D.isHid : D → Bool
 | .hid _ => true
 | _ => false
theorem lV.get : ∀ {vs : List (Option V)} {ds : List D} {i : Nat} {d : D}, lV K T w vs ds → ds[i]? = some d → d.isHid = false → ∃ v, vs[i]? = some (some v) ∧ bA K T w v d
 | _, _, _, _, .nil, e, _ => by simp at e
 | _, _, 0, _, .hole _, e, hd => by
   simp at e
   subst e
   cases hd
 | _, _, 0, _, .cons r _, e, _ => by
   simp at e
   subst e
   exact ⟨_, rfl, r⟩
 | _, _, i + 1, _, .hole t, e, hd => t.get (i := i) (by simpa using e) hd
 | _, _, i + 1, _, .cons _ t, e, hd => t.get (i := i) (by simpa using e) hd
theorem lV.append : ∀ {vs us : List (Option V)} {ds es : List D}, lV K T w vs ds → lV K T w us es → lV K T w (vs ++ us) (ds ++ es)
 | _, _, _, _, .nil, t => t
 | _, _, _, _, .hole r, t => .hole (r.append t)
 | _, _, _, _, .cons h r, t => .cons h (r.append t)
theorem lV.set : ∀ {vs : List (Option V)} {ds : List D} {v : V} {d : D} (n : Nat), lV K T w vs ds → bA K T w v d → lV K T w (vs.set n (some v)) (ds.set n d)
 | _, _, _, _, _, .nil, _ => .nil
 | _, _, _, _, 0, .hole t, h => .cons h t
 | _, _, _, _, 0, .cons _ t, h => .cons h t
 | _, _, _, _, n + 1, .hole t, k => .hole (t.set n k)
 | _, _, _, _, n + 1, .cons h t, k => .cons h (t.set n k)
end
inductive oX (K : PySem.W.Frag) (T : Tb) (w : Wd) (a : Addr) : HO → D → Prop where
 | lst {vs : List V} {ds : List D} : au K T w vs ds → oX K T w a (.lst vs) (.nl ds)
 | obj {dx : Addr} {c : Nat} {vs : List V} {ds : List D} : au K T w vs ds → oX K T w a (.ins (T.cad c) dx ((T.fld c).zip vs)) (.no c ds)
 | dct {ks : List (List Key)} {vs : List V} {ds : List D} : ks.length = ds.length → au K T w vs ds → oX K T w a (.dT (ks.zip vs)) (.dc ks ds)
 | dkt {ks : List Key} {vs : List V} {ds : List D} : ks.length = ds.length → au K T w vs ds → oX K T w a (.dK (ks.zip vs)) (.dk ks ds)
 | so0 {dx : Addr} {c m : Nat} : w.I[m]? = some dx → oX K T w a (.ins (T.cad c) dx []) (.so c m [])
 | so1 {dx : Addr} {c m : Nat} {vs : List (Option V)} {d : D} {ds : List D} : w.I[m]? = some dx → lV K T w vs (d :: ds) → oX K T w a (SlX.SlO a (T.cad c) dx vs) (.so c m (d :: ds))
 | hid0 {x : Addr} : oX K T w a (.own x) (.hid false)
 | hid1 : oX K T w a (.xd []) (.hid true)
theorem pW.cel {K : PySem.W.Frag} {T : Tb} {w : Wd} {o : HO} {d : D} (a : Addr) (x : pW K T w o d) : oX K T w a o d := by
 cases x with
 | lst r => exact .lst r
 | obj r => exact .obj r
theorem oX.mono {K : PySem.W.Frag} {T : Tb} {w w' : Wd} {a : Addr} {o : HO} {d : D} (l : w.le w') (x : oX K T w a o d) : oX K T w' a o d := by
 cases x with
 | lst r => exact .lst (r.mono l)
 | obj r => exact .obj (r.mono l)
 | dct h r => exact .dct h (r.mono l)
 | dkt h r => exact .dkt h (r.mono l)
 | so0 h => exact .so0 (Wd.le_at l h)
 | so1 h r => exact .so1 (Wd.le_at l h) (r.mono l)
 | hid0 => exact .hid0
 | hid1 => exact .hid1
def yI (K : PySem.W.Frag) (T : Tb) (w : Wd) (H : Hp) (a : Addr) (d : D) : Prop := ∃ o, H a = some o ∧ oX K T w a o d
def tL (σ : St) (fr : Fr) (i : Nat) (p : Addr) : Prop := σ[i]? = some (some (.ref p)) ∧ ∃ d, fr[i]? = some (some d) ∧ d.own = true
structure Rel (K : PySem.W.Frag) (T : Tb) (B : Bs) (w : Wd) (σ : St) (H : Hp) (fr : Fr) (h : Hh) : Prop where
 le : B.w0.le w
 nF : ∀ a, w.F a ≠ none → B.w0.F a ≠ none ∨ B.H0 a = none ∨ ∃ vs, B.H0 a = some (.tup vs)
 nI : ∀ a ∈ w.I, a ∈ B.w0.I ∨ B.H0 a = none
 keep : ∀ a o, B.H0 a = some o → a ∉ B.w0.I → H a = some o
 prot : ∀ q ∈ B.P, H q.1 = some q.2 ∧ w.F q.1 = none ∧ q.1 ∉ w.I
 sub : ∀ a o, w.F a = some o → H a = some o
 len : w.I.length = h.length
 nd : w.I.Nodup
 dis : ∀ a ∈ w.I, w.F a = none
 cel : ∀ (n : Nat) a c, w.I[n]? = some a → h[n]? = some c → yI K T w H a c
 fl : fr.length = σ.length
 sl : ∀ (i : Nat) s d, σ[i]? = some s → fr[i]? = some d → HH K T B w H s d
 sep : ∀ i j p, i ≠ j → tL σ fr i p → tL σ fr j p → False
 me : ∀ x d, B.me = some x → fr[0]? = some (some d) → d.own = true → σ[0]? = some (some (.ref x))
 pt : ∀ q ∈ B.P, ∀ vs, q.2 ≠ .tup vs
section
variable {K : PySem.W.Frag} {T : Tb} {B : Bs} {w w' : Wd} {σ : St} {H H' : Hp} {fr : Fr} {h : Hh}
theorem Rel.nP (R : Rel K T B w σ H fr h) {p : Addr} (np : H p = none) : w.F p = none ∧ p ∉ w.I ∧ (∀ q ∈ B.P, q.1 ≠ p) := by
 refine ⟨?_, fun hm => ?_, fun q hq e => ?_⟩
 · cases e : w.F p with
   | none => rfl
   | some o =>
     have := R.sub p o e
     rw [np] at this
     cases this
 · obtain ⟨n, hn, e⟩ := List.getElem_of_mem hm
   have hl : n < h.length := by rw [← R.len]; exact hn
   obtain ⟨o, q, _⟩ := R.cel n p h[n] (by rw [aiO hn, e]) (aiO hl)
   rw [np] at q
   cases q
 · have z := (R.prot q hq).1
   rw [e, np] at z
   cases z
theorem Rel.iSome (R : Rel K T B w σ H fr h) {a : Addr} (hm : a ∈ w.I) : H a ≠ none := fun np => (R.nP np).2.1 hm
theorem yI.keep {a : Addr} {c : D} (x : w.le w') (e : H' a = H a) (z : yI K T w H a c) : yI K T w' H' a c := by
 obtain ⟨o, q, r⟩ := z
 exact ⟨o, by rw [e]; exact q, r.mono x⟩
theorem Rel.grow (R : Rel K T B w σ H fr h) (x : w.le w') (eI : w'.I = w.I) (hk : ∀ a o, H a = some o → H' a = some o) (hF : ∀ a o, w'.F a = some o → H' a = some o)
 (hn : ∀ a, w'.F a ≠ none → w.F a ≠ none ∨ H a = none) (he : ∀ a, H a = none → B.H0 a = none ∨ True) : Rel K T B w' σ H' fr h where
 le := Wd.le_trans R.le x
 nF := fun a ha => by
  rcases hn a ha with q | q
  · exact R.nF a q
  · right
    left
    cases e : B.H0 a with
    | none => rfl
    | some o =>
      by_cases hm : a ∈ B.w0.I
      · exact absurd q (R.iSome (Wd.le_mem R.le hm))
      · have := R.keep a o e hm
        rw [q] at this
        cases this
 nI := fun a ha => R.nI a (by rw [← eI]; exact ha)
 keep := fun a o e hm => hk a o (R.keep a o e hm)
 prot := fun q hq => by
  obtain ⟨h1, h2, h3⟩ := R.prot q hq
  refine ⟨hk _ _ h1, ?_, by rw [eI]; exact h3⟩
  cases e : w'.F q.1 with
  | none => rfl
  | some o =>
    rcases hn q.1 (by rw [e]; simp) with z | z
    · exact absurd h2 z
    · rw [h1] at z
      cases z
 sub := hF
 len := by rw [eI]; exact R.len
 nd := by rw [eI]; exact R.nd
 dis := fun a ha => by
  have hm : a ∈ w.I := by rw [← eI]; exact ha
  cases e : w'.F a with
  | none => rfl
  | some o =>
    rcases hn a (by rw [e]; simp) with z | z
    · exact absurd (R.dis a hm) z
    · exact absurd z (R.iSome hm)
 cel := fun n a c e1 e2 => by
  have e1' : w.I[n]? = some a := by rw [← eI]; exact e1
  have z := R.cel n a c e1' e2
  refine yI.keep x ?_ z
  have hs := R.iSome (ai1 e1')
  cases q : H a with
  | none => exact absurd q hs
  | some o => exact hk a o q
 fl := R.fl
 sl := fun i s d e1 e2 => by
  have z := R.sl i s d e1 e2
  cases z with
  | none => exact .none
  | val r => exact .val (r.mono x)
  | own o e r =>
    refine .own ⟨?_, by rw [eI]; exact o.i, o.e, o.p⟩ (hk _ _ e) (r.mono x)
    cases q : w'.F _ with
    | none => rfl
    | some u =>
      rcases hn _ (by rw [q]; simp) with z | z
      · exact absurd o.f z
      · rw [e] at z
        cases z
 sep := R.sep
 me := R.me
 pt := R.pt
def Wd.add (w : Wd) (p : Addr) (o : HO) : Wd := ⟨upd w.F p o, w.I⟩
theorem Wd.le_add {p : Addr} {o : HO} (e : w.F p = none) : w.le (w.add p o) :=
 ⟨fun a u h => by
  show upd w.F p o a = some u
  rw [upd_ne (ne_of_none h e)]
  exact h, [], by simp [Wd.add]⟩
theorem Rel.laid (R : Rel K T B w σ H fr h) {p : Addr} {o : HO} (np : H p = none) : Rel K T B (w.add p o) σ (upd H p o) fr h := by
 refine R.grow (Wd.le_add (R.nP np).1) rfl (fun a u e => ?_) (fun a u e => ?_) (fun a e => ?_) (fun _ _ => .inr trivial)
 · rw [upd_ne (ne_of_none e np)]
   exact e
 · have e' : upd w.F p o a = some u := e
   by_cases ha : a = p
   · subst ha
     rw [upd_same] at e' ⊢
     exact e'
   · rw [upd_ne ha] at e' ⊢
     exact R.sub a u e'
 · have e' : upd w.F p o a ≠ none := e
   by_cases ha : a = p
   · subst ha
     exact .inr np
   · rw [upd_ne ha] at e'
     exact .inl e'
theorem Rel.temp (R : Rel K T B w σ H fr h) {p : Addr} {o : HO} (np : H p = none) : Rel K T B w σ (upd H p o) fr h :=
 R.grow (Wd.le_refl w) rfl (fun a u e => by rw [upd_ne (ne_of_none e np)]; exact e) (fun a u e => by rw [upd_ne (ne_of_none (R.sub a u e) np)]; exact R.sub a u e) (fun a e => .inl e) (fun _ _ => .inr trivial)
theorem Rel.own_new (R : Rel K T B w σ H fr h) {p : Addr} (np : H p = none) : Own B w p := by
 obtain ⟨h1, h2, h3⟩ := R.nP np
 refine ⟨h1, h2, ?_, h3⟩
 cases e : B.H0 p with
 | none => rfl
 | some o =>
   by_cases hm : p ∈ B.w0.I
   · exact absurd np (R.iSome (Wd.le_mem R.le hm))
   · have := R.keep p o e hm
     rw [np] at this
     cases this
def tM (σ : St) (fr : Fr) (p : Addr) : Prop := ∀ i, ¬ tL σ fr i p
theorem Rel.loose_new (R : Rel K T B w σ H fr h) {p : Addr} (np : H p = none) : tM σ fr p := fun i ⟨e1, d, e2, od⟩ => by
 have z := R.sl i _ _ e1 e2
 cases z with
 | val r => exact t8 od r
 | own o e r =>
   rw [np] at e
   cases e
theorem Rel.freeze (R : Rel K T B w σ H fr h) {p : Addr} {o : HO} (O : Own B w p) (l : tM σ fr p) (e : H p = some o) : Rel K T B (w.add p o) σ H fr h where
 le := Wd.le_trans R.le (Wd.le_add O.f)
 nF := fun a ha => by
  have e' : upd w.F p o a ≠ none := ha
  by_cases hp : a = p
  · subst hp
    exact .inr (.inl O.e)
  · rw [upd_ne hp] at e'
    exact R.nF a e'
 nI := R.nI
 keep := R.keep
 prot := fun q hq => by
  obtain ⟨h1, h2, h3⟩ := R.prot q hq
  refine ⟨h1, ?_, h3⟩
  show upd w.F p o q.1 = none
  rw [upd_ne (O.p q hq)]
  exact h2
 sub := fun a u ha => by
  have e' : upd w.F p o a = some u := ha
  by_cases hp : a = p
  · subst hp
    rw [upd_same] at e'
    rw [← e']
    exact e
  · rw [upd_ne hp] at e'
    exact R.sub a u e'
 len := R.len
 nd := R.nd
 dis := fun a ha => by
  show upd w.F p o a = none
  have hne : a ≠ p := fun z => O.i (by rw [← z]; exact ha)
  rw [upd_ne hne]
  exact R.dis a ha
 cel := fun n a c e1 e2 => yI.keep (Wd.le_add O.f) rfl (R.cel n a c e1 e2)
 fl := R.fl
 sl := fun i s d e1 e2 => by
  have z := R.sl i s d e1 e2
  cases z with
  | none => exact .none
  | val r => exact .val (r.mono (Wd.le_add O.f))
  | @own q _ _ o' e' r =>
    refine .own ⟨?_, o'.i, o'.e, o'.p⟩ e' (r.mono (Wd.le_add O.f))
    show upd w.F p o q = none
    have hne : q ≠ p := fun z => l i ⟨by rw [← z]; exact e1, _, e2, r.own⟩
    rw [upd_ne hne]
    exact o'.f
 sep := R.sep
 me := R.me
 pt := R.pt
theorem Ge {σ : St} {fr : Fr} {i j : Nat} {s : Option V} {d : Option D} {p : Addr} (hi : i ≠ j) (o : tL (σ.set j s) (fr.set j d) i p) : tL σ fr i p := by
 obtain ⟨e1, dd, e2, od⟩ := o
 rw [aiV (Ne.symm hi)] at e1 e2
 exact ⟨e1, dd, e2, od⟩
theorem Rel.set_slot (R : Rel K T B w σ H fr h) {i : Nat} {s : Option V} {d : Option D} (r : HH K T B w H s d) (hp : ∀ p d', s = some (.ref p) → d = some d' → d'.own = true → tM σ fr p) (hm : i = 0 → ∀ d', d = some d' → d'.own = false) : Rel K T B w (σ.set i s) H (fr.set i d) h :=
 { R with
   me := fun x d' bx e od => by
    by_cases hi : i = 0
    · subst hi
      have l2 : 0 < fr.length := by
       have := (List.getElem?_eq_some_iff.mp e).1
       rwa [aiZ] at this
      rw [aiW l2] at e
      rw [hm rfl d' (Option.some.inj e)] at od
      cases od
    · rw [aiV hi] at e ⊢
      exact R.me x d' bx e od
   fl := by rw [aiZ, aiZ]; exact R.fl
   sl := fun j s' d' e1 e2 => by
    by_cases hj : i = j
    · subst hj
      have l1 : i < σ.length := by
       have := (List.getElem?_eq_some_iff.mp e1).1
       rwa [aiZ] at this
      rw [aiW l1] at e1
      rw [aiW (by rw [R.fl]; exact l1)] at e2
      cases e1
      cases e2
      exact r
    · rw [aiV hj] at e1 e2
      exact R.sl j s' d' e1 e2
   sep := fun a b p hab o1 o2 => by
    have key : ∀ a b, a ≠ b → a = i → tL (σ.set i s) (fr.set i d) a p → tL (σ.set i s) (fr.set i d) b p → False := fun a b hab ha o1 o2 => by
     subst ha
     have o2' := Ge (Ne.symm hab) o2
     obtain ⟨e1, dd, e2, od⟩ := o1
     have l1 : a < σ.length := by
      have := (List.getElem?_eq_some_iff.mp e1).1
      rwa [aiZ] at this
     rw [aiW l1] at e1
     rw [aiW (by rw [R.fl]; exact l1)] at e2
     cases e1
     cases e2
     exact hp p dd rfl rfl od b o2'
    by_cases ha : a = i
    · exact key a b hab ha o1 o2
    · by_cases hb : b = i
      · exact key b a (Ne.symm hab) hb o2 o1
      · exact R.sep a b p hab (Ge ha o1) (Ge hb o2) }
theorem Rel.drop_slot (R : Rel K T B w σ H fr h) (i : Nat) : Rel K T B w σ H (fr.set i none) h :=
 { R with
   me := fun x d' bx e od => by
    by_cases hi : i = 0
    · subst hi
      have l2 : 0 < fr.length := by
       have := (List.getElem?_eq_some_iff.mp e).1
       rwa [aiZ] at this
      rw [aiW l2] at e
      cases e
    · rw [aiV hi] at e
      exact R.me x d' bx e od
   fl := by rw [aiZ]; exact R.fl
   sl := fun j s' d' e1 e2 => by
    by_cases hj : i = j
    · subst hj
      have l2 : i < fr.length := by
       have := (List.getElem?_eq_some_iff.mp e2).1
       rwa [aiZ] at this
      rw [aiW l2] at e2
      cases e2
      exact .none
    · rw [aiV hj] at e2
      exact R.sl j s' d' e1 e2
   sep := fun a b p hab o1 o2 => by
    have key : ∀ a, tL σ (fr.set i none) a p → tL σ fr a p := fun a o => by
     obtain ⟨e1, dd, e2, od⟩ := o
     by_cases ha : i = a
     · subst ha
       have l2 : i < fr.length := by
        have := (List.getElem?_eq_some_iff.mp e2).1
        rwa [aiZ] at this
       rw [aiW l2] at e2
       cases e2
     · rw [aiV ha] at e2
       exact ⟨e1, dd, e2, od⟩
    exact R.sep a b p hab (key a o1) (key b o2) }
theorem Rel.freeze_slot (R : Rel K T B w σ H fr h) {i : Nat} {d : D} (e : fr[i]? = some (some d)) (od : d.own = true) :
 ∃ p o, σ[i]? = some (some (.ref p)) ∧ H p = some o ∧ pW K T w o d ∧ w.F p = none ∧ Rel K T B (w.add p o) σ H (fr.set i (some d.fz)) h := by
 have l2 : i < fr.length := (List.getElem?_eq_some_iff.mp e).1
 have l1 : i < σ.length := by rw [← R.fl]; exact l2
 have e1 : σ[i]? = some σ[i] := aiO l1
 have z := R.sl i _ _ e1 e
 generalize hs : σ[i] = s at z e1
 cases z with
 | val r => exact (t8 od r).elim
 | @own p o _ O eH r =>
   refine ⟨p, o, e1, eH, r, O.f, ?_⟩
   have R1 := R.drop_slot i
   have lo : tM σ (fr.set i none) p := fun j q => by
    obtain ⟨q1, dq, q2, oq⟩ := q
    by_cases hj : i = j
    · subst hj
      rw [aiW l2] at q2
      cases q2
    · rw [aiV hj] at q2
      exact R.sep i j p hj ⟨e1, d, e, od⟩ ⟨q1, dq, q2, oq⟩
   have R2 := R1.freeze O lo eH
   have R3 := R2.set_slot (i := i) (s := some (.ref p)) (d := some d.fz) (.val (r.fz (Wd.le_add O.f) (by show upd w.F p _ p = _; rw [upd_same]))) (fun _ _ _ q oq => by
    cases q
    rw [VN] at oq
    cases oq) (fun _ d' q => by
    cases q
    exact VN d)
   rw [List.set_set] at R3
   have es : σ.set i (some (.ref p)) = σ := by
    have := List.set_getElem_self (as := σ) (h := l1)
    rw [hs] at this
    exact this
   rw [es] at R3
   exact R3
theorem Jo {α : Type} : ∀ {l : List α} {i j : Nat} {a : α}, l.Nodup → l[i]? = some a → l[j]? = some a → i = j
 | [], _, _, _, _, e, _ => by simp at e
 | b :: l, 0, 0, _, _, _, _ => rfl
 | b :: l, 0, j + 1, a, n, e1, e2 => by
   simp at e1 e2
   subst e1
   exact absurd (ai1 e2) (List.nodup_cons.mp n).1
 | b :: l, i + 1, 0, a, n, e1, e2 => by
   simp at e1 e2
   subst e2
   exact absurd (ai1 e1) (List.nodup_cons.mp n).1
 | b :: l, i + 1, j + 1, a, n, e1, e2 => by
   simp at e1 e2
   rw [Jo (List.nodup_cons.mp n).2 e1 e2]
theorem Rel.change_slot (R : Rel K T B w σ H fr h) {i : Nat} {d d' : D} {p : Addr} {o o' : HO} (e1 : σ[i]? = some (some (.ref p))) (e : fr[i]? = some (some d)) (O : Own B w p) (eH : H p = some o) (od : d.own = true) (r' : pW K T w o' d') :
 Rel K T B w σ (upd H p o') (fr.set i (some d')) h := by
 have l2 : i < fr.length := (List.getElem?_eq_some_iff.mp e).1
 have l1 : i < σ.length := by rw [← R.fl]; exact l2
 refine { R with keep := fun a u ha hm => ?_, prot := fun q hq => ?_, sub := fun a u ha => ?_, cel := fun n a c q1 q2 => ?_, fl := by rw [aiZ]; exact R.fl, sl := fun j s dj q1 q2 => ?_, sep := fun a b q hab o1 o2 => ?_, me := fun x dx bx q od' => ?_ }
 · rw [upd_ne (fun z => by rw [z, O.e] at ha; cases ha)]
   exact R.keep a u ha hm
 · obtain ⟨h1, h2, h3⟩ := R.prot q hq
   exact ⟨by rw [upd_ne (O.p q hq)]; exact h1, h2, h3⟩
 · rw [upd_ne (fun z => by rw [z, O.f] at ha; cases ha)]
   exact R.sub a u ha
 · refine yI.keep (Wd.le_refl w) ?_ (R.cel n a c q1 q2)
   exact upd_ne (fun z => O.i (z ▸ ai1 q1))
 · by_cases hj : i = j
   · subst hj
     rw [e1] at q1
     rw [aiW l2] at q2
     cases q1
     cases q2
     exact .own O upd_same r'
   · rw [aiV hj] at q2
     have z := R.sl j s dj q1 q2
     cases z with
     | none => exact .none
     | val r => exact .val r
     | @own q u _ O' eH' rr =>
       refine .own O' ?_ rr
       have hne : q ≠ p := fun z => R.sep i j p hj ⟨e1, d, e, od⟩ ⟨by rw [← z]; exact q1, _, q2, rr.own⟩
       rw [upd_ne hne]
       exact eH'
 · have key : ∀ a, tL σ (fr.set i (some d')) a q → tL σ fr a q := fun a ⟨q1, dq, q2, oq⟩ => by
    by_cases ha : i = a
    · subst ha
      exact ⟨q1, d, e, od⟩
    · rw [aiV ha] at q2
      exact ⟨q1, dq, q2, oq⟩
   exact R.sep a b q hab (key a o1) (key b o2)
 · by_cases hi : i = 0
   · subst hi
     exact R.me x d bx e od
   · rw [aiV hi] at q
     exact R.me x dx bx q od'
theorem Rel.change_cell (R : Rel K T B w σ H fr h) {n : Nat} {a : Addr} {d d' : D} {o' : HO} (e1 : w.I[n]? = some a) (e : h[n]? = some d) (r' : oX K T w a o' d') : Rel K T B w σ (upd H a o') fr (h.set n d') := by
 have hm : a ∈ w.I := ai1 e1
 have lh : n < h.length := (List.getElem?_eq_some_iff.mp e).1
 refine { R with keep := fun b u hb hn => ?_, prot := fun q hq => ?_, sub := fun b u hb => ?_, len := by rw [aiZ]; exact R.len, cel := fun k b c q1 q2 => ?_, sl := fun j s dj q1 q2 => ?_ }
 · rw [upd_ne (fun z => by
    subst z
    rcases R.nI _ hm with q | q
    · exact hn q
    · rw [q] at hb
      cases hb)]
   exact R.keep b u hb hn
 · obtain ⟨h1, h2, h3⟩ := R.prot q hq
   have hne : q.1 ≠ a := fun z => h3 (by rw [z]; exact hm)
   exact ⟨by rw [upd_ne hne]; exact h1, h2, h3⟩
 · rw [upd_ne (fun z => by rw [z, R.dis a hm] at hb; cases hb)]
   exact R.sub b u hb
 · by_cases hk : n = k
   · subst hk
     rw [e1] at q1
     rw [aiW lh] at q2
     cases q1
     cases q2
     exact ⟨o', upd_same, r'⟩
   · rw [aiV hk] at q2
     refine yI.keep (Wd.le_refl w) (upd_ne fun z => ?_) (R.cel k b c q1 q2)
     subst z
     exact hk (Jo R.nd e1 q1)
 · have z := R.sl j s dj q1 q2
   cases z with
   | none => exact .none
   | val r => exact .val r
   | @own q u _ O' eH' rr =>
     have hne : q ≠ a := fun z => O'.i (by rw [z]; exact hm)
     exact .own O' (by rw [upd_ne hne]; exact eH') rr
theorem Rel.to_cellO (R : Rel K T B w σ H fr h) {p : Addr} {o : HO} {d : D} (O : Own B w p) (lo : tM σ fr p) (e : H p = some o) (r : oX K T w p o d) : Rel K T B ⟨w.F, w.I ++ [p]⟩ σ H fr (h ++ [d]) := by
 have le : w.le ⟨w.F, w.I ++ [p]⟩ := ⟨fun _ _ q => q, [p], rfl⟩
 refine ⟨Wd.le_trans R.le le, R.nF, fun a ha => ?_, R.keep, fun q hq => ?_, R.sub, ?_, ?_, fun a ha => ?_, fun n a c q1 q2 => ?_, R.fl, fun j s dj q1 q2 => ?_, R.sep, R.me, R.pt⟩
 · rcases List.mem_append.mp ha with q | q
   · exact R.nI a q
   · rw [List.mem_singleton] at q
     subst q
     exact .inr O.e
 · obtain ⟨h1, h2, h3⟩ := R.prot q hq
   refine ⟨h1, h2, fun z => ?_⟩
   rcases List.mem_append.mp z with y | y
   · exact h3 y
   · rw [List.mem_singleton] at y
     exact O.p q hq y
 · show (w.I ++ [p]).length = (h ++ [d]).length
   rw [aiT, aiT, R.len]
   rfl
 · show (w.I ++ [p]).Nodup
   rw [List.nodup_append]
   exact ⟨R.nd, by simp, fun a ha b hb => by
    rw [List.mem_singleton] at hb
    subst hb
    exact fun z => O.i (z ▸ ha)⟩
 · rcases List.mem_append.mp ha with q | q
   · exact R.dis a q
   · rw [List.mem_singleton] at q
     subst q
     exact O.f
 · have q1' : (w.I ++ [p])[n]? = some a := q1
   by_cases hn : n < w.I.length
   · rw [ajf hn] at q1'
     rw [ajf (by rw [← R.len]; exact hn)] at q2
     exact yI.keep le rfl (R.cel n a c q1' q2)
   · have hn' : w.I.length ≤ n := Nat.le_of_not_lt hn
     rw [ajc hn'] at q1'
     rw [ajc (by rw [← R.len]; exact hn'), ← R.len] at q2
     cases k : n - w.I.length with
     | zero =>
       rw [k] at q1' q2
       cases q1'
       cases q2
       exact ⟨o, e, r.mono le⟩
     | succ m =>
       rw [k] at q1'
       simp at q1'
 · have z := R.sl j s dj q1 q2
   cases z with
   | none => exact .none
   | val r => exact .val (r.mono le)
   | @own q u _ O' eH' rr =>
     refine .own ⟨O'.f, fun z => ?_, O'.e, O'.p⟩ eH' (rr.mono le)
     rcases List.mem_append.mp z with y | y
     · exact O'.i y
     · rw [List.mem_singleton] at y
       exact lo j ⟨by rw [← y]; exact q1, _, q2, rr.own⟩
theorem Rel.to_cell (R : Rel K T B w σ H fr h) {p : Addr} {o : HO} {d : D} (O : Own B w p) (lo : tM σ fr p) (e : H p = some o) (r : pW K T w o d) : Rel K T B ⟨w.F, w.I ++ [p]⟩ σ H fr (h ++ [d]) := R.to_cellO O lo e (r.cel p)
theorem Ko {i : Nat} {p : Addr} : ¬ tL [] [] i p := fun ⟨q, _⟩ => by simp at q
theorem Rel.enter (R : Rel K T B w σ H fr h) : Rel K T (Bs.of w H) w [] H [] h where
 le := Wd.le_refl w
 nF := fun _ q => .inl q
 nI := fun _ q => .inl q
 keep := fun _ _ q _ => q
 prot := fun _ q => by cases q
 sub := R.sub
 len := R.len
 nd := R.nd
 dis := R.dis
 cel := R.cel
 fl := rfl
 sl := fun _ _ _ q => by simp at q
 sep := fun _ _ _ _ q => (Ko q).elim
 me := fun _ _ _ q _ => by simp at q
 pt := fun _ q => by cases q
theorem Rel.unframe (R : Rel K T B w σ H fr h) : Rel K T B w [] H [] h where
 le := R.le
 nF := R.nF
 nI := R.nI
 keep := R.keep
 prot := R.prot
 sub := R.sub
 len := R.len
 nd := R.nd
 dis := R.dis
 cel := R.cel
 fl := rfl
 sl := fun _ _ _ q => by simp at q
 sep := fun _ _ _ _ q => (Ko q).elim
 me := fun _ _ _ q _ => by simp at q
 pt := R.pt
theorem oX.no_tup {a : Addr} {vs : List V} {c : D} (z : oX K T w a (.tup vs) c) : False := by cases z
theorem Rel.no_cell (R : Rel K T B w σ H fr h) {a : Addr} {vs : List V} (e : H a = some (.tup vs)) (hm : a ∈ w.I) : False := by
 obtain ⟨n, hn, q⟩ := List.getElem_of_mem hm
 have hl : n < h.length := by rw [← R.len]; exact hn
 obtain ⟨o, q1, r⟩ := R.cel n a h[n] (by rw [aiO hn, q]) (aiO hl)
 rw [e] at q1
 cases q1
 exact r.no_tup
theorem Rel.old_tup (R : Rel K T B w σ H fr h) {a : Addr} {vs : List V} (q : H a = some (.tup vs)) : B.w0.F a ≠ none ∨ B.H0 a = none ∨ ∃ vs, B.H0 a = some (.tup vs) := by
 right
 cases e : B.H0 a with
 | none => exact .inl rfl
 | some o =>
   by_cases hm : a ∈ B.w0.I
   · exact (R.no_cell q (Wd.le_mem R.le hm)).elim
   · have := R.keep a o e hm
     rw [q] at this
     exact .inr ⟨vs, this.symm⟩
theorem Rel.adopt (R : Rel K T B w σ H fr h) {b : Addr} {vs : List V} (e : H b = some (.tup vs)) : w.le (w.add b (.tup vs)) ∧ Rel K T B (w.add b (.tup vs)) σ H fr h := by
 have le : w.le (w.add b (.tup vs)) := ⟨fun a o q => by
  show upd w.F b (.tup vs) a = some o
  by_cases hb : a = b
  · rw [hb, upd_same]
    have := R.sub a o q
    rw [hb, e] at this
    exact this
  · rw [upd_ne hb]
    exact q, [], by simp [Wd.add]⟩
 have nb : b ∉ w.I := fun z => R.no_cell e z
 refine ⟨le, ⟨Wd.le_trans R.le le, fun a ha => ?_, R.nI, R.keep, fun q hq => ?_, fun a o ha => ?_, R.len, R.nd, fun a ha => ?_, fun n a c q1 q2 => yI.keep le rfl (R.cel n a c q1 q2), R.fl, fun j s d q1 q2 => ?_, R.sep, R.me, R.pt⟩⟩
 · have ha' : upd w.F b (.tup vs) a ≠ none := ha
   by_cases hb : a = b
   · rw [hb]
     exact R.old_tup e
   · rw [upd_ne hb] at ha'
     exact R.nF a ha'
 · obtain ⟨h1, h2, h3⟩ := R.prot q hq
   refine ⟨h1, ?_, h3⟩
   show upd w.F b (.tup vs) q.1 = none
   by_cases hb : q.1 = b
   · rw [hb, e] at h1
     exact absurd (Option.some.inj h1).symm (R.pt q hq vs)
   · rw [upd_ne hb]
     exact h2
 · have ha' : upd w.F b (.tup vs) a = some o := ha
   by_cases hb : a = b
   · rw [hb, upd_same] at ha'
     rw [hb, e]
     exact ha'
   · rw [upd_ne hb] at ha'
     exact R.sub a o ha'
 · show upd w.F b (.tup vs) a = none
   rw [upd_ne (fun z => nb (by rw [← z]; exact ha))]
   exact R.dis a ha
 · have z := R.sl j s d q1 q2
   cases z with
   | none => exact .none
   | val r => exact .val (r.mono le)
   | @own p o _ O eH rr =>
     refine .own ⟨?_, O.i, O.e, O.p⟩ eH (rr.mono le)
     show upd w.F b (.tup vs) p = none
     by_cases hb : p = b
     · rw [hb, e] at eH
       cases eH
       cases rr
     · rw [upd_ne hb]
       exact O.f
theorem Rel.back {h' : Hh} (R : Rel K T B w σ H fr h) (x : w.le w') (C : Rel K T (Bs.of w H) w' [] H' [] h') : Rel K T B w' σ H' fr h' where
 le := Wd.le_trans R.le x
 nF := fun a ha => by
  rcases C.nF a ha with q | q | ⟨vs, q⟩
  · exact R.nF a q
  · exact .inr (.inl (R.own_new q).e)
  · exact R.old_tup q
 nI := fun a ha => by
  rcases C.nI a ha with q | q
  · exact R.nI a q
  · exact .inr (R.own_new q).e
 keep := fun a o e hm => C.keep a o (R.keep a o e hm) fun z => by
  rcases R.nI a z with q | q
  · exact hm q
  · rw [q] at e
    cases e
 prot := fun q hq => by
  obtain ⟨h1, h2, h3⟩ := R.prot q hq
  refine ⟨C.keep _ _ h1 h3, ?_, fun z => ?_⟩
  · cases e : w'.F q.1 with
    | none => rfl
    | some o =>
      rcases C.nF q.1 (by rw [e]; simp) with y | y | ⟨vs, y⟩
      · exact absurd h2 y
      · have y' : H q.1 = none := y
        rw [h1] at y'
        cases y'
      · have y' : H q.1 = some (.tup vs) := y
        rw [h1] at y'
        exact absurd (Option.some.inj y') (R.pt q hq vs)
  · rcases C.nI _ z with y | y
    · exact h3 y
    · have y' : H q.1 = none := y
      rw [h1] at y'
      cases y'
 sub := C.sub
 len := C.len
 nd := C.nd
 dis := C.dis
 cel := C.cel
 fl := R.fl
 sl := fun i s d e1 e2 => by
  have z := R.sl i s d e1 e2
  cases z with
  | none => exact .none
  | val r => exact .val (r.mono x)
  | @own p o _ O eH rr =>
    refine .own ⟨?_, fun z => ?_, O.e, O.p⟩ (C.keep _ _ eH O.i) (rr.mono x)
    · cases e : w'.F p with
      | none => rfl
      | some o =>
        rcases C.nF p (by rw [e]; simp) with y | y | ⟨vs, y⟩
        · exact absurd O.f y
        · have y' : H p = none := y
          rw [eH] at y'
          cases y'
        · have y' : H p = some (.tup vs) := y
          rw [eH] at y'
          cases y'
          cases rr
    · rcases C.nI _ z with y | y
      · exact O.i y
      · have y' : H p = none := y
        rw [eH] at y'
        cases y'
 sep := R.sep
 me := R.me
 pt := R.pt
end
end Pk
namespace Pk
open PySem PySem.Spec L2
structure aN where
 c : Nat
 fs : List D
inductive R (α : Type) where
 | ok (a : α) (fr : Fr) (h : Hh)
 | exc (x : aN) (fr : Fr) (h : Hh)
 | err
abbrev M (α : Type) := Fr → Hh → R α
def M.ret {α : Type} (a : α) : M α := fun fr h => .ok a fr h
def M.bind {α β : Type} (m : M α) (f : α → M β) : M β := fun fr h => match m fr h with
 | .ok a fr h => f a fr h
 | .exc x fr h => .exc x fr h
 | .err => .err
def M.opt {α : Type} (o : Option α) : M α := fun fr h => match o with
 | some a => .ok a fr h
 | none => .err
@[simp] theorem M.bind_ret {α β : Type} (a : α) (f : α → M β) : (M.ret a).bind f = f a := rfl
@[simp] theorem M.ret_ap {α : Type} (a : α) (fr : Fr) (h : Hh) : M.ret a fr h = .ok a fr h := rfl
@[simp] theorem M.opt_some {α : Type} (a : α) (fr : Fr) (h : Hh) : M.opt (some a) fr h = .ok a fr h := rfl
@[simp] theorem M.opt_none {α : Type} (fr : Fr) (h : Hh) : M.opt (none : Option α) fr h = .err := rfl
theorem M.bind_ok {α β : Type} {m : M α} {f : α → M β} {fr fr1 : Fr} {h h1 : Hh} {a : α} (e : m fr h = .ok a fr1 h1) : m.bind f fr h = f a fr1 h1 := by
 unfold M.bind
 rw [e]
theorem M.bind_exc {α β : Type} {m : M α} {f : α → M β} {fr fr1 : Fr} {h h1 : Hh} {x : aN} (e : m fr h = .exc x fr1 h1) : m.bind f fr h = .exc x fr1 h1 := by
 unfold M.bind
 rw [e]
theorem M.bind_err {α β : Type} {m : M α} {f : α → M β} {fr : Fr} {h : Hh} (e : m fr h = .err) : m.bind f fr h = .err := by
 unfold M.bind
 rw [e]
def LK (K : PySem.W.Frag) (T : Tb) (w : Wd) (x : aN) (cls : Value) (dd : Option Addr) : Prop :=
 cls = .ref (T.cad x.c) ∧ ((x.fs = [] ∧ dd = none) ∨ ∃ d vs, dd = some d ∧ w.F d = some (.xd ((T.fld x.c).zip vs)) ∧ au K T w vs x.fs)
section
variable {α β : Type}
def aW (K : PySem.W.Frag) (T : Tb) (B : Bs) (W : WX) (VR : Wd → Hp → Fr → β → α → Prop) (w : Wd) (σ : L2.St) (r : R α) (Q : β → Hp → Prop) : Prop :=
 match r with
 | .ok d fr h => ∀ w' H' v, w.le w' → Rel K T B w' σ H' fr h → VR w' H' fr v d → Q v H'
 | .exc x fr h => ∀ w' H' cls dd, w.le w' → Rel K T B w' σ H' fr h → LK K T w' x cls dd → W cls dd σ H'
 | .err => False
end
abbrev jw (β α : Type) := PySem.W.Frag → Tb → Bs → L2.St → Wd → Hp → Fr → β → α → Prop
def vV : jw V D := fun K T _ _ w _ _ v d => bA K T w v d
def vE : jw V D := fun K T B σ w H fr v d => bA K T w v d ∨ ∃ p o, v = .ref p ∧ Own B w p ∧ tM σ fr p ∧ H p = some o ∧ pW K T w o d
def vO : jw V D := fun K T _ _ w H _ v d => bA K T w v d ∨ ∃ p o, v = .ref p ∧ H p = some o ∧ pW K T w o d
def vB : jw Bool Bool := fun _ _ _ _ _ _ _ b c => b = c
def vA : jw (List V) (List D) := fun K T _ _ w _ _ vs ds => au K T w vs ds
def fX {α β : Type} (run : L2.St → Hp → (β → Hp → Prop) → Prop) (K : PySem.W.Frag) (T : Tb) (W : WX) (VR : jw β α) (m : M α) : Prop :=
 ∀ (B : Bs) (w : Wd) (σ : L2.St) (H : Hp) (fr : Fr) (h : Hh) (Q : β → Hp → Prop), Rel K T B w σ H fr h → aW K T B W (VR K T B σ) w σ (m fr h) Q → run σ H Q
section
variable {α β γ δ : Type} {K : PySem.W.Frag} {T : Tb} {B : Bs} {W : WX} {w w' : Wd} {σ : L2.St} {H : Hp}
theorem aW.le {VR : Wd → Hp → Fr → β → α → Prop} {r : R α} {Q : β → Hp → Prop} (x : w.le w') (p : aW K T B W VR w σ r Q) : aW K T B W VR w' σ r Q := by
 cases r with
 | ok d fr h => exact fun w2 H2 v y => p w2 H2 v (Wd.le_trans x y)
 | exc e fr h => exact fun w2 H2 c d y => p w2 H2 c d (Wd.le_trans x y)
 | err => exact p
theorem aW.imp {VR : Wd → Hp → Fr → β → α → Prop} {r : R α} {Q Q' : β → Hp → Prop} (p : aW K T B W VR w σ r Q) (hq : ∀ v H, Q v H → Q' v H) : aW K T B W VR w σ r Q' := by
 cases r with
 | ok d fr h => exact fun w2 H2 v y r z => hq _ _ (p w2 H2 v y r z)
 | exc e fr h => exact p
 | err => exact p
theorem aW.bind {VR : Wd → Hp → Fr → γ → δ → Prop} {VR' : Wd → Hp → Fr → β → α → Prop} {m : M δ} {f : δ → M α} {fr : Fr} {h : Hh} {Q : β → Hp → Prop} {Q' : γ → Hp → Prop} (p : aW K T B W VR' w σ (m.bind f fr h) Q)
 (k : ∀ d fr1 h1 w1 H1 v, m fr h = .ok d fr1 h1 → w.le w1 → Rel K T B w1 σ H1 fr1 h1 → VR w1 H1 fr1 v d → aW K T B W VR' w1 σ (f d fr1 h1) Q → Q' v H1) : aW K T B W VR w σ (m fr h) Q' := by
 cases e : m fr h with
 | ok d fr1 h1 =>
   rw [M.bind_ok e] at p
   exact fun w1 H1 v x r z => k d fr1 h1 w1 H1 v e x r z (p.le x)
 | exc y fr1 h1 =>
   rw [M.bind_exc e] at p
   exact p
 | err =>
   rw [M.bind_err e] at p
   exact p
theorem fX.bind {run1 : L2.St → Hp → (γ → Hp → Prop) → Prop} {run2 : γ → L2.St → Hp → (β → Hp → Prop) → Prop} {VR1 : jw γ δ} {VR : jw β α} {m : M δ} {f : δ → M α} (s1 : fX run1 K T W VR1 m)
 (s2 : ∀ B w σ H fr h d v Q, Rel K T B w σ H fr h → VR1 K T B σ w H fr v d → aW K T B W (VR K T B σ) w σ (f d fr h) Q → run2 v σ H Q) :
 fX (fun σ H Q => run1 σ H fun v H1 => run2 v σ H1 Q) K T W VR (m.bind f) := fun B w σ H fr h Q r p =>
 s1 B w σ H fr h _ r (p.bind fun d fr1 h1 w1 H1 v e x r1 z p1 => s2 B w1 σ H1 fr1 h1 d v Q r1 z p1)
end
structure WE (X : Cx) (e : Expr) (σ : L2.St) (H : Hp) (Q : VK) : Prop where
 go : ∀ pins s, Inv X pins σ H s → wpAny (model X.prog X.w) X.A (eval e X.env) (EP X pins σ Q) X.xe s
structure WT (X : Cx) (e : Expr) (σ : L2.St) (H : Hp) (Q : Bool → Hp → Prop) : Prop where
 go : ∀ pins s, Inv X pins σ H s → wpAny (model X.prog X.w) X.A (isTrue e X.env (eval e X.env)) (TP X pins σ Q) X.xe s
structure WW (X : Cx) (e : Expr) (σ : L2.St) (H : Hp) (Q : Bool → Hp → Prop) : Prop where
 go : ∀ whole pins s, Inv X pins σ H s → wpAny (model X.prog X.w) X.A (isTrue e X.env whole) (TP X pins σ Q) X.xe s
structure WA (X : Cx) (es : List Expr) (σ : L2.St) (H : Hp) (Q : List V → Hp → Prop) : Prop where
 go : ∀ pos pins s, Inv X pins σ H s → wpAny (model X.prog X.w) X.A (spliced (backTo pos (starEach es X.env))) (AP X pins σ Q) X.xe s
structure WS (X : Cx) (st : Stmt) (D : Ends) (σ : L2.St) (H : Hp) : Prop where
 go : ∀ pins s, Inv X pins σ H s → wpAny (model X.prog X.w) X.A (exec st X.env) (SP X pins D) X.xe s
structure VP (X : Cx) (st : List Stmt) (D : Ends) (σ : L2.St) (H : Hp) : Prop where
 go : ∀ pins s, Inv X pins σ H s → wpAny (model X.prog X.w) X.A (execs st X.env) (SP X pins D) X.xe s
def rM (X : Cx) (f : Value → Value → Sem Value) : R2 := fun x y H Q => ∀ pins s σ v u, Inv X pins σ H s → RelV x v → RelV y u → wpAny (model X.prog X.w) X.A (f v u) (EP X pins σ Q) X.xe s
def uM (X : Cx) (f : Value → Sem Value) : V → Hp → VK → Prop := fun x H Q => ∀ pins s σ v, Inv X pins σ H s → RelV x v → wpAny (model X.prog X.w) X.A (f v) (EP X pins σ Q) X.xe s
def cM (X : Cx) (f : Value) : List V → Hp → VK → Prop := fun xs H Q => ∀ pins s σ us, Inv X pins σ H s → Vals xs us → wpAny (model X.prog X.w) X.A (call f us) (EP X pins σ Q) X.xe s
section
variable {X : Cx} {e : Expr} {es : List Expr} {st : Stmt} {sts : List Stmt}
theorem bj : PE X e (WE X e) := ⟨fun pins s σ H Q I h => h.go pins s I⟩
theorem uH : PT X e (WT X e) := ⟨fun pins s σ H Q I h => h.go pins s I⟩
theorem O7 : PW X e (WW X e) := ⟨fun wh pins s σ H Q I h => h.go wh pins s I⟩
theorem Gf : PA X es (WA X es) := ⟨fun pos pins s σ H Q I h => h.go pos pins s I⟩
theorem V1 : PS X st (WS X st) := ⟨fun pins s σ H D I h => h.go pins s I⟩
theorem vW : PSs X sts (VP X sts) := ⟨fun pins s σ H D I h => h.go pins s I⟩
theorem eE {t : TE} (p : PE X e t) {σ : L2.St} {H : Hp} {Q : VK} (h : t σ H Q) : WE X e σ H Q := ⟨fun pins s I => p.run pins s σ H Q I h⟩
theorem Oj {t : TT} (p : PT X e t) {σ : L2.St} {H : Hp} {Q : Bool → Hp → Prop} (h : t σ H Q) : WT X e σ H Q := ⟨fun pins s I => p.run pins s σ H Q I h⟩
theorem Ol {t : TT} (p : PW X e t) {σ : L2.St} {H : Hp} {Q : Bool → Hp → Prop} (h : t σ H Q) : WW X e σ H Q := ⟨fun wh pins s I => p.run wh pins s σ H Q I h⟩
theorem Om {t : TA} (p : PA X es t) {σ : L2.St} {H : Hp} {Q : List V → Hp → Prop} (h : t σ H Q) : WA X es σ H Q := ⟨fun pos pins s I => p.run pos pins s σ H Q I h⟩
theorem oG {t : TS} (p : PS X st t) {D : Ends} {σ : L2.St} {H : Hp} (h : t D σ H) : WS X st D σ H := ⟨fun pins s I => p.run pins s σ H D I h⟩
theorem LQ {t : TS} (p : PSs X sts t) {D : Ends} {σ : L2.St} {H : Hp} (h : t D σ H) : VP X sts D σ H := ⟨fun pins s I => p.run pins s σ H D I h⟩
theorem Gg {f : Value → Value → Sem Value} : OpR X f (rM X f) := fun pins s σ H x y v u Q I rx ry h => h pins s σ v u I rx ry
theorem qY {f : Value → Value → Sem Value} {r : R2} (o : OpR X f r) {x y : V} {H : Hp} {Q : VK} (h : r x y H Q) : rM X f x y H Q := fun pins s σ v u I rx ry => o pins s σ H x y v u Q I rx ry h
theorem abp {f : Value → Sem Value} : UnR X f (uM X f) := fun pins s σ H x v Q I rx h => h pins s σ v I rx
theorem ac0 {f : Value → Sem Value} {r : V → Hp → VK → Prop} (o : UnR X f r) {x : V} {H : Hp} {Q : VK} (h : r x H Q) : uM X f x H Q := fun pins s σ v I rx => o pins s σ H x v Q I rx h
theorem Jp {f : Value} : CallR X f (cM X f) := fun pins s σ H xs us Q I r h => h pins s σ us I r
theorem gR {f : Value} {r : List V → Hp → VK → Prop} (o : CallR X f r) {xs : List V} {H : Hp} {Q : VK} (h : r xs H Q) : cM X f xs H Q := fun pins s σ us I rr => o pins s σ H xs us Q I rr h
end
abbrev pX (X : Cx) (T : Tb) (W : WX) (e : Expr) (m : M D) : Prop := fX (WE X e) X.K T W vE m
abbrev aV (X : Cx) (T : Tb) (W : WX) (e : Expr) (m : M D) : Prop := fX (WE X e) X.K T W vV m
abbrev vX (X : Cx) (T : Tb) (W : WX) (e : Expr) (m : M Bool) : Prop := fX (WT X e) X.K T W vB m
abbrev Jq (X : Cx) (T : Tb) (W : WX) (e : Expr) (m : M Bool) : Prop := fX (WW X e) X.K T W vB m
abbrev Gh (X : Cx) (T : Tb) (W : WX) (es : List Expr) (m : M (List D)) : Prop := fX (WA X es) X.K T W vA m
abbrev z9 (X : Cx) (T : Tb) (W : WX) (e : Expr) (m : M D) : Prop := fX (WE X e) X.K T W vO m
def bG (m : M D) : M D := m.bind fun d => M.ret d.fz
def mC (d : D) : M D := M.ret d
def aa (i : Nat) : M D := fun fr h => match fr[i]? with
 | some (some d) => if d.own then .ok d.fz (fr.set i (some d.fz)) h else .ok d fr h
 | _ => .err
def tO (i : Nat) : M D := fun fr h => match fr[i]? with
 | some (some d) => .ok d (fr.set i none) h
 | _ => .err
def aM (i : Nat) : M D := fun fr h => match fr[i]? with
 | some (some d) => .ok d fr h
 | _ => .err
section
variable {X : Cx} {T : Tb} {W : WX} {e a b c : Expr} {es : List Expr} {m ma mb mc : M D} {pos : Pos}
theorem LR {α β : Type} {run : L2.St → Hp → (β → Hp → Prop) → Prop} {K : PySem.W.Frag} {VR VR' : jw β α} {m : M α} (s : fX run K T W VR m) (h : ∀ B σ w H fr v d, VR K T B σ w H fr v d → VR' K T B σ w H fr v d) : fX run K T W VR' m :=
 fun B w σ H fr hh Q r p => s B w σ H fr hh Q r (by
  cases q : m fr hh with
  | ok d fr1 h1 =>
    rw [q] at p
    exact fun w1 H1 v x r1 z => p w1 H1 v x r1 (h _ _ _ _ _ _ _ z)
  | exc y fr1 h1 => rw [q] at p; exact p
  | err => rw [q] at p; exact p)
theorem jt (s : aV X T W e m) : pX X T W e m := LR s fun _ _ _ _ _ _ _ z => .inl z
theorem nY (s : aV X T W e m) : z9 X T W e m := LR s fun _ _ _ _ _ _ _ z => .inl z
theorem sV (s : pX X T W e m) : z9 X T W e m := LR s fun _ _ _ _ _ _ _ z => by
 rcases z with z | ⟨p, o, e1, _, _, e2, r⟩
 · exact .inl z
 · exact .inr ⟨p, o, e1, e2, r⟩
theorem cA (s : pX X T W e m) : aV X T W e (bG m) := fun B w σ H fr h Q r p => s B w σ H fr h Q r (by
 refine aW.bind (VR := vE X.K T B σ) p fun d fr1 h1 w1 H1 v eq x r1 z p1 => ?_
 rcases z with z | ⟨p', o, rfl, O, lo, eH, rd⟩
 · rw [Z9 z] at p1
   exact p1 w1 H1 v (Wd.le_refl _) r1 z
 · exact p1 (w1.add p' o) H1 (.ref p') (Wd.le_add O.f) (r1.freeze O lo eH) (rd.fz (Wd.le_add O.f) (by show upd w1.F p' _ p' = _; rw [upd_same])))
theorem aJ {i : Int} {j : Nat} : aV X T W (.Constant (.int i) j pos) (mC (.int i)) := fun B w σ H fr h Q r p => eE pe_int (p w H _ (Wd.le_refl _) r (.int i))
theorem tQ {i : Bool} {j : Nat} : aV X T W (.Constant (.bool i) j pos) (mC (.bl i)) := fun B w σ H fr h Q r p => eE pe_bl (p w H _ (Wd.le_refl _) r (.bl i))
theorem Gi {j : Nat} : aV X T W (.Constant .none j pos) (mC .non) := fun B w σ H fr h Q r p => eE pe_non (p w H _ (Wd.le_refl _) r .non)
theorem Kr {i : Str} {j : Nat} : aV X T W (.Constant (.str i) j pos) (mC (.str i)) := fun B w σ H fr h Q r p => eE pe_str (p w H _ (Wd.le_refl _) r (.str i))
theorem jA {K : PySem.W.Frag} {T : Tb} {B : Bs} {w : Wd} {σ : L2.St} {H : Hp} {fr : Fr} {h : Hh} (R : Rel K T B w σ H fr h) {i : Nat} {d : D} (e : fr[i]? = some (some d)) :
 ∃ v, σ[i]? = some (some v) ∧ HH K T B w H (some v) (some d) := by
 have l2 : i < fr.length := (List.getElem?_eq_some_iff.mp e).1
 have l1 : i < σ.length := by rw [← R.fl]; exact l2
 have e1 : σ[i]? = some σ[i] := aiO l1
 have z := R.sl i _ _ e1 e
 generalize σ[i] = s at z e1
 cases z with
 | val r => exact ⟨_, e1, .val r⟩
 | own O eH r => exact ⟨_, e1, .own O eH r⟩
theorem aj (i : Nat) {x : Str} (hN : X.N[i]? = some x := by rfl) (hv : Vis X.env.scope x := by first | exact Or.inl rfl | exact Or.inr (Or.inl rfl) | exact Or.inr (Or.inr rfl)) (hd : (x == ("__debug__" : Str)) = false := by decide)
 (hcd : (x == ("__classdict__" : Str)) = false := by decide) : aV X T W (.Name x pos) (aa i) := fun B w σ H fr h Q r p => eE (pe_var hN hv hd hcd) (by
 unfold aa at p
 split at p
 · rename_i d e1
   cases od : d.own with
   | true =>
     rw [od] at p
     obtain ⟨q, o, e2, eH, rd, nf, r1⟩ := r.freeze_slot e1 od
     exact ⟨_, e2, p (w.add q o) H (.ref q) (Wd.le_add nf) r1 (rd.fz (Wd.le_add nf) (by show upd w.F q _ q = _; rw [upd_same]))⟩
   | false =>
     rw [od] at p
     obtain ⟨v, e2, z⟩ := jA r e1
     cases z with
     | val rd => exact ⟨v, e2, p w H v (Wd.le_refl _) r rd⟩
     | own O eH rd =>
       rw [rd.own] at od
       cases od
 · exact p.elim)
theorem bF (i : Nat) {x : Str} (hN : X.N[i]? = some x := by rfl) (hv : Vis X.env.scope x := by first | exact Or.inl rfl | exact Or.inr (Or.inl rfl) | exact Or.inr (Or.inr rfl)) (hd : (x == ("__debug__" : Str)) = false := by decide)
 (hcd : (x == ("__classdict__" : Str)) = false := by decide) : z9 X T W (.Name x pos) (aM i) := fun B w σ H fr h Q r p => eE (pe_var hN hv hd hcd) (by
 unfold aM at p
 split at p
 · rename_i d e1
   obtain ⟨v, e2, z⟩ := jA r e1
   refine ⟨v, e2, p w H v (Wd.le_refl _) r ?_⟩
   cases z with
   | val rd => exact .inl rd
   | own O eH rd => exact .inr ⟨_, _, rfl, eH, rd⟩
 · exact p.elim)
theorem Ma (i : Nat) {x : Str} (hN : X.N[i]? = some x := by rfl) (hv : Vis X.env.scope x := by first | exact Or.inl rfl | exact Or.inr (Or.inl rfl) | exact Or.inr (Or.inr rfl)) (hd : (x == ("__debug__" : Str)) = false := by decide)
 (hcd : (x == ("__classdict__" : Str)) = false := by decide) : pX X T W (.Name x pos) (tO i) := fun B w σ H fr h Q r p => eE (pe_var hN hv hd hcd) (by
 unfold tO at p
 split at p
 · rename_i d e1
   obtain ⟨v, e2, z⟩ := jA r e1
   refine ⟨v, e2, p w H v (Wd.le_refl _) (r.drop_slot i) ?_⟩
   cases z with
   | val rd => exact .inl rd
   | @own q o _ O eH rd =>
     refine .inr ⟨q, o, rfl, O, fun j z => ?_, eH, rd⟩
     obtain ⟨q1, dq, q2, oq⟩ := z
     by_cases hj : i = j
     · subst hj
       rw [aiW (List.getElem?_eq_some_iff.mp e1).1] at q2
       cases q2
     · rw [aiV hj] at q2
       exact r.sep i j q hj ⟨e2, d, e1, rd.own⟩ ⟨q1, dq, q2, oq⟩
 · exact p.elim)
def big : Nat := 100000
theorem rB {n : Nat} (h : n ≤ big) : n ≤ sizeLine := Nat.le_trans h (by decide)
def D.der (h : Hh) : D → D
 | .ref n => (h[n]?).getD .non
 | d => d
def D.its (h : Hh) (d : D) : Option (List D) := match d.der h with
 | .tup l => some l
 | .fl l => some l
 | .kl l => some l
 | .nl l => some l
 | .tp l => some l
 | _ => none
theorem HJ {K : PySem.W.Frag} {T : Tb} {B : Bs} {w : Wd} {σ : L2.St} {H : Hp} {fr : Fr} {h : Hh} {v : V} {d : D} {ds : List D} (R : Rel K T B w σ H fr h) (z : vO K T B σ w H fr v d) (e : d.its h = some ds) :
 ∃ p vs, v = .ref p ∧ au K T w vs ds ∧ (SqL K H p vs ∨ SqT K H p vs) := by
 rcases z with z | ⟨p, o, rfl, eH, z⟩
 · cases z with
   | tup s r =>
     have e' : some _ = some ds := e
     cases e'
     exact ⟨_, _, rfl, r, .inr (dI R.sub s)⟩
   | fl s r =>
     have e' : some _ = some ds := e
     cases e'
     exact ⟨_, _, rfl, r, .inl (SqL.of (R.sub _ _ s))⟩
   | kl s r =>
     have e' : some _ = some ds := e
     cases e'
     exact ⟨_, _, rfl, r, .inl (fL R.sub s)⟩
   | @ref a n s =>
     have ln : n < h.length := by
      rw [← R.len]
      exact (List.getElem?_eq_some_iff.mp s).1
     obtain ⟨o, q, rr⟩ := R.cel n a h[n] s (aiO ln)
     have e0 : (h[n]?).getD .non = h[n] := by rw [aiO ln]; rfl
     unfold D.its D.der at e
     dsimp only at e
     rw [e0] at e
     generalize h[n] = c at rr e
     cases rr with
     | lst r =>
       have e' : some _ = some ds := e
       cases e'
       exact ⟨_, _, rfl, r, .inl (SqL.of q)⟩
     | obj r => cases e
     | dct _ r => cases e
     | dkt _ r => cases e
     | so0 _ => cases e
     | so1 _ _ => cases e
     | hid0 => cases e
     | hid1 => cases e
   | non => cases e
   | bl _ => cases e
   | int _ => cases e
   | str _ => cases e
   | obj _ _ => cases e
   | cls _ => cases e
   | ty _ => cases e
   | sl _ => cases e
   | tp s r =>
     have e' : some _ = some ds := e
     cases e'
     exact ⟨_, _, rfl, r, .inr (.inl (.inl (R.sub _ _ s)))⟩
 · cases z with
   | lst r =>
     have e' : some _ = some ds := e
     cases e'
     exact ⟨_, _, rfl, r, .inl (SqL.of eH)⟩
   | obj r => cases e
def aq {α : Type} (f : Hh → D → D → Option α) (ma mb : M D) : M α := ma.bind fun x => mb.bind fun y fr h => M.opt (f h x y) fr h
theorem Jr {α β : Type} {VR2 : jw V D} {VR : jw β α} {f : Hh → D → D → Option α} {r : V → V → Hp → (β → Hp → Prop) → Prop} (sa : aV X T W a ma) (sb : fX (WE X b) X.K T W VR2 mb)
 (hr : ∀ B w σ H fr h x y d e z Q, Rel X.K T B w σ H fr h → bA X.K T w x d → VR2 X.K T B σ w H fr y e → f h d e = some z → (∀ w' H' v, w.le w' → Rel X.K T B w' σ H' fr h → VR X.K T B σ w' H' fr v z → Q v H') → r x y H Q) :
 fX (fun σ H Q => WE X a σ H fun x H1 => WE X b σ H1 fun y H2 => r x y H2 Q) X.K T W VR (aq f ma mb) := fun B w σ H fr h Q r1 p =>
 sa B w σ H fr h _ r1 (aW.bind (VR := vV X.K T B σ) p fun d fr1 h1 w1 H1 x e1 l1 r1 rx p1 => sb B w1 σ H1 fr1 h1 _ r1 (aW.bind (VR := VR2 X.K T B σ) p1 fun e fr2 h2 w2 H2 y e2 l2 r2 ry p2 => by
  cases q : f h2 d e with
  | none => rw [q] at p2; exact p2.elim
  | some z =>
    rw [q] at p2
    exact hr B w2 σ H2 fr2 h2 x y d e z Q r2 (rx.mono l2) ry q p2))
end
end Pk
namespace Pk
open PySem PySem.Spec L2
structure Cq (X : Cx) (T : Tb) (W : WX) (k : Nat) : Prop where
 calm : X.calm = true
 nd : X.N.Nodup
 room : Room k X.A
 takes : L2N.Takes X W
 po : PassesOwn (model X.prog X.w) X.A X.env X.xe
theorem Cq.u {X : Cx} {T : Tb} {W : WX} {k : Nat} (C : Cq X T W k) : X.A.units + 65 < cLine := by
 have := C.room.un
 omega
section
variable {X : Cx} {T : Tb} {W : WX} {k : Nat} {e a b c : Expr} {es : List Expr} {m ma mb mc : M D} {pos : Pos}
mutual
def D.toP : D → Option PyData
 | .non => some .none
 | .bl b => some (.bool b)
 | .int i => some (.int i)
 | .str s => some (.str s)
 | .tup l => (D.toPs l).map .tuple
 | .fl l => (D.toPs l).map .list
 | .kl l => (D.toPs l).map .list
 | .nl l => (D.toPs l).map .list
 | .tp l => (D.toPs l).map .tuple
 | _ => none
def D.toPs : List D → Option (List PyData)
 | [] => some []
 | d :: ds => match D.toP d, D.toPs ds with
   | some p, some ps => some (p :: ps)
   | _, _ => none
end
section
variable {K : PySem.W.Frag} {w : Wd} {H : Hp}
mutual
theorem zE (hs : ∀ a o, w.F a = some o → H a = some o) : ∀ {v : V} {d : D} {p : PyData}, bA K T w v d → d.toP = some p → Dp K H v p
 | _, _, _, .non, e => by cases e; exact .non
 | _, _, _, .bl b, e => by cases e; exact .bl b
 | _, _, _, .int i, e => by cases e; exact .int i
 | _, _, _, .str s, e => by cases e; exact .str s
 | _, _, _, .tup s r, e => by
   unfold D.toP at e
   obtain ⟨ps, e1, e2⟩ := Option.map_eq_some_iff.mp e
   subst e2
   exact .tup (dI hs s) (sW hs r e1)
 | _, _, _, .fl s r, e => by
   unfold D.toP at e
   obtain ⟨ps, e1, e2⟩ := Option.map_eq_some_iff.mp e
   subst e2
   exact .lst (SqL.of (hs _ _ s)) (sW hs r e1)
 | _, _, _, .kl s r, e => by
   unfold D.toP at e
   obtain ⟨ps, e1, e2⟩ := Option.map_eq_some_iff.mp e
   subst e2
   exact .lst (fL hs s) (sW hs r e1)
 | _, _, _, .obj _ _, e => by cases e
 | _, _, _, .ref _, e => by cases e
 | _, _, _, .cls _, e => by cases e
 | _, _, _, .ty _, e => by cases e
 | _, _, _, .sl _, e => by cases e
 | _, _, _, .tp s r, e => by
   unfold D.toP at e
   obtain ⟨ps, e1, e2⟩ := Option.map_eq_some_iff.mp e
   subst e2
   exact .tup (.inl (.inl (hs _ _ s))) (sW hs r e1)
theorem sW (hs : ∀ a o, w.F a = some o → H a = some o) : ∀ {vs : List V} {ds : List D} {ps : List PyData}, au K T w vs ds → D.toPs ds = some ps → DpAll K H vs ps
 | _, _, _, .nil, e => by cases e; exact .nil
 | _, _, _, @au.cons _ _ _ _ d _ ds h t, e => by
   unfold D.toPs at e
   cases e1 : d.toP with
   | none => rw [e1] at e; cases e
   | some p =>
     cases e2 : D.toPs ds with
     | none => rw [e1, e2] at e; cases e
     | some ps =>
       rw [e1, e2] at e
       cases e
       exact .cons (zE hs h e1) (sW hs t e2)
end
theorem V2 {B : Bs} {σ : L2.St} {fr : Fr} {h : Hh} {v : V} {d : D} {p : PyData} (R : Rel K T B w σ H fr h) (z : vO K T B σ w H fr v d) (e : d.toP = some p) : Dp K H v p := by
 rcases z with z | ⟨q, o, rfl, eH, z⟩
 · exact zE R.sub z e
 · cases z with
   | lst r =>
     unfold D.toP at e
     obtain ⟨ps, e1, e2⟩ := Option.map_eq_some_iff.mp e
     subst e2
     exact .lst (SqL.of eH) (sW R.sub r e1)
   | obj r => cases e
end
def dZ (h : Hh) : D → D → Option D
 | .int i, .int j => some (.int (i + j))
 | .str a, .str b => if a.length + b.length ≤ big then some (.str (a ++ b)) else none
 | .tup a, .tup b => if a.length + b.length ≤ big then some (.tup (a ++ b)) else none
 | .fl a, .fl b => if a.length + b.length ≤ big then some (.nl (a ++ b)) else none
 | _, _ => none
theorem Jt {w : Wd} {K : PySem.W.Frag} {v : V} {ds : List D} (r : bA K T w v (.fl ds)) : ∃ a vs, v = .ref a ∧ w.F a = some (.lst vs) ∧ au K T w vs ds := by
 cases r with
 | fl s t => exact ⟨_, _, rfl, s, t⟩
theorem vY {w : Wd} {K : PySem.W.Frag} {v : V} {ds : List D} (r : bA K T w v (.tup ds)) : ∃ a vs, v = .ref a ∧ SqT K w.F a vs ∧ au K T w vs ds := by
 cases r with
 | tup s t => exact ⟨_, _, rfl, s, t⟩
theorem je {w : Wd} {K : PySem.W.Frag} {v : V} {i : Int} (r : bA K T w v (.int i)) : v = .int i := by
 cases r
 rfl
theorem abq {w : Wd} {K : PySem.W.Frag} {v : V} {i : Bool} (r : bA K T w v (.bl i)) : v = .bl i := by
 cases r
 rfl
theorem HQ {w : Wd} {K : PySem.W.Frag} {v : V} {i : Str} (r : bA K T w v (.str i)) : v = .str i := by
 cases r
 rfl
theorem Bw {K : PySem.W.Frag} {B : Bs} {w : Wd} {σ : L2.St} {H : Hp} {fr : Fr} {h : Hh} {p : Addr} {vs : List V} {ds : List D} {Q : V → Hp → Prop} (R : Rel K T B w σ H fr h) (r : au K T w vs ds) (np : H p = none)
 (q : ∀ w' H' v, w.le w' → Rel K T B w' σ H' fr h → bA K T w' v (.tup ds) → Q v H') : Q (.ref p) (upd H p (.tup vs)) :=
 q (w.add p (.tup vs)) _ _ (Wd.le_add (R.nP np).1) (R.laid np) (.tup (SqT.of (by show upd w.F p _ p = _; rw [upd_same])) (r.mono (Wd.le_add (R.nP np).1)))
theorem yt {K : PySem.W.Frag} {B : Bs} {w : Wd} {σ : L2.St} {H : Hp} {fr : Fr} {h : Hh} {p : Addr} {vs : List V} {ds : List D} {Q : V → Hp → Prop} (R : Rel K T B w σ H fr h) (r : au K T w vs ds) (np : H p = none)
 (q : ∀ w' H' v, w.le w' → Rel K T B w' σ H' fr h → vE K T B σ w' H' fr v (.nl ds) → Q v H') : Q (.ref p) (upd H p (.lst vs)) :=
 q w _ _ (Wd.le_refl w) (R.temp np) (.inr ⟨p, _, rfl, R.own_new np, R.loose_new np, upd_same, .lst r⟩)
theorem lK (sa : aV X T W a ma) (sb : aV X T W b mb) : pX X T W (.BinOp a .Add b pos) (aq dZ ma mb) := fun B w σ H fr h Q r1 p =>
 eE (pe_op Gg bj bj) (Jr (VR := vE) sa sb (fun B w σ H fr h x y d e z Q R rx ry q k => by
  unfold dZ at q
  split at q
  · cases q
    rw [je rx, je ry]
    exact qY op_add ⟨_, _, rfl, rfl, k w H _ (Wd.le_refl _) R (.inl (.int _))⟩
  · split at q
    · rename_i hl
      cases q
      rw [HQ rx, HQ ry]
      exact qY op_add_str ⟨_, _, rfl, rfl, rB hl, k w H _ (Wd.le_refl _) R (.inl (.str _))⟩
    · cases q
  · split at q
    · rename_i ds es hl
      cases q
      obtain ⟨p1, vs, rfl, s1, r1⟩ := vY rx
      obtain ⟨p2, us, rfl, s2, r2⟩ := vY ry
      refine qY op_catA ⟨p1, p2, vs, us, rfl, rfl, dI R.sub s1, dI R.sub s2, by rw [r1.length, r2.length]; exact rB hl, fun e0 => ?_, fun _ e0 => ?_, fun _ _ p np => ?_⟩
      · subst e0
        cases r1
        exact k w H _ (Wd.le_refl _) R (.inl ry)
      · subst e0
        cases r2
        rw [aiQ] at k
        exact k w H _ (Wd.le_refl _) R (.inl rx)
      · exact Bw R (r1.append r2) np fun w' H' v l R' r' => k w' H' v l R' (.inl r')
    · cases q
  · split at q
    · rename_i ds es hl
      cases q
      obtain ⟨p1, vs, rfl, s1, r1⟩ := Jt rx
      obtain ⟨p2, us, rfl, s2, r2⟩ := Jt ry
      refine qY op_cat ⟨p1, p2, vs, us, rfl, rfl, R.sub _ _ s1, R.sub _ _ s2, by rw [r1.length, r2.length]; exact rB hl, fun p np => ?_⟩
      exact yt R (r1.append r2) np k
    · cases q
  · cases q) B w σ H fr h Q r1 p)
def qM (C : Int → Int → Bool) (g : Int → Int → Int) (_ : Hh) : D → D → Option D
 | .int i, .int j => if C i j then some (.int (g i j)) else none
 | _, _ => none
theorem yJ {op : Operator} {P : Int → Int → Prop} {C : Int → Int → Bool} {g : Int → Int → Int} (o : OpR X (binaryOp op) (rI P fun i j => .int (g i j))) (hC : ∀ i j, C i j = true → P i j) (sa : aV X T W a ma) (sb : aV X T W b mb) :
 aV X T W (.BinOp a op b pos) (aq (qM C g) ma mb) := fun B w σ H fr h Q r1 p =>
 eE (pe_op Gg bj bj) (Jr (VR := vV) sa sb (fun B w σ H fr h x y d e z Q R rx ry q k => by
  unfold qM at q
  split at q
  · split at q
    · rename_i hc
      cases q
      rw [je rx, je ry]
      exact qY o ⟨_, _, rfl, rfl, hC _ _ hc, k w H _ (Wd.le_refl _) R (.int _)⟩
    · cases q
  · cases q) B w σ H fr h Q r1 p)
def O8 (_ _ : Int) : Bool := true
def vZ (i j : Int) : Bool := decide (i.natAbs.log2 + j.natAbs.log2 < 1000000)
def O9 (_ j : Int) : Bool := decide (0 < j)
def Gj (_ j : Int) : Bool := decide (0 < j) && decide (j.natAbs.log2 < 9000)
def Mg (i j : Int) : Bool := decide (0 ≤ j) && decide (j ≤ 1000000) && decide (i.natAbs < 2 ^ 64)
abbrev Ju := qM O8 (fun i j => i - j)
abbrev ph := qM vZ (fun i j => i * j)
abbrev Gk := qM O9 (fun i j => i % j)
abbrev Jv := qM Gj (fun i j => i / j)
abbrev Jw := qM Mg (fun i j => i ^ j.toNat)
theorem aaa : OpR X (binaryOp .Sub) (rI (fun _ _ => True) fun i j => .int (i - j)) := fun pins s σ H x y v u Q I rx ry ⟨i, j, e1, e2, _, q⟩ => op_sub pins s σ H x y v u Q I rx ry ⟨i, j, e1, e2, q⟩
theorem Pa (sa : aV X T W a ma) (sb : aV X T W b mb) : aV X T W (.BinOp a .Sub b pos) (aq Ju ma mb) := yJ aaa (fun _ _ _ => trivial) sa sb
theorem rC (sa : aV X T W a ma) (sb : aV X T W b mb) : aV X T W (.BinOp a .Mult b pos) (aq ph ma mb) := yJ op_mulW (fun i j h => by
 have h' : decide (i.natAbs.log2 + j.natAbs.log2 < 1000000) = true := h
 have h2 : i.natAbs.log2 + j.natAbs.log2 < 1000000 := of_decide_eq_true h'
 exact h2) sa sb
theorem BJ (sa : aV X T W a ma) (sb : aV X T W b mb) : aV X T W (.BinOp a .Mod b pos) (aq Gk ma mb) := yJ op_mod (fun _ j h => by
 have h' : decide (0 < j) = true := h
 exact of_decide_eq_true h') sa sb
theorem Ks (sa : aV X T W a ma) (sb : aV X T W b mb) : aV X T W (.BinOp a .FloorDiv b pos) (aq Jv ma mb) := yJ op_fdivW (fun _ _ h => by
 obtain ⟨h1, h2⟩ := Bool.and_eq_true_iff.mp h
 exact ⟨of_decide_eq_true h1, of_decide_eq_true h2⟩) sa sb
theorem Ku (sa : aV X T W a ma) (sb : aV X T W b mb) : aV X T W (.BinOp a .Pow b pos) (aq Jw ma mb) := yJ op_pow (fun _ _ h => by
 obtain ⟨h1, h3⟩ := Bool.and_eq_true_iff.mp h
 obtain ⟨h1, h2⟩ := Bool.and_eq_true_iff.mp h1
 exact ⟨of_decide_eq_true h1, of_decide_eq_true h2, of_decide_eq_true h3⟩) sa sb
def dG : D → Option D
 | .int i => some (.int (-i))
 | _ => none
def aC {α : Type} (f : Hh → D → Option α) (ma : M D) : M α := ma.bind fun x fr h => M.opt (f h x) fr h
theorem Ux {α β : Type} {VR1 : jw V D} {VR : jw β α} {f : Hh → D → Option α} {r : V → Hp → (β → Hp → Prop) → Prop} (sa : fX (WE X a) X.K T W VR1 ma)
 (hr : ∀ B w σ H fr h x d z Q, Rel X.K T B w σ H fr h → VR1 X.K T B σ w H fr x d → f h d = some z → (∀ w' H' v, w.le w' → Rel X.K T B w' σ H' fr h → VR X.K T B σ w' H' fr v z → Q v H') → r x H Q) :
 fX (fun σ H Q => WE X a σ H fun x H1 => r x H1 Q) X.K T W VR (aC f ma) := fun B w σ H fr h Q r1 p =>
 sa B w σ H fr h _ r1 (aW.bind (VR := VR1 X.K T B σ) p fun d fr1 h1 w1 H1 x e1 l1 r1 rx p1 => by
  cases q : f h1 d with
  | none => rw [q] at p1; exact p1.elim
  | some z =>
    rw [q] at p1
    exact hr B w1 σ H1 fr1 h1 x d z Q r1 rx q p1)
theorem oH (sa : aV X T W a ma) : aV X T W (.UnaryOp .USub a pos) (aC (fun _ => dG) ma) := fun B w σ H fr h Q r1 p =>
 eE (pe_un abp bj) (Ux (VR := vV) sa (fun B w σ H fr h x d z Q R rx q k => by
  unfold dG at q
  split at q
  · cases q
    rw [je rx]
    exact ac0 un_neg ⟨_, rfl, k w H _ (Wd.le_refl _) R (.int _)⟩
  · cases q) B w σ H fr h Q r1 p)
def rY (X : Cx) (T : Tb) (VR2 : jw V D) (op : CmpOp) (f : Hh → D → D → Option Bool) : Prop :=
 ∀ B w σ H fr h x y d e c Q, Rel X.K T B w σ H fr h → bA X.K T w x d → VR2 X.K T B σ w H fr y e → f h d e = some c → Q (.bl c) H → rM X (compareOp op) x y H Q
def cInt (p : Int → Int → Bool) (_ : Hh) : D → D → Option Bool
 | .int i, .int j => some (p i j)
 | _, _ => none
theorem HR {op : CmpOp} {p : Int → Int → Bool} (o : OpR X (compareOp op) (rI0 fun i j => .bl (p i j))) : rY X T vV op (cInt p) := fun B w σ H fr h x y d e c Q R rx ry q k => by
 unfold cInt at q
 split at q
 · cases q
   rw [je rx, je ry]
   exact qY o ⟨_, _, rfl, rfl, k⟩
 · cases q
abbrev xQ := cInt fun i j => decide (i < j)
abbrev cLe := cInt fun i j => decide (i ≤ j)
abbrev uI := cInt fun i j => decide (j < i)
abbrev cGe := cInt fun i j => decide (j ≤ i)
theorem cmp_lt : rY X T vV .Lt xQ := HR op_lt
theorem cmp_le : rY X T vV .LtE cLe := HR op_le
theorem cmp_gt : rY X T vV .Gt uI := HR op_gt
theorem cmp_ge : rY X T vV .GtE cGe := HR op_ge
def gU (_ : Hh) (d e : D) : Option Bool := match d.toP, e.toP with
 | some p, some q => if SeqAt.shaped p && SeqAt.shaped q then some (PyData.eqv p q) else none
 | _, _ => none
def zF (h : Hh) (d e : D) : Option Bool := (gU h d e).map (!·)
theorem Pb {h : Hh} {d e : D} {c : Bool} (q : gU h d e = some c) : ∃ p p', d.toP = some p ∧ e.toP = some p' ∧ SeqAt.shaped p = true ∧ SeqAt.shaped p' = true ∧ c = PyData.eqv p p' := by
 unfold gU at q
 split at q
 · rename_i p p' e1 e2
   split at q
   · rename_i hs
     obtain ⟨h1, h2⟩ := Bool.and_eq_true_iff.mp hs
     cases q
     exact ⟨p, p', e1, e2, h1, h2, rfl⟩
   · cases q
 · cases q
theorem cmp_eq (C : Cq X T W k) : rY X T vO .Eq gU := fun B w σ H fr h x y d e c Q R rx ry q kk => by
 obtain ⟨p, p', e1, e2, s1, s2, rfl⟩ := Pb q
 exact qY (op_eqD (by have := C.u; omega)) ⟨p, p', zE R.sub rx e1, V2 R ry e2, s1, s2, kk⟩
theorem Gm (C : Cq X T W k) : rY X T vO .NotEq zF := fun B w σ H fr h x y d e c Q R rx ry q kk => by
 obtain ⟨c', q', rfl⟩ := Option.map_eq_some_iff.mp q
 obtain ⟨p, p', e1, e2, s1, s2, rfl⟩ := Pb q'
 exact qY (op_neD (by have := C.u; omega)) ⟨p, p', zE R.sub rx e1, V2 R ry e2, s1, s2, kk⟩
def D.flat : D → Bool
 | .non => true
 | .bl _ => true
 | .int _ => true
 | .str _ => true
 | _ => false
def D.eqf : D → D → Bool
 | .non, .non => true
 | .bl a, .bl b => a == b
 | .bl a, .int b => (if a then 1 else 0) == b
 | .int a, .bl b => a == (if b then 1 else 0)
 | .int a, .int b => a == b
 | .str a, .str b => a == b
 | _, _ => false
def cIn (h : Hh) (x y : D) : Option Bool := match x, y with
 | .str c, .str z => if c.length = 1 then some (decide (c.cps.toList.headD 0 ∈ z.cps.toList)) else some (!(Builtin.Str.occurrences z c 0 z.length 1).isEmpty)
 | x, y => match y.its h with
   | some l => if x.flat && l.all D.flat then some (l.any fun z => D.eqf z x) else none
   | none => none
def agU (h : Hh) (x y : D) : Option Bool := (cIn h x y).map (!·)
def D.isNon : D → Bool
 | .non => true
 | _ => false
theorem V3 {K : PySem.W.Frag} {w : Wd} {v : V} {d : D} (r : bA K T w v d) : decide (v = .non) = d.isNon := by
 cases r <;> rfl
def zG (_ : Hh) (d e : D) : Option Bool := if e.isNon then some d.isNon else none
def agV (_ : Hh) (d e : D) : Option Bool := if e.isNon then some (!d.isNon) else none
theorem abt {K : PySem.W.Frag} {w : Wd} {v : V} {d : D} (r : bA K T w v d) (h : d.isNon = true) : v = .non := by
 cases r <;> first | rfl | cases h
theorem Pg : rY X T vV .Is zG := fun B w σ H fr h x y d e c Q R rx ry q kk => by
 unfold zG at q
 split at q
 · rename_i he
   cases q
   refine qY op_isN ⟨abt ry he, ?_⟩
   rw [V3 rx]
   exact kk
 · cases q
theorem cV {op : CmpOp} {VR2 : jw V D} {f : Hh → D → D → Option Bool} (o : rY X T VR2 op f) (sa : aV X T W a ma) (sb : fX (WE X b) X.K T W VR2 mb) (hm : behindInMarks op b = false := by with_unfolding_all rfl) :
 vX X T W (.Compare a [op] [b] pos) (aq f ma mb) := fun B w σ H fr h Q r1 p =>
 Oj (pt_cmpR Gg bj bj hm) (Jr (VR := vB) (r := fun x y H Q => rM X (compareOp op) x y H fun z H' => ∃ k, z = .bl k ∧ Q k H') sa sb (fun B w σ H fr h x y d e z Q R rx ry q k =>
  o B w σ H fr h x y d e z _ R rx ry q ⟨z, rfl, k w H z (Wd.le_refl _) R rfl⟩) B w σ H fr h Q r1 p)
def mBl (m : M Bool) : M D := m.bind fun b => M.ret (.bl b)
theorem V4 {op : CmpOp} {VR2 : jw V D} {f : Hh → D → D → Option Bool} (o : rY X T VR2 op f) (sa : aV X T W a ma) (sb : fX (WE X b) X.K T W VR2 mb) (hm : behindInMarks op b = false := by with_unfolding_all rfl) :
 aV X T W (.Compare a [op] [b] pos) (aq (fun h x y => (f h x y).map .bl) ma mb) := fun B w σ H fr h Q r1 p =>
 eE (pe_cmpR Gg bj bj hm) (Jr (VR := vV) sa sb (fun B w σ H fr h x y d e z Q R rx ry q k => by
  obtain ⟨c, q', rfl⟩ := Option.map_eq_some_iff.mp q
  exact o B w σ H fr h x y d e c _ R rx ry q' (k w H _ (Wd.le_refl _) R (.bl c))) B w σ H fr h Q r1 p)
def aeE (f g : Hh → D → D → Option Bool) (ma mb mc : M D) : M Bool := ma.bind fun x => mb.bind fun y fr h => match f h x y with
 | some true => (mc.bind fun z fr h => M.opt (g h y z) fr h) fr h
 | some false => .ok false fr h
 | none => .err
def D.tb : D → Option Bool
 | .bl b => some b
 | _ => none
theorem V5 {K : PySem.W.Frag} {B : Bs} {σ : L2.St} {w : Wd} {H : Hp} {fr : Fr} {v : V} {d : D} {b : Bool} (r : vO K T B σ w H fr v d) (e : d.tb = some b) : v = .bl b := by
 rcases r with r | ⟨_, _, _, _, r⟩
 · cases r <;> first | (cases e; rfl) | cases e
 · cases r <;> cases e
def D.tru (h : Hh) (d : D) : Option Bool := match d with
 | .non => some false
 | .bl b => some b
 | .int i => some (i != 0)
 | .str z => if z.length ≤ big then some ((z.length : Int) != 0) else none
 | d => (d.its h).map fun l => !l.isEmpty
theorem Nt {K : PySem.W.Frag} {w : Wd} {vs : List V} {ds : List D} (r : au K T w vs ds) : vs.isEmpty = ds.isEmpty := by
 cases r <;> rfl
theorem yK (s : z9 X T W e m) (he : ∀ whole, isTrue e X.env whole = (do let v ← whole; standAt e.pos; holding [v] (truthy v)) := by intro _; rfl) : vX X T W e (aC D.tru m) := fun B w σ H fr h Q r1 p =>
 Oj (pt_truth bj he) (Ux (VR := vB) (r := fun x H Q => ∃ k, TruV X.K x H k ∧ Q k H) s (fun B w σ H fr h x d z Q R rx q k => by
  refine ⟨z, ?_, k w H z (Wd.le_refl _) R rfl⟩
  have viaIts : ∀ {l : List D}, d.its h = some l → (!l.isEmpty) = z → TruV X.K x H z := fun {l} el ez => by
   obtain ⟨p, vs, rfl, rl, sq⟩ := HJ R rx el
   rcases sq with sq | sq
   · exact .inl ⟨vs, sq, by rw [← ez, Nt rl]⟩
   · exact .inr (.inl ⟨vs, sq, by rw [← ez, Nt rl]⟩)
  unfold D.tru at q
  split at q
  · rcases rx with rx | ⟨_, _, _, _, rx⟩
    · cases rx
      cases q
      rfl
    · cases rx
  · rcases rx with rx | ⟨_, _, _, _, rx⟩
    · cases rx
      cases q
      rfl
    · cases rx
  · rcases rx with rx | ⟨_, _, _, _, rx⟩
    · cases rx
      cases q
      rfl
    · cases rx
  · split at q
    · rename_i hl
      rcases rx with rx | ⟨_, _, _, _, rx⟩
      · cases rx
        cases q
        exact ⟨rB hl, rfl⟩
      · cases rx
    · cases q
  · obtain ⟨l, e1, e2⟩ := Option.map_eq_some_iff.mp q
    exact viaIts e1 e2) B w σ H fr h Q r1 p)
def xH (m : M Bool) : M Bool := m.bind fun b => M.ret !b
def m7 (m n : M Bool) : M Bool := m.bind fun b => if b then n else M.ret false
def rE (m n : M Bool) : M Bool := m.bind fun b => if b then M.ret true else n
variable {n ta tb tc : M Bool} {rest : List Expr}
theorem Kv (s : vX X T W a n) : vX X T W (.UnaryOp .Not a pos) (xH n) := fun B w σ H fr h Q r1 p =>
 Oj (pt_not uH) (s B w σ H fr h _ r1 (aW.bind (VR := vB X.K T B σ) p fun d fr1 h1 w1 H1 x e1 l1 r1 rx p1 => by
  have rx' : x = d := rx
  subst rx'
  exact p1 w1 H1 _ (Wd.le_refl _) r1 rfl))
theorem o7 (s : Jq X T W e n) : vX X T W e n := fun B w σ H fr h Q r1 p => Oj O7.pt (s B w σ H fr h Q r1 p)
theorem ue (s : vX X T W a ta) : Jq X T W (.BoolOp .And [a] pos) ta := fun B w σ H fr h Q r1 p => Ol (pw_and1 uH) (s B w σ H fr h Q r1 p)
theorem wR (s : vX X T W a ta) : Jq X T W (.BoolOp .Or [a] pos) ta := fun B w σ H fr h Q r1 p => Ol (pw_or1 uH) (s B w σ H fr h Q r1 p)
theorem wU (s : vX X T W a ta) (t : Jq X T W (.BoolOp .And (b :: rest) pos) tb) : Jq X T W (.BoolOp .And (a :: b :: rest) pos) (m7 ta tb) := fun B w σ H fr h Q r1 p =>
 Ol (pw_and uH O7) (s B w σ H fr h _ r1 (aW.bind (VR := vB X.K T B σ) p fun d fr1 h1 w1 H1 x e1 l1 r1 rx p1 => by
  have rx' : x = d := rx
  subst rx'
  cases x with
  | true => exact t B w1 σ H1 fr1 h1 Q r1 p1
  | false => exact p1 w1 H1 false (Wd.le_refl _) r1 rfl))
theorem xY (s : vX X T W a ta) (t : Jq X T W (.BoolOp .Or (b :: rest) pos) tb) : Jq X T W (.BoolOp .Or (a :: b :: rest) pos) (rE ta tb) := fun B w σ H fr h Q r1 p =>
 Ol (pw_or uH O7) (s B w σ H fr h _ r1 (aW.bind (VR := vB X.K T B σ) p fun d fr1 h1 w1 H1 x e1 l1 r1 rx p1 => by
  have rx' : x = d := rx
  subst rx'
  cases x with
  | false => exact t B w1 σ H1 fr1 h1 Q r1 p1
  | true => exact p1 w1 H1 true (Wd.le_refl _) r1 rfl))
def HS (m : M D) : M D := m.bind fun d => M.opt (d.tb.map fun b => .bl (!b))
def HW (m n : M D) : M D := m.bind fun d => match d.tb with
 | some true => n
 | some false => M.ret (.bl false)
 | none => M.opt none
def agW (m n : M D) : M D := m.bind fun d => match d.tb with
 | some true => M.ret (.bl true)
 | some false => n
 | none => M.opt none
theorem abu {op : BoolOp} (s : aV X T W a ma) : aV X T W (.BoolOp op [a] pos) ma := fun B w σ H fr h Q r1 p => eE (pe_one bj) (s B w σ H fr h Q r1 p)
theorem abv (s : aV X T W a ma) : aV X T W (.UnaryOp .Not a pos) (HS ma) := fun B w σ H fr h Q r1 p =>
 eE (pe_not bj) (s B w σ H fr h _ r1 (aW.bind (VR := vV X.K T B σ) p fun d fr1 h1 w1 H1 x e1 l1 r1 rx p1 => by
  cases q : d.tb with
  | none => rw [q] at p1; exact p1.elim
  | some c =>
    rw [q] at p1
    exact ⟨c, V5 (fr := fr1) (B := B) (σ := σ) (H := H1) (.inl rx) q, p1 w1 H1 _ (Wd.le_refl _) r1 (.bl _)⟩))
theorem abw (s : aV X T W a ma) (t : aV X T W (.BoolOp .And (b :: rest) pos) mb) : aV X T W (.BoolOp .And (a :: b :: rest) pos) (HW ma mb) := fun B w σ H fr h Q r1 p =>
 eE (pe_and bj bj) (s B w σ H fr h _ r1 (aW.bind (VR := vV X.K T B σ) p fun d fr1 h1 w1 H1 x e1 l1 r1 rx p1 => by
  cases q : d.tb with
  | none => rw [q] at p1; exact p1.elim
  | some c =>
    rw [q] at p1
    refine ⟨c, V5 (fr := fr1) (B := B) (σ := σ) (H := H1) (.inl rx) q, ?_⟩
    cases c with
    | true => exact t B w1 σ H1 fr1 h1 Q r1 p1
    | false => exact p1 w1 H1 _ (Wd.le_refl _) r1 (.bl _)))
def yL {α : Type} (t : M Bool) (m n : M α) : M α := t.bind fun b => if b then m else n
theorem s_if {VR : jw V D} (st : vX X T W c tc) (sa : fX (WE X a) X.K T W VR ma) (sb : fX (WE X b) X.K T W VR mb) : fX (WE X (.IfExp c a b pos)) X.K T W VR (yL tc ma mb) := fun B w σ H fr h Q r1 p =>
 eE (pe_ifExp uH bj bj) (st B w σ H fr h _ r1 (aW.bind (VR := vB X.K T B σ) p fun d fr1 h1 w1 H1 x e1 l1 r1 rx p1 => by
  have rx' : x = d := rx
  subst rx'
  cases x with
  | true => exact sa B w1 σ H1 fr1 h1 Q r1 p1
  | false => exact sb B w1 σ H1 fr1 h1 Q r1 p1))
def ac1 : Expr → Bool
 | .Starred .. => true
 | _ => false
theorem dJ {e : Expr} {es : List Expr} {env : Env} (h : ac1 e = false) : starEach (e :: es) env = (false, eval e env) :: starEach es env := by
 cases e <;> first | (cases h; done) | rfl
def ak : List (M D) → M (List D)
 | [] => M.ret []
 | m :: ms => m.bind fun d => (ak ms).bind fun ds => M.ret (d :: ds)
variable {ms : List (M D)}
theorem bH : Gh X T W [] (ak []) := fun B w σ H fr h Q r1 p => Om pa_nil (p w H _ (Wd.le_refl _) r1 .nil)
theorem aG (s : aV X T W e m) (t : Gh X T W es (ak ms)) (hs : starEach (e :: es) X.env = (false, eval e X.env) :: starEach es X.env := by exact dJ rfl) : Gh X T W (e :: es) (ak (m :: ms)) := fun B w σ H fr h Q r1 p =>
 Om (pa_cons bj Gf hs) (s B w σ H fr h _ r1 (aW.bind (VR := vV X.K T B σ) p fun d fr1 h1 w1 H1 x e1 l1 r1 rx p1 =>
  t B w1 σ H1 fr1 h1 _ r1 (aW.bind (VR := vA X.K T B σ) p1 fun ds fr2 h2 w2 H2 vs e2 l2 r2 rs p2 => p2 w2 H2 _ (Wd.le_refl _) r2 (.cons (rx.mono l2) rs))))
def Aa (ms : List (M D)) : M D := (ak ms).bind fun ds => M.opt (if ds.length ≤ big then some (.tup ds) else none)
def dD (ms : List (M D)) : M D := (ak ms).bind fun ds => M.opt (if ds.length ≤ big then some (.nl ds) else none)
theorem Ph {x1 : Nat} (s : Gh X T W es (ak ms)) : aV X T W (.Tuple es x1 pos) (Aa ms) := fun B w σ H fr h Q r1 p =>
 eE (pe_tup Gf) (s B w σ H fr h _ r1 (aW.bind (VR := vA X.K T B σ) p fun ds fr1 h1 w1 H1 vs e1 l1 r1 rs p1 => by
  by_cases hl : ds.length ≤ big
  · rw [if_pos hl] at p1
    exact ⟨by rw [au.length rs]; exact rB hl, fun q nq => Bw r1 rs nq p1⟩
  · rw [if_neg hl] at p1
    exact p1.elim))
theorem iW (s : Gh X T W es (ak ms)) : pX X T W (.List es pos) (dD ms) := fun B w σ H fr h Q r1 p =>
 eE (pe_lst Gf) (s B w σ H fr h _ r1 (aW.bind (VR := vA X.K T B σ) p fun ds fr1 h1 w1 H1 vs e1 l1 r1 rs p1 => by
  by_cases hl : ds.length ≤ big
  · rw [if_pos hl] at p1
    exact ⟨by rw [au.length rs]; exact rB hl, fun q nq => yt r1 rs nq p1⟩
  · rw [if_neg hl] at p1
    exact p1.elim))
end
end Pk
namespace Pk
open PySem PySem.Spec L2
section
variable {X : Cx} {T : Tb} {W : WX} {k : Nat} {e a b c o : Expr} {es : List Expr} {m ma mb mc : M D} {pos p2 pf : Pos}
def aP (h : Hh) (d i : D) : Option D := match d, i with
 | .str z, .int i => if z.length ≤ big then (atI z.cps.toList i).map fun c => .str ⟨#[c]⟩ else none
 | d, .int i => match d.its h with
   | some l => atI l i
   | none => none
 | _, _ => none
def ixM (X : Cx) : R2 := fun x y H Q => ∀ value slice pins s σ v u, Inv X pins σ H s → RelV x v → RelV y u → subscripted slice false v u = operate [v, u] (getItem v u) → wpAny (model X.prog X.w) X.A (PyProof.Rows.subscriptTail value slice v u) (EP X pins σ Q) X.xe s
theorem V6 : IxR X (ixM X) := fun value slice pins s σ H x y v u Q I rx ry h hs => h value slice pins s σ v u I rx ry hs
theorem Pj {r : R2} (o : IxR X r) {x y : V} {H : Hp} {Q : VK} (h : r x y H Q) : ixM X x y H Q := fun value slice pins s σ v u I rx ry hs => o value slice pins s σ H x y v u Q I rx ry h hs
theorem aab {K : PySem.W.Frag} {w : Wd} {vs : List V} {ds : List D} {i : Int} {d : D} (r : au K T w vs ds) (e : atI ds i = some d) : ∃ v, atI vs i = some v ∧ bA K T w v d := by
 unfold atI at e ⊢
 rw [r.length]
 cases q : ixN ds.length i with
 | none => rw [q] at e; cases e
 | some j =>
   rw [q] at e
   exact r.get (show ds[j]? = some d from e)
theorem V7 {K : PySem.W.Frag} {B : Bs} {σ : L2.St} {w : Wd} {H : Hp} {fr : Fr} {v : V} {z : Str} (r : vO K T B σ w H fr v (.str z)) : v = .str z := by
 rcases r with r | ⟨_, _, _, _, r⟩
 · exact HQ r
 · cases r
theorem V8 {B : Bs} {w : Wd} {σ : L2.St} {H : Hp} {fr : Fr} {h : Hh} {x y : V} {d i z : D} {Q : VK} (R : Rel X.K T B w σ H fr h) (rx : vO X.K T B σ w H fr x d) (ry : bA X.K T w y i) (q : aP h d i = some z)
 (k : ∀ v, bA X.K T w v z → Q v H) : ixM X x y H Q := by
 unfold aP at q
 split at q
 · rename_i z' i'
   split at q
   · rename_i hl
     obtain ⟨c, ec, rfl⟩ := Option.map_eq_some_iff.mp q
     rw [V7 rx, je ry]
     exact Pj ix_str ⟨z', i', c, rfl, rfl, rB hl, ec, k _ (.str _)⟩
   · cases q
 · rename_i i' _
   split at q
   · rename_i l el
     obtain ⟨p, vs, rfl, rl, sq⟩ := HJ R rx el
     obtain ⟨v, ev, rv⟩ := aab rl q
     rw [je ry]
     rcases sq with sq | sq
     · exact Pj ix_list ⟨p, vs, i', v, rfl, rfl, sq, ev, k v rv⟩
     · exact Pj ix_tup ⟨p, vs, i', v, rfl, rfl, sq, ev, k v rv⟩
   · cases q
 · cases q
theorem gH (sa : aV X T W a ma) (sb : aV X T W b mb) (hs : PlainIx b := by intro _ _; rfl) : aV X T W (.Subscript a b pos) (aq aP ma mb) := fun B w σ H fr h Q r1 p =>
 eE (pe_ix V6 bj bj hs) (Jr (VR := vV) sa sb (fun B w σ H fr h x y d e z Q R rx ry q k => V8 R (.inl rx) ry q fun v rv => k w H v (Wd.le_refl _) R rv) B w σ H fr h Q r1 p)
def m9 (i : Nat) : M Unit := fun fr h => match fr[i]? with
 | some (some _) => .ok () fr h
 | _ => .err
def cZ {α : Type} (i : Nat) (m : M α) (f : Hh → D → α → Option D) : M D := (m9 i).bind fun _ => m.bind fun y => (aM i).bind fun d fr h => M.opt (f h d y) fr h
theorem XJ {K : PySem.W.Frag} {B : Bs} {w : Wd} {σ : L2.St} {H : Hp} {fr : Fr} {h : Hh} {i : Nat} {α β : Type} {VR : Wd → Hp → Fr → β → α → Prop} {m : M α} {Q : β → Hp → Prop} (R : Rel K T B w σ H fr h) (p : aW K T B W VR w σ ((m9 i).bind (fun _ => m) fr h) Q) :
 (∃ v, σ[i]? = some (some v)) ∧ aW K T B W VR w σ (m fr h) Q := by
 cases e1 : fr[i]? with
 | none =>
   have q : m9 i fr h = .err := by unfold m9; rw [e1]
   rw [M.bind_err q] at p
   exact p.elim
 | some o =>
   cases o with
   | none =>
     have q : m9 i fr h = .err := by unfold m9; rw [e1]
     rw [M.bind_err q] at p
     exact p.elim
   | some d =>
     have q : m9 i fr h = .ok () fr h := by unfold m9; rw [e1]
     rw [M.bind_ok q] at p
     obtain ⟨v, e2, z⟩ := jA R e1
     exact ⟨⟨v, e2⟩, p⟩
theorem XM {K : PySem.W.Frag} {B : Bs} {w : Wd} {σ : L2.St} {H : Hp} {fr : Fr} {h : Hh} {i : Nat} {v : V} {α β : Type} {VR : Wd → Hp → Fr → β → α → Prop} {f : D → M α} {Q : β → Hp → Prop} (R : Rel K T B w σ H fr h) (ev : σ[i]? = some (some v))
 (p : aW K T B W VR w σ ((aM i).bind f fr h) Q) : ∃ d, vO K T B σ w H fr v d ∧ aW K T B W VR w σ (f d fr h) Q := by
 cases e1 : fr[i]? with
 | none =>
   have q : aM i fr h = .err := by unfold aM; rw [e1]
   rw [M.bind_err q] at p
   exact p.elim
 | some o =>
   cases o with
   | none =>
     have q : aM i fr h = .err := by unfold aM; rw [e1]
     rw [M.bind_err q] at p
     exact p.elim
   | some d =>
     have q : aM i fr h = .ok d fr h := by unfold aM; rw [e1]
     rw [M.bind_ok q] at p
     obtain ⟨v', e2, z⟩ := jA R e1
     rw [ev] at e2
     cases e2
     refine ⟨d, ?_, p⟩
     cases z with
     | val rd => exact .inl rd
     | own O eH rd => exact .inr ⟨_, _, rfl, eH, rd⟩
theorem fJ (i : Nat) {x : Str} {px : Pos} (sb : aV X T W b mb) (hs : PlainIx b := by intro _ _; rfl) (hN : X.N[i]? = some x := by rfl) (hv : Vis X.env.scope x := by first | exact Or.inl rfl | exact Or.inr (Or.inl rfl) | exact Or.inr (Or.inr rfl)) (hd : (x == ("__debug__" : Str)) = false := by decide)
 (hcd : (x == ("__classdict__" : Str)) = false := by decide) : aV X T W (.Subscript (.Name x px) b pos) (cZ i mb aP) := fun B w σ H fr h Q r1 p => by
 obtain ⟨⟨v, ev⟩, p⟩ := XJ r1 p
 refine eE (pe_ix V6 (pe_var hN hv hd hcd) bj hs) ⟨v, ev, sb B w σ H fr h _ r1 (aW.bind (VR := vV X.K T B σ) p fun y fr1 h1 w1 H1 u e1 l1 r2 ru p1 => ?_)⟩
 obtain ⟨d, rd, p2⟩ := XM r2 ev p1
 cases q : aP h1 d y with
 | none => rw [q] at p2; exact p2.elim
 | some z =>
   rw [q] at p2
   exact V8 r2 rd ru q fun v' rv => p2 w1 H1 v' (Wd.le_refl _) r2 rv
def slM (X : Cx) : V → Option Int → Option Int → Hp → VK → Prop := fun x lo hi H Q => ∀ pins s σ v vl vu sl, Inv X pins σ H s → RelV x v → s.heap.IsSliceOf sl vl vu .none → IsPart vl lo → IsPart vu hi →
    ∃ T id, typeLookup (.type T) "__getitem__" = pure (some (.builtin id)) ∧ s.TypeIs v T ∧ wpAny (model X.prog X.w) X.A (getItem v (.ref sl)) (EP X pins σ Q) X.xe s
def WO (X : Cx) (e : Option Expr) : TO := fun σ H Q => ∀ pins s, Inv X pins σ H s → wpAny (model X.prog X.w) X.A (evalPart e X.env) (fun u s' => ∃ o H', Inv X pins σ H' s' ∧ IsPart u o ∧ Q o H') X.xe s
def vI : jw (Option Int) (Option Int) := fun _ _ _ _ _ _ _ b c => b = c
abbrev agX (X : Cx) (T : Tb) (W : WX) (e : Option Expr) (m : M (Option Int)) : Prop := fX (WO X e) X.K T W vI m
def mPn : M (Option Int) := M.ret none
def mPs (m : M D) : M (Option Int) := m.bind fun d => M.opt (match d with | .int i => some (some i) | _ => none)
def cutD {α : Type} (xs : List α) (lo hi : Option Int) : List α := (xs.drop (HT.sIx xs.length 0 lo)).take (HT.sIx xs.length xs.length hi - HT.sIx xs.length 0 lo)
def adS (h : Hh) (d : D) (p : Option Int × Option Int) : Option D := match d with
 | .str z => if z.length ≤ big then some (.str (cutS z p.1 p.2)) else none
 | .tup l => some (.tup (cutD l p.1 p.2))
 | d => match d.der h with
   | .fl l => some (.nl (cutD l p.1 p.2))
   | .nl l => some (.nl (cutD l p.1 p.2))
   | .kl l => some (.nl (cutD l p.1 p.2))
   | _ => none
theorem yu {K : PySem.W.Frag} {B : Bs} {w : Wd} {σ : L2.St} {H : Hp} {fr : Fr} {h : Hh} {v : V} {d : D} {l : List D} (R : Rel K T B w σ H fr h) (z : vO K T B σ w H fr v d) (e : d.der h = .fl l ∨ d.der h = .nl l ∨ d.der h = .kl l) :
 ∃ p vs, v = .ref p ∧ au K T w vs l ∧ SqL K H p vs := by
 rcases z with z | ⟨p, o, rfl, eH, z⟩
 · cases z with
   | fl s r =>
     rcases e with e | e | e <;> cases e
     exact ⟨_, _, rfl, r, SqL.of (R.sub _ _ s)⟩
   | kl s r =>
     rcases e with e | e | e <;> cases e
     exact ⟨_, _, rfl, r, fL R.sub s⟩
   | @ref a n s =>
     have ln : n < h.length := by
      rw [← R.len]
      exact (List.getElem?_eq_some_iff.mp s).1
     obtain ⟨o, q, rr⟩ := R.cel n a h[n] s (aiO ln)
     have e0 : D.der h (.ref n) = h[n] := by
      unfold D.der
      dsimp only
      rw [aiO ln]
      rfl
     rw [e0] at e
     generalize h[n] = c at rr e
     cases rr with
     | lst r =>
       rcases e with e | e | e <;> cases e
       exact ⟨_, _, rfl, r, SqL.of q⟩
     | obj r => rcases e with e | e | e <;> cases e
     | dct _ r => rcases e with e | e | e <;> cases e
     | dkt _ r => rcases e with e | e | e <;> cases e
     | so0 _ => rcases e with e | e | e <;> cases e
     | so1 _ _ => rcases e with e | e | e <;> cases e
     | hid0 => rcases e with e | e | e <;> cases e
     | hid1 => rcases e with e | e | e <;> cases e
   | _ => rcases e with e | e | e <;> cases e
 · cases z with
   | lst r =>
     rcases e with e | e | e <;> cases e
     exact ⟨_, _, rfl, r, SqL.of eH⟩
   | obj r => rcases e with e | e | e <;> cases e
def afG (ml mh : M (Option Int)) : M (Option Int × Option Int) := ml.bind fun l => mh.bind fun u => M.ret (l, u)
variable {lo hi : Option Expr} {ml mh : M (Option Int)}
def agY (ma : M D) (ml mh : M (Option Int)) : M D := ma.bind fun d => ml.bind fun l => mh.bind fun u fr h => M.opt (adS h d (l, u)) fr h
variable {x : Str}
theorem XN {VR1 VR : jw V D} {id : String} {f : Hh → D → Option D} (sa : fX (WE X a) X.K T W VR1 ma) (hr : ∀ B w σ H fr h x d z Q, Rel X.K T B w σ H fr h → VR1 X.K T B σ w H fr x d → f h d = some z → (∀ w' H' v, w.le w' → Rel X.K T B w' σ H' fr h → VR X.K T B σ w' H' fr v z → Q v H') → cM X (.builtin id) [x] H Q)
 (hm : X.mg x = none) (hg : Gl X x := by rfl) (hv : bootBuiltins x = some (.builtin id) := by decide +kernel) (hn : x ≠ "__name__" := by decide) (hdb : (x == ("__debug__" : Str)) = false := by decide)
 (he : starEach (a :: []) X.env = (false, eval a X.env) :: starEach [] X.env := by exact dJ rfl) (hpl : (backTo pos (starEach [] X.env)).any (·.1) = false := by rfl) : fX (WE X (.Call (.Name x pf) [a] [] pos)) X.K T W VR (aC f ma) := fun B w σ H fr h Q r1 p =>
 eE (pe_callB Jp hg hm hv (pa_cons bj pa_nil he) hn hdb he hpl) (Ux (r := fun x H Q => cM X (.builtin id) [x] H Q) sa hr B w σ H fr h Q r1 p)
theorem Uy {VR1 VR : jw V D} {id : String} {f : Hh → D → Option D} (sa : fX (WE X a) X.K T W VR1 ma) (hr : ∀ B w σ H fr h x d z Q, Rel X.K T B w σ H fr h → VR1 X.K T B σ w H fr x d → f h d = some z → (∀ w' H' v, w.le w' → Rel X.K T B w' σ H' fr h → VR X.K T B σ w' H' fr v z → Q v H') → cM X (.type id) [x] H Q)
 (hm : X.mg x = none) (hg : Gl X x := by rfl) (hv : bootBuiltins x = some (.type id) := by decide +kernel) (hn : x ≠ "__name__" := by decide) (hdb : (x == ("__debug__" : Str)) = false := by decide)
 (he : starEach (a :: []) X.env = (false, eval a X.env) :: starEach [] X.env := by exact dJ rfl) (hpl : (backTo pos (starEach [] X.env)).any (·.1) = false := by rfl) : fX (WE X (.Call (.Name x pf) [a] [] pos)) X.K T W VR (aC f ma) := fun B w σ H fr h Q r1 p =>
 eE (pe_callTy Jp hg hm hv (pa_cons bj pa_nil he) hn hdb he hpl) (Ux (r := fun x H Q => cM X (.type id) [x] H Q) sa hr B w σ H fr h Q r1 p)
def bO (h : Hh) (d : D) : Option D := match d with
 | .str z => if z.length ≤ big then some (.int z.length) else none
 | d => (d.its h).map fun l => .int l.length
theorem gJ (sa : z9 X T W a ma) (hm : X.mg "len" = none) (hg : Gl X "len" := by rfl) (he : starEach (a :: []) X.env = (false, eval a X.env) :: starEach [] X.env := by exact dJ rfl) : aV X T W (.Call (.Name "len" pf) [a] [] pos) (aC bO ma) :=
 XN (id := "len") sa (fun B w σ H fr h x d z Q R rx q k => by
  unfold bO at q
  split at q
  · split at q
    · rename_i hl
      cases q
      rw [V7 rx]
      exact gR call_len_str ⟨_, rfl, rB hl, k w H _ (Wd.le_refl _) R (.int _)⟩
    · cases q
  · obtain ⟨l, el, rfl⟩ := Option.map_eq_some_iff.mp q
    obtain ⟨p, vs, rfl, rl, sq⟩ := HJ R rx el
    refine gR call_len_seq ⟨p, vs, rfl, sq, ?_⟩
    rw [rl.length]
    exact k w H _ (Wd.le_refl _) R (.int _)) hm hg (by decide +kernel) (by decide) (by decide) he
def o8 (_ : Hh) (d : D) : Option D := match d with
 | .int i => some (.int i)
 | .bl b => some (.int (if b then 1 else 0))
 | .str z => if z.length ≤ 640 then (PySem.intText? z).map .int else none
 | _ => none
theorem yw (sa : aV X T W a ma) (hm : X.mg "int" = none) (hg : Gl X "int" := by rfl) (he : starEach (a :: []) X.env = (false, eval a X.env) :: starEach [] X.env := by exact dJ rfl) : aV X T W (.Call (.Name "int" pf) [a] [] pos) (aC o8 ma) :=
 Uy (id := "int") sa (fun B w σ H fr h x d z Q R rx q k => by
  unfold o8 at q
  split at q
  · cases q
    rw [je rx]
    exact gR call_int1 (.inl ⟨_, rfl, k w H _ (Wd.le_refl _) R (.int _)⟩)
  · cases q
    rw [abq rx]
    exact gR call_int1 (.inr ⟨_, rfl, k w H _ (Wd.le_refl _) R (.int _)⟩)
  · split at q
    · rename_i hl
      obtain ⟨n, en, rfl⟩ := Option.map_eq_some_iff.mp q
      rw [HQ rx]
      exact gR call_int_str ⟨_, n, rfl, en, hl, k w H _ (Wd.le_refl _) R (.int _)⟩
    · cases q
  · cases q) hm hg (by decide +kernel) (by decide) (by decide) he
def Jx (_ : Hh) (d : D) : Option D := match d with
 | .int i => some (.int (if i < 0 then -i else i))
 | _ => none
theorem V9 (sa : aV X T W a ma) (hm : X.mg "abs" = none) (hg : Gl X "abs" := by rfl) (he : starEach (a :: []) X.env = (false, eval a X.env) :: starEach [] X.env := by exact dJ rfl) : aV X T W (.Call (.Name "abs" pf) [a] [] pos) (aC Jx ma) :=
 XN (id := "abs") sa (fun B w σ H fr h x d z Q R rx q k => by
  unfold Jx at q
  split at q
  · cases q
    rw [je rx]
    exact gR call_abs ⟨_, rfl, k w H _ (Wd.le_refl _) R (.int _)⟩
  · cases q) hm hg (by decide +kernel) (by decide) (by decide) he
def Kw (h : Hh) (d : D) : Option D := (d.its h).map .nl
theorem aac (sa : z9 X T W a ma) (hm : X.mg "list" = none) (hg : Gl X "list" := by rfl) (he : starEach (a :: []) X.env = (false, eval a X.env) :: starEach [] X.env := by exact dJ rfl) : pX X T W (.Call (.Name "list" pf) [a] [] pos) (aC Kw ma) :=
 Uy (id := "list") sa (fun B w σ H fr h x d z Q R rx q k => by
  obtain ⟨l, el, rfl⟩ := Option.map_eq_some_iff.mp q
  obtain ⟨p, vs, rfl, rl, sq⟩ := HJ R rx el
  exact gR call_list_of ⟨p, vs, rfl, sq, fun q nq => yt R rl nq k⟩) hm hg (by decide +kernel) (by decide) (by decide) he
def yM (h : Hh) (d : D) : Option D := (d.its h).map .tup
theorem Pn (sa : z9 X T W a ma) (hm : X.mg "tuple" = none) (hg : Gl X "tuple" := by rfl) (he : starEach (a :: []) X.env = (false, eval a X.env) :: starEach [] X.env := by exact dJ rfl) : aV X T W (.Call (.Name "tuple" pf) [a] [] pos) (aC yM ma) :=
 Uy (id := "tuple") sa (fun B w σ H fr h x d z Q R rx q k => by
  obtain ⟨l, el, rfl⟩ := Option.map_eq_some_iff.mp q
  cases hd : d.der h with
  | tup l' =>
    have ed : d = .tup l' := by
     rcases rx with rx | ⟨_, _, _, _, rr⟩
     · cases rx with
       | tup s r => exact hd
       | @ref a n s =>
         have ln : n < h.length := by
          rw [← R.len]
          exact (List.getElem?_eq_some_iff.mp s).1
         obtain ⟨o, q, rr⟩ := R.cel n a h[n] s (aiO ln)
         have e0 : D.der h (.ref n) = h[n] := by
          unfold D.der
          dsimp only
          rw [aiO ln]
          rfl
         rw [e0] at hd
         rw [hd] at rr
         cases rr
       | _ => cases hd
     · cases rr <;> cases hd
    subst ed
    cases el
    rcases rx with rx | ⟨_, _, _, _, rr⟩
    · obtain ⟨p, vs, rfl, s, rl⟩ := vY rx
      exact gR call_tuple_of ⟨p, vs, rfl, .inr ⟨dI R.sub s, k w H _ (Wd.le_refl _) R rx⟩⟩
    · cases rr
  | tp l' =>
    have ed : d = .tp l' := by
     rcases rx with rx | ⟨_, _, _, _, rr⟩
     · cases rx with
       | tp s r => exact hd
       | @ref a n s =>
         have ln : n < h.length := by
          rw [← R.len]
          exact (List.getElem?_eq_some_iff.mp s).1
         obtain ⟨o, q, rr⟩ := R.cel n a h[n] s (aiO ln)
         have e0 : D.der h (.ref n) = h[n] := by
          unfold D.der
          dsimp only
          rw [aiO ln]
          rfl
         rw [e0] at hd
         rw [hd] at rr
         cases rr
       | _ => cases hd
     · cases rr <;> cases hd
    subst ed
    cases el
    rcases rx with rx | ⟨_, _, _, _, rr⟩
    · cases rx with
      | tp s rl => exact gR call_tuple_of ⟨_, _, rfl, .inr ⟨.inl (.inl (R.sub _ _ s)), k w H _ (Wd.le_refl _) R (.tup (.inl (.inl s)) rl)⟩⟩
    · cases rr
  | _ =>
    have el' := el
    unfold D.its at el'
    rw [hd] at el'
    first
     | (cases el'; done)
     | (cases el'
        obtain ⟨p, vs, rfl, rl, sq⟩ := yu R rx (by first | exact .inl hd | exact .inr (.inl hd) | exact .inr (.inr hd))
        exact gR call_tuple_of ⟨p, vs, rfl, .inl ⟨sq, fun q nq => Bw R rl nq k⟩⟩)) hm hg (by decide +kernel) (by decide) (by decide) he
def D.ints : List D → Option (List Int)
 | [] => some []
 | .int i :: r => (D.ints r).map (i :: ·)
 | _ :: _ => none
theorem ints_map : ∀ {l : List D} {is : List Int}, D.ints l = some is → l = is.map D.int
 | [], is, e => by cases e; rfl
 | d :: r, is, e => by
   cases d with
   | int i =>
     unfold D.ints at e
     obtain ⟨js, ej, rfl⟩ := Option.map_eq_some_iff.mp e
     rw [ints_map ej]
     rfl
   | _ => cases e
def D.lints (h : Hh) (d : D) : Option (List Int) := match d.der h with
 | .fl l => D.ints l
 | .nl l => D.ints l
 | .kl l => D.ints l
 | _ => none
theorem Wb {K : PySem.W.Frag} {B : Bs} {w : Wd} {σ : L2.St} {H : Hp} {fr : Fr} {h : Hh} {v : V} {d : D} {is : List Int} (R : Rel K T B w σ H fr h) (z : vO K T B σ w H fr v d) (e : d.lints h = some is) : ∃ p, v = .ref p ∧ SqL K H p (is.map V.int) := by
 unfold D.lints at e
 split at e
 · rename_i l el
   obtain ⟨p, vs, rfl, rl, sq⟩ := yu R z (.inl el)
   rw [ints_map e] at rl
   rw [rl.ints] at sq
   exact ⟨p, rfl, sq⟩
 · rename_i l el
   obtain ⟨p, vs, rfl, rl, sq⟩ := yu R z (.inr (.inl el))
   rw [ints_map e] at rl
   rw [rl.ints] at sq
   exact ⟨p, rfl, sq⟩
 · rename_i l el
   obtain ⟨p, vs, rfl, rl, sq⟩ := yu R z (.inr (.inr el))
   rw [ints_map e] at rl
   rw [rl.ints] at sq
   exact ⟨p, rfl, sq⟩
 · cases e
def XQ (h : Hh) (d : D) : Option D := (d.lints h).map fun l => .int l.sum
def Uz : Int → List Int → Int
 | a, [] => a
 | a, b :: r => Uz (if b > a then b else a) r
def aby : Int → List Int → Int
 | a, [] => a
 | a, b :: r => aby (if b < a then b else a) r
def ac2 (h : Hh) (d : D) : Option D := match d.lints h with
 | some (a :: r) => some (.int (Uz a r))
 | _ => none
def afH (h : Hh) (d : D) : Option D := match d.lints h with
 | some (a :: r) => some (.int (aby a r))
 | _ => none
theorem XR {VR2 VR : jw V D} {id : String} {f : Hh → D → D → Option D} (sa : aV X T W a ma) (sb : fX (WE X b) X.K T W VR2 mb)
 (hr : ∀ B w σ H fr h x y d e z Q, Rel X.K T B w σ H fr h → bA X.K T w x d → VR2 X.K T B σ w H fr y e → f h d e = some z → (∀ w' H' v, w.le w' → Rel X.K T B w' σ H' fr h → VR X.K T B σ w' H' fr v z → Q v H') → cM X (.builtin id) [x, y] H Q)
 (hm : X.mg x = none) (hg : Gl X x := by rfl) (hv : bootBuiltins x = some (.builtin id) := by decide +kernel) (hn : x ≠ "__name__" := by decide) (hdb : (x == ("__debug__" : Str)) = false := by decide)
 (he : starEach (a :: b :: []) X.env = (false, eval a X.env) :: starEach (b :: []) X.env := by exact dJ rfl) (he2 : starEach (b :: []) X.env = (false, eval b X.env) :: starEach [] X.env := by exact dJ rfl)
 (hpl : (backTo pos (starEach (b :: []) X.env)).any (·.1) = false := by rfl) : fX (WE X (.Call (.Name x pf) [a, b] [] pos)) X.K T W VR (aq f ma mb) := fun B w σ H fr h Q r1 p =>
 eE (pe_callB Jp hg hm hv (pa_cons bj (pa_cons bj pa_nil he2) he) hn hdb he hpl) (Jr (r := fun x y H Q => cM X (.builtin id) [x, y] H Q) sa sb hr B w σ H fr h Q r1 p)
abbrev zH := qM O8 fun i j => if j > i then j else i
abbrev Ky := qM O8 fun i j => if j < i then j else i
theorem SJ (C : Cq X T W k) (sa : aV X T W a ma) (sb : aV X T W b mb) (hm : X.mg "max" = none) (hg : Gl X "max" := by rfl) (he : starEach (a :: b :: []) X.env = (false, eval a X.env) :: starEach (b :: []) X.env := by exact dJ rfl) (he2 : starEach (b :: []) X.env = (false, eval b X.env) :: starEach [] X.env := by exact dJ rfl)
 (hpl : (backTo pos (starEach (b :: []) X.env)).any (·.1) = false := by rfl) : aV X T W (.Call (.Name "max" pf) [a, b] [] pos) (aq zH ma mb) :=
 XR (id := "max") sa sb (fun B w σ H fr h x y d e z Q R rx ry q kk => by
  unfold zH qM at q
  split at q
  · cases q
    rw [je rx, je ry]
    exact gR (call_max2 C.calm) ⟨_, _, rfl, kk w H _ (Wd.le_refl _) R (.int _)⟩
  · cases q) hm hg (by decide +kernel) (by decide) (by decide) he he2 hpl
theorem aad (C : Cq X T W k) (sa : aV X T W a ma) (sb : aV X T W b mb) (hm : X.mg "min" = none) (hg : Gl X "min" := by rfl) (he : starEach (a :: b :: []) X.env = (false, eval a X.env) :: starEach (b :: []) X.env := by exact dJ rfl) (he2 : starEach (b :: []) X.env = (false, eval b X.env) :: starEach [] X.env := by exact dJ rfl)
 (hpl : (backTo pos (starEach (b :: []) X.env)).any (·.1) = false := by rfl) : aV X T W (.Call (.Name "min" pf) [a, b] [] pos) (aq Ky ma mb) :=
 XR (id := "min") sa sb (fun B w σ H fr h x y d e z Q R rx ry q kk => by
  unfold Ky qM at q
  split at q
  · cases q
    rw [je rx, je ry]
    exact gR (call_min2 C.calm) ⟨_, _, rfl, kk w H _ (Wd.le_refl _) R (.int _)⟩
  · cases q) hm hg (by decide +kernel) (by decide) (by decide) he he2 hpl
end
end Pk
namespace Pk
open PySem PySem.Spec L2
def Bs.pr (B : Bs) (p : Addr) (o : HO) : Bs := ⟨B.w0, B.H0, (p, o) :: B.P, B.me⟩
section
variable {K : PySem.W.Frag} {T : Tb} {B : Bs} {w w' : Wd} {σ : L2.St} {H H' : Hp} {fr : Fr} {h : Hh} {p : Addr} {o : HO}
theorem Own.pr (O : Own B w p) {q : Addr} {u : HO} (hq : q ≠ p) : Own (B.pr q u) w p := ⟨O.f, O.i, O.e, fun z hz => by
 rcases List.mem_cons.mp hz with e | hz
 · rw [e]
   exact hq
 · exact O.p z hz⟩
theorem Own.unpr {q : Addr} {u : HO} (O : Own (B.pr q u) w p) : Own B w p := ⟨O.f, O.i, O.e, fun z hz => O.p z (ai2 _ hz)⟩
theorem Rel.protect (R : Rel K T B w σ H fr h) (O : Own B w p) (lo : tM σ fr p) (e : H p = some o) (nt : ∀ vs, o ≠ .tup vs := by intro vs z; cases z) : Rel K T (B.pr p o) w σ H fr h :=
 { R with
   pt := fun q hq => by
    rcases List.mem_cons.mp hq with z | hq
    · rw [z]
      exact nt
    · exact R.pt q hq
   prot := fun q hq => by
    rcases List.mem_cons.mp hq with z | hq
    · rw [z]
      exact ⟨e, O.f, O.i⟩
    · exact R.prot q hq
   sl := fun i s d e1 e2 => by
    have z := R.sl i s d e1 e2
    cases z with
    | none => exact .none
    | val r => exact .val r
    | @own q u _ O' eH' rr =>
      have hne : p ≠ q := fun z => lo i ⟨by rw [z]; exact e1, _, e2, rr.own⟩
      exact .own (O'.pr hne) eH' rr }
theorem Rel.unprotect (R : Rel K T (B.pr p o) w σ H fr h) (e0 : B.H0 p = none) (hP : ∀ q ∈ B.P, q.1 ≠ p) : Rel K T B w σ H fr h ∧ Own B w p ∧ tM σ fr p ∧ H p = some o := by
 obtain ⟨h1, h2, h3⟩ := R.prot (p, o) (aiX)
 refine ⟨{ R with pt := fun q hq => R.pt q (ai2 _ hq), prot := fun q hq => R.prot q (ai2 _ hq), sl := fun i s d e1 e2 => ?_ }, ⟨h2, h3, e0, hP⟩, fun i ⟨q1, d, q2, od⟩ => ?_, h1⟩
 · have z := R.sl i s d e1 e2
   cases z with
   | none => exact .none
   | val r => exact .val r
   | own O' eH' rr => exact .own O'.unpr eH' rr
 · have z := R.sl i _ _ q1 q2
   cases z with
   | val r => exact t8 od r
   | own O' eH' rr => exact O'.p (p, o) (aiX) rfl
theorem Rel.repr {o' : HO} (R : Rel K T (B.pr p o) w σ H fr h) (e0 : B.H0 p = none) (hP : ∀ q ∈ B.P, q.1 ≠ p) (nt : ∀ vs, o' ≠ .tup vs := by intro vs z; cases z) : Rel K T (B.pr p o') w σ (upd H p o') fr h := by
 obtain ⟨R1, O, lo, e⟩ := R.unprotect e0 hP
 refine Rel.protect { R1 with keep := fun a u ha hm => ?_, prot := fun q hq => ?_, sub := fun a u ha => ?_, cel := fun n a c q1 q2 => ?_, sl := fun j s dj q1 q2 => ?_ } O lo upd_same nt
 · rw [upd_ne (fun z => by rw [z, e0] at ha; cases ha)]
   exact R1.keep a u ha hm
 · obtain ⟨h1, h2, h3⟩ := R1.prot q hq
   exact ⟨by rw [upd_ne (hP q hq)]; exact h1, h2, h3⟩
 · rw [upd_ne (fun z => by rw [z, O.f] at ha; cases ha)]
   exact R1.sub a u ha
 · have hne : a ≠ p := fun z => O.i (by rw [← z]; exact ai1 q1)
   exact yI.keep (Wd.le_refl w) (upd_ne hne) (R1.cel n a c q1 q2)
 · have z := R1.sl j s dj q1 q2
   cases z with
   | none => exact .none
   | val r => exact .val r
   | @own q u _ O' eH' rr =>
     have hne : q ≠ p := fun z => lo j ⟨by rw [← z]; exact q1, _, q2, rr.own⟩
     exact .own O' (by rw [upd_ne hne]; exact eH') rr
end
def WG (X : Cx) (tg : Expr) : TG := fun v σ H Q => ∀ pins s u, Inv X pins σ H s → RelV v u → wpAny (model X.prog X.w) X.A (assign tg X.env u) (fun _ s' => ∃ σ' H', Inv X pins σ' H' s' ∧ Q σ' H') X.xe s
structure WI (X : Cx) (tg iter : Expr) (σ : L2.St) (H : Hp) (R : It → Hp → Prop) : Prop where
 go : ∀ pins s, Inv X pins σ H s → wpAny (model X.prog X.w) X.A (eval iter X.env) (fun v s1 => wpAny (model X.prog X.w) X.A (pyIter v) (PIE X pins σ tg R) X.xe s1) X.xe s
def Gn (X : Cx) (ifs : List Expr) : TT := fun σ H Q => ∀ pins s, Inv X pins σ H s →
    wpAny (model X.prog X.w) X.A (forIn ifs true fun c r => if r = true then do let ok ← isTrue c X.env (eval c X.env); pure (ForInStep.yield ok) else pure (ForInStep.yield r)) (TP X pins σ Q) X.xe s
section
variable {X : Cx} {tg iter : Expr} {ifs : List Expr}
theorem Kz : PG X tg (WG X tg) := ⟨fun pins s σ H v u Q I r h => h pins s u I r⟩
theorem BK : PI X tg iter (WI X tg iter) := ⟨fun pins s σ H R I h => h.go pins s I⟩
theorem UG {t : TG} (p : PG X tg t) {v : V} {σ : L2.St} {H : Hp} {Q : L2.St → Hp → Prop} (h : t v σ H Q) : WG X tg v σ H Q := fun pins s u I r => p.run pins s σ H v u Q I r h
theorem Dk {t : TI} (p : PI X tg iter t) {σ : L2.St} {H : Hp} {R : It → Hp → Prop} (h : t σ H R) : WI X tg iter σ H R := ⟨fun pins s I => p.run pins s σ H R I h⟩
theorem SM {t : TT} (p : PTs X ifs t) {σ : L2.St} {H : Hp} {Q : Bool → Hp → Prop} (h : t σ H Q) : Gn X ifs σ H Q := fun pins s I => p.run pins s σ H Q I h
end
inductive vK (K : PySem.W.Frag) (T : Tb) (B : Bs) (σ : L2.St) (w : Wd) (H : Hp) (fr : Fr) : List V → List D → List Addr → Prop where
 | nil : vK K T B σ w H fr [] [] []
 | val {v : V} {d : D} {vs : List V} {ds : List D} {ps : List Addr} : bA K T w v d → vK K T B σ w H fr vs ds ps → vK K T B σ w H fr (v :: vs) (d :: ds) ps
 | own {p : Addr} {o : HO} {d : D} {vs : List V} {ds : List D} {ps : List Addr} : Own B w p → tM σ fr p → H p = some o → pW K T w o d → p ∉ ps → vK K T B σ w H fr vs ds ps → vK K T B σ w H fr (.ref p :: vs) (d :: ds) (p :: ps)
def ZJ : jw (List V) (List D) := fun K T B σ w H fr vs ds => ∃ ps, vK K T B σ w H fr vs ds ps
abbrev Oo (X : Cx) (T : Tb) (W : WX) (es : List Expr) (m : M (List D)) : Prop := fX (WA X es) X.K T W ZJ m
theorem vK.unpr {K : PySem.W.Frag} {T : Tb} {B : Bs} {σ : L2.St} {w : Wd} {H : Hp} {fr : Fr} {p : Addr} {o : HO} {vs : List V} {ds : List D} {ps : List Addr} (x : vK K T (B.pr p o) σ w H fr vs ds ps) : vK K T B σ w H fr vs ds ps ∧ p ∉ ps := by
 induction x with
 | nil => exact ⟨.nil, by simp⟩
 | val r _ ih => exact ⟨.val r ih.1, ih.2⟩
 | @own q u d vs ds ps O lo e r nq _ ih =>
   refine ⟨.own O.unpr lo e r nq ih.1, fun z => ?_⟩
   rcases List.mem_cons.mp z with z | z
   · exact O.p (p, o) (aiX) z
   · exact ih.2 z
theorem vK.length {K : PySem.W.Frag} {T : Tb} {B : Bs} {σ : L2.St} {w : Wd} {H : Hp} {fr : Fr} {vs : List V} {ds : List D} {ps : List Addr} (x : vK K T B σ w H fr vs ds ps) : vs.length = ds.length := by
 induction x with
 | nil => rfl
 | val _ _ ih => exact congrArg Nat.succ ih
 | own _ _ _ _ _ _ ih => exact congrArg Nat.succ ih
theorem aW.pr {α β : Type} {K : PySem.W.Frag} {T : Tb} {B : Bs} {W : WX} {VR VR' : Wd → Hp → Fr → β → α → Prop} {w : Wd} {σ : L2.St} {p : Addr} {o : HO} {r : R α} {Q Q' : β → Hp → Prop} (e0 : B.H0 p = none) (hP : ∀ q ∈ B.P, q.1 ≠ p) (x : aW K T B W VR w σ r Q)
 (k : ∀ d fr h w' H' v, r = .ok d fr h → w.le w' → Rel K T (B.pr p o) w' σ H' fr h → VR' w' H' fr v d → (∀ w2 H2 v2, w.le w2 → Rel K T B w2 σ H2 fr h → VR w2 H2 fr v2 d → Q v2 H2) → Q' v H') : aW K T (B.pr p o) W VR' w σ r Q' := by
 cases r with
 | ok d fr h => exact fun w' H' v l R z => k d fr h w' H' v rfl l R z x
 | exc e fr h => exact fun w' H' c dd l R z => x w' H' c dd l (R.unprotect e0 hP).1 z
 | err => exact x
section
variable {X : Cx} {T : Tb} {W : WX} {e : Expr} {es : List Expr} {m : M D} {ms : List (M D)}
theorem aae : Oo X T W [] (ak []) := fun B w σ H fr h Q r1 p => Om pa_nil (p w H _ (Wd.le_refl _) r1 ⟨[], .nil⟩)
theorem Pq (s : pX X T W e m) (t : Oo X T W es (ak ms)) (hs : starEach (e :: es) X.env = (false, eval e X.env) :: starEach es X.env := by exact dJ rfl) : Oo X T W (e :: es) (ak (m :: ms)) := fun B w σ H fr h Q r1 p =>
 Om (pa_cons bj Gf hs) (s B w σ H fr h _ r1 (aW.bind (VR := vE X.K T B σ) p fun d fr1 h1 w1 H1 x e1 l1 r1 rx p1 => by
  rcases rx with rx | ⟨q, o, rfl, O, lo, eH, rd⟩
  · exact t B w1 σ H1 fr1 h1 _ r1 (aW.bind (VR := ZJ X.K T B σ) p1 fun ds fr2 h2 w2 H2 vs e2 l2 r2 ⟨ps, rs⟩ p2 => p2 w2 H2 _ (Wd.le_refl _) r2 ⟨ps, .val (rx.mono l2) rs⟩)
  · refine t (B.pr q o) w1 σ H1 fr1 h1 _ (r1.protect O lo eH (fun vs z => by subst z; cases rd)) ?_
    have p1' : aW X.K T B W (ZJ X.K T B σ) w1 σ ((ak ms).bind (fun ds => M.ret (d :: ds)) fr1 h1) Q := p1
    cases e2 : ak ms fr1 h1 with
    | ok ds fr2 h2 =>
      rw [M.bind_ok e2] at p1'
      intro w2 H2 vs l2 r2 ⟨ps, rs⟩
      obtain ⟨r3, O3, lo3, eH3⟩ := r2.unprotect O.e O.p
      obtain ⟨rs', np⟩ := rs.unpr
      exact p1' w2 H2 (.ref q :: vs) l2 r3 ⟨q :: ps, .own O3 lo3 eH3 (rd.mono l2) np rs'⟩
    | exc y fr2 h2 =>
      rw [M.bind_exc e2] at p1'
      exact fun w' H' c dd l R z => p1' w' H' c dd l (R.unprotect O.e O.p).1 z
    | err =>
      rw [M.bind_err e2] at p1'
      exact p1'))
end
def HX (is : List Nat) (σ' σ : L2.St) : Prop := σ'.length = σ.length ∧ ∀ j : Nat, j ∉ is → σ'[j]? = σ[j]?
def uJ (X : Cx) (T : Tb) (is : List Nat) (tg : Expr) (mg : D → M Unit) : Prop := ∀ B w σ H fr h x d (Q : L2.St → Hp → Prop), Rel X.K T B w σ H fr h → bA X.K T w x d →
 (match mg d fr h with
  | .ok _ fr' h' => ∀ w' σ' H', w.le w' → Rel X.K T B w' σ' H' fr' h' → HX is σ' σ → Q σ' H'
  | _ => False) → WG X tg x σ H Q
def Ot (X : Cx) (T : Tb) (is : List Nat) (tgs : List Expr) (mg : List D → M Unit) : Prop := ∃ t, PGs X tgs t ∧ ∀ B w σ H fr h xs ds (Q : L2.St → Hp → Prop), Rel X.K T B w σ H fr h → au X.K T w xs ds →
 (match mg ds fr h with
  | .ok _ fr' h' => ∀ w' σ' H', w.le w' → Rel X.K T B w' σ' H' fr' h' → HX is σ' σ → Q σ' H'
  | _ => False) → t xs σ H Q
def aY (i : Nat) (d : D) : M Unit := fun fr h => .ok () (fr.set i (some d)) h
def dY : List D → M Unit
 | [] => M.ret ()
 | _ => M.opt none
def aX (g : D → M Unit) (gs : List D → M Unit) : List D → M Unit
 | [] => M.opt none
 | d :: ds => (g d).bind fun _ => gs ds
def dN (n : Nat) (gs : List D → M Unit) (d : D) : M Unit := match d with
 | .tup l => if l.length = n then gs l else M.opt none
 | _ => M.opt none
section
variable {X : Cx} {T : Tb} {W : WX} {k : Nat} {pos : Pos} {tg : Expr} {tgs : List Expr} {g : D → M Unit} {gs : List D → M Unit} {is js : List Nat}
theorem bY (C : Cq X T W k) (i : Nat) {x : Str} (hi : X.N[i]? = some x := by rfl) (hx : Loc X.env.scope x := by first | exact Or.inl rfl | exact Or.inr rfl) (hf : X.fn x = true ∨ X.env.scope.names.lookup x = some .local := by first | exact .inl rfl | exact .inr rfl) :
 uJ X T [i] (.Name x pos) (aY i) := fun B w σ H fr h v d Q R rd p => UG (pg_name C.nd hi hx hf) (p w _ H (Wd.le_refl _) (R.set_slot (.val rd) (fun _ _ _ e od => by
 cases e
 exact (t8 od rd).elim) fun _ _ e => by
 cases e
 exact Dj rd) ⟨aiZ, fun j hj => by
  rw [aiV]
  intro e
  exact hj (by simp [e])⟩)
theorem pq : Ot X T [] [] dY := ⟨_, pgs_nil, fun B w σ H fr h vs ds Q R rd p => by
 cases rd with
 | nil => exact ⟨rfl, p w σ H (Wd.le_refl _) R ⟨rfl, fun _ _ => rfl⟩⟩
 | cons _ _ => exact p.elim⟩
theorem d8 (s : uJ X T is tg g) (t : Ot X T js tgs gs) (hs : (assignEach (tg :: tgs) X.env).map (·.2) = assign tg X.env :: (assignEach tgs X.env).map (·.2) := by rfl) : Ot X T (is ++ js) (tg :: tgs) (aX g gs) := by
 obtain ⟨u, pu, t⟩ := t
 refine ⟨_, pgs_cons Kz pu hs, fun B w σ H fr h vs ds Q R rd p => ?_⟩
 cases rd with
 | nil => exact p.elim
 | @cons v d vr dr r rr =>
   refine ⟨v, vr, rfl, s B w σ H fr h v d _ R r ?_⟩
   have p' : (match (g d).bind (fun _ => gs dr) fr h with
    | .ok _ fr' h' => ∀ w' σ' H', w.le w' → Rel X.K T B w' σ' H' fr' h' → HX (is ++ js) σ' σ → Q σ' H'
    | _ => False) := p
   cases e : g d fr h with
   | ok _ fr1 h1 =>
     rw [M.bind_ok e] at p'
     intro w1 σ1 H1 l1 R1 k1
     refine t B w1 σ1 H1 fr1 h1 vr dr Q R1 (rr.mono l1) ?_
     cases e2 : gs dr fr1 h1 with
     | ok _ fr2 h2 =>
       rw [e2] at p'
       exact fun w2 σ2 H2 l2 R2 k2 => p' w2 σ2 H2 (Wd.le_trans l1 l2) R2 ⟨k2.1.trans k1.1, fun j hj => by
        rw [List.mem_append, not_or] at hj
        rw [k2.2 j hj.2, k1.2 j hj.1]⟩
     | exc _ _ _ => rw [e2] at p'; exact p'
     | err => rw [e2] at p'; exact p'
   | exc y fr1 h1 =>
     rw [M.bind_exc e] at p'
     exact p'.elim
   | err =>
     rw [M.bind_err e] at p'
     exact p'.elim
theorem rF (C : Cq X T W k) {kk : Nat} {n : Nat} (t : Ot X T is tgs gs) (hn : (assignEach tgs X.env).length = n := by rfl) (hst : (assignEach tgs X.env).findIdx? (·.1) = none := by rfl) : uJ X T is (.Tuple tgs kk pos) (dN n gs) := by
 obtain ⟨u, pu, t⟩ := t
 refine fun B w σ H fr h x d Q R rd p => UG (pg_tup C.calm pu hn hst) ?_
 cases d with
 | tup l =>
   have p' : (match (if l.length = n then gs l else M.opt none) fr h with
    | .ok _ fr' h' => ∀ w' σ' H', w.le w' → Rel X.K T B w' σ' H' fr' h' → HX is σ' σ → Q σ' H'
    | _ => False) := p
   by_cases hl : l.length = n
   · rw [if_pos hl] at p'
     obtain ⟨a, vs, rfl, sq, rl⟩ := vY rd
     exact ⟨a, vs, rfl, dI R.sub sq, rl.length.trans hl, t B w σ H fr h vs l Q R rl p'⟩
   · rw [if_neg hl] at p'
     exact p'.elim
 | _ => exact (show False from p).elim
def uK : List Nat → List D → Fr → Option Fr
 | [], [], fr => some fr
 | i :: is, d :: ds, fr => uK is ds (fr.set i (some d))
 | _, _, _ => none
theorem Rel.putV {K : PySem.W.Frag} {B : Bs} {w : Wd} {σ : L2.St} {H : Hp} {fr : Fr} {h : Hh} {v : V} {d : D} (R : Rel K T B w σ H fr h) (i : Nat) (r : bA K T w v d) : Rel K T B w (σ.set i (some v)) H (fr.set i (some d)) h :=
 R.set_slot (.val r) (fun _ _ _ e od => by
  cases e
  exact (t8 od r).elim) fun _ _ e => by
  cases e
  exact Dj r
theorem Rel.put {K : PySem.W.Frag} {B : Bs} {w : Wd} {σ : L2.St} {H : Hp} {fr : Fr} {h : Hh} {v : V} {d : D} (R : Rel K T B w σ H fr h) (i : Nat) (hi : i ≠ 0) (x : vE K T B σ w H fr v d) : Rel K T B w (σ.set i (some v)) H (fr.set i (some d)) h := by
 rcases x with r | ⟨p, o, rfl, O, lo, e, r⟩
 · exact R.putV i r
 · exact R.set_slot (.own O e r) (fun q d' e1 e2 od => by
    cases e1
    cases e2
    exact lo) fun z => (hi z).elim
theorem Gp {σ : L2.St} {fr : Fr} {i : Nat} {v : V} {d : D} {p : Addr} (lo : tM σ fr p) (hv : d.own = true → v ≠ .ref p) : tM (σ.set i (some v)) (fr.set i (some d)) p := fun j z => by
 obtain ⟨e1, dd, e2, od⟩ := z
 by_cases hj : i = j
 · subst hj
   have l1 : i < σ.length := by
    have := (List.getElem?_eq_some_iff.mp e1).1
    rwa [aiZ] at this
   have l2 : i < fr.length := by
    have := (List.getElem?_eq_some_iff.mp e2).1
    rwa [aiZ] at this
   rw [aiW l1] at e1
   rw [aiW l2] at e2
   cases e1
   cases e2
   exact hv od rfl
 · rw [aiV hj] at e1 e2
   exact lo j ⟨e1, dd, e2, od⟩
theorem vK.set {K : PySem.W.Frag} {B : Bs} {w : Wd} {σ : L2.St} {H : Hp} {fr : Fr} {vs : List V} {ds : List D} {ps : List Addr} {i : Nat} {v : V} {d : D} (x : vK K T B σ w H fr vs ds ps) (hv : ∀ p ∈ ps, d.own = true → v ≠ .ref p) :
 vK K T B (σ.set i (some v)) w H (fr.set i (some d)) vs ds ps := by
 induction x with
 | nil => exact .nil
 | val r _ ih => exact .val r (ih hv)
 | own O lo e r nq _ ih => exact .own O (Gp lo (hv _ (aiX))) e r nq (ih fun q hq => hv q (ai2 _ hq))
def afI (X : Cx) (T : Tb) (is : List Nat) (tgs : List Expr) : Prop := ∃ t, PGs X tgs t ∧ ∀ B w σ H fr fr' h xs ds ps (Q : L2.St → Hp → Prop), Rel X.K T B w σ H fr h → vK X.K T B σ w H fr xs ds ps → uK is ds fr = some fr' →
 (∀ σ', Rel X.K T B w σ' H fr' h → Q σ' H) → t xs σ H Q
end
def vJ : jw It (List D) := fun K T _ _ w _ _ J ds => ∀ i w1 H1, w.le w1 → (∀ a o, w1.F a = some o → H1 a = some o) →
 (ds.length ≤ i → J.stop i H1) ∧ ∀ d, ds[i]? = some d → J.go i H1 ∧ ∀ x H2, J.yld i H1 x H2 → ∀ B σ fr h, Rel K T B w1 σ H1 fr h → ∃ w2, w1.le w2 ∧ Rel K T B w2 σ H2 fr h ∧ bA K T w2 x d
abbrev Gq (X : Cx) (T : Tb) (W : WX) (tg iter : Expr) (m : M (List D)) : Prop := fX (WI X tg iter) X.K T W vJ m
section
variable {X : Cx} {T : Tb} {W : WX} {k : Nat} {pos p pf tpos : Pos} {tg e a b : Expr} {m ma mb : M D}
def wV (m : M D) : M (List D) := m.bind fun d => M.opt (d.its [])
theorem aaf {K : PySem.W.Frag} {w : Wd} {v : V} {d : D} {l : List D} (r : bA K T w v d) (e : d.its [] = some l) : ∃ p vs, v = .ref p ∧ au K T w vs l ∧ (SqT K w.F p vs ∨ SqL K w.F p vs) := by
 cases r with
 | tup s r =>
   have e' : some _ = some l := e
   cases e'
   exact ⟨_, _, rfl, r, .inl s⟩
 | fl s r =>
   have e' : some _ = some l := e
   cases e'
   exact ⟨_, _, rfl, r, .inr (SqL.of s)⟩
 | kl s r =>
   have e' : some _ = some l := e
   cases e'
   exact ⟨_, _, rfl, r, .inr s⟩
 | tp s r =>
   have e' : some _ = some l := e
   cases e'
   exact ⟨_, _, rfl, r, .inl (.inl (.inl s))⟩
 | ref s => cases e
 | _ => cases e
def adT (K : PySem.W.Frag) (tl : TE) : TI := fun σ H R => tl σ H fun x H1 => ∃ a, x = .ref a ∧ (((∃ xs, SqT K H1 a xs) ∧ R (Itt K a) H1) ∨ ((∃ xs, SqL K H1 a xs) ∧ R (Itl K a) H1))
open PyProof.Rows in
theorem Wc {l : Expr} {tl : TE} (hl : PE X l tl) : PI X tg l (adT X.K tl) := by
 refine ⟨fun pins s σ H R I h => ?_⟩
 refine thn (hl.run pins s σ H _ I h) fun v s1 ⟨x, H1, I1, r1, q1⟩ => ?_
 obtain ⟨a, e, ⟨⟨xs, hq⟩, q⟩ | ⟨⟨xs, hq⟩, q⟩⟩ := q1
 · subst e
   cases r1
   obtain ⟨its, rv, p, hz⟩ := I1.tuple hq
   refine wpAny_pyIter_tuple (show s1.heap.IsTuple a its.toArray from p) ?_
   refine ⟨s1.heap.objs.size, [s1.heap.objs.size], _, _, H1, rfl, I1.kept (t' := s1.toks) fun b o e => Heap.get?_push_of_some _ e, turn_tuple a _, ⟨_, Heap.get?_push_size _ rfl, rfl, rfl⟩, fun b hb => ?_, q⟩
   have e : b = s1.heap.objs.size := by simpa using hb
   subst e
   exact I1.fpOk (Nat.le_refl _) (I1.hok.fresh (Nat.le_refl _))
 · subst e
   cases r1
   obtain ⟨its, rv, p, hz⟩ := I1.list hq
   refine wpAny_pyIter_list p.isList ?_
   refine ⟨s1.heap.objs.size, [s1.heap.objs.size], _, _, H1, rfl, I1.kept (t' := s1.toks) fun b o e => Heap.get?_push_of_some _ e, turn_list a _, ⟨_, Heap.get?_push_size _ rfl, rfl, rfl⟩, fun b hb => ?_, q⟩
   have e : b = s1.heap.objs.size := by simpa using hb
   subst e
   exact I1.fpOk (Nat.le_refl _) (I1.hok.fresh (Nat.le_refl _))
theorem abz {K : PySem.W.Frag} {B : Bs} {σ : L2.St} {w : Wd} {H : Hp} {fr : Fr} {a : Addr} {vs : List V} {l : List D} (sq : SqT K w.F a vs) (rl : au K T w vs l) : vJ K T B σ w H fr (Itt K a) l := fun i w2 H2 l2 hs => ⟨fun hi => ⟨vs, dI hs (dI l2.1 sq), by rw [rl.length]; exact hi⟩, fun d' hd => by
 obtain ⟨v, hv, rv⟩ := rl.get hd
 refine ⟨⟨vs, v, dI hs (dI l2.1 sq), hv⟩, fun y H3 hy B' σ' fr' h' R' => ?_⟩
 obtain ⟨rfl, hy⟩ := hy
 have z := hy vs (dI hs (dI l2.1 sq))
 rw [hv] at z
 cases z
 exact ⟨w2, Wd.le_refl _, R', rv.mono l2⟩⟩
theorem abA {K : PySem.W.Frag} {B : Bs} {σ : L2.St} {w : Wd} {H : Hp} {fr : Fr} {a : Addr} {vs : List V} {l : List D} (sq : SqL K w.F a vs) (rl : au K T w vs l) : vJ K T B σ w H fr (Itl K a) l := fun i w2 H2 l2 hs => ⟨fun hi => ⟨vs, fL hs (fL l2.1 sq), by rw [rl.length]; exact hi⟩, fun d' hd => by
 obtain ⟨v, hv, rv⟩ := rl.get hd
 refine ⟨⟨vs, v, fL hs (fL l2.1 sq), hv⟩, fun y H3 hy B' σ' fr' h' R' => ?_⟩
 obtain ⟨rfl, hy⟩ := hy
 have z := hy vs (fL hs (fL l2.1 sq))
 rw [hv] at z
 cases z
 exact ⟨w2, Wd.le_refl _, R', rv.mono l2⟩⟩
theorem Gr (s : aV X T W e m) : Gq X T W tg e (wV m) := fun B w σ H fr h Q r p => Dk (Wc bj) (s B w σ H fr h _ r (aW.bind (VR := vV X.K T B σ) p fun d fr1 h1 w1 H1 x e1 l1 r1 rx p1 => by
 cases q : d.its [] with
 | none => rw [q] at p1; exact p1.elim
 | some l =>
   rw [q] at p1
   obtain ⟨a, vs, rfl, rl, sq⟩ := aaf rx q
   refine ⟨a, rfl, ?_⟩
   rcases sq with sq | sq
   · exact .inl ⟨⟨vs, dI r1.sub sq⟩, p1 w1 H1 (Itt X.K a) (Wd.le_refl _) r1 (abz sq rl)⟩
   · exact .inr ⟨⟨vs, fL r1.sub sq⟩, p1 w1 H1 (Itl X.K a) (Wd.le_refl _) r1 (abA sq rl)⟩))
def iY (lo : Int) (n : Nat) : List D := (aiJ n).map fun (i : Nat) => D.int (lo + (i : Int))
def xR (i : Int) : Bool := decide (-(2 ^ 62) ≤ i) && decide (i < 2 ^ 62)
theorem abB {i : Int} (h : xR i = true) : -(2 ^ 62) ≤ i ∧ i < 2 ^ 62 := by
 obtain ⟨h1, h2⟩ := Bool.and_eq_true_iff.mp h
 exact ⟨of_decide_eq_true h1, of_decide_eq_true h2⟩
def iJ (m : M D) : M (List D) := m.bind fun d => M.opt (match d with
 | .int j => if xR j then some (iY 0 j.toNat) else none
 | _ => none)
def afJ (ma mb : M D) : M (List D) := ma.bind fun x => mb.bind fun y => M.opt (match x, y with
 | .int i, .int j => if xR i && xR j then some (iY i (j - i).toNat) else none
 | _, _ => none)
theorem abC {K : PySem.W.Frag} {B : Bs} {σ : L2.St} {w : Wd} {H : Hp} {fr : Fr} (lo : Int) (n : Nat) : vJ K T B σ w H fr (Itr lo n) (iY lo n) := fun i w2 H2 l2 hs => ⟨fun hi => by
 have hi' : (iY lo n).length ≤ i := hi
 unfold iY at hi'
 rw [aiP, aiS] at hi'
 exact hi', fun d' hd => by
 unfold iY at hd
 rw [ai3] at hd
 obtain ⟨j, hj, rfl⟩ := Option.map_eq_some_iff.mp hd
 obtain ⟨hl, ej⟩ := List.getElem?_eq_some_iff.mp hj
 rw [aiS] at hl
 rw [List.getElem_range] at ej
 subst ej
 refine ⟨hl, fun y H3 hy B' σ' fr' h' R' => ?_⟩
 obtain ⟨rfl, rfl⟩ := hy
 exact ⟨w2, Wd.le_refl _, R', .int _⟩⟩
theorem pA (s : aV X T W a ma) (hm : X.mg "range" = none) (hg : Gl X "range" := by rfl) (hs : starEach [a] X.env = [(false, eval a X.env)] := by rfl) : Gq X T W tg (.Call (.Name "range" p) [a] [] pos) (iJ ma) := fun B w σ H fr h Q r p =>
 Dk (pi_range1 hg hm (pa_cons bj pa_nil (hs.trans (by rfl))) hs) (s B w σ H fr h _ r (aW.bind (VR := vV X.K T B σ) p fun d fr1 h1 w1 H1 x e1 l1 r1 rx p1 => by
  cases rx with
  | int j =>
    dsimp only at p1
    cases hj : xR j with
    | false => rw [hj] at p1; exact (show False from p1).elim
    | true =>
      rw [hj] at p1
      obtain ⟨h1', h2'⟩ := abB hj
      exact ⟨j, rfl, h1', h2', p1 w1 H1 (Itr 0 j.toNat) (Wd.le_refl _) r1 (abC 0 _)⟩
  | _ => exact (show False from p1).elim))
end
end Pk
namespace Pk
open PySem PySem.Spec L2
inductive Fl where
 | nx | brk | ct | rt (d : D)
def cP (K : PySem.W.Frag) (T : Tb) (B : Bs) (W : WX) (w : Wd) (r : R Fl) (D : Ends) : Prop :=
 match r with
 | .ok .nx fr h => ∀ w' σ' H', w.le w' → Rel K T B w' σ' H' fr h → D.nx σ' H'
 | .ok .brk fr h => ∀ w' σ' H', w.le w' → Rel K T B w' σ' H' fr h → D.bk σ' H'
 | .ok .ct fr h => ∀ w' σ' H', w.le w' → Rel K T B w' σ' H' fr h → D.ct σ' H'
 | .ok (.rt d) fr h => ∀ w' σ' H' v, w.le w' → Rel K T B w' σ' H' fr h → vE K T B σ' w' H' fr v d → D.rt v H'
 | .exc x fr h => ∀ w' σ' H' cls dd, w.le w' → Rel K T B w' σ' H' fr h → LK K T w' x cls dd → W cls dd σ' H'
 | .err => False
def pY (X : Cx) (T : Tb) (W : WX) (st : Stmt) (m : M Fl) : Prop := ∀ (B : Bs) (w : Wd) (σ : L2.St) (H : Hp) (fr : Fr) (h : Hh) (D : Ends), Rel X.K T B w σ H fr h → cP X.K T B W w (m fr h) D → WS X st D σ H
def uL (X : Cx) (T : Tb) (W : WX) (sts : List Stmt) (m : M Fl) : Prop := ∀ (B : Bs) (w : Wd) (σ : L2.St) (H : Hp) (fr : Fr) (h : Hh) (D : Ends), Rel X.K T B w σ H fr h → cP X.K T B W w (m fr h) D → VP X sts D σ H
section
variable {K : PySem.W.Frag} {T : Tb} {B : Bs} {W : WX} {w w' : Wd} {σ : L2.St} {H : Hp}
theorem cP.le {r : R Fl} {D : Ends} (x : w.le w') (p : cP K T B W w r D) : cP K T B W w' r D := by
 cases r with
 | ok f fr h =>
   cases f with
   | rt d => exact fun w2 σ2 H2 v y => p w2 σ2 H2 v (Wd.le_trans x y)
   | _ => exact fun w2 σ2 H2 y => p w2 σ2 H2 (Wd.le_trans x y)
 | exc e fr h => exact fun w2 σ2 H2 c d y => p w2 σ2 H2 c d (Wd.le_trans x y)
 | err => exact p
theorem cP.bind {α β : Type} {VR : Wd → Hp → Fr → β → α → Prop} {m : M α} {f : α → M Fl} {fr : Fr} {h : Hh} {D : Ends} {Q : β → Hp → Prop} (p : cP K T B W w (m.bind f fr h) D)
 (k : ∀ d fr1 h1 w1 H1 v, m fr h = .ok d fr1 h1 → w.le w1 → Rel K T B w1 σ H1 fr1 h1 → VR w1 H1 fr1 v d → cP K T B W w1 (f d fr1 h1) D → Q v H1) : aW K T B W VR w σ (m fr h) Q := by
 cases e : m fr h with
 | ok d fr1 h1 =>
   rw [M.bind_ok e] at p
   exact fun w1 H1 v x r z => k d fr1 h1 w1 H1 v e x r z (p.le x)
 | exc y fr1 h1 =>
   rw [M.bind_exc e] at p
   exact fun w1 H1 c dd x r z => p w1 σ H1 c dd x r z
 | err =>
   rw [M.bind_err e] at p
   exact p
end
def aA (m n : M Fl) : M Fl := m.bind fun f => match f with
 | .nx => n
 | f => M.ret f
def eO (t : M Bool) (m n : M Fl) : M Fl := t.bind fun b => if b then m else n
def ni {α : Type} (m : M α) : M Fl := m.bind fun _ => M.ret .nx
def cH (m : M D) : M Fl := m.bind fun d => M.ret (.rt d)
def bu (i : Nat) (m : M D) : M Fl := m.bind fun d fr h => .ok .nx (fr.set i (some d)) h
def Gu (m : M D) (g : D → M Unit) : M Fl := m.bind fun d fr h => match g d fr h with
 | .ok _ fr h => .ok .nx fr h
 | _ => .err
def HY (is : List Nat) (m : M (List D)) : M Fl := m.bind fun ds fr h => match uK is ds fr with
 | some fr' => if ds.length ≤ big then .ok .nx fr' h else .err
 | none => .err
section
variable {X : Cx} {T : Tb} {W : WX} {k : Nat} {pos pos' p2 : Pos} {e a b c : Expr} {st : Stmt} {sts as bs : List Stmt} {m : M D} {s n : M Fl} {t : M Bool} {es : List Expr}
theorem j7 : uL X T W [] (M.ret .nx) := fun B w σ H fr h D R p => LQ pss_nil (p w σ H (Wd.le_refl _) R)
theorem aO (s1 : pY X T W st s) (s2 : uL X T W sts n) : uL X T W (st :: sts) (aA s n) := fun B w σ H fr h D R p =>
 LQ (pss_cons V1 vW) (s1 B w σ H fr h _ R (by
  unfold aA at p
  cases e : s fr h with
  | ok f fr1 h1 =>
    rw [M.bind_ok e] at p
    cases f with
    | nx => exact fun w1 σ1 H1 l R1 => s2 B w1 σ1 H1 fr1 h1 D R1 (p.le l)
    | _ => exact p
  | exc y fr1 h1 => rw [M.bind_exc e] at p; exact p
  | err => rw [M.bind_err e] at p; exact p))
theorem bK (s1 : pY X T W st s) : uL X T W [st] s := fun B w σ H fr h D R p => LQ (pss_one V1) (s1 B w σ H fr h _ R p)
theorem abD : pY X T W (.Pass pos) (M.ret .nx) := fun B w σ H fr h D R p => oG ps_pass (p w σ H (Wd.le_refl _) R)
theorem KC : pY X T W (.Continue pos) (M.ret .ct) := fun B w σ H fr h D R p => oG ps_continue (p w σ H (Wd.le_refl _) R)
theorem yN {VR : jw V D} (s : fX (WE X e) X.K T W VR m) (hs : swapsWith e none pos.line X.env = pure false := by rfl) : pY X T W (.Expr e pos) (ni m) := fun B w σ H fr h D R p =>
 oG (ps_expr bj hs) (s B w σ H fr h _ R (cP.bind (VR := VR X.K T B σ) p fun d fr1 h1 w1 H1 v e1 l1 r1 rx p1 => p1 w1 σ H1 (Wd.le_refl _) r1))
theorem s_ret (s : pX X T W e m) : pY X T W (.Return (some e) pos) (cH m) := fun B w σ H fr h D R p =>
 oG (ps_ret bj) (s B w σ H fr h _ R (cP.bind (VR := vE X.K T B σ) p fun d fr1 h1 w1 H1 v e1 l1 r1 rx p1 => p1 w1 σ H1 v (Wd.le_refl _) r1 rx))
theorem nZ (st : vX X T W c t) (sa : uL X T W as s) (sb : uL X T W bs n) : pY X T W (.If c as bs pos) (eO t s n) := fun B w σ H fr h D R p =>
 oG (ps_if uH vW vW) (st B w σ H fr h _ R (cP.bind (VR := vB X.K T B σ) p fun d fr1 h1 w1 H1 x e1 l1 r1 rx p1 => by
  have rx' : x = d := rx
  subst rx'
  cases x with
  | true => exact sa B w1 σ H1 fr1 h1 D r1 p1
  | false => exact sb B w1 σ H1 fr1 h1 D r1 p1))
theorem pZ (C : Cq X T W k) (i : Nat) {x : Str} (s : pX X T W e m) (hs : swapsWith e (some (.Name x pos')) pos.line X.env = pure false := by rfl) (hi : X.N[i]? = some x := by rfl) (hx : Loc X.env.scope x := by first | exact Or.inl rfl | exact Or.inr rfl)
 (hf : X.fn x = true ∨ X.env.scope.names.lookup x = some .local := by first | exact .inl rfl | exact .inr rfl) (h0 : i ≠ 0 := by decide) : pY X T W (.Assign [.Name x pos'] e pos) (bu i m) := fun B w σ H fr h D R p =>
 oG (ps_set C.nd hi hx bj hs hf) (s B w σ H fr h _ R (cP.bind (VR := vE X.K T B σ) p fun d fr1 h1 w1 H1 v e1 l1 r1 rx p1 => p1 w1 _ H1 (Wd.le_refl _) (r1.put i h0 rx)))
theorem jk (C : Cq X T W k) (i : Nat) {x : Str} (s : aV X T W e m) (hs : swapsWith e (some (.Name x pos')) pos.line X.env = pure false := by rfl) (hi : X.N[i]? = some x := by rfl) (hx : Loc X.env.scope x := by first | exact Or.inl rfl | exact Or.inr rfl)
 (hf : X.fn x = true ∨ X.env.scope.names.lookup x = some .local := by first | exact .inl rfl | exact .inr rfl) : pY X T W (.Assign [.Name x pos'] e pos) (bu i m) := fun B w σ H fr h D R p =>
 oG (ps_set C.nd hi hx bj hs hf) (s B w σ H fr h _ R (cP.bind (VR := vV X.K T B σ) p fun d fr1 h1 w1 H1 v e1 l1 r1 rx p1 => p1 w1 _ H1 (Wd.le_refl _) (r1.putV i rx)))
theorem s_asg {tg : Expr} {is : List Nat} {g : D → M Unit} (s : aV X T W e m) (sg : uJ X T is tg g) (hs : swapsWithSole [tg] e pos.line X.env = pure false := by rfl) (hw : swappedStores [tg] e X.env = pure none := by rfl)
 (h1 : (assignEach [tg] X.env).map (·.2) = [assign tg X.env] := by rfl) : pY X T W (.Assign [tg] e pos) (Gu m g) := fun B w σ H fr h D R p =>
 oG (ps_asg bj Kz hs hw h1) (s B w σ H fr h _ R (cP.bind (VR := vV X.K T B σ) p fun d fr1 h1 w1 H1 v e1 l1 r1 rx p1 => sg B w1 σ H1 fr1 h1 v d _ r1 rx (by
  cases e2 : g d fr1 h1 with
  | ok u fr2 h2 =>
    rw [e2] at p1
    exact fun w2 σ2 H2 l2 r2 _ => p1 w2 σ2 H2 l2 r2
  | exc y fr2 h2 =>
    rw [e2] at p1
    exact p1.elim
  | err =>
    rw [e2] at p1
    exact p1.elim)))
theorem vK.temp {K : PySem.W.Frag} {B : Bs} {σ : L2.St} {w : Wd} {H : Hp} {fr : Fr} {vs : List V} {ds : List D} {ps : List Addr} {p : Addr} {o : HO} (x : vK K T B σ w H fr vs ds ps) (np : H p = none) : vK K T B σ w (upd H p o) fr vs ds ps := by
 induction x with
 | nil => exact .nil
 | val r _ ih => exact .val r ih
 | own O lo e r nq _ ih => exact .own O lo (by rw [upd_ne (ne_of_none e np)]; exact e) r nq ih
theorem abE (C : Cq X T W k) (i j : Nat) {x y : Str} {px py pt : Pos} {kt k2 : Nat} {pt2 : Pos} {ms : M (List D)} (se : Oo X T W [a, b] ms) (hi : X.N[i]? = some x := by rfl) (hj : X.N[j]? = some y := by rfl) (hij : i ≠ j := by decide) (i0 : i ≠ 0 := by decide) (j0 : j ≠ 0 := by decide)
 (hx : X.env.scope.names.lookup x = some .local := by rfl) (hy : X.env.scope.names.lookup y = some .local := by rfl)
 (hw : swappedStores [.Tuple [.Name x px, .Name y py] kt pt] (.Tuple [a, b] k2 pt2) X.env = pure (some [x, y]) := by rfl)
 (hs : swapsWithSole [.Tuple [.Name x px, .Name y py] kt pt] (.Tuple [a, b] k2 pt2) pos.line X.env = pure false := by rfl) :
 pY X T W (.Assign [.Tuple [.Name x px, .Name y py] kt pt] (.Tuple [a, b] k2 pt2) pos) (HY [i, j] ms) := fun B w σ H fr h D R p =>
 oG (ps_par C.calm C.nd hi hj hij hx hy Gf hw hs) (se B w σ H fr h _ R (cP.bind (VR := ZJ X.K T B σ) p fun ds fr1 h1 w1 H1 vs e1 l1 r1 ⟨ps, rs⟩ p1 => by
  have two : ∃ d e, ds = [d, e] := by
   cases ds with
   | nil => exact (show False from p1).elim
   | cons d ds =>
     cases ds with
     | nil => exact (show False from p1).elim
     | cons e ds =>
       cases ds with
       | nil => exact ⟨d, e, rfl⟩
       | cons _ _ => exact (show False from p1).elim
  obtain ⟨d, e, rfl⟩ := two
  have p2 : cP X.K T B W w1 (.ok .nx ((fr1.set i (some d)).set j (some e)) h1) D := p1
  cases rs with
  | val r1' rr =>
    cases rr with
    | val r2' rr =>
      cases rr
      exact ⟨_, _, rfl, p2 w1 _ H1 (Wd.le_refl _) ((r1.put i i0 (.inl r1')).put j j0 (.inl r2'))⟩
    | own O lo eH r2' nq rr =>
      cases rr
      exact ⟨_, _, rfl, p2 w1 _ H1 (Wd.le_refl _) ((r1.put i i0 (.inl r1')).put j j0 (.inr ⟨_, _, rfl, O, Gp lo fun od => (t8 od r1').elim, eH, r2'⟩))⟩
  | own O lo eH r1' nq rr =>
    cases rr with
    | val r2' rr =>
      cases rr
      exact ⟨_, _, rfl, p2 w1 _ H1 (Wd.le_refl _) ((r1.put i i0 (.inr ⟨_, _, rfl, O, lo, eH, r1'⟩)).put j j0 (.inl r2'))⟩
    | own O2 lo2 eH2 r2' nq2 rr =>
      cases rr
      exact ⟨_, _, rfl, p2 w1 _ H1 (Wd.le_refl _) ((r1.put i i0 (.inr ⟨_, _, rfl, O, lo, eH, r1'⟩)).put j j0 (.inr ⟨_, _, rfl, O2, Gp lo2 fun od z => by
       cases z
       exact nq (by simp), eH2, r2'⟩))⟩))
end
end Pk
namespace Pk
open PySem PySem.Spec L2
def mO (g : D → M Unit) (b : M Fl) : List D → M Fl
 | [] => M.ret .nx
 | d :: ds => fun fr h => match g d fr h with
   | .ok _ fr h => match b fr h with
     | .ok .nx fr h => mO g b ds fr h
     | .ok .ct fr h => mO g b ds fr h
     | .ok .brk fr h => .ok .nx fr h
     | .ok (.rt d) fr h => .ok (.rt d) fr h
     | .exc x fr h => .exc x fr h
     | .err => .err
   | _ => .err
def jN (l : M (List D)) (g : D → M Unit) (b : M Fl) : M Fl := l.bind fun ds => mO g b ds
def iK (t : M Bool) (b : M Fl) : Nat → M Fl
 | 0 => fun _ _ => .err
 | n + 1 => fun fr h => match t fr h with
   | .ok true fr h => match b fr h with
     | .ok .nx fr h => iK t b n fr h
     | .ok .ct fr h => iK t b n fr h
     | .ok .brk fr h => .ok .nx fr h
     | .ok (.rt d) fr h => .ok (.rt d) fr h
     | .exc x fr h => .exc x fr h
     | .err => .err
   | .ok false fr h => .ok .nx fr h
   | .exc x fr h => .exc x fr h
   | .err => .err
section
variable {X : Cx} {T : Tb} {W : WX} {k : Nat} {pos pos' : Pos} {tg iter c : Expr} {body : List Stmt} {li : M (List D)} {g : D → M Unit} {b : M Fl} {is : List Nat} {t : M Bool}
theorem zJ (C : Cq X T W k) (si : Gq X T W tg iter li) (sg : uJ X T is tg g) (sb : uL X T W body b) (hs : ∀ x, foldedSetIterable iter X.env x = pure x := by intro _; rfl) : pY X T W (.For tg iter body [] pos) (jN li g b) := fun B w σ H fr h D R p =>
 oG (ps_for C.po C.calm BK Kz vW hs) (si B w σ H fr h _ R (cP.bind (VR := vJ X.K T B σ) p fun ds fr1 h1 w1 H1 J e1 l1 r1 vj p1 => by
  refine ⟨fun i m σ H => m = ds.length - i ∧ i ≤ ds.length ∧ ∃ w' fr' h', w1.le w' ∧ Rel X.K T B w' σ H fr' h' ∧ cP X.K T B W w' (mO g b (ds.drop i) fr' h') D, ⟨ds.length, by simp, Nat.zero_le _, w1, fr1, h1, Wd.le_refl _, r1, p1⟩, ?_⟩
  rintro i m σ2 H2 ⟨rfl, hi, w2, fr2, h2, l2, r2, p2⟩
  obtain ⟨js, jg⟩ := vj i w2 H2 l2 r2.sub
  by_cases hlt : i < ds.length
  · obtain ⟨go, y⟩ := jg ds[i] (aiO hlt)
    refine .inr ⟨go, fun σ' H' => ∃ w' fr' h', w1.le w' ∧ Rel X.K T B w' σ' H' fr' h' ∧ cP X.K T B W w' (mO g b (ds.drop (i + 1)) fr' h') D, fun σ' H' q => ⟨ds.length - (i + 1), by omega, rfl, hlt, q⟩, fun x H3 yx => ?_⟩
    obtain ⟨w3, l3, r3, rx⟩ := y x H3 yx B σ2 fr2 h2 r2
    have ed : ds.drop i = ds[i] :: ds.drop (i + 1) := List.drop_eq_getElem_cons hlt
    rw [ed] at p2
    refine sg B w3 σ2 H3 fr2 h2 x ds[i] _ r3 rx ?_
    unfold mO at p2
    cases e2 : g ds[i] fr2 h2 with
    | ok u fr3 h3 =>
      rw [e2] at p2
      intro w4 σ4 H4 l4 r4 _
      refine sb B w4 σ4 H4 fr3 h3 _ r4 ?_
      have l34 : w1.le w4 := Wd.le_trans l2 (Wd.le_trans l3 l4)
      dsimp only at p2
      cases e3 : b fr3 h3 with
      | ok f fr4 h4 =>
        rw [e3] at p2
        cases f with
        | nx => exact fun w5 σ5 H5 l5 r5 => ⟨w5, fr4, h4, Wd.le_trans l34 l5, r5, p2.le (Wd.le_trans (Wd.le_trans l3 l4) l5)⟩
        | ct => exact fun w5 σ5 H5 l5 r5 => ⟨w5, fr4, h4, Wd.le_trans l34 l5, r5, p2.le (Wd.le_trans (Wd.le_trans l3 l4) l5)⟩
        | brk => exact fun w5 σ5 H5 l5 r5 => p2 w5 σ5 H5 (Wd.le_trans (Wd.le_trans l3 l4) l5) r5
        | rt d => exact fun w5 σ5 H5 v l5 r5 rv => p2 w5 σ5 H5 v (Wd.le_trans (Wd.le_trans l3 l4) l5) r5 rv
      | exc y fr4 h4 =>
        rw [e3] at p2
        exact fun w5 σ5 H5 cc dd l5 r5 z => p2 w5 σ5 H5 cc dd (Wd.le_trans (Wd.le_trans l3 l4) l5) r5 z
      | err => rw [e3] at p2; exact p2
    | exc y fr3 h3 => rw [e2] at p2; exact p2
    | err => rw [e2] at p2; exact p2
  · have e : i = ds.length := by omega
    subst e
    rw [List.drop_length] at p2
    exact .inl ⟨js (Nat.le_refl _), p2 w2 σ2 H2 (Wd.le_refl _) r2⟩))
theorem s_while (C : Cq X T W k) (n : Nat) (st : vX X T W c t) (sb : uL X T W body b) : pY X T W (.While c body [] pos) (iK t b n) := fun B w σ H fr h D R p =>
 oG (ps_while C.po uH vW) ⟨fun m σ H => ∃ w' fr' h', w.le w' ∧ Rel X.K T B w' σ H fr' h' ∧ cP X.K T B W w' (iK t b m fr' h') D, ⟨n, w, fr, h, Wd.le_refl _, R, p⟩, fun m σ2 H2 ⟨w2, fr2, h2, l2, r2, p2⟩ => by
  cases m with
  | zero => exact (show False from p2).elim
  | succ m =>
    unfold iK at p2
    refine st B w2 σ2 H2 fr2 h2 _ r2 ?_
    cases e2 : t fr2 h2 with
    | ok c fr3 h3 =>
      rw [e2] at p2
      intro w3 H3 v l3 r3 rv
      have rv' : v = c := rv
      subst rv'
      cases v with
      | false => exact p2 w3 σ2 H3 l3 r3
      | true =>
        rw [if_pos rfl]
        refine ⟨fun σ' H' => ∃ w' fr' h', w.le w' ∧ Rel X.K T B w' σ' H' fr' h' ∧ cP X.K T B W w' (iK t b m fr' h') D, fun σ' H' q => ⟨m, Nat.lt_succ_self m, q⟩, ?_⟩
        refine sb B w3 σ2 H3 fr3 h3 _ r3 ?_
        dsimp only at p2
        cases e3 : b fr3 h3 with
        | ok f fr4 h4 =>
          rw [e3] at p2
          cases f with
          | nx => exact fun w5 σ5 H5 l5 r5 => ⟨w5, fr4, h4, Wd.le_trans l2 (Wd.le_trans l3 l5), r5, p2.le (Wd.le_trans l3 l5)⟩
          | ct => exact fun w5 σ5 H5 l5 r5 => ⟨w5, fr4, h4, Wd.le_trans l2 (Wd.le_trans l3 l5), r5, p2.le (Wd.le_trans l3 l5)⟩
          | brk => exact fun w5 σ5 H5 l5 r5 => p2 w5 σ5 H5 (Wd.le_trans l3 l5) r5
          | rt d => exact fun w5 σ5 H5 v l5 r5 rv => p2 w5 σ5 H5 v (Wd.le_trans l3 l5) r5 rv
        | exc y fr4 h4 =>
          rw [e3] at p2
          exact fun w5 σ5 H5 cc dd l5 r5 z => p2 w5 σ5 H5 cc dd (Wd.le_trans l3 l5) r5 z
        | err => rw [e3] at p2; exact p2
    | exc y fr3 h3 =>
      rw [e2] at p2
      exact fun w3 H3 cc dd l3 r3 z => p2 w3 σ2 H3 cc dd l3 r3 z
    | err => rw [e2] at p2; exact p2⟩
end
def WF : WX := fun _ _ _ _ => False
def dO (fr : Fr) : List Nat → Fr
 | [] => fr
 | v :: vs => (dO fr vs).set v none
theorem Gv (fr : Fr) : ∀ vs : List Nat, (dO fr vs).length = fr.length
 | [] => rfl
 | v :: vs => by unfold dO; rw [aiZ, Gv fr vs]
theorem wW {fr : Fr} {i : Nat} : ∀ {vs : List Nat}, i ∉ vs → (dO fr vs)[i]? = fr[i]?
 | [], _ => rfl
 | v :: vs, h => by
   unfold dO
   rw [List.mem_cons, not_or] at h
   rw [aiV (Ne.symm h.1), wW h.2]
theorem jP {fr : Fr} {i : Nat} {d : D} : ∀ {vs : List Nat}, i ∈ vs → (dO fr vs)[i]? ≠ some (some d)
 | [], h => by cases h
 | v :: vs, h => by
   unfold dO
   by_cases e : v = i
   · subst e
     by_cases l : v < (dO fr vs).length
     · rw [aiW l]
       exact fun z => by cases z
     · rw [List.getElem?_eq_none (by rw [aiZ]; omega)]
       exact fun z => by cases z
   · rw [aiV e]
     rcases List.mem_cons.mp h with z | z
     · exact absurd z.symm e
     · exact jP z
theorem wipe_out {σ : L2.St} {i : Nat} : ∀ {vs : List Nat}, i ∉ vs → (wipe σ vs)[i]? = σ[i]?
 | [], _ => rfl
 | v :: vs, h => by
   unfold wipe
   rw [List.mem_cons, not_or] at h
   rw [aiV (Ne.symm h.1), wipe_out h.2]
theorem aag {σ : L2.St} {i : Nat} {v : V} {vs : List Nat} (h : i ∈ vs) : (wipe σ vs)[i]? ≠ some (some v) := fun z => (wipe_some z).2 h
section
variable {K : PySem.W.Frag} {T : Tb} {B : Bs} {w w' : Wd} {σ σ' : L2.St} {H H' : Hp} {fr fr' : Fr} {h : Hh}
theorem Rel.refr (R : Rel K T B w σ H fr h) (fl : fr'.length = σ'.length) (hs : ∀ (i : Nat) (d : D), fr'[i]? = some (some d) → fr[i]? = some (some d) ∧ σ'[i]? = σ[i]?) : Rel K T B w σ' H fr' h :=
 { R with
   me := fun x d bx e od => by
    obtain ⟨h1, h2⟩ := hs 0 d e
    rw [h2]
    exact R.me x d bx h1 od
   fl := fl
   sl := fun i s d e1 e2 => by
    cases d with
    | none => exact .none
    | some d =>
      obtain ⟨h1, h2⟩ := hs i d e2
      rw [h2] at e1
      exact R.sl i s (some d) e1 h1
   sep := fun i j p hij ⟨a1, d1, a2, a3⟩ ⟨b1, d2, b2, b3⟩ => by
    obtain ⟨h1, h2⟩ := hs i d1 a2
    obtain ⟨h3, h4⟩ := hs j d2 b2
    rw [h2] at a1
    rw [h4] at b1
    exact R.sep i j p hij ⟨a1, d1, h1, a3⟩ ⟨b1, d2, h3, b3⟩ }
theorem Rel.wipe (R : Rel K T B w σ H fr h) (vs : List Nat) : Rel K T B w (wipe σ vs) H (dO fr vs) h := by
 refine R.refr (by rw [Gv, wipe_length]; exact R.fl) fun i d e => ?_
 by_cases hi : i ∈ vs
 · exact absurd e (jP hi)
 · rw [wW hi] at e
   exact ⟨e, wipe_out hi⟩
end
def dM (vs : List Nat) (g : D → M Unit) (t : M Bool) (e : M D) (d : D) : M (Option D) := fun fr h => match g d fr h with
 | .ok _ fr h => match t fr h with
   | .ok true fr h => match e fr h with
     | .ok y fr h => .ok (some y) (dO fr vs) h
     | _ => .err
   | .ok false fr h => .ok none (dO fr vs) h
   | _ => .err
 | _ => .err
def qb {α : Type} : Option α → List α → List α
 | some y, r => y :: r
 | none, r => r
def j6 (vs : List Nat) (g : D → M Unit) (t : M Bool) (e : M D) : List D → M (List D)
 | [] => M.ret []
 | d :: ds => (dM vs g t e d).bind fun o => (j6 vs g t e ds).bind fun r => M.ret (qb o r)
def Dm (vs : List Nat) : M Unit := fun fr h => .ok () (dO fr vs) h
def lM (vs : List Nat) (l : M (List D)) (g : D → M Unit) (t : M Bool) (e : M D) : M D := l.bind fun ds => (Dm vs).bind fun _ => if ds.length ≤ big then (j6 vs g t e ds).bind fun r => M.ret (.nl r) else M.opt none
section
variable {X : Cx} {T : Tb} {W : WX} {k : Nat} {pos pos' : Pos} {tg iter elt c : Expr} {ifs : List Expr} {li : M (List D)} {g : D → M Unit} {b : M Fl} {is : List Nat} {t : M Bool} {me : M D} {scope : Scope} {own : List (Str × Nat)}
theorem Jy {σ σ2 : L2.St} {vs is : List Nat} (hl : σ2.length = σ.length) (hi : ∀ i ∈ is, i ∈ vs) (hk : ∀ (j : Nat), j ∉ is → σ2[j]? = (wipe σ vs)[j]?) : wipe σ2 vs = wipe σ vs := by
 refine List.ext_getElem? fun j => ?_
 by_cases hj : j ∈ vs
 · have key : ∀ τ : L2.St, τ.length = σ.length → (wipe τ vs)[j]? = if j < σ.length then some none else none := fun τ hτ => by
    by_cases hjl : j < σ.length
    · rw [if_pos hjl]
      have hjl' : j < (wipe τ vs).length := by rw [wipe_length, hτ]; exact hjl
      rw [aiO hjl']
      cases e : (wipe τ vs)[j] with
      | none => rfl
      | some v => exact absurd (by rw [aiO hjl', e]) (aag (σ := τ) (v := v) hj)
    · rw [if_neg hjl]
      exact List.getElem?_eq_none (by rw [wipe_length, hτ]; omega)
   rw [key σ2 hl, key σ rfl]
 · rw [wipe_out hj, hk j fun z => hj (hi j z), wipe_out hj]
def GB (X : Cx) (scope : Scope) (tg : Expr) : TG := fun v σ H Q => ∀ (s : Shared) (H0 : Hp) (C : Addr) (cl : List (Str × Addr)) (fp : List Addr), WG (X.blk s H0 scope (compEnvC scope cl C X.env) fp) tg v σ H Q
def TB (X : Cx) (scope : Scope) (ifs : List Expr) : TT := fun σ H Q => ∀ (s : Shared) (H0 : Hp) (C : Addr) (cl : List (Str × Addr)) (fp : List Addr), Gn (X.blk s H0 scope (compEnvC scope cl C X.env) fp) ifs σ H Q
def EB (X : Cx) (scope : Scope) (e : Expr) : TE := fun σ H Q => ∀ (s : Shared) (H0 : Hp) (C : Addr) (cl : List (Str × Addr)) (fp : List Addr), WE (X.blk s H0 scope (compEnvC scope cl C X.env) fp) e σ H Q
theorem We {B : Bs} {w : Wd} {σ : L2.St} {H : Hp} {fr : Fr} {h : Hh} {Q : VK} (si : Gq X T W tg iter li) (hi : ∀ i ∈ is, i ∈ own.map (·.2))
 (sg : ∀ (s : Shared) (H0 : Hp) (C : Addr) (cl : List (Str × Addr)) (fp : List Addr), uJ (X.blk s H0 scope (compEnvC scope cl C X.env) fp) T is tg g)
 (st : ∀ (s : Shared) (H0 : Hp) (C : Addr) (cl : List (Str × Addr)) (fp : List Addr), fX (Gn (X.blk s H0 scope (compEnvC scope cl C X.env) fp) ifs) X.K T WF vB t)
 (se : ∀ (s : Shared) (H0 : Hp) (C : Addr) (cl : List (Str × Addr)) (fp : List Addr), aV (X.blk s H0 scope (compEnvC scope cl C X.env) fp) T WF elt me)
 (R : Rel X.K T B w σ H fr h) (p : aW X.K T B W (vE X.K T B σ) w σ (lM (own.map (·.2)) li g t me fr h) Q) : tLc (WI X tg iter) (GB X scope tg) (TB X scope ifs) (EB X scope elt) (own.map (·.2)) σ H Q := by
 refine si B w σ H fr h _ R (aW.bind (VR := vJ X.K T B σ) p fun ds fr0 h0 w1 H1 J e1 l1 r0 vj p0 => ?_)
 generalize hvs : own.map (·.2) = vs at hi p0 ⊢
 intro A0 nD
 have p1 : aW X.K T B W (vE X.K T B σ) w1 σ ((if ds.length ≤ big then (j6 vs g t me ds).bind fun r => M.ret (.nl r) else M.opt none) (dO fr0 vs) h0) Q := p0
 by_cases hb : ds.length ≤ big
 · rw [if_pos hb] at p1
   have rD := r0.temp (o := .lst []) nD
   have OD : Own B w1 A0 := r0.own_new nD
   refine ⟨fun i m H => m = ds.length - i ∧ i ≤ ds.length ∧ ∃ w' fr' h' acc vs', w1.le w' ∧ au X.K T w' vs' acc ∧ acc.length ≤ i ∧ Rel X.K T (B.pr A0 (.lst vs')) w' (wipe σ vs) H fr' h' ∧ (∀ j ∈ vs, ∀ d, fr'[j]? ≠ some (some d)) ∧
    aW X.K T B W (vE X.K T B σ) w' σ (((j6 vs g t me (ds.drop i)).bind fun r => M.ret (D.nl (acc ++ r))) fr' h') Q, ⟨ds.length, by simp, Nat.zero_le _, w1, dO fr0 vs, h0, [], [], Wd.le_refl _, .nil, Nat.zero_le _,
     (rD.wipe vs).protect OD (fun i ⟨z1, dd, z2, z3⟩ => r0.loose_new nD i (by
      by_cases hj : i ∈ vs
      · exact absurd z2 (jP hj)
      · rw [wW hj] at z2
        rw [wipe_out hj] at z1
        exact ⟨z1, dd, z2, z3⟩)) upd_same, fun j hj d => jP hj, p1⟩, ?_⟩
   rintro i m H2 ⟨rfl, hil, w2, fr2, h2, acc, us, l2, ra, la, r2, hw2, p2⟩
   have hP := OD.p
   obtain ⟨js, jg⟩ := vj i w2 H2 l2 r2.sub
   by_cases hlt : i < ds.length
   · obtain ⟨go, y⟩ := jg ds[i] (aiO hlt)
     have ed : ds.drop i = ds[i] :: ds.drop (i + 1) := List.drop_eq_getElem_cons hlt
     rw [ed] at p2
     refine .inr ⟨go, fun H' => ∃ w' fr' h' acc vs', w1.le w' ∧ au X.K T w' vs' acc ∧ acc.length ≤ i + 1 ∧ Rel X.K T (B.pr A0 (.lst vs')) w' (wipe σ vs) H' fr' h' ∧ (∀ j ∈ vs, ∀ d, fr'[j]? ≠ some (some d)) ∧
      aW X.K T B W (vE X.K T B σ) w' σ (((j6 vs g t me (ds.drop (i + 1))).bind fun r => M.ret (D.nl (acc ++ r))) fr' h') Q, fun H' q => ⟨ds.length - (i + 1), by omega, rfl, hlt, q⟩, fun x H3 yx => ?_⟩
     obtain ⟨w3, l3, r3, rx⟩ := y x H3 yx (B.pr A0 (.lst us)) (wipe σ vs) fr2 h2 r2
     have turn : ∃ o fr' h', dM vs g t me ds[i] fr2 h2 = .ok o fr' h' ∧ aW X.K T B W (vE X.K T B σ) w2 σ (((j6 vs g t me (ds.drop (i + 1))).bind fun r => M.ret (D.nl (acc ++ qb o r))) fr' h') Q := by
      have p2' : aW X.K T B W (vE X.K T B σ) w2 σ (((dM vs g t me ds[i]).bind fun o => (j6 vs g t me (ds.drop (i + 1))).bind fun r => M.ret (D.nl (acc ++ qb o r))) fr2 h2) Q := by
       have ee : ((j6 vs g t me (ds[i] :: ds.drop (i + 1))).bind fun r => M.ret (D.nl (acc ++ r))) fr2 h2 = ((dM vs g t me ds[i]).bind fun o => (j6 vs g t me (ds.drop (i + 1))).bind fun r => M.ret (D.nl (acc ++ qb o r))) fr2 h2 := by
        show M.bind (M.bind _ _) _ fr2 h2 = _
        unfold M.bind
        cases dM vs g t me ds[i] fr2 h2 with
        | ok o fr' h' => dsimp only; cases j6 vs g t me (ds.drop (i + 1)) fr' h' <;> rfl
        | exc _ _ _ => rfl
        | err => rfl
       rw [← ee]
       exact p2
      cases q : dM vs g t me ds[i] fr2 h2 with
      | ok o fr' h' =>
        rw [M.bind_ok q] at p2'
        exact ⟨o, fr', h', rfl, p2'⟩
      | exc y fr' h' =>
        exfalso
        unfold dM at q
        split at q
        · split at q
          · split at q <;> cases q
          · cases q
          · cases q
        · cases q
      | err =>
        rw [M.bind_err q] at p2'
        exact p2'.elim
     obtain ⟨o, fro, ho, qt, p3⟩ := turn
     have upw : ∀ {u2 : L2.St} {w' : Wd} {H' : Hp} {fr' : Fr} {h' : Hh} {B' : Bs}, wipe u2 vs = wipe σ vs → Rel X.K T B' w' u2 H' fr' h' → Rel X.K T B' w' (wipe σ vs) H' (dO fr' vs) h' := fun {u2 w' H' fr' h' B'} e R' => by
      rw [← e]
      exact R'.wipe vs
     intro s0 H0 C cl fp
     refine sg s0 H0 C cl fp (B.pr A0 (.lst us)) w3 (wipe σ vs) H3 fr2 h2 x ds[i] _ r3 rx ?_
     unfold dM at qt
     cases q1 : g ds[i] fr2 h2 with
     | exc _ _ _ => rw [q1] at qt; cases qt
     | err => rw [q1] at qt; cases qt
     | ok _ fr3 h3 =>
       rw [q1] at qt
       dsimp only at qt
       intro w4 σ4 H4 l4 r4 k4
       have ew : wipe σ4 vs = wipe σ vs := Jy (k4.1.trans (wipe_length σ vs)) hi k4.2
       refine ⟨ew, fun s0 H0 C cl fp => st s0 H0 C cl fp (B.pr A0 (.lst us)) w4 σ4 H4 fr3 h3 _ r4 ?_⟩
       cases q2 : t fr3 h3 with
       | exc _ _ _ => rw [q2] at qt; cases qt
       | err => rw [q2] at qt; cases qt
       | ok b fr4 h4 =>
         rw [q2] at qt
         intro w5 H5 v l5 r5 rv
         have rv' : v = b := rv
         subst rv'
         cases v with
         | false =>
           dsimp only at qt
           cases qt
           simp only [Bool.false_eq_true, if_false]
           exact ⟨w5, _, _, acc, us, Wd.le_trans l2 (Wd.le_trans l3 (Wd.le_trans l4 l5)), ra.mono (Wd.le_trans l3 (Wd.le_trans l4 l5)), Nat.le_succ_of_le la, upw ew r5, fun j hj d => jP hj, p3.le (Wd.le_trans l3 (Wd.le_trans l4 l5))⟩
         | true =>
           dsimp only at qt
           simp only [if_true]
           intro s0 H0 C cl fp
           refine se s0 H0 C cl fp (B.pr A0 (.lst us)) w5 σ4 H5 fr4 h4 _ r5 ?_
           cases q3 : me fr4 h4 with
           | exc _ _ _ => rw [q3] at qt; cases qt
           | err => rw [q3] at qt; cases qt
           | ok yd fr5 h5 =>
             rw [q3] at qt
             cases qt
             intro w6 H6 yv l6 r6 ry
             have hD6 : H6 A0 = some (.lst us) := (r6.prot (A0, .lst us) (aiX)).1
             have lall : w2.le w6 := Wd.le_trans l3 (Wd.le_trans l4 (Wd.le_trans l5 l6))
             refine ⟨us, hD6, ?_, w6, _, _, acc ++ [yd], us ++ [yv], Wd.le_trans l2 lall, (ra.mono lall).append (.cons ry .nil), ?_, (upw ew r6).repr OD.e OD.p, fun j hj d => jP hj, ?_⟩
             · rw [ra.length]
               have : big < sizeLine := by decide
               omega
             · rw [aiT]
               show acc.length + 1 ≤ i + 1
               omega
             · have e9 : ∀ r : List _, acc ++ qb (some yd) r = acc ++ [yd] ++ r := fun r => by
                show acc ++ yd :: r = _
                rw [ai8]
                rfl
               simp only [e9] at p3
               exact p3.le lall
   · have e : i = ds.length := by omega
     subst e
     rw [List.drop_length] at p2
     obtain ⟨r3, O3, lo3, eD⟩ := r2.unprotect OD.e OD.p
     refine .inl ⟨js (Nat.le_refl _), ?_⟩
     have p3 : aW X.K T B W (vE X.K T B σ) w2 σ (.ok (D.nl (acc ++ [])) fr2 h2) Q := p2
     rw [aiQ] at p3
     have r4 : Rel X.K T B w2 σ H2 fr2 h2 := r3.refr (by rw [← wipe_length σ vs]; exact r3.fl) fun j d ej => ⟨ej, by
      by_cases hj : j ∈ vs
      · exact absurd ej (hw2 j hj d)
      · exact (wipe_out hj).symm⟩
     refine p3 w2 H2 (.ref A0) (Wd.le_refl _) r4 (.inr ⟨A0, _, rfl, O3, fun j ⟨z1, dd, z2, z3⟩ => lo3 j ⟨?_, dd, z2, z3⟩, eD, .lst ra⟩)
     by_cases hj : j ∈ vs
     · exact absurd z2 (hw2 j hj dd)
     · rw [wipe_out hj]
       exact z1
 · rw [if_neg hb] at p1
   exact p1.elim
theorem wD (C : Cq X T W k) (own : List (Str × Nat)) (si : Gq X T W tg iter li) (hi : ∀ i ∈ is, i ∈ own.map (·.2))
 (sg : ∀ (s : Shared) (H0 : Hp) (C : Addr) (cl : List (Str × Addr)) (fp : List Addr), uJ (X.blk s H0 scope (compEnvC scope cl C X.env) fp) T is tg g)
 (st : ∀ (s : Shared) (H0 : Hp) (C : Addr) (cl : List (Str × Addr)) (fp : List Addr), fX (Gn (X.blk s H0 scope (compEnvC scope cl C X.env) fp) ifs) X.K T WF vB t)
 (se : ∀ (s : Shared) (H0 : Hp) (C : Addr) (cl : List (Str × Addr)) (fp : List Addr), aV (X.blk s H0 scope (compEnvC scope cl C X.env) fp) T WF elt me)
 (ok : BlkOk X.N X.env.scope scope own) (hs : ∀ x, foldedSetIterable iter X.env x = pure x := by intro _; rfl) : pX X T W (.ListComp elt [⟨tg, iter, ifs, 0⟩] scope pos) (lM (own.map (·.2)) li g t me) := fun B w σ H fr h Q R p =>
 eE (pe_lc C.calm C.nd BK ok (fun s H C cl fp => ⟨fun pins s' σ H v u Q I r hh => hh s _ C cl fp pins s' u I r⟩) (fun s H C cl fp => ⟨fun pins s' σ H Q I hh => hh s _ C cl fp pins s' I⟩) (fun s H C cl fp => ⟨fun pins s' σ H Q I hh => (hh s _ C cl fp).go pins s' I⟩) hs) (We si hi sg st se R p)
theorem Mh (C : Cq X T W k) (j : Nat) {y : Str} {py spos : Pos} (own : List (Str × Nat)) (si : Gq X T W tg iter li) (hi : ∀ i ∈ is, i ∈ own.map (·.2))
 (sg : ∀ (s : Shared) (H0 : Hp) (C : Addr) (cl : List (Str × Addr)) (fp : List Addr), uJ (X.blk s H0 scope (compEnvC scope cl C X.env) fp) T is tg g)
 (st : ∀ (s : Shared) (H0 : Hp) (C : Addr) (cl : List (Str × Addr)) (fp : List Addr), fX (Gn (X.blk s H0 scope (compEnvC scope cl C X.env) fp) ifs) X.K T WF vB t)
 (se : ∀ (s : Shared) (H0 : Hp) (C : Addr) (cl : List (Str × Addr)) (fp : List Addr), aV (X.blk s H0 scope (compEnvC scope cl C X.env) fp) T WF elt me)
 (ok : BlkOk X.N X.env.scope scope own) (hsw : swapsWith (.ListComp elt [⟨tg, iter, ifs, 0⟩] scope pos) (some (.Name y py)) spos.line X.env = pure true) (hy : X.N[j]? = some y := by rfl) (j0 : j ≠ 0 := by decide) (hyl : X.env.scope.names.lookup y = some .local := by rfl)
 (hs : ∀ x, foldedSetIterable iter X.env x = pure x := by intro _; rfl) : pY X T W (.Assign [.Name y py] (.ListComp elt [⟨tg, iter, ifs, 0⟩] scope pos) spos) (bu j (lM (own.map (·.2)) li g t me)) := fun B w σ H fr h D R p =>
 oG (ps_setLc C.calm C.nd hy hyl hsw BK ok (fun s H C cl fp => ⟨fun pins s' σ H v u Q I r hh => hh s _ C cl fp pins s' u I r⟩) (fun s H C cl fp => ⟨fun pins s' σ H Q I hh => hh s _ C cl fp pins s' I⟩) (fun s H C cl fp => ⟨fun pins s' σ H Q I hh => (hh s _ C cl fp).go pins s' I⟩) hs)
  (We si hi sg st se R (cP.bind (VR := vE X.K T B σ) p fun d fr1 h1 w1 H1 v e1 l1 r1 rx p1 => p1 w1 _ H1 (Wd.le_refl _) (r1.put j j0 rx)))
theorem pB : fX (Gn X []) X.K T W vB (M.ret true) := fun B w σ H fr h Q R p => SM pts_nil (p w H true (Wd.le_refl _) R rfl)
theorem Ib (s : vX X T W c t) : fX (Gn X [c]) X.K T W vB t := fun B w σ H fr h Q R p => SM (pts_one uH) (s B w σ H fr h Q R p)
theorem Cq.blk (C : Cq X T W k) {s : Shared} {H0 : Hp} {A0 : Addr} {cl : List (Str × Addr)} {fp : List Addr} : Cq (X.blk s H0 scope (compEnvC scope cl A0 X.env) fp) T WF k :=
 ⟨C.calm, C.nd, C.room, fun u s' ⟨_, _, _, _, _, _, _, _, _, _, _, _, _, _, _, _, w⟩ => w.elim, fun _ _ z => z.elim⟩
end
def bZ (i : Nat) (f : List D → Option (List D)) : M Unit := fun fr h => match fr[i]? with
 | some (some (.nl l)) => match f l with
   | some l' => .ok () (fr.set i (some (.nl l'))) h
   | none => .err
 | some (some (.ref n)) => match h[n]? with
   | some (.nl l) => match f l with
     | some l' => .ok () fr (h.set n (.nl l'))
     | none => .err
   | _ => .err
 | _ => .err
def eG (d : D) (f : List D → Option (List D)) : M Unit := fun fr h => match d with
 | .ref n => match h[n]? with
   | some (.nl l) => match f l with
     | some l' => .ok () fr (h.set n (.nl l'))
     | none => .err
   | _ => .err
 | _ => .err
def oJ (l : List D) : Option (List D) := some l
def xJ (d : D) (l : List D) : Option (List D) := if l.length < big then some (l ++ [d]) else none
def ou (j : D) (d : D) (l : List D) : Option (List D) := match j with
 | .int j => (ixN l.length j).map fun n => l.set n d
 | _ => none
def abF (_ : List D) : Option (List D) := some []
def xZ (K : PySem.W.Frag) (T : Tb) (B : Bs) (w : Wd) (σ : L2.St) (H : Hp) (v : V) (f : List D → Option (List D)) (fr' : Fr) (h' : Hh) : Prop :=
 ∃ p vs l l', v = .ref p ∧ H p = some (.lst vs) ∧ au K T w vs l ∧ f l = some l' ∧ ∀ vs', au K T w vs' l' → Rel K T B w σ (upd H p (.lst vs')) fr' h'
section
variable {K : PySem.W.Frag} {T : Tb} {B : Bs} {w : Wd} {σ : L2.St} {H : Hp} {fr : Fr} {h : Hh}
theorem Do (R : Rel K T B w σ H fr h) {n : Nat} {v : V} (rv : bA K T w v (.ref n)) {f : List D → Option (List D)} {l l' : List D} (e : h[n]? = some (.nl l)) (ef : f l = some l') : xZ K T B w σ H v f fr (h.set n (.nl l')) := by
 cases rv with
 | @ref a n s =>
   obtain ⟨o, q, rr⟩ := R.cel n a _ s e
   cases rr with
   | lst r => exact ⟨a, _, l, l', rfl, q, r, ef, fun vs' rs => R.change_cell s e (.lst rs)⟩
theorem Mi {α β : Type} {VR : Wd → Hp → Fr → β → α → Prop} {W : WX} {d : D} {v : V} {f : List D → Option (List D)} {m : M α} {Q : β → Hp → Prop} (R : Rel K T B w σ H fr h) (rv : bA K T w v d) (p : aW K T B W VR w σ ((eG d f).bind (fun _ => m) fr h) Q) :
 ∃ fr' h', xZ K T B w σ H v f fr' h' ∧ aW K T B W VR w σ (m fr' h') Q := by
 cases q : eG d f fr h with
 | ok u fr' h' =>
   rw [M.bind_ok q] at p
   refine ⟨fr', h', ?_, p⟩
   unfold eG at q
   split at q
   · split at q
     · split at q
       · cases q
         exact Do R rv (by assumption) (by assumption)
       · cases q
     · cases q
   · cases q
 | exc y fr' h' =>
   exfalso
   unfold eG at q
   split at q
   · split at q
     · split at q <;> cases q
     · cases q
   · cases q
 | err =>
   rw [M.bind_err q] at p
   exact p.elim
theorem Pr {α β : Type} {VR : Wd → Hp → Fr → β → α → Prop} {W : WX} {i : Nat} {v : V} {f : List D → Option (List D)} {m : M α} {Q : β → Hp → Prop} (R : Rel K T B w σ H fr h) (ev : σ[i]? = some (some v)) (p : aW K T B W VR w σ ((bZ i f).bind (fun _ => m) fr h) Q) :
 ∃ fr' h', xZ K T B w σ H v f fr' h' ∧ aW K T B W VR w σ (m fr' h') Q := by
 cases q : bZ i f fr h with
 | ok u fr' h' =>
   rw [M.bind_ok q] at p
   refine ⟨fr', h', ?_, p⟩
   unfold bZ at q
   split at q
   · rename_i l e1
     split at q
     · rename_i l' ef
       cases q
       obtain ⟨v', e2, z⟩ := jA R e1
       rw [ev] at e2
       cases e2
       cases z with
       | val r => cases r
       | own O eH r =>
         cases r with
         | lst r => exact ⟨_, _, l, l', rfl, eH, r, ef, fun vs' rs => R.change_slot ev e1 O eH rfl (.lst rs)⟩
     · cases q
   · rename_i n e1
     split at q
     · split at q
       · cases q
         obtain ⟨v', e2, z⟩ := jA R e1
         rw [ev] at e2
         cases e2
         cases z with
         | val r => exact Do R r (by assumption) (by assumption)
         | own O eH r => cases r
       · cases q
     · cases q
   · cases q
 | exc y fr' h' =>
   exfalso
   unfold bZ at q
   split at q
   · split at q <;> cases q
   · split at q
     · split at q <;> cases q
     · cases q
   · cases q
 | err =>
   rw [M.bind_err q] at p
   exact p.elim
end
def rZ (i : Nat) (m : M D) : M D := (bZ i oJ).bind fun _ => m.bind fun d => (bZ i (xJ d)).bind fun _ => M.ret .non
def afK (i : Nat) : M D := (bZ i abF).bind fun _ => M.ret .non
def Ie (mo m : M D) : M D := mo.bind fun o => (eG o oJ).bind fun _ => m.bind fun d => (eG o (xJ d)).bind fun _ => M.ret .non
def afL (mo : M D) : M D := mo.bind fun o => (eG o abF).bind fun _ => M.ret .non
section
variable {X : Cx} {T : Tb} {W : WX} {k : Nat} {apos cpos px : Pos} {e o : Expr} {m mo : M D}
theorem Wf {K : PySem.W.Frag} {B : Bs} {w : Wd} {σ : L2.St} {H : Hp} {v : V} {f : List D → Option (List D)} {fr' : Fr} {h' : Hh} (z : xZ K T B w σ H v f fr' h') : tyV K "list" v H := by
 obtain ⟨p, vs, l, l', rfl, e, _⟩ := z
 exact .inl ⟨rfl, vs, SqL.of e⟩
theorem Pu {K : PySem.W.Frag} {B : Bs} {w : Wd} {σ : L2.St} {H : Hp} {v : V} {fr' : Fr} {h' : Hh} (z : xZ K T B w σ H v oJ fr' h') : Rel K T B w σ H fr' h' := by
 obtain ⟨p, vs, l, l', rfl, e, r, ef, k⟩ := z
 have e1 : l = l' := Option.some.inj ef
 subst e1
 have z := k vs r
 have : upd H p (.lst vs) = H := by
  funext a
  unfold upd
  split
  · rename_i h
    rw [h, e]
  · rfl
 rw [this] at z
 exact z
theorem SN {K : PySem.W.Frag} {B : Bs} {w : Wd} {σ : L2.St} {H : Hp} {v y : V} {d : D} {fr' : Fr} {h' : Hh} {Q : VK} (z : xZ K T B w σ H v (xJ d) fr' h') (ry : bA K T w y d) (q : ∀ H', Rel K T B w σ H' fr' h' → Q .non H') : rAppend v [y] H Q := by
 obtain ⟨p, vs, l, l', rfl, e, r, ef, k⟩ := z
 unfold xJ at ef
 by_cases hl : l.length < big
 · rw [if_pos hl] at ef
   cases ef
   exact ⟨p, vs, y, rfl, rfl, e, by rw [r.length]; exact Nat.lt_of_lt_of_le hl (by decide), q _ (k _ (r.append (.cons ry .nil)))⟩
 · rw [if_neg hl] at ef
   cases ef
theorem Ig (i : Nat) {x : Str} (s : aV X T W e m) (hN : X.N[i]? = some x := by rfl) (hv : Vis X.env.scope x := by first | exact Or.inl rfl | exact Or.inr (Or.inl rfl) | exact Or.inr (Or.inr rfl)) (hd : (x == ("__debug__" : Str)) = false := by decide)
 (hcd : (x == ("__classdict__" : Str)) = false := by decide)
 (hbase : attributeBase (.Name x px) "append" X.env (eval (.Name x px) X.env) = eval (.Name x px) X.env := by rfl)
 (hfew : ((backTo cpos (starEach (e :: []) X.env)).all (fun x => !x.1) && (backToKw cpos (keywordEach [] X.env)).all (fun x => x.1.isSome)
  && decide ((e :: []).length + ([] : List Keyword).length + (if ([] : List Keyword).isEmpty then 0 else 1) < 30)) = true := by rfl)
 (hline : (apos.endLine == cpos.line) = true := by rfl) (hs : starEach (e :: []) X.env = (false, eval e X.env) :: starEach [] X.env := by exact dJ rfl) (hplain : (backTo cpos (starEach [] X.env)).any (·.1) = false := by rfl) :
 aV X T W (.Call (.Attribute (.Name x px) "append" apos) [e] [] cpos) (rZ i m) := fun B w σ H fr h Q R p => by
 have hh : ∃ v, σ[i]? = some (some v) := by
  cases e1 : fr[i]? with
  | none =>
    have q : bZ i oJ fr h = .err := by unfold bZ; rw [e1]
    have p' : aW X.K T B W (vV X.K T B σ) w σ ((bZ i oJ).bind _ fr h) Q := p
    rw [M.bind_err q] at p'
    exact p'.elim
  | some o =>
    cases o with
    | none =>
      have q : bZ i oJ fr h = .err := by unfold bZ; rw [e1]
      have p' : aW X.K T B W (vV X.K T B σ) w σ ((bZ i oJ).bind _ fr h) Q := p
      rw [M.bind_err q] at p'
      exact p'.elim
    | some d =>
      obtain ⟨v, e2, _⟩ := jA R e1
      exact ⟨v, e2⟩
 obtain ⟨v, ev⟩ := hh
 obtain ⟨fr1, h1, z1, p1⟩ := Pr (VR := vV X.K T B σ) R ev p
 have R1 := Pu z1
 refine eE (pe_bm PySem.F.plainAttrs_list PySem.F.slot_list_append PySem.F.type_list_append mt_append (pe_var hN hv hd hcd) (pa_cons bj pa_nil hs) hbase hfew hline hs hplain) ⟨v, ev, Wf z1, s B w σ H fr1 h1 _ R1 (aW.bind (VR := vV X.K T B σ) p1 fun d fr2 h2 w2 H2 y e2 l2 r2 ry p2 => ?_)⟩
 obtain ⟨fr3, h3, z3, p3⟩ := Pr (VR := vV X.K T B σ) r2 ev p2
 exact SN z3 ry fun H' R' => p3 w2 H' .non (Wd.le_refl _) R' .non
theorem aah (so : aV X T W o mo) (s : aV X T W e m)
 (hbase : attributeBase o "append" X.env (eval o X.env) = eval o X.env := by rfl)
 (hfew : ((backTo cpos (starEach (e :: []) X.env)).all (fun x => !x.1) && (backToKw cpos (keywordEach [] X.env)).all (fun x => x.1.isSome)
  && decide ((e :: []).length + ([] : List Keyword).length + (if ([] : List Keyword).isEmpty then 0 else 1) < 30)) = true := by rfl)
 (hline : (apos.endLine == cpos.line) = true := by rfl) (hs : starEach (e :: []) X.env = (false, eval e X.env) :: starEach [] X.env := by exact dJ rfl) (hplain : (backTo cpos (starEach [] X.env)).any (·.1) = false := by rfl) :
 aV X T W (.Call (.Attribute o "append" apos) [e] [] cpos) (Ie mo m) := fun B w σ H fr h Q R p => by
 refine eE (pe_bm PySem.F.plainAttrs_list PySem.F.slot_list_append PySem.F.type_list_append mt_append bj (pa_cons bj pa_nil hs) hbase hfew hline hs hplain) (so B w σ H fr h _ R (aW.bind (VR := vV X.K T B σ) p fun od fr0 h0 w0 H0 ov e0 l0 r0 ro p0 => ?_))
 obtain ⟨fr1, h1, z1, p1⟩ := Mi (VR := vV X.K T B σ) r0 ro p0
 have R1 := Pu z1
 refine ⟨Wf z1, s B w0 σ H0 fr1 h1 _ R1 (aW.bind (VR := vV X.K T B σ) p1 fun d fr2 h2 w2 H2 y e2 l2 r2 ry p2 => ?_)⟩
 obtain ⟨fr3, h3, z3, p3⟩ := Mi (VR := vV X.K T B σ) r2 (ro.mono l2) p2
 exact SN z3 ry fun H' R' => p3 w2 H' .non (Wd.le_refl _) R' .non
def o9 (i : Nat) (m mi : M D) : M Fl := m.bind fun d => (m9 i).bind fun _ => mi.bind fun j => (bZ i (ou j d)).bind fun _ => M.ret .nx
def afM (mo m mi : M D) : M Fl := m.bind fun d => mo.bind fun o => mi.bind fun j => (eG o (ou j d)).bind fun _ => M.ret .nx
end
end Pk
namespace Pk
open PySem PySem.Spec L2
section
variable {K : PySem.W.Frag} {T : Tb} {B : Bs} {w : Wd} {σ : L2.St} {H : Hp} {fr : Fr} {h : Hh}
theorem Px {d : D} {v : V} {f : List D → Option (List D)} (R : Rel K T B w σ H fr h) (rv : bA K T w v d) : eG d f fr h = .err ∨ ∃ fr' h', eG d f fr h = .ok () fr' h' ∧ xZ K T B w σ H v f fr' h' := by
 cases q : eG d f fr h with
 | ok u fr' h' =>
   have p : aW K T B WF (fun _ _ _ (_ : Unit) (_ : Unit) => True) w σ ((eG d f).bind (fun _ => M.ret ()) fr h) (fun _ _ => True) := by
    rw [M.bind_ok q]
    exact fun _ _ _ _ _ _ => trivial
   obtain ⟨fr2, h2, z, _⟩ := Mi R rv p
   right
   refine ⟨fr', h', rfl, ?_⟩
   unfold eG at q
   split at q
   · split at q
     · split at q
       · cases q
         exact Do R rv (by assumption) (by assumption)
       · cases q
     · cases q
   · cases q
 | exc y fr' h' =>
   exfalso
   unfold eG at q
   split at q
   · split at q
     · split at q <;> cases q
     · cases q
   · cases q
 | err => exact .inl rfl
theorem Wg {i : Nat} {v : V} {f : List D → Option (List D)} (R : Rel K T B w σ H fr h) (ev : σ[i]? = some (some v)) : bZ i f fr h = .err ∨ ∃ fr' h', bZ i f fr h = .ok () fr' h' ∧ xZ K T B w σ H v f fr' h' := by
 cases q : bZ i f fr h with
 | ok u fr' h' =>
   right
   refine ⟨fr', h', rfl, ?_⟩
   unfold bZ at q
   split at q
   · rename_i l e1
     split at q
     · rename_i l' ef
       cases q
       obtain ⟨v', e2, z⟩ := jA R e1
       rw [ev] at e2
       cases e2
       cases z with
       | val r => cases r
       | own O eH r =>
         cases r with
         | lst r => exact ⟨_, _, l, l', rfl, eH, r, ef, fun vs' rs => R.change_slot ev e1 O eH rfl (.lst rs)⟩
     · cases q
   · rename_i n e1
     split at q
     · split at q
       · cases q
         obtain ⟨v', e2, z⟩ := jA R e1
         rw [ev] at e2
         cases e2
         cases z with
         | val r => exact Do R r (by assumption) (by assumption)
         | own O eH r => cases r
       · cases q
     · cases q
   · cases q
 | exc y fr' h' =>
   exfalso
   unfold bZ at q
   split at q
   · split at q <;> cases q
   · split at q
     · split at q <;> cases q
     · cases q
   · cases q
 | err => exact .inl rfl
end
section
variable {X : Cx} {T : Tb} {W : WX} {k : Nat} {pos px tpos : Pos} {e o j : Expr} {m mo mj : M D}
theorem Wh {K : PySem.W.Frag} {B : Bs} {w : Wd} {σ : L2.St} {H : Hp} {v y u : V} {d jd : D} {fr' : Fr} {h' : Hh} {Q : Hp → Prop} (z : xZ K T B w σ H v (ou jd d) fr' h') (ry : bA K T w y d) (rj : bA K T w u jd) (q : ∀ H', Rel K T B w σ H' fr' h' → Q H') : rSetL v u y H Q := by
 obtain ⟨p, vs, l, l', rfl, e, r, ef, k⟩ := z
 unfold ou at ef
 split at ef
 · rename_i i
   obtain ⟨n, en, rfl⟩ := Option.map_eq_some_iff.mp ef
   rw [je rj]
   exact ⟨p, vs, i, n, rfl, rfl, e, by rw [r.length]; exact en, q _ (k _ (r.set n ry))⟩
 · cases ef
theorem BP (i : Nat) {x : Str} (s : aV X T W e m) (sj : aV X T W j mj) (hN : X.N[i]? = some x := by rfl) (hv : Vis X.env.scope x := by first | exact Or.inl rfl | exact Or.inr (Or.inl rfl) | exact Or.inr (Or.inr rfl)) (hd : (x == ("__debug__" : Str)) = false := by decide)
 (hcd : (x == ("__classdict__" : Str)) = false := by decide)
 (ha : ∀ v, assign (.Subscript (.Name x px) j tpos) X.env v = (do
  let ov ← holding [v] (eval (.Name x px) X.env)
  let iv ← holding [v, ov] (eval j X.env)
  standAt tpos
  holding [v, ov, iv] (setItem ov iv v)
  release [v, ov, iv] []) := by intro _; rfl)
 (hs : swapsWithSole [.Subscript (.Name x px) j tpos] e pos.line X.env = pure false := by rfl) (hw : swappedStores [.Subscript (.Name x px) j tpos] e X.env = pure none := by rfl)
 (h1 : (assignEach [.Subscript (.Name x px) j tpos] X.env).map (·.2) = [assign (.Subscript (.Name x px) j tpos) X.env] := by rfl) : pY X T W (.Assign [.Subscript (.Name x px) j tpos] e pos) (o9 i m mj) := fun B w σ H fr h D R p =>
 oG (ps_asg bj (pg_sub (pe_var hN hv hd hcd) bj set_list ha) hs hw h1) (s B w σ H fr h _ R (cP.bind (VR := vV X.K T B σ) p fun d fr1 h1 w1 H1 v e1 l1 r1 rx p1 => by
  have p1' : cP X.K T B W w1 ((m9 i).bind (fun _ => mj.bind fun j => (bZ i (ou j d)).bind fun _ => M.ret .nx) fr1 h1) D := p1
  cases es : fr1[i]? with
  | none =>
    have q : m9 i fr1 h1 = .err := by unfold m9; rw [es]
    rw [M.bind_err q] at p1'
    exact p1'.elim
  | some os =>
    cases os with
    | none =>
      have q : m9 i fr1 h1 = .err := by unfold m9; rw [es]
      rw [M.bind_err q] at p1'
      exact p1'.elim
    | some ds =>
      have q : m9 i fr1 h1 = .ok () fr1 h1 := by unfold m9; rw [es]
      rw [M.bind_ok q] at p1'
      obtain ⟨ov, ev, _⟩ := jA r1 es
      refine ⟨ov, ev, sj B w1 σ H1 fr1 h1 _ r1 (cP.bind (VR := vV X.K T B σ) p1' fun jd fr2 h2 w2 H2 jv e2 l2 r2 rj p2 => ?_)⟩
      have p2' : cP X.K T B W w2 ((bZ i (ou jd d)).bind (fun _ => M.ret .nx) fr2 h2) D := p2
      rcases Wg (f := ou jd d) r2 ev with q | ⟨fr3, h3, q, z⟩
      · rw [M.bind_err q] at p2'
        exact p2'.elim
      · rw [M.bind_ok q] at p2'
        exact Wh z (rx.mono l2) rj fun H' R' => p2' w2 σ H' (Wd.le_refl _) R'))
def oh (m : M D) : M D := m.bind fun d fr h => if d.own then .ok (.ref h.length) fr (h ++ [d]) else .err
theorem v4 (s : pX X T W e m) : aV X T W e (oh m) := fun B w σ H fr h Q R p => s B w σ H fr h Q R (aW.bind (VR := vE X.K T B σ) p fun d fr1 h1 w1 H1 v e1 l1 r1 rx p1 => by
 rcases rx with rx | ⟨q, o, rfl, O, lo, eH, rd⟩
 · have p1' : aW X.K T B W (vV X.K T B σ) w1 σ (if d.own then .ok (.ref h1.length) fr1 (h1 ++ [d]) else .err) Q := p1
   rw [Dj rx] at p1'
   exact (show False from p1').elim
 · have p1' : aW X.K T B W (vV X.K T B σ) w1 σ (if d.own then .ok (.ref h1.length) fr1 (h1 ++ [d]) else .err) Q := p1
   rw [rd.own] at p1'
   have R2 := r1.to_cell O lo eH rd
   exact p1' ⟨w1.F, w1.I ++ [q]⟩ H1 (.ref q) ⟨fun _ _ z => z, [q], rfl⟩ R2 (.ref (by
    rw [← r1.len]
    show (w1.I ++ [q])[w1.I.length]? = some q
    rw [ajc (Nat.le_refl _), Nat.sub_self]
    rfl)))
theorem KD {α : Type} {f : Str} : ∀ {fs : List Str} {vs : List α} {i : Nat}, fs.Nodup → fs[i]? = some f → (fs.zip vs).lookup f = vs[i]?
 | [], _, _, _, e => by simp at e
 | g :: fs, [], i, _, _ => by simp
 | g :: fs, v :: vs, 0, _, e => by
   simp at e
   subst e
   simp [aiU]
 | g :: fs, v :: vs, i + 1, n, e => by
   have hf : f ∈ fs := ai1 (by simpa using e)
   have hne : (f == g) = false := by
    rw [beq_eq_false_iff_ne]
    rintro rfl
    exact (List.nodup_cons.mp n).1 hf
   show aiU f ((g, v) :: fs.zip vs) = (v :: vs)[i + 1]?
   rw [List.lookup_cons, hne]
   show (fs.zip vs).lookup f = _
   rw [KD (List.nodup_cons.mp n).2 (by simpa using e)]
   simp
theorem Py {f : Str} {y : V} : ∀ {fs : List Str} {vs : List V} {i : Nat}, fs.Nodup → fs[i]? = some f → i ≤ vs.length → putF f y (fs.zip vs) = fs.zip (if i < vs.length then vs.set i y else vs ++ [y])
 | [], _, _, _, e, _ => by simp at e
 | g :: fs, [], i, _, e, hl => by
   have h0 : i = 0 := by simpa using hl
   subst h0
   simp at e
   subst e
   simp [putF]
 | g :: fs, v :: vs, 0, _, e, _ => by
   simp at e
   subst e
   show putF g y ((g, v) :: fs.zip vs) = _
   unfold putF
   rw [if_pos rfl, if_pos (show 0 < (v :: vs).length from Nat.succ_pos _)]
   rfl
 | g :: fs, v :: vs, i + 1, n, e, hl => by
   have hf : f ∈ fs := ai1 (by simpa using e)
   have hne : ¬ g = f := by
    rintro rfl
    exact (List.nodup_cons.mp n).1 hf
   show putF f y ((g, v) :: fs.zip vs) = _
   unfold putF
   rw [if_neg hne, Py (List.nodup_cons.mp n).2 (i := i) (by simpa using e) (by simpa using hl)]
   by_cases h : i < vs.length
   · rw [if_pos h, if_pos (by simpa using h)]
     rfl
   · rw [if_neg h, if_neg (by simpa using h)]
     rfl
structure Mj (X : Cx) (T : Tb) (f : Str) (ix : Nat → Option Nat) : Prop where
 cls : ∀ c i, ix c = some i → Cls X.K (T.cad c)
 na : ∀ c i, ix c = some i → NoAttr X.K (T.cad c) f
 nd : ∀ c i, ix c = some i → (T.fld c).Nodup ∧ (T.fld c).length < 1000
 at_ : ∀ c i, ix c = some i → (T.fld c)[i]? = some f
def D.ins (h : Hh) (d : D) : Option (Nat × List D) := match d.der h with
 | .obj c fs => some (c, fs)
 | .no c fs => some (c, fs)
 | _ => none
def bL (ix : Nat → Option Nat) (h : Hh) (d : D) : Option D := match d.ins h with
 | some (c, fs) => match ix c with
   | some i => fs[i]?
   | none => none
 | none => none
theorem SQ {K : PySem.W.Frag} {B : Bs} {w : Wd} {σ : L2.St} {H : Hp} {fr : Fr} {h : Hh} {v : V} {d : D} {c : Nat} {fs : List D} (R : Rel K T B w σ H fr h) (z : vO K T B σ w H fr v d) (e : d.ins h = some (c, fs)) :
 ∃ a dx vs, v = .ref a ∧ H a = some (.ins (T.cad c) dx ((T.fld c).zip vs)) ∧ au K T w vs fs := by
 rcases z with z | ⟨p, o, rfl, eH, z⟩
 · cases z with
   | obj s r =>
     cases e
     exact ⟨_, _, _, rfl, R.sub _ _ s, r⟩
   | @ref a n s =>
     have ln : n < h.length := by
      rw [← R.len]
      exact (List.getElem?_eq_some_iff.mp s).1
     obtain ⟨o, q, rr⟩ := R.cel n a h[n] s (aiO ln)
     have e0 : D.der h (.ref n) = h[n] := by
      unfold D.der
      dsimp only
      rw [aiO ln]
      rfl
     unfold D.ins at e
     rw [e0] at e
     generalize h[n] = cc at rr e
     cases rr with
     | lst r => cases e
     | dct _ r => cases e
     | dkt _ r => cases e
     | so0 _ => cases e
     | so1 _ _ => cases e
     | hid0 => cases e
     | hid1 => cases e
     | obj r =>
       cases e
       exact ⟨_, _, _, rfl, q, r⟩
   | _ => cases e
 · cases z with
   | lst r => cases e
   | obj r =>
     cases e
     exact ⟨_, _, _, rfl, eH, r⟩
theorem eZ {f : Str} {ix : Nat → Option Nat} (F : Mj X T f ix) (s : z9 X T W o mo) (hb : attributeBase o f X.env (eval o X.env) = eval o X.env := by rfl) : aV X T W (.Attribute o f pos) (aC (bL ix) mo) := fun B w σ H fr h Q R p =>
 eE (pe_fld bj hb) (s B w σ H fr h _ R (aW.bind (VR := vO X.K T B σ) p fun d fr1 h1 w1 H1 v e1 l1 r1 rx p1 => by
  have p1' : aW X.K T B W (vV X.K T B σ) w1 σ (M.opt (bL ix h1 d) fr1 h1) Q := p1
  cases q : bL ix h1 d with
  | none => rw [q] at p1'; exact p1'.elim
  | some z =>
    rw [q] at p1'
    unfold bL at q
    split at q
    · rename_i c fs ei
      split at q
      · rename_i i ec
        obtain ⟨a, dx, vs, rfl, eH, rs⟩ := SQ r1 rx ei
        obtain ⟨v, ev, rv⟩ := rs.get q
        exact ⟨a, _, dx, _, v, rfl, eH, F.cls c i ec, F.na c i ec, by rw [KD (F.nd c i ec).1 (F.at_ c i ec)]; exact ev, p1' w1 H1 v (Wd.le_refl _) r1 rv⟩
      · cases q
    · cases q))
def nj (i : Nat) (d : D) (fs : List D) : Option (List D) := if i ≤ fs.length then some (if i < fs.length then fs.set i d else fs ++ [d]) else none
def sX (j : Nat) (ix : Nat → Option Nat) (d : D) : M Unit := fun fr h => match fr[j]? with
 | some (some (.no c fs)) => match ix c with
   | some i => match nj i d fs with
     | some fs' => .ok () (fr.set j (some (.no c fs'))) h
     | none => .err
   | none => .err
 | some (some (.ref n)) => match h[n]? with
   | some (.no c fs) => match ix c with
     | some i => match nj i d fs with
       | some fs' => .ok () fr (h.set n (.no c fs'))
       | none => .err
     | none => .err
   | _ => .err
 | _ => .err
def lW (j : Nat) (ix : Nat → Option Nat) (m : M D) : M Fl := m.bind fun d => (sX j ix d).bind fun _ => M.ret .nx
theorem Wi {K : PySem.W.Frag} {w : Wd} {f : Str} {c i : Nat} {fs fs' : List D} {vs : List V} {y : V} {d : D} (nd : (T.fld c).Nodup) (at_ : (T.fld c)[i]? = some f) (rs : au K T w vs fs) (ry : bA K T w y d) (e : nj i d fs = some fs') :
 ∃ vs', putF f y ((T.fld c).zip vs) = (T.fld c).zip vs' ∧ au K T w vs' fs' := by
 unfold nj at e
 by_cases hi : i ≤ fs.length
 · rw [if_pos hi] at e
   cases e
   refine ⟨_, Py nd at_ (by rw [rs.length]; exact hi), ?_⟩
   rw [rs.length]
   by_cases hl : i < fs.length
   · rw [if_pos hl, if_pos hl]
     exact rs.set i ry
   · rw [if_neg hl, if_neg hl]
     exact rs.append (.cons ry .nil)
 · rw [if_neg hi] at e
   cases e
theorem yO (j : Nat) {x f : Str} {ix : Nat → Option Nat} (F : Mj X T f ix) (s : aV X T W e m) (hs : swapsWith e (some (.Attribute (.Name x px) f tpos)) pos.line X.env = pure false := by rfl)
 (hN : X.N[j]? = some x := by rfl) (hv : Vis X.env.scope x := by first | exact Or.inl rfl | exact Or.inr (Or.inl rfl) | exact Or.inr (Or.inr rfl)) (hd : (x == ("__debug__" : Str)) = false := by decide)
 (hcd : (x == ("__classdict__" : Str)) = false := by decide) : pY X T W (.Assign [.Attribute (.Name x px) f tpos] e pos) (lW j ix m) := fun B w σ H fr h D R p =>
 oG (ps_fld (pe_var hN hv hd hcd) bj hs) (s B w σ H fr h _ R (cP.bind (VR := vV X.K T B σ) p fun d fr1 h1 w1 H1 y e1 l1 r1 ry p1 => by
  have p1' : cP X.K T B W w1 ((sX j ix d).bind (fun _ => M.ret .nx) fr1 h1) D := p1
  have fin : ∀ {c i : Nat} {a dx : Addr} {vs : List V} {fs fs' : List Pk.D}, ix c = some i → H1 a = some (.ins (T.cad c) dx ((T.fld c).zip vs)) → au X.K T w1 vs fs → nj i d fs = some fs' → (∀ vs', au X.K T w1 vs' fs' → D.nx σ (upd H1 a (.ins (T.cad c) dx ((T.fld c).zip vs')))) → σ[j]? = some (some (.ref a)) →
   ∃ v, σ[j]? = some (some v) ∧ ∃ a C dx fs, v = .ref a ∧ H1 a = some (.ins C dx fs) ∧ Cls X.K C ∧ NoAttr X.K C f ∧ fs.length < 1000 ∧ D.nx σ (upd H1 a (.ins C dx (putF f y fs))) := fun {c i a dx vs fs fs'} ec eH rs ep kk es => by
   obtain ⟨vs', e1, rs'⟩ := Wi (F.nd c i ec).1 (F.at_ c i ec) rs ry ep
   refine ⟨_, es, a, _, dx, _, rfl, eH, F.cls c i ec, F.na c i ec, ?_, ?_⟩
   · rw [List.length_zip]
     have := (F.nd c i ec).2
     omega
   · rw [e1]
     exact kk vs' rs'
  cases q : sX j ix d fr1 h1 with
  | err => rw [M.bind_err q] at p1'; exact p1'.elim
  | exc z fr2 h2 =>
    exfalso
    unfold sX at q
    repeat' (first | (split at q) | (cases q))
  | ok u fr2 h2 =>
    rw [M.bind_ok q] at p1'
    have p2 : ∀ w' σ' H', w1.le w' → Rel X.K T B w' σ' H' fr2 h2 → D.nx σ' H' := p1'
    unfold sX at q
    split at q
    · rename_i c fs es
      split at q
      · rename_i i ec
        split at q
        · rename_i fs' ep
          cases q
          obtain ⟨v, e2, z⟩ := jA r1 es
          cases z with
          | val r => cases r
          | own O eH r =>
            cases r with
            | obj r => exact fin ec eH r ep (fun vs' rs' => p2 w1 σ _ (Wd.le_refl _) (r1.change_slot e2 es O eH rfl (.obj rs'))) e2
        · cases q
      · cases q
    · rename_i n es
      split at q
      · rename_i c fs en
        split at q
        · rename_i i ec
          split at q
          · rename_i fs' ep
            cases q
            obtain ⟨v, e2, z⟩ := jA r1 es
            cases z with
            | val r =>
              cases r with
              | ref sI =>
                obtain ⟨o, qo, rr⟩ := r1.cel n _ _ sI en
                cases rr with
                | obj r => exact fin ec qo r ep (fun vs' rs' => p2 w1 σ _ (Wd.le_refl _) (r1.change_cell sI en (.obj rs'))) e2
            | own O eH r => cases r
          · cases q
        · cases q
      · cases q
    · cases q))
end
end Pk
namespace Pk
open PySem PySem.Spec L2
abbrev Fn := List D → Hh → R D
def startF (n : Nat) (ds : List D) : Fr := ds.map some ++ List.replicate (n - ds.length) none
def dW (n : Nat) (m : M Fl) : Fn := fun ds h => match m (startF n ds) h with
 | .ok (.rt d) _ h => .ok d [] h
 | .ok .nx _ h => .ok .non [] h
 | .ok _ _ _ => .err
 | .exc x _ h => .exc x [] h
 | .err => .err
def runI (c n : Nat) (m : M Fl) : Fn := fun ds h => match m (startF n (.no c [] :: ds)) h with
 | .ok .nx fr h => match (fr : Fr)[0]? with
   | some (some (D.no c' fs)) => if c' = c then .ok (.no c fs) [] h else .err
   | _ => .err
 | .ok _ _ _ => .err
 | .exc x _ h => .exc x [] h
 | .err => .err
def spF (K : PySem.W.Frag) (T : Tb) (n : Nat) (F : Fn) : Sp := fun vs H Q E => ∃ w h ds, Rel K T (Bs.of w H) w [] H [] h ∧ au K T w vs ds ∧ ds.length = n ∧ aW K T (Bs.of w H) (fun c d _ H' => E c d H') (vE K T (Bs.of w H) []) w [] (F ds h) Q
def vN (K : PySem.W.Frag) (T : Tb) (w : Wd) (G : Hp) (x : Addr) (w' : Wd) (H' : Hp) (_ : Fr) (v : V) (d : D) : Prop := v = .non ∧ Own (Bs.of w G) w' x ∧ ∃ o, H' x = some o ∧ pW K T w' o d
def spI (K : PySem.W.Frag) (T : Tb) (c n : Nat) (F : Fn) : Sp := fun vs H Q E => ∃ w h ds G x dx us, vs = .ref x :: us ∧ G x = none ∧ H = upd G x (.ins (T.cad c) dx []) ∧ Rel K T (Bs.of w G) w [] G [] h ∧ au K T w us ds ∧ ds.length + 1 = n ∧
 aW K T (Bs.of w G) (fun c d _ H' => E c d H') (vN K T w G x) w [] (F ds h) Q
section
variable {K : PySem.W.Frag} {T : Tb} {B : Bs} {w w' : Wd} {σ : L2.St} {H H' : Hp} {fr : Fr} {h : Hh}
theorem Oc {n : Nat} {ds : List D} (hl : ds.length ≤ n) : (startF n ds).length = n := by
 unfold startF
 rw [aiT, aiP, List.length_replicate]
 omega
theorem Gx {n i : Nat} {ds : List D} {d : D} (e : (startF n ds)[i]? = some (some d)) : ds[i]? = some d := by
 unfold startF at e
 by_cases hi : i < ds.length
 · rw [ajf (by simpa using hi), ai3] at e
   cases q : ds[i]? with
   | none => rw [q] at e; cases e
   | some a => rw [q] at e; cases e; rfl
 · rw [ajc (by simpa using hi), List.getElem?_replicate] at e
   split at e <;> cases e
theorem XS {N : List Str} {vs : List V} {i : Nat} {v : V} (e : vs[i]? = some v) : (L2.start N vs)[i]? = some (some v) := by
 unfold L2.start
 have hi : i < vs.length := (List.getElem?_eq_some_iff.mp e).1
 rw [ajf (by simpa using hi), ai3, e]
 rfl
theorem Wj {N : List Str} {vs : List V} (hl : vs.length ≤ N.length) : (L2.start N vs).length = N.length := by
 unfold L2.start
 rw [aiT, aiP, List.length_replicate]
 omega
theorem Rel.start (R : Rel K T B w [] H [] h) {N : List Str} {vs : List V} {ds : List D} (rs : au K T w vs ds) (hl : ds.length ≤ N.length) : Rel K T B w (L2.start N vs) H (startF N.length ds) h :=
 { R with
   me := fun x d bx e od => by
    obtain ⟨v, ev, rv⟩ := rs.get (Gx e)
    exact (t8 od rv).elim
   fl := by rw [Oc hl, Wj (by rw [rs.length]; exact hl)]
   sl := fun i s d e1 e2 => by
    cases d with
    | none => exact .none
    | some d =>
      obtain ⟨v, ev, rv⟩ := rs.get (Gx e2)
      rw [XS ev] at e1
      cases e1
      exact .val rv
   sep := fun i j p hij ⟨_, d, e, od⟩ _ => by
    obtain ⟨v, ev, rv⟩ := rs.get (Gx e)
    exact t8 od rv }
end
section
variable {P : Program} {w : World} {K : PySem.W.Frag} {mg : Str → Option Value} {base : Heap} {T : Tb} {k : Nat} {x qual : Str} {params : Arguments} {body : List Stmt} {scope : Scope} {dvs : List V} {kws : List (Str × V)} {f : Addr} {fd : FuncData} {N ps : List Str}
abbrev Wk (P : Program) (w : World) (K : PySem.W.Frag) (mg : Str → Option Value) (base : Heap) (N : List Str) (qual : Str) (scope : Scope) (f : Addr) (cdv : Value) (A : Around) (outer : List Env) (s : Shared) (H : Hp) (E : XK) : Cx := cxOf (L2N.CX P w) P w K mg base N qual scope f cdv A outer s H E
def WX.up (E : XK) : WX := fun c d _ H' => E c d H'
def Does (P : Program) (w : World) (K : PySem.W.Frag) (mg : Str → Option Value) (base : Heap) (T : Tb) (k : Nat) (N : List Str) (qual : Str) (scope : Scope) (body : List Stmt) (m : M Fl) : Prop :=
 ∀ (f : Addr) (cdv : Value) (A : Around) (outer : List Env) (s : Shared) (H : Hp) (E : XK), Cq (Wk P w K mg base N qual scope f cdv A outer s H E) T (WX.up E) k → uL (Wk P w K mg base N qual scope f cdv A outer s H E) T (WX.up E) body m
theorem ac3 (S : FnScope N ps scope) {cdv : Value} {A : Around} {outer : List Env} {s : Shared} {H : Hp} {E : XK} (hr : Room k (A.deeper (PyProof.Rows.envOfC qual scope s.heap.objs.size f cdv))) : Cq (Wk P w K mg base N qual scope f cdv A outer s H E) T (WX.up E) k :=
 ⟨rfl, S.nd, hr, L2N.takes_of rfl rfl rfl rfl, passes_of rfl⟩
theorem fn_sim (F : FunD K x qual params body scope dvs kws f fd) (S : FnScope N ps scope) {m : M Fl} (dm : Does P w K mg base T k N qual scope body m) : FnOk P w K mg base (L2N.CX P w) (k + 1) f fd ps (spF K T ps.length (dW N.length m)) := by
 refine F.ok S (fun vs H Q E ⟨w, h, ds, _, rs, hl, _⟩ => rs.length.trans hl) fun cdv A outer s H vs Q E hr ⟨w, h, ds, R, rs, hl, post⟩ => ⟨VP _ body, vW, ?_⟩
 have hpl : ps.length ≤ N.length := by
  have := congrArg List.length S.pre
  rw [List.length_take] at this
  omega
 refine dm f cdv A outer s H E (ac3 S hr) (Bs.of w H) w _ H (startF N.length ds) h _ (R.start rs (by rw [hl]; exact hpl)) ?_
 unfold dW at post
 cases e : m (startF N.length ds) h with
 | ok fl fr h' =>
   rw [e] at post
   cases fl with
   | nx => exact fun w' σ' H' l R' => post w' H' .non l R'.unframe (.inl .non)
   | rt d => exact fun w' σ' H' v l R' rv => post w' H' v l R'.unframe (by
    rcases rv with rv | ⟨p, o, rfl, O, lo, eH, rd⟩
    · exact .inl rv
    · exact .inr ⟨p, o, rfl, O, fun i => Ko, eH, rd⟩)
   | brk => exact post.elim
   | ct => exact post.elim
 | exc y fr h' =>
   rw [e] at post
   exact fun w' σ' H' c dd l R' z => post w' H' c dd l R'.unframe z
 | err => rw [e] at post; exact post
end
end Pk
namespace Pk
open PySem PySem.Spec L2
structure WKw (X : Cx) (kws : List Keyword) (σ : L2.St) (H : Hp) (Q : List V → Hp → Prop) : Prop where
 go : ∀ pos pins s, Inv X pins σ H s → wpAny (model X.prog X.w) X.A (evalAll ((backToKw pos (keywordEach kws X.env)).map (·.2))) (AP X pins σ Q) X.xe s
abbrev agZ (X : Cx) (T : Tb) (W : WX) (kws : List Keyword) (m : M (List D)) : Prop := fX (WKw X kws) X.K T W vA m
section
variable {X : Cx} {T : Tb} {W : WX} {e : Expr} {kws : List Keyword} {m : M D} {ms : List (M D)} {nm : Option Str} {kpos : Pos}
end
def oK (fr : Fr) : R D → R D
 | .ok d _ h => .ok d fr h
 | .exc x _ h => .exc x fr h
 | .err => .err
theorem Tc {K : PySem.W.Frag} {T : Tb} {B : Bs} {W : WX} {w : Wd} {σ : L2.St} {H : Hp} {fr : Fr} {h : Hh} {n : Nat} {F : Fn} {vs : List V} {ds : List D} {Q : VK} (R : Rel K T B w σ H fr h) (rs : au K T w vs ds) (hl : ds.length = n)
 (p : aW K T B W (vE K T B σ) w σ (oK fr (F ds h)) Q) : spF K T n F vs H Q (fun c d H' => W c d σ H') := by
 refine ⟨w, h, ds, R.enter, rs, hl, ?_⟩
 cases e : F ds h with
 | ok d fr' h' =>
   rw [e] at p
   intro w' H' v l R' rv
   have ef : fr' = [] := by
    have := R'.fl
    exact List.length_eq_zero_iff.mp this
   subst ef
   have R2 := R.back l R'
   refine p w' H' v l R2 ?_
   rcases rv with rv | ⟨q, o, rfl, O, lo, eH, rd⟩
   · exact .inl rv
   · have nq : H q = none := O.e
     refine .inr ⟨q, o, rfl, ⟨O.f, O.i, (R.own_new nq).e, (R.own_new nq).p⟩, fun i z => R.loose_new nq i z, eH, rd⟩
 | exc y fr' h' =>
   rw [e] at p
   intro w' H' c dd l R' z
   have ef : fr' = [] := by
    have := R'.fl
    exact List.length_eq_zero_iff.mp this
   subst ef
   exact p w' H' c dd l (R.back l R') z
 | err => rw [e] at p; exact p
structure Bn (K : PySem.W.Frag) (T : Tb) (fd : FuncData) (ps : List Str) (n : Nat) (ks : List Str) (gD : List D → List D → List D) : Prop where
 ex : ∃ (g : List Value → List Value → List Value) (gV : List V → List V → List V), KBn K fd ps n ks g gV ∧
  ∀ (w : Wd) (vs zs : List V) (ds es : List D), au K T w vs ds → au K T w zs es → ds.length = n → es.length = ks.length → au K T w (gV vs zs) (gD ds es) ∧ (gD ds es).length = ps.length
def bh (dfl : List D) (ds _ : List D) : List D := ds ++ dfl
structure nu (P : Program) (w : World) (K : PySem.W.Frag) (mg : Str → Option Value) (base : Heap) (T : Tb) (k : Nat) (f : Addr) (fd : FuncData) (ps : List Str) (F : Fn) : Prop where
 ok : FnOk P w K mg base (L2N.CX P w) k f fd ps (spF K T ps.length F)
 kp : PySem.W.keepIn K (.ref f) = true
structure FnI (P : Program) (w : World) (K : PySem.W.Frag) (mg : Str → Option Value) (base : Heap) (T : Tb) (k c : Nat) (f : Addr) (fd : FuncData) (ps : List Str) (F : Fn) : Prop where
 ok : FnOk P w K mg base (L2N.CX P w) k f fd ps (spI K T c ps.length F)
 made : Mk K (T.cad c) f
def bR (n m : Nat) (F : Fn) (gD : List D → List D → List D) (ma mk : M (List D)) : M D := ma.bind fun ds => mk.bind fun es fr h => if ds.length = n ∧ es.length = m then oK fr (F (gD ds es) h) else .err
theorem mW {K : PySem.W.Frag} {T : Tb} {fd : FuncData} {ps : List Str} (h : Binds K fd ps []) : Bn K T fd ps ps.length [] (bh []) :=
 ⟨fun us _ => us, fun vs _ => vs, ⟨fun s us ws X l1 _ => by
  have b := h s us X (by rw [aiQ]; exact l1)
  rw [aiQ] at b
  exact b, fun r _ => r⟩, fun w vs zs ds es rs _ hl _ => ⟨by
   show au K T w vs (ds ++ [])
   rw [aiQ]
   exact rs, by
   show (ds ++ []).length = _
   rw [aiQ]
   exact hl⟩⟩
section
variable {X : Cx} {T : Tb} {W : WX} {k kk n : Nat} {f C : Addr} {fd : FuncData} {ps ks : List Str} {F : Fn} {x m : Str} {p pos apos : Pos} {e o : Expr} {es : List Expr} {kws : List Keyword} {mo : M D} {ma mk : M (List D)} {gD : List D → List D → List D}
theorem Ml {pins : List (Addr × Obj)} {σ : L2.St} {H : Hp} {s : Shared} {Q : VK} {us ws : List Value} {vs zs : List V} {g : List Value → List Value → List Value} {gV : List V → List V → List V} {sp : Sp} (F : FnOk X.prog X.w X.K X.mg X.base (L2N.CX X.prog X.w) kk f fd ps sp) (hr : Room kk X.A) (hb : KBn X.K fd ps n ks g gV) (tk : L2N.Takes X W)
 (I : Inv X pins σ H s) (r : Vals vs us) (rz : Vals zs ws) (l1 : vs.length = n) (l2 : zs.length = ks.length) (h : sp (gV vs zs) H Q (fun c d H' => W c d σ H')) : wpAny (model X.prog X.w) X.A (call (.ref f) us (ks.zip ws)) (EP X pins σ Q) X.xe s := by
 have r2 := hb.rel r rz
 refine wpAny_call (codeAny_mono (F.run X.A X.stack s H ⟨us, ks.zip ws⟩ (g us ws) (gV vs zs) Q _ hr I.env0 (hb.to s us ws I.kIn (r.length.symm.trans l1) (rz.length.symm.trans l2)) r2 h) fun r s' hq => ?_)
 cases r with
 | error e => exact L2N.passAt tk σ pins H s e s' I hq
 | ok fl =>
   cases fl with
   | ret u => exact I.after hq
   | next => exact False.elim hq
   | brk => exact False.elim hq
   | cont => exact False.elim hq
theorem run_mk {pins : List (Addr × Obj)} {σ : L2.St} {H : Hp} {s : Shared} {Q : VK} {us ws : List Value} {vs zs : List V} {g : List Value → List Value → List Value} {gV : List V → List V → List V} {sp : Sp} (M : Mk X.K C f) (F : FnOk X.prog X.w X.K X.mg X.base (L2N.CX X.prog X.w) kk f fd ps sp) (hr : Room (kk + 1) X.A) (hb : KBn X.K fd ps (n + 1) ks g gV) (tk : L2N.Takes X W)
 (I : Inv X pins σ H s) (r : Vals vs us) (rz : Vals zs ws) (l1 : vs.length = n) (l2 : zs.length = ks.length)
 (h : ∀ x dx, H x = none → H dx = none → dx ≠ x → sp (gV (.ref x :: vs) zs) (upd (upd H dx (.own x)) x (.ins C dx [])) (fun v H2 => v = .non ∧ Q (.ref x) H2) (fun c d H' => W c d σ H')) :
 wpAny (model X.prog X.w) X.A (call (.ref C) us (ks.zip ws)) (EP X pins σ Q) X.xe s := by
 have hq := h (s.heap.objs.size + 1) s.heap.objs.size (I.hok.fresh (Nat.le_succ _)) (I.hok.fresh (Nat.le_refl _)) (Nat.ne_of_lt (Nat.lt_succ_self _))
 have I2 := Inv.made (C := C) I
 have r1 : Vals (V.ref (s.heap.objs.size + 1) :: vs) (Value.ref (s.heap.objs.size + 1) :: us) := .cons rfl r
 have r2 := hb.rel r1 rz
 have n1 : (Value.ref (s.heap.objs.size + 1) :: us).length = n + 1 := by
  rw [aiL, ← r.length, l1]
 refine wpAny_call (make_map (f := f) I.kIn M.makes M.init (beq_iff_eq.mp M.fn) (codeAny_mono (F.run _ X.stack _ _ ⟨Value.ref (s.heap.objs.size + 1) :: us, ks.zip ws⟩ (g (Value.ref (s.heap.objs.size + 1) :: us) ws) _ _ _ (hr.make C us (ks.zip ws))
  (I2.env0.make C us (ks.zip ws)) (hb.to _ (Value.ref (s.heap.objs.size + 1) :: us) ws I2.kIn n1 (rz.length.symm.trans l2)) r2 hq) fun r s' hq' => ?_))
 cases r with
 | error e => exact L2N.passAt tk σ pins _ _ e s' I2 hq'
 | ok fl =>
   cases fl with
   | ret u =>
     obtain ⟨v, H', I3, rv, ev, q3⟩ := I2.after hq'
     subst ev
     exact ⟨rv, ⟨V.ref (s.heap.objs.size + 1), H', I3, rfl, q3⟩⟩
   | next => exact False.elim hq'
   | brk => exact False.elim hq'
   | cont => exact False.elim hq'
theorem Jz {B : Bs} {w : Wd} {σ : L2.St} {H : Hp} {fr : Fr} {h : Hh} {m : Nat} {vs zs : List V} {ds es : List D} {Q : VK} {gV : List V → List V → List V} (hg : ∀ (w : Wd) (vs zs : List V) (ds es : List D), au X.K T w vs ds → au X.K T w zs es → ds.length = n → es.length = m → au X.K T w (gV vs zs) (gD ds es) ∧ (gD ds es).length = ps.length)
 (R : Rel X.K T B w σ H fr h) (rs : au X.K T w vs ds) (rz : au X.K T w zs es) (p : aW X.K T B W (vE X.K T B σ) w σ (if ds.length = n ∧ es.length = m then oK fr (F (gD ds es) h) else .err) Q) :
 vs.length = n ∧ zs.length = m ∧ spF X.K T ps.length F (gV vs zs) H Q (fun c d H' => W c d σ H') := by
 by_cases hl : ds.length = n ∧ es.length = m
 · rw [if_pos hl] at p
   obtain ⟨r2, l2⟩ := hg w vs zs ds es rs rz hl.1 hl.2
   exact ⟨rs.length.trans hl.1, rz.length.trans hl.2, Tc R r2 l2 p⟩
 · rw [if_neg hl] at p
   exact p.elim
theorem fj (C : Cq X T W k) (F0 : nu X.prog X.w X.K X.mg X.base T kk f fd ps F) (hk : kk ≤ k) (bn : Bn X.K T fd ps n [] gD) (hm : X.mg x = some (.ref f)) (sa : Gh X T W (e :: es) ma) (hg : Gl X x := by rfl) (hdb : (x == ("__debug__" : Str)) = false := by decide)
 (he : starEach (e :: es) X.env = (false, eval e X.env) :: starEach es X.env := by exact dJ rfl) (hpl : (backTo pos (starEach es X.env)).any (·.1) = false := by rfl) : pX X T W (.Call (.Name x p) (e :: es) [] pos) (bR n 0 F gD ma (ak [])) := fun B w σ H fr h Q R pp => WE.mk <| fun pins s I => by
 obtain ⟨g, gV, hb, hgD⟩ := bn.ex
 refine wpAny_Call_Name_kw (ld_glob I hg hm ?_ hdb)
 refine PySem.W.callWith_K (h₀ := X.base) I.ok.mod.kin F0.kp (thn ((sa B w σ H fr h _ R (aW.bind (VR := vA X.K T B σ) pp fun ds fr1 h1 w1 H1 vs e1 l1 r1 rs p1 => Jz hgD r1 rs .nil p1)).go pos pins s I) fun us s1 ⟨vs, H1, I1, r, q⟩ => ⟨I1.kIn, ?_⟩) he hpl
 exact Ml (ws := []) F0.ok (C.room.mono hk) hb C.takes I1 r .nil q.1 rfl q.2.2
end
end Pk
namespace Pk
open PySem PySem.Spec L2
structure BnI (K : PySem.W.Frag) (T : Tb) (fd : FuncData) (ps : List Str) (n : Nat) (ks : List Str) (gD : List D → List D → List D) : Prop where
 ex : ∃ (g : List Value → List Value → List Value) (gV gW : List V → List V → List V), KBn K fd ps (n + 1) ks g gV ∧ (∀ x vs zs, vs.length = n → zs.length = ks.length → gV (x :: vs) zs = x :: gW vs zs) ∧
  ∀ (w : Wd) (vs zs : List V) (ds es : List D), au K T w vs ds → au K T w zs es → ds.length = n → es.length = ks.length → au K T w (gW vs zs) (gD ds es) ∧ (gD ds es).length + 1 = ps.length
theorem aai {K : PySem.W.Frag} {T : Tb} {fd : FuncData} {ps : List Str} (n : Nat) (h : Binds K fd ps []) (hn : n + 1 = ps.length) : BnI K T fd ps n [] (bh []) :=
 ⟨fun us _ => us, fun vs _ => vs, fun vs _ => vs, ⟨fun s us ws X l1 _ => by
  have b := h s us X (by rw [aiQ, l1]; exact hn)
  rw [aiQ] at b
  exact b, fun r _ => r⟩, fun _ _ _ _ _ => rfl, fun w vs zs ds es rs _ hl _ => ⟨by
   show au K T w vs (ds ++ [])
   rw [aiQ]
   exact rs, by
   show (ds ++ []).length + 1 = _
   rw [aiQ, hl]
   exact hn⟩⟩
section
variable {X : Cx} {T : Tb} {W : WX} {k kk n c : Nat} {f : Addr} {fd : FuncData} {ps ks : List Str} {F : Fn} {x m : Str} {p pos apos : Pos} {e o : Expr} {es : List Expr} {kws : List Keyword} {mo : M D} {ma mk : M (List D)} {gD : List D → List D → List D}
theorem zK {α : Type} {f : Str} : ∀ {fs : List Str} {vs : List α}, f ∉ fs → (fs.zip vs).lookup f = none
 | [], _, _ => rfl
 | g :: fs, [], _ => by simp
 | g :: fs, v :: vs, h => by
   rw [List.mem_cons, not_or] at h
   show aiU f ((g, v) :: fs.zip vs) = none
   rw [List.lookup_cons, beq_eq_false_iff_ne.mpr h.1]
   exact zK h.2
structure yc (X : Cx) (T : Tb) (k : Nat) (m : Str) (mt : Nat → Option Fn) (n : Nat) (ks : List Str) (gD : List D → List D → List D) : Prop where
 ex : ∀ c F, mt c = some F → ∃ (kk : Nat) (f : Addr) (fd : FuncData) (ps : List Str), Cls X.K (T.cad c) ∧ Meth X.K (T.cad c) m f ∧ nu X.prog X.w X.K X.mg X.base T kk f fd ps F ∧ Bn X.K T fd ps (n + 1) ks gD ∧ m ∉ T.fld c ∧ kk ≤ k
def fnOf (mt : Nat → Option Fn) (h : Hh) (o : D) : Option Fn := match o.ins h with
 | some (c, _) => mt c
 | none => none
def kW (n m : Nat) (mt : Nat → Option Fn) (gD : List D → List D → List D) (mo : M D) (ma mk : M (List D)) : M D := mo.bind fun o fr h => match fnOf mt h o with
 | some F => (bR (n + 1) m F gD (ma.bind fun ds => M.ret (o :: ds)) mk) fr h
 | none => .err
theorem Nu {B : Bs} {w : Wd} {σ : L2.St} {H : Hp} {fr : Fr} {h : Hh} {mt : Nat → Option Fn} {v : V} {d : D} {G : Fn} (M : yc X T k m mt n ks gD) (R : Rel X.K T B w σ H fr h) (rv : bA X.K T w v d) (e : fnOf mt h d = some G) :
 ∃ (kk : Nat) (f : Addr) (fd : FuncData) (ps : List Str) (a C dx : Addr) (fs : List (Str × V)), v = .ref a ∧ H a = some (.ins C dx fs) ∧ fs.lookup m = none ∧ Cls X.K C ∧ Meth X.K C m f ∧ nu X.prog X.w X.K X.mg X.base T kk f fd ps G ∧ Bn X.K T fd ps (n + 1) ks gD ∧ kk ≤ k := by
 unfold fnOf at e
 split at e
 · rename_i c fs ei
   obtain ⟨kk, f, fd, ps, c1, c2, c3, c4, c5, c6⟩ := M.ex c G e
   obtain ⟨a, dx, vs, rfl, eH, rs⟩ := SQ R (.inl rv) ei
   exact ⟨kk, f, fd, ps, a, T.cad c, dx, _, rfl, eH, zK c5, c1, c2, c3, c4, c6⟩
 · cases e
theorem Ih {pl : Sem Bool} {mt : Nat → Option Fn} (C : Cq X T W k) (Mf : yc X T k m mt n [] gD) (so : aV X T W o mo) (sa : Gh X T W (e :: es) ma)
 (hst : starEach (e :: es) X.env = (false, eval e X.env) :: starEach es X.env := by exact dJ rfl) (hpl : (backTo pos (starEach es X.env)).any (·.1) = false := by rfl)
 (ht : eval (.Call (.Attribute o m apos) (e :: es) [] pos) X.env = (do
  let ov ← eval o X.env
  standAt apos.atName
  let (f, first) ← holding [ov] (getMethod ov m pl)
  callWith pos f first (backTo pos (starEach (e :: es) X.env)) (backToKw pos (keywordEach [] X.env))) := by rfl) :
 pX X T W (.Call (.Attribute o m apos) (e :: es) [] pos) (kW n 0 mt gD mo ma (ak [])) := fun B w σ H fr h Q R pp => WE.mk <| fun pins s I => by
 refine PySem.W.methodCall_KW (pl := pl) (thn ((so B w σ H fr h (fun v H1 => ∃ (kk : Nat) (f : Addr) (fd : FuncData) (ps : List Str) (a C dx : Addr) (fs : List (Str × V)) (G : Fn), v = .ref a ∧ H1 a = some (.ins C dx fs) ∧ fs.lookup m = none ∧ Cls X.K C ∧ Meth X.K C m f ∧ nu X.prog X.w X.K X.mg X.base T kk f fd ps G ∧ Bn X.K T fd ps (n + 1) [] gD ∧ kk ≤ k ∧
  ∀ g gV, KBn X.K fd ps (n + 1) [] g gV → (∀ (w : Wd) (vs zs : List V) (ds es : List D), au X.K T w vs ds → au X.K T w zs es → ds.length = n + 1 → es.length = ([] : List Str).length → au X.K T w (gV vs zs) (gD ds es) ∧ (gD ds es).length = ps.length) →
    WA X (e :: es) σ H1 fun vs H2 => (.ref a :: vs).length = n + 1 ∧ spF X.K T ps.length G (gV (.ref a :: vs) []) H2 Q (fun c d H' => W c d σ H')) R (aW.bind (VR := vV X.K T B σ) pp fun d fr1 h1 w1 H1 v e1 l1 r1 rv p1 => ?_)).go pins s I) fun u s1 ⟨x, H1, I1, rx, kk, f, fd, ps, a, Cl, dx, fs, G, ex, ea, l, c1, c2, c3, c4, c5, q⟩ => ?_) ht
 · have p1' : aW X.K T B W (vE X.K T B σ) w1 σ (match fnOf mt h1 d with | some F => (bR (n + 1) 0 F gD (ma.bind fun ds => M.ret (d :: ds)) (ak [])) fr1 h1 | none => .err) Q := p1
   cases ef : fnOf mt h1 d with
   | none => rw [ef] at p1'; exact p1'.elim
   | some G =>
     rw [ef] at p1'
     obtain ⟨kk, f, fd, ps, a, Cl, dx, fs, rfl, eH, l, c1, c2, c3, c4, c5⟩ := Nu Mf r1 rv ef
     refine ⟨kk, f, fd, ps, a, Cl, dx, fs, G, rfl, eH, l, c1, c2, c3, c4, c5, fun g gV hb hgD => ?_⟩
     have p2 : aW X.K T B W (vE X.K T B σ) w1 σ ((ma.bind fun ds fr h => if (d :: ds).length = n + 1 ∧ ([] : List D).length = 0 then oK fr (G (gD (d :: ds) []) h) else .err) fr1 h1) Q := by
      have ee : (bR (n + 1) 0 G gD (ma.bind fun ds => M.ret (d :: ds)) (ak [])) fr1 h1 = (ma.bind fun ds fr h => if (d :: ds).length = n + 1 ∧ ([] : List D).length = 0 then oK fr (G (gD (d :: ds) []) h) else .err) fr1 h1 := by
       unfold bR M.bind
       cases ma fr1 h1 <;> rfl
      rw [← ee]
      exact p1'
     refine sa B w1 σ H1 fr1 h1 _ r1 (aW.bind (VR := vA X.K T B σ) p2 fun ds fr2 h2 w2 H2 vs e2 l2 r2 rs p3 => ?_)
     have q := Jz (n := n + 1) (m := 0) (zs := []) (es := []) hgD r2 (.cons (rv.mono l2) rs) .nil p3
     exact ⟨q.1, q.2.2⟩
 · subst ex
   obtain rfl : u = Value.ref a := rx
   obtain ⟨g, gV, hb, hgD⟩ := c4.ex
   refine getmeth_ok I1 ea c1 c2 l ?_
   refine PySem.W.callWith_K (first := [.ref a]) (h₀ := X.base) I.ok.mod.kin c2.kp (thn ((q g gV hb hgD).go pos pins s1 I1) fun us s2 ⟨vs, H2, I2, r, q2⟩ => ⟨I2.kIn, ?_⟩) hst hpl
   exact Ml (us := .ref a :: us) (ws := []) (vs := .ref a :: vs) c3.ok (C.room.mono c5) hb C.takes I2 (.cons rfl r) .nil q2.1 rfl q2.2
theorem PB {pl : Sem Bool} {mt : Nat → Option Fn} (C : Cq X T W k) (Mf : yc X T k m mt 0 [] gD) (so : aV X T W o mo)
 (ht : eval (.Call (.Attribute o m apos) [] [] pos) X.env = (do
  let ov ← eval o X.env
  standAt apos.atName
  let (f, first) ← holding [ov] (getMethod ov m pl)
  callWith pos f first (backTo pos (starEach [] X.env)) (backToKw pos (keywordEach [] X.env))) := by rfl) :
 pX X T W (.Call (.Attribute o m apos) [] [] pos) (kW 0 0 mt gD mo (ak []) (ak [])) := fun B w σ H fr h Q R pp => WE.mk <| fun pins s I => by
 refine PySem.W.methodCall_KW (pl := pl) (thn ((so B w σ H fr h (fun v H1 => ∃ (kk : Nat) (f : Addr) (fd : FuncData) (ps : List Str) (a C dx : Addr) (fs : List (Str × V)) (G : Fn), v = .ref a ∧ H1 a = some (.ins C dx fs) ∧ fs.lookup m = none ∧ Cls X.K C ∧ Meth X.K C m f ∧ nu X.prog X.w X.K X.mg X.base T kk f fd ps G ∧ Bn X.K T fd ps (0 + 1) [] gD ∧ kk ≤ k ∧
  ∀ g gV, KBn X.K fd ps (0 + 1) [] g gV → (∀ (w : Wd) (vs zs : List V) (ds es : List D), au X.K T w vs ds → au X.K T w zs es → ds.length = 0 + 1 → es.length = ([] : List Str).length → au X.K T w (gV vs zs) (gD ds es) ∧ (gD ds es).length = ps.length) →
    spF X.K T ps.length G (gV [.ref a] []) H1 Q (fun c d H' => W c d σ H')) R (aW.bind (VR := vV X.K T B σ) pp fun d fr1 h1 w1 H1 v e1 l1 r1 rv p1 => ?_)).go pins s I) fun u s1 ⟨x, H1, I1, rx, kk, f, fd, ps, a, Cl, dx, fs, G, ex, ea, l, c1, c2, c3, c4, c5, q⟩ => ?_) ht
 · have p1' : aW X.K T B W (vE X.K T B σ) w1 σ (match fnOf mt h1 d with | some F => (bR (0 + 1) 0 F gD ((ak []).bind fun ds => M.ret (d :: ds)) (ak [])) fr1 h1 | none => .err) Q := p1
   cases ef : fnOf mt h1 d with
   | none => rw [ef] at p1'; exact p1'.elim
   | some G =>
     rw [ef] at p1'
     obtain ⟨kk, f, fd, ps, a, Cl, dx, fs, rfl, eH, l, c1, c2, c3, c4, c5⟩ := Nu Mf r1 rv ef
     refine ⟨kk, f, fd, ps, a, Cl, dx, fs, G, rfl, eH, l, c1, c2, c3, c4, c5, fun g gV hb hgD => ?_⟩
     exact (Jz (n := 0 + 1) (m := 0) (zs := []) (es := []) (ds := [d]) hgD r1 (.cons rv .nil) .nil p1').2.2
 · subst ex
   obtain rfl : u = Value.ref a := rx
   obtain ⟨g, gV, hb, hgD⟩ := c4.ex
   refine getmeth_ok I1 ea c1 c2 l ?_
   exact PySem.W.callWith_K0 (first := [.ref a]) I1.kIn c2.kp (Ml (us := [.ref a]) (ws := []) (vs := [.ref a]) c3.ok (C.room.mono c5) hb C.takes I1 (.cons rfl .nil) .nil rfl rfl (q g gV hb hgD))
structure afN (X : Cx) (T : Tb) (k : Nat) (m : Str) (mt : Nat → Option Fn) : Prop where
 ex : ∀ c F, mt c = some F → ∃ (kk : Nat) (pa f : Addr) (fd : FuncData) (ps : List Str), Cls X.K (T.cad c) ∧ PropOf X.K (T.cad c) m pa f ∧ nu X.prog X.w X.K X.mg X.base T kk f fd ps F ∧ Binds X.K fd ps [] ∧ ps.length = 1 ∧ kk + 1 ≤ k
def afO (mt : Nat → Option Fn) (mo : M D) : M D := mo.bind fun o fr h => match fnOf mt h o with
 | some F => match F [o] h with
   | .ok d _ h => .ok d fr h
   | _ => .err
 | none => .err
end
end Pk
namespace Pk
open PySem PySem.Spec L2
section
variable {X : Cx} {T : Tb} {W : WX} {k c : Nat} {x : Str} {pos : Pos}
theorem Ou {t : String} (hm : X.mg x = none) (hg : Gl X x := by rfl) (hv : bootBuiltins x = some (.type t) := by decide +kernel) (hn : x ≠ "__name__" := by decide) (hd : (x == ("__debug__" : Str)) = false := by decide) : aV X T W (.Name x pos) (mC (.ty t)) := fun B w σ H fr h Q r p =>
 eE (pe_bltn (v := .ty t) hg hm hv rfl hn hd) (p w H _ (Wd.le_refl _) r (.ty t))
structure ag0 (X : Cx) (T : Tb) (x : Str) (d : D) : Prop where
 ex : ∃ (u : Value) (v : V), X.mg x = some u ∧ RelV v u ∧ bA X.K T ⟨fun _ => none, []⟩ v d
end
inductive Tg where
 | b (t : String) | o (c : Nat)
 deriving DecidableEq
def Tg.v (T : Tb) : Tg → Value
 | .b t => .type t
 | .o c => .ref (T.cad c)
def D.tag (h : Hh) (d : D) : Option Tg := match d.der h with
 | .non => some (.b "NoneType")
 | .bl _ => some (.b "bool")
 | .int _ => some (.b "int")
 | .str _ => some (.b "str")
 | .tup _ => some (.b "tuple")
 | .fl _ => some (.b "list")
 | .nl _ => some (.b "list")
 | .kl _ => some (.b "list")
 | .obj c _ => some (.o c)
 | .no c _ => some (.o c)
 | _ => none
def D.ctag : D → Option Tg
 | .ty t => some (.b t)
 | .cls c => some (.o c)
 | _ => none
structure XX (K : PySem.W.Frag) (C : Addr) : Prop where
 cls : Cls K C
 ha : PySem.W.findIn K (.ref C) "__class__" = some (some (.builtin "object.__class__"))
 hn : PySem.W.specialIn K (.builtin "object.__class__") "__get__" = some (some (.builtin "getset_descriptor.__get__"))
 htk : PySem.W.takesIn K (.builtin "object.__class__") = some true
 hm : PySem.W.mroIn K C (.type "object") = some true
structure Mp (K : PySem.W.Frag) (T : Tb) (tab : Tg → Tg → Option Bool) : Prop where
 kit : ∀ t u b, tab t u = some b → PySem.W.kitOne K (t.v T) (u.v T) = some b
 ins : ∀ c u b, tab (.o c) u = some b → XX K (T.cad c)
def Dq : List String := ["NoneType", "bool", "int", "str", "tuple", "list"]
def PN (a b : String) : Option Bool := if Dq.contains a && Dq.contains b then some (a == b || (a == "bool" && b == "int")) else none
theorem aaj : ∀ a b r, PN a b = some r → kitB a b = some r := by
 have key : ∀ a ∈ Dq, ∀ b ∈ Dq, kitB a b = PN a b := by decide +kernel
 intro a b r h
 unfold PN at h
 split at h
 · rename_i hh
   obtain ⟨h1, h2⟩ := Bool.and_eq_true_iff.mp hh
   rw [key a (List.contains_iff_mem.mp h1) b (List.contains_iff_mem.mp h2)]
   unfold PN
   rw [if_pos hh]
   exact h
 · cases h
def zL : List D → Option (List Tg)
 | [] => some []
 | d :: ds => match d.ctag, zL ds with
   | some u, some us => some (u :: us)
   | _, _ => none
def yP (tab : Tg → Tg → Option Bool) (t : Tg) : List Tg → Option Bool
 | [] => some false
 | u :: us => match tab t u with
   | some true => some true
   | some false => yP tab t us
   | none => none
def qN (tab : Tg → Tg → Option Bool) (h : Hh) (d c : D) : Option D := match d.tag h with
 | some t => match c with
   | .tup l => match zL l with
     | some (u :: us) => (yP tab t (u :: us)).map .bl
     | _ => none
   | c => match c.ctag with
     | some u => (tab t u).map .bl
     | none => none
 | none => none
section
variable {X : Cx} {T : Tb} {W : WX} {k : Nat} {pos pf : Pos} {a b : Expr} {ma mb : M D} {tab : Tg → Tg → Option Bool}
theorem JB {K : PySem.W.Frag} {w : Wd} {v : V} {d : D} {u : Tg} (r : bA K T w v d) (e : d.ctag = some u) : ClsV v (u.v T) := by
 cases r <;> cases e
 · exact .own _
 · exact .ty _
theorem Ii {K : PySem.W.Frag} {B : Bs} {w : Wd} {σ : L2.St} {H : Hp} {fr : Fr} {h : Hh} {v : V} {d : D} {t u : Tg} {bb : Bool} (F : Mp K T tab) (R : Rel K T B w σ H fr h) (rv : vO K T B σ w H fr v d) (e : d.tag h = some t) (e2 : tab t u = some bb) : TyX K H v (t.v T) := by
 have sqT : ∀ {a : Addr} {vs : List V}, SqT K H a vs → TyX K H (.ref a) (.type "tuple") := fun {a vs} q => by
  rcases q with (q | ⟨o, q⟩) | ⟨o, its, n, q1, q2, _⟩
  · exact .base (.tup q)
  · exact .fTuple q
  · exact .kTuple q1 q2
 have sqL : ∀ {a : Addr} {vs : List V}, SqL K H a vs → TyX K H (.ref a) (.type "list") := fun {a vs} q => by
  rcases q with (q | ⟨o, q⟩) | ⟨o, its, n, q1, q2, _⟩
  · exact .base (.lst q)
  · exact .base (.frz q)
  · exact .kList q1 q2
 have ins : ∀ {c : Nat} {a dx : Addr} {fs : List (Str × V)}, tab (.o c) u = some bb → H a = some (.ins (T.cad c) dx fs) → TyX K H (.ref a) (.ref (T.cad c)) := fun {c a dx fs} q eH => by
  have i := F.ins c u bb q
  exact .base (.ins eH i.cls i.ha i.hn i.htk i.hm)
 rcases rv with rv | ⟨p, o, rfl, eH, rv⟩
 · cases rv with
   | non => cases e; exact .base .non
   | bl b => cases e; exact .base (.bl b)
   | int i => cases e; exact .base (.int i)
   | str s => cases e; exact .base (.str s)
   | tup s r => cases e; exact sqT (dI R.sub s)
   | fl s r => cases e; exact .base (.lst (R.sub _ _ s))
   | kl s r => cases e; exact sqL (fL R.sub s)
   | obj s r => cases e; exact ins e2 (R.sub _ _ s)
   | @ref a n s =>
     have ln : n < h.length := by
      rw [← R.len]
      exact (List.getElem?_eq_some_iff.mp s).1
     obtain ⟨o, q, rr⟩ := R.cel n a h[n] s (aiO ln)
     have e0 : D.der h (.ref n) = h[n] := by
      unfold D.der
      dsimp only
      rw [aiO ln]
      rfl
     unfold D.tag at e
     rw [e0] at e
     generalize h[n] = cc at rr e
     cases rr with
     | lst r => cases e; exact .base (.lst q)
     | obj r => cases e; exact ins e2 q
     | dct _ r => cases e
     | dkt _ r => cases e
     | so0 _ => cases e
     | so1 _ _ => cases e
     | hid0 => cases e
     | hid1 => cases e
   | cls _ => cases e
   | ty _ => cases e
   | sl _ => cases e
   | tp _ _ => cases e
 · cases rv with
   | lst r => cases e; exact .base (.lst eH)
   | obj r => cases e; exact ins e2 eH
theorem Gy {K : PySem.W.Frag} {w : Wd} : ∀ {vs : List V} {ds : List D} {us : List Tg}, au K T w vs ds → zL ds = some us → Paired ClsV vs (us.map (Tg.v T))
 | _, _, _, .nil, e => by cases e; exact .nil
 | _, _, _, @au.cons _ _ _ v d vs ds r rr, e => by
   unfold zL at e
   cases e1 : d.ctag with
   | none => rw [e1] at e; cases e
   | some u =>
     cases e2 : zL ds with
     | none => rw [e1, e2] at e; cases e
     | some us =>
       rw [e1, e2] at e
       cases e
       exact .cons (JB r e1) (Gy rr e2)
theorem Dr {K : PySem.W.Frag} {t : Tg} {bb : Bool} (F : Mp K T tab) : ∀ {us : List Tg}, yP tab t us = some bb → PySem.W.kitAny K (t.v T) (us.map (Tg.v T)) = some bb
 | [], e => by cases e; exact kitAny_nil
 | u :: us, e => by
   unfold yP at e
   cases et : tab t u with
   | none => rw [et] at e; cases e
   | some b1 =>
     rw [et] at e
     cases b1 with
     | false => exact kitAny_cons (F.kit t u false et) (fun _ => Dr F e) (fun z => by cases z)
     | true =>
       cases e
       exact kitAny_cons (F.kit t u true et) (fun z => by cases z) (fun _ => rfl)
theorem Jj {t : Tg} {bb : Bool} {us : List Tg} (e : yP tab t us = some bb) : us = [] ∨ ∃ u b, tab t u = some b := by
 cases us with
 | nil => exact .inl rfl
 | cons u us =>
   right
   unfold yP at e
   cases et : tab t u with
   | none => rw [et] at e; cases e
   | some b => exact ⟨u, b, et⟩
theorem Nv : CallR X (.builtin "isinstance") (fun xs H Q => ∃ (x : V) (tp : Addr) (cs : List V) (t : Value) (us : List Value) (b : Bool), xs = [x, .ref tp] ∧ SqT X.K H tp cs ∧ Paired ClsV cs us ∧ TyX X.K H x t ∧ PySem.W.kitAny X.K t us = some b ∧ Q (.bl b) H) := by
 intro pins s σ H xs us Q I r h
 obtain ⟨x, tp, cs, t, ws, b, rfl, hT, k, ty, e, q⟩ := h
 obtain ⟨u1, u2, rfl, r1, r2⟩ := vals2 r
 cases (show u2 = Value.ref tp from r2)
 obtain ⟨P, Z, p, hx⟩ := kit_of I r1 ty
 obtain ⟨its, rv, pl, _⟩ := I.tuple hT
 obtain ⟨o, h1, h2, n, h3⟩ := pl
 have e3 := ClsV.all k rv
 subst e3
 obtain ⟨oc, od, dt, sl⟩ := o
 simp only at h2 h3
 subst h2 h3
 exact PySem.W.kia_tup Z I.kIn p h1 e hx fun tk => ⟨.bl b, H, I.tok tk, rfl, q⟩
theorem KH (F : Mp X.K T tab) (sa : aV X T W a ma) (sb : aV X T W b mb) (hm : X.mg "isinstance" = none) (hg : Gl X "isinstance" := by rfl) (he : starEach (a :: b :: []) X.env = (false, eval a X.env) :: starEach (b :: []) X.env := by exact dJ rfl) (he2 : starEach (b :: []) X.env = (false, eval b X.env) :: starEach [] X.env := by exact dJ rfl)
 (hpl : (backTo pos (starEach (b :: []) X.env)).any (·.1) = false := by rfl) : aV X T W (.Call (.Name "isinstance" pf) [a, b] [] pos) (aq (qN tab) ma mb) :=
 XR (id := "isinstance") sa sb (fun B w σ H fr h x y d e z Q R rx ry q kk => by
  have ry : bA X.K T w y e := ry
  unfold qN at q
  cases et : d.tag h with
  | none => rw [et] at q; cases q
  | some t =>
    rw [et] at q
    have one : ∀ u, e.ctag = some u → (tab t u).map D.bl = some z → cM X (.builtin "isinstance") [x, y] H Q := fun u ec eq => by
     obtain ⟨bb, eb, rfl⟩ := Option.map_eq_some_iff.mp eq
     exact gR call_isi ⟨x, y, t.v T, u.v T, bb, rfl, JB ry ec, Ii F R (.inl rx) et eb, F.kit t u bb eb, kk w H _ (Wd.le_refl _) R (.bl bb)⟩
    cases e with
    | tup l =>
      dsimp only at q
      cases ec : zL l with
      | none => rw [ec] at q; cases q
      | some us =>
        rw [ec] at q
        cases us with
        | nil => cases q
        | cons u us =>
          obtain ⟨bb, eb, rfl⟩ := Option.map_eq_some_iff.mp q
          obtain ⟨p, vs, rfl, sq, rs⟩ := vY ry
          have ty : TyX X.K H x (t.v T) := by
           rcases Jj eb with z | ⟨u', b', z⟩
           · cases z
           · exact Ii F R (.inl rx) et z
          exact gR Nv ⟨x, p, vs, t.v T, (u :: us).map (Tg.v T), bb, rfl, dI R.sub sq, Gy rs ec, ty, Dr F eb, kk w H _ (Wd.le_refl _) R (.bl bb)⟩
    | cls c => exact one _ rfl q
    | ty t => exact one _ rfl q
    | _ => cases q) hm hg (by decide +kernel) (by decide) (by decide) he he2 hpl
end
end Pk
namespace Pk
open PySem PySem.Spec L2
structure PD where
 adr : PySem.W.Frag → Addr
 name : Str
 qual : Str
 params : Arguments
 body : List Stmt
 scope : Scope
 dfl : List He.Dv
 kwd : List (Str × He.Dv)
 /-- an __init__ that says super() -/
 clo : Bool
def PP (K : PySem.W.Frag) (a : Addr) : He.FnW := match K.lookup a with
 | some ⟨_, _, .func fd, _⟩ => some (fd.name, fd.qualname, fd.params, fd.body, fd.scope, fd.globals, fd.closure.map (fun q => (q.1, 0)), fd.builtins)
 | _ => none
def PD.val (d : PD) : He.FnW := some (d.name, d.qual, d.params, .stmts d.body, d.scope, mainGlobals, if d.clo then [("__class__", 0)] else [], builtinsNs)
def PD.dvs (K : PySem.W.Frag) (d : PD) : List V := d.dfl.map (He.Dv.v K)
def PD.kws (K : PySem.W.Frag) (d : PD) : List (Str × V) := d.kwd.map fun q => (q.1, q.2.v K)
def PD.ok (K : PySem.W.Frag) (d : PD) : Bool := PySem.W.keepIn K (.ref (d.adr K)) && (match K.lookup (d.adr K) with
 | some ⟨_, _, .func fd, _⟩ => PySem.W.codeIn K fd.code d.qual && (He.dflB K fd.defaults (d.dvs K) && He.kwdB K fd.kwdefaults (d.kws K))
 | _ => false)
theorem PD.funD {K : PySem.W.Frag} {d : PD} (hc : d.clo = false) (e : PP K (d.adr K) = d.val) (c : d.ok K = true) : ∃ fd, FunD K d.name d.qual d.params d.body d.scope (d.dvs K) (d.kws K) (d.adr K) fd := by
 obtain ⟨kp, c2⟩ := He.ba c
 unfold PP at e
 cases q : K.lookup (d.adr K) with
 | none =>
   rw [q] at c2
   cases c2
 | some o =>
   obtain ⟨oc, od, dt, osl⟩ := o
   rw [q] at c2 e
   cases dt with
   | func fd =>
     obtain ⟨n1, n2, n3, n4, n5, n6, n7, n8, n9, n10, n11, n12, n13, n14, n15⟩ := fd
     unfold PD.val at e
     rw [hc] at e
     have e2 : (some (n1, n2, n3, n4, n5, n6, n7.map (fun q => (q.1, 0)), n15) : He.FnW) = some (d.name, d.qual, d.params, .stmts d.body, d.scope, mainGlobals, [], builtinsNs) := e
     simp only [Option.some.injEq, Prod.mk.injEq, List.map_eq_nil_iff] at e2
     obtain ⟨h1, h2, h3, h4, h5, h6, h7, h8⟩ := e2
     subst h1 h2 h3 h4 h5 h6 h7 h8
     have c3 : (PySem.W.codeIn K n13 d.qual && (He.dflB K n8 (d.dvs K) && He.kwdB K n9 (d.kws K))) = true := c2
     obtain ⟨k1, k2⟩ := He.ba c3
     obtain ⟨k3, k4⟩ := He.ba k2
     exact ⟨_, ⟨oc, od, n8, n9, n10, n11, n12, n13, n14, osl, rfl, q, k1, He.dflB_ok k3, He.kwdB_ok k4⟩, kp⟩
   | _ => cases c2
def pgA (K : PySem.W.Frag) (C : Addr) (f : Str) : Addr := match PySem.W.findIn K (.ref C) f with
 | some (some (.ref p)) => (match PySem.W.recIn K p "property" with
   | some (.ref g :: _) => g
   | _ => 0)
 | _ => 0
def kwA (a : PySem.W.Frag → Addr) (x : Str) (K : PySem.W.Frag) : Addr := match K.lookup (a K) with
 | some ⟨_, _, .func fd, _⟩ => (match fd.kwdefaults with
   | .ref d => (match PySem.W.nsIn K d x with
     | some (some (.ref b)) => b
     | _ => 0)
   | _ => 0)
 | _ => 0
def dfA (a : PySem.W.Frag → Addr) (i : Nat) (K : PySem.W.Frag) : Addr := match K.lookup (a K) with
 | some ⟨_, _, .func fd, _⟩ => (match fd.defaults with
   | .ref T => (match K.lookup T with
     | some ⟨_, _, .seq its _, _⟩ => (match its.toList[i]? with
       | some (.ref b) => b
       | _ => 0)
     | _ => 0)
   | _ => 0)
 | _ => 0
def abH (K : PySem.W.Frag) (a : Addr) (vs : List He.Dv) : Bool := match K.lookup a with
 | some ⟨.type c, _, .seq its _, _⟩ => decide (c = "tuple") && (decide (its.size ≤ sizeLine) && He.relAll (vs.map (He.Dv.v K)) its.toList)
 | _ => false
inductive Fx where
 | he (f : He.Fa)
 | prop (x f : Str)
 | ins (x : Str)
 | kit (t u : Tg) (b : Bool)
 | tup (a : PySem.W.Frag → Addr) (vs : List He.Dv)
 | slf (x : Str)
 /-- an own error class whose __init__ says super(): its fields, the file -/
 | own (x file : Str) (fs : List Str)
 /-- an error class as isinstance wants it -/
 | exi (x : Str)
 /-- a class that is no kind of number -/
 | nsb (x : Str)
 /-- anything else that is to be seen -/
 | raw (p : PySem.W.Frag → Bool)
def Tbo (cn : Nat → Str) (fld : Nat → List Str) (K : PySem.W.Frag) : Tb := ⟨fun c => He.ga K (cn c), fld⟩
def adU (K : PySem.W.Frag) (C : Addr) : Bool := match K.lookup C with
 | some ⟨.type "type", _, .cls cd, sl⟩ => (match cd.mro, sl.toList with
   | .ref C' :: bm, [_, _, _, _, some (.builtin n), _] => C' == C && (n == "ValueError.__new__" && (!cd.hasDel && (cd.hasDict && (PySem.HandSPX.refsVE bm && He.eqO (PySem.W.alongIn K "__init__" bm) (some (some (.builtin "ValueError.__init__")))))))
   | _, _ => false)
 | _ => false
def adV (K : PySem.W.Frag) (C f : Addr) (file : Str) : Bool := match K.lookup f with
 | some ⟨_, _, .func fd, _⟩ => (match fd.closure, fd.defaults, fd.code with
   | [(_, cc)], .none, .ref cda => (match K.lookup cc with
       | some ⟨_, _, .cell (some (.ref a)), _⟩ => decide (a = C)
       | _ => false) && (PySem.W.codeIn K (.ref cda) fd.qualname && (match K.lookup cda with
       | some ⟨_, _, Data.fields vs, _⟩ => (match (vs[2]? : Option Value) with
         | some (.str fi _) => decide (fi = file)
         | _ => false)
       | _ => false))
   | _, _, _ => false)
 | _ => false
def adW (K : PySem.W.Frag) (C f : Addr) (file : Str) (fs : List Str) : Bool :=
 adU K C && (He.eqO (PySem.W.findIn K (.ref C) "__setattr__") (some (some (.builtin "object.__setattr__"))) && (He.eqO (PySem.W.findIn K (.ref C) "__init__") (some (some (.ref f))) && (decide (PySem.W.typeIn K (.ref f) = some (.type "function")) &&
  (decide (PySem.W.subIn K (.ref C) (.type "ValueError") = some true) && (decide (PySem.W.mroIn K C (.ref C) = some true) && (He.eqO (PySem.W.nsIn K cStatics "thirdparty.any") (some none) && (adV K C f file && (fs.all (fun y => He.eqO (PySem.W.findIn K (.ref C) y) (some none)) &&
  (PySem.W.keepIn K (.ref C) && (decide (PySem.W.subIn K (.ref C) (.type "BaseException") = some true) && (decide (PySem.W.typeIn K (.ref C) = some (.type "type")) && (He.eqO (PySem.W.findIn K (.ref C) "__getattribute__") (some (some (.builtin "BaseException.__getattribute__"))) &&
  (He.eqO (PySem.W.findIn K (.ref C) "__getattr__") (some none) && PySem.W.hasDictIn K C)))))))))))))
def adX (K : PySem.W.Frag) (C : Addr) : Bool :=
 He.eqO (PySem.W.findIn K (.ref C) "__getattribute__") (some (some (.builtin "BaseException.__getattribute__"))) && (He.eqO (PySem.W.findIn K (.ref C) "__getattr__") (some none) && (decide (PySem.W.subIn K (.ref C) (.type "BaseException") = some true) && (PySem.W.hasDictIn K C &&
  (He.eqO (PySem.W.findIn K (.ref C) "__class__") (some (some (.builtin "object.__class__"))) && (He.eqO (PySem.W.specialIn K (.builtin "object.__class__") "__get__") (some (some (.builtin "getset_descriptor.__get__"))) && (decide (PySem.W.takesIn K (.builtin "object.__class__") = some true) && decide (PySem.W.mroIn K C (.type "object") = some true)))))))
def Fx.ok (cn : Nat → Str) (K : PySem.W.Frag) : Fx → Bool
 | .he f => f.ok K
 | .prop x f => He.eqO (PySem.W.findIn K (.ref (He.ga K x)) f) (some (some (.ref (He.ma K (He.ga K x) f)))) && (He.eqO (PySem.W.specialIn K (.ref (He.ma K (He.ga K x) f)) "__get__") (some (some (.builtin "property.__get__"))) &&
  (decide (PySem.W.takesIn K (.ref (He.ma K (He.ga K x) f)) = some true) && (match PySem.W.recIn K (He.ma K (He.ga K x) f) "property" with
   | some (.ref g :: _) => decide (g = pgA K (He.ga K x) f)
   | _ => false)))
 | .ins x => (He.Fa.cls x).ok K && (He.eqO (PySem.W.findIn K (.ref (He.ga K x)) "__class__") (some (some (.builtin "object.__class__"))) && (He.eqO (PySem.W.specialIn K (.builtin "object.__class__") "__get__") (some (some (.builtin "getset_descriptor.__get__"))) &&
  (decide (PySem.W.takesIn K (.builtin "object.__class__") = some true) && decide (PySem.W.mroIn K (He.ga K x) (.type "object") = some true))))
 | .kit t u b => decide (PySem.W.kitOne K (t.v (Tbo cn (fun _ => []) K)) (u.v (Tbo cn (fun _ => []) K)) = some b)
 | .tup a vs => abH K (a K) vs
 | .slf x => PySem.W.selfFirst K (He.ga K x)
 | .nsb x => decide (PySem.W.subIn K (.ref (He.ga K x)) (.type "int") = some false) && decide (PySem.W.subIn K (.ref (He.ga K x)) (.type "bool") = some false)
 | .exi x => adX K (He.ga K x)
 | .raw p => p K
 | .own x file fs => adW K (He.ga K x) (He.ma K (He.ga K x) "__init__") file fs
section
variable {K : PySem.W.Frag} {cn : Nat → Str} {fld : Nat → List Str}
end
abbrev AlP : Type := Bool × List He.FnW
def abJ (cn : Nat → Str) (fa : List Fx) (fn : List PD) (K : PySem.W.Frag) : AlP := ((fa.all fun f => f.ok cn K) && fn.all fun d => d.ok K, fn.map fun d => PP K (d.adr K))
def abK (fn : List PD) : AlP := (true, fn.map PD.val)
def Ij (cn : Nat → Str) (fa : List Fx) (fn : List PD) (K : PySem.W.Frag) : Prop := abJ cn fa fn K = abK fn
def ac4 (o : Obj) : List Addr := (match o.dict with
 | some d => [d]
 | none => []) ++ match o.data with
 | .seq its _ => its.toList.flatMap He.refV
 | .dict es _ => es.toList.flatMap fun e => He.refV e.val
 | .func fd => He.refV fd.code ++ (He.refV fd.defaults ++ (He.refV fd.kwdefaults ++ fd.closure.map (·.2)))
 | .cls cd => cd.ns :: (cd.mro.drop 1).flatMap He.refV
 | .fields vs => vs.toList.flatMap He.refV
 | .cell (some v) => He.refV v
 | _ => []
def asF (g : Addr → Option Obj) : Nat → List Addr → List Addr
 | 0, l => l
 | n + 1, l => l ++ asF g n (l.flatMap fun a => match g a with
   | some o => ac4 o
   | none => [])
def asP (g : Addr → Option Obj) (n : Nat) : List Addr := asF g n [mainGlobals] ++ [cStatics]
def obsPG (n : Nat) (cn : Nat → Str) (fa : List Fx) (fn : List PD) (g : Addr → Option Obj) : AlP := abJ cn fa fn (He.frG g (asP g n))
def hookP (n : Nat) (cn : Nat → Str) (fa : List Fx) (fn : List PD) : PySem.W.Hook where
 α := AlP
 obs := fun s => obsPG n cn fa fn s.heap.get?
 val := fun _ => abK fn
 says := fun _ h => ∃ K : PySem.W.Frag, K.In h ∧ Ij cn fa fn K
 of := fun _ _ e => ⟨_, He.frG_in, e⟩
 keeps := fun _ _ _ ⟨K, hK, c⟩ k => ⟨K, PySem.W.Frag.In.keeps hK k, c⟩
theorem obsPG_eq {n : Nat} {cn : Nat → Str} {fa : List Fx} {fn : List PD} {g : Addr → Option Obj} {s : Shared} (h : ∀ a, g a = s.heap.get? a) : obsPG n cn fa fn g = (hookP n cn fa fn).obs s := by
 have e : g = s.heap.get? := funext h
 rw [e] <;> rfl
section
variable {cn : Nat → Str} {fa : List Fx} {fn : List PD} {K : PySem.W.Frag}
theorem Ij.fact (c : Ij cn fa fn K) (i : Nat) {f : Fx} (h : fa[i]? = some f := by rfl) : f.ok cn K = true := by
 have c1 := (He.ba (show ((fa.all fun f => f.ok cn K) && fn.all fun d => d.ok K) = true from congrArg (fun z : AlP => z.1) c)).1
 exact List.all_eq_true.mp c1 f (ai1 h)
theorem Ij.def_ (c : Ij cn fa fn K) (i : Nat) {d : PD} (h : fn[i]? = some d := by rfl) (hc : d.clo = false := by rfl) : ∃ fd, FunD K d.name d.qual d.params d.body d.scope (d.dvs K) (d.kws K) (d.adr K) fd := by
 have c2 := (He.ba (show ((fa.all fun f => f.ok cn K) && fn.all fun d => d.ok K) = true from congrArg (fun z : AlP => z.1) c)).2
 have e : fn.map (fun d => PP K (d.adr K)) = fn.map PD.val := congrArg (fun z : AlP => z.2) c
 have e2 : (fn.map fun d => PP K (d.adr K))[i]? = (fn.map PD.val)[i]? := by rw [e]
 rw [ai3, ai3, h] at e2
 exact PD.funD hc (Option.some.inj e2) (List.all_eq_true.mp c2 d (ai1 h))
end
theorem KJ {K : PySem.W.Frag} {T : Tb} {w : Wd} : ∀ ns : List Int, au K T w (ns.map V.int) (ns.map D.int)
 | [] => .nil
 | i :: r => .cons (.int i) (KJ r)
theorem law_sp {K : PySem.W.Frag} {T : Tb} {F : Fn} {H : Hp} {a : Addr} {ns : List Int} (hq : SqL K H a (ns.map V.int)) {fr : Fr} {h : Hh} (e : F [.kl (ns.map D.int)] [] = .ok (.bl true) fr h) : spF K T 1 F [.ref a] H (fun v _ => v = .bl true) (fun _ _ _ => False) := by
 refine ⟨⟨H, []⟩, [], [.kl (ns.map D.int)], ⟨Wd.le_refl _, fun _ q => .inl q, fun _ q => (by cases q), fun _ _ q _ => q, fun _ q => (by cases q), fun _ _ q => q, rfl, List.nodup_nil, fun _ q => (by cases q), fun _ _ _ q => (by simp at q), rfl, fun _ _ _ q => (by simp at q), fun _ _ _ _ q => (Ko q).elim, fun _ _ _ q _ => (by simp at q), fun _ q => (by cases q)⟩, .cons (.kl hq (KJ ns)) .nil, rfl, ?_⟩
 rw [e]
 intro w' H' v l R rv
 rcases rv with rv | ⟨p, o, _, _, _, _, r⟩
 · cases rv
   rfl
 · cases r
def pick {α : Type} (is : List Nat) (l : List α) : List α := is.filterMap fun i => l[i]?
def gKw {α : Type} (is : List Nat) (us mv ws : List α) : List α := us ++ pick is (ws ++ mv)
end Pk
namespace PySem
namespace EnT
abbrev PQ (l : Addr) : Obj := { cls := .type "tuple_iterator", data := .fields #[.ref l, .int 0 0] }
abbrev Wl (it : Addr) : Obj := { cls := .type "enumerate", data := .fields #[.none, .bool false, .ref it, rawInt 0, .none, .none] }
theorem Bw (l : Addr) (items : Array Value) (n : Nat) (dct : Option Addr) (sl : Array (Option Value)) :
 Meets (Builtin.«enumerate.__new__» ⟨[.type "enumerate", .ref l], []⟩) (fun _ R s => s.heap.get? l = some { cls := .type "tuple", dict := dct, data := .seq items n, slots := sl } ∧
  R (.ok (.ret (.ref (s.heap.push (PQ l)).objs.size))) { s with heap := (s.heap.push (PQ l)).push (Wl s.heap.objs.size) }) := by
 refine .of_wp fun prog w A R s h => ?_
 obtain ⟨hp, g, d, tk, os⟩ := s
 obtain ⟨hl, h⟩ := h
 have hsub := sub_enumerate
 have hT : Heap.IsTuple (Shared.heap ⟨hp, g, d, tk, os⟩) l items := ⟨_, hl, rfl, n, rfl⟩
 wp_walk using AutoSeq1.wpAny_loadPart' hl
 refine wpAny_stack_any fun st => wpAny_pure ?_
 split
 · rename_i c _ _ _ _ _
   cases (c == Value.type "enumerate") <;> (wp_walk using AutoSeq1.wpAny_loadPart' hl, wpAny_pyIter_tuple hT; exact ⟨_, rfl, h⟩)
 · wp_walk using AutoSeq1.wpAny_loadPart' hl, wpAny_pyIter_tuple hT
   exact ⟨_, rfl, h⟩
section
variable {prog : Program} {w : World} {A : Around} {E : Value → Shared → Prop} {s : Shared}
theorem call_tup {l : Addr} {items : Array Value} {Q : Value → Shared → Prop} (hT : s.heap.IsTuple l items)
 (h : ∀ h', IsEnum h' (s.heap.objs.size + 1) s.heap.objs.size 0 .none → h'.IsTupleIter s.heap.objs.size l 0 → (∀ b o, s.heap.get? b = some o → h'.get? b = some o) → Q (.ref (s.heap.objs.size + 1)) { s with heap := h' }) :
 wpAny (model prog w) A (call (.type "enumerate") [.ref l]) Q E s := by
 obtain ⟨⟨c, dct, dt, sl⟩, hl, hc, n, hd⟩ := hT
 obtain rfl : c = .type "tuple" := hc
 obtain rfl : dt = .seq items n := hd
 have hz : (s.heap.push (PQ l)).objs.size = s.heap.objs.size + 1 := Heap.size_push ..
 have he : ((s.heap.push (PQ l)).push (Wl s.heap.objs.size)).get? (s.heap.objs.size + 1) = some (Wl s.heap.objs.size) := by
  have z := Heap.get?_push_size (s.heap.push (PQ l)) (o := Wl s.heap.objs.size) rfl
  rw [hz] at z
  exact z
 have hi : ((s.heap.push (PQ l)).push (Wl s.heap.objs.size)).get? s.heap.objs.size = some (PQ l) := Heap.get?_push_of_some _ (Heap.get?_push_size _ rfl)
 refine callType_new F.called_enumerate (by decide) (F.typeCall_enumerate_1 _) (F.newCall_enumerate_1 _) (fun obj => F.args_object_init_2 obj _) F.entry_enumerate_new (Bw l items n dct sl) ⟨hl, ?_⟩
 show _ ∧ _
 rw [hz]
 exact ⟨⟨_, he, rfl⟩, h _ he ⟨_, hi, rfl, rfl⟩ fun b o x => Heap.get?_push_of_some _ (Heap.get?_push_of_some _ x)⟩
end
end EnT
end PySem
namespace L2
open PySem PySem.Spec PyProof.Rows
def ItE (K : PySem.W.Frag) (a : Addr) : It :=
 ⟨fun i H => ∃ (xs : List V) (x : V), SqT K H a xs ∧ xs[i]? = some x, fun i H v H' => ∃ T x, v = .ref T ∧ H T = none ∧ H' = upd H T (.tup [.int (i : Nat), x]) ∧ ∀ xs, SqT K H a xs → xs[i]? = some x, fun i H => ∃ xs : List V, SqT K H a xs ∧ xs.length ≤ i⟩
theorem Mq {h : Heap} {a b : Addr} {its : Array Value} {n : String} {o : Obj} (p : h.IsTuple a its) (e : h.get? b = some o) (c : o.cls = .type n) (hn : n ≠ "tuple") : a ≠ b := fun z => by
 obtain ⟨oa, ea, ca, _⟩ := p
 rw [z, e] at ea
 cases ea
 rw [c] at ca
 exact hn (by injection ca)
theorem X3 {P : Program} {w : World} {K : PySem.W.Frag} {elts : List Expr} {kk : Nat} {tpos : Pos} (a e it : Addr) :
 Turn P w K (.Tuple elts kk tpos) (ItE K a) [e, it] e (fun i h => (∃ old, IsEnum h e it ((i : Nat) : Int) old) ∧ h.IsTupleIter it a i ∧ e ≠ it) where
 mem := by simp
 obj := fun i h st b hb => by
  obtain ⟨⟨old, he⟩, ⟨o, ho, _, hd⟩, _⟩ := st
  rcases (show b = e ∨ b = it by simpa using hb) with rfl | rfl
  · exact ⟨_, he, fun v q => nomatch q⟩
  · exact ⟨o, ho, fun v q => by rw [hd] at q; cases q⟩
 keep := fun i h h' st k => by
  obtain ⟨⟨old, he⟩, hi, hne⟩ := st
  exact ⟨⟨old, k e (by simp) _ he⟩, hi.at fun o q => k it (by simp) o q, hne⟩
 item := by
  intro X hP hw hK hc i pins s σ H E I hf st hg
  subst hP hw hK
  obtain ⟨⟨old, he⟩, hit, hne⟩ := st
  obtain ⟨xs, x, hq, hx⟩ := hg
  obtain ⟨its, rv, p, _⟩ := I.tuple hq
  obtain ⟨u, hu, ru⟩ := rv.get hx
  have pt : s.heap.IsTuple a its.toArray := p
  have hai : a ≠ it := by
   obtain ⟨o, ho, c, _⟩ := id hit
   exact Mq pt ho c (by decide)
  have hae : a ≠ e := Mq pt he rfl (by decide)
  have hlt : i < its.toArray.size := by
   have := (List.getElem?_eq_some_iff.mp hu).1
   simpa using this
  have hel : e < s.heap.objs.size := Heap.lt_size he
  have hil : it < s.heap.objs.size := by
   obtain ⟨_, q, _⟩ := hit
   exact Heap.lt_size q
  refine wpAny_pyNext_enum_itemD (Draws.tuple (show X.A.in1.handled = none from I.ok.hd hc) it a hai its.toArray) he ⟨hit, pt⟩ hlt hne (by simp [hne, Ne.symm hae]) fun y h' tk hy ho hst hT hsz hk => ?_
  obtain rfl : u = y := by
   have e1 : its[i]? = some y := by simpa using hy
   rw [hu] at e1
   exact Option.some.inj e1
  refine ⟨_, rfl, wpAny_letOwnedTupleGo_enum (s := { s with heap := h', toks := tk + 1 }) ho fun h'' he' sb => ?_⟩
  have ne : s.heap.objs.size ≠ e := Nat.ne_of_gt hel
  have new : ObjOk X.prog X.w (upd H s.heap.objs.size (.tup [.int (i : Nat), x])) h'' s.heap.objs.size (.tup [.int (i : Nat), x]) :=
   ⟨by show 2 ≤ sizeLine; decide, [.int i tk, u], .cons ⟨_, rfl⟩ (.cons ru .nil), ⟨_, (sb.2 _ ne).trans hT, rfl, _, rfl⟩⟩
  have I1 : Inv X pins σ (upd H s.heap.objs.size (.tup [.int (i : Nat), x])) { s with heap := h'', toks := tk + 1 } :=
   I.turnedNew (ch := [e, it]) (fun b ob hb q => (sb.2 b (fun z => hb (by simp [z]))).trans (hk b ob (fun z => hb (by simp [z])) (fun z => hb (by simp [z])) q)) hf (Nat.le_refl _) new
  refine ⟨.ref s.heap.objs.size, _, I1, rfl, ⟨_, x, rfl, I.hok.fresh (Nat.le_refl _), rfl, fun ys hy => by rw [I.tuple_inj hy hq]; exact hx⟩, ⟨⟨u, ?_⟩, hst.1.at fun o q => (sb.2 it (Ne.symm hne)).trans q, hne⟩, fun b hb => ?_⟩
  · rw [show ((i + 1 : Nat) : Int) = (i : Int) + 1 by omega]
    exact he'
  · have hb' : b < s.heap.objs.size := by
     rcases (show b = e ∨ b = it by simpa using hb) with rfl | rfl
     · exact hel
     · exact hil
    rw [upd_ne (Nat.ne_of_lt hb')]
    exact (hf b hb).1
 done := by
  intro X hP hw hK hc i pins s σ H E I hf st hg
  subst hP hw hK
  obtain ⟨⟨old, he⟩, hit, hne⟩ := st
  obtain ⟨xs, hq, hx⟩ := hg
  obtain ⟨its, rv, p, _⟩ := I.tuple hq
  have pt : s.heap.IsTuple a its.toArray := p
  obtain ⟨f0, f1, f2, f3, f4, f5⟩ := hf it (by simp)
  have hai : a ≠ it := by
   obtain ⟨o, ho, c, _⟩ := id hit
   exact Mq pt ho c (by decide)
  have hi : its.toArray[i]? = none := by
   have hl := rv.length
   simp
   omega
  have D : Draws X.prog X.w X.A.in1 it [it, a] i (fun _ _ => True) (fun j h => j = i ∧ h.IsTupleIter it a j ∧ h.IsTuple a its.toArray) :=
   { live := fun _ _ st => by
      obtain ⟨_, ⟨o, ho, _⟩, _⟩ := st
      exact ⟨o, ho⟩
     frame := fun _ _ _ st hk => ⟨st.1, st.2.1.at fun o e => hk it (by simp) o e, st.2.2.at fun o e => hk a (by simp) o e⟩
     item := fun j s Q E hj st _ => absurd st.1 (Nat.ne_of_lt hj)
     done := fun s Q E st hE => PySem.wpAny_nextOf_tuple_end (show X.A.in1.handled = none from I.ok.hd hc) st.2.1 st.2.2 hi hE }
  exact wpAny_pyNext_enum_endD D he ⟨rfl, hit, pt⟩ fun h' eb => ⟨rfl, I.turned (t' := s.toks) (fun b o hb q => eb b o hb q) f0 f1 f3 f4 f5⟩
 self := fun A i s Q E st h => by
  obtain ⟨⟨_, he⟩, _⟩ := st
  exact wpAny_pyIter_enum he h
def adY (K : PySem.W.Frag) (ta : TA) : TI := fun σ H R => ta σ H fun vs H1 => ∃ a xs, vs = [.ref a] ∧ ((SqL K H1 a xs ∧ R (Ite K a) H1) ∨ (SqT K H1 a xs ∧ R (ItE K a) H1))
theorem Wm {X : Cx} {e : Expr} {ta : TA} {p pos tpos : Pos} {elts : List Expr} {kk : Nat} (hg : Gl X "enumerate") (hm : X.mg "enumerate" = none) (ha : PA X [e] ta) (hs : starEach [e] X.env = [(false, eval e X.env)] := by rfl) :
 PI X (.Tuple elts kk tpos) (.Call (.Name "enumerate" p) [e] [] pos) (adY X.K ta) := by
 refine ⟨fun pins s σ H R I h => ?_⟩
 refine Call_ (ld_blt I hg hm boot_enumerate (PyProof.Rows.callWith_type1 (thn (ha.run pos pins s σ H _ I h) fun us s1 hh => ?_) hs rfl))
 obtain ⟨vs, H1, I1, r1, a, xs, rfl, q⟩ := hh
 cases r1 with
 | cons r rr =>
   cases rr
   cases r
   have two : ∀ b ∈ [s1.heap.objs.size + 1, s1.heap.objs.size], FpOk X pins H1 b := fun b hb => by
    have hle : s1.heap.objs.size ≤ b := by
     rcases (show b = s1.heap.objs.size + 1 ∨ b = s1.heap.objs.size by simpa using hb) with rfl | rfl
     · exact Nat.le_succ _
     · exact Nat.le_refl _
    exact I1.fpOk hle (I1.hok.fresh hle)
   rcases q with ⟨hq, q⟩ | ⟨hq, q⟩
   · obtain ⟨its, rv, pl, _⟩ := I1.list hq
     refine call_enumerate_list pl.isList fun h' he hit _ hk => wpAny_pyIter_enum he ?_
     exact ⟨s1.heap.objs.size + 1, [s1.heap.objs.size + 1, s1.heap.objs.size], _, _, H1, rfl, I1.kept (t' := s1.toks) hk, turn_enum a (s1.heap.objs.size + 1) s1.heap.objs.size, ⟨⟨.none, he⟩, hit, Nat.succ_ne_self _⟩, two, q⟩
   · obtain ⟨its, rv, pl, _⟩ := I1.tuple hq
     refine PySem.EnT.call_tup (show s1.heap.IsTuple a its.toArray from pl) fun h' he hit hk => wpAny_pyIter_enum he ?_
     exact ⟨s1.heap.objs.size + 1, [s1.heap.objs.size + 1, s1.heap.objs.size], _, _, H1, rfl, I1.kept (t' := s1.toks) hk, X3 a (s1.heap.objs.size + 1) s1.heap.objs.size, ⟨⟨.none, he⟩, hit, Nat.succ_ne_self _⟩, two, q⟩
end L2
namespace Pk
open PySem PySem.Spec L2
def fM : Nat → List D → List D
 | _, [] => []
 | i, d :: ds => .tup [.int (i : Int), d] :: fM (i + 1) ds
theorem uN : ∀ (i : Nat) (l : List D), (fM i l).length = l.length
 | _, [] => rfl
 | i, _ :: l => congrArg Nat.succ (uN (i + 1) l)
theorem zM : ∀ (i : Nat) (l : List D) (j : Nat) (z : D), (fM i l)[j]? = some z → ∃ d, l[j]? = some d ∧ z = .tup [.int ((i + j : Nat) : Int), d]
 | _, [], j, z, e => by simp [fM] at e
 | i, d :: l, 0, z, e => by
   simp [fM] at e
   exact ⟨d, rfl, e.symm⟩
 | i, d :: l, j + 1, z, e => by
   obtain ⟨d', h1, h2⟩ := zM (i + 1) l j z (by simpa [fM] using e)
   exact ⟨d', by simpa using h1, by rw [h2]; congr 3; omega⟩
def D.lst : D → Option (List D)
 | .fl l => some l
 | .kl l => some l
 | .tup l => some l
 | _ => none
def qZ (m : M D) : M (List D) := m.bind fun d => M.opt (d.lst.map (fM 0))
section
variable {X : Cx} {T : Tb} {W : WX} {k kk : Nat} {pos p tpos : Pos} {elts : List Expr} {a : Expr} {ma : M D}
theorem aak {K : PySem.W.Frag} {B : Bs} {σ : L2.St} {w : Wd} {H : Hp} {fr : Fr} {a : Addr} {vs : List V} {l : List D} (sq : SqL K w.F a vs) (rl : au K T w vs l) : vJ K T B σ w H fr (Ite K a) (fM 0 l) := fun i w2 H2 l2 hs => ⟨fun hi => ⟨vs, fL hs (fL l2.1 sq), by rw [rl.length, ← uN 0 l]; exact hi⟩, fun d' hd => by
 obtain ⟨d, hd1, rfl⟩ := zM 0 l i d' hd
 obtain ⟨v, hv, rv⟩ := rl.get hd1
 have sq2 : SqL K H2 a vs := fL hs (fL l2.1 sq)
 refine ⟨⟨vs, v, sq2, hv⟩, fun y H3 hy B' σ' fr' h' R' => ?_⟩
 obtain ⟨Tp, x, rfl, nT, rfl, hx⟩ := hy
 have z := hx vs sq2
 rw [hv] at z
 cases z
 have nf : w2.F Tp = none := (R'.nP nT).1
 have lw := Wd.le_add (o := .tup [.int (i : Nat), v]) nf
 rw [Nat.zero_add]
 exact ⟨w2.add Tp (.tup [.int (i : Nat), v]), lw, R'.laid nT, .tup (SqT.of (by show upd w2.F Tp _ Tp = _; rw [upd_same])) (.cons (.int _) (.cons ((rv.mono l2).mono lw) .nil))⟩⟩
theorem abL {K : PySem.W.Frag} {B : Bs} {σ : L2.St} {w : Wd} {H : Hp} {fr : Fr} {a : Addr} {vs : List V} {l : List D} (sq : SqT K w.F a vs) (rl : au K T w vs l) : vJ K T B σ w H fr (ItE K a) (fM 0 l) := fun i w2 H2 l2 hs => ⟨fun hi => ⟨vs, dI hs (dI l2.1 sq), by rw [rl.length, ← uN 0 l]; exact hi⟩, fun d' hd => by
 obtain ⟨d, hd1, rfl⟩ := zM 0 l i d' hd
 obtain ⟨v, hv, rv⟩ := rl.get hd1
 have sq2 : SqT K H2 a vs := dI hs (dI l2.1 sq)
 refine ⟨⟨vs, v, sq2, hv⟩, fun y H3 hy B' σ' fr' h' R' => ?_⟩
 obtain ⟨Tp, x, rfl, nT, rfl, hx⟩ := hy
 have z := hx vs sq2
 rw [hv] at z
 cases z
 have lw := Wd.le_add (o := .tup [.int (i : Nat), v]) (R'.nP nT).1
 rw [Nat.zero_add]
 exact ⟨w2.add Tp (.tup [.int (i : Nat), v]), lw, R'.laid nT, .tup (SqT.of (by show upd w2.F Tp _ Tp = _; rw [upd_same])) (.cons (.int _) (.cons ((rv.mono l2).mono lw) .nil))⟩⟩
theorem abM {K : PySem.W.Frag} {w : Wd} {v : V} {d : D} {l : List D} (r : bA K T w v d) (e : d.lst = some l) : ∃ p vs, v = .ref p ∧ au K T w vs l ∧ (SqL K w.F p vs ∨ SqT K w.F p vs) := by
 cases r with
 | fl s r =>
   cases e
   exact ⟨_, _, rfl, r, .inl (SqL.of s)⟩
 | kl s r =>
   cases e
   exact ⟨_, _, rfl, r, .inl s⟩
 | tup s r =>
   cases e
   exact ⟨_, _, rfl, r, .inr s⟩
 | _ => cases e
theorem Ik (s : aV X T W a ma) (hm : X.mg "enumerate" = none) (hg : Gl X "enumerate" := by rfl) (hs : starEach [a] X.env = [(false, eval a X.env)] := by rfl) : Gq X T W (.Tuple elts kk tpos) (.Call (.Name "enumerate" p) [a] [] pos) (qZ ma) := fun B w σ H fr h Q r p =>
 Dk (Wm hg hm (pa_cons bj pa_nil (hs.trans (by rfl))) hs) (s B w σ H fr h _ r (aW.bind (VR := vV X.K T B σ) p fun d fr1 h1 w1 H1 x e1 l1 r1 rx p1 => by
  cases q : d.lst with
  | none => rw [q] at p1; exact p1.elim
  | some l =>
    rw [q] at p1
    obtain ⟨a, vs, rfl, rl, sq | sq⟩ := abM rx q
    · exact ⟨a, vs, rfl, .inl ⟨fL r1.sub sq, p1 w1 H1 (Ite X.K a) (Wd.le_refl _) r1 (aak sq rl)⟩⟩
    · exact ⟨a, vs, rfl, .inr ⟨dI r1.sub sq, p1 w1 H1 (ItE X.K a) (Wd.le_refl _) r1 (abL sq rl)⟩⟩))
end
end Pk
namespace Pk
open PySem PySem.Spec L2
inductive AllL {β : Type} (Q : Nat → β → Prop) : List (Nat × β) → Prop where
 | nil : AllL Q []
 | cons {a : Nat} {b : β} {l : List (Nat × β)} : Q a b → AllL Q l → AllL Q ((a, b) :: l)
theorem iQ {β : Type} {Q : Nat → β → Prop} : ∀ {l : List (Nat × β)}, AllL Q l → ∀ c i, aiU c l = some i → Q c i
 | _, .nil, _, _, e => by cases e
 | _, @AllL.cons _ _ a b l q r, c, i, e => by
   rw [List.lookup_cons] at e
   cases h : c == a with
   | true =>
     rw [h] at e
     cases e
     rw [beq_iff_eq.mp h]
     exact q
   | false =>
     rw [h] at e
     exact iQ r c i e
def abN (rows : List ((Tg × Tg) × Bool)) (t u : Tg) : Option Bool := match t, u with
 | .b a, .b b => PN a b
 | t, u => aiU (t, u) rows
inductive uO (K : PySem.W.Frag) (T : Tb) : List ((Tg × Tg) × Bool) → Prop where
 | nil : uO K T []
 | b {a : String} {c : Nat} {r : Bool} {l : List ((Tg × Tg) × Bool)} : PySem.W.kitOne K (Tg.v T (.b a)) (Tg.v T (.o c)) = some r → uO K T l → uO K T (((.b a, .o c), r) :: l)
 | o {c : Nat} {u : Tg} {r : Bool} {l : List ((Tg × Tg) × Bool)} : PySem.W.kitOne K (Tg.v T (.o c)) (u.v T) = some r → XX K (T.cad c) → uO K T l → uO K T (((.o c, u), r) :: l)
theorem BR {K : PySem.W.Frag} {T : Tb} : ∀ {l : List ((Tg × Tg) × Bool)}, uO K T l → ∀ t u b, aiU (t, u) l = some b → PySem.W.kitOne K (t.v T) (u.v T) = some b ∧ ∀ c, t = .o c → XX K (T.cad c)
 | _, .nil, _, _, _, e => by cases e
 | _, @uO.b _ _ a c r l q rr, t, u, b, e => by
   rw [List.lookup_cons] at e
   cases h : (t, u) == (Tg.b a, Tg.o c) with
   | true =>
     rw [h] at e
     cases e
     cases beq_iff_eq.mp h
     exact ⟨q, fun c' z => by cases z⟩
   | false =>
     rw [h] at e
     exact BR rr t u b e
 | _, @uO.o _ _ c u' r l q i rr, t, u, b, e => by
   rw [List.lookup_cons] at e
   cases h : (t, u) == (Tg.o c, u') with
   | true =>
     rw [h] at e
     cases e
     cases beq_iff_eq.mp h
     exact ⟨q, fun c' z => by cases z; exact i⟩
   | false =>
     rw [h] at e
     exact BR rr t u b e
theorem abO {K : PySem.W.Frag} {T : Tb} {l : List ((Tg × Tg) × Bool)} (h : uO K T l) : Mp K T (abN l) := by
 refine ⟨fun t u b e => ?_, fun c u b e => ?_⟩
 · cases t with
   | b a =>
     cases u with
     | b a' => exact kit_ty (aaj _ _ _ e)
     | o c => exact (BR h _ _ _ e).1
   | o c => exact (BR h _ _ _ e).1
 · exact (BR h _ _ _ e).2 c rfl
def ag1 (is : List Nat) (md : List D) (ds es : List D) : List D := ds ++ pick is (es ++ md)
theorem fn_cx0 {P : Program} {w : World} {K : PySem.W.Frag} {mg : Str → Option Value} {base : Heap} {k : Nat} {f : Addr} {fd : FuncData} {ps : List Str} {sp : Sp} (F : FnOk P w K mg base (L2N.CX P w) k f fd ps sp) :
 FnOk P w K mg base CX0 k f fd ps (fun vs H Q _ => sp vs H Q fun _ _ _ => False) := by
 refine ⟨fun vs H Q _ q => F.len vs H Q _ q, fun A outer s H args us vs Q E hr e0 hb r hsp => codeAny_mono (F.run A outer s H args us vs Q _ hr e0 hb r hsp) fun r s' hq => ?_⟩
 cases r with
 | error e =>
   obtain ⟨a, B, H', cls, d, rfl, fl, hok, ub, na, os, ag, hE⟩ := (show L2N.CX P w outer H s (fun _ _ _ => False) e s' from hq)
   exact hE.elim
 | ok fl => cases fl <;> exact hq
end Pk
namespace Pk
open PySem PySem.Spec L2
section
variable {P : Program} {w : World} {K : PySem.W.Frag} {mg : Str → Option Value} {base : Heap} {T : Tb} {k : Nat} {x qual : Str} {params : Arguments} {body : List Stmt} {scope : Scope} {dvs : List V} {kws : List (Str × V)} {f : Addr} {fd : FuncData} {N ps : List Str}
end
structure FnS (P : Program) (w : World) (K : PySem.W.Frag) (mg : Str → Option Value) (base : Heap) (T : Tb) (k c : Nat) (f : Addr) (n : Nat) (ks : List Str) (F : Fn) : Prop where
 run : ∀ (A : Around) (outer : List Env) (s : Shared) (H : Hp) (u0 : Value) (ur ws : List Value) (v0 : V) (vr zs : List V) (Q : VK) (E : XK), Room k A → Env0 P w K mg base A outer s H → RelV v0 u0 → Vals vr ur → Vals zs ws → zs.length = ks.length → vr.length ≤ sizeLine →
  (∀ p, H p = none → spI K T c n F (v0 :: (zs ++ [.ref p])) (upd H p (.tup vr)) Q E) → codeAny (model P w) A (.call (.ref f) ⟨u0 :: ur, ks.zip ws⟩) (CR (L2N.CX P w) outer P w H s Q E) s
 made : Mk K (T.cad c) f
section
variable {P : Program} {w : World} {K : PySem.W.Frag} {mg : Str → Option Value} {base : Heap} {T : Tb} {k : Nat} {x qual : Str} {params : Arguments} {body : List Stmt} {scope : Scope} {f : Addr} {fd : FuncData} {N : List Str} {p0 pv : Str} {ks : List Str}
end
def ac5 (ds es : List D) : List D := es ++ [.tup ds]
def afP (m : Nat) (F : Fn) (ma : M D) (mk : M (List D)) : M D := ma.bind fun d => mk.bind fun es fr h => match d.its [] with
 | some ds => if ds.length ≤ big ∧ es.length = m then oK fr (F (ac5 ds es) h) else .err
 | none => .err
section
variable {X : Cx} {T : Tb} {W : WX} {k kk n c : Nat} {f : Addr} {ks : List Str} {F : Fn} {x : Str} {p pos apos : Pos} {e : Expr} {es : List Expr} {kws : List Keyword} {ma : M (List D)} {mo : M D} {mk : M (List D)}
end
section
open PySem.W
variable {M' : Model} {A : Around} {E : Value → Shared → Prop} {s : Shared}
end
section
variable {X : Cx} {T : Tb} {W : WX} {k kk n c : Nat} {f : Addr} {ks : List Str} {F : Fn} {x : Str} {p sp_ pos apos : Pos} {e : Expr} {kws : List Keyword} {mo : M D} {mk : M (List D)}
end
end Pk
namespace Pk
open PySem PySem.Spec L2
structure ag3 (X : Cx) (T : Tb) (k : Nat) (op : Operator) (mt : Nat → Option Fn) : Prop where
 ex : ∀ c F, mt c = some F → ∃ (kk : Nat) (f : Addr) (fd : FuncData) (ps : List Str), Cls X.K (T.cad c) ∧ Meth X.K (T.cad c) (PySem.dunder op.info.2) f ∧ PySem.W.selfFirst X.K (T.cad c) = true ∧ nu X.prog X.w X.K X.mg X.base T kk f fd ps F ∧ Bn X.K T fd ps 2 [] (bh []) ∧ kk ≤ k
def UJ (h : Hh) (x y : D) : Option Nat := match x.ins h, y.ins h with
 | some (c, _), some (c', _) => if c = c' then some c else none
 | _, _ => none
def ac6 (mt : Nat → Option Fn) (h : Hh) (x y : D) : Option Fn := match UJ h x y with
 | some c => mt c
 | none => none
def ag4 (mt : Nat → Option Fn) (ma mb : M D) : M D := ma.bind fun x => mb.bind fun y fr h => match ac6 mt h x y with
 | some F => oK fr (F [x, y] h)
 | none => .err
section
variable {X : Cx} {T : Tb} {W : WX} {k : Nat} {a b : Expr} {ma mb : M D} {pos : Pos} {op : Operator}
end
end Pk
namespace PySem
namespace ExS
open PySem.W PySem.Calls PyProof.Rows PySem.HandSPX
abbrev asg (f : Str) (q1 q2 q3 q4 : Pos) : Stmt := .Assign [.Attribute (.Name "self" q1) f q2] (.Name f q3) q4
abbrev sup (e : Expr) (p0 p1 p2 p3 p4 : Pos) : Stmt := .Expr (.Call (.Attribute (.Call (.Name "super" p0) [] [] p1) "__init__" p2) [e] [] p3) p4
structure Ds (prog : Program) (K : Frag) (C fI : Addr) (params : Arguments) (body : List Stmt) (scope : Scope) (qual : Str) : Prop where
 cls : ∃ nm q N bs bm sn sub ab col dd k0 k1 k2 k3 k5, K.lookup C = some (excClassObj nm q C N bs bm true sn sub ab col dd k0 k1 k2 k3 k5 "ValueError.__new__") ∧ refsVE bm = true ∧ alongIn K "__init__" bm = some (some (.builtin "ValueError.__init__"))
 sa : findIn K (.ref C) "__setattr__" = some (some (.builtin "object.__setattr__"))
 iC : findIn K (.ref C) "__init__" = some (some (.ref fI))
 tC : typeIn K (.ref fI) = some (.type "function")
 subB : subIn K (.ref C) (.type "ValueError") = some true
 subC : mroIn K C (.ref C) = some true
 opq : nsIn K cStatics "thirdparty.any" = some none
 top : (prog.main.scope.names.lookup ("super" : Str)).isSome = false
 fn : ∃ (oc : Value) (od : Option Addr) (kV doc pm : Value) (an : Option Addr) (cda : Addr) (ct : Value) (osl : Array (Option Value)) (cc : Addr),
  K.lookup fI = some ⟨oc, od, .func (ksFn "__init__" qual params body scope .none kV doc pm an (.ref cda) ct cc), osl⟩ ∧ codeIn K (.ref cda) qual = true ∧
  (∃ (ccl : Value) (cdd : Option Addr) (vs : Array Value) (ccs : Array (Option Value)) (file : Str) (tf : Tok), K.lookup cda = some ⟨ccl, cdd, .fields vs, ccs⟩ ∧ vs[2]? = some (.str file tf) ∧ ((prog.main.file : Str) == file) = true) ∧
  ∃ (cl : Value) (cld : Option Addr) (csl : Array (Option Value)), K.lookup cc = some ⟨cl, cld, .cell (some (.ref C)), csl⟩
section
variable {prog : Program} {w : World} {M : Model} {A : Around} {E : Value → Shared → Prop} {s : Shared}
theorem X4 {t : Sem Value} {Q : List Value → Shared → Prop} (h : wpAny M A t (fun v s => Q [v] s) E s) : wpAny M A (spliced [(false, t)]) Q E s := by
 unfold spliced
 refine wpAny_bind (wpAny_mono h (fun v s' h' => ?_) fun _ _ x => x)
 refine wpAny_bind (wpAny_pure ?_)
 refine wpAny_bind (wpAny_holding ?_)
 exact Calls.spliced_nil (wpAny_pure h')
theorem aal {h : Heap} {g : Array GenState} {d : Drawn} {t : Nat} {os : OsState} {nm q : Str} {C N : Addr} {bs bm : List Value} {hdct : Bool} {sn : List Str} {sub : List Value} {ab : Bool} {col : Option Bool} {dd : Option Addr} {k0 k1 k2 k3 k5 : Option Value} {u x t0 : Addr} {rest : List Value} {Q : Value → Shared → Prop}
 (hC : h.get? C = some (excClassObj nm q C N bs bm hdct sn sub ab col dd k0 k1 k2 k3 k5 "ValueError.__new__")) (he : h.get? x = some (excO C t0)) (hu : h.get? u = some (kxs_mw "ValueError.__init__" x)) (hz : rest.length ≤ sizeLine)
 (hq : ∀ h' t1, (∀ b o, b ≠ x → h.get? b = some o → h'.get? b = some o) → h'.get? x = some (excO C t1) → Q .none ⟨h', g, d, t, os⟩) :
 wpAny (model prog w) A (call (.ref u) rest) Q E ⟨h, g, d, t, os⟩ := by
 refine wpAny_call (codeAny_of_tree ?_)
 show wpAny _ A.in1 (callAny (.ref u) ⟨rest, []⟩) _ _ _
 simp only [callAny]
 refine wpAny_bind (wpAny_load hu ?_)
 simp only [kxs_mw, show (Value.type "method-wrapper" == Value.type "method" || Value.type "method-wrapper" == Value.type "builtin_function_or_method" || Value.type "method-wrapper" == Value.type "method-wrapper") = true by decide, if_true]
 refine KFB.if_so (by decide) ?_
 refine wpAny_bind (check_bound_init F.excBase_ValueError.toExcCallFacts hC he rfl ?_)
 refine wpAny_bind (wpAny_pure (wpAny_pure ?_))
 refine ⟨plainId_quiet F.excBase_ValueError.init.plain _, codeAny_builtin F.excBase_ValueError.initEntry ?_⟩
 exact exc_init_tree (cls := .ref C) (t0 := t0) (dv := none) (c2 := .none) (c3 := .none) (b4 := .bool false) he hz fun h' k e' _ => hq h' _ k e'
end
theorem aam {K : Frag} {h : Heap} {b : Addr} (X : K.In h) (hb : h.objs.size ≤ b) : K.lookup b = none := by
 cases e : K.lookup b with
 | none => rfl
 | some o => exact absurd (Heap.lt_size (X _ _ e)) (Nat.not_lt.mpr hb)
theorem P0 {K : Frag} {h h' : Heap} {x : Addr} (X : K.In h) (hx : K.lookup x = none) (k : ∀ b o, b ≠ x → h.get? b = some o → h'.get? b = some o) : K.In h' := fun a o e =>
 k a o (fun z => by rw [z, hx] at e; cases e) (X a o e)
section
variable {prog : Program} {w : World} {A : Around} {R : Result → Shared → Prop} {s : Shared} {K : Frag} {C fI : Addr} {params : Arguments} {scope : Scope} {qual : Str} {ex : Expr} {p0 p1 p2 p3 p4 : Pos} {rest : List Stmt} {mg mb : Str → Option Value}
theorem enter (T : Ds prog K C fI params (sup ex p0 p1 p2 p3 p4 :: rest) scope qual) {x t0 : Addr} {us : List Value} {binds : List (Str × Value)} (X : K.In s.heap) (hlim : s.heap.NoLimit) (hx : s.heap.get? x = some (excO C t0)) (hnx : K.lookup x = none) (hroom : A.depth < recursionLimit)
 (hG : s.heap.Ns mainGlobals mg) (hg : mg "super" = none) (hB : s.heap.Ns builtinsNs mb) (hb : mb "super" = some (.type "super"))
 (hbind : ∀ (kV doc pm : Value) (an : Option Addr) (cdv ct : Value) (cc : Addr), bindArgs (ksFn "__init__" qual params (sup ex p0 p1 p2 p3 p4 :: rest) scope .none kV doc pm an cdv ct cc) ⟨.ref x :: us, []⟩ = pure binds)
 (hself : binds.reverse.lookup ("self" : Str) = some (.ref x)) (hloc : ∀ y ∈ binds, scope.names.lookup y.1 = some .local)
 (hcell : ∀ y ∈ scope.names, y.2 ≠ .cell) (hp : ∃ ar : Arg, (params.posonlyargs ++ params.args).head? = some ar ∧ ar.arg = "self") (hks : scope.names.lookup ("super" : Str) = some .globalImplicit) (hkc : scope.names.lookup ("__class__" : Str) = some .free) (hka : scope.names.lookup ("self" : Str) = some .local)
 (hco : scope.isCoroutine = false) (hgen : scope.isGenerator = false) (hk : scope.kind = .function)
 (hE : ∀ (cda cc : Addr) (L : Addr) (A' : Around) (h : Heap) (g : Array GenState) (d : Drawn) (t : Nat) (os : OsState) (E' : Value → Shared → Prop) (Q : Value → Shared → Prop), (∀ b o, s.heap.get? b = some o → h.get? b = some o) → h.Ns L (fun y => binds.reverse.lookup y) → (∀ v t', Q v ⟨h, g, d, t', os⟩) → wpAny (model prog w) A' (eval ex (ksEnv qual scope L fI (.ref cda) cc)) Q E' ⟨h, g, d, t, os⟩)
 (hin : ∀ (cda cc L : Addr), interactive (ksEnv qual scope L fI (.ref cda) cc) = false)
 (hev : ∀ (cda cc L : Addr), ∃ pl : Sem Bool, eval (.Call (.Attribute (.Call (.Name "super" p0) [] [] p1) "__init__" p2) [ex] [] p3) (ksEnv qual scope L fI (.ref cda) cc) = (do
  let ov ← attributeBase (.Call (.Name "super" p0) [] [] p1) "__init__" (ksEnv qual scope L fI (.ref cda) cc) (eval (.Call (.Name "super" p0) [] [] p1) (ksEnv qual scope L fI (.ref cda) cc))
  standAt p2.atName
  let (f, first) ← holding [ov] (getMethod ov "__init__" pl)
  callWith p3 f first (backTo p3 (starEach [ex] (ksEnv qual scope L fI (.ref cda) cc))) []))
 (hsw : ∀ (cda cc L : Addr), swapsWith (.Call (.Attribute (.Call (.Name "super" p0) [] [] p1) "__init__" p2) [ex] [] p3) none p4.line (ksEnv qual scope L fI (.ref cda) cc) = pure false)
 (hst : ∀ env : Env, starEach [ex] env = [(false, eval ex env)])
 (hq : ∀ (cda cc : Addr) h' tk t1, (∀ b o, b ≠ x → s.heap.get? b = some o → h'.get? b = some o) → h'.get? x = some (excO C t1) → h'.Ns s.heap.objs.size (fun y => binds.reverse.lookup y) →
  wpAny (model prog w) (A.deeper (ksEnv qual scope s.heap.objs.size fI (.ref cda) cc)) (execs rest (ksEnv qual scope s.heap.objs.size fI (.ref cda) cc)) (fun f s' => R (.ok (.ret (match f with | .ret v => v | _ => .none))) s')
   (fun _ _ => False) { s with heap := h', toks := tk }) : codeAny (model prog w) A (.call (.ref fI) ⟨.ref x :: us, []⟩) R s := by
 obtain ⟨oc, od, kV, doc, pm, an, cda, ct, osl, cc, ho, hcd, ⟨ccl, cdd, vs, ccs, file, tf, hcode, hvs, hfile⟩, cl, cld, csl, hcel⟩ := T.fn
 obtain ⟨nm, q, N, bs, bm, sn, sub, ab, col, dd, k0, k1, k2, k3, k5, hC, hbm, hal⟩ := T.cls
 obtain ⟨ar, hp, har⟩ := hp
 have hcl : clsIn K C = some { name := nm, bases := bs, mro := .ref C :: bm, ns := N, qualname := q, hasDict := true, slotNames := sn, subclasses := sub, abstract := ab, collection := col, hasDel := false } := by unfold clsIn; rw [hC] <;> rfl
 refine ks_codeAny_call_defAt (fd := ksFn "__init__" qual params (sup ex p0 p1 p2 p3 p4 :: rest) scope .none kV doc pm an (.ref cda) ct cc) (body := sup ex p0 p1 p2 p3 p4 :: rest) (binds := binds) hroom (X _ _ ho) rfl hlim (codeRec_of X hcd) rfl (BindsTo.of_eq (hbind kV doc pm an (.ref cda) ct cc)) hcell hloc (fun h₁ hns hk₁ => ?_) hco hgen hk
 obtain ⟨hp0, g, d, t, os⟩ := s
 show wpAt (model prog w) (A.deeper (ksEnv qual scope hp0.objs.size fI (.ref cda) cc)) (.func (sup ex p0 p1 p2 p3 p4 :: rest) (ksEnv qual scope hp0.objs.size fI (.ref cda) cc)) (execs (sup ex p0 p1 p2 p3 p4 :: rest) (ksEnv qual scope hp0.objs.size fI (.ref cda) cc)) _ _ _
 have X₁ : K.In h₁ := X.keeps hk₁
 have hx₁ := hk₁ _ _ hx
 have hC₁ := X₁ _ _ hC
 have hxC : x ≠ C := fun z => by
  rw [z, hC₁] at hx₁
  cases hx₁
 obtain ⟨pl, hev⟩ := hev cda cc hp0.objs.size
 refine ks_wpAt_execs_cons (ks_wpAt_Expr_any (ks_wpAt_MethodCall (pl := pl) ?_ hev) (hin _ _ _) (hsw _ _ _))
 refine ks_wpAt_super_base (fd := ksFn "__init__" qual params (sup ex p0 p1 p2 p3 p4 :: rest) scope .none kV doc pm an (.ref cda) ct cc) hks hkc (by decide) rfl (X₁ _ _ ho) rfl hp rfl (X₁ _ _ hcode) rfl hvs hfile T.top ?_
 refine ks_loadName_global hk hks (Calls.loadGlobal_builtin (hG.keeps hk₁) hg (hB.keeps hk₁) hb ⟨rfl, ?_⟩)
 refine wpAny_loadName_free hk hkc rfl ⟨_, X₁ _ _ hcel, rfl⟩ ?_
 rw [har]
 refine wpAny_loadName_local hk hka hns hself ?_
 refine ks_wpAny_isType_cls hC₁ rfl ⟨rfl, ?_⟩
 refine ks_wpAny_call_super hC₁ rfl hx₁ rfl (fun c e => by cases e) (looks_mroIn X₁ T.subC) (fun h₂ hso k₂ => ?_)
 have X₂ : K.In h₂ := X₁.keeps k₂
 have hx₂ := k₂ _ _ hx₁
 have I₂ : InstAt h₂ x (excO C t0) C none := ⟨hx₂, rfl, rfl, trivial⟩
 refine kxs_getMethod kxs_ValueError hso (looks_opaque X₂ T.opq) (l₀ := .ref C :: bm) ((looks_clsIn X₂ hcl).andThen .now) (by simp [List.dropWhile_cons]) X₂ hal (I₂.type.andThen (looks_subIn X₂ T.subB)) hxC rfl ?_
 have k₃ : ∀ b o, h₂.get? b = some o → (h₂.push (kxs_mw "ValueError.__init__" x)).get? b = some o := fun b o e => Heap.get?_push_of_some _ e
 have hu : (h₂.push (kxs_mw "ValueError.__init__" x)).get? h₂.objs.size = some (kxs_mw "ValueError.__init__" x) := Heap.get?_push_at rfl rfl
 refine kxs_callWith (i := "ValueError.__init__") (x := x) (by rw [hst]; rfl) ?_
 rw [hst]
 refine evalArgs_plain ?_
 show wpAny _ _ (spliced [(false, eval ex (ksEnv qual scope hp0.objs.size fI (.ref cda) cc))]) _ _ _
 refine X4 (hE cda cc hp0.objs.size _ _ _ _ _ _ _ _ (fun b o e => k₃ _ _ (k₂ _ _ (hk₁ _ _ e))) ((hns.keeps k₂).keeps k₃) fun v t' => ⟨hu, ?_⟩)
 refine aal (k₃ _ _ (k₂ _ _ hC₁)) (k₃ _ _ hx₂) hu (by show 1 ≤ sizeLine; decide) fun h₄ t1 k₄ hx₄ => ?_
 have hxL : hp0.objs.size ≠ x := Nat.ne_of_gt (Heap.lt_size hx)
 refine wpAt_of_wpAny (wpAny_mono (hq cda cc h₄ _ t1 (fun b o hb e => k₄ b o hb (k₃ _ _ (k₂ _ _ (hk₁ _ _ e)))) hx₄ ?_) (fun _ _ z => z) fun _ _ z => z.elim)
 obtain ⟨o, es, ep, eo, r⟩ := (hns.keeps k₂).keeps k₃
 exact ⟨o, es, ep, k₄ _ _ hxL eo, r⟩
end
abbrev Gz : Type := Str × Pos × Pos × Pos × Pos
abbrev Dt (gs : List Gz) : List Stmt := gs.map fun g => asg g.1 g.2.1 g.2.2.1 g.2.2.2.1 g.2.2.2.2
theorem rG {α : Type} (f g : Str) (y : α) (fs : List (Str × α)) : ((f, y) :: fs).lookup g = if g = f then some y else fs.lookup g := by
 by_cases h : g = f
 · subst h
   simp [aiU]
 · have e : (g == f) = false := by simpa using h
   rw [if_neg h]
   simp [aiU, e]
theorem JC {α : Type} {y : Str} : ∀ {l : List (Str × α)} {v : α}, l.lookup y = some v → y ∈ l.map (·.1)
 | [], v, h => by cases h
 | (f, z) :: l, v, h => by
   rw [rG] at h
   by_cases e : y = f
   · rw [e]; exact aiX ..
   · rw [if_neg e] at h
     exact ai2 _ (JC h)
theorem Qa {α : Type} {y : Str} : ∀ (l r : List (Str × α)), (l ++ r).lookup y = match l.lookup y with | some v => some v | none => r.lookup y
 | [], r => rfl
 | (f, z) :: l, r => by
   rw [ai6, rG, rG]
   by_cases e : y = f
   · rw [if_pos e, if_pos e]
   · rw [if_neg e, if_neg e]; exact Qa l r
theorem look_none {α : Type} {y : Str} {l : List (Str × α)} (h : y ∉ l.map (·.1)) : l.lookup y = none := by
 cases e : l.lookup y with
 | none => rfl
 | some v => exact absurd (JC e) h
theorem Qc {α : Type} {y : Str} : ∀ {l : List (Str × α)}, (l.map (·.1)).Nodup → l.reverse.lookup y = l.lookup y
 | [], _ => rfl
 | (f, z) :: l, h => by
   rw [aiN, List.nodup_cons] at h
   have e1 : ((f, z) :: l).lookup y = if y = f then some z else l.lookup y := rG f y z l
   have e2 : [(f, z)].lookup y = if y = f then some z else none := rG f y z []
   rw [List.reverse_cons, Qa, Qc h.2, e1, e2]
   by_cases e : y = f
   · subst e
     rw [look_none h.1, if_pos rfl]
   · rw [if_neg e, if_neg e]
     cases l.lookup y <;> rfl
structure StX (h0 h : Heap) (x C : Addr) (done : List (Str × Value)) : Prop where
 keep : ∀ b o, b ≠ x → h0.get? b = some o → h.get? b = some o
 big : h0.objs.size ≤ h.objs.size
 at_ : ∃ (t1 : Addr) (dv : Option Addr), h.get? x = some { cls := .ref C, dict := dv, data := .fields #[.ref t1, .none, .none, .none, .bool false, .none] } ∧
  ((done = [] ∧ dv = none) ∨ ∃ (dx : Addr) (m : Str → Option Value), dv = some dx ∧ h0.objs.size ≤ dx ∧ dx ≠ x ∧ h.Ns1 dx m ∧ ∀ y, m y = done.lookup y)
section
variable {prog : Program} {w : World} {A : Around} {E : Value → Shared → Prop} {K : Frag} {C fI L x : Addr} {scope : Scope} {qual : Str} {cda cc : Addr} {m : Str → Option Value} {h0 : Heap} {g : Array GenState} {d : Drawn} {os : OsState} {Q : Flow → Shared → Prop} {cd : ClassData}
theorem stores (X0 : K.In h0) (hnx : K.lookup x = none) (hLx : L ≠ x) (hL0 : L < h0.objs.size) (hcl : clsIn K C = some cd) (hm : refsVE cd.mro = true) (hh : cd.hasDict = true) (sa : findIn K (.ref C) "__setattr__" = some (some (.builtin "object.__setattr__"))) (hk : scope.kind = .function) (hself : m "self" = some (.ref x)) (ls : scope.names.lookup ("self" : Str) = some .local)
 (hsw : ∀ g : Gz, swapsWith (.Name g.1 g.2.2.2.1) (some (.Attribute (.Name "self" g.2.1) g.1 g.2.2.1)) g.2.2.2.2.line (ksEnv qual scope L fI (.ref cda) cc) = pure false) (hns0 : h0.Ns L m) :
 ∀ (gs : List Gz) (vs : List Value) (done : List (Str × Value)) (h : Heap) (t : Nat), (∀ g ∈ gs, (g.1 == ("__debug__" : Str)) = false ∧ scope.names.lookup g.1 = some .local ∧ findIn K (.ref C) g.1 = some none) → gs.length = vs.length → (∀ (i : Nat) (f : Str) (v : Value), (gs.map (·.1))[i]? = some f → vs[i]? = some v → m f = some v) → done.length + gs.length ≤ 500 → StX h0 h x C done →
   (∀ h' t', StX h0 h' x C (((gs.map (·.1)).zip vs).reverse ++ done) → Q .next ⟨h', g, d, t', os⟩) → wpAny (model prog w) A (execs (Dt gs) (ksEnv qual scope L fI (.ref cda) cc)) Q E ⟨h, g, d, t, os⟩
 | [], vs, done, h, t, _, hl, _, _, S, hq => by
   cases vs with
   | nil => exact wpAny_execs_nil (hq h t S)
   | cons v vs => cases hl
 | a :: gs, vs, done, h, t, hg, hl, hv, hlen, S, hq => by
   cases vs with
   | nil => cases hl
   | cons v vs =>
     obtain ⟨n1, n2, n3⟩ := hg a aiX
     have hva : m a.1 = some v := hv 0 a.1 v rfl rfl
     obtain ⟨t1, dv, hx, hd⟩ := S.at_
     have X : K.In h := P0 X0 hnx S.keep
     have hns : h.Ns L m := by
      obtain ⟨o, es, ep, eo, r⟩ := hns0
      exact ⟨o, es, ep, S.keep _ _ hLx eo, r⟩
     have go : ∀ h' t', StX h0 h' x C ((a.1, v) :: done) → wpAny (model prog w) A (execs (Dt gs) (ksEnv qual scope L fI (.ref cda) cc)) Q E ⟨h', g, d, t', os⟩ := fun h' t' S' => by
      refine stores X0 hnx hLx hL0 hcl hm hh sa hk hself ls hsw hns0 gs vs ((a.1, v) :: done) h' t' (fun b hb => hg b (ai2 _ hb)) (Nat.succ.inj hl) (fun i f u e1 e2 => hv (i + 1) f u e1 e2) (by simp only [aiL] at hlen ⊢; omega) S' fun h2 t2 S2 => hq h2 t2 ?_
      have e : ((List.map (·.1) (a :: gs)).zip (v :: vs)).reverse ++ done = ((gs.map (·.1)).zip vs).reverse ++ (a.1, v) :: done := by
       simp
      rw [e]
      exact S2
     refine wpAny_execs_cons (plainObj_wpAny_Assign_Attribute ?_ (hsw a))
     refine wpAny_Name (wpAny_loadName_local hk (show (ksEnv qual scope L fI (.ref cda) cc).kindOf a.1 = some .local from n2) hns hva ?_) n1
     refine wpAny_Name (wpAny_loadName_local hk (show (ksEnv qual scope L fI (.ref cda) cc).kindOf "self" = some .local from ls) hns hself ?_) (by decide)
     rcases hd with ⟨rfl, rfl⟩ | ⟨dx, m0, rfl, dn, dne, hn1, hmm⟩
     · refine set_plain X (ox := { cls := .ref C, dict := none, data := .fields #[.ref t1, .none, .none, .none, .bool false, .none] }) (od := none) ⟨hx, rfl, rfl, trivial⟩ sa ?_
       refine exc_osa X hx hcl hm hh n3 (fun h₃ tk₃ dx k₃ dn dne hx₃ hn₃ => ?_)
       have zz : dx < h₃.objs.size := by
        obtain ⟨o, es, ep, eo, _⟩ := hn₃
        exact Heap.lt_size eo
       refine go h₃ _ ⟨fun b o hb e => k₃ b o hb (S.keep b o hb e), Nat.le_of_lt (Nat.lt_of_le_of_lt (Nat.le_trans S.big dn) zz), t1, some dx, hx₃, .inr ⟨dx, _, rfl, Nat.le_trans S.big dn, dne, hn₃, fun y => ?_⟩⟩
       · rw [rG]
         rfl
     · obtain ⟨oD, es, ep, hoD, r⟩ := id hn1
       have hw : Within m0 (done.map (·.1)) := fun y hy => by
        rw [hmm y] at hy
        cases e : done.lookup y with
        | none => exact absurd e hy
        | some u => exact JC e
       refine set_plain X (ox := { cls := .ref C, dict := some dx, data := .fields #[.ref t1, .none, .none, .none, .bool false, .none] }) (od := some oD) ⟨hx, rfl, rfl, hoD⟩ sa ?_
       refine OEX.osa_old X hx hn1 hw (by rw [aiP]; omega) hcl hm hh n3 (fun h₃ tk₃ k₃ hn₃ => ?_)
       have zz : dx < h₃.objs.size := by
        obtain ⟨o, es, ep, eo, _⟩ := hn₃
        exact Heap.lt_size eo
       refine go h₃ _ ⟨fun b o hb e => k₃ b o (fun z => ?_) (S.keep b o hb e), Nat.le_of_lt (Nat.lt_of_le_of_lt dn zz), t1, some dx, k₃ _ _ (Ne.symm dne) hx, .inr ⟨dx, _, rfl, dn, dne, hn₃, fun y => ?_⟩⟩
       · rw [z] at e
         exact absurd (Heap.lt_size e) (Nat.not_lt.mpr dn)
       · rw [rG, hmm y]
end
structure Mr (K : Frag) (params : Arguments) (scope : Scope) (qual : Str) (ex : Expr) (p0 p1 p2 p3 p4 : Pos) (gs : List Gz) (Ok : L2.Hp → List L2.V → Prop) : Prop where
 bind : ∀ (kV doc pm : Value) (an : Option Addr) (cdv ct : Value) (cc x : Addr) (us : List Value), us.length = gs.length → bindArgs (ksFn "__init__" qual params (sup ex p0 p1 p2 p3 p4 :: Dt gs) scope .none kV doc pm an cdv ct cc) ⟨.ref x :: us, []⟩ = pure ((("self" : Str) :: gs.map (·.1)).zip (.ref x :: us))
 nd : (("self" : Str) :: gs.map (·.1)).Nodup
 len : gs.length ≤ 100
 loc : ∀ y ∈ ("self" : Str) :: gs.map (·.1), scope.names.lookup y = some .local
 dbg : ∀ g ∈ gs, (g.1 == ("__debug__" : Str)) = false
 cell : ∀ y ∈ scope.names, y.2 ≠ .cell
 hp : ∃ ar : Arg, (params.posonlyargs ++ params.args).head? = some ar ∧ ar.arg = "self"
 ks : scope.names.lookup ("super" : Str) = some .globalImplicit
 kc : scope.names.lookup ("__class__" : Str) = some .free
 co : scope.isCoroutine = false
 gen : scope.isGenerator = false
 k : scope.kind = .function
 hE : ∀ (H0 : L2.Hp) (vs : List L2.V) (us : List Value), Ok H0 vs → L2.Vals vs us → vs.length = gs.length → ∀ (cda cc L x fI : Addr) (prog : Program) (w : World) (A' : Around) (h0 h : Heap) (g : Array GenState) (d : Drawn) (t : Nat) (os : OsState) (E' : Value → Shared → Prop) (Q : Value → Shared → Prop), K.In h → L2.HOk prog w H0 h0 → (∀ b o, h0.get? b = some o → h.get? b = some o) →
  h.Ns L (fun y => ((("self" : Str) :: gs.map (·.1)).zip (Value.ref x :: us)).reverse.lookup y) → (∀ v t', Q v ⟨h, g, d, t', os⟩) → wpAny (model prog w) A' (eval ex (ksEnv qual scope L fI (.ref cda) cc)) Q E' ⟨h, g, d, t, os⟩
 hin : ∀ (fI cda cc L : Addr), interactive (ksEnv qual scope L fI (.ref cda) cc) = false
 hev : ∀ (fI cda cc L : Addr), ∃ pl : Sem Bool, eval (.Call (.Attribute (.Call (.Name "super" p0) [] [] p1) "__init__" p2) [ex] [] p3) (ksEnv qual scope L fI (.ref cda) cc) = (do
     let ov ← attributeBase (.Call (.Name "super" p0) [] [] p1) "__init__" (ksEnv qual scope L fI (.ref cda) cc) (eval (.Call (.Name "super" p0) [] [] p1) (ksEnv qual scope L fI (.ref cda) cc))
     standAt p2.atName
     let (f, first) ← holding [ov] (getMethod ov "__init__" pl)
     callWith p3 f first (backTo p3 (starEach [ex] (ksEnv qual scope L fI (.ref cda) cc))) [])
 hsw : ∀ (fI cda cc L : Addr), swapsWith (.Call (.Attribute (.Call (.Name "super" p0) [] [] p1) "__init__" p2) [ex] [] p3) none p4.line (ksEnv qual scope L fI (.ref cda) cc) = pure false
 hst : ∀ env : Env, starEach [ex] env = [(false, eval ex env)]
 hsw2 : ∀ (fI cda cc L : Addr) (g : Gz), swapsWith (.Name g.1 g.2.2.2.1) (some (.Attribute (.Name "self" g.2.1) g.1 g.2.2.1)) g.2.2.2.2.line (ksEnv qual scope L fI (.ref cda) cc) = pure false
theorem zip_get {α : Type} : ∀ {ps : List Str} {us : List α} {i : Nat} {f : Str} {v : α}, ps.Nodup → ps[i]? = some f → us[i]? = some v → (ps.zip us).lookup f = some v
 | [], _, i, f, v, _, e, _ => by simp at e
 | _ :: _, [], i, f, v, _, _, e => by simp at e
 | p :: ps, u :: us, 0, f, v, _, e1, e2 => by
   simp at e1 e2
   subst e1 e2
   simp [aiU]
 | p :: ps, u :: us, i + 1, f, v, nd, e1, e2 => by
   rw [List.nodup_cons] at nd
   have e1' : ps[i]? = some f := by simpa using e1
   have e2' : us[i]? = some v := by simpa using e2
   rw [List.zip_cons_cons, rG, if_neg (fun z => nd.1 (by rw [← z]; exact ai1 e1'))]
   exact zip_get nd.2 e1' e2'
theorem X5 {α : Type} {ps : List Str} {us : List α} (hl : ps.length = us.length) : (ps.zip us).map (·.1) = ps := by
 rw [List.map_fst_zip]
 omega
section
variable {prog : Program} {w : World} {A : Around} {R : Result → Shared → Prop} {s : Shared} {K : Frag} {C fI : Addr} {params : Arguments} {scope : Scope} {qual : Str} {ex : Expr} {p0 p1 p2 p3 p4 : Pos} {gs : List Gz} {Ok : L2.Hp → List L2.V → Prop} {H0 : L2.Hp} {h00 : Heap} {mg mb : Str → Option Value}
theorem X6 (T : Ds prog K C fI params (sup ex p0 p1 p2 p3 p4 :: Dt gs) scope qual) (S : Mr K params scope qual ex p0 p1 p2 p3 p4 gs Ok) (hno : ∀ g ∈ gs, findIn K (.ref C) g.1 = some none) {x t0 : Addr} {vs : List L2.V} {us : List Value} (X : K.In s.heap) (hlim : s.heap.NoLimit) (hx : s.heap.get? x = some (excO C t0)) (hnx : K.lookup x = none) (hroom : A.depth < recursionLimit)
 (hG : s.heap.Ns mainGlobals mg) (hg : mg "super" = none) (hB : s.heap.Ns builtinsNs mb) (hb : mb "super" = some (.type "super")) (hH : L2.HOk prog w H0 h00) (kp0 : ∀ b o, h00.get? b = some o → s.heap.get? b = some o) (ok : Ok H0 vs) (rv : L2.Vals vs us) (hl : vs.length = gs.length)
 (hq : ∀ h' tk, StX s.heap h' x C ((gs.map (·.1)).zip us).reverse → R (.ok (.ret .none)) { s with heap := h', toks := tk }) : codeAny (model prog w) A (.call (.ref fI) ⟨.ref x :: us, []⟩) R s := by
 have hlu : us.length = gs.length := by rw [← rv.length]; exact hl
 have keys : (((("self" : Str) :: gs.map (·.1)).zip (Value.ref x :: us)).map (·.1)) = ("self" : Str) :: gs.map (·.1) := X5 (by simp [hlu])
 have hrev : ∀ y, ((("self" : Str) :: gs.map (·.1)).zip (Value.ref x :: us)).reverse.lookup y = ((("self" : Str) :: gs.map (·.1)).zip (Value.ref x :: us)).lookup y := fun y => Qc (by rw [keys]; exact S.nd)
 have hself : ((("self" : Str) :: gs.map (·.1)).zip (Value.ref x :: us)).reverse.lookup ("self" : Str) = some (.ref x) := by
  rw [hrev]
  exact zip_get S.nd (i := 0) rfl rfl
 refine enter T (mg := mg) (mb := mb) (binds := (("self" : Str) :: gs.map (·.1)).zip (.ref x :: us)) X hlim hx hnx hroom hG hg hB hb (fun kV doc pm an cdv ct cc => S.bind kV doc pm an cdv ct cc x us hlu) hself (fun y hy => S.loc y.1 (List.of_mem_zip hy).1) S.cell S.hp S.ks S.kc (S.loc _ aiX) S.co S.gen S.k
  (fun cda cc L A' h g d t os E' Q hk hn hq' => S.hE H0 vs us ok rv hl cda cc L x fI prog w A' h00 h g d t os E' Q (X.keeps hk) hH (fun b o e => hk b o (kp0 b o e)) hn hq') (S.hin fI) (S.hev fI) (S.hsw fI) S.hst fun cda cc h' tk t1 k hx' hns => ?_
 obtain ⟨nm, q, N, bs, bm, sn, sub, ab, col, dd, k0, k1, k2, k3, k5, hC, hbm, hal⟩ := T.cls
 have hcl : clsIn K C = some { name := nm, bases := bs, mro := .ref C :: bm, ns := N, qualname := q, hasDict := true, slotNames := sn, subclasses := sub, abstract := ab, collection := col, hasDel := false } := by unfold clsIn; rw [hC] <;> rfl
 have X' : K.In h' := P0 X hnx k
 have hsz : s.heap.objs.size < h'.objs.size := by
  obtain ⟨o, es, ep, eo, _⟩ := hns
  exact Heap.lt_size eo
 obtain ⟨hp0, g, d, t, os⟩ := s
 refine stores (C := C) (x := x) (L := hp0.objs.size) (h0 := h') (m := fun y => ((("self" : Str) :: gs.map (·.1)).zip (Value.ref x :: us)).reverse.lookup y) X' hnx (Nat.ne_of_gt (Heap.lt_size hx)) hsz hcl (show refsVE (.ref C :: bm) = true from hbm) rfl T.sa S.k hself (S.loc _ aiX) (S.hsw2 fI cda cc _) hns gs us [] h' tk
  (fun b hb' => ⟨S.dbg b hb', S.loc b.1 (ai2 _ (List.mem_map_of_mem hb')), hno b hb'⟩) hlu.symm (fun i f v e1 e2 => by
   show aiU f _ = _
   rw [hrev]
   exact zip_get S.nd (i := i + 1) (by simpa using e1) (by simpa using e2)) (by have := S.len; simp only [aiM]; omega) ⟨fun b o hb' e => e, Nat.le_refl _, t1, none, hx', .inl ⟨rfl, rfl⟩⟩ fun h2 t2 S2 => ?_
 rw [aiQ] at S2
 refine hq h2 t2 ⟨fun b o hb' e => S2.keep b o hb' (k b o hb' e), Nat.le_trans (Nat.le_of_lt hsz) S2.big, ?_⟩
 obtain ⟨t3, dv, e1, e2⟩ := S2.at_
 refine ⟨t3, dv, e1, ?_⟩
 rcases e2 with e2 | ⟨dx, m, q1, q2, q3, q4, q5⟩
 · exact .inl e2
 · exact .inr ⟨dx, m, q1, Nat.le_trans (Nat.le_of_lt hsz) q2, q3, q4, q5⟩
end
end ExS
end PySem
namespace PySem
namespace ExS
open PySem.W PySem.Calls PyProof.Rows PySem.HandSPX
structure MadeX (h h' : Heap) (e C : Addr) (fs : List (Str × Value)) : Prop where
 keep : ∀ b o, h.get? b = some o → h'.get? b = some o
 new : h.objs.size ≤ e
 at_ : ∃ (t1 : Addr) (dv : Option Addr), h'.get? e = some { cls := .ref C, dict := dv, data := .fields #[.ref t1, .none, .none, .none, .bool false, .none] } ∧
  ((fs = [] ∧ dv = none) ∨ ∃ (dx : Addr) (m : Str → Option Value), dv = some dx ∧ h.objs.size ≤ dx ∧ dx ≠ e ∧ h'.Ns1 dx m ∧ ∀ y, m y = fs.lookup y)
section
variable {prog : Program} {w : World} {A : Around} {R : Result → Shared → Prop} {s : Shared} {K : Frag} {C fI : Addr} {params : Arguments} {scope : Scope} {qual : Str} {ex : Expr} {p0 p1 p2 p3 p4 : Pos} {gs : List Gz} {Ok : L2.Hp → List L2.V → Prop} {H0 : L2.Hp} {mg mb : Str → Option Value}
theorem small {l : List Value} {n : Nat} (e : l.length = n) (h : n ≤ 100) : l.length ≤ sizeLine := by
 have : (100 : Nat) ≤ sizeLine := by decide
 omega
theorem made (T : Ds prog K C fI params (sup ex p0 p1 p2 p3 p4 :: Dt gs) scope qual) (S : Mr K params scope qual ex p0 p1 p2 p3 p4 gs Ok) (hno : ∀ g ∈ gs, findIn K (.ref C) g.1 = some none) {vs : List L2.V} {us : List Value} (X : K.In s.heap) (hlim : s.heap.NoLimit) (hroom : A.depth + 1 < recursionLimit)
 (hG : s.heap.Ns mainGlobals mg) (hg : mg "super" = none) (hB : s.heap.Ns builtinsNs mb) (hb : mb "super" = some (.type "super")) (hH : L2.HOk prog w H0 s.heap) (ok : Ok H0 vs) (rv : L2.Vals vs us) (hl : vs.length = gs.length)
 (hq : ∀ h' tk e, MadeX s.heap h' e C ((gs.map (·.1)).zip us).reverse → R (.ok (.ret (.ref e))) { s with heap := h', toks := tk }) : codeAny (model prog w) A (.call (.ref C) ⟨us, []⟩) R s := by
 have hlu : us.length = gs.length := by rw [← rv.length]; exact hl
 obtain ⟨nm, q, N, bs, bm, sn, sub, ab, col, dd, k0, k1, k2, k3, k5, hC, hbm, hal⟩ := T.cls
 obtain ⟨hp, g, dr, tk, os⟩ := s
 have k : ∀ b o, hp.get? b = some o → ((hp.push (kdv_tup us)).push (excO C hp.objs.size)).get? b = some o := fun b o e => Heap.get?_push_of_some _ (Heap.get?_push_of_some _ e)
 have hget : ((hp.push (kdv_tup us)).push (excO C hp.objs.size)).get? (hp.objs.size + 1) = some (excO C hp.objs.size) := by heap_get
 have hnx : K.lookup (hp.objs.size + 1) = none := aam X (Nat.le_succ _)
 refine call_own F.excBase_ValueError (fun X => refsVE_contains X bm hbm) (X _ _ hC) (looks_findIn X T.iC) (fun self => bind_fn X self T.tC) (small hlu S.len) ?_
 refine X6 (s := ⟨(hp.push (kdv_tup us)).push (excO C hp.objs.size), g, dr, tk, os⟩) T S hno (X.keeps k) (hlim.keeps k) hget hnx ?_ (hG.keeps k) hg (hB.keeps k) hb hH k ok rv hl fun h' tk' S' => ?_
 · show A.depth + 1 < recursionLimit
   exact hroom
 · have old : ∀ b o, hp.get? b = some o → h'.get? b = some o := fun b o e => S'.keep b o (Nat.ne_of_lt (Nat.lt_succ_of_lt (Heap.lt_size e))) (k b o e)
   refine ⟨rfl, hq h' tk' (hp.objs.size + 1) ⟨old, Nat.le_succ _, ?_⟩⟩
   obtain ⟨t1, dv, e1, e2⟩ := S'.at_
   refine ⟨t1, dv, e1, ?_⟩
   rcases e2 with ⟨e2, e3⟩ | ⟨dx, m, q1, q2, q3, q4, q5⟩
   · exact .inl ⟨e2, e3⟩
   · refine .inr ⟨dx, m, q1, ?_, q3, q4, q5⟩
     have z : hp.objs.size + 1 + 1 ≤ dx := by
      first
       | (simpa only [Heap.size_push] using q2)
       | exact q2
       | (have q := q2; rw [Heap.size_push, Heap.size_push] at q; exact q)
     exact Nat.le_trans (Nat.le_trans (Nat.le_succ _) (Nat.le_succ _)) z
end
end ExS
end PySem
namespace Pk
open PySem PySem.Spec PyProof.Rows L2
open PySem.ExS (Ds Mr sup Dt Gz)
structure ExC (P : Program) (K : PySem.W.Frag) (T : Tb) (c : Nat) (Ok : Hp → List V → Prop) : Prop where
 tx : ∃ (fI : Addr) (params : Arguments) (scope : Scope) (qual : Str) (ex : Expr) (p0 p1 p2 p3 p4 : Pos) (gs : List Gz),
  Ds P K (T.cad c) fI params (sup ex p0 p1 p2 p3 p4 :: Dt gs) scope qual ∧ Mr K params scope qual ex p0 p1 p2 p3 p4 gs Ok ∧ (∀ g ∈ gs, PySem.W.findIn K (.ref (T.cad c)) g.1 = some none) ∧ T.fld c = gs.map (·.1) ∧ (T.fld c).Nodup
 kC : PySem.W.keepIn K (.ref (T.cad c)) = true
 exC : PySem.W.subIn K (.ref (T.cad c)) (.type "BaseException") = some true
 tyC : PySem.W.typeIn K (.ref (T.cad c)) = some (.type "type")
section
variable {X : Cx} {T : Tb} {W : WX} {k c : Nat} {x : Str} {a : Expr} {es : List Expr} {ma : M (List D)} {p pos pos2 : Pos} {Ok : Hp → List V → Prop}
def ag5 (T : Tb) (c : Nat) (Ok : Hp → List V → Prop) (ta : TA) : L2.St → Hp → XK → Prop := fun σ H Q => ta σ H fun vs H1 => Ok H1 vs ∧ vs.length = (T.fld c).length ∧
 (T.fld c = [] → Q (.ref (T.cad c)) none H1) ∧ (∀ d, H1 d = none → Q (.ref (T.cad c)) (some d) (upd H1 d (.xd ((T.fld c).zip vs))))
end
end Pk
namespace PySem
namespace ExS
open PySem.W PySem.Calls PyProof.Rows PySem.HandSPX
end ExS
end PySem
namespace Pk
open PySem PySem.Spec PyProof.Rows L2
open PySem.ExS (Ds Mr sup Dt Gz)
section
variable {params : Arguments} {scope : Scope} {qual : Str}
end
section
variable {X : Cx} {T : Tb} {W : WX} {k c n : Nat} {x : Str} {a : Expr} {es : List Expr} {ma : M (List D)} {p pos pos2 : Pos} {Ok : Hp → List V → Prop} {chk : List D → Bool}
def aeI (c n : Nat) (chk : List D → Bool) (ma : M (List D)) : M Fl := ma.bind fun ds fr h => if ds.length = n ∧ chk ds = true then .exc ⟨c, ds⟩ fr h else .err
end
end Pk
namespace L
open PySem PySem.Spec L2 Pk
def cn : Nat → Str
 | 0 => "Tableau"
 | _ => "?"
def top (i : Nat) : Stmt := PySem.Challenge.pw_countrestarts_k52_solutions.main.body.getD i (.Pass ⟨0, 0, 0, 0⟩)
abbrev oA : Stmt := top 6
abbrev EY : List Str := ["_law_script", "_law_at", "_law_cell", "_law_large"]
abbrev xK : List Str := ["_law_script", "_law_at"]
theorem Ms : FnScope EY xK (defScope oA) := ⟨rfl, rfl, rfl, by decide +kernel, rfl, by decide +kernel, by decide +kernel⟩
def xM : PD := ⟨fun K => He.ga K "_law_source", "_law_source", "_law_source", defArgs oA, defBody oA, defScope oA, [], [], false⟩
abbrev qK : Stmt := top 7
abbrev Jk : List Str := ["_law_source_here", "_law_many", "_law_digit", "_law_mixed"]
abbrev Ab : List Str := ["_law_source_here", "_law_many"]
theorem Qe : FnScope Jk Ab (defScope qK) := ⟨rfl, rfl, rfl, by decide +kernel, rfl, by decide +kernel, by decide +kernel⟩
def Ac : PD := ⟨fun K => He.ga K "_law_draw", "_law_draw", "_law_draw", defArgs qK, defBody qK, defScope qK, [], [], false⟩
abbrev uf : Stmt := top 8
abbrev Ny : List Str := ["_law_source_here", "_law_some"]
abbrev GF : List Str := ["_law_source_here", "_law_some"]
theorem UT : FnScope Ny GF (defScope uf) := ⟨rfl, rfl, rfl, by decide +kernel, rfl, by decide +kernel, by decide +kernel⟩
def GJ : PD := ⟨fun K => He.ga K "_law_of", "_law_of", "_law_of", defArgs uf, defBody uf, defScope uf, [], [], false⟩
abbrev oE : Stmt := top 11
abbrev Fb : List Str := ["_law_source_here", "_law_many", "_law_found", "_law_turn"]
abbrev xO : List Str := ["_law_source_here", "_law_many"]
theorem Mu : FnScope Fb xO (defScope oE) := ⟨rfl, rfl, rfl, by decide +kernel, rfl, by decide +kernel, by decide +kernel⟩
def xP : PD := ⟨fun K => He.ga K "_law_strict", "_law_strict", "_law_strict", defArgs oE, defBody oE, defScope oE, [], [], false⟩
abbrev jf : Stmt := inClass (top 3) 0
abbrev vL : List Str := ["self", "rows", "limits", "gains", "row", "limit", "gain", "at"]
abbrev qO : List Str := ["self", "rows", "limits", "gains"]
theorem Du : FnScope vL qO (defScope jf) := ⟨rfl, rfl, rfl, by decide +kernel, rfl, by decide +kernel, by decide +kernel⟩
def qP : PD := ⟨fun K => He.ma K (He.ga K "Tableau") "__init__", "__init__", "Tableau.__init__", defArgs jf, defBody jf, defScope jf, [], [], false⟩
abbrev kE : Stmt := top 1
abbrev yQ : List Str := ["values", "found", "value"]
abbrev tV : List Str := ["values"]
theorem Jc : FnScope yQ tV (defScope kE) := ⟨rfl, rfl, rfl, by decide +kernel, rfl, by decide +kernel, by decide +kernel⟩
def tW : PD := ⟨fun K => He.ga K "common_divisor", "common_divisor", "common_divisor", defArgs kE, defBody kE, defScope kE, [], [], false⟩
abbrev qL : Stmt := top 2
abbrev Jl : List Str := ["values", "divisor", "value"]
abbrev Ad : List Str := ["values"]
theorem Qg : FnScope Jl Ad (defScope qL) := ⟨rfl, rfl, rfl, by decide +kernel, rfl, by decide +kernel, by decide +kernel⟩
def Ae : PD := ⟨fun K => He.ga K "shortened", "shortened", "shortened", defArgs qL, defBody qL, defScope qL, [], [], false⟩
abbrev jh : Stmt := inClass (top 3) 1
abbrev vM : List Str := ["self", "best", "place", "label"]
abbrev qQ : List Str := ["self"]
theorem Dy : FnScope vM qQ (defScope jh) := ⟨rfl, rfl, rfl, by decide +kernel, rfl, by decide +kernel, by decide +kernel⟩
def qR : PD := ⟨fun K => He.ma K (He.ga K "Tableau") "entering", "entering", "Tableau.entering", defArgs jh, defBody jh, defScope jh, [], [], false⟩
abbrev ji : Stmt := inClass (top 3) 3
abbrev vP : List Str := ["self", "at", "place", "row", "pivot", "other", "line", "entry", "changed", "x", "y"]
abbrev qT : List Str := ["self", "at", "place"]
theorem Dz : FnScope vP qT (defScope ji) := ⟨rfl, rfl, rfl, by decide +kernel, rfl, by decide +kernel, by decide +kernel⟩
def qU : PD := ⟨fun K => He.ma K (He.ga K "Tableau") "exchange", "exchange", "Tableau.exchange", defArgs ji, defBody ji, defScope ji, [], [], false⟩
abbrev jB : Stmt := inClass (top 3) 2
abbrev wX : List Str := ["self", "place", "best", "at", "label", "entry", "ahead"]
abbrev rH : List Str := ["self", "place"]
theorem Fp : FnScope wX rH (defScope jB) := ⟨rfl, rfl, rfl, by decide +kernel, rfl, by decide +kernel, by decide +kernel⟩
def rJ : PD := ⟨fun K => He.ma K (He.ga K "Tableau") "leaving", "leaving", "Tableau.leaving", defArgs jB, defBody jB, defScope jB, [], [], false⟩
abbrev lX : Stmt := inClass (top 3) 4
abbrev zP : List Str := ["self", "place"]
abbrev uP : List Str := ["self"]
theorem JD : FnScope zP uP (defScope lX) := ⟨rfl, rfl, rfl, by decide +kernel, rfl, by decide +kernel, by decide +kernel⟩
def uQ : PD := ⟨fun K => He.ma K (He.ga K "Tableau") "step", "step", "Tableau.step", defArgs lX, defBody lX, defScope lX, [], [], false⟩
abbrev jV : Stmt := inClass (top 3) 5
abbrev xT : List Str := ["self", "label"]
abbrev sJ : List Str := ["self", "label"]
theorem GP : FnScope xT sJ (defScope jV) := ⟨rfl, rfl, rfl, by decide +kernel, rfl, by decide +kernel, by decide +kernel⟩
def sO : PD := ⟨fun K => He.ma K (He.ga K "Tableau") "amount", "amount", "Tableau.amount", defArgs jV, defBody jV, defScope jV, [], [], false⟩
abbrev kJ : Stmt := inClass (top 3) 6
abbrev yR : List Str := ["self", "label"]
abbrev tX : List Str := ["self", "label"]
theorem Jd : FnScope yR tX (defScope kJ) := ⟨rfl, rfl, rfl, by decide +kernel, rfl, by decide +kernel, by decide +kernel⟩
def tY : PD := ⟨fun K => He.ma K (He.ga K "Tableau") "price", "price", "Tableau.price", defArgs kJ, defBody kJ, defScope kJ, [], [], false⟩
abbrev yz : Stmt := top 4
abbrev Td : List Str := ["columns", "strict", "places", "at", "column", "unlike", "rows", "is_strict", "tableau", "first", "amounts"]
abbrev Mv : List Str := ["columns", "strict"]
theorem X7 : FnScope Td Mv (defScope yz) := ⟨rfl, rfl, rfl, by decide +kernel, rfl, by decide +kernel, by decide +kernel⟩
def Mw : PD := ⟨fun K => He.ga K "solve", "solve", "solve", defArgs yz, defBody yz, defScope yz, [], [], false⟩
abbrev lY : Stmt := top 12
abbrev zQ : List Str := ["_law_source_here", "_law_most"]
abbrev uR : List Str := ["_law_source_here", "_law_most"]
theorem JF : FnScope zQ uR (defScope lY) := ⟨rfl, rfl, rfl, by decide +kernel, rfl, by decide +kernel, by decide +kernel⟩
def uU : PD := ⟨fun K => He.ga K "_law_entry_of", "_law_entry_of", "_law_entry_of", defArgs lY, defBody lY, defScope lY, [], [], false⟩
abbrev jW : Stmt := top 9
abbrev xU : List Str := ["_law_value"]
abbrev sS : List Str := ["_law_value"]
theorem GZ : FnScope xU sS (defScope jW) := ⟨rfl, rfl, rfl, by decide +kernel, rfl, by decide +kernel, by decide +kernel⟩
def sU : PD := ⟨fun K => He.ga K "_law_is_integer", "_law_is_integer", "_law_is_integer", defArgs jW, defBody jW, defScope jW, [], [], false⟩
abbrev jC : Stmt := top 10
abbrev wY : List Str := ["_law_found", "_law_columns", "_law_strict_here", "_law_kind", "_law_numbers", "_law_used", "_law_place", "_law_is_strict", "_law_total", "_law_k", "_law_one"]
abbrev rK : List Str := ["_law_found", "_law_columns", "_law_strict_here"]
theorem Ft : FnScope wY rK (defScope jC) := ⟨rfl, rfl, rfl, by decide +kernel, rfl, by decide +kernel, by decide +kernel⟩
def rO : PD := ⟨fun K => He.ga K "_law_is_solution", "_law_is_solution", "_law_is_solution", defArgs jC, defBody jC, defScope jC, [], [], false⟩
abbrev Il : Stmt := top 13
abbrev ZK : List Str := ["_law_script", "_law_at", "_law_source_here", "_law_many", "_law_most", "_law_zeros", "_law_columns", "_law_turn", "_law_column", "_law_place", "_law_value", "_law_by", "_law_strict_here", "_law_handed", "_law_found"]
abbrev ac7 : List Str := ["_law_script"]
theorem abP : FnScope ZK ac7 (defScope Il) := ⟨rfl, rfl, rfl, by decide +kernel, rfl, by decide +kernel, by decide +kernel⟩
def ZL : PD := ⟨fun K => He.ga K "law", "law", "law", defArgs Il, defBody Il, defScope Il, [], [], false⟩
def fa : List Fx := [.he (.free "len"),
 .he (.free "abs"),
 .he (.free "int"),
 .he (.glo "_law_draw"),
 .he (.free "range"),
 .he (.free "tuple"),
 .he (.free "zip"),
 .he (.free "list"),
 .he (.free "max"),
 .he (.glo "common_divisor"),
 .he (.free "enumerate"),
 .he (.glo "Tableau"),
 .he (.glo "shortened"),
 .he (.free "isinstance"),
 .he (.free "bool"),
 .he (.glo "_law_is_integer"),
 .he (.free "sum"),
 .he (.free "min"),
 .he (.glo "_law_source"),
 .he (.glo "_law_of"),
 .he (.glo "_law_entry_of"),
 .he (.glo "_law_strict"),
 .he (.glo "solve"),
 .he (.glo "_law_is_solution"),
 .he (.cls "Tableau"),
 .he (.noat "Tableau" "grid"),
 .he (.noat "Tableau" "outside"),
 .he (.noat "Tableau" "basis"),
 .he (.noat "Tableau" "scale"),
 .he (.meth "Tableau" "entering"),
 .he (.meth "Tableau" "exchange"),
 .he (.meth "Tableau" "leaving"),
 .he (.meth "Tableau" "step"),
 .he (.meth "Tableau" "price"),
 .he (.meth "Tableau" "amount"),
 .he (.mkr "Tableau"),
 .he (.glo "law")]
def fn : List PD := [xM, Ac, GJ, xP, qP, tW, Ae, qR, qU, rJ, uQ, sO, tY, Mw, uU, sU, rO, ZL]
abbrev bT (K : PySem.W.Frag) : Prop := Ij cn fa fn K
section
open PySem PySem.Spec PyProof.Rows L2
abbrev Rw : PySem.W.OpenRow := PySem.W.OpenLaw.row PySem.Challenge.rw_countrestarts_k52_solutions
abbrev hk : PySem.W.Hook := Pk.hookP 7 cn fa fn
def ob (s : PySem.W.SharedT) : Pk.AlP := Pk.obsPG 7 cn fa fn (HandSHeadRun.getT s)
theorem ob_eq (s : PySem.W.SharedT) : ob s = hk.obs s.abs := Pk.obsPG_eq (HandSHeadRun.getT_eq s)
def names : List PySem.Str := "common_divisor" :: "shortened" :: "Tableau" :: "solve" :: "_law_source" :: "_law_draw" :: "_law_of" :: "_law_is_integer" :: "_law_is_solution" :: "_law_strict" :: "_law_entry_of" :: []
theorem adZ {α β γ δ : Type} {o : Option α} {f : α → β} {g : α → γ} {k : α → δ} {a : β} {b : γ} {c : δ} (h1 : o.map f = some a) (h2 : o.map g = some b) (h3 : o.map k = some c) : o.map (fun s => (f s, g s, k s)) = some (a, b, c) := by
 cases o with
 | none => cases h1
 | some s =>
   cases h1
   cases h2
   cases h3
   rfl
abbrev vw : Program := PySem.W.view Rw.prog [13]
noncomputable abbrev ends (w : World) (os : PySem.OsState) : Option PySem.W.SharedT := HandSHeadRun.endF (HandSHeadRun.stepQ (HandSHeadRun.denQ HandSHeadRun.tabQ) Rw.prog w) 20000 Rw.prog w os
open PySem.W PySem.Calls HandSHeadRun in
set_option maxHeartbeats 0 in
theorem ac8 (w : World) (os : PySem.OsState) : (ends w os).map (fun s => looksF Rw.prog (boot_heap w.params) s.abs) = some true := by
 kernel_rfl
open PySem.W PySem.Calls HandSHeadRun in
set_option maxHeartbeats 0 in
theorem ac9 (w : World) (os : PySem.OsState) : (ends w os).map (fun s => seenQ vw names (importedModules Rw.prog.main.body) (fun s => xlAt vw [] s && recOk Rw.toRowW.records s) s.abs) = some (openGood vw names) := by
 kernel_rfl
abbrev fr0 (s : PySem.W.SharedT) : PySem.W.Frag := He.frG (HandSHeadRun.getT s) (Pk.asP (HandSHeadRun.getT s) 7)
abbrev nh : Nat := fn.length / 2
set_option maxHeartbeats 0 in
theorem abQ (w : World) (os : PySem.OsState) : (ends w os).map (fun s => fa.all fun f => f.ok cn (fr0 s)) = some true := by
 kernel_rfl
set_option maxHeartbeats 0 in
theorem abR (w : World) (os : PySem.OsState) : (ends w os).map (fun s => (fn.take nh).all fun d => d.ok (fr0 s)) = some true := by
 kernel_rfl
set_option maxHeartbeats 0 in
theorem abS (w : World) (os : PySem.OsState) : (ends w os).map (fun s => (fn.drop nh).all fun d => d.ok (fr0 s)) = some true := by
 kernel_rfl
theorem all2 {α : Type} {l : List α} {p : α → Bool} {m : Nat} (h1 : (l.take m).all p = true) (h2 : (l.drop m).all p = true) : l.all p = true := by
 rw [← List.take_append_drop m l, List.all_append, h1, h2]
 rfl
theorem ad0 {α : Type} {o : Option α} {f g k b : α → Bool} (h1 : o.map f = some true) (h2 : o.map g = some true) (h3 : o.map k = some true) (h : ∀ s, f s = true → g s = true → k s = true → b s = true) : o.map b = some true := by
 cases o with
 | none => cases h1
 | some s => exact congrArg some (h s (Option.some.inj h1) (Option.some.inj h2) (Option.some.inj h3))
theorem ada (w : World) (os : PySem.OsState) : (ends w os).map (fun s => (ob s).1) = some true :=
 ad0 (abQ w os) (abR w os) (abS w os) fun s h1 h2 h3 => (show ((fa.all fun f => f.ok cn (fr0 s)) && fn.all fun d => d.ok (fr0 s)) = true by rw [h1, all2 h2 h3]; rfl)
abbrev nq : Nat := fn.length / 3
set_option maxHeartbeats 0 in
theorem abT (w : World) (os : PySem.OsState) : (ends w os).map (fun s => (ob s).2.take nq) = some ((fn.map Pk.PD.val).take nq) := by
 kernel_rfl
set_option maxHeartbeats 0 in
theorem abU (w : World) (os : PySem.OsState) : (ends w os).map (fun s => ((ob s).2.drop nq).take nq) = some (((fn.map Pk.PD.val).drop nq).take nq) := by
 kernel_rfl
set_option maxHeartbeats 0 in
theorem abV (w : World) (os : PySem.OsState) : (ends w os).map (fun s => ((ob s).2.drop nq).drop nq) = some (((fn.map Pk.PD.val).drop nq).drop nq) := by
 kernel_rfl
theorem abW {α : Type} {l x : List α} {m : Nat} (h1 : l.take m = x.take m) (h2 : l.drop m = x.drop m) : l = x := by
 rw [← List.take_append_drop m l, h1, h2, List.take_append_drop]
theorem ad1 {α β : Type} {o : Option α} {f : α → List β} {x : List β} {m : Nat} (h1 : o.map (fun s => (f s).take m) = some (x.take m)) (h2 : o.map (fun s => ((f s).drop m).take m) = some ((x.drop m).take m)) (h3 : o.map (fun s => ((f s).drop m).drop m) = some ((x.drop m).drop m)) : o.map f = some x := by
 cases o with
 | none => cases h1
 | some s => exact congrArg some (abW (Option.some.inj h1) (abW (Option.some.inj h2) (Option.some.inj h3)))
theorem adb (w : World) (os : PySem.OsState) : (ends w os).map (fun s => (ob s).2) = some (fn.map Pk.PD.val) := ad1 (abT w os) (abU w os) (abV w os)
theorem ad2 {α β γ : Type} {o : Option α} {f : α → β × γ} {a : β} {b : γ} (h1 : o.map (fun s => (f s).1) = some a) (h2 : o.map (fun s => (f s).2) = some b) : o.map f = some (a, b) := by
 cases o with
 | none => cases h1
 | some s =>
   have e1 := Option.some.inj h1
   have e2 := Option.some.inj h2
   exact congrArg some (Prod.ext e1 e2)
theorem run (w : World) : HandSHeadRun.RunEq Rw vw hk ob 20000 names w := fun os => adZ (ac8 w os) (ac9 w os) (ad2 (ada w os) (adb w os))
end
end L
namespace Pk
open PySem PySem.Spec L2
def Qh {α β : Type} (P : Wd → L2.St → Prop) (run : L2.St → Hp → (β → Hp → Prop) → Prop) (K : PySem.W.Frag) (T : Tb) (W : WX) (VR : jw β α) (m : M α) : Prop :=
 ∀ (B : Bs) (w : Wd) (σ : L2.St) (H : Hp) (fr : Fr) (h : Hh) (Q : β → Hp → Prop), P w σ → Rel K T B w σ H fr h → aW K T B W (VR K T B σ) w σ (m fr h) Q → run σ H Q
def ag6 (P : Wd → L2.St → Prop) : Prop := ∀ w w' σ, w.le w' → P w σ → P w' σ
abbrev SqE (P : Wd → L2.St → Prop) (X : Cx) (T : Tb) (W : WX) (e : Expr) (m : M D) : Prop := Qh P (WE X e) X.K T W vE m
abbrev SqV (P : Wd → L2.St → Prop) (X : Cx) (T : Tb) (W : WX) (e : Expr) (m : M D) : Prop := Qh P (WE X e) X.K T W vV m
abbrev ag7 (P : Wd → L2.St → Prop) (X : Cx) (T : Tb) (W : WX) (e : Expr) (m : M Bool) : Prop := Qh P (WT X e) X.K T W vB m
abbrev SqW (P : Wd → L2.St → Prop) (X : Cx) (T : Tb) (W : WX) (e : Expr) (m : M Bool) : Prop := Qh P (WW X e) X.K T W vB m
abbrev SqA (P : Wd → L2.St → Prop) (X : Cx) (T : Tb) (W : WX) (es : List Expr) (m : M (List D)) : Prop := Qh P (WA X es) X.K T W vA m
section
variable {P : Wd → L2.St → Prop} {X : Cx} {T : Tb} {W : WX} {a b c e : Expr} {es rest : List Expr} {m ma mb : M D} {n ta tb tc : M Bool} {ms : List (M D)} {pos : Pos}
end
def wF (P : Wd → L2.St → Prop) (K : PySem.W.Frag) (T : Tb) (B : Bs) (W : WX) (w : Wd) (r : R Fl) (D : Ends) : Prop :=
 match r with
 | .ok .nx fr h => ∀ w' σ' H', w.le w' → P w' σ' → Rel K T B w' σ' H' fr h → D.nx σ' H'
 | r => cP K T B W w r D
def SqS (P : Wd → L2.St → Prop) (X : Cx) (T : Tb) (W : WX) (st : Stmt) (m : M Fl) : Prop := ∀ (B : Bs) (w : Wd) (σ : L2.St) (H : Hp) (fr : Fr) (h : Hh) (D : Ends), P w σ → Rel X.K T B w σ H fr h → wF P X.K T B W w (m fr h) D → WS X st D σ H
def UV (P : Wd → L2.St → Prop) (X : Cx) (T : Tb) (W : WX) (sts : List Stmt) (m : M Fl) : Prop := ∀ (B : Bs) (w : Wd) (σ : L2.St) (H : Hp) (fr : Fr) (h : Hh) (D : Ends), P w σ → Rel X.K T B w σ H fr h → wF P X.K T B W w (m fr h) D → VP X sts D σ H
section
variable {P : Wd → L2.St → Prop} {K : PySem.W.Frag} {T : Tb} {B : Bs} {W : WX} {w w' : Wd} {σ : L2.St} {H : Hp}
theorem wF.of {r : R Fl} {D : Ends} (p : cP K T B W w r D) : wF P K T B W w r D := by
 cases r with
 | ok f fr h =>
   cases f with
   | nx => exact fun w' σ' H' l _ r => p w' σ' H' l r
   | _ => exact p
 | exc e fr h => exact p
 | err => exact p
theorem wF.le {r : R Fl} {D : Ends} (x : w.le w') (p : wF P K T B W w r D) : wF P K T B W w' r D := by
 cases r with
 | ok f fr h =>
   cases f with
   | nx => exact fun w2 σ2 H2 y => p w2 σ2 H2 (Wd.le_trans x y)
   | brk => exact cP.le x (show cP K T B W w (.ok .brk fr h) D from p)
   | ct => exact cP.le x (show cP K T B W w (.ok .ct fr h) D from p)
   | rt d => exact cP.le x (show cP K T B W w (.ok (.rt d) fr h) D from p)
 | exc e fr h => exact cP.le (D := D) (r := .exc e fr h) x p
 | err => exact p
theorem wF.bind {α β : Type} {VR : Wd → Hp → Fr → β → α → Prop} {m : M α} {f : α → M Fl} {fr : Fr} {h : Hh} {D : Ends} {Q : β → Hp → Prop} (p : wF P K T B W w (m.bind f fr h) D)
 (k : ∀ d fr1 h1 w1 H1 v, m fr h = .ok d fr1 h1 → w.le w1 → Rel K T B w1 σ H1 fr1 h1 → VR w1 H1 fr1 v d → wF P K T B W w1 (f d fr1 h1) D → Q v H1) : aW K T B W VR w σ (m fr h) Q := by
 cases e : m fr h with
 | ok d fr1 h1 =>
   rw [M.bind_ok e] at p
   exact fun w1 H1 v x r z => k d fr1 h1 w1 H1 v e x r z (p.le x)
 | exc y fr1 h1 =>
   rw [M.bind_exc e] at p
   exact fun w1 H1 c dd x r z => p w1 σ H1 c dd x r z
 | err =>
   rw [M.bind_err e] at p
   exact p.elim
end
section
variable {P : Wd → L2.St → Prop} {X : Cx} {T : Tb} {W : WX} {k : Nat} {pos pos' p2 : Pos} {e a b c : Expr} {st : Stmt} {sts as bs : List Stmt} {m : M D} {s n : M Fl} {t : M Bool}
end
def PX (K : PySem.W.Frag) (T : Tb) (i : Nat) (a : Addr) (x : aN) (cls : Value) (dd : Option Addr) : Wd → L2.St → Prop := fun w σ => σ[i]? = some (some (.ref a)) ∧ LK K T w x cls dd
theorem LK.mono {K : PySem.W.Frag} {T : Tb} {w w' : Wd} {x : aN} {cls : Value} {dd : Option Addr} (l : w.le w') (h : LK K T w x cls dd) : LK K T w' x cls dd :=
 ⟨h.1, h.2.imp id fun ⟨d, vs, e1, e2, e3⟩ => ⟨d, vs, e1, l.1 _ _ e2, e3.mono l⟩⟩
section
variable {K : PySem.W.Frag} {T : Tb} {i j : Nat} {a : Addr} {x : aN} {cls : Value} {dd : Option Addr}
theorem abX (h : j ≠ i := by decide) : ∀ w σ v, PX K T i a x cls dd w σ → PX K T i a x cls dd w (σ.set j v) := fun w σ v h' => ⟨by rw [aiV h]; exact h'.1, h'.2⟩
end
structure Su (X : Cx) (T : Tb) (i : Nat) (a : Addr) (oe : Obj) (cls : Value) (dd : Option Addr) (pn : List (Addr × Obj)) (y : aN) : Prop where
 hz : Zc cls dd oe
 hf : ∃ vs, oe.data = .fields vs
theorem Su.st {X : Cx} {T : Tb} {i j : Nat} {a : Addr} {oe : Obj} {cls : Value} {dd : Option Addr} {pn : List (Addr × Obj)} {y : aN} (_ : Su X T i a oe cls dd pn y) (h : j ≠ i := by decide) : ∀ w σ v, PX X.K T i a y cls dd w σ → PX X.K T i a y cls dd w (σ.set j v) := abX h
structure ag8 (K : PySem.W.Frag) (T : Tb) (tab : Tg → Tg → Option Bool) : Prop where
 kit : ∀ t u b, tab t u = some b → PySem.W.kitOne K (t.v T) (u.v T) = some b
 exc : ∀ c u b, tab (.o c) u = some b → L2.ExcC K (T.cad c)
def ad3 (tab : Tg → Tg → Option Bool) (c : Nat) (d : D) : Option Bool := match d with
 | .tup l => match zL l with
   | some (u :: us) => yP tab (.o c) (u :: us)
   | _ => none
 | d => match d.ctag with
   | some u => tab (.o c) u
   | none => none
def ag9 (tab : Tg → Tg → Option Bool) (c : Nat) (mb : M D) : M D := mb.bind fun d => M.opt ((ad3 tab c d).map .bl)
def DkX (H : Hp) (dd : Option Addr) : Prop := dd = none ∨ ∃ d0 fs, dd = some d0 ∧ H d0 = some (.xd fs)
def aha (K : PySem.W.Frag) (C a : Addr) (dd : Option Addr) : List V → Hp → VK → Prop := fun xs H Q => ∃ (y : V) (b : Bool), xs = [.ref a, y] ∧ L2.ExcC K C ∧ DkX H dd ∧
 ((∃ cv, ClsV y cv ∧ PySem.W.kitOne K (.ref C) cv = some b) ∨ ∃ tp cs us, y = .ref tp ∧ L2.SqT K H tp cs ∧ Paired ClsV cs us ∧ PySem.W.kitAny K (.ref C) us = some b) ∧ Q (.bl b) H
section
variable {X : Cx} {T : Tb} {W : WX} {k i : Nat} {a : Addr} {oe : Obj} {cls : Value} {dd : Option Addr} {x : aN} {pn : List (Addr × Obj)} {tab : Tg → Tg → Option Bool} {b : Expr} {mb : M D} {n : Str} {np pf pos : Pos}
def mXf (j : Nat) (x : aN) : M D := fun fr h => match x.fs[j]? with
 | some d => .ok d fr h
 | none => .err
structure XfF (K : PySem.W.Frag) (T : Tb) (f : Str) (ix : Nat → Option Nat) : Prop where
 at_ : ∀ c j, ix c = some j → (T.fld c)[j]? = some f ∧ (T.fld c).Nodup ∧ XfC K (T.cad c) ∧ PySem.W.findIn K (.ref (T.cad c)) f = some none
def mXF (ix : Nat → Option Nat) (x : aN) : M D := match ix x.c with
 | some j => mXf j x
 | none => fun _ _ => .err
end
def abY (i : Nat) (r : R Fl) : R Fl := match r with
 | .ok .nx fr h => .ok .nx (fr.set i none) h
 | .ok .brk fr h => .ok .brk (fr.set i none) h
 | .ok .ct fr h => .ok .ct (fr.set i none) h
 | r => r
def afQ (i : Nat) (cond : Nat → Option Bool) (mb : M Fl) (ms : aN → M Fl) : M Fl := fun fr h => match mb fr h with
 | .exc x fr1 h1 => match cond x.c with
   | some true => if i < fr1.length then abY i (ms x (fr1.set i none) h1) else .err
   | some false => .exc x fr1 h1
   | none => .err
 | r => r
def afR (cond : Nat → Option Bool) (mb : M Fl) (ms : aN → M Fl) : M Fl := fun fr h => match mb fr h with
 | .exc x fr1 h1 => match cond x.c with
   | some true => ms x fr1 h1
   | some false => .exc x fr1 h1
   | none => .err
 | r => r
section
variable {X : Cx} {T : Tb} {W : WX} {k : Nat} {x n : Str} {c : Value} {cond : Nat → Option Bool} {body suite : List Stmt} {b₀ : Stmt} {np pos pos' : Pos} {mb : M Fl} {ms : aN → M Fl}
end
end Pk
namespace PySem
namespace OwO
open PySem.W PySem.Calls PyProof.Rows
section
variable {prog : Program} {w : World} {A : Around} {E : Value → Shared → Prop} {s : Shared} {K : Frag} {x C L f : Addr} {h₀ : Heap} {m : Str → Option Value} {ox : Obj} {od : Option Obj} {t : String} {b : Value} {op : Operator} {Q : Value → Shared → Prop}
def ahb (Q : Option Value → Shared → Prop) (v : Value) (s : Shared) : Prop := v ≠ .notImplemented ∧ Q (some v) s
end
section
variable {prog : Program} {w : World} {A : Around} {E : Value → Shared → Prop} {s : Shared} {x C dx : Addr}
end
end OwO
end PySem
namespace Pk
open PySem PySem.Spec L2
structure ahc (X : Cx) (T : Tb) (k : Nat) (mt : Nat → Option Fn) : Prop where
 ex : ∀ c F, mt c = some F → ∃ (kk : Nat) (f : Addr) (fd : FuncData) (ps : List Str), Cls X.K (T.cad c) ∧ Meth X.K (T.cad c) (PySem.dunder "mul") f ∧ PySem.W.selfFirst X.K (T.cad c) = true ∧ nu X.prog X.w X.K X.mg X.base T kk f fd ps F ∧ Bn X.K T fd ps 2 [] (bh []) ∧ kk ≤ k ∧
  ∃ g, PySem.W.findIn X.K (.ref (T.cad c)) (PySem.dunderR "mul") = some (some (.ref g))
structure afS (X : Cx) (T : Tb) (k : Nat) (mt : Nat → Option Fn) : Prop where
 ex : ∀ c F, mt c = some F → ∃ (kk : Nat) (f : Addr) (fd : FuncData) (ps : List Str), Cls X.K (T.cad c) ∧ Meth X.K (T.cad c) (PySem.dunderR "mul") f ∧ PySem.W.selfFirst X.K (T.cad c) = true ∧ nu X.prog X.w X.K X.mg X.base T kk f fd ps F ∧ Bn X.K T fd ps 2 [] (bh []) ∧ kk ≤ k ∧
  (∃ g, PySem.W.findIn X.K (.ref (T.cad c)) (PySem.dunder "mul") = some (some (.ref g))) ∧ PySem.W.subIn X.K (.ref (T.cad c)) (.type "int") = some false ∧ PySem.W.subIn X.K (.ref (T.cad c)) (.type "bool") = some false
def D.bty (h : Hh) (d : D) : Option String := match d.tag h with
 | some (.b t) => some t
 | _ => none
def afT (mt : Nat → Option Fn) (ma mb : M D) : M D := ma.bind fun x => mb.bind fun y fr h => match fnOf mt h x, y.bty h with
 | some F, some _ => oK fr (F [x, y] h)
 | _, _ => .err
def D.smp : D → Bool
 | .non => true
 | .bl _ => true
 | .int _ => true
 | _ => false
def afU (mt : Nat → Option Fn) (ma mb : M D) : M D := ma.bind fun x => mb.bind fun y fr h => match fnOf mt h y, x.smp with
 | some F, true => oK fr (F [y, x] h)
 | _, _ => .err
section
variable {X : Cx} {T : Tb} {W : WX} {k : Nat} {a b : Expr} {ma mb : M D} {pos : Pos}
end
end Pk
namespace Pk
open PySem PySem.Spec L2
def ad4 (l : List ((Tg × Tg) × Bool)) : Tg → Tg → Option Bool := fun t u => aiU (t, u) l
inductive UW (K : PySem.W.Frag) (T : Tb) : List ((Tg × Tg) × Bool) → Prop where
 | nil : UW K T []
 | cons {c : Nat} {u : Tg} {b : Bool} {l : List ((Tg × Tg) × Bool)} (q : PySem.W.kitOne K (.ref (T.cad c)) (u.v T) = some b) (i : L2.ExcC K (T.cad c)) (r : UW K T l) : UW K T (((.o c, u), b) :: l)
end Pk
namespace Pk
open PySem PySem.Spec L2
def JG (mt : Nat → Option Fn) (o : D) (as : List D) : M D := fun fr h => match fnOf mt h o with
 | some F => match F (o :: as) h with
   | .ok d _ h => .ok d fr h
   | _ => .err
 | none => .err
def ZM (mt : Nat → Option Fn) (o : D) (as : List D) : M D := fun fr h => match fnOf mt h o with
 | some F => oK fr (F (o :: as) h)
 | none => .err
section
variable {X : Cx} {T : Tb} {W : WX} {k kk j n : Nat} {f C : Addr} {fd : FuncData} {ps ks : List Str} {F : Fn} {m : Str} {pos pf : Pos} {a b : Expr} {ma mb : M D}
structure OwnRun (X : Cx) (T : Tb) (k n : Nat) (m : Str) (v : V) (H : Hp) (vs : List V) (Q : VK) (E : XK) : Prop where
 ex : ∃ (kk : Nat) (f : Addr) (fd : FuncData) (ps : List Str) (a C dx : Addr) (fs : List (Str × V)) (G : Fn), v = .ref a ∧ H a = some (.ins C dx fs) ∧ Cls X.K C ∧ Meth X.K C m f ∧ nu X.prog X.w X.K X.mg X.base T kk f fd ps G ∧ kk ≤ k ∧
  ∃ g gV, KBn X.K fd ps (n + 1) [] g gV ∧ spF X.K T ps.length G (gV (.ref a :: vs) []) H Q E
def abZ (d : D) : M D := fun fr h => match d with
 | .int i => if 0 ≤ i ∧ i < 2 ^ 60 then .ok (.int i) fr h else .err
 | _ => .err
def afV (mt : Nat → Option Fn) (ma : M D) : M D := ma.bind fun o => (JG mt o []).bind abZ
def afW (mt : Nat → Option Fn) (ma mb : M D) : M D := ma.bind fun o => mb.bind fun i => ZM mt o [i]
def ahd (X : Cx) (T : Tb) (W : WX) (VR2 : jw V D) (op : CmpOp) (g : D → D → M Bool) : Prop :=
 ∀ B w σ H fr h x y d e Q, Rel X.K T B w σ H fr h → bA X.K T w x d → VR2 X.K T B σ w H fr y e → aW X.K T B W (vB X.K T B σ) w σ (g d e fr h) Q → rM X (compareOp op) x y H (fun z H' => ∃ c, z = .bl c ∧ Q c H')
def ahe {α : Type} (g : D → D → M α) (ma mb : M D) : M α := ma.bind fun x => mb.bind fun y => g x y
def ZP (d : D) : M Bool := M.opt d.tb
def gIn (mt : Nat → Option Fn) (c : Bool → Bool) (x o : D) : M Bool := (JG mt o [x]).bind fun d => (ZP d).bind fun b => M.ret (c b)
end
end Pk
namespace PySem
namespace OwE
open PySem.W PySem.Calls PyProof.Rows
section
variable {prog : Program} {w : World} {M : Model} {A : Around} {E : Value → Shared → Prop} {s : Shared} {K : Frag} {x C f : Addr} {ox : Obj} {od : Option Obj} {b tb : Value}
end
end OwE
end PySem
namespace Pk
open PySem PySem.Spec L2
def eqX (K : PySem.W.Frag) (C : Addr) : Bool := He.eqO (PySem.W.findIn K (.ref C) "__ne__") (some (some (.builtin "object.__ne__"))) && (decide (PySem.W.mroIn K C (.type "object") = some true) && (Dq.all (fun t => PySem.W.notFirst K C (.type t)) && Dq.all fun t => decide (PySem.W.subIn K (.ref C) (.type t) = some false)))
structure EqX (K : PySem.W.Frag) (C : Addr) : Prop where
 ne : PySem.W.findIn K (.ref C) "__ne__" = some (some (.builtin "object.__ne__"))
 ob : PySem.W.mroIn K C (.type "object") = some true
 nf : ∀ t ∈ Dq, PySem.W.notFirst K C (.type t) = true
 nb : ∀ t ∈ Dq, PySem.W.subIn K (.ref C) (.type t) = some false
structure EqF (K : PySem.W.Frag) (T : Tb) (mt : Nat → Option Fn) : Prop where
 ex : ∀ c F, mt c = some F → EqX K (T.cad c)
def gEq (mt : Nat → Option Fn) (c : Bool → Bool) (x y : D) : M Bool := fun fr h => if (y.bty h).isSome || (UJ h x y).isSome then ((JG mt x [y]).bind fun d => (ZP d).bind fun b => M.ret (c b)) fr h else .err
section
variable {X : Cx} {T : Tb} {W : WX} {k j : Nat}
end
end Pk
namespace Pk
open PySem PySem.Spec L2
def Qi (K : PySem.W.Frag) (C : Addr) : Bool := PySem.W.readsIn K C (.type "type") && He.eqO (PySem.W.specialIn K (.ref C) "__getattribute__") (some (some (.builtin "type.__getattribute__")))
def ccA (K : PySem.W.Frag) (C : Addr) (f : Str) : Addr := match PySem.W.findCls K (.ref C) (.type "type") f with
 | some (.val (.ref a)) => a
 | _ => 0
def afX (K : PySem.W.Frag) (C : Addr) (f : Str) (vs : List He.Dv) : Bool := Qi K C && ((match PySem.W.findCls K (.ref C) (.type "type") f with
 | some (.val (.ref a)) => decide (a = ccA K C f)
 | _ => false) && abH K (ccA K C f) vs)
structure afY (X : Cx) (T : Tb) (c : Nat) (f : Str) (d : D) : Prop where
 ex : ∃ (u : Value) (v : V), ClX.CRead X.K (T.cad c) (.type "type") ∧ ClX.CVal X.K (T.cad c) (.type "type") f v u ∧ bA X.K T ⟨fun _ => none, []⟩ v d
section
variable {X : Cx} {T : Tb} {W : WX} {k c : Nat} {x f : Str} {p pos : Pos} {d : D}
end
end Pk
namespace PySem
namespace OwB
open PySem.W PySem.Calls PyProof.Rows
section
variable {prog : Program} {w : World} {A : Around} {E : Value → Shared → Prop} {s : Shared} {K : Frag} {x C f : Addr} {ox : Obj} {od : Option Obj}
def aer (Q : Bool → Shared → Prop) (v : Value) (s' : Shared) : Prop := match v with
 | .int n _ => (0 ≤ n ∧ n < 2 ^ 63) ∧ Q (n != 0) { s' with toks := s'.toks + 1 }
 | _ => False
end
end OwB
end PySem
namespace Pk
open PySem PySem.Spec L2
section
variable {X : Cx} {T : Tb} {W : WX} {k kk j n c : Nat} {pos pf px apos cpos p : Pos} {a b e : Expr} {es : List Expr} {ma mb m : M D} {m1 : M (List D)} {x f : Str}
structure NoB (K : PySem.W.Frag) (T : Tb) (mt : Nat → Option Fn) : Prop where
 ex : ∀ c F, mt c = some F → PySem.W.findIn K (.ref (T.cad c)) "__bool__" = some none
def ahf (K : PySem.W.Frag) (C : Addr) : Bool := He.eqO (PySem.W.findIn K (.ref C) "__bool__") (some none)
def aeN (mt : Nat → Option Fn) (ma : M D) : M D := ma.bind fun o => (JG mt o []).bind fun d => (abZ d).bind fun d => M.opt (match d with
 | .int i => some (.bl (i != 0))
 | _ => none)
theorem au.eraseIdx {K : PySem.W.Frag} {w : Wd} : ∀ {vs : List V} {ds : List D} (n : Nat), au K T w vs ds → au K T w (vs.eraseIdx n) (ds.eraseIdx n)
 | _, _, _, .nil => .nil
 | _, _, 0, .cons _ t => t
 | _, _, n + 1, .cons h t => .cons h (au.eraseIdx n t)
def aan (i : Nat) (d : D) : M D := fun fr h => match fr[i]?, d with
 | some (some (.nl l)), .int j => if -(2 ^ 63) ≤ j ∧ j < 2 ^ 63 then (match seqIndex? j l.length with
   | some q => (match l[q]? with
     | some y => .ok y (fr.set i (some (.nl (l.eraseIdx q)))) h
     | none => .err)
   | none => .err) else .err
 | _, _ => .err
def afZ (i : Nat) (m : M D) : M D := (bZ i oJ).bind fun _ => m.bind fun d => aan i d
structure CmF (X : Cx) (T : Tb) (k c : Nat) (m : Str) (n : Nat) (F : Fn) : Prop where
 ex : ∃ (kk : Nat) (p f : Addr) (fd : FuncData) (ps : List Str), ClX.CRead X.K (T.cad c) (.type "type") ∧ ClX.CMet X.K (T.cad c) (.type "type") m p f ∧ nu X.prog X.w X.K X.mg X.base T kk f fd ps F ∧ Bn X.K T fd ps (n + 1) [] (bh []) ∧ kk ≤ k
def cmA (K : PySem.W.Frag) (C : Addr) (m : Str) : Addr := match PySem.W.findCls K (.ref C) (.type "type") m with
 | some (.get _ (.ref p) _ _) => (match PySem.W.recIn K p "classmethod" with
   | some (.ref g :: _) => g
   | _ => 0)
 | _ => 0
def cmX (K : PySem.W.Frag) (C : Addr) (m : Str) : Bool := Qi K C && (match PySem.W.findCls K (.ref C) (.type "type") m with
 | some (.get (.builtin i) (.ref p) .none (.ref C')) => decide (i = "classmethod.__get__") && (decide (C' = C) && ((match PySem.W.recIn K p "classmethod" with
   | some (.ref g :: _) => decide (g = cmA K C m)
   | _ => false) && PySem.W.fnIn K (cmA K C m)))
 | _ => false)
def mCm (n c : Nat) (F : Fn) (ma : M (List D)) : M D := ma.bind fun ds fr h => if ds.length = n then oK fr (F (.cls c :: ds) h) else .err
end
end Pk
namespace Pk
open PySem PySem.Spec L2
section
variable {X : Cx} {T : Tb} {W : WX} {k : Nat} {b : Expr} {mb : M D} {pos px : Pos}
def af0 (X : Cx) (T : Tb) (op : CmpOp) (f : Hh → D → D → Option Bool) : Prop :=
 ∀ B w σ H fr h x y d e c Q, Rel X.K T B w σ H fr h → vO X.K T B σ w H fr x d → vO X.K T B σ w H fr y e → f h d e = some c → Q (.bl c) H → rM X (compareOp op) x y H Q
def aeO (i : Nat) (f : Hh → D → D → Option Bool) (mb : M D) : M Bool := (m9 i).bind fun _ => mb.bind fun y => (aM i).bind fun d fr h => M.opt (f h d y) fr h
end
end Pk
namespace PySem
namespace OwR
open PySem.W PySem.Calls PyProof.Rows
open PySem.AutoSeq1 (wpAny_loadPart')
section
variable {K : Frag} {x C : Addr} {ox : Obj} {od : Option Obj}
end
section
variable {prog : Program} {w : World} {A : Around} {E : Value → Shared → Prop} {s : Shared} {K : Frag} {x C f : Addr} {ox : Obj} {od : Option Obj} {a : Value} {t : String}
def X8 (prog : Program) (w : World) (A : Around) (E : Value → Shared → Prop) (s : Shared) (a : Value) (nm : Str) (x : Addr) : Prop := ∀ P' : Option Value → Shared → Prop, P' none s → wpAny (model prog w) A (tryCompare a nm (.ref x)) P' E s
theorem right (op : CmpOp) {Q : Value → Shared → Prop} (hu : A.units < cLine) (X : K.In s.heap) (I : InstAt s.heap x ox C od) (h1 : oneThing? op a (.ref x) = none) (ha : Looks (model prog w) s.heap (typeOf a) (.type t)) (hn : subIn K (.ref C) (.type t) = some false)
 (hd : X8 prog w A E s a (cmpInfo op).2.1 x) (h : wpAny (model prog w) A (tryCompare (.ref x) (cmpInfo op).2.2 a) (fun r s' => ∃ v, r = some v ∧ Q v s') E s) : wpAny (model prog w) A (richCompare op a (.ref x)) Q E s := by
 unfold richCompare
 simp only [h1]
 refine wpAny_holding (wpAny_bind (wpAny_cRoomFor hu ?_))
 refine wpAny_bind (ha.here (wpAny_bind (I.type.here ?_)))
 rw [if_pos (show ((Value.type t != Value.ref C) = true) from rfl)]
 refine wpAny_bind ((looks_subIn X hn).here ?_)
 simp only [Bool.false_eq_true, if_false]
 refine wpAny_bind (hd _ ?_)
 simp only [Bool.not_false, if_true]
 refine wpAny_bind (wpAny_mono h (fun r s' z => ?_) fun _ _ e => e)
 obtain ⟨v, rfl, q⟩ := z
 exact wpAny_pure q
end
end OwR
end PySem
namespace Pk
open PySem PySem.Spec L2
def ahg (mt : Nat → Option Fn) (c : Bool → Bool) (x y : D) : M Bool := fun fr h => match fnOf mt h x with
 | some _ => gEq mt c x y fr h
 | none => if (x.bty h).isSome then ((JG mt y [x]).bind fun d => (ZP d).bind fun b => M.ret (c b)) fr h else .err
section
variable {X : Cx} {T : Tb} {W : WX} {k j : Nat}
end
end Pk
namespace Pk
open PySem PySem.Spec L2
def ahh (_ : Hh) : D → D → Option Bool
 | .bl a, .bl b => some (decide (a = b))
 | _, _ => none
def af1 (_ : Hh) : D → D → Option Bool
 | .bl a, .bl b => some (!decide (a = b))
 | _, _ => none
section
variable {X : Cx} {T : Tb}
end
end Pk
namespace PySem
namespace OwT
open PySem.W PySem.Calls PyProof.Rows PySem.SeqAt
open PySem.AutoSeq1 (wpAny_loadPart')
section
variable {prog : Program} {w : World} {A : Around} {R : Result → Shared → Prop}
end
end OwT
end PySem
namespace Pk
open PySem PySem.Spec L2
mutual
def D.sim : D → D → Bool
 | .int i, .int j => i == j
 | .bl a, .bl b => a == b
 | .str a, .str b => a == b
 | .tup l, .tup m => D.sims l m
 | _, _ => true
def D.sims : List D → List D → Bool
 | d :: ds, e :: es => D.sim d e && D.sims ds es
 | [], [] => true
 | _, _ => false
end
section
variable {X : Cx} {T : Tb} {W : WX} {k j : Nat} {w : Wd} {pins : List (Addr × Obj)} {σ : L2.St} {H : Hp} {s : Shared}
mutual
theorem aao (I : Inv X pins σ H s) (sub : ∀ a o, w.F a = some o → H a = some o) : ∀ {v : V} {d : D}, bA X.K T w v d → ∀ {e : D}, bA X.K T w v e → D.sim d e = true
 | _, _, .tup h1 t1, _, r2 => by
   cases r2 with
   | tup h2 t2 =>
     have := I.tuple_inj (dI sub h1) (dI sub h2)
     subst this
     exact Ql I sub t1 t2
   | _ => rfl
 | _, _, .int i, _, r2 => by cases r2; simp [D.sim]
 | _, _, .bl b, _, r2 => by cases r2; simp [D.sim]
 | _, _, .str z, _, r2 => by cases r2; simp [D.sim]
 | _, _, .non, _, _ => rfl
 | _, _, .fl _ _, _, _ => rfl
 | _, _, .kl _ _, _, _ => rfl
 | _, _, .obj _ _, _, _ => rfl
 | _, _, .ref _, _, _ => rfl
 | _, _, .cls _, _, _ => rfl
 | _, _, .ty _, _, _ => rfl
 | _, _, .sl _, _, _ => rfl
 | _, _, .tp _ _, _, _ => rfl
theorem Ql (I : Inv X pins σ H s) (sub : ∀ a o, w.F a = some o → H a = some o) : ∀ {vs : List V} {ds : List D}, au X.K T w vs ds → ∀ {es : List D}, au X.K T w vs es → D.sims ds es = true
 | _, _, .nil, _, r2 => by cases r2; rfl
 | _, _, .cons h t, _, r2 => by
   cases r2 with
   | cons h2 t2 =>
     show (_ && _) = true
     rw [aao I sub h h2, Ql I sub t t2]
     rfl
end
noncomputable def pPair (mt : Nat → Option Fn) (nf : Nat → Nat) (h : Hh) : D → D → Option Bool
 | .obj c l, .obj c' m => if c = c' ∧ l.length = nf c ∧ m.length = nf c then match mt c with
  | some F => match F [.obj c l, .obj c m] h with
    | .ok (.bl b) _ h' => open Classical in if h' = h ∧ (b = true ∨ D.sims l m = false) then some b else none
    | _ => none
  | none => none
  else none
 | _, _ => none
noncomputable def ab1 (mt : Nat → Option Fn) (nf : Nat → Nat) (h : Hh) : List D → List D → Option Bool
 | d :: ds, e :: es => (pPair mt nf h d e).bind fun b => if b then ab1 mt nf h ds es else some false
 | [], [] => some true
 | _, _ => some false
noncomputable def ad5 (mt : Nat → Option Fn) (nf : Nat → Nat) (h : Hh) : D → D → Option Bool
 | .tup l, .tup m => ab1 mt nf h l m
 | _, _ => none
noncomputable def ahi (mt : Nat → Option Fn) (nf : Nat → Nat) (x y : D) : M Bool := fun fr h => M.opt (ad5 mt nf h x y) fr h
structure NfF (T : Tb) (mt : Nat → Option Fn) (nf : Nat → Nat) : Prop where
 ex : ∀ c F, mt c = some F → (T.fld c).length = nf c
end
end Pk
namespace L2
open PySem PySem.Spec PyProof.Rows
def endsAt (oi : Option Nat) (D : Ends) : Ends := match oi with
 | none => D
 | some i => { nx := fun σ' H' => D.nx (σ'.set i none) H', rt := D.rt, bk := fun σ' H' => D.bk (σ'.set i none) H', ct := fun σ' H' => D.ct (σ'.set i none) H' }
def Tf (oi : Option Nat) (σ : St) (a : Addr) : St := match oi with
 | none => σ
 | some i => σ.set i (some (.ref a))
abbrev KN := Value × Option Nat × (Addr → Value → Option Addr → TS)
def ad6 (K : PySem.W.Frag) (Wout : WX) (D : Ends) : List KN → WX
 | [] => Wout
 | (c, oi, ts) :: r => fun cls d σ H => ∃ b, PySem.W.exmOne K cls c = some b ∧ (b = true → ∀ a, H a = none → ts a cls d (endsAt oi D) (Tf oi σ a) H) ∧ (b = false → ad6 K Wout D r cls d σ H)
inductive KQ (X : Cx) : Option Str → Option Nat → Prop
 | no : KQ X none none
 | at_ {n : Str} {i : Nat} (hi : X.N[i]? = some n) (hln : X.env.kindOf n = some .local) : KQ X (some n) (some i)
inductive G3 (X : Cx) : List ExceptHandler → List KN → Prop
 | nil : G3 X [] []
 | cons {x : Str} {c : Value} {ts : Addr → Value → Option Addr → TS} {b₀ : Stmt} {suite : List Stmt} {np pos' : Pos} {nm : Option Str} {oi : Option Nat} {hds : List ExceptHandler} {l : List KN} (hc : Names X x c) (hn : KQ X nm oi)
  (hsu : ∀ (a : Addr) (oe : Obj) (cls : Value) (d : Option Addr) (pn : List (Addr × Obj)), Zc cls d oe → (∃ vs, oe.data = .fields vs) → PSs (X.suite a ((a, oe) :: pn)) (b₀ :: suite) (ts a cls d)) (r : G3 X hds l) :
  G3 X (.ExceptHandler (some (.Name x np)) nm (b₀ :: suite) pos' :: hds) ((c, oi, ts) :: l)
section
variable {X : Cx} {body : List Stmt} {h₀ : ExceptHandler} {hds : List ExceptHandler} {l : List KN} {pos : Pos} {tb : WX → TS} {Wout : WX}
end
end L2
namespace Pk
open PySem PySem.Spec L2
abbrev Hd := Option Nat × (Nat → Option Bool) × (aN → M Fl)
def ZQ : List Hd → aN → M Fl
 | [], x => fun fr h => .exc x fr h
 | (oi, cond, ms) :: r, x => fun fr h => match cond x.c with
   | some true => match oi with
     | some i => if i < fr.length then abY i (ms x (fr.set i none) h) else .err
     | none => ms x fr h
   | some false => ZQ r x fr h
   | none => .err
def af2 (cs : List Hd) (mb : M Fl) : M Fl := fun fr h => match mb fr h with
 | .exc x fr1 h1 => ZQ cs x fr1 h1
 | r => r
section
variable {X : Cx} {T : Tb} {W : WX} {k : Nat} {body : List Stmt} {h₀ : ExceptHandler} {hds : List ExceptHandler} {pos : Pos} {mb : M Fl} {cs : List Hd}
inductive G4 (X : Cx) (T : Tb) (W : WX) : List ExceptHandler → List Hd → Prop
 | nil : G4 X T W [] []
 | named {x n : Str} {c : Value} {cond : Nat → Option Bool} {b₀ : Stmt} {suite : List Stmt} {np pos' : Pos} {i : Nat} {ms : aN → M Fl} {hds : List ExceptHandler} {l : List Hd} (hi : X.N[i]? = some n) (hln : X.env.kindOf n = some .local) (hc : Names X x c)
  (hcond : ∀ cc b, cond cc = some b → PySem.W.exmOne X.K (.ref (T.cad cc)) c = some b)
  (hsu : ∀ (a : Addr) (oe : Obj) (cls : Value) (d : Option Addr) (pn : List (Addr × Obj)) (y : aN), Su X T i a oe cls d pn y → UV (PX X.K T i a y cls d) (X.suite a ((a, oe) :: pn)) T W (b₀ :: suite) (ms y))
  (r : G4 X T W hds l) : G4 X T W (.ExceptHandler (some (.Name x np)) (some n) (b₀ :: suite) pos' :: hds) ((some i, cond, ms) :: l)
 | only {x : Str} {c : Value} {cond : Nat → Option Bool} {b₀ : Stmt} {suite : List Stmt} {np pos' : Pos} {ms : aN → M Fl} {hds : List ExceptHandler} {l : List Hd} (hc : Names X x c)
  (hcond : ∀ cc b, cond cc = some b → PySem.W.exmOne X.K (.ref (T.cad cc)) c = some b)
  (hsu : ∀ (a : Addr) (oe : Obj) (pn : List (Addr × Obj)) (y : aN), UV (fun _ _ => True) (X.suite a ((a, oe) :: pn)) T W (b₀ :: suite) (ms y))
  (r : G4 X T W hds l) : G4 X T W (.ExceptHandler (some (.Name x np)) none (b₀ :: suite) pos' :: hds) ((none, cond, ms) :: l)
end
end Pk
namespace Pk
open PySem PySem.Spec L2
section
variable {P : Wd → L2.St → Prop} {X : Cx} {T : Tb} {W : WX} {a b : Expr} {ma mb : M D} {pos pf : Pos} {x : Str} {tab : Tg → Tg → Option Bool}
end
end Pk
namespace Pk
open PySem PySem.Spec L2
def af3 (_ : Hh) : D → Option D
 | .bl b => some (.str (if b then "True" else "False"))
 | _ => none
def aeP (_ : Hh) : D → Option D
 | .bl b => some (.bl b)
 | .int i => some (.bl (i != 0))
 | _ => none
section
variable {X : Cx} {T : Tb} {W : WX} {a : Expr} {ma : M D} {pos pf : Pos}
end
end Pk
namespace Pk
open PySem PySem.Spec PyProof.Rows L2
def af4 : List Stmt → Expr
 | .Expr (.Call _ [e] _ _) _ :: _ => e
 | _ => .Name "" ⟨0, 0, 0, 0⟩
def U0 : List D → Option (List Str)
 | [] => some []
 | .str s :: r => (U0 r).map (s :: ·)
 | _ => none
def aes (K : PySem.W.Frag) (H : Hp) (vs : List V) : Prop := ∃ (a : Addr) (ss : List Str), vs = [.ref a] ∧ SqT K H a (ss.map V.str) ∧ (ss.map (·.length)).sum + ss.length ≤ 1000
def ad7 (ds : List D) : Bool := match ds with
 | [.tup l] => match U0 l with
   | some ss => decide ((ss.map (·.length)).sum + ss.length ≤ 1000)
   | none => false
 | _ => false
inductive JP (scope : Scope) (m : Str → Option Value) : List Expr → List Str → Prop
 | nil : JP scope m [] []
 | con {z : Str} {j : Nat} {pos : Pos} {es : List Expr} {ys : List Str} (hz : z.length ≤ 2000) (r : JP scope m es ys) : JP scope m (.Constant (.str z) j pos :: es) (z :: ys)
 | int {f : Str} {i : Int} {t : Tok} {pos pos2 : Pos} {es : List Expr} {ys : List Str} (hl : scope.names.lookup f = some .local) (hd : (f == ("__debug__" : Str)) = false) (hm : m f = some (.int i t)) (hi : i.natAbs.log2 < 1920) (r : JP scope m es ys) : JP scope m (.FormattedValue (.Name f pos) (-1) none pos2 :: es) (toString i :: ys)
 | str {f y : Str} {t : Tok} {pos pos2 : Pos} {es : List Expr} {ys : List Str} (hl : scope.names.lookup f = some .local) (hd : (f == ("__debug__" : Str)) = false) (hm : m f = some (.str y t)) (hy : y.length ≤ 2000) (r : JP scope m es ys) : JP scope m (.FormattedValue (.Name f pos) (-1) none pos2 :: es) (y :: ys)
section
variable {scope : Scope} {qual : Str} {m : Str → Option Value} {L fI cda cc : Addr} {prog : Program} {w : World} {A' : Around} {h : Heap} {g : Array GenState} {d : Drawn} {os : OsState} {E' : Value → Shared → Prop}
end
end Pk
namespace L2
open PySem PySem.Spec PyProof.Rows
def Qm (X : Cx) (te : Expr) (tst : Value → Option Bool) : Prop :=
 ∀ (a : Addr) (oe : Obj) (pn pins : List (Addr × Obj)) (σ : St) (H : Hp) (s : Shared) (cls : Value) (b : Bool) (Q : Bool → Shared → Prop) (E : Value → Shared → Prop), Inv (X.suite a ((a, oe) :: pn)) pins σ H s → PySem.W.Looks (model X.prog X.w) s.heap (typeOf (.ref a)) cls → tst cls = some b →
   (∀ h', (∀ q o, s.heap.get? q = some o → h'.get? q = some o) → Q b { s with heap := h' }) →
   wpAny (model X.prog X.w) (X.A.mark (some (.ref a))) (eval te X.env) (fun c s1 => wpAny (model X.prog X.w) (X.A.mark (some (.ref a))) (excMatches (.ref a) c) Q E s1) E s
abbrev Im := (Value → Option Bool) × Option Nat × (Addr → Value → Option Addr → TS)
def adc (Wout : WX) (D : Ends) : List Im → WX
 | [] => Wout
 | (c, oi, ts) :: r => fun cls d σ H => ∃ b, c cls = some b ∧ (b = true → ∀ a, H a = none → ts a cls d (endsAt oi D) (Tf oi σ a) H) ∧ (b = false → adc Wout D r cls d σ H)
inductive JH (X : Cx) : List ExceptHandler → List Im → Prop
 | nil : JH X [] []
 | cons {te : Expr} {c : Value → Option Bool} {ts : Addr → Value → Option Addr → TS} {b₀ : Stmt} {suite : List Stmt} {pos' : Pos} {nm : Option Str} {oi : Option Nat} {hds : List ExceptHandler} {l : List Im} (hc : Qm X te c) (hn : KQ X nm oi)
  (hsu : ∀ (a : Addr) (oe : Obj) (cls : Value) (d : Option Addr) (pn : List (Addr × Obj)), Zc cls d oe → (∃ vs, oe.data = .fields vs) → PSs (X.suite a ((a, oe) :: pn)) (b₀ :: suite) (ts a cls d)) (r : JH X hds l) :
  JH X (.ExceptHandler (some te) nm (b₀ :: suite) pos' :: hds) ((c, oi, ts) :: l)
section
variable {X : Cx} {body : List Stmt} {h₀ : ExceptHandler} {hds : List ExceptHandler} {l : List Im} {pos : Pos} {tb : WX → TS} {Wout : WX}
end
end L2
namespace Pk
open PySem PySem.Spec L2
section
variable {X : Cx} {T : Tb} {W : WX} {k : Nat} {body : List Stmt} {h₀ : ExceptHandler} {hds : List ExceptHandler} {pos : Pos} {mb : M Fl} {cs : List Hd}
inductive G5 (X : Cx) (T : Tb) (W : WX) : List ExceptHandler → List Hd → Prop
 | nil : G5 X T W [] []
 | named {te : Expr} {n : Str} {tst : Value → Option Bool} {cond : Nat → Option Bool} {b₀ : Stmt} {suite : List Stmt} {pos' : Pos} {i : Nat} {ms : aN → M Fl} {hds : List ExceptHandler} {l : List Hd} (hi : X.N[i]? = some n) (hln : X.env.kindOf n = some .local) (hc : Qm X te tst)
  (hcond : ∀ cc b, cond cc = some b → tst (.ref (T.cad cc)) = some b)
  (hsu : ∀ (a : Addr) (oe : Obj) (cls : Value) (d : Option Addr) (pn : List (Addr × Obj)) (y : aN), Su X T i a oe cls d pn y → UV (PX X.K T i a y cls d) (X.suite a ((a, oe) :: pn)) T W (b₀ :: suite) (ms y))
  (r : G5 X T W hds l) : G5 X T W (.ExceptHandler (some te) (some n) (b₀ :: suite) pos' :: hds) ((some i, cond, ms) :: l)
 | only {te : Expr} {tst : Value → Option Bool} {cond : Nat → Option Bool} {b₀ : Stmt} {suite : List Stmt} {pos' : Pos} {ms : aN → M Fl} {hds : List ExceptHandler} {l : List Hd} (hc : Qm X te tst)
  (hcond : ∀ cc b, cond cc = some b → tst (.ref (T.cad cc)) = some b)
  (hsu : ∀ (a : Addr) (oe : Obj) (pn : List (Addr × Obj)) (y : aN), UV (fun _ _ => True) (X.suite a ((a, oe) :: pn)) T W (b₀ :: suite) (ms y))
  (r : G5 X T W hds l) : G5 X T W (.ExceptHandler (some te) none (b₀ :: suite) pos' :: hds) ((none, cond, ms) :: l)
def ahj (K : PySem.W.Frag) (C : Addr) : Bool := PySem.W.excIn K C [.type "ValueError", .type "Exception", .type "BaseException", .type "object"] "ValueError.__new__" && (PySem.W.keepIn K (.ref C) && (decide (PySem.W.subIn K (.ref C) (.type "BaseException") = some true) && decide (PySem.W.typeIn K (.ref C) = some (.type "type"))))
structure ExB (K : PySem.W.Frag) (C : Addr) : Prop where
 q : PySem.W.excIn K C [.type "ValueError", .type "Exception", .type "BaseException", .type "object"] "ValueError.__new__" = true
 kC : PySem.W.keepIn K (.ref C) = true
 exC : PySem.W.subIn K (.ref C) (.type "BaseException") = some true
 tyC : PySem.W.typeIn K (.ref C) = some (.type "type")
def aet (c : Nat) (ma : M D) : M Fl := ma.bind fun _ fr h => .exc ⟨c, []⟩ fr h
end
section
variable {P : Wd → L2.St → Prop} {X : Cx} {T : Tb} {W : WX} {a b e : Expr} {m ma mb : M D} {pos : Pos}
end
end Pk
namespace Pk
open PySem PySem.Spec L2
def iZ : List D → List D → List D
 | a :: as, b :: bs => .tup [a, b] :: iZ as bs
 | _, _ => []
theorem sY : ∀ (l m : List D), (iZ l m).length = min l.length m.length
 | a :: l, b :: m => by
   rw [iZ, aiL, aiL, aiL, sY l m]
   omega
 | [], _ => by simp [iZ]
 | _ :: _, [] => by simp [iZ]
theorem DG : ∀ (l m : List D) (j : Nat) (z : D), (iZ l m)[j]? = some z → ∃ a b, l[j]? = some a ∧ m[j]? = some b ∧ z = .tup [a, b]
 | a :: l, b :: m, 0, z, e => by
   simp [iZ] at e
   exact ⟨a, b, rfl, rfl, e.symm⟩
 | a :: l, b :: m, j + 1, z, e => by
   obtain ⟨x, y, h1, h2, h3⟩ := DG l m j z (by simpa [iZ] using e)
   exact ⟨x, y, by simpa using h1, by simpa using h2, h3⟩
 | [], _, j, z, e => by simp [iZ] at e
 | _ :: _, [], j, z, e => by simp [iZ] at e
def Mz : D → D → Option (List D)
 | .tup l, .tup m => some (iZ l m)
 | .fl l, .fl m => some (iZ l m)
 | .fl l, .kl m => some (iZ l m)
 | .kl l, .fl m => some (iZ l m)
 | .kl l, .kl m => some (iZ l m)
 | _, _ => none
theorem aap {K : PySem.W.Frag} {T : Tb} {w : Wd} {v u : V} {d e : D} {l : List D} (r : bA K T w v d) (s : bA K T w u e) (q : Mz d e = some l) : ∃ p1 p2 vs us ds es, v = .ref p1 ∧ u = .ref p2 ∧ l = iZ ds es ∧ au K T w vs ds ∧ au K T w us es ∧ ((SqL K w.F p1 vs ∧ SqL K w.F p2 us) ∨ (SqT K w.F p1 vs ∧ SqT K w.F p2 us)) := by
 cases r with
 | tup s1 r1 =>
   cases s with
   | tup s2 r2 => cases q; exact ⟨_, _, _, _, _, _, rfl, rfl, rfl, r1, r2, .inr ⟨s1, s2⟩⟩
   | _ => cases q
 | fl s1 r1 =>
   cases s with
   | fl s2 r2 => cases q; exact ⟨_, _, _, _, _, _, rfl, rfl, rfl, r1, r2, .inl ⟨SqL.of s1, SqL.of s2⟩⟩
   | kl s2 r2 => cases q; exact ⟨_, _, _, _, _, _, rfl, rfl, rfl, r1, r2, .inl ⟨SqL.of s1, s2⟩⟩
   | _ => cases q
 | kl s1 r1 =>
   cases s with
   | fl s2 r2 => cases q; exact ⟨_, _, _, _, _, _, rfl, rfl, rfl, r1, r2, .inl ⟨s1, SqL.of s2⟩⟩
   | kl s2 r2 => cases q; exact ⟨_, _, _, _, _, _, rfl, rfl, rfl, r1, r2, .inl ⟨s1, s2⟩⟩
   | _ => cases q
 | _ => cases q
def MF (ma mb : M D) : M (List D) := ma.bind fun x => mb.bind fun y => M.opt (Mz x y)
section
variable {X : Cx} {T : Tb} {W : WX} {k kk : Nat} {pos p tpos : Pos} {elts : List Expr} {a b : Expr} {ma mb : M D}
theorem ab2 {K : PySem.W.Frag} {B : Bs} {σ : L2.St} {w : Wd} {H : Hp} {fr : Fr} {a b : Addr} {vs us : List V} {l m : List D} (sq : SqL K w.F a vs) (sr : SqL K w.F b us) (rl : au K T w vs l) (rm : au K T w us m) : vJ K T B σ w H fr (Itz K a b) (iZ l m) := fun i w2 H2 l2 hs => by
 have sq2 : SqL K H2 a vs := fL hs (fL l2.1 sq)
 have sr2 : SqL K H2 b us := fL hs (fL l2.1 sr)
 refine ⟨fun hi => ⟨vs, us, sq2, sr2, ?_⟩, fun d' hd => ?_⟩
 · rw [sY] at hi
   rw [rl.length, rm.length]
   omega
 · obtain ⟨d1, d2, h1, h2, rfl⟩ := DG l m i d' hd
   obtain ⟨v, hv, rv⟩ := rl.get h1
   obtain ⟨u, hu, ru⟩ := rm.get h2
   refine ⟨⟨vs, us, v, u, sq2, sr2, hv, hu⟩, fun y H3 hy B' σ' fr' h' R' => ?_⟩
   obtain ⟨Tp, x1, x2, rfl, nT, rfl, hx, hx2⟩ := hy
   have z := hx vs sq2
   rw [hv] at z
   cases z
   have z := hx2 us sr2
   rw [hu] at z
   cases z
   have lw := Wd.le_add (o := .tup [v, u]) (R'.nP nT).1
   exact ⟨w2.add Tp (.tup [v, u]), lw, R'.laid nT, .tup (SqT.of (by show upd w2.F Tp _ Tp = _; rw [upd_same])) (.cons ((rv.mono l2).mono lw) (.cons ((ru.mono l2).mono lw) .nil))⟩
theorem aaq {K : PySem.W.Frag} {B : Bs} {σ : L2.St} {w : Wd} {H : Hp} {fr : Fr} {a b : Addr} {vs us : List V} {l m : List D} (sq : SqT K w.F a vs) (sr : SqT K w.F b us) (rl : au K T w vs l) (rm : au K T w us m) : vJ K T B σ w H fr (RZ.ItzT K a b) (iZ l m) := fun i w2 H2 l2 hs => by
 have sq2 : SqT K H2 a vs := dI hs (dI l2.1 sq)
 have sr2 : SqT K H2 b us := dI hs (dI l2.1 sr)
 refine ⟨fun hi => ⟨vs, us, sq2, sr2, ?_⟩, fun d' hd => ?_⟩
 · rw [sY] at hi
   rw [rl.length, rm.length]
   omega
 · obtain ⟨d1, d2, h1, h2, rfl⟩ := DG l m i d' hd
   obtain ⟨v, hv, rv⟩ := rl.get h1
   obtain ⟨u, hu, ru⟩ := rm.get h2
   refine ⟨⟨vs, us, v, u, sq2, sr2, hv, hu⟩, fun y H3 hy B' σ' fr' h' R' => ?_⟩
   obtain ⟨Tp, x1, x2, rfl, nT, rfl, hx, hx2⟩ := hy
   have z := hx vs sq2
   rw [hv] at z
   cases z
   have z := hx2 us sr2
   rw [hu] at z
   cases z
   have lw := Wd.le_add (o := .tup [v, u]) (R'.nP nT).1
   exact ⟨w2.add Tp (.tup [v, u]), lw, R'.laid nT, .tup (SqT.of (by show upd w2.F Tp _ Tp = _; rw [upd_same])) (.cons ((rv.mono l2).mono lw) (.cons ((ru.mono l2).mono lw) .nil))⟩
theorem ab3 (s : aV X T W a ma) (s2 : aV X T W b mb) (hm : X.mg "zip" = none) (hg : Gl X "zip" := by rfl) (hs : starEach [a, b] X.env = (false, eval a X.env) :: starEach [b] X.env := by rfl) (hs2 : starEach [b] X.env = (false, eval b X.env) :: starEach [] X.env := by rfl) (hpl : (backTo pos (starEach [b] X.env)).any (·.1) = false := by rfl) :
 Gq X T W (.Tuple elts kk tpos) (.Call (.Name "zip" p) [a, b] [] pos) (MF ma mb) := fun B w σ H fr h Q r p =>
 Dk (RZ.pi_zipA hg hm (pa_cons bj (pa_cons bj pa_nil hs2) hs) hs hpl) (s B w σ H fr h _ r (aW.bind (VR := vV X.K T B σ) p fun d fr1 h1 w1 H1 x e1 l1 r1 rx p1 =>
  s2 B w1 σ H1 fr1 h1 _ r1 (aW.bind (VR := vV X.K T B σ) p1 fun e fr2 h2 w2 H2 y e2 l2 r2 ry p2 => by
   cases q : Mz d e with
   | none => rw [q] at p2; exact p2.elim
   | some l =>
     rw [q] at p2
     obtain ⟨p1', p2', vs, us, ds, es, rfl, rfl, rfl, rv, ru, ⟨s1, s2⟩ | ⟨s1, s2⟩⟩ := aap (rx.mono l2) ry q
     · exact ⟨p1', p2', vs, us, rfl, .inl ⟨fL r2.sub s1, fL r2.sub s2, p2 w2 H2 (Itz X.K p1' p2') (Wd.le_refl _) r2 (ab2 s1 s2 rv ru)⟩⟩
     · exact ⟨p1', p2', vs, us, rfl, .inr ⟨dI r2.sub s1, dI r2.sub s2, p2 w2 H2 (RZ.ItzT X.K p1' p2') (Wd.le_refl _) r2 (aaq s1 s2 rv ru)⟩⟩)))
end
section
variable {P : Wd → L2.St → Prop} {X : Cx} {T : Tb} {W : WX} {k : Nat} {a b e : Expr} {m ma mb : M D} {pos : Pos}
end
def ahk (n : Nat) (gs : List D → M Unit) (d : D) : M Unit := match d with
 | .tup l => if l.length = n then gs l else M.opt none
 | .fl l => if l.length = n then gs l else M.opt none
 | _ => M.opt none
def v5 (_ : Hh) : D → D → Option D
 | .fl l, .int k => if 0 ≤ k ∧ k < 1000 ∧ l.length ≤ 100 then some (.nl (List.replicate k.toNat l).flatten) else none
 | _, _ => none
section
variable {X : Cx} {T : Tb} {W : WX} {k kk n : Nat} {is : List Nat} {tgs : List Expr} {gs : List D → M Unit} {pos : Pos} {a b : Expr} {ma mb : M D}
theorem Th {K : PySem.W.Frag} {w : Wd} {vs : List V} {ds : List D} (r : au K T w vs ds) : ∀ n : Nat, au K T w (List.replicate n vs).flatten (List.replicate n ds).flatten
 | 0 => .nil
 | n + 1 => by
   rw [ai5, ai5, List.flatten_cons, List.flatten_cons]
   exact r.append (Th r n)
theorem KR (sa : aV X T W a ma) (sb : aV X T W b mb) : pX X T W (.BinOp a .Mult b pos) (aq v5 ma mb) := fun B w σ H fr h Q r1 p =>
 eE (pe_op Gg bj bj) (Jr (VR := vE) sa sb (fun B w σ H fr h x y d e z Q R rx ry q k => by
  unfold v5 at q
  split at q
  · rename_i l i
    split at q
    · rename_i hl
      cases q
      obtain ⟨p1, vs, rfl, s1, r1⟩ := Jt rx
      obtain ⟨h0, h1, h2⟩ := hl
      refine qY op_rep ⟨p1, i, vs, rfl, je ry, R.sub _ _ s1, by omega, by omega, ?_, fun p np => ?_⟩
      · rw [r1.length]
        have : (100000 : Nat) ≤ sizeLine := by decide
        have hk : i.toNat ≤ 1000 := by omega
        have := Nat.mul_le_mul h2 hk
        omega
      · exact yt R (Th r1 i.toNat) np k
    · cases q
  · cases q) B w σ H fr h Q r1 p)
end
def putS : List Nat → List V → L2.St → L2.St
 | i :: is, v :: vs, σ => putS is vs (σ.set i (some v))
 | _, _, σ => σ
section
variable {X : Cx} {T : Tb} {W : WX} {k : Nat} {a b c : Expr} {pos : Pos}
end
end Pk
namespace Pk
open PySem PySem.Spec PyProof.Rows L2
section
variable {prog : Program} {w : World} {A : Around} {E : Value → Shared → Prop} {s : Shared} {l : Addr} {its : List Value} {ns : List Int} {Q : Value → Shared → Prop}
end
def af5 (K : PySem.W.Frag) : List V → Hp → VK → Prop := fun vs H Q => ∃ (a : Addr) (ns : List Int), vs = [V.ref a] ∧ SqT K H a (ns.map V.int) ∧ 0 < ns.length ∧ ∀ m, m ∈ ns → (∀ y, y ∈ ns → y ≤ m) → Q (.int m) H
section
variable {X : Cx} {T : Tb} {W : WX} {k : Nat} {e a b c : Expr} {es : List Expr} {m ma mb mc : M D} {pos pf : Pos}
def af6 (h : Hh) (d : D) : Option D := match d with
 | .tup l => match D.ints l with
   | some (a :: r) => some (.int (Uz a r))
   | _ => none
 | _ => ac2 h d
end
end Pk
namespace Pk
open PySem PySem.Spec PyProof.Rows L2
section
variable {P : Program} {w : World} {A : Around} {E : Value → Shared → Prop} {s : Shared} {env : Env} {x : Str} {pe pt px p0 pc pos : Pos} {iter : Expr} {scope : Scope} {cl : List (Str × Addr)} {c : Int} {k0 : Nat} {Q : Value → Shared → Prop}
def ad8 (ns : List Int) (c : Int) (i : Nat) (k : Int) : Bool := decide (k ∈ (ns.take i).filter fun k => decide (k > c))
end
def ab4 (a : Int) : List Int → List Int
 | [] => [a]
 | b :: l => if a < b then a :: b :: l else if a = b then b :: l else b :: ab4 a l
def ZR : List Int → List Int
 | [] => []
 | a :: l => ab4 a (ZR l)
section
variable {X : L2.Cx} {T : Tb} {W : WX} {k : Nat} {a iter : Expr} {ma : M D} {pf pos pe pt px p0 pc pos2 : Pos} {x : Str} {scope : Scope} {cl : List (Str × Addr)} {c : Int} {k0 : Nat}
def vSt (w0 : World) (c : Int) : jw V D := fun _ _ _ _ _ H _ v d => ∃ p is n, v = .ref p ∧ d = .fl (is.map .int) ∧ H p = some (SetO w0 p (ad8 is c is.length) n) ∧ n ≤ is.length ∧ is.length ≤ 50
def bTI : D → Option D
 | .tup l => match D.ints l with
   | some is => if is.length ≤ 50 then some (.fl (is.map .int)) else none
   | none => none
 | _ => none
def aeQ (c : Int) (_ : Hh) (d : D) : Option D := match d with
 | .fl l => match D.ints l with
   | some is => some (.nl ((ZR (is.filter fun k => decide (k > c))).map .int))
   | none => none
 | _ => none
def ab5 (a : Int) : List Int → List Int
 | [] => [a]
 | b :: l => if a ≤ b then a :: b :: l else b :: ab5 a l
def ZS : List Int → List Int
 | [] => []
 | a :: l => ab5 a (ZS l)
def aeu (h : Hh) (d : D) : Option D := match d.lints h with
 | some is => if is.length < 64 then some (.nl ((ZS is).map .int)) else none
 | none => none
end
end Pk
namespace Pk
open PySem PySem.Spec L2
def vJC : jw It (Nat × List D × List D) := fun K T B _ w _ _ J x => ∀ i w1 σ1 H1 fr1 h1, w.le w1 → Rel K T B w1 σ1 H1 fr1 h1 → h1[x.1]? = some (.nl x.2.1) →
 (x.2.2.length ≤ i → J.stop i H1) ∧ ∀ d, x.2.2[i]? = some d → J.go i H1 ∧ ∀ y H2, J.yld i H1 y H2 → ∃ w2, w1.le w2 ∧ Rel K T B w2 σ1 H2 fr1 h1 ∧ bA K T w2 y d
open Classical in
noncomputable def lZ (n : Nat) (l : List D) (g : D → M Unit) (b : M Fl) : List D → M Fl
 | [] => fun fr h => if h[n]? = some (.nl l) then .ok .nx fr h else .err
 | d :: ds => fun fr h => if h[n]? = some (.nl l) then (match g d fr h with
   | .ok _ fr h => match b fr h with
     | .ok .nx fr h => lZ n l g b ds fr h
     | .ok .ct fr h => lZ n l g b ds fr h
     | .ok .brk fr h => .ok .nx fr h
     | .ok (.rt d) fr h => .ok (.rt d) fr h
     | .exc x fr h => .exc x fr h
     | .err => .err
   | _ => .err) else .err
noncomputable def qD (li : M (Nat × List D × List D)) (g : D → M Unit) (b : M Fl) : M Fl := li.bind fun x => lZ x.1 x.2.1 g b x.2.2
def jO (h : Hh) (d : D) : Option (Nat × List D) := match d with
 | .ref n => match h[n]? with
   | some (.nl l) => some (n, l)
   | _ => none
 | _ => none
theorem ye {h : Hh} {d : D} {n : Nat} {l : List D} (e : jO h d = some (n, l)) : d = .ref n ∧ h[n]? = some (.nl l) := by
 unfold jO at e
 split at e
 · split at e
   · rename_i q; cases e; exact ⟨rfl, q⟩
   · cases e
 · cases e
def DK (m : M D) : M (Nat × List D × List D) := m.bind fun d fr h => M.opt ((jO h d).map fun x => (x.1, x.2, x.2)) fr h
def ad9 (h : Hh) (d e : D) : Option (Nat × List D × List D) := match jO h d, e with
 | some (n, l), .fl m => some (n, l, iZ l m)
 | _, _ => none
def af7 (ma mb : M D) : M (Nat × List D × List D) := ma.bind fun d => mb.bind fun e fr h => M.opt (ad9 h d e) fr h
section
variable {X : Cx} {T : Tb} {W : WX} {k kk : Nat} {pos p tpos : Pos} {tg iter a c : Expr} {elts : List Expr} {body : List Stmt} {g : D → M Unit} {b : M Fl} {is : List Nat} {li : M (Nat × List D × List D)} {ma mb : M D}
theorem Qn (C : Cq X T W k) (si : fX (WI X tg iter) X.K T W vJC li) (sg : uJ X T is tg g) (sb : uL X T W body b) (hs : ∀ x, foldedSetIterable iter X.env x = pure x := by intro _; rfl) : pY X T W (.For tg iter body [] pos) (qD li g b) := fun B w σ H fr h D R p =>
 oG (ps_for C.po C.calm BK Kz vW hs) (si B w σ H fr h _ R (cP.bind (VR := vJC X.K T B σ) p fun x fr1 h1 w1 H1 J e1 l1 r1 vj p1 => by
  obtain ⟨n, l, ds⟩ := x
  refine ⟨fun i m σ H => m = ds.length - i ∧ i ≤ ds.length ∧ ∃ w' fr' h', w1.le w' ∧ Rel X.K T B w' σ H fr' h' ∧ cP X.K T B W w' (lZ n l g b (ds.drop i) fr' h') D, ⟨ds.length, by simp, Nat.zero_le _, w1, fr1, h1, Wd.le_refl _, r1, p1⟩, ?_⟩
  rintro i m σ2 H2 ⟨rfl, hi, w2, fr2, h2, l2, r2, p2⟩
  by_cases hlt : i < ds.length
  · have ed : ds.drop i = ds[i] :: ds.drop (i + 1) := List.drop_eq_getElem_cons hlt
    rw [ed] at p2
    unfold lZ at p2
    by_cases hc : h2[n]? = some (.nl l)
    · rw [if_pos hc] at p2
      obtain ⟨js, jg⟩ := vj i w2 σ2 H2 fr2 h2 l2 r2 hc
      obtain ⟨go, y⟩ := jg ds[i] (aiO hlt)
      refine .inr ⟨go, fun σ' H' => ∃ w' fr' h', w1.le w' ∧ Rel X.K T B w' σ' H' fr' h' ∧ cP X.K T B W w' (lZ n l g b (ds.drop (i + 1)) fr' h') D, fun σ' H' q => ⟨ds.length - (i + 1), by omega, rfl, hlt, q⟩, fun x H3 yx => ?_⟩
      obtain ⟨w3, l3, r3, rx⟩ := y x H3 yx
      refine sg B w3 σ2 H3 fr2 h2 x ds[i] _ r3 rx ?_
      cases e2 : g ds[i] fr2 h2 with
      | ok u fr3 h3 =>
        rw [e2] at p2
        intro w4 σ4 H4 l4 r4 _
        refine sb B w4 σ4 H4 fr3 h3 _ r4 ?_
        have l34 : w1.le w4 := Wd.le_trans l2 (Wd.le_trans l3 l4)
        dsimp only at p2
        cases e3 : b fr3 h3 with
        | ok f fr4 h4 =>
          rw [e3] at p2
          cases f with
          | nx => exact fun w5 σ5 H5 l5 r5 => ⟨w5, fr4, h4, Wd.le_trans l34 l5, r5, p2.le (Wd.le_trans (Wd.le_trans l3 l4) l5)⟩
          | ct => exact fun w5 σ5 H5 l5 r5 => ⟨w5, fr4, h4, Wd.le_trans l34 l5, r5, p2.le (Wd.le_trans (Wd.le_trans l3 l4) l5)⟩
          | brk => exact fun w5 σ5 H5 l5 r5 => p2 w5 σ5 H5 (Wd.le_trans (Wd.le_trans l3 l4) l5) r5
          | rt d => exact fun w5 σ5 H5 v l5 r5 rv => p2 w5 σ5 H5 v (Wd.le_trans (Wd.le_trans l3 l4) l5) r5 rv
        | exc y fr4 h4 =>
          rw [e3] at p2
          exact fun w5 σ5 H5 cc dd l5 r5 z => p2 w5 σ5 H5 cc dd (Wd.le_trans (Wd.le_trans l3 l4) l5) r5 z
        | err => rw [e3] at p2; exact p2
      | exc y fr3 h3 => rw [e2] at p2; exact p2
      | err => rw [e2] at p2; exact p2
    · rw [if_neg hc] at p2
      exact p2.elim
  · have e : i = ds.length := by omega
    subst e
    rw [List.drop_length] at p2
    unfold lZ at p2
    by_cases hc : h2[n]? = some (.nl l)
    · rw [if_pos hc] at p2
      exact .inl ⟨(vj _ w2 σ2 H2 fr2 h2 l2 r2 hc).1 (Nat.le_refl _), p2 w2 σ2 H2 (Wd.le_refl _) r2⟩
    · rw [if_neg hc] at p2
      exact p2.elim))
theorem qd {K : PySem.W.Frag} {B : Bs} {w : Wd} {σ : L2.St} {H : Hp} {fr : Fr} {h : Hh} {q : Addr} {n : Nat} {l : List D} (R : Rel K T B w σ H fr h) (hq : w.I[n]? = some q) (hc : h[n]? = some (.nl l)) : ∃ vs, SqL K H q vs ∧ au K T w vs l := by
 obtain ⟨o, eH, ro⟩ := R.cel n q _ hq hc
 cases ro with
 | lst r => exact ⟨_, SqL.of eH, r⟩
theorem KY {w w' : Wd} {n : Nat} {q : Addr} (l : w.le w') (h : w.I[n]? = some q) : w'.I[n]? = some q := by
 obtain ⟨r, e⟩ := l.2
 rw [e, ajf (List.getElem?_eq_some_iff.mp h).1]
 exact h
end
end Pk
namespace PySem
namespace SlK
open Sem (wp)
open PySem.W PySem.Calls PyProof.Rows
section
variable {prog : Program} {w : World} {A : Around} {E : Value → Shared → Prop} {h : Heap} {g : Array GenState} {d : Drawn} {t : Nat} {os : OsState} {a : Addr} {o : Obj}
end
section
variable {prog : Program} {w : World} {A : Around} {E : Value → Shared → Prop} {s : Shared} {K : Frag} {x C L f : Addr} {h₀ : Heap} {m : Str → Option Value} {ox : Obj} {od : Option Obj}
end
end SlK
end PySem
namespace Pk
open PySem PySem.Spec L2
def ahl (K : PySem.W.Frag) (C : Addr) : Bool := PySem.W.noSeq K C
structure ahm (K : PySem.W.Frag) (T : Tb) (mt : Nat → Option Fn) : Prop where
 ex : ∀ c F, mt c = some F → PySem.W.noSeq K (T.cad c) = true
section
variable {X : Cx} {T : Tb} {W : WX} {k kk j n c : Nat} {pos pf px p2 : Pos} {a b e : Expr} {es : List Expr} {lo hi : Option Expr} {ma mb m : M D} {ml mh : M (Option Int)} {x : Str}
def aeR (mt : Nat → Option Fn) (ma : M D) (ml mh : M (Option Int)) : M D := ma.bind fun o => ml.bind fun l => mh.bind fun u => ZM mt o [.sl l u]
def aea (t : String) : Bool := ["int", "bool", "str", "tuple", "list"].contains t
def af8 (tab : Tg → Tg → Option Bool) (h : Hh) (d c : D) : Option D := match d with
 | .sl _ _ => match c with
   | .ty t => if aea t then some (.bl false) else none
   | _ => none
 | d => qN tab h d c
theorem G6 {tab : Tg → Tg → Option Bool} (F : Mp X.K T tab) {B : Bs} {w : Wd} {σ : L2.St} {H : Hp} {fr : Fr} {h : Hh} {x y : V} {d e z : D} {Q : VK} (R : Rel X.K T B w σ H fr h) (rx : bA X.K T w x d) (ry : bA X.K T w y e) (q : qN tab h d e = some z)
 (kk : ∀ w' H' v, w.le w' → Rel X.K T B w' σ H' fr h → vV X.K T B σ w' H' fr v z → Q v H') : cM X (.builtin "isinstance") [x, y] H Q := by
 unfold qN at q
 cases et : d.tag h with
 | none => rw [et] at q; cases q
 | some t =>
   rw [et] at q
   have one : ∀ u, e.ctag = some u → (tab t u).map D.bl = some z → cM X (.builtin "isinstance") [x, y] H Q := fun u ec eq => by
    obtain ⟨bb, eb, rfl⟩ := Option.map_eq_some_iff.mp eq
    exact gR call_isi ⟨x, y, t.v T, u.v T, bb, rfl, JB ry ec, Ii F R (.inl rx) et eb, F.kit t u bb eb, kk w H _ (Wd.le_refl _) R (.bl bb)⟩
   cases e with
   | tup l =>
     dsimp only at q
     cases ec : zL l with
     | none => rw [ec] at q; cases q
     | some us =>
       rw [ec] at q
       cases us with
       | nil => cases q
       | cons u us =>
         obtain ⟨bb, eb, rfl⟩ := Option.map_eq_some_iff.mp q
         obtain ⟨p, vs, rfl, sq, rs⟩ := vY ry
         have ty : TyX X.K H x (t.v T) := by
          rcases Jj eb with z | ⟨u', b', z⟩
          · cases z
          · exact Ii F R (.inl rx) et z
         exact gR Nv ⟨x, p, vs, t.v T, (u :: us).map (Tg.v T), bb, rfl, dI R.sub sq, Gy rs ec, ty, Dr F eb, kk w H _ (Wd.le_refl _) R (.bl bb)⟩
   | cls c => exact one _ rfl q
   | ty t => exact one _ rfl q
   | _ => cases q
def af9 (h : Hh) (d i : D) : Option D := match i with
 | .sl lo hi => match d.der h with
   | .fl l => some (.nl (cutD l lo hi))
   | .nl l => some (.nl (cutD l lo hi))
   | .kl l => some (.nl (cutD l lo hi))
   | _ => none
 | i => aP h d i
end
end Pk
namespace Pk
open PySem PySem.Spec L2
section
variable {X : Cx} {T : Tb} {W : WX} {k kk j n c : Nat} {pos pf px p2 p pr : Pos} {a b e : Expr} {es : List Expr} {ma mb m : M D} {ms : List (M D)} {x : Str}
def Qo (a b : Int) : Bool := decide (-(2 ^ 62) ≤ a) && decide (a < 2 ^ 62) && decide (-(2 ^ 62) ≤ b) && decide (b < 2 ^ 62) && decide ((b - a).toNat ≤ 2 ^ 24)
theorem aar {a b : Int} (h : Qo a b = true) : RgOk a b := by
 unfold Qo at h
 simp only [Bool.and_eq_true, decide_eq_true_eq] at h
 exact ⟨h.1.1.1.1, h.1.1.1.2, h.1.1.2, h.1.2, h.2⟩
def ZV (a b : Int) : List D := (aiJ (b - a).toNat).map fun i => D.int (a + (i : Nat))
theorem Wn {K : PySem.W.Frag} {w : Wd} {a : Int} : ∀ l : List Nat, au K T w (l.map fun i => V.int (a + (i : Nat))) (l.map fun i => D.int (a + (i : Nat)))
 | [] => .nil
 | _ :: l => .cons (.int _) (Wn l)
def KZ (x y : D) : Option D := match x, y with
 | .int a, .int b => if Qo a b then some (.nl (ZV a b)) else none
 | _, _ => none
def BV (ma : M D) : M D := ma.bind fun n => M.opt (KZ (.int 0) n)
def aeS (ma mb : M D) : M D := ma.bind fun a => mb.bind fun b => M.opt (KZ a b)
theorem Yb {x y z : D} (h : KZ x y = some z) : ∃ a b, x = .int a ∧ y = .int b ∧ RgOk a b ∧ z = .nl (ZV a b) := by
 unfold KZ at h
 split at h
 · split at h
   · rename_i hk
     cases h
     exact ⟨_, _, rfl, rfl, aar hk, rfl⟩
   · cases h
 · cases h
theorem Yc (C : Cq X T W k) (sa : aV X T W a ma) (hm : X.mg "list" = none) (hmr : X.mg "range" = none) (hg : Gl X "list" := by rfl) (hgr : Gl X "range" := by rfl) (na : starEach [a] X.env = (false, eval a X.env) :: starEach [] X.env := by exact dJ rfl)
 (nb : starEach [(.Call (.Name "range" pr) [a] [] p2 : Expr)] X.env = (false, eval (.Call (.Name "range" pr) [a] [] p2) X.env) :: starEach [] X.env := by exact dJ rfl) : pX X T W (.Call (.Name "list" pf) [.Call (.Name "range" pr) [a] [] p2] [] pos) (BV ma) := fun B w σ H fr h Q R p =>
 eE (pe_listRg C.calm hg hm (prg_1 hgr hmr bj na) nb) (sa B w σ H fr h _ R (aW.bind (VR := vV X.K T B σ) p fun d fr1 h1 w1 H1 v e1 l1 r1 rd p1 => by
  cases q : KZ (.int 0) d with
  | none => rw [q] at p1; exact p1.elim
  | some z =>
    rw [q] at p1
    obtain ⟨a', b', e1, e2, ok, rfl⟩ := Yb q
    cases e1
    subst e2
    exact ⟨b', je rd, ok, fun q nq => yt r1 (Wn _) nq p1⟩))
def ahn (i : Nat) (f : Int → Int → Int) (m : M D) : M Fl := fun fr h => match fr[i]? with
 | some (some (.int a)) => (m.bind fun d fr h => match d with
   | .int b => .ok .nx (fr.set i (some (.int (f a b)))) h
   | _ => .err) fr h
 | _ => .err
def aeb (d : D) : Option D := match d with
 | .str y => if y.length ≤ big then some (.str y) else none
 | .int i => if i.natAbs.log2 < 1920 then some (.str (toString i)) else none
 | _ => none
def aho (m : M D) : M D := m.bind fun d => M.opt (aeb d)
def vS : jw Str Str := fun _ _ _ _ _ _ _ b c => b = c
def mJs : List (M D) → Str → M Str
 | [], acc => M.ret acc
 | m :: ms, acc => m.bind fun d => match d with
   | .str y => if (acc ++ y).length ≤ big then mJs ms (acc ++ y) else M.opt none
   | _ => M.opt none
def ahp (X : Cx) (T : Tb) (W : WX) (es : List Expr) (ms : List (M D)) : Prop := ∀ acc, fX (fun σ H Q => tJs (es.map fun e => (WE X e : TE)) acc σ H Q) X.K T W vS (mJs ms acc)
def aga (ms : List (M D)) : M D := (mJs ms Str.empty).bind fun s => M.ret (.str s)
end
structure WM (X : Cx) (cs : List MatchCase) (z : Str) (D : Ends) (σ : L2.St) (H : Hp) : Prop where
 go : ∀ pins s t first, Inv X pins σ H s → wpAny (model X.prog X.w) X.A (matchCases cs X.env (.str z t) first) (SP X pins D) X.xe s
structure ahq (X : Cx) (p : Pattern) (ss : List Str) : Prop where
 go : ∀ (z : Str) pins (σ : L2.St) (H : Hp) s t (R : Option (List (Str × Value)) → Shared → Prop), Inv X pins σ H s → (∀ s', Inv X pins σ H s' → R (if ss.contains z then some [] else none) s') → wpAny (model X.prog X.w) X.A (matchPattern p X.env (.str z t)) R X.xe s
structure agb (X : Cx) (ps : List Pattern) (ss : List Str) : Prop where
 go : ∀ (z : Str) pins (σ : L2.St) (H : Hp) s t (R : Option (List (Str × Value)) → Shared → Prop), Inv X pins σ H s → (∀ s', Inv X pins σ H s' → R (if ss.contains z then some [] else none) s') → wpAny (model X.prog X.w) X.A (matchFirst ps X.env (.str z t)) R X.xe s
section
variable {X : Cx} {T : Tb} {W : WX} {pos p2 : Pos} {e : Expr} {m : M D} {cs : List MatchCase} {ms : List (List Str × M Fl)} {body : List Stmt} {mb : M Fl} {pt : Pattern} {pts : List Pattern} {ss ts : List Str} {y : Str} {jj : Nat}
def ahr (X : Cx) (T : Tb) (W : WX) (cs : List MatchCase) (m : Str → M Fl) : Prop := ∀ z, ∀ (B : Bs) (w : Wd) (σ : L2.St) (H : Hp) (fr : Fr) (h : Hh) (D : Ends), Rel X.K T B w σ H fr h → cP X.K T B W w (m z fr h) D → WM X cs z D σ H
def ab8 : List (List Str × M Fl) → Str → M Fl
 | [], _ => M.ret .nx
 | (ss, b) :: r, z => if ss.contains z then b else ab8 r z
def aeT (m : M D) (f : Str → M Fl) : M Fl := m.bind fun d => match d with
 | .str z => f z
 | _ => fun _ _ => .err
end
end Pk
namespace Pk
open PySem PySem.Spec L2
section
variable {X : Cx} {T : Tb} {W : WX} {k : Nat} {pos pf : Pos} {a : Expr} {ma : M D}
def agc (_ : Hh) (d : D) : Option D := match d with
 | .int i => if i.natAbs.log2 < 1920 then some (.str (toString i)) else none
 | .str z => some (.str z)
 | _ => none
end
end Pk
namespace Pk
open PySem PySem.Spec L2
section
variable {X : Cx} {T : Tb} {W : WX} {k j : Nat} {pos : Pos} {a b : Expr} {ma mb : M D}
end
end Pk
namespace Pk
open PySem PySem.Spec PyProof.Rows L2
section
variable {prog : Program} {w : World} {A : Around} {E : Value → Shared → Prop} {s : Shared} {l : Addr} {its : List Value} {ns : List Int} {Q : Value → Shared → Prop}
theorem aas (hh : A.handled = none) (hl : PyProof.Rows.IsTup s.heap l its.toArray) (hi : IntsAre its ns)
 (h : ∀ h' tk t', (∀ b o, s.heap.get? b = some o → h'.get? b = some o) → Q (.int ns.sum t') { s with heap := h', toks := tk }) : wpAny (model prog w) A (call (.builtin "sum") [.ref l]) Q E s := by
 obtain ⟨xs, e⟩ := hi.allInts.items
 have hn : numsOf (intItems xs).toList = ns := by rw [← e]; exact hi.numsOf
 rw [nums_intItems] at hn
 rw [e] at hl
 refine PySem.W.ktm_sumG hh hl fun h' tk t' hk => ?_
 have := h h' tk t' hk
 rw [preSum_eq, List.take_of_length_le (by simp), hn]; exact this
end
def ade (K : PySem.W.Frag) : List V → Hp → VK → Prop := fun vs H Q => ∃ (a : Addr) (ns : List Int), vs = [V.ref a] ∧ SqT K H a (ns.map V.int) ∧ Q (.int ns.sum) H
theorem aat {X : L2.Cx} (hc : X.calm = true) : CallR X (.builtin "sum") (ade X.K) := by
 intro pins s σ H vs us Q I r h
 obtain ⟨a, ns, rfl, hs, q⟩ := h
 obtain ⟨its, rv, hl, _⟩ := I.tuple hs
 rw [Vals.ref1 r]
 exact aas (I.ok.hd hc) hl rv.ints fun h' tk t' hk => ⟨.int _, H, I.kept hk, ⟨_, rfl⟩, q⟩
section
variable {X : Cx} {T : Tb} {W : WX} {k : Nat} {e a b c : Expr} {es : List Expr} {m ma mb mc : M D} {pos pf : Pos}
def zR (h : Hh) (d : D) : Option D := match d with
 | .tup l => (D.ints l).map fun l => .int l.sum
 | _ => XQ h d
theorem Tj (C : Cq X T W k) (sa : z9 X T W a ma) (hm : X.mg "sum" = none) (hg : Gl X "sum" := by rfl) (he : starEach (a :: []) X.env = (false, eval a X.env) :: starEach [] X.env := by exact dJ rfl) : aV X T W (.Call (.Name "sum" pf) [a] [] pos) (aC zR ma) :=
 XN (id := "sum") sa (fun B w σ H fr h x d z Q R rx q kk => by
  unfold zR at q
  split at q
  · rename_i l
    obtain ⟨ls, el, rfl⟩ := Option.map_eq_some_iff.mp q
    rcases rx with rx | ⟨_, _, _, _, rr⟩
    · obtain ⟨p, vs, rfl, sq, rl⟩ := vY rx
      rw [ints_map el] at rl
      rw [rl.ints] at sq
      exact gR (aat C.calm) ⟨p, ls, rfl, dI R.sub sq, kk w H _ (Wd.le_refl _) R (.int _)⟩
    · cases rr
  · obtain ⟨l, el, rfl⟩ := Option.map_eq_some_iff.mp q
    obtain ⟨p, rfl, sq⟩ := Wb R rx el
    exact gR (cr_sum C.calm) ⟨p, l, rfl, sq, kk w H _ (Wd.le_refl _) R (.int _)⟩) hm hg (by decide +kernel) (by decide) (by decide) he
end
end Pk
namespace PySem
namespace OwA
open PySem.W PySem.Calls PyProof.Rows
section
variable {prog : Program} {w : World} {A : Around} {E : Value → Shared → Prop} {s : Shared} {K : Frag} {x C L f : Addr} {h₀ : Heap} {m : Str → Option Value} {ox : Obj} {od : Option Obj}
end
end OwA
end PySem
namespace Pk
open PySem PySem.Spec L2
section
variable {X : Cx} {T : Tb} {W : WX} {k j : Nat} {pos pf : Pos} {a b : Expr} {ma mb : M D}
def ahs (mt : Nat → Option Fn) (ma : M D) : M D := ma.bind fun o => JG mt o []
def agd (K : PySem.W.Frag) (C : Addr) (f : Str) (i : Int) : Bool := Qi K C && (match PySem.W.findCls K (.ref C) (.type "type") f with
 | some (.val (.int j _)) => decide (j = i)
 | _ => false)
end
end Pk
namespace PySem
namespace OwO
open PySem.W PySem.Calls PyProof.Rows
section
variable {prog : Program} {w : World} {A : Around} {E : Value → Shared → Prop} {s : Shared} {x C dx : Addr}
end
structure NmOk (nm : String) : Prop where
 n0 : fillsNumberSlot (.type "NoneType") nm = pure false
 n1 : fillsNumberSlot (.type "str") nm = pure false
 n2 : fillsNumberSlot (.type "list") nm = pure false
 n3 : fillsNumberSlot (.type "tuple") nm = pure false
 i0 : fillsNumberSlot (.type "int") nm = pure true
 b0 : fillsNumberSlot (.type "bool") nm = pure true
 i1 : numberSlotInPython (.type "int") nm = pure false
 b1 : numberSlotInPython (.type "bool") nm = pure false
 i2 : ∃ tk, typeLookup (.type "int") (dunderR nm) = pure tk
 b2 : ∃ tk, typeLookup (.type "bool") (dunderR nm) = pure tk
 ti : ∀ (prog : Program) (w : World) (A : Around) (E : Value → Shared → Prop) (s : Shared) (x C dx : Addr) (a : Int) (t : Tok), s.heap.get? x = some (instObj C dx) → ∀ P' : Option Value → Shared → Prop, P' none s → wpAny (model prog w) A (tryMethod (.int a t) (PySem.dunder nm) (.ref x)) P' E s
 tb : ∀ (prog : Program) (w : World) (A : Around) (E : Value → Shared → Prop) (s : Shared) (x C dx : Addr) (a : Bool), s.heap.get? x = some (instObj C dx) → ∀ P' : Option Value → Shared → Prop, P' none s → wpAny (model prog w) A (tryMethod (.bool a) (PySem.dunder nm) (.ref x)) P' E s
end OwO
end PySem
namespace Pk
open PySem PySem.Spec L2
structure OpF (X : Cx) (T : Tb) (k : Nat) (nm : String) (mt : Nat → Option Fn) : Prop where
 ok : PySem.OwO.NmOk nm
 ex : ∀ c F, mt c = some F → ∃ (kk : Nat) (f : Addr) (fd : FuncData) (ps : List Str), Cls X.K (T.cad c) ∧ Meth X.K (T.cad c) (PySem.dunder nm) f ∧ PySem.W.selfFirst X.K (T.cad c) = true ∧ nu X.prog X.w X.K X.mg X.base T kk f fd ps F ∧ Bn X.K T fd ps 2 [] (bh []) ∧ kk ≤ k ∧
  ∃ g, PySem.W.findIn X.K (.ref (T.cad c)) (PySem.dunderR nm) = some (some (.ref g))
structure aht (X : Cx) (T : Tb) (k : Nat) (nm : String) (mt : Nat → Option Fn) : Prop where
 ex : ∀ c F, mt c = some F → ∃ (kk : Nat) (f : Addr) (fd : FuncData) (ps : List Str), Cls X.K (T.cad c) ∧ Meth X.K (T.cad c) (PySem.dunderR nm) f ∧ PySem.W.selfFirst X.K (T.cad c) = true ∧ nu X.prog X.w X.K X.mg X.base T kk f fd ps F ∧ Bn X.K T fd ps 2 [] (bh []) ∧ kk ≤ k ∧
  (∃ g, PySem.W.findIn X.K (.ref (T.cad c)) (PySem.dunder nm) = some (some (.ref g))) ∧ PySem.W.subIn X.K (.ref (T.cad c)) (.type "int") = some false ∧ PySem.W.subIn X.K (.ref (T.cad c)) (.type "bool") = some false
def adf (mtl mtr : Nat → Option Fn) (h : Hh) (x y : D) : Option (Fn × Bool) := match UJ h x y with
 | some c => (mtl c).map fun F => (F, false)
 | none => match fnOf mtl h x, y.bty h with
   | some F, some _ => some (F, false)
   | _, _ => match fnOf mtr h y, x.smp with
     | some F, true => some (F, true)
     | _, _ => none
def ahu (mtl mtr : Nat → Option Fn) (ma mb : M D) : M D := ma.bind fun x => mb.bind fun y fr h => match adf mtl mtr h x y with
 | some (F, false) => oK fr (F [x, y] h)
 | some (F, true) => oK fr (F [y, x] h)
 | none => .err
section
variable {X : Cx} {T : Tb} {W : WX} {k : Nat} {a b : Expr} {ma mb : M D} {pos : Pos} {op : Operator}
def Qp (X : Cx) (T : Tb) (W : WX) (k : Nat) (σ : L2.St) (f : Addr) (x y : V) (H2 : Hp) (Q : VK) : Prop :=
 ∃ (kk : Nat) (fd : FuncData) (ps : List Str) (G : Fn), nu X.prog X.w X.K X.mg X.base T kk f fd ps G ∧ Bn X.K T fd ps 2 [] (bh []) ∧ kk ≤ k ∧
   ∀ g gV, KBn X.K fd ps 2 [] g gV → (∀ (w : Wd) (vs zs : List V) (ds es : List D), au X.K T w vs ds → au X.K T w zs es → ds.length = 2 → es.length = ([] : List Str).length → au X.K T w (gV vs zs) (bh [] ds es) ∧ (bh [] ds es).length = ps.length) →
     spF X.K T ps.length G (gV [x, y] []) H2 Q (fun c d H' => W c d σ H')
def aeU (X : Cx) (T : Tb) (W : WX) (k : Nat) (op : Operator) (σ : L2.St) (x y : V) (H2 : Hp) (Q : VK) : Prop :=
 (∃ (p1 p2 C dx dy f : Addr) (fs gs : List (Str × V)), x = .ref p1 ∧ y = .ref p2 ∧ H2 p1 = some (.ins C dx fs) ∧ H2 p2 = some (.ins C dy gs) ∧ Meth X.K C (PySem.dunder op.info.2) f ∧ PySem.W.selfFirst X.K C = true ∧ Qp X T W k σ f x y H2 Q) ∨
 (∃ (p1 C dx f g : Addr) (fs : List (Str × V)) (t : String), x = .ref p1 ∧ H2 p1 = some (.ins C dx fs) ∧ TyX X.K H2 y (.type t) ∧ t ∈ Dq ∧ Meth X.K C (PySem.dunder op.info.2) f ∧ PySem.W.selfFirst X.K C = true ∧ PySem.W.findIn X.K (.ref C) (PySem.dunderR op.info.2) = some (some (.ref g)) ∧ Qp X T W k σ f x y H2 Q) ∨
 (∃ (p1 C dx f g : Addr) (fs : List (Str × V)), y = .ref p1 ∧ H2 p1 = some (.ins C dx fs) ∧ (x = .non ∨ (∃ bb, x = .bl bb) ∨ ∃ i, x = .int i) ∧ Meth X.K C (PySem.dunderR op.info.2) f ∧ PySem.W.selfFirst X.K C = true ∧ PySem.W.findIn X.K (.ref C) (PySem.dunder op.info.2) = some (some (.ref g)) ∧ PySem.W.subIn X.K (.ref C) (.type "int") = some false ∧ PySem.W.subIn X.K (.ref C) (.type "bool") = some false ∧ Qp X T W k σ f y x H2 Q)
end
end Pk
namespace Pk
open PySem PySem.Spec L2
def D.lstP (h : Hh) (d : D) : Option (List PyData) := match d.der h with
 | .fl l => D.toPs l
 | .nl l => D.toPs l
 | .kl l => D.toPs l
 | _ => none
section
variable {K : PySem.W.Frag} {T : Tb} {B : Bs} {w : Wd} {σ : L2.St} {H : Hp} {fr : Fr} {h : Hh} {v : V} {d : D} {ps : List PyData}
theorem JK (R : Rel K T B w σ H fr h) (z : vO K T B σ w H fr v d) (e : d.lstP h = some ps) : ∃ (a : Addr) (vs : List V), v = .ref a ∧ SqL K H a vs ∧ DpAll K H vs ps := by
 rcases z with z | ⟨p, o, rfl, eH, z⟩
 · cases z with
   | fl s r => exact ⟨_, _, rfl, SqL.of (R.sub _ _ s), sW R.sub r e⟩
   | kl s r => exact ⟨_, _, rfl, fL R.sub s, sW R.sub r e⟩
   | @ref a n s =>
     have ln : n < h.length := by
      rw [← R.len]
      exact (List.getElem?_eq_some_iff.mp s).1
     obtain ⟨o, q, rr⟩ := R.cel n a h[n] s (aiO ln)
     have e0 : D.der h (.ref n) = h[n] := by
      unfold D.der
      dsimp only
      rw [aiO ln]
      rfl
     unfold D.lstP at e
     rw [e0] at e
     generalize h[n] = cc at rr e
     cases rr with
     | lst r => exact ⟨_, _, rfl, SqL.of q, sW R.sub r e⟩
     | obj r => cases e
     | dct _ r => cases e
     | dkt _ r => cases e
     | so0 _ => cases e
     | so1 _ _ => cases e
     | hid0 => cases e
     | hid1 => cases e
   | non => cases e
   | bl _ => cases e
   | int _ => cases e
   | str _ => cases e
   | tup _ _ => cases e
   | obj _ _ => cases e
   | cls _ => cases e
   | ty _ => cases e
   | sl _ => cases e
   | tp _ _ => cases e
 · cases z with
   | lst r => exact ⟨_, _, rfl, SqL.of eH, sW R.sub r e⟩
   | obj r => cases e
end
section
variable {X : Cx} {T : Tb} {W : WX} {k : Nat}
def Af (h : Hh) (x y : D) : Option Bool := match x.toP, y.lstP h with
 | some p, some ps => if SeqAt.shaped p && SeqAt.shaped (.list ps) then some (ps.any fun z => PyData.eqv z p) else none
 | _, _ => none
def age (h : Hh) (x y : D) : Option Bool := (Af h x y).map (!·)
theorem Wo {h : Hh} {x y : D} {c : Bool} (q : Af h x y = some c) : ∃ p ps, x.toP = some p ∧ y.lstP h = some ps ∧ SeqAt.shaped p = true ∧ SeqAt.shaped (.list ps) = true ∧ c = ps.any fun z => PyData.eqv z p := by
 unfold Af at q
 split at q
 · rename_i p ps e1 e2
   split at q
   · rename_i hs
     obtain ⟨h1, h2⟩ := Bool.and_eq_true_iff.mp hs
     cases q
     exact ⟨p, ps, e1, e2, h1, h2, rfl⟩
   · cases q
 · cases q
theorem Tn (C : Cq X T W k) : rY X T vO .In Af := fun B w σ H fr h x y d e c Q R rx ry q kk => by
 obtain ⟨p, ps, e1, e2, s1, s2, rfl⟩ := Wo q
 obtain ⟨a, vs, rfl, sq, dp⟩ := JK R ry e2
 exact qY (op_inD (by have := C.u; omega)) ⟨p, ps, zE R.sub rx e1, .lst sq dp, s1, s2, kk⟩
def pC (h : Hh) (o x : D) : Option D := match x.toP, o.lstP h with
 | some p, some ps => if SeqAt.shaped p && SeqAt.shaped (.list ps) then (ps.findIdx? fun z => PyData.eqv z p).map (fun j => .int (j : Nat)) else none
 | _, _ => none
theorem Qq {h : Hh} {o x : D} {z : D} (q : pC h o x = some z) : ∃ p ps j, x.toP = some p ∧ o.lstP h = some ps ∧ SeqAt.shaped p = true ∧ SeqAt.shaped (.list ps) = true ∧ (ps.findIdx? fun z => PyData.eqv z p) = some j ∧ z = .int (j : Nat) := by
 unfold pC at q
 split at q
 · rename_i p ps e1 e2
   split at q
   · rename_i hs
     obtain ⟨h1, h2⟩ := Bool.and_eq_true_iff.mp hs
     obtain ⟨j, ej, rfl⟩ := Option.map_eq_some_iff.mp q
     exact ⟨p, ps, j, e1, e2, h1, h2, ej, rfl⟩
   · cases q
 · cases q
def wZ (mo m : M D) : M D := mo.bind fun o fr h => if (o.lstP h).isSome then m.bind (fun x fr h => M.opt (pC h o x) fr h) fr h else .err
variable {e o : Expr} {m mo : M D} {cpos apos : Pos}
theorem Qs (C : Cq X T W k) (so : aV X T W o mo) (s : aV X T W e m)
 (hbase : attributeBase o "index" X.env (eval o X.env) = eval o X.env := by rfl)
 (hfew : ((backTo cpos (starEach (e :: []) X.env)).all (fun x => !x.1) && (backToKw cpos (keywordEach [] X.env)).all (fun x => x.1.isSome)
  && decide ((e :: []).length + ([] : List Keyword).length + (if ([] : List Keyword).isEmpty then 0 else 1) < 30)) = true := by rfl)
 (hline : (apos.endLine == cpos.line) = true := by rfl) (hs : starEach (e :: []) X.env = (false, eval e X.env) :: starEach [] X.env := by exact dJ rfl) (hplain : (backTo cpos (starEach [] X.env)).any (·.1) = false := by rfl) :
 aV X T W (.Call (.Attribute o "index" apos) [e] [] cpos) (wZ mo m) := fun B w σ H fr h Q R p => by
 refine eE (pe_bm PySem.F.plainAttrs_list PySem.F.slot_list_index PySem.F.type_list_index (mt_indexD (by have := C.u; omega)) bj (pa_cons bj pa_nil hs) hbase hfew hline hs hplain) (so B w σ H fr h _ R (aW.bind (VR := vV X.K T B σ) p fun od fr0 h0 w0 H0 ov e0 l0 r0 ro p0 => ?_))
 have p0' : aW X.K T B W (vV X.K T B σ) w0 σ (if (od.lstP h0).isSome then m.bind (fun x fr h => M.opt (pC h od x) fr h) fr0 h0 else .err) Q := p0
 cases ei : od.lstP h0 with
 | none =>
   rw [ei] at p0'
   exact (show False from p0').elim
 | some ps0 =>
   rw [ei, Option.isSome_some, if_pos rfl] at p0'
   obtain ⟨a0, vs0, rfl, sq0, dp0⟩ := JK r0 (.inl ro) ei
   refine ⟨.inl ⟨rfl, vs0, sq0⟩, s B w0 σ H0 fr0 h0 _ r0 (aW.bind (VR := vV X.K T B σ) p0' fun x fr2 h2 w2 H2 y e2 l2 r2 ry p2 => ?_)⟩
   have p2' : aW X.K T B W (vV X.K T B σ) w2 σ (M.opt (pC h2 od x) fr2 h2) Q := p2
   cases q : pC h2 od x with
   | none => rw [q] at p2'; exact p2'.elim
   | some z =>
     rw [q] at p2'
     obtain ⟨p, ps, j, e1, e3, s1, s2, ej, rfl⟩ := Qq q
     obtain ⟨a, vs, ea, sq, dp⟩ := JK r2 (.inl (ro.mono l2)) e3
     obtain ⟨hj, hp, hno⟩ := List.findIdx?_eq_some_iff_getElem.mp ej
     exact ⟨a0, y, p, ps, j, ps[j], rfl, rfl, by cases ea; exact .lst sq dp, zE r2.sub ry e1, s2, s1, aiO hj, hp, fun m' z' hm ez => by
      have hl : m' < ps.length := by omega
      rw [aiO hl] at ez
      cases ez
      have := hno m' hm
      simpa using this, p2' w2 H2 _ (Wd.le_refl _) r2 (.int _)⟩
end
end Pk
namespace Pk
open PySem PySem.Spec L2
def ahv (ix : Nat → Option Nat) (x : D) : M D := fun fr h => M.opt (bL ix h x) fr h
section
variable {X : Cx} {T : Tb} {W : WX} {k j : Nat} {apos pos : Pos} {o b : Expr} {mo mb : M D} {f : Str} {ix : Nat → Option Nat}
end
end Pk
namespace Pk
open PySem PySem.Spec L2
def ZW : jw It (Nat × List D × List D) := fun K T _ _ w _ _ J x => ∀ i w1 B1 σ1 H1 fr1 h1, w.le w1 → Rel K T B1 w1 σ1 H1 fr1 h1 → h1[x.1]? = some (.nl x.2.1) →
 (x.2.2.length ≤ i → J.stop i H1) ∧ ∀ d, x.2.2[i]? = some d → J.go i H1 ∧ ∀ y H2, J.yld i H1 y H2 → ∃ w2, w1.le w2 ∧ Rel K T B1 w2 σ1 H2 fr1 h1 ∧ bA K T w2 y d
open Classical in
noncomputable def ju (n : Nat) (l : List D) (vs : List Nat) (g : D → M Unit) (t : M Bool) (e : M D) : List D → M (List D)
 | [] => fun fr h => if h[n]? = some (.nl l) then .ok [] fr h else .err
 | d :: ds => fun fr h => if h[n]? = some (.nl l) then ((dM vs g t e d).bind fun o => (ju n l vs g t e ds).bind fun r => M.ret (qb o r)) fr h else .err
noncomputable def DN (vs : List Nat) (l : M (Nat × List D × List D)) (g : D → M Unit) (t : M Bool) (e : M D) : M D := l.bind fun x => (Dm vs).bind fun _ => if x.2.2.length ≤ big then (ju x.1 x.2.1 vs g t e x.2.2).bind fun r => M.ret (.nl r) else M.opt none
section
variable {X : Cx} {T : Tb} {W : WX} {k : Nat} {pos pos' : Pos} {tg iter elt c e : Expr} {ifs : List Expr} {li : M (Nat × List D × List D)} {g : D → M Unit} {b : M Fl} {is : List Nat} {t : M Bool} {m me : M D} {scope : Scope} {own : List (Str × Nat)} {body : List Stmt}
theorem ab9 (s : aV X T W e m) : fX (WI X tg e) X.K T W ZW (DK m) := fun B w σ H fr h Q r p => Dk (Wc bj) (s B w σ H fr h _ r (aW.bind (VR := vV X.K T B σ) p fun d fr1 h1 w1 H1 x e1 l1 r1 rx p1 => by
 cases q : jO h1 d with
 | none => rw [q] at p1; exact p1.elim
 | some z =>
   obtain ⟨n, l⟩ := z
   rw [q] at p1
   obtain ⟨rfl, hc⟩ := ye q
   cases rx with
   | @ref a n1 s1 =>
     obtain ⟨vs, sq, rv⟩ := qd r1 s1 hc
     refine ⟨a, rfl, .inr ⟨⟨vs, sq⟩, p1 w1 H1 (Itl X.K a) (Wd.le_refl _) r1 fun i w3 B3 σ3 H3 fr3 h3 l3 r3 hc3 => ?_⟩⟩
     obtain ⟨vs3, sq3, rv3⟩ := qd r3 (KY l3 s1) hc3
     refine ⟨fun hi => ⟨vs3, sq3, by rw [rv3.length]; exact hi⟩, fun d' hd => ?_⟩
     obtain ⟨v, hv, rv⟩ := rv3.get hd
     refine ⟨⟨vs3, v, sq3, hv⟩, fun y H4 hy => ?_⟩
     obtain ⟨rfl, hy⟩ := hy
     have z := hy vs3 sq3
     rw [hv] at z
     cases z
     exact ⟨w3, Wd.le_refl _, r3, rv⟩))
theorem aau {B : Bs} {w : Wd} {σ : L2.St} {H : Hp} {fr : Fr} {h : Hh} {Q : VK} (si : fX (WI X tg iter) X.K T W ZW li) (hi : ∀ i ∈ is, i ∈ own.map (·.2))
 (sg : ∀ (s : Shared) (H0 : Hp) (C : Addr) (cl : List (Str × Addr)) (fp : List Addr), uJ (X.blk s H0 scope (compEnvC scope cl C X.env) fp) T is tg g)
 (st : ∀ (s : Shared) (H0 : Hp) (C : Addr) (cl : List (Str × Addr)) (fp : List Addr), fX (Gn (X.blk s H0 scope (compEnvC scope cl C X.env) fp) ifs) X.K T WF vB t)
 (se : ∀ (s : Shared) (H0 : Hp) (C : Addr) (cl : List (Str × Addr)) (fp : List Addr), aV (X.blk s H0 scope (compEnvC scope cl C X.env) fp) T WF elt me)
 (R : Rel X.K T B w σ H fr h) (p : aW X.K T B W (vE X.K T B σ) w σ (DN (own.map (·.2)) li g t me fr h) Q) : tLc (WI X tg iter) (GB X scope tg) (TB X scope ifs) (EB X scope elt) (own.map (·.2)) σ H Q := by
 refine si B w σ H fr h _ R (aW.bind (VR := ZW X.K T B σ) p fun xx fr0 h0 w1 H1 J e1 l1 r0 vj p0 => ?_)
 obtain ⟨n, l, ds⟩ := xx
 generalize hvs : own.map (·.2) = vs at hi p0 ⊢
 intro A0 nD
 have p1 : aW X.K T B W (vE X.K T B σ) w1 σ ((if ds.length ≤ big then (ju n l vs g t me ds).bind fun r => M.ret (.nl r) else M.opt none) (dO fr0 vs) h0) Q := p0
 by_cases hb : ds.length ≤ big
 · rw [if_pos hb] at p1
   have rD := r0.temp (o := .lst []) nD
   have OD : Own B w1 A0 := r0.own_new nD
   refine ⟨fun i m H => m = ds.length - i ∧ i ≤ ds.length ∧ ∃ w' fr' h' acc vs', w1.le w' ∧ au X.K T w' vs' acc ∧ acc.length ≤ i ∧ Rel X.K T (B.pr A0 (.lst vs')) w' (wipe σ vs) H fr' h' ∧ (∀ j ∈ vs, ∀ d, fr'[j]? ≠ some (some d)) ∧
    aW X.K T B W (vE X.K T B σ) w' σ (((ju n l vs g t me (ds.drop i)).bind fun r => M.ret (D.nl (acc ++ r))) fr' h') Q, ⟨ds.length, by simp, Nat.zero_le _, w1, dO fr0 vs, h0, [], [], Wd.le_refl _, .nil, Nat.zero_le _,
     (rD.wipe vs).protect OD (fun i ⟨z1, dd, z2, z3⟩ => r0.loose_new nD i (by
      by_cases hj : i ∈ vs
      · exact absurd z2 (jP hj)
      · rw [wW hj] at z2
        rw [wipe_out hj] at z1
        exact ⟨z1, dd, z2, z3⟩)) upd_same, fun j hj d => jP hj, p1⟩, ?_⟩
   rintro i m H2 ⟨rfl, hil, w2, fr2, h2, acc, us, l2, ra, la, r2, hw2, p2⟩
   have hP := OD.p
   by_cases hc : h2[n]? = some (.nl l)
   case neg =>
    exfalso
    have q : ju n l vs g t me (ds.drop i) fr2 h2 = .err := by cases ds.drop i <;> (unfold ju; rw [if_neg hc])
    rw [M.bind_err q] at p2
    exact p2.elim
   obtain ⟨js, jg⟩ := vj i w2 (B.pr A0 (.lst us)) (wipe σ vs) H2 fr2 h2 l2 r2 hc
   by_cases hlt : i < ds.length
   · obtain ⟨go, y⟩ := jg ds[i] (aiO hlt)
     have ed : ds.drop i = ds[i] :: ds.drop (i + 1) := List.drop_eq_getElem_cons hlt
     rw [ed] at p2
     refine .inr ⟨go, fun H' => ∃ w' fr' h' acc vs', w1.le w' ∧ au X.K T w' vs' acc ∧ acc.length ≤ i + 1 ∧ Rel X.K T (B.pr A0 (.lst vs')) w' (wipe σ vs) H' fr' h' ∧ (∀ j ∈ vs, ∀ d, fr'[j]? ≠ some (some d)) ∧
      aW X.K T B W (vE X.K T B σ) w' σ (((ju n l vs g t me (ds.drop (i + 1))).bind fun r => M.ret (D.nl (acc ++ r))) fr' h') Q, fun H' q => ⟨ds.length - (i + 1), by omega, rfl, hlt, q⟩, fun x H3 yx => ?_⟩
     obtain ⟨w3, l3, r3, rx⟩ := y x H3 yx
     have turn : ∃ o fr' h', dM vs g t me ds[i] fr2 h2 = .ok o fr' h' ∧ aW X.K T B W (vE X.K T B σ) w2 σ (((ju n l vs g t me (ds.drop (i + 1))).bind fun r => M.ret (D.nl (acc ++ qb o r))) fr' h') Q := by
      have p2' : aW X.K T B W (vE X.K T B σ) w2 σ (((dM vs g t me ds[i]).bind fun o => (ju n l vs g t me (ds.drop (i + 1))).bind fun r => M.ret (D.nl (acc ++ qb o r))) fr2 h2) Q := by
       have ee : ((ju n l vs g t me (ds[i] :: ds.drop (i + 1))).bind fun r => M.ret (D.nl (acc ++ r))) fr2 h2 = ((dM vs g t me ds[i]).bind fun o => (ju n l vs g t me (ds.drop (i + 1))).bind fun r => M.ret (D.nl (acc ++ qb o r))) fr2 h2 := by
        have q9 : ju n l vs g t me (ds[i] :: ds.drop (i + 1)) fr2 h2 = ((dM vs g t me ds[i]).bind fun o => (ju n l vs g t me (ds.drop (i + 1))).bind fun r => M.ret (qb o r)) fr2 h2 := by rw [ju]; dsimp only; rw [if_pos hc]
        unfold M.bind at q9 ⊢
        rw [q9]
        cases dM vs g t me ds[i] fr2 h2 with
        | ok o fr' h' => dsimp only; cases ju n l vs g t me (ds.drop (i + 1)) fr' h' <;> rfl
        | exc _ _ _ => rfl
        | err => rfl
       rw [← ee]
       exact p2
      cases q : dM vs g t me ds[i] fr2 h2 with
      | ok o fr' h' =>
        rw [M.bind_ok q] at p2'
        exact ⟨o, fr', h', rfl, p2'⟩
      | exc y fr' h' =>
        exfalso
        unfold dM at q
        split at q
        · split at q
          · split at q <;> cases q
          · cases q
          · cases q
        · cases q
      | err =>
        rw [M.bind_err q] at p2'
        exact p2'.elim
     obtain ⟨o, fro, ho, qt, p3⟩ := turn
     have upw : ∀ {u2 : L2.St} {w' : Wd} {H' : Hp} {fr' : Fr} {h' : Hh} {B' : Bs}, wipe u2 vs = wipe σ vs → Rel X.K T B' w' u2 H' fr' h' → Rel X.K T B' w' (wipe σ vs) H' (dO fr' vs) h' := fun {u2 w' H' fr' h' B'} e R' => by
      rw [← e]
      exact R'.wipe vs
     intro s0 H0 C cl fp
     refine sg s0 H0 C cl fp (B.pr A0 (.lst us)) w3 (wipe σ vs) H3 fr2 h2 x ds[i] _ r3 rx ?_
     unfold dM at qt
     cases q1 : g ds[i] fr2 h2 with
     | exc _ _ _ => rw [q1] at qt; cases qt
     | err => rw [q1] at qt; cases qt
     | ok _ fr3 h3 =>
       rw [q1] at qt
       dsimp only at qt
       intro w4 σ4 H4 l4 r4 k4
       have ew : wipe σ4 vs = wipe σ vs := Jy (k4.1.trans (wipe_length σ vs)) hi k4.2
       refine ⟨ew, fun s0 H0 C cl fp => st s0 H0 C cl fp (B.pr A0 (.lst us)) w4 σ4 H4 fr3 h3 _ r4 ?_⟩
       cases q2 : t fr3 h3 with
       | exc _ _ _ => rw [q2] at qt; cases qt
       | err => rw [q2] at qt; cases qt
       | ok b fr4 h4 =>
         rw [q2] at qt
         intro w5 H5 v l5 r5 rv
         have rv' : v = b := rv
         subst rv'
         cases v with
         | false =>
           dsimp only at qt
           cases qt
           simp only [Bool.false_eq_true, if_false]
           exact ⟨w5, _, _, acc, us, Wd.le_trans l2 (Wd.le_trans l3 (Wd.le_trans l4 l5)), ra.mono (Wd.le_trans l3 (Wd.le_trans l4 l5)), Nat.le_succ_of_le la, upw ew r5, fun j hj d => jP hj, p3.le (Wd.le_trans l3 (Wd.le_trans l4 l5))⟩
         | true =>
           dsimp only at qt
           simp only [if_true]
           intro s0 H0 C cl fp
           refine se s0 H0 C cl fp (B.pr A0 (.lst us)) w5 σ4 H5 fr4 h4 _ r5 ?_
           cases q3 : me fr4 h4 with
           | exc _ _ _ => rw [q3] at qt; cases qt
           | err => rw [q3] at qt; cases qt
           | ok yd fr5 h5 =>
             rw [q3] at qt
             cases qt
             intro w6 H6 yv l6 r6 ry
             have hD6 : H6 A0 = some (.lst us) := (r6.prot (A0, .lst us) (aiX)).1
             have lall : w2.le w6 := Wd.le_trans l3 (Wd.le_trans l4 (Wd.le_trans l5 l6))
             refine ⟨us, hD6, ?_, w6, _, _, acc ++ [yd], us ++ [yv], Wd.le_trans l2 lall, (ra.mono lall).append (.cons ry .nil), ?_, (upw ew r6).repr OD.e OD.p, fun j hj d => jP hj, ?_⟩
             · rw [ra.length]
               have : big < sizeLine := by decide
               omega
             · rw [aiT]
               show acc.length + 1 ≤ i + 1
               omega
             · have e9 : ∀ r : List _, acc ++ qb (some yd) r = acc ++ [yd] ++ r := fun r => by
                show acc ++ yd :: r = _
                rw [ai8]
                rfl
               simp only [e9] at p3
               exact p3.le lall
   · have e : i = ds.length := by omega
     subst e
     rw [List.drop_length] at p2
     obtain ⟨r3, O3, lo3, eD⟩ := r2.unprotect OD.e OD.p
     refine .inl ⟨js (Nat.le_refl _), ?_⟩
     have p3 : aW X.K T B W (vE X.K T B σ) w2 σ (.ok (D.nl (acc ++ [])) fr2 h2) Q := by
      have q : ju n l vs g t me [] fr2 h2 = .ok [] fr2 h2 := by unfold ju; rw [if_pos hc]
      rw [M.bind_ok q] at p2
      exact p2
     rw [aiQ] at p3
     have r4 : Rel X.K T B w2 σ H2 fr2 h2 := r3.refr (by rw [← wipe_length σ vs]; exact r3.fl) fun j d ej => ⟨ej, by
      by_cases hj : j ∈ vs
      · exact absurd ej (hw2 j hj d)
      · exact (wipe_out hj).symm⟩
     refine p3 w2 H2 (.ref A0) (Wd.le_refl _) r4 (.inr ⟨A0, _, rfl, O3, fun j ⟨z1, dd, z2, z3⟩ => lo3 j ⟨?_, dd, z2, z3⟩, eD, .lst ra⟩)
     by_cases hj : j ∈ vs
     · exact absurd z2 (hw2 j hj dd)
     · rw [wipe_out hj]
       exact z1
 · rw [if_neg hb] at p1
   exact p1.elim
theorem aca (C : Cq X T W k) (own : List (Str × Nat)) (si : fX (WI X tg iter) X.K T W ZW li) (hi : ∀ i ∈ is, i ∈ own.map (·.2))
 (sg : ∀ (s : Shared) (H0 : Hp) (C : Addr) (cl : List (Str × Addr)) (fp : List Addr), uJ (X.blk s H0 scope (compEnvC scope cl C X.env) fp) T is tg g)
 (st : ∀ (s : Shared) (H0 : Hp) (C : Addr) (cl : List (Str × Addr)) (fp : List Addr), fX (Gn (X.blk s H0 scope (compEnvC scope cl C X.env) fp) ifs) X.K T WF vB t)
 (se : ∀ (s : Shared) (H0 : Hp) (C : Addr) (cl : List (Str × Addr)) (fp : List Addr), aV (X.blk s H0 scope (compEnvC scope cl C X.env) fp) T WF elt me)
 (ok : BlkOk X.N X.env.scope scope own) (hs : ∀ x, foldedSetIterable iter X.env x = pure x := by intro _; rfl) : pX X T W (.ListComp elt [⟨tg, iter, ifs, 0⟩] scope pos) (DN (own.map (·.2)) li g t me) := fun B w σ H fr h Q R p =>
 eE (pe_lc C.calm C.nd BK ok (fun s H C cl fp => ⟨fun pins s' σ H v u Q I r hh => hh s _ C cl fp pins s' u I r⟩) (fun s H C cl fp => ⟨fun pins s' σ H Q I hh => hh s _ C cl fp pins s' I⟩) (fun s H C cl fp => ⟨fun pins s' σ H Q I hh => (hh s _ C cl fp).go pins s' I⟩) hs) (aau si hi sg st se R p)
end
section
variable {X : Cx} {T : Tb} {W : WX} {k : Nat} {pos : Pos} {tg iter elt : Expr} {ifs : List Expr} {lj : M (List D)} {g : D → M Unit} {is : List Nat} {t : M Bool} {me : M D} {scope : Scope} {own : List (Str × Nat)}
end
end Pk
namespace Pk
open PySem PySem.Spec L2
def keyD : D → Option Key
 | .int i => some (.inl i)
 | .str s => some (.inr s)
 | _ => none
def zU : List D → Option (List Key)
 | [] => some []
 | d :: ds => (keyD d).bind fun k => (zU ds).map fun ks => k :: ks
theorem acb {K : PySem.W.Frag} {T : Tb} {w : Wd} {v : V} {d : D} {k : Key} (r : bA K T w v d) (e : keyD d = some k) : v = kV k := by
 cases r with
 | int i => cases e; rfl
 | str s => cases e; rfl
 | _ => cases e
theorem Tq {K : PySem.W.Frag} {T : Tb} {w : Wd} : ∀ {vs : List V} {ds : List D} {ks : List Key}, au K T w vs ds → zU ds = some ks → vs = ks.map kV
 | _, _, _, .nil, e => by cases e; rfl
 | _, _, ks, .cons (d := d) (ds := ds) r rs, e => by
   unfold zU at e
   cases e1 : keyD d with
   | none => rw [e1] at e; cases e
   | some k =>
     rw [e1] at e
     cases e2 : zU ds with
     | none => rw [e2] at e; cases e
     | some r2 =>
       rw [e2] at e
       cases e
       rw [aiN, acb r e1, Tq rs e2]
def valD : List (List Key) → List D → List Key → Option D
 | k' :: ks, d :: ds, k => if k' = k then some d else valD ks ds k
 | _, _, _ => none
def DP (ks : List (List Key)) (k : List Key) : Bool := ks.any fun k' => decide (k' = k)
def uV (ks : List (List Key)) (k : List Key) : List (List Key) := if DP ks k = true then ks else ks ++ [k]
def qj {α : Type} (ks : List (List Key)) (ds : List α) (k : List Key) (v : α) : List α := if DP ks k = true then List.zipWith (fun k' d => if k' = k then v else d) ks ds else ds ++ [v]
def Io (ds : List D) : Option (List Key) := if ds.length ≤ big then zU ds else none
theorem U3 {ds : List D} {k : List Key} (e : Io ds = some k) : ds.length ≤ big ∧ zU ds = some k := by
 unfold Io at e
 by_cases h : ds.length ≤ big
 · rw [if_pos h] at e; exact ⟨h, e⟩
 · rw [if_neg h] at e; cases e
theorem K6 {K : PySem.W.Frag} {T : Tb} {w : Wd} {k : List Key} {z : D} : ∀ {ks : List (List Key)} {vs : List V} {ds : List D}, au K T w vs ds → valD ks ds k = some z → ∃ v, valV (ks.zip vs) k = some v ∧ bA K T w v z
 | [], _, _, _, e => by cases e
 | k' :: ks, _, _, .nil, e => by cases e
 | k' :: ks, _, _, .cons (v := v) (vs := vs) r rs, e => by
   unfold valD at e
   rw [List.zip_cons_cons]
   by_cases c : k' = k
   · rw [if_pos c] at e
     cases e
     exact ⟨v, valV_pos c, r⟩
   · rw [if_neg c] at e
     obtain ⟨u, h1, h2⟩ := K6 rs e
     exact ⟨u, (valV_neg c).trans h1, h2⟩
theorem Tr {k : List Key} : ∀ {ks : List (List Key)} {vs : List V}, ks.length = vs.length → ((ks.zip vs).any fun kv => decide (kv.1 = k)) = DP ks k
 | [], _, _ => rfl
 | _ :: _, [], h => by cases h
 | k' :: ks, v :: vs, h => by
   rw [List.zip_cons_cons, List.any_cons, Tr (Nat.succ.inj h)]
   rfl
theorem Qt {k : List Key} {v : V} : ∀ {ks : List (List Key)} {vs : List V}, ((ks.zip vs).map fun kv => if kv.1 = k then (kv.1, v) else kv) = ks.zip (List.zipWith (fun k' d => if k' = k then v else d) ks vs)
 | [], _ => by simp
 | _ :: _, [] => by simp
 | k' :: ks, u :: vs => by
   rw [List.zip_cons_cons, aiN, List.zipWith_cons_cons, List.zip_cons_cons, Qt]
   by_cases c : k' = k <;> simp [c]
theorem Yd {ks : List (List Key)} {vs : List V} {k : List Key} {v : V} (hl : ks.length = vs.length) : putK (ks.zip vs) k v = (uV ks k).zip (qj ks vs k v) := by
 unfold putK uV qj
 have e := Tr (k := k) hl
 by_cases c : DP ks k = true
 · rw [if_pos c, if_pos c]
   rw [c] at e
   rw [← Qt]
   simp only [e, if_true]
 · rw [if_neg c, if_neg c]
   rw [Bool.not_eq_true] at c
   rw [c] at e
   simp only [e, Bool.false_eq_true, if_false]
   rw [List.zip_append hl]
   rfl
theorem Wr {K : PySem.W.Frag} {T : Tb} {w : Wd} {k : List Key} {v : V} {d : D} (r : bA K T w v d) {ks : List (List Key)} {vs : List V} {ds : List D} (rs : au K T w vs ds) : au K T w (qj ks vs k v) (qj ks ds k d) := by
 have z : ∀ {ks : List (List Key)} {vs : List V} {ds : List D}, au K T w vs ds → au K T w (List.zipWith (fun k' u => if k' = k then v else u) ks vs) (List.zipWith (fun k' u => if k' = k then d else u) ks ds) := by
  intro ks
  induction ks with
  | nil => intro vs ds _; exact .nil
  | cons k' ks ih =>
    intro vs ds rs
    cases rs with
    | nil => exact .nil
    | cons r1 rs =>
      rw [List.zipWith_cons_cons, List.zipWith_cons_cons]
      refine .cons ?_ (ih rs)
      by_cases c : k' = k
      · rw [if_pos c, if_pos c]; exact r
      · rw [if_neg c, if_neg c]; exact r1
 unfold qj
 by_cases c : DP ks k = true
 · rw [if_pos c, if_pos c]; exact z rs
 · rw [if_neg c, if_neg c]; exact rs.append (.cons r .nil)
theorem aav {ks : List (List Key)} {ds : List D} {k : List Key} {d : D} (h : ks.length = ds.length) : (uV ks k).length = (qj ks ds k d).length := by
 unfold uV qj
 by_cases c : DP ks k = true
 · rw [if_pos c, if_pos c, List.length_zipWith, ← h, Nat.min_self]
 · rw [if_neg c, if_neg c, aiT, aiT, h]
   rfl
def jD (h : Hh) (d : D) : Option (Nat × List (List Key) × List D) := match d with
 | .ref n => match h[n]? with
   | some (.dc ks ds) => some (n, ks, ds)
   | _ => none
 | _ => none
theorem U4 {h : Hh} {d : D} {n : Nat} {ks : List (List Key)} {ds : List D} (e : jD h d = some (n, ks, ds)) : d = .ref n ∧ h[n]? = some (.dc ks ds) := by
 unfold jD at e
 split at e
 · split at e
   · rename_i q; cases e; exact ⟨rfl, q⟩
   · cases e
 · cases e
def adg (h : Hh) (o : D) (ks : List D) : Option D := (jD h o).bind fun x => (Io ks).bind fun k => valD x.2.1 x.2.2 k
def adh (h : Hh) (o : D) (ks : List D) (d : D) : Option Hh := (jD h o).bind fun x => (Io ks).bind fun k => if x.2.1.length ≤ big then some (h.set x.1 (.dc (uV x.2.1 k) (qj x.2.1 x.2.2 k d))) else none
def K7 : M D := fun fr h => .ok (.ref h.length) fr (h ++ [.dc [] []])
def agf (mo : M D) (ms : List (M D)) : M D := mo.bind fun o => (ak ms).bind fun ks fr h => M.opt (adg h o ks) fr h
def agg (mo : M D) (ms : List (M D)) (mv : M D) : M Fl := mv.bind fun d => mo.bind fun o => (ak ms).bind fun ks fr h => match adh h o ks d with
 | some h' => .ok .nx fr h'
 | none => .err
section
variable {X : Cx} {T : Tb} {W : WX} {k x1 : Nat} {pos tpos pos' : Pos} {o e : Expr} {es : List Expr} {mo m : M D} {ms : List (M D)}
theorem aaw : aV X T W (.Dict [] [] pos) K7 := fun B w σ H fr h Q R p => eE pe_dnewT (show tDNewT σ H Q from fun q nq => by
 have R2 := (R.temp (o := .dT []) nq).to_cellO (R.own_new nq) (R.loose_new nq) upd_same (oX.dct (ks := []) rfl .nil)
 exact p ⟨w.F, w.I ++ [q]⟩ _ (.ref q) ⟨fun _ _ z => z, [q], rfl⟩ R2 (.ref (by
  rw [← R.len]
  show (w.I ++ [q])[w.I.length]? = some q
  rw [ajc (Nat.le_refl _), Nat.sub_self]
  rfl)))
end
end Pk
namespace Pk
open PySem PySem.Spec L2
def ahw (K : PySem.W.Frag) (ta : TE) (f : Str) : TG := fun v σ H Q => ta σ H fun x H1 => ∃ a C dx fs, x = .ref a ∧ H1 a = some (.ins C dx fs) ∧ Cls K C ∧ NoAttr K C f ∧ fs.length < 1000 ∧ Q σ (upd H1 a (.ins C dx (putF f v fs)))
section
variable {X : Cx} {o : Expr} {f : Str} {pos : Pos} {ta : TE}
end
def agh (j : Nat) (ix : Nat → Option Nat) (d : D) : M Unit := fun fr h => match fr[j]? with
 | some (some (.ref n)) => match h[n]? with
   | some (.no c fs) => match ix c with
     | some i => match nj i d fs with
       | some fs' => .ok () fr (h.set n (.no c fs'))
       | none => .err
     | none => .err
   | _ => .err
 | _ => .err
section
variable {X : Cx} {T : Tb} {W : WX} {k kk n c : Nat} {px tpos p pos : Pos} {f : Addr} {fd : FuncData} {ps : List Str} {F : Fn} {x : Str} {e : Expr} {es : List Expr} {ma mk : M (List D)} {gD : List D → List D → List D}
structure FnC (P : Program) (w : World) (K : PySem.W.Frag) (mg : Str → Option Value) (base : Heap) (T : Tb) (k c : Nat) (f : Addr) (fd : FuncData) (ps : List Str) (F : Fn) : Prop where
 ok : FnOk P w K mg base (L2N.CX P w) k f fd ps (spF K T ps.length F)
 made : Mk K (T.cad c) f
def Ov (fr : Fr) (n : Nat) : R D → R D
 | .ok .non _ h => .ok (.ref n) fr h
 | .ok _ _ _ => .err
 | .exc x _ h => .exc x fr h
 | .err => .err
def BW (c n m : Nat) (F : Fn) (gD : List D → List D → List D) (ma mk : M (List D)) : M D := ma.bind fun ds => mk.bind fun es fr h => if ds.length = n ∧ es.length = m then Ov fr h.length (F (.ref h.length :: gD ds es) (h ++ [.no c []])) else .err
theorem Ws {B : Bs} {w : Wd} {σ : L2.St} {H : Hp} {fr : Fr} {h : Hh} {m : Nat} {vs zs : List V} {ds es : List D} {Q : VK} {gV gW : List V → List V → List V} (hv : ∀ x vs zs, vs.length = n → zs.length = m → gV (x :: vs) zs = x :: gW vs zs)
 (hg : ∀ (w : Wd) (vs zs : List V) (ds es : List D), au X.K T w vs ds → au X.K T w zs es → ds.length = n → es.length = m → au X.K T w (gW vs zs) (gD ds es) ∧ (gD ds es).length + 1 = ps.length)
 (R : Rel X.K T B w σ H fr h) (rs : au X.K T w vs ds) (rz : au X.K T w zs es) (p : aW X.K T B W (vV X.K T B σ) w σ (if ds.length = n ∧ es.length = m then Ov fr h.length (F (.ref h.length :: gD ds es) (h ++ [.no c []])) else .err) Q) :
 vs.length = n ∧ zs.length = m ∧ ∀ x dx, H x = none → H dx = none → dx ≠ x → spF X.K T ps.length F (gV (.ref x :: vs) zs) (upd (upd H dx (.own x)) x (.ins (T.cad c) dx [])) (fun v H2 => v = .non ∧ Q (.ref x) H2) (fun c d H' => W c d σ H') := by
 by_cases hl : ds.length = n ∧ es.length = m
 · rw [if_pos hl] at p
   obtain ⟨r2, l2⟩ := hg w vs zs ds es rs rz hl.1 hl.2
   refine ⟨rs.length.trans hl.1, rz.length.trans hl.2, fun x dx nx nd ne => ?_⟩
   rw [hv _ _ _ (rs.length.trans hl.1) (rz.length.trans hl.2)]
   have R1 : Rel X.K T B w σ (upd H dx (.own x)) fr h := R.temp nd
   have nx1 : (upd H dx (.own x)) x = none := by rw [upd_ne (Ne.symm ne)]; exact nx
   have co : oX X.K T w x (.ins (T.cad c) dx []) (.no c []) := by
    have z : oX X.K T w x (.ins (T.cad c) dx ((T.fld c).zip [])) (.no c []) := .obj .nil
    rw [List.zip_nil_right] at z
    exact z
   have R2 := (R1.temp (o := .ins (T.cad c) dx []) nx1).to_cellO (R1.own_new nx1) (R1.loose_new nx1) upd_same co
   have le : w.le ⟨w.F, w.I ++ [x]⟩ := ⟨fun _ _ z => z, [x], rfl⟩
   have rx : bA X.K T ⟨w.F, w.I ++ [x]⟩ (.ref x) (.ref h.length) := .ref (by
    rw [← R.len]
    show (w.I ++ [x])[w.I.length]? = some x
    rw [ajc (Nat.le_refl _), Nat.sub_self]
    rfl)
   refine Tc (B := B) (σ := σ) (fr := fr) (W := W) R2 (.cons rx (r2.mono le)) (by rw [aiL]; exact l2) ?_
   revert p
   cases F (.ref h.length :: gD ds es) (h ++ [.no c []]) with
   | ok d fr' h' =>
     cases d with
     | non =>
       intro p w' H' v l R' rv
       have ev : v = .non := by
        rcases rv with rv | ⟨q, o, _, _, _, _, rd⟩
        · cases rv; rfl
        · cases rd
       exact ⟨ev, p w' H' (.ref x) (Wd.le_trans le l) R' (rx.mono l)⟩
     | _ => exact fun p => p.elim
   | exc y fr' h' => exact fun p w' H' c dd l R' z => p w' H' c dd (Wd.le_trans le l) R' z
   | err => exact fun p => p.elim
 · rw [if_neg hl] at p
   exact p.elim
theorem Ye (C : Cq X T W k) (F0 : FnC X.prog X.w X.K X.mg X.base T kk c f fd ps F) (hk : kk + 1 ≤ k) (bn : BnI X.K T fd ps n [] gD) (hm : X.mg x = some (.ref (T.cad c))) (sa : Gh X T W (e :: es) ma) (hg : Gl X x := by rfl) (hdb : (x == ("__debug__" : Str)) = false := by decide)
 (he : starEach (e :: es) X.env = (false, eval e X.env) :: starEach es X.env := by exact dJ rfl) (hpl : (backTo pos (starEach es X.env)).any (·.1) = false := by rfl) : aV X T W (.Call (.Name x p) (e :: es) [] pos) (BW c n 0 F gD ma (ak [])) := fun B w σ H fr h Q R pp => WE.mk <| fun pins s I => by
 obtain ⟨g, gV, gW, hb, hv, hgD⟩ := bn.ex
 refine wpAny_Call_Name_kw (ld_glob I hg hm ?_ hdb)
 refine PySem.W.callWith_K (h₀ := X.base) I.ok.mod.kin F0.made.kp (thn ((sa B w σ H fr h _ R (aW.bind (VR := vA X.K T B σ) pp fun ds fr1 h1 w1 H1 vs e1 l1 r1 rs p1 => Ws (c := c) hv hgD r1 rs .nil p1)).go pos pins s I) fun us s1 ⟨vs, H1, I1, r, q⟩ => ⟨I1.kIn, ?_⟩) he hpl
 exact run_mk (ws := []) F0.made F0.ok (C.room.mono hk) hb C.takes I1 r .nil q.1 rfl q.2.2
end
def agi (h : Hh) (d e : D) : Option D := match d, e with
 | .fl a, .ref n => match h[n]? with
   | some (.nl b) => if a.length + b.length ≤ big then some (.nl (a ++ b)) else none
   | _ => none
 | _, _ => none
section
variable {X : Cx} {T : Tb} {W : WX} {pos : Pos} {a b : Expr} {ma mb : M D}
end
end Pk
namespace Pk
open PySem PySem.Spec L2
def rP (m : M D) : M (Nat × List D × List D) := m.bind fun d fr h => M.opt ((jO h d).map fun x => (x.1, x.2, fM 0 x.2)) fr h
section
variable {X : Cx} {T : Tb} {W : WX} {p pos tpos : Pos} {kk : Nat} {elts : List Expr} {a : Expr} {ma : M D}
theorem JL (s : aV X T W a ma) (hm : X.mg "enumerate" = none) (hg : Gl X "enumerate" := by rfl) (hs : starEach [a] X.env = [(false, eval a X.env)] := by rfl) :
 fX (WI X (.Tuple elts kk tpos) (.Call (.Name "enumerate" p) [a] [] pos)) X.K T W vJC (rP ma) := fun B w σ H fr h Q r p =>
 Dk (Wm hg hm (pa_cons bj pa_nil (hs.trans (by rfl))) hs) (s B w σ H fr h _ r (aW.bind (VR := vV X.K T B σ) p fun d fr1 h1 w1 H1 x e1 l1 r1 rx p1 => by
  cases q : jO h1 d with
  | none => rw [q] at p1; exact p1.elim
  | some z =>
    obtain ⟨n, l⟩ := z
    rw [q] at p1
    obtain ⟨rfl, hc⟩ := ye q
    cases rx with
    | @ref a n1 s1 =>
      obtain ⟨vs, sq, rv⟩ := qd r1 s1 hc
      refine ⟨a, vs, rfl, .inl ⟨sq, p1 w1 H1 (Ite X.K a) (Wd.le_refl _) r1 fun i w3 σ3 H3 fr3 h3 l3 r4 hc3 => ?_⟩⟩
      obtain ⟨vs3, sq3, rv3⟩ := qd r4 (KY l3 s1) hc3
      refine ⟨fun hi => ⟨vs3, sq3, by rw [rv3.length, ← uN 0 l]; exact hi⟩, fun d' hd => ?_⟩
      obtain ⟨d1, hd1, rfl⟩ := zM 0 l i d' hd
      obtain ⟨v, hv, rv⟩ := rv3.get hd1
      refine ⟨⟨vs3, v, sq3, hv⟩, fun y H4 hy => ?_⟩
      obtain ⟨Tp, x, rfl, nT, rfl, hx⟩ := hy
      have z := hx vs3 sq3
      rw [hv] at z
      cases z
      have lw := Wd.le_add (o := .tup [.int (i : Nat), v]) (r4.nP nT).1
      rw [Nat.zero_add]
      exact ⟨w3.add Tp (.tup [.int (i : Nat), v]), lw, r4.laid nT, .tup (SqT.of (by show upd w3.F Tp _ Tp = _; rw [upd_same])) (.cons (.int _) (.cons (rv.mono lw) .nil))⟩))
end
end Pk
namespace Pk
open PySem PySem.Spec L2
def aev (j : Nat) (ix : Nat → Option Nat) (f : Int → Int → Int) (m : M D) : M Fl := fun fr h => match fr[j]? with
 | some (some (.ref n)) => match h[n]? with
   | some (.no c fs) => match ix c with
     | some i => match fs[i]? with
       | some (.int a) => (m.bind fun d fr h => match d with
         | .int b => match h[n]? with
           | some (.no c' fs') => if c' = c then match nj i (.int (f a b)) fs' with
            | some fs'' => .ok .nx fr (h.set n (.no c fs''))
            | none => .err
            else .err
           | _ => .err
         | _ => .err) fr h
       | _ => .err
     | none => .err
   | _ => .err
 | _ => .err
section
variable {X : Cx} {T : Tb} {W : WX} {k : Nat} {px pos tpos apos cpos : Pos} {e o : Expr} {m mo : M D}
def aec (d : D) (l : List D) : Option (List D) := match d with
 | .fl r => if l.length + r.length ≤ big then some (l ++ r) else none
 | _ => none
def agj (i : Nat) (m : M D) : M D := (bZ i oJ).bind fun _ => m.bind fun d => (bZ i (aec d)).bind fun _ => M.ret .non
end
def Tt (i : Nat) (f : Hh → D → D → Option Bool) (m mt : M D) (b : M Fl) : Nat → M Fl
 | 0 => fun _ _ => .err
 | n + 1 => m.bind fun d fr h => (mt.bind fun t fr h => match f h d t with
   | some true => (match b fr h with
     | .ok .nx fr h => Tt i f m mt b n fr h
     | .ok .ct fr h => Tt i f m mt b n fr h
     | .ok .brk fr h => .ok .nx fr h
     | .ok (.rt d) fr h => .ok (.rt d) fr h
     | .exc x fr h => .exc x fr h
     | .err => .err)
   | some false => .ok .nx fr h
   | none => .err) (fr.set i (some d)) h
section
variable {X : Cx} {T : Tb} {W : WX} {k : Nat} {pos px npos cpos : Pos} {e t : Expr} {m mt : M D} {body : List Stmt} {b : M Fl} {x : Str}
end
end Pk
namespace Pk
open PySem PySem.Spec L2
section
variable {P : Program} {w : World} {K : PySem.W.Frag} {mg : Str → Option Value} {base : Heap} {T : Tb} {k : Nat} {x qual : Str} {params : Arguments} {body : List Stmt} {scope : Scope} {dvs : List V} {kws : List (Str × V)} {f : Addr} {fd : FuncData} {N ps : List Str} {p0 pv : Str}
end
def spM (K : PySem.W.Frag) (T : Tb) (F : Fn) : Sp := fun vs H Q E => ∃ ws rest, vs = ws ++ rest ∧ ws.length = 1 ∧ rest.length ≤ sizeLine ∧ ∀ p, H p = Option.none → spF K T 2 F (ws ++ [V.ref p]) (upd H p (.tup rest)) Q E
structure FnM (P : Program) (w : World) (K : PySem.W.Frag) (mg : Str → Option Value) (base : Heap) (T : Tb) (k : Nat) (f : Addr) (F : Fn) : Prop where
 run : FnR P w K mg base (L2N.CX P w) k f (spM K T F)
section
variable {P : Program} {w : World} {K : PySem.W.Frag} {mg : Str → Option Value} {base : Heap} {T : Tb} {k : Nat} {x qual : Str} {params : Arguments} {body : List Stmt} {scope : Scope} {f : Addr} {fd : FuncData} {N : List Str} {p0 pv : Str}
end
def aeX (mt : Nat → Option Fn) (mo : M D) (ma : M (List D)) : M D := mo.bind fun o fr h => match fnOf mt h o with
 | some F => (ma.bind fun ds fr h => if ds.length ≤ big then oK fr (F [o, .tup ds] h) else .err) fr h
 | none => .err
def ahx (m : M D) (ma : M (List D)) : M (List D) := m.bind fun d fr h => match d.its h with
 | some l => (ma.bind fun r => M.ret (l ++ r)) fr h
 | none => .err
def agk (m : M D) (ma : M (List D)) : M (List D) := m.bind fun d => ma.bind fun r => M.ret (d :: r)
structure aeY (X : Cx) (T : Tb) (k : Nat) (m : Str) (mt : Nat → Option Fn) : Prop where
 ex : ∀ c F, mt c = some F → ∃ (kk : Nat) (f : Addr), Cls X.K (T.cad c) ∧ BMeth X.K (T.cad c) m f ∧ FnM X.prog X.w X.K X.mg X.base T kk f F ∧ m ∉ T.fld c ∧ kk ≤ k
section
variable {X : Cx} {T : Tb} {W : WX} {k kk : Nat} {f : Addr} {F : Fn} {m : Str} {p sp_ pos apos : Pos} {e o : Expr} {es : List Expr} {mo me : M D} {ma : M (List D)} {mt : Nat → Option Fn}
end
def bmX (K : PySem.W.Frag) (C : Addr) (m : Str) : Bool := He.eqO (PySem.W.specialIn K (.ref (He.ma K C m)) "__get__") (some (some (.builtin "function.__get__"))) && (decide (PySem.W.takesIn K (.ref (He.ma K C m)) = some false) && (decide (PySem.W.copiedNames.contains m = false) && PySem.W.fnIn K (He.ma K C m)))
end Pk
namespace Pk
open PySem PySem.Spec PyProof.Rows L2 GenW
section
variable {prog : Program} {w : World} {A : Around} {R : GenEnd} {Y : Protocol} {n : Nat} {s₀ : Shared} {c : Code} {fs : List Frame} {s : Shared} {env : Env} {K : Flow → Sem PySem.Fin} {J : Value → Sem PySem.Fin} {gd : Bool → Bool} {lv : List Value → List Value}
abbrev agl (env : Env) (e : Value) : Sem PySem.Fin := (do noteFrame e env; theTreesLotGoes e : Sem Unit).wrap (fun _ => .raise e) .raise id id
abbrev turned (target : Expr) (it : Value) (body : List Stmt) (env : Env) : Flow → Sem PySem.Fin := fun f => match f with
 | .next | .cont => .pure (.again (.forLoop target it body [] env))
 | .brk => .pure (.done .next)
 | .ret v => .pure (.done (.ret v))
end
end Pk
namespace Pk
open PySem PySem.Spec PyProof.Rows L2 GenW
section
variable {M : Model} {A : Around} {R : GenEnd} {Y : Protocol} {n : Nat} {s₀ : Shared} {c : Code} {fs : List Frame} {s : Shared} {env : Env} {K : Flow → Sem PySem.Fin} {J : Value → Sem PySem.Fin} {gd : Bool → Bool} {lv : List Value → List Value}
end
section
variable {X : Cx} {tg : Expr}
def agm (wi : TI) (g : TG) (tb : TGn) : TGn := fun D ys σ H => wi σ H fun J H1 => ∃ W : Nat → Nat → List V → L2.St → Hp → Prop, (∃ m, W 0 m ys σ H1) ∧ ∀ i m ys σ H, W i m ys σ H →
 (J.stop i H ∧ D.nx ys σ H) ∨ (J.go i H ∧ ∃ N : List V → L2.St → Hp → Prop, (∀ ys' σ' H', N ys' σ' H' → ∃ m', m' < m ∧ W (i + 1) m' ys' σ' H') ∧ ∀ x H', J.yld i H x H' → g x σ H' fun σ2 H2 => tb { D with nx := N, ct := N, bk := D.nx } ys σ2 H2)
end
end Pk
namespace Pk
open PySem PySem.Spec PyProof.Rows L2
def agn (ma : M (List D)) : M D := ma.bind fun ds => M.opt (if ds.length ≤ big then some (.tup ds) else none)
section
variable {X : Cx} {T : Tb} {W : WX} {es : List Expr} {ma : M (List D)} {pos : Pos}
end
def acd (vs vs1 : List Nat) (g : D → M Unit) (t : M Bool) (l1 : M (List D)) (g1 : D → M Unit) (t1 : M Bool) (e : M D) (acc : List D) (d : D) : M (List D) := fun fr h => match g d fr h with
 | .ok _ fr h => match t fr h with
   | .ok true fr h => match l1 fr h with
     | .ok ds1 fr h => if acc.length + ds1.length ≤ big then (match j6 vs1 g1 t1 e ds1 (dO fr vs1) h with
       | .ok r fr h => .ok (acc ++ r) (dO fr vs) h
       | _ => .err) else .err
     | _ => .err
   | .ok false fr h => .ok acc (dO fr vs) h
   | _ => .err
 | _ => .err
def ZX (vs vs1 : List Nat) (g : D → M Unit) (t : M Bool) (l1 : M (List D)) (g1 : D → M Unit) (t1 : M Bool) (e : M D) : List D → List D → M (List D)
 | acc, [] => M.ret acc
 | acc, d :: ds => (acd vs vs1 g t l1 g1 t1 e acc d).bind fun acc' => ZX vs vs1 g t l1 g1 t1 e acc' ds
def ahy (vs vs1 : List Nat) (l : M (List D)) (g : D → M Unit) (t : M Bool) (l1 : M (List D)) (g1 : D → M Unit) (t1 : M Bool) (e : M D) : M D := l.bind fun ds => (Dm vs).bind fun _ => (ZX vs vs1 g t l1 g1 t1 e [] ds).bind fun r => M.ret (.nl r)
section
variable {X : Cx} {T : Tb} {W : WX} {k : Nat} {pos pos' : Pos} {tg iter elt tg1 iter1 : Expr} {ifs ifs1 : List Expr} {li l1 : M (List D)} {g g1 : D → M Unit} {is is1 vs1 : List Nat} {t t1 : M Bool} {me : M D} {scope : Scope} {own : List (Str × Nat)}
def IB (X : Cx) (scope : Scope) (tg iter : Expr) : TI := fun σ H R => ∀ (s : Shared) (H0 : Hp) (C : Addr) (cl : List (Str × Addr)) (fp : List Addr), WI (X.blk s H0 scope (compEnvC scope cl C X.env) fp) tg iter σ H R
end
end Pk
namespace Pk
open PySem PySem.Spec PyProof.Rows L2 GenW
structure WGS (X : Cx) (st : Stmt) (D : GEnds) (ys : List V) (σ : L2.St) (H : Hp) : Prop where
 go : ∀ (A : Around) (S : Addr) (ip : List (Addr × Obj)) (R : GenEnd) (n : Nat) (s₀ : Shared) (c : Code) (fs : List Frame) (K : Flow → Sem PySem.Fin) (J : Value → Sem PySem.Fin) (gd : Bool → Bool) (lv : List Value → List Value) (s : Shared),
  GC X S ip A c fs gd → n + ys.length = sizeLine → GK X S ip A R c fs K J D → GI X S ip ys σ H s →
  Seg (model X.prog X.w) A R (GY X S) n s₀ c ((exec st X.env).wrap K J gd lv) fs s
structure aed (X : Cx) (st : List Stmt) (D : GEnds) (ys : List V) (σ : L2.St) (H : Hp) : Prop where
 go : ∀ (A : Around) (S : Addr) (ip : List (Addr × Obj)) (R : GenEnd) (n : Nat) (s₀ : Shared) (c : Code) (fs : List Frame) (K : Flow → Sem PySem.Fin) (J : Value → Sem PySem.Fin) (gd : Bool → Bool) (lv : List Value → List Value) (s : Shared),
  GC X S ip A c fs gd → n + ys.length = sizeLine → GK X S ip A R c fs K J D → GI X S ip ys σ H s →
  Seg (model X.prog X.w) A R (GY X S) n s₀ c ((execs st X.env).wrap K J gd lv) fs s
section
variable {X : Cx} {st : Stmt} {sts : List Stmt} {D : GEnds} {ys : List V} {σ : L2.St} {H : Hp}
end
def K8 (K : PySem.W.Frag) (T : Tb) (B : Bs) (w : Wd) (r : R (List D)) (E : GEnds) : Prop := match r with
 | .ok ds fr h => ∀ w' σ' H' vs, w.le w' → Rel K T B w' σ' H' fr h → au K T w' vs ds → E.nx vs σ' H'
 | _ => False
def ago (X : Cx) (T : Tb) (st : Stmt) (m : List D → M (List D)) : Prop := ∀ (B : Bs) (w : Wd) (σ : L2.St) (H : Hp) (fr : Fr) (h : Hh) (E : GEnds) (vs : List V) (ds : List D), Rel X.K T B w σ H fr h → au X.K T w vs ds → K8 X.K T B w (m ds fr h) E → WGS X st E vs σ H
def ace (X : Cx) (T : Tb) (sts : List Stmt) (m : List D → M (List D)) : Prop := ∀ (B : Bs) (w : Wd) (σ : L2.St) (H : Hp) (fr : Fr) (h : Hh) (E : GEnds) (vs : List V) (ds : List D), Rel X.K T B w σ H fr h → au X.K T w vs ds → K8 X.K T B w (m ds fr h) E → aed X sts E vs σ H
def ae0 (m : M Fl) (ds : List D) : M (List D) := fun fr h => match m fr h with
 | .ok .nx fr h => .ok ds fr h
 | _ => .err
def gNil (ds : List D) : M (List D) := M.ret ds
def agp (m n : List D → M (List D)) (ds : List D) : M (List D) := (m ds).bind n
def ae1 (me : M D) (ds : List D) : M (List D) := me.bind fun d => if ds.length < big then M.ret (ds ++ [d]) else fun _ _ => .err
def acf (g : D → M Unit) (b : List D → M (List D)) : List D → List D → M (List D)
 | [], out => M.ret out
 | d :: ds, out => (g d).bind fun _ => (b out).bind fun out' => acf g b ds out'
def agq (l : M (List D)) (g : D → M Unit) (b : List D → M (List D)) (out : List D) : M (List D) := l.bind fun ds => acf g b ds out
section
variable {X : Cx} {T : Tb} {W : WX} {k : Nat} {st : Stmt} {sts body : List Stmt} {m n : List D → M (List D)} {b : List D → M (List D)} {pos yp : Pos} {e tg iter : Expr} {me : M D} {li : M (List D)} {g : D → M Unit} {is : List Nat}
theorem K8.le {K : PySem.W.Frag} {T : Tb} {B : Bs} {w w' : Wd} {r : R (List D)} {E : GEnds} (l : w.le w') (p : K8 K T B w r E) : K8 K T B w' r E := by
 cases r with
 | ok ds fr h => exact fun w2 σ' H' vs l2 r rs => p w2 σ' H' vs (Wd.le_trans l l2) r rs
 | exc _ _ _ => exact p
 | err => exact p
end
end Pk
namespace Pk
open PySem PySem.Spec PyProof.Rows L2 GenW
abbrev Qu := List D → Hh → R (List D)
def ahz (n : Nat) (m : List D → M (List D)) : Qu := fun ds h => match m [] (startF n ds) h with
 | .ok ys _ h => .ok ys [] h
 | _ => .err
def aee (K : PySem.W.Frag) (T : Tb) (n : Nat) (F : Qu) : SpG := fun vs H Q _ => ∃ w h ds, Rel K T (Bs.of w H) w [] H [] h ∧ au K T w vs ds ∧ ds.length = n ∧ match F ds h with
 | .ok ys _ h' => ∀ w' H' vs', w.le w' → Rel K T (Bs.of w H) w' [] H' [] h' → au K T w' vs' ys → Q vs' H'
 | _ => False
def agr (P : Program) (w : World) (K : PySem.W.Frag) (mg : Str → Option Value) (base : Heap) (T : Tb) (k : Nat) (N : List Str) (qual : Str) (scope : Scope) (body : List Stmt) (m : List D → M (List D)) : Prop :=
 ∀ (f : Addr) (cdv : Value) (A : Around) (outer : List Env) (s : Shared) (H : Hp) (E : XK) (pn : List (Addr × Obj)), Cq (gcxOf P w K mg base N qual scope f cdv A outer s H E pn) T (WX.up E) k → ace (gcxOf P w K mg base N qual scope f cdv A outer s H E pn) T body m
section
variable {P : Program} {w : World} {K : PySem.W.Frag} {mg : Str → Option Value} {base : Heap} {T : Tb} {k : Nat} {name qual : Str} {params : Arguments} {body : List Stmt} {scope : Scope} {f : Addr} {N ps : List Str} {dV kV doc pm cdv ct oc : Value} {an od : Option Addr} {osl : Array (Option Value)}
end
end Pk
namespace Pk
open PySem PySem.Spec PyProof.Rows L2 GenW
def adi (mt : Nat → Option Qu) (h : Hh) (o : D) : Option Qu := match o.ins h with
 | some (c, _) => mt c
 | none => none
def ae2 (mt : Nat → Option Qu) (mo : M D) : M D := mo.bind fun o fr h => match adi mt h o with
 | some F => match F [o] h with
   | .ok ys _ h => .ok (.nl ys) fr h
   | _ => .err
 | none => .err
structure ae3 (X : Cx) (T : Tb) (kk : Nat) (m : Str) (mt : Nat → Option Qu) : Prop where
 ex : ∀ c F, mt c = some F → ∃ (f : Addr) (fd : FuncData) (ps : List Str), Cls X.K (T.cad c) ∧ Meth X.K (T.cad c) m f ∧ GFn X.prog X.w X.K X.mg X.base kk f fd ps (aee X.K T 1 F) ∧ Binds X.K fd ps [] ∧ m ∉ T.fld c
def WPG (X : Cx) (k : Nat) (e : Expr) (E : XK) : TGen := fun σ H cont => ∀ pins s, Inv X pins σ H s → wpAny (model X.prog X.w) X.A (eval e X.env)
    (fun u s' => ∃ H1 sc ex, Inv X pins σ H1 sc ∧ ExOk X pins ex ∧ GMade X.prog X.w k X.stack H1 sc ex cont E u s') X.xe s
section
variable {X : Cx} {T : Tb} {W : WX} {k kk : Nat} {m nm : Str} {p pos pos' apos : Pos} {o e : Expr} {mo : M D} {mt : Nat → Option Qu} {E : XK}
end
section
variable {P : Program} {w : World} {K : PySem.W.Frag} {mg : Str → Option Value} {base : Heap} {T : Tb} {k : Nat} {x qual : Str} {params : Arguments} {body : List Stmt} {scope : Scope} {f : Addr} {fd : FuncData} {N ps : List Str} {dvs : List V} {kws : List (Str × V)}
end
end Pk
namespace L2
open PySem PySem.Spec PyProof.Rows
def G7 (K : PySem.W.Frag) : Bool → Hp → Addr → List V → Prop
 | true, H, a, xs => SqT K H a xs
 | false, H, a, xs => SqL K H a xs
def Ag : Bool → Heap → Addr → Addr → Nat → Prop
 | true, h, it, a, i => h.IsTupleIter it a i
 | false, h, it, a, i => h.IsListIter it a i
def Tu : Bool → Heap → Addr → Array Value → Prop
 | true, h, a, xs => h.IsTuple a xs
 | false, h, a, xs => h.IsList a xs
def itOb : Bool → Addr → Obj
 | true, t => { cls := .type "tuple_iterator", data := .fields #[.ref t, .int 0 0] }
 | false, t => { cls := .type "list_iterator", data := .fields #[.ref t, .int 0 0] }
theorem Qv {prog : Program} {w : World} {A : Around} (hA : A.handled = none) (k : Bool) (it t : Addr) (ne : t ≠ it) (items : Array Value) : Draws prog w A it [it, t] items.size (fun i v => items[i]? = some v) fun i h => Ag k h it t i ∧ Tu k h t items := by
 cases k
 · exact Draws.list hA it t ne items
 · exact Draws.tuple hA it t ne items
theorem Tv (k : Bool) (t : Addr) (items : Array Value) : Begins (.ref t) (itOb k t) fun h => Tu k h t items := by
 cases k
 · exact begins_list t items
 · exact begins_tuple t items
theorem Tw {k : Bool} {h : Heap} {it a : Addr} (e : h.get? it = some (itOb k a)) : Ag k h it a 0 := by
 cases k
 · exact ⟨_, e, rfl, rfl⟩
 · exact ⟨_, e, rfl, rfl⟩
theorem BX {k : Bool} {h h' : Heap} {it a : Addr} {i : Nat} (e : Ag k h it a i) (q : ∀ o, h.get? it = some o → h'.get? it = some o) : Ag k h' it a i := by
 cases k
 · exact Heap.IsListIter.at (h := h) e q
 · exact Heap.IsTupleIter.at (h := h) e q
theorem yC {X : Cx} {pins : List (Addr × Obj)} {σ : St} {H : Hp} {s : Shared} (I : L2.Inv X pins σ H s) {k : Bool} {a : Addr} {xs : List V} (h : G7 X.K k H a xs) : ∃ its : List Value, Vals xs its ∧ Tu k s.heap a its.toArray := by
 cases k
 · obtain ⟨its, rv, pl, _⟩ := I.list h
   exact ⟨its, rv, pl.isList⟩
 · obtain ⟨its, rv, p, _⟩ := I.tuple h
   exact ⟨its, rv, p⟩
theorem Tz {X : Cx} {pins : List (Addr × Obj)} {σ : St} {H : Hp} {s : Shared} (I : L2.Inv X pins σ H s) {k : Bool} {a : Addr} {xs ys : List V} (h : G7 X.K k H a xs) (h2 : G7 X.K k H a ys) : xs = ys := by
 cases k
 · exact I.list_inj h h2
 · exact I.tuple_inj h h2
theorem Wt {prog : Program} {w : World} {A : Around} (hA : A.handled = none) (k : Bool) (it t : Addr) (ne : t ≠ it) (items : Array Value) {i : Nat} {h : Heap} (h1 : Ag k h it t i) (h2 : Tu k h t items) : ∃ n Pv Sv, Draws prog w A it [it, t] n Pv Sv ∧ Sv i h ∧ i ≤ n ∧ (items.size ≤ i → i = n) := by
 by_cases hi : items.size ≤ i
 · refine ⟨i, fun _ _ => True, fun j h => j = i ∧ Ag k h it t j ∧ Tu k h t items, ?_, ⟨rfl, h1, h2⟩, Nat.le_refl _, fun _ => rfl⟩
   have hn : items[i]? = none := by simp; omega
   cases k
   · exact ⟨fun _ _ st => (let ⟨_, ⟨o, ho, _⟩, _⟩ := st; ⟨o, ho⟩), fun _ _ _ st hk => ⟨st.1, BX st.2.1 fun o e => hk it (by simp) o e, st.2.2.at fun o e => hk t (by simp) o e⟩, fun j s Q E hj st _ => absurd st.1 (Nat.ne_of_lt hj), fun s Q E st hE => PySem.wpAny_nextOf_list_end hA st.2.1 st.2.2 hn hE⟩
   · exact ⟨fun _ _ st => (let ⟨_, ⟨o, ho, _⟩, _⟩ := st; ⟨o, ho⟩), fun _ _ _ st hk => ⟨st.1, BX st.2.1 fun o e => hk it (by simp) o e, st.2.2.at fun o e => hk t (by simp) o e⟩, fun j s Q E hj st _ => absurd st.1 (Nat.ne_of_lt hj), fun s Q E st hE => PySem.wpAny_nextOf_tuple_end hA st.2.1 st.2.2 hn hE⟩
 · exact ⟨items.size, _, _, Qv hA k it t ne items, ⟨h1, h2⟩, by omega, fun z => absurd z hi⟩
theorem K9 {k : Bool} {h : Heap} {it a : Addr} {i : Nat} {items : Array Value} (h1 : Ag k h it a i) (p : Tu k h a items) : a ≠ it := fun q => by
 cases k
 · obtain ⟨o, ho, c, _⟩ := id h1
   obtain ⟨o2, ho2, c2, _⟩ := id p
   rw [q, ho] at ho2
   cases ho2
   rw [c] at c2
   exact absurd c2 (by decide)
 · obtain ⟨o, ho, c, _⟩ := id h1
   obtain ⟨o2, ho2, c2, _⟩ := id p
   rw [q, ho] at ho2
   cases ho2
   rw [c] at c2
   exact absurd c2 (by decide)
def Yg (K : PySem.W.Frag) (k1 k2 : Bool) (a b : Addr) : It :=
 ⟨fun i H => ∃ xs ys x y, G7 K k1 H a xs ∧ G7 K k2 H b ys ∧ xs[i]? = some x ∧ ys[i]? = some y,
  fun i H v H' => ∃ T x y, v = V.ref T ∧ H T = none ∧ H' = upd H T (.tup [x, y]) ∧ (∀ xs, G7 K k1 H a xs → xs[i]? = some x) ∧ ∀ ys, G7 K k2 H b ys → ys[i]? = some y,
  fun i H => ∃ xs ys, G7 K k1 H a xs ∧ G7 K k2 H b ys ∧ (xs.length ≤ i ∨ ys.length ≤ i)⟩
theorem Wu {P : Program} {w : World} {K : PySem.W.Frag} {elts : List Expr} {kk : Nat} {tpos : Pos} {k1 k2 : Bool} {a b z TI TO i1 i2 : Addr} (D : ZipSep2 z TI TO i1 i2 [i1, a] [i2, b]) :
 Turn P w K (.Tuple elts kk tpos) (Yg K k1 k2 a b) [z, TI, TO, i1, i2] z fun i h =>
  IsZip h z TI TO .none ∧ IsTupOf2 h TI (.ref i1) (.ref i2) ∧ (∃ x y, IsTupOf2 h TO x y) ∧ Ag k1 h i1 a i ∧ Ag k2 h i2 b i where
 mem := by simp
 obj := fun i h st c hc => by
  obtain ⟨hz, hTI, ⟨x, y, hTO⟩, h1, h2⟩ := st
  have e : c = z ∨ c = TI ∨ c = TO ∨ c = i1 ∨ c = i2 := by simpa using hc
  have key : ∀ (k : Bool) (it a : Addr), Ag k h it a i → ∃ o, h.get? it = some o ∧ ∀ v, o.data ≠ Data.cell v := fun k it a q => by
   cases k
   · obtain ⟨o, ho, _, hd⟩ := q
     exact ⟨o, ho, fun v q => by rw [hd] at q; cases q⟩
   · obtain ⟨o, ho, _, hd⟩ := q
     exact ⟨o, ho, fun v q => by rw [hd] at q; cases q⟩
  rcases e with rfl | rfl | rfl | rfl | rfl
  · exact ⟨_, hz, fun v q => nomatch q⟩
  · exact ⟨_, hTI, fun v q => nomatch q⟩
  · exact ⟨_, hTO, fun v q => nomatch q⟩
  · exact key _ _ _ h1
  · exact key _ _ _ h2
 keep := fun i h h' st k => by
  obtain ⟨hz, hTI, ⟨x, y, hTO⟩, h1, h2⟩ := st
  exact ⟨k z (by simp) _ hz, k TI (by simp) _ hTI, ⟨x, y, k TO (by simp) _ hTO⟩, BX h1 fun o q => k i1 (by simp) o q, BX h2 fun o q => k i2 (by simp) o q⟩
 item := by
  intro X hP hw hK hc i pins s σ H E I hf st hg
  subst hP hw hK
  obtain ⟨hz, hTI, ⟨x0, y0, hTO⟩, h1, h2⟩ := st
  obtain ⟨xs, ys, x, y, hqx, hqy, hx, hy⟩ := hg
  obtain ⟨its, rv, p⟩ := yC I hqx
  obtain ⟨its2, rv2, p2⟩ := yC I hqy
  obtain ⟨u, hu, ru⟩ := rv.get hx
  obtain ⟨u2, hu2, ru2⟩ := rv2.get hy
  have l1 : i < its.toArray.size := by
   have := (List.getElem?_eq_some_iff.mp hu).1
   simpa using this
  have l2 : i < its2.toArray.size := by
   have := (List.getElem?_eq_some_iff.mp hu2).1
   simpa using this
  have ea := K9 h1 p
  have eb := K9 h2 p2
  have hA : X.A.in1.handled = none := I.ok.hd hc
  refine wpAny_pyNext_zipD2_item D (Qv hA k1 i1 a ea its.toArray) (Qv hA k2 i2 b eb its2.toArray) hz hTI hTO ⟨h1, p⟩ ⟨h2, p2⟩ l1 l2 fun v1 v2 h' tk q1 q2 hz' hTO' s1 s2 hT hsz hk => ?_
  obtain rfl : u = v1 := by
   have e1 : its[i]? = some v1 := by simpa using q1
   rw [hu] at e1
   exact Option.some.inj e1
  obtain rfl : u2 = v2 := by
   have e1 : its2[i]? = some v2 := by simpa using q2
   rw [hu2] at e1
   exact Option.some.inj e1
  have zl : z < s.heap.objs.size := Heap.lt_size hz
  have TIl : TI < s.heap.objs.size := Heap.lt_size hTI
  have TOl : TO < s.heap.objs.size := Heap.lt_size hTO
  have il1 : i1 < s.heap.objs.size := by
   cases k1
   · obtain ⟨_, q, _⟩ := h1
     exact Heap.lt_size q
   · obtain ⟨_, q, _⟩ := h1
     exact Heap.lt_size q
  have il2 : i2 < s.heap.objs.size := by
   cases k2
   · obtain ⟨_, q, _⟩ := h2
     exact Heap.lt_size q
   · obtain ⟨_, q, _⟩ := h2
     exact Heap.lt_size q
  have hTI' : IsTupOf2 h' TI (.ref i1) (.ref i2) := hk TI _ D.TIz D.TITO D.TIi1 D.TIi2 hTI
  refine ⟨_, rfl, wpAny_letOwnedTupleGo_zip (s := { s with heap := h', toks := tk }) hz' fun h'' he' sb => ?_⟩
  have nz : s.heap.objs.size ≠ z := Nat.ne_of_gt zl
  have new : ObjOk X.prog X.w (upd H s.heap.objs.size (.tup [x, y])) h'' s.heap.objs.size (.tup [x, y]) :=
   ⟨by show 2 ≤ sizeLine; decide, [u, u2], .cons ru (.cons ru2 .nil), ⟨_, (sb.2 _ nz).trans hT, rfl, _, rfl⟩⟩
  have I1 : Inv X pins σ (upd H s.heap.objs.size (.tup [x, y])) { s with heap := h'', toks := tk } :=
   I.turnedNew (ch := [z, TI, TO, i1, i2]) (fun c ob hb q => (sb.2 c (fun z => hb (by simp [z]))).trans (hk c ob (fun z => hb (by simp [z])) (fun z => hb (by simp [z])) (fun z => hb (by simp [z])) (fun z => hb (by simp [z])) q)) hf (Nat.le_refl _) new
  have i1z : i1 ≠ z := fun q => D.zf1 (by rw [← q]; simp)
  have i2z : i2 ≠ z := fun q => D.zf2 (by rw [← q]; simp)
  refine ⟨.ref s.heap.objs.size, _, I1, rfl, ⟨_, x, y, rfl, I.hok.fresh (Nat.le_refl _), rfl, fun ws hw => by rw [Tz I hw hqx]; exact hx, fun ws hw => by rw [Tz I hw hqy]; exact hy⟩, ⟨he', (sb.2 TI D.TIz).trans hTI', ⟨u, u2, (sb.2 TO D.TOz).trans hTO'⟩, BX s1.1 fun o q => (sb.2 i1 i1z).trans q, BX s2.1 fun o q => (sb.2 i2 i2z).trans q⟩, fun c hc => ?_⟩
  have hc' : c < s.heap.objs.size := by
   rcases (show c = z ∨ c = TI ∨ c = TO ∨ c = i1 ∨ c = i2 by simpa using hc) with rfl | rfl | rfl | rfl | rfl
   · exact zl
   · exact TIl
   · exact TOl
   · exact il1
   · exact il2
  rw [upd_ne (Nat.ne_of_lt hc')]
  exact (hf c hc).1
 done := by
  intro X hP hw hK hc i pins s σ H E I hf st hg
  subst hP hw hK
  obtain ⟨hz, hTI, ⟨x0, y0, hTO⟩, h1, h2⟩ := st
  obtain ⟨xs, ys, hqx, hqy, hi⟩ := hg
  obtain ⟨its, rv, p⟩ := yC I hqx
  obtain ⟨its2, rv2, p2⟩ := yC I hqy
  have l1 := rv.length
  have l2 := rv2.length
  have hA : X.A.in1.handled = none := I.ok.hd hc
  obtain ⟨n1, P1, S1, D1, st1, le1, eq1⟩ := Wt (prog := X.prog) (w := X.w) hA k1 i1 a (K9 h1 p) its.toArray h1 p
  obtain ⟨n2, P2, S2, D2, st2, le2, eq2⟩ := Wt (prog := X.prog) (w := X.w) hA k2 i2 b (K9 h2 p2) its2.toArray h2 p2
  refine wpAny_pyNext_zipD2_end D D1 D2 hz hTI hTO st1 st2 le1 le2 ?_ fun h' tk hk => ⟨rfl, ?_⟩
  · rcases hi with hi | hi
    · exact .inl (eq1 (by simp; omega))
    · exact .inr (eq2 (by simp; omega))
  exact I.turnedL (ch := [z, TI, TO, i1, i2]) (fun c o hb q => hk c o (fun z => hb (by simp [z])) (fun z => hb (by simp [z])) (fun z => hb (by simp [z])) (fun z => hb (by simp [z])) q) hf
 self := fun A i s Q E st h => wpAny_pyIter_zip st.1 h
def adk (K : PySem.W.Frag) (ta : TA) : TI := fun σ H R => ta σ H fun vs H1 => ∃ k1 k2 a b xs ys, vs = [.ref a, .ref b] ∧ G7 K k1 H1 a xs ∧ G7 K k2 H1 b ys ∧ R (Yg K k1 k2 a b) H1
theorem aax {X : Cx} {e e2 : Expr} {ta : TA} {p pos tpos : Pos} {elts : List Expr} {kk : Nat} (hg : Gl X "zip") (hm : X.mg "zip" = none) (ha : PA X [e, e2] ta) (hs : starEach [e, e2] X.env = (false, eval e X.env) :: starEach [e2] X.env := by rfl) (hpl : (backTo pos (starEach [e2] X.env)).any (·.1) = false := by rfl) :
 PI X (.Tuple elts kk tpos) (.Call (.Name "zip" p) [e, e2] [] pos) (adk X.K ta) := by
 refine ⟨fun pins s σ H R I h => ?_⟩
 refine Call_ (ld_blt I hg hm boot_zip (PyProof.Rows.callWith_type1 (thn (ha.run pos pins s σ H _ I h) fun us s1 hh => ?_) hs hpl))
 obtain ⟨vs, H1, I1, r1, k1, k2, a, b, xs, ys, rfl, hx, hy, q⟩ := hh
 cases r1 with
 | cons r rr =>
   cases rr with
   | cons r' rr =>
     cases rr
     cases r
     cases r'
     obtain ⟨its, rv, p⟩ := yC I1 hx
     obtain ⟨its2, rv2, p2⟩ := yC I1 hy
     have al : a < s1.heap.objs.size := by
      cases k1
      · obtain ⟨_, q, _⟩ := p
        exact Heap.lt_size q
      · obtain ⟨_, q, _⟩ := p
        exact Heap.lt_size q
     have bl : b < s1.heap.objs.size := by
      cases k2
      · obtain ⟨_, q, _⟩ := p2
        exact Heap.lt_size q
      · obtain ⟨_, q, _⟩ := p2
        exact Heap.lt_size q
     have five : ∀ c ∈ [s1.heap.objs.size + 4, s1.heap.objs.size + 2, s1.heap.objs.size + 3, s1.heap.objs.size, s1.heap.objs.size + 1], FpOk X pins H1 c := fun c hc => by
      have hle : s1.heap.objs.size ≤ c := by
       simp at hc
       omega
      exact I1.fpOk hle (I1.hok.fresh hle)
     refine zip_begins2 (Tv k1 a its.toArray) (Tv k2 b its2.toArray) p p2 fun h' hz hTI hTO e1 e2 hsz hk => wpAny_pyIter_zip hz ?_
     exact ⟨s1.heap.objs.size + 4, [s1.heap.objs.size + 4, s1.heap.objs.size + 2, s1.heap.objs.size + 3, s1.heap.objs.size, s1.heap.objs.size + 1], _, _, H1, rfl, I1.kept (t' := s1.toks) hk, Wu (zip_sep2 (N := s1.heap.objs.size) (fp1 := [a]) (fp2 := [b]) (fun c hc => by rw [List.mem_singleton.mp hc]; exact al) (fun c hc => by rw [List.mem_singleton.mp hc]; exact bl)), ⟨hz, hTI, ⟨_, _, hTO⟩, Tw e1, Tw e2⟩, five, q⟩
end L2
namespace Pk
open PySem PySem.Spec L2
def adl (h : Hh) (d e : D) : Option (Nat × List D × List D) := match jO h d, e with
 | some (n, l), .fl m => some (n, l, iZ l m)
 | some (n, l), .tup m => some (n, l, iZ l m)
 | _, _ => none
def ae4 (ma mb : M D) : M (Nat × List D × List D) := ma.bind fun d => mb.bind fun e fr h => M.opt (adl h d e) fr h
section
variable {X : Cx} {T : Tb} {W : WX} {k kk : Nat} {pos p tpos : Pos} {tg iter a c : Expr} {elts : List Expr} {body : List Stmt} {g : D → M Unit} {b : M Fl} {is : List Nat} {li : M (Nat × List D × List D)} {ma mb : M D}
end
end Pk
namespace GenP
open PySem PySem.Spec
def noG : Frame → Bool
 | .gen .. => false
 | .ret .. => true
def Ow : Frame → Frame
 | .gen _ _ _ c p => .ret (fun _ => .unsupported "") none false [] c p []
 | f => f
theorem Rx (f : Frame) : (Ow f).where_ = f.where_ := by cases f <;> rfl
def Ox : GenState → GenState
 | .suspended _ l c p fs cl => .suspended (fun _ => .unsupported "") l c p (fs.map Ow) cl
 | st => st
def G8 : GenState → Bool
 | .fresh _ => false
 | _ => true
def clean : GenState → Bool
 | .suspended _ _ _ _ fs _ => fs.all noG
 | _ => true
theorem Wv (st : GenState) : (Ox st).seen = st.seen := by
 cases st with
 | suspended k l c p fs cl =>
   show (_, some ((c, p) :: List.map Frame.where_ (fs.map Ow))) = (_, some ((c, p) :: List.map Frame.where_ fs))
   rw [ai4, show Frame.where_ ∘ Ow = Frame.where_ from funext Rx]
 | _ => rfl
theorem Ww (st : GenState) : (Ox st).bare = st.bare := by cases st <;> rfl
structure PS (D : Nat → Prop) (s t : Shared) : Prop where
 heap : s.heap = t.heap
 drawn : s.drawn = t.drawn
 toks : s.toks = t.toks
 os : s.os = t.os
 size : s.gens.size = t.gens.size
 dead : ∀ i, D i → ∃ st, t.gens[i]? = some st ∧ G8 st = true ∧ s.gens[i]? = some (Ox st)
 live : ∀ i, ¬ D i → s.gens[i]? = t.gens[i]? ∧ ∀ st, t.gens[i]? = some st → clean st = true
theorem PS.seen {D : Nat → Prop} {s t : Shared} (P : PS D s t) {g : Nat} {st : GenState} (h : s.gens[g]? = some st) : ∃ st', t.gens[g]? = some st' ∧ st'.seen = st.seen := by
 by_cases hd : D g
 · obtain ⟨st', e1, e2, e3⟩ := P.dead g hd
   rw [h] at e3
   cases e3
   exact ⟨st', e1, (Wv st').symm⟩
 · exact ⟨st, (P.live g hd).1.symm.trans h, rfl⟩
theorem PS.same {D : Nat → Prop} {s t : Shared} (P : PS D s t) {g : Nat} {st : GenState} (h : s.gens[g]? = some st) (ns : ∀ k l c p fs cl, st ≠ .suspended k l c p fs cl) : t.gens[g]? = some st := by
 by_cases hd : D g
 · obtain ⟨st', e1, e2, e3⟩ := P.dead g hd
   rw [h] at e3
   cases st' with
   | suspended k l c p fs cl => exact absurd (Option.some.inj e3) (ns _ _ _ _ _ _)
   | _ => rw [e1]; exact e3.symm
 · exact (P.live g hd).1.symm.trans h
theorem PS.set {D : Nat → Prop} {s t : Shared} (P : PS D s t) {g : Nat} (hd : ¬ D g) {st : GenState} (hc : clean st = true) : PS D (s.setGen g st) (t.setGen g st) where
 heap := P.heap
 drawn := P.drawn
 toks := P.toks
 os := P.os
 size := by show (s.gens.setIfInBounds g st).size = (t.gens.setIfInBounds g st).size; simp [P.size]
 dead := fun i hi => by
  have ne : g ≠ i := fun e => hd (e ▸ hi)
  obtain ⟨st', e1, e2, e3⟩ := P.dead i hi
  exact ⟨st', by show (t.gens.setIfInBounds g st)[i]? = _; rw [Array.getElem?_setIfInBounds_ne ne]; exact e1, e2, by show (s.gens.setIfInBounds g st)[i]? = _; rw [Array.getElem?_setIfInBounds_ne ne]; exact e3⟩
 live := fun i hi => by
  obtain ⟨e1, e2⟩ := P.live i hi
  show (s.gens.setIfInBounds g st)[i]? = (t.gens.setIfInBounds g st)[i]? ∧ ∀ x, (t.gens.setIfInBounds g st)[i]? = some x → _
  by_cases ne : g = i
  · subst ne
    rw [Array.getElem?_setIfInBounds_self, Array.getElem?_setIfInBounds_self, P.size]
    refine ⟨rfl, fun x hx => ?_⟩
    split at hx
    · cases hx; exact hc
    · cases hx
  · rw [Array.getElem?_setIfInBounds_ne ne, Array.getElem?_setIfInBounds_ne ne]
    exact ⟨e1, e2⟩
theorem PS.push {D : Nat → Prop} {s t : Shared} (P : PS D s t) (c : Code) : PS D { s with gens := s.gens.push (.fresh c) } { t with gens := t.gens.push (.fresh c) } where
 heap := P.heap
 drawn := P.drawn
 toks := P.toks
 os := P.os
 size := by simp [P.size]
 dead := fun i hi => by
  obtain ⟨st', e1, e2, e3⟩ := P.dead i hi
  have l1 := (Array.getElem?_eq_some_iff.mp e1).1
  refine ⟨st', ?_, e2, ?_⟩
  · show (t.gens.push _)[i]? = _
    rw [Array.getElem?_push_lt l1, ← e1, Array.getElem?_eq_getElem l1]
  · have l2 := (Array.getElem?_eq_some_iff.mp e3).1
    show (s.gens.push _)[i]? = _
    rw [Array.getElem?_push_lt l2, ← e3, Array.getElem?_eq_getElem l2]
 live := fun i hi => by
  obtain ⟨e1, e2⟩ := P.live i hi
  show (s.gens.push _)[i]? = (t.gens.push _)[i]? ∧ ∀ st, (t.gens.push _)[i]? = some st → _
  rw [Array.getElem?_push, Array.getElem?_push, P.size, e1]
  refine ⟨rfl, fun st hst => ?_⟩
  split at hst
  · cases hst; rfl
  · exact e2 st hst
def Kept (D : Nat → Prop) (t t' : Shared) : Prop := (∀ i, D i → t'.gens[i]? = t.gens[i]?) ∧ t.gens.size ≤ t'.gens.size
theorem Kept.refl {D : Nat → Prop} {t : Shared} : Kept D t t := ⟨fun _ _ => rfl, Nat.le_refl _⟩
theorem Kept.trans {D : Nat → Prop} {t t' t2 : Shared} (a : Kept D t t') (b : Kept D t' t2) : Kept D t t2 := ⟨fun i hi => (b.1 i hi).trans (a.1 i hi), Nat.le_trans a.2 b.2⟩
theorem Kept.set {D : Nat → Prop} {t : Shared} {g : Nat} (hd : ¬ D g) (st : GenState) : Kept D t (t.setGen g st) := ⟨fun i hi => Array.getElem?_setIfInBounds_ne fun e => hd (by rw [e]; exact hi), by show t.gens.size ≤ (t.gens.setIfInBounds g st).size; simp⟩
theorem Kept.gens {D : Nat → Prop} {t t' : Shared} (h : t'.gens = t.gens) : Kept D t t' := ⟨fun i _ => by rw [h], by rw [h]; exact Nat.le_refl _⟩
def ae5 : End → Bool
 | .ret _ => true
 | .susp _ _ _ _ _ _ fs => fs.all noG
def Yh (u : Shared) : Nat → Prop := fun i => ∃ st, u.gens[i]? = some st ∧ G8 st = true
def adN (u : Shared) : Shared := { u with gens := u.gens.map Ox }
theorem PS.bare {D : Nat → Prop} {s u : Shared} (P : PS D s u) (h : PyProof.Rows.AllBare s.gens) : PyProof.Rows.AllBare u.gens := fun y hy => by
 obtain ⟨i, hi, e⟩ := Array.mem_iff_getElem.mp hy
 have e : u.gens[i]? = some y := by rw [Array.getElem?_eq_getElem hi, e]
 by_cases hd : D i
 · obtain ⟨st, e1, _, e3⟩ := P.dead i hd
   rw [e] at e1
   cases e1
   rw [← Ww]
   exact h _ (Array.mem_of_getElem? e3)
 · exact h _ (Array.mem_of_getElem? ((P.live i hd).1.trans e))
end GenP
namespace GenP
open PySem PySem.Spec PyProof.Rows L2 GenW
section
variable {D : Nat → Prop} {s u : Shared} {X : Cx} {pins : List (Addr × Obj)} {σ : L2.St} {H : Hp}
end
abbrev SL := List (Nat × GenState)
def Sl (sl : SL) (s : Shared) : Prop := ∀ p ∈ sl, s.gens[p.1]? = some p.2 ∧ G8 p.2 = true
theorem Sl.keep {sl : SL} {u u' : Shared} (h : Sl sl u) (k : Kept (Yh u) u u') : Sl sl u' := fun p hp => by
 obtain ⟨e, hs⟩ := h p hp
 exact ⟨(k.1 p.1 ⟨_, e, hs⟩).trans e, hs⟩
def cutS (n : Nat) (s : Shared) : Shared := { s with heap := { s.heap with objs := s.heap.objs.extract 0 n } }
theorem Yi {n : Nat} {s : Shared} (h : n ≤ s.heap.objs.size) : (cutS n s).heap.objs.size = n := by
 show (s.heap.objs.extract 0 n).size = n
 rw [Array.size_extract]
 omega
section
variable {X : Cx} {pins : List (Addr × Obj)} {σ : L2.St} {H H1 : Hp} {s s1 : Shared} {n : Nat}
structure Low (X : Cx) (pins : List (Addr × Obj)) (n : Nat) : Prop where
 loc : X.env.locals < n
 cel : ∀ (x : Str) (c : Addr), aiU x X.env.cells = some c → c < n
 pin : ∀ p ∈ X.pn ++ pins, p.1 < n
end
abbrev E0g : XK := fun _ _ _ => False
structure GD where
 P : Program
 w : World
 K : PySem.W.Frag
 mg : Str → Option Value
 base : Heap
 N : List Str
 qual : Str
 scope : Scope
 f : Addr
 cdv : Value
 A : Around
 outer : List Env
 n : Nat
 g : Nat
 pn : List (Addr × Obj)
def GD.cx (G : GD) (s : Shared) (H : Hp) : Cx := gcxOf G.P G.w G.K G.mg G.base G.N G.qual G.scope G.f G.cdv G.A G.outer s H E0g G.pn
def GD.env (G : GD) : Env := envOfC G.qual G.scope G.n G.f G.cdv
variable {G : GD} {s s0 s1 s2 : Shared} {H H0 H1 H2 : Hp} {pins : List (Addr × Obj)} {σ : L2.St}
end GenP
namespace GenP
open PySem PySem.Spec PyProof.Rows L2 GenW Pk
inductive GSt where
 | go (a : Fr) (h : Hh)
 | out (f : Fl) (a : Fr) (h : Hh)
 | err
inductive GR where
 | go (n : Nat) (a fr : Fr) (h : Hh)
 | out (f : Fl) (a : Fr) (h : Hh)
 | err
abbrev Step := D → Fr → Hh → GSt
abbrev vQ := Step → Nat → Fr → Fr → Hh → GR
def GR.bind (r : GR) (k : Nat → Fr → Fr → Hh → GR) : GR := match r with
 | .go n a fr h => k n a fr h
 | .out f a h => .out f a h
 | .err => .err
def adm : vQ := fun _ n a fr h => .go n a fr h
def ae8 (b c : vQ) : vQ := fun st n a fr h => (b st n a fr h).bind (c st)
def aew (ms : M Fl) : vQ := fun _ n a fr h => match ms fr h with
 | .ok .nx fr h => .go n a fr h
 | _ => .err
def frozen (fr : Fr) : Bool := fr.all fun o => match o with
 | some d => !d.own
 | none => true
def aex (m : M D) : vQ := fun st n a fr h => match n with
 | 0 => .err
 | n + 1 => match m fr h with
   | .ok d fr h => if frozen fr then (match st d a h with
     | .go a h => .go n a fr h
     | .out f a h => .out f a h
     | .err => .err) else .err
   | _ => .err
def Wx (g : D → M Unit) (b : vQ) : List D → vQ
 | [] => adm
 | d :: ds => fun st n a fr h => match g d fr h with
   | .ok _ fr h => (b st n a fr h).bind (Wx g b ds st)
   | _ => .err
def ags (li : M (List D)) (g : D → M Unit) (b : vQ) : vQ := fun st n a fr h => match li fr h with
 | .ok ds fr h => Wx g b ds st n a fr h
 | _ => .err
def ahA (t : M Bool) (b c : vQ) : vQ := fun st n a fr h => match t fr h with
 | .ok true fr h => b st n a fr h
 | .ok false fr h => c st n a fr h
 | _ => .err
def At (G : GD) (T : Tb) (Tok : Fr → Shared → Wd → Hp → Hh → Prop) (sl : SL) (X : Cx) (a : Fr) (w : Wd) (σ : L2.St) (H : Hp) (fr : Fr) (h : Hh) (s : Shared) (pins : List (Addr × Obj)) : Prop :=
 ∃ sw ww Hw hw, Tok a sw ww Hw hw ∧ G.n ≤ sw.heap.objs.size ∧ X = G.cx (cutS G.n sw) Hw ∧ L2.Inv X pins σ H s ∧ Rel G.K T (Bs.of ww Hw) w σ H fr h ∧ Sl ((G.g, .running) :: sl) s ∧ ∀ p ∈ pins, G.n ≤ p.1
def Fam (G : GD) (X : Cx) : Prop := ∃ s H, s.heap.objs.size = G.n ∧ X = G.cx s H
structure Qw (G : GD) (T : Tb) where
 Tok : Fr → Shared → Wd → Hp → Hh → Prop
 R : GenEnd
 Y : Protocol
 step : Step
 Fin : Fl → Fr → Hh → Prop
 yld : ∀ {sl : SL} {X : Cx} {n : Nat} {s₀ : Shared} {kap : Resume → Shared → Prop} {x : V} {u : Value} {d : D} {a : Fr} {w : Wd} {σ : L2.St} {H : Hp} {fr : Fr} {h : Hh} {s : Shared} {pins : List (Addr × Obj)},
  At G T Tok sl X a w σ H fr h s pins → frozen fr = true → RelV x u → bA G.K T w x d →
  match step d a h with
  | .go a' h' => (∀ {X' : Cx} {w' : Wd} {H' : Hp} {s' : Shared}, w.le w' → At G T Tok sl X' a' w' σ H' fr h' s' pins → kap (.send .none) s' ∧ kap (.send (.bool true)) s') → Y n s₀ u s kap
  | .out f a' h' => Fin f a' h' → Y n s₀ u s kap
  | .err => True
structure acg (G : GD) (A : Around) (c : Code) (fs : List Frame) (gd : Bool → Bool) : Prop where
 over : A.over c fs = G.A.deeper G.env
 split : splitAtGen fs = none
 guard : fs.any Frame.guarded = false
 gd : gd false = false
section
variable {G : GD} {T : Tb}
def Exc (C : Qw G T) (A : Around) (c : Code) (fs : List Frame) (J : Value → Sem PySem.Fin) : Prop := ∀ n s₀ X e s, Fam G X → X.xe e s → Seg (model G.P G.w) A C.R C.Y n s₀ c (J e) fs s
def Qx (C : Qw G T) (sl : SL) (A : Around) (c : Code) (fs : List Frame) (t : Sem PySem.Fin) (w : Wd) (pins : List (Addr × Obj)) (r : GR) : Prop := match r with
 | .go n a fr h => ∀ {X : Cx} {w' : Wd} {σ : L2.St} {H : Hp} {s s₀ : Shared}, w.le w' → At G T C.Tok sl X a w' σ H fr h s pins → Seg (model G.P G.w) A C.R C.Y n s₀ c t fs s
 | .out f a h => C.Fin f a h
 | .err => False
theorem Qx.le {C : Qw G T} {sl : SL} {A : Around} {c : Code} {fs : List Frame} {t : Sem PySem.Fin} {w w' : Wd} {pins : List (Addr × Obj)} {r : GR} (l : w.le w') (z : Qx C sl A c fs t w pins r) : Qx C sl A c fs t w' pins r := by
 cases r with
 | go n a fr h => exact fun l2 => z (Wd.le_trans l l2)
 | out f a h => exact z
 | err => exact z
def GA (G : GD) (T : Tb) (st : Stmt) (m : vQ) : Prop := ∀ (C : Qw G T) (sl : SL) (A : Around) (c : Code) (fs : List Frame) (Kf : Flow → Sem PySem.Fin) (J : Value → Sem PySem.Fin) (gd : Bool → Bool) (lv : List Value → List Value) (n : Nat) (s₀ : Shared) (X : Cx) (a : Fr) (w : Wd) (σ : L2.St) (H : Hp) (fr : Fr) (h : Hh) (s : Shared) (pins : List (Addr × Obj)),
 acg G A c fs gd → Exc C A c fs J → At G T C.Tok sl X a w σ H fr h s pins → Qx C sl A c fs (Kf .next) w pins (m C.step n a fr h) →
 Seg (model G.P G.w) A C.R C.Y n s₀ c ((exec st G.env).wrap Kf J gd lv) fs s
def GAs (G : GD) (T : Tb) (sts : List Stmt) (m : vQ) : Prop := ∀ (C : Qw G T) (sl : SL) (A : Around) (c : Code) (fs : List Frame) (Kf : Flow → Sem PySem.Fin) (J : Value → Sem PySem.Fin) (gd : Bool → Bool) (lv : List Value → List Value) (n : Nat) (s₀ : Shared) (X : Cx) (a : Fr) (w : Wd) (σ : L2.St) (H : Hp) (fr : Fr) (h : Hh) (s : Shared) (pins : List (Addr × Obj)),
 acg G A c fs gd → Exc C A c fs J → At G T C.Tok sl X a w σ H fr h s pins → Qx C sl A c fs (Kf .next) w pins (m C.step n a fr h) →
 Seg (model G.P G.w) A C.R C.Y n s₀ c ((execs sts G.env).wrap Kf J gd lv) fs s
theorem At.next {Tok : Fr → Shared → Wd → Hp → Hh → Prop} {sl : SL} {X : Cx} {a : Fr} {w w' : Wd} {σ σ' : L2.St} {H H' : Hp} {fr fr' : Fr} {h h' : Hh} {s s' : Shared} {pins : List (Addr × Obj)} (z : At G T Tok sl X a w σ H fr h s pins) (I : L2.Inv X pins σ' H' s')
 (r : ∀ B, Rel G.K T B w σ H fr h → Rel G.K T B w' σ' H' fr' h') (k : Sl ((G.g, .running) :: sl) s → Sl ((G.g, .running) :: sl) s') : At G T Tok sl X a w' σ' H' fr' h' s' pins := by
 obtain ⟨sw, ww, Hw, hw, t, hn, e, _, R, S, hp⟩ := z
 exact ⟨sw, ww, Hw, hw, t, hn, e, I, r _ R, k S, hp⟩
structure GOk (G : GD) (T : Tb) (k : Nat) : Prop where
 cq : ∀ s H, s.heap.objs.size = G.n → Cq (G.cx s H) T (WX.up E0g) k
theorem At.x {Tok : Fr → Shared → Wd → Hp → Hh → Prop} {sl : SL} {X : Cx} {a : Fr} {w : Wd} {σ : L2.St} {H : Hp} {fr : Fr} {h : Hh} {s : Shared} {pins : List (Addr × Obj)} (z : At G T Tok sl X a w σ H fr h s pins) :
 ∃ s' H', s'.heap.objs.size = G.n ∧ X = G.cx s' H' ∧ L2.Inv X pins σ H s ∧ (∃ B, Rel G.K T B w σ H fr h) ∧ Sl ((G.g, .running) :: sl) s := by
 obtain ⟨sw, ww, Hw, hw, _, hn, e, I, R, S, _⟩ := z
 exact ⟨_, _, Yi hn, e, I, ⟨_, R⟩, S⟩
end
end GenP
namespace GenP
open PySem PySem.Spec PyProof.Rows L2 GenW Pk
section
variable {G : GD} {T : Tb}
end
end GenP
namespace GenP
open PySem PySem.Spec PyProof.Rows L2 GenW Pk
def Z0 (P : Program) (w : World) (K : PySem.W.Frag) (mg : Str → Option Value) (base : Heap) (N : List Str) (qual : Str) (scope : Scope) (body : List Stmt) (f : Addr) (cdv : Value) (outer : List Env) (H : Hp) (vs : List V) (s : Shared) (u : Value) (s' : Shared) : Prop :=
 ∃ a g go, u = .ref a ∧ s.heap.objs.size < a ∧ s'.heap.get? a = some go ∧ (∀ h : Heap, h.get? a = some go → h.IsGen a g) ∧ (∀ v, go.data ≠ .cell v) ∧ s'.gens[g]? = some (.fresh (.func body (envOfC qual scope s.heap.objs.size f cdv))) ∧
   s'.os = s.os ∧ AllBare s'.gens ∧ (∀ b o, s.heap.get? b = some o → s'.heap.get? b = some o) ∧
   ∀ A : Around, A.handled = none → A.frames = some outer → L2.Inv (GD.cx ⟨P, w, K, mg, base, N, qual, scope, f, cdv, A, outer, s.heap.objs.size, g, [(a, go)]⟩ s H) [] (L2.start N vs) H s'
structure aef (P : Program) (w : World) (K : PySem.W.Frag) (mg : Str → Option Value) (base : Heap) (f : Addr) (fd : FuncData) (ps N : List Str) (qual : Str) (scope : Scope) (body : List Stmt) : Prop where
 ex : ∃ cdv, ∀ (A : Around) (outer : List Env) (s : Shared) (H : Hp) (args : Args) (us : List Value) (vs : List V), A.depth < recursionLimit → A.handled = none → Env0 P w K mg base A outer s H → BindsTo s fd args (ps.zip us) → Vals vs us → vs.length = ps.length →
  codeAny (model P w) A (.call (.ref f) args) (fun r s' => match r with
   | .ok (.ret u) => Z0 P w K mg base N qual scope body f cdv outer H vs s u s'
   | _ => False) s
section
variable {P : Program} {w : World} {K : PySem.W.Frag} {mg : Str → Option Value} {base : Heap} {x qual : Str} {params : Arguments} {body : List Stmt} {scope : Scope} {f : Addr} {fd : FuncData} {N ps : List Str} {dvs : List V} {kws : List (Str × V)}
end
section
variable {X : Cx} {T : Tb} {W : WX} {k : Nat}
def Yf (X : Cx) (pins : List (Addr × Obj)) (tg : Expr) (body : List Stmt) (a : Addr) (g : Nat) (D : Ends) : Protocol := fun _ _ v s kap => ∀ gs' : GenState, gs'.bare = true →
 wpAny (model X.prog X.w) X.A (assign tg X.env v) (fun _ s2 => wpAny (model X.prog X.w) X.A (execs body X.env) (fun f s3 => match f with
  | .next => (G8 gs' = true → s3.gens[g]? = some gs') ∧ s3.heap.IsGen a g ∧ s3.heap.NoLimit ∧ kap (.send .none) (s3.setGen g .running) ∧ kap (.send (.bool true)) (s3.setGen g .running)
  | .cont => (G8 gs' = true → s3.gens[g]? = some gs') ∧ s3.heap.IsGen a g ∧ s3.heap.NoLimit ∧ kap (.send .none) (s3.setGen g .running) ∧ kap (.send (.bool true)) (s3.setGen g .running)
  | .brk => ∃ σ' H', L2.Inv X pins σ' H' s3 ∧ D.nx σ' H'
  | .ret u => ∃ x σ' H', L2.Inv X pins σ' H' s3 ∧ RelV x u ∧ D.rt x H') X.xe s2) X.xe (s.setGen g gs')
def Rf (X : Cx) (pins : List (Addr × Obj)) (D : Ends) : GenEnd := fun _ _ r s => (r = .ok (.ret .none) ∨ r = .ok .next) ∧ (∃ σ' H', L2.Inv X pins σ' H' s ∧ D.nx σ' H') ∨ ∃ e, r = .error e ∧ False
def stepF (g : D → M Unit) (b : M Fl) : Step := fun d a h => match g d a h with
 | .ok _ a h => match b a h with
   | .ok .nx a h => .go a h
   | .ok .ct a h => .go a h
   | .ok .brk a h => .out .nx a h
   | .ok (.rt d) a h => .out (.rt d) a h
   | _ => .err
 | _ => .err
def ahB (X : Cx) (T : Tb) (B : Bs) (w0 : Wd) (pins : List (Addr × Obj)) : Fr → Shared → Wd → Hp → Hh → Prop := fun a sw ww Hw hw => ∃ σ, L2.Inv X pins σ Hw sw ∧ Rel X.K T B ww σ Hw a hw ∧ w0.le ww
def ahC (X : Cx) (T : Tb) (B : Bs) (W : WX) (w0 : Wd) (D : Ends) : Fl → Fr → Hh → Prop := fun f a h => cP X.K T B W w0 (.ok f a h) D
end
end GenP
namespace GenP
open PySem PySem.Spec PyProof.Rows L2 GenW Pk
abbrev Gc (X : Cx) (N : List Str) (qual : Str) (scope : Scope) (f : Addr) (cdv : Value) (n g : Nat) (a : Addr) (go : Obj) : GD := ⟨X.prog, X.w, X.K, X.mg, X.base, N, qual, scope, f, cdv, X.A.in1, X.stack, n, g, [(a, go)]⟩
section
variable {X : Cx} {T : Tb} {W : WX} {k : Nat} {pins : List (Addr × Obj)} {tg : Expr} {body : List Stmt} {gm : D → M Unit} {bm : M Fl} {is : List Nat} {B : Bs} {w0 : Wd} {Dn : Ends}
 {N : List Str} {qual : Str} {scope : Scope} {f : Addr} {cdv : Value} {n g : Nat} {a : Addr} {go : Obj}
structure ahD (X : Cx) (pins : List (Addr × Obj)) (N : List Str) (qual : Str) (scope : Scope) (f : Addr) (cdv : Value) (n g : Nat) (a : Addr) (go : Obj) : Prop where
 low : Low X pins n
 cel : (Gc X N qual scope f cdv n g a go).env.cells = []
 na : n < a
 gen : ∀ h : Heap, h.get? a = some go → h.IsGen a g
 dat : ∀ v, go.data ≠ .cell v
 fr : ∀ b ∈ frs X.stack, b < n
end
end GenP
namespace GenP
open PySem PySem.Spec PyProof.Rows L2 GenW Pk
def afc (P : Program) (w : World) (K : PySem.W.Frag) (mg : Str → Option Value) (base : Heap) (T : Tb) (k : Nat) (N : List Str) (qual : Str) (scope : Scope) (body : List Stmt) (m : vQ) : Prop :=
 ∀ (f : Addr) (cdv : Value) (A : Around) (outer : List Env) (n g : Nat) (pn : List (Addr × Obj)), GOk ⟨P, w, K, mg, base, N, qual, scope, f, cdv, A, outer, n, g, pn⟩ T k → GAs ⟨P, w, K, mg, base, N, qual, scope, f, cdv, A, outer, n, g, pn⟩ T body m
structure WCG (X : Cx) (e : Expr) (N : List Str) (qual : Str) (scope : Scope) (body : List Stmt) (σ : L2.St) (H : Hp) (Q : List V → Hp → Prop) : Prop where
 go : ∀ pins s, L2.Inv X pins σ H s → wpAny (model X.prog X.w) X.A (eval e X.env) (fun u s' => ∃ f cdv vs H1 s1, L2.Inv X pins σ H1 s1 ∧ Q vs H1 ∧ Z0 X.prog X.w X.K X.mg X.base N qual scope body f cdv X.stack H1 vs s1 u s') X.xe s
abbrev agt (X : Cx) (T : Tb) (W : WX) (e : Expr) (N : List Str) (qual : Str) (scope : Scope) (body : List Stmt) (m : M (List D)) : Prop := fX (WCG X e N qual scope body) X.K T W vA m
def adn (nN : Nat) (b : vQ) (st : Step) : List D → Fr → Hh → R Fl := fun ds a h => match b st big a (startF nN ds) h with
 | .go _ a _ h => .ok .nx a h
 | .out f a h => .ok f a h
 | .err => .err
def agu (mc : M (List D)) (nN : Nat) (b : vQ) (g : D → M Unit) (bm : M Fl) : M Fl := fun fr h => match mc fr h with
 | .ok ds fr h => adn nN b (stepF g bm) ds fr h
 | .exc x fr h => .exc x fr h
 | .err => .err
section
variable {X : Cx} {T : Tb} {W : WX} {k kk : Nat} {x : Str} {tp pos : Pos} {iter : Expr} {body gbody : List Stmt} {gm : D → M Unit} {bm : M Fl} {is : List Nat} {N ps : List Str} {qual : Str} {scope : Scope} {gb : vQ} {mc : M (List D)}
end
end GenP
namespace GenP
open PySem PySem.Spec PyProof.Rows L2 GenW Pk
def agv (c : Nat) (mo : M D) : M (List D) := mo.bind fun o fr h => match o.ins h with
 | some (c', _) => if c' = c then .ok [o] fr h else .err
 | none => .err
structure afe (X : Cx) (T : Tb) (m : Str) (c : Nat) (ps N : List Str) (qual : Str) (scope : Scope) (body : List Stmt) : Prop where
 ex : ∃ (f : Addr) (fd : FuncData), Cls X.K (T.cad c) ∧ Meth X.K (T.cad c) m f ∧ aef X.prog X.w X.K X.mg X.base f fd ps N qual scope body ∧ Binds X.K fd ps [] ∧ m ∉ T.fld c
 one : ps.length = 1
section
variable {X : Cx} {T : Tb} {W : WX} {k c : Nat} {m nm : Str} {p pos pos' apos : Pos} {o e : Expr} {mo : M D} {ps N : List Str} {qual : Str} {scope : Scope} {body : List Stmt}
end
end GenP
namespace Pk
open PySem PySem.Spec L2
def D.enc (d : D) : PyData := d.toP.getD .none
def leD (a b : D) : Bool := PySem.W.dataLe false D.enc a b
def ach (a : D) : List D → List D
 | [] => [a]
 | b :: l => if leD a b then a :: b :: l else b :: ach a l
def U5 : List D → List D
 | [] => []
 | a :: l => ach a (U5 l)
def TF : List D → Bool
 | [] => true
 | a :: l => l.all (fun b => !leD b a) && TF l
theorem pw_or {α : Type} {R : α → α → Prop} : ∀ {l : List α}, l.Pairwise R → ∀ a ∈ l, ∀ b ∈ l, a = b ∨ R a b ∨ R b a
 | x :: l, h, a, ha, b, hb => by
   obtain ⟨h1, h2⟩ := List.pairwise_cons.mp h
   rcases List.mem_cons.mp ha with ea | ha
   · rcases List.mem_cons.mp hb with eb | hb
     · exact .inl (ea.trans eb.symm)
     · exact .inr (.inl (ea ▸ h1 b hb))
   · rcases List.mem_cons.mp hb with eb | hb
     · exact .inr (.inr (eb ▸ h1 a ha))
     · exact pw_or h2 a ha b hb
def aci : PyData → Bool
 | .tuple (_ :: _) => true
 | _ => false
def ado : PyData → Bool
 | .none => false
 | .tuple _ => false
 | _ => true
def D.lds (h : Hh) (d : D) : Option (List D) := match d.der h with
 | .fl l => some l
 | .nl l => some l
 | .kl l => some l
 | _ => none
def afg (h : Hh) (d : D) : Option D := match d.lds h with
 | some l => if l.all (fun d => d.toP.isSome && decide (d.enc.depth ≤ 8)) && (l.all fun a => l.all fun b => PySem.W.alike a.enc b.enc) && (l.all (fun d => aci d.enc) || l.all (fun d => ado d.enc)) && decide (l.length ≤ big) && TF (U5 l) then some (.nl (U5 l)) else none
 | none => none
section
variable {X : Cx} {T : Tb} {W : WX} {k : Nat} {a : Expr} {ma : M D} {pf pos : Pos}
end
end Pk
namespace Pk
open PySem PySem.Spec PyProof.Rows L2
def keyB : Key → D
 | .inl i => .int i
 | .inr s => .str s
theorem acj {K : PySem.W.Frag} {T : Tb} {w : Wd} (k : Key) : bA K T w (kV k) (keyB k) := by
 cases k with
 | inl i => exact .int i
 | inr s => exact .str s
theorem TJ {K : PySem.W.Frag} {T : Tb} {w : Wd} : ∀ ks : List Key, au K T w (ks.map kV) (ks.map keyB)
 | [] => .nil
 | k :: ks => .cons (acj k) (TJ ks)
def valE : List Key → List D → Key → Option D
 | k' :: ks, d :: ds, k => if k' = k then some d else valE ks ds k
 | _, _, _ => none
def ack (ks : List Key) (k : Key) : Bool := ks.any fun k' => decide (k' = k)
def adp (ks : List Key) (k : Key) : List Key := if ack ks k = true then ks else ks ++ [k]
def adq {α : Type} (ks : List Key) (ds : List α) (k : Key) (v : α) : List α := if ack ks k = true then List.zipWith (fun k' d => if k' = k then v else d) ks ds else ds ++ [v]
def cellE (h : Hh) (d : D) : Option (Nat × List Key × List D) := match d with
 | .ref n => match h[n]? with
   | some (.dk ks ds) => some (n, ks, ds)
   | _ => none
 | _ => none
def adt (h : Hh) (o k : D) : Option D := (cellE h o).bind fun x => (keyD k).bind fun k => valE x.2.1 x.2.2 k
def acl (h : Hh) (o k z : D) : Option D := (cellE h o).bind fun x => (keyD k).bind fun k => some ((valE x.2.1 x.2.2 k).getD z)
def adu (h : Hh) (o k d : D) : Option Hh := (cellE h o).bind fun x => (keyD k).bind fun k => if x.2.1.length ≤ big then some (h.set x.1 (.dk (adp x.2.1 k) (adq x.2.1 x.2.2 k d))) else none
def acn (h : Hh) (o : D) : Option D := (cellE h o).bind fun x => some (.nl (x.2.1.map keyB))
def agw : M D := fun fr h => .ok (.ref h.length) fr (h ++ [.dk [] []])
def agx (mo mk : M D) : M D := mo.bind fun o => mk.bind fun k fr h => M.opt (adt h o k) fr h
def afh (mo mk mz : M D) : M D := mo.bind fun o fr h => if (cellE h o).isSome = true then (mk.bind fun k => mz.bind fun z fr h => M.opt (acl h o k z) fr h) fr h else .err
def agy (mo mk mv : M D) : M Fl := mv.bind fun d => mo.bind fun o => mk.bind fun k fr h => match adu h o k d with
 | some h' => .ok .nx fr h'
 | none => .err
def afi (mo : M D) : M D := mo.bind fun o fr h => M.opt (acn h o) fr h
section
variable {X : Cx} {e : Expr} {td : TE} {apos cpos p pos : Pos}
def aeg (td : TE) : TE := fun σ H Q => td σ H fun x H1 => ∃ d kvs, x = .ref d ∧ H1 d = some (.dK kvs) ∧ ∀ q, H1 q = none → Q (.ref q) (upd H1 q (.lst (kvs.map fun kv => kV kv.1)))
end
section
variable {X : Cx} {T : Tb} {W : WX} {k : Nat} {pos pos' cpos apos p : Pos} {o e f : Expr} {mo mk mz m : M D}
def aey (i : Nat) (m : M D) : M D := (aM i).bind fun o fr h => if (o.lstP h).isSome = true then (m.bind fun x => (aM i).bind fun o fr h => M.opt (pC h o x) fr h) fr h else .err
end
end Pk
namespace Pk
open PySem PySem.Spec PyProof.Rows L2
def D.toPd (h : Hh) (d : D) : Option PyData := match d with
 | .ref n => (D.lstP h (.ref n)).map .list
 | d => d.toP
def aeh (h : Hh) (d e : D) : Option Bool := match d.toPd h, e.toP with
 | some p, some q => if SeqAt.shaped p && SeqAt.shaped q then some (PyData.eqv p q) else none
 | _, _ => none
def ahE (h : Hh) (d e : D) : Option Bool := (aeh h d e).map (!·)
section
variable {X : Cx} {T : Tb} {W : WX} {k : Nat}
end
end Pk
namespace Pk
open PySem PySem.Spec PyProof.Rows L2
def Z3 {α : Type} (t : Fr → Hh → Bool) (m1 m2 : M α) : M α := fun fr h => if t fr h = true then m1 fr h else m2 fr h
def La (m : M D) : Fr → Hh → Bool := fun fr h => match m fr h with
 | .ok (.ref _) _ _ => true
 | _ => false
section
variable {X : Cx} {T : Tb} {W : WX} {k : Nat} {pos : Pos} {tg e elt : Expr} {ifs : List Expr} {body : List Stmt} {g : D → M Unit} {b : M Fl} {is : List Nat} {t : M Bool} {m me : M D} {scope : Scope}
noncomputable def agz (m : M D) (g : D → M Unit) (b : M Fl) : M Fl := Z3 (La m) (qD (DK m) g b) (jN (wV m) g b)
noncomputable def ahF (vs : List Nat) (m : M D) (g : D → M Unit) (t : M Bool) (me : M D) : M D := Z3 (La m) (DN vs (DK m) g t me) (lM vs (wV m) g t me)
noncomputable def afj (m : M D) (g : D → M Unit) (b : M Fl) : M Fl := Z3 (La m) (qD (rP m) g b) (jN (qZ m) g b)
end
end Pk
namespace Pk
open PySem PySem.Spec PyProof.Rows L2
def uW {α : Type} : List (Option α) → Option (List α)
 | [] => some []
 | some a :: l => (uW l).map (a :: ·)
 | none :: _ => none
def D.toPh (h : Hh) : Nat → D → Option PyData
 | 0, d => d.toP
 | k + 1, d => match d with
   | .ref n => match h[n]? with
     | some (.nl l) => (uW (l.map (D.toPh h k))).map .list
     | _ => none
   | .fl l => (uW (l.map (D.toPh h k))).map .list
   | .tup l => (uW (l.map (D.toPh h k))).map .tuple
   | d => d.toP
def U6 (h : Hh) (d e : D) : Option Bool := match d.toPh h 3, e.toPh h 3 with
 | some p, some q => if SeqAt.shaped p && SeqAt.shaped q then some (PyData.eqv p q) else none
 | _, _ => none
def Qy (h : Hh) (d e : D) : Option Bool := (U6 h d e).map (!·)
theorem Wy {h : Hh} {d e : D} {c : Bool} (q : U6 h d e = some c) : ∃ p p', d.toPh h 3 = some p ∧ e.toPh h 3 = some p' ∧ SeqAt.shaped p = true ∧ SeqAt.shaped p' = true ∧ c = PyData.eqv p p' := by
 unfold U6 at q
 split at q
 · rename_i p p' e1 e2
   split at q
   · rename_i hs
     obtain ⟨h1, h2⟩ := Bool.and_eq_true_iff.mp hs
     cases q
     exact ⟨p, p', e1, e2, h1, h2, rfl⟩
   · cases q
 · cases q
section
variable {X : Cx} {T : Tb} {W : WX} {k : Nat}
theorem Ip {K : PySem.W.Frag} {H : Hp} {w : Wd} {f : D → Option PyData} : ∀ {vs : List V} {ds : List D} {ps : List PyData}, au K T w vs ds → (∀ v d p, bA K T w v d → f d = some p → Dp K H v p) → uW (ds.map f) = some ps → DpAll K H vs ps
 | _, _, ps, .nil, _, e => by
   cases e
   exact .nil
 | _, _, ps, .cons (d := d) (ds := ds) r rs, hf, e => by
   rw [aiN] at e
   cases q : f d with
   | none => rw [q] at e; cases e
   | some p =>
     rw [q] at e
     obtain ⟨qs, e1, rfl⟩ := Option.map_eq_some_iff.mp (show (uW (ds.map f)).map (p :: ·) = some ps from e)
     exact .cons (hf _ _ _ r q) (Ip rs hf e1)
theorem BZ {B : Bs} {w : Wd} {σ : L2.St} {H : Hp} {fr : Fr} {h : Hh} (R : Rel X.K T B w σ H fr h) : ∀ (k : Nat) {v : V} {d : D} {p : PyData}, bA X.K T w v d → d.toPh h k = some p → Dp X.K H v p
 | 0, v, d, p, r, e => zE R.sub r e
 | k + 1, v, d, p, r, e => by
   cases d with
   | ref n =>
     have e : (match h[n]? with
      | some (.nl l) => (uW (l.map (D.toPh h k))).map PyData.list
      | _ => none) = some p := e
     cases q : h[n]? with
     | none => rw [q] at e; cases e
     | some c =>
       rw [q] at e
       cases c with
       | nl l =>
         obtain ⟨ps, e1, rfl⟩ := Option.map_eq_some_iff.mp (show (uW (l.map (D.toPh h k))).map PyData.list = some p from e)
         cases r with
         | @ref a _ s =>
           obtain ⟨vs, sq, rv⟩ := qd R s q
           exact .lst sq (Ip rv (fun v d p r e => BZ R k r e) e1)
       | _ => cases e
   | fl l =>
     obtain ⟨ps, e1, rfl⟩ := Option.map_eq_some_iff.mp (show (uW (l.map (D.toPh h k))).map PyData.list = some p from e)
     cases r with
     | fl s rv => exact .lst (SqL.of (R.sub _ _ s)) (Ip rv (fun v d p r e => BZ R k r e) e1)
   | tup l =>
     obtain ⟨ps, e1, rfl⟩ := Option.map_eq_some_iff.mp (show (uW (l.map (D.toPh h k))).map PyData.tuple = some p from e)
     cases r with
     | tup s rv => exact .tup (dI R.sub s) (Ip rv (fun v d p r e => BZ R k r e) e1)
   | _ => exact zE R.sub r e
theorem aay (C : Cq X T W k) : rY X T vV .NotEq Qy := fun B w σ H fr h x y d e c Q R rx ry q kk => by
 obtain ⟨c', q', rfl⟩ := Option.map_eq_some_iff.mp q
 obtain ⟨p, p', e1, e2, s1, s2, rfl⟩ := Wy q'
 exact qY (op_neD (by have := C.u; omega)) ⟨p, p', BZ R 3 rx e1, BZ R 3 ry e2, s1, s2, kk⟩
def agA (n : Nat) (gs : List D → M Unit) (d : D) : M Unit := match d with
 | .tup l => if l.length = n then gs l else M.opt none
 | .fl l => if l.length = n then gs l else M.opt none
 | .ref m => fun fr h => match h[m]? with
   | some (.nl l) => if l.length = n then gs l fr h else .err
   | _ => .err
 | _ => M.opt none
variable {kk n : Nat} {is : List Nat} {tgs : List Expr} {gs : List D → M Unit} {pos : Pos}
variable {tg e elt : Expr} {ifs : List Expr} {g : D → M Unit} {t : M Bool} {m me : M D} {scope : Scope} {js : List Nat}
noncomputable def aez (j : Nat) (vs : List Nat) (m : M D) (g : D → M Unit) (t : M Bool) (me : M D) : M Fl := Z3 (La m) (bu j (DN vs (DK m) g t me)) (bu j (lM vs (wV m) g t me))
end
end Pk
namespace Pk
open PySem PySem.Spec PyProof.Rows L2
def ahG (f : Str → Option D) (mo : M D) : M D := mo.bind fun o => M.opt (match o with
 | .str a => f a
 | _ => none)
def ahH (f : Hh → Str → D → Option D) (mo me : M D) : M D := mo.bind fun o => match o with
 | .str a => me.bind fun y fr h => M.opt (f h a y) fr h
 | _ => M.opt none
def bTx (g : Str → Str → D) (_ : Hh) (a : Str) (d : D) : Option D := match d with
 | .str b => some (g a b)
 | _ => none
def Yj : Nat := 2000000
def afk (h : Hh) (a : Str) (d : D) : Option D := match d.its h with
 | some ds => match U0 ds with
   | some ys => if (ys.map (·.length)).sum + ys.length * a.length ≤ Yj then some (.str (Txt.join a ys)) else none
   | none => none
 | none => none
def aeA (_ : Hh) (a : Str) (d : D) : Option D := match d with
 | .str b => if b.length ≠ 0 ∧ a.length ≤ Yj then some (.nl ((Txt.split a b).map .str)) else none
 | _ => none
def afl (a : Str) : Option D := if a.length ≤ Yj then some (.nl ((Txt.words a).map .str)) else none
def afm (a : Str) : Option D := if a.length ≤ big then some (.str (Txt.upper a)) else none
def afn (a : Str) : Option D := some (.bl (Txt.isdigit a))
section
variable {X : Cx} {T : Tb} {W : WX} {k : Nat} {pos pf apos : Pos} {a b o e : Expr} {ma mb mo me m : M D}
def agB (_ : Hh) : D → D → Option D
 | .str z, .int n => if z.length ≤ 1000 ∧ n ≤ 10000 ∧ -1000 ≤ n then some (.str (Txt.mul z n)) else none
 | _, _ => none
open Builtin Builtin.Str in
def aei (al W : Nat) (x : Str) : Str := if W ≤ x.length then x else padded x (if al == 62 then W - x.length else 0) (if al == 62 then 0 else W - x.length) 32
open Builtin Builtin.Str Builtin.Float in
structure afo (sp : Str) (al Wd : Nat) : Prop where
 ne : (sp.length == 0) = false
 sz : sp.length ≤ sizeLine
 asc : ((sp.cps.toList.drop 1).any (· ≥ 128) || (sp.cps.getD 0 0 ≥ 128 && !([60, 62, 61, 94] : List Nat).contains (sp.cps.getD 1 0))) = false
 ok : parseFormatSpec sp.cps.toList "str" 60 = .ok { align := al, width := some Wd }
 bk : (sp.cps.back? == some 0) = false
 al : al = 60 ∨ al = 62
 sm : Wd ≤ 1000
open Builtin Builtin.Str Builtin.Float in
open Builtin Builtin.Str Builtin.Float in
open Builtin Builtin.Str Builtin.Float in
def adw (al Wd : Nat) (d : D) : Option D := match d with
 | .str z => if z.length ≤ big then some (.str (aei al Wd z)) else none
 | _ => none
def agC (al Wd : Nat) (m : M D) : M D := m.bind fun d => M.opt (adw al Wd d)
end
end Pk
namespace Pk
open PySem PySem.Spec PyProof.Rows L2
def adx (c : Nat) : D := .str ⟨#[c]⟩
def aco (d : D) : Option (List D) := match d with
 | .str z => some (z.cps.toList.map adx)
 | _ => none
def ahI (m : M D) : M (List D) := m.bind fun d => M.opt (aco d)
section
variable {X : Cx} {T : Tb} {W : WX} {k : Nat} {tg e : Expr} {m : M D}
end
end Pk
namespace Pk
open PySem PySem.Spec PyProof.Rows L2
def listOf (h : Hh) (d : D) : Option (List D) := match d with
 | .fl l => some l
 | .ref n => match h[n]? with
   | some (.nl l) => some l
   | _ => none
 | _ => none
def agD (h : Hh) (d e : D) : Option D := match listOf h d, listOf h e with
 | some a, some b => if a.length + b.length ≤ big then some (.nl (a ++ b)) else none
 | _, _ => none
section
variable {X : Cx} {T : Tb} {W : WX} {pos : Pos} {a b : Expr} {ma mb : M D}
end
end Pk
namespace Pk
open PySem PySem.Spec L2
structure WET (X : Cx) (e : Expr) (σ : L2.St) (H : Hp) (Q : VK) : Prop where
 go : ∀ pins s, 1 ≤ s.toks → Inv X pins σ H s → wpAny (model X.prog X.w) X.A (eval e X.env) (EP X pins σ Q) X.xe s
structure WST (X : Cx) (st : Stmt) (D : Ends) (σ : L2.St) (H : Hp) : Prop where
 go : ∀ pins s, 1 ≤ s.toks → Inv X pins σ H s → wpAny (model X.prog X.w) X.A (exec st X.env) (SP X pins D) X.xe s
structure aej (X : Cx) (st : List Stmt) (D : Ends) (σ : L2.St) (H : Hp) : Prop where
 go : ∀ pins s, 1 ≤ s.toks → Inv X pins σ H s → wpAny (model X.prog X.w) X.A (execs st X.env) (SP X pins D) X.xe s
def agE (X : Cx) (T : Tb) (W : WX) (st : Stmt) (m : M Fl) : Prop := ∀ (B : Bs) (w : Wd) (σ : L2.St) (H : Hp) (fr : Fr) (h : Hh) (D : Ends), Rel X.K T B w σ H fr h → cP X.K T B W w (m fr h) D → WST X st D σ H
def acp (X : Cx) (T : Tb) (W : WX) (sts : List Stmt) (m : M Fl) : Prop := ∀ (B : Bs) (w : Wd) (σ : L2.St) (H : Hp) (fr : Fr) (h : Hh) (D : Ends), Rel X.K T B w σ H fr h → cP X.K T B W w (m fr h) D → aej X sts D σ H
section
variable {X : Cx} {T : Tb} {W : WX} {k : Nat} {pos pos' apos : Pos} {e o : Expr} {st : Stmt} {sts : List Stmt} {m mo me : M D} {s n : M Fl}
def afq (y z : Str) (a : Str) : Option D := if a.length ≤ 10000 ∧ z.length ≤ 1000 then some (.str (Txt.replace a y z)) else none
end
section
variable {P : Program} {w : World} {K : PySem.W.Frag} {mg : Str → Option Value} {base : Heap} {T : Tb} {k : Nat} {x qual : Str} {params : Arguments} {body : List Stmt} {scope : Scope} {dvs : List V} {kws : List (Str × V)} {f : Addr} {fd : FuncData} {N ps : List Str}
def agF (P : Program) (w : World) (K : PySem.W.Frag) (mg : Str → Option Value) (base : Heap) (T : Tb) (k : Nat) (N : List Str) (qual : Str) (scope : Scope) (body : List Stmt) (m : M Fl) : Prop :=
 ∀ (f : Addr) (cdv : Value) (A : Around) (outer : List Env) (s : Shared) (H : Hp) (E : XK), Cq (Wk P w K mg base N qual scope f cdv A outer s H E) T (WX.up E) k → acp (Wk P w K mg base N qual scope f cdv A outer s H E) T (WX.up E) body m
end
end Pk
namespace Pk
open PySem PySem.Spec L2
structure agG (K : PySem.W.Frag) (T : Tb) (mt : Nat → Option Fn) (oth : Nat → Bool) : Prop where
 ef : EqF K T mt
 no : ∀ c F c', mt c = some F → oth c' = true → PySem.W.notFirst K (T.cad c) (.ref (T.cad c')) = true
def afr (mt : Nat → Option Fn) (oth : Nat → Bool) (c : Bool → Bool) (x y : D) : M Bool := fun fr h => match y.ins h with
 | some (c', _) => if oth c' then ((JG mt x [y]).bind fun d => (ZP d).bind fun b => M.ret (c b)) fr h else gEq mt c x y fr h
 | none => gEq mt c x y fr h
section
variable {X : Cx} {T : Tb} {W : WX} {k j : Nat}
end
end Pk
namespace Pk
open PySem PySem.Spec L2
section
variable {X : Cx} {T : Tb} {W : WX} {k : Nat} {px apos cpos : Pos}
theorem au.dropLast {K : PySem.W.Frag} {w : Wd} : ∀ {vs : List V} {ds : List D}, au K T w vs ds → au K T w vs.dropLast ds.dropLast
 | _, _, .nil => .nil
 | _, _, .cons h .nil => .nil
 | _, _, .cons h (.cons h2 t) => .cons h (au.dropLast (.cons h2 t))
def aaz (i : Nat) : M D := fun fr h => match fr[i]? with
 | some (some (.nl l)) => (match l[l.length - 1]? with
  | some y => .ok y (fr.set i (some (.nl l.dropLast))) h
  | none => .err)
 | _ => .err
def afs (i : Nat) : M D := (bZ i oJ).bind fun _ => aaz i
def ahJ (m : M D) : M (List D) := m.bind fun d => M.opt (d.lst.map List.reverse)
end
end Pk
namespace Pk
open PySem PySem.Spec L2
structure SlF (X : Cx) (T : Tb) (f : Str) (ix : Nat → Option Nat) : Prop where
 cls : ∀ c i, ix c = some i → SlX.SCls X.K (T.cad c)
 sl : ∀ c i, ix c = some i → ∃ p, SlX.Slot1 X.K (T.cad c) f p i
def U7 (h : Hh) (o : D) : Option (Nat × Nat × Nat × List D) := match o with
 | .ref n => match h[n]? with
   | some (.so c m fs) => match h[m]? with
     | some (.hid b) => if b = !fs.isEmpty then some (n, c, m, fs) else none
     | _ => none
   | _ => none
 | _ => none
section
variable {K : PySem.W.Frag} {T : Tb} {B : Bs} {w : Wd} {σ : L2.St} {H : Hp} {fr : Fr} {h : Hh} {v : V} {o : D} {n c m : Nat} {fs : List D}
def ady (i : Nat) (d : D) (fs : List D) : List D := (fs ++ List.replicate (i + 1 - fs.length) (D.hid false)).set i d
def U8 (ix : Nat → Option Nat) (h : Hh) (o d : D) : Option Hh := (U7 h o).bind fun x => (ix x.2.1).bind fun i => some ((h.set x.2.2.1 (.hid true)).set x.1 (.so x.2.1 x.2.2.1 (ady i d x.2.2.2)))
end
def ahK (K : PySem.W.Frag) (ta tv : TE) (f : Str) (rd : V → V → Hp → VK → Prop) : TS := fun D σ H => ta σ H fun x H1 => ∃ a C dx p vs i v, x = .ref a ∧ SlX.Slt H1 a C dx vs ∧ SlX.SCls K C ∧ SlX.Slot1 K C f p i ∧ vs[i]? = some (some v) ∧
 tv σ H1 fun y H2 => rd v y H2 fun z H3 => ∃ C' dx' p' vs' i', SlX.Slt H3 a C' dx' vs' ∧ SlX.SCls K C' ∧ SlX.Slot1 K C' f p' i' ∧ D.nx σ (SlX.slH H3 a C' dx' (SlX.putS i' z vs'))
section
variable {X : Cx} {T : Tb} {W : WX} {k kk n c : Nat} {px tpos p pos apos : Pos} {f : Addr} {fd : FuncData} {ps : List Str} {F : Fn} {x m fn : Str} {e o : Expr} {es : List Expr} {mo me : M D} {ma mk : M (List D)} {gD : List D → List D → List D} {ix : Nat → Option Nat}
def bSl (ix : Nat → Option Nat) (h : Hh) (o : D) : Option D := (U7 h o).bind fun x => (ix x.2.1).bind fun i => (x.2.2.2[i]?).bind fun z => if z.isHid = true then none else some z
def afu (ix : Nat → Option Nat) (mo m : M D) : M Fl := m.bind fun d => mo.bind fun o fr h => match U8 ix h o d with
 | some h' => .ok .nx fr h'
 | none => .err
def afv (j : Nat) (ix : Nat → Option Nat) (f : Int → Int → Int) (m : M D) : M Fl := fun fr h => match fr[j]? with
 | some (some (.ref n)) => match bSl ix h (.ref n) with
   | some (.int a) => (m.bind fun d fr h => match d with
     | .int b => match U8 ix h (.ref n) (.int (f a b)) with
       | some h' => .ok .nx fr h'
       | none => .err
     | _ => .err) fr h
   | _ => .err
 | _ => .err
def afw (c n m : Nat) (F : Fn) (gD : List D → List D → List D) (ma mk : M (List D)) : M D := ma.bind fun ds => mk.bind fun es fr h => if ds.length = n ∧ es.length = m then Ov fr (h.length + 1) (F (.ref (h.length + 1) :: gD ds es) (h ++ [.hid false] ++ [.so c h.length []])) else .err
structure afx (X : Cx) (T : Tb) (k : Nat) (m : Str) (mt : Nat → Option Fn) (n : Nat) (ks : List Str) (gD : List D → List D → List D) : Prop where
 ex : ∀ c F, mt c = some F → ∃ (kk : Nat) (f : Addr) (fd : FuncData) (ps : List Str), SlX.SCls X.K (T.cad c) ∧ Meth X.K (T.cad c) m f ∧ nu X.prog X.w X.K X.mg X.base T kk f fd ps F ∧ Bn X.K T fd ps (n + 1) ks gD ∧ kk ≤ k
def acq (mt : Nat → Option Fn) (h : Hh) (o : D) : Option Fn := (U7 h o).bind fun x => mt x.2.1
def aeB (n m : Nat) (mt : Nat → Option Fn) (gD : List D → List D → List D) (mo : M D) (ma mk : M (List D)) : M D := mo.bind fun o fr h => match acq mt h o with
 | some F => (bR (n + 1) m F gD (ma.bind fun ds => M.ret (o :: ds)) mk) fr h
 | none => .err
end
end Pk
namespace Pk
open PySem PySem.Spec L2
structure agH (X : Cx) (T : Tb) (W : WX) (keys : List (Option Expr)) (es : List Expr) (ks : List Str) (ms : List (M D)) : Prop where
 ex : ∃ trs : List (TE × TE), (∀ pos, PPs X pos keys es trs) ∧ keys.all (·.isSome) = true ∧ keys.length = es.length ∧ keys.length = ks.length ∧
  ∀ (B : Bs) (w : Wd) (σ : L2.St) (H : Hp) (fr : Fr) (h : Hh) (Q : List (V × V) → Hp → Prop), Rel X.K T B w σ H fr h →
    aW X.K T B W (vA X.K T B σ) w σ (ak ms fr h) (fun vs H' => Q ((ks.map V.str).zip vs) H') → tPairs trs σ H Q
def afy (ks : List Str) (ms : List (M D)) : M D := (ak ms).bind fun ds fr h => if ds.length = ks.length then .ok (.ref h.length) fr (h ++ [.dk (ks.map Sum.inr) ds]) else .err
section
variable {X : Cx} {T : Tb} {W : WX} {k : Nat} {pos kp : Pos} {e : Expr} {es : List Expr} {keys : List (Option Expr)} {ks : List Str} {m : M D} {ms : List (M D)} {s : Str} {z : Nat}
end
end Pk
namespace SetTx
open PySem PySem.Calls PyProof.Rows
def met (l : List Str) : List Str := l.foldl (fun acc x => if acc.any (· == x) = true then acc else acc ++ [x]) []
section
variable {prog : Program} {w : World} {A : Around} {R : Result → Shared → Prop} {I : Addr} {fp wr : List Addr} {G : Array GenState → Array GenState → Prop} {n : Nat} {P : Nat → Value → Prop} {St : Nat → Shared → Prop}
end
section
variable {prog : Program} {w : World} {A : Around} {E : Value → Shared → Prop} {s : Shared}
end
end SetTx
namespace Pk
open PySem PySem.Spec L2
def aek (K : PySem.W.Frag) (ta : TE) : TE := fun σ H Q => ta σ H fun x H1 => ∃ l, ∃ xs : List Str, x = .ref l ∧ SqT K H1 l (xs.map V.str) ∧ xs.length + 1 < scanBound ∧ Q (.int (SetTx.met xs).length) H1
def strsOf : List D → Option (List Str)
 | [] => some []
 | .str z :: l => (strsOf l).map (z :: ·)
 | _ :: _ => none
def aeC (h : Hh) (d : D) : Option D := match d with
 | .tup l => (strsOf l).bind fun xs => if xs.length ≤ 1000 then some (.int ((SetTx.met xs).length : Nat)) else none
 | _ => none
section
variable {X : Cx} {T : Tb} {W : WX} {k : Nat} {a o : Expr} {ma mo : M D} {m : Str} {mt : Nat → Option Fn} {p p2 q pos apos : Pos}
end
end Pk
namespace Pk
open PySem PySem.Spec L2
def D.lstOf (h : Hh) (d : D) : Option (List D) := match d with
 | .fl l => some l
 | .kl l => some l
 | .ref n => match h[n]? with
   | some (.nl l) => some l
   | _ => none
 | _ => none
def G9 (h : Hh) (d e : D) : Option Bool := match d.lstOf h, e with
 | some l, .nl [] => some (!l.isEmpty)
 | some l, .fl [] => some (!l.isEmpty)
 | _, _ => none
def ael (K : PySem.W.Frag) : R2 := fun x y H Q => ∃ a b vs, x = .ref a ∧ y = .ref b ∧ SqL K H a vs ∧ SqL K H b [] ∧ Q (.bl (!vs.isEmpty)) H
theorem Wz {X : Cx} (hu : X.A.units + 64 < cLine) : OpR X (compareOp .NotEq) (ael X.K) := by
 intro pins s σ H x y v u Q I rx ry h
 obtain ⟨a, b, vs, rfl, rfl, ha, hb, q⟩ := h
 obtain rfl : v = Value.ref a := rx
 obtain rfl : u = Value.ref b := ry
 obtain ⟨its, r, pl, hz⟩ := I.list ha
 obtain ⟨its2, r2, pl2, hz2⟩ := I.list hb
 cases r2
 have hu' : X.A.units < cLine := by omega
 have ans : ∀ c : Bool, c = !vs.isEmpty → EP X pins σ Q (.bool c) s := fun c e => ⟨.bl (!vs.isEmpty), H, I, by rw [e]; rfl, q⟩
 cases vs with
 | nil =>
   cases r
   exact SeqAt.RcNeAt.lists (e := fun _ => true) pl.isList pl2.isList rfl hu' (fun j h1 => absurd h1 (Nat.not_lt_zero _)) _ _ _ _ (ans _ rfl)
 | cons x vs =>
   cases its with
   | nil => cases r
   | cons y its =>
     refine SeqAt.RcNeAt.lists_lengths pl.isList pl2.isList ?_ hu' _ _ _ _ (ans _ rfl)
     simp
section
variable {X : Cx} {T : Tb} {W : WX} {k : Nat}
theorem Nz {K : PySem.W.Frag} {B : Bs} {w : Wd} {σ : L2.St} {H : Hp} {fr : Fr} {h : Hh} {v : V} {d : D} {l : List D} (R : Rel K T B w σ H fr h) (r : bA K T w v d) (e : d.lstOf h = some l) : ∃ a vs, v = .ref a ∧ SqL K H a vs ∧ au K T w vs l := by
 cases r with
 | fl s r => cases e; exact ⟨_, _, rfl, SqL.of (R.sub _ _ s), r⟩
 | kl s r => cases e; exact ⟨_, _, rfl, fL R.sub s, r⟩
 | @ref a n s =>
   unfold D.lstOf at e
   dsimp only at e
   split at e
   · rename_i l' en
     cases e
     obtain ⟨o, q, rr⟩ := R.cel n a _ s en
     cases rr with
     | lst r => exact ⟨_, _, rfl, SqL.of q, r⟩
   · cases e
 | _ => cases e
theorem aaA (C : Cq X T W k) : rY X T vO .NotEq G9 := fun B w σ H fr h x y d e c Q R rx ry q kk => by
 have hu : X.A.units + 64 < cLine := by have := C.u; omega
 have emp : ∀ {vs : List V} {l : List D}, au X.K T w vs l → vs.isEmpty = l.isEmpty := fun r => by cases r <;> rfl
 unfold G9 at q
 split at q
 · rename_i l el
   cases q
   obtain ⟨a, vs, rfl, sq, rs⟩ := Nz R rx el
   rcases ry with ry | ⟨p, o, rfl, eH, ry⟩
   · cases ry
   · cases ry with
     | lst r =>
       cases r
       exact qY (Wz hu) ⟨a, p, vs, rfl, rfl, sq, SqL.of eH, by rw [emp rs]; exact kk⟩
 · rename_i l el
   cases q
   obtain ⟨a, vs, rfl, sq, rs⟩ := Nz R rx el
   rcases ry with ry | ⟨p, o, rfl, eH, ry⟩
   · cases ry with
     | fl s r =>
       cases r
       exact qY (Wz hu) ⟨a, _, vs, rfl, rfl, sq, SqL.of (R.sub _ _ s), by rw [emp rs]; exact kk⟩
   · cases ry
 · cases q
end
def agI (K : PySem.W.Frag) (C : Addr) : Bool := PySem.W.plainGet K C Str.empty && (PySem.W.isClsIn K C && (PySem.W.plainOver K C && He.eqO (PySem.W.findIn K (.ref C) "__setattr__") (some (some (.builtin "object.__setattr__")))))
def agJ (K : PySem.W.Frag) (C : Addr) (f : Str) (i : Nat) : Bool := match PySem.W.findIn K (.ref C) f with
 | some (some (.ref p)) => He.eqO (PySem.W.specialIn K (.ref p) "__get__") (some (some (.builtin "member_descriptor.__get__"))) && (decide (PySem.W.takesIn K (.ref p) = some true) && (decide (PySem.W.typeIn K (.ref p) = some (.type "member_descriptor")) &&
   (decide (PySem.W.slotIn K p C = some i) && decide (i < 1000))))
 | _ => false
end Pk
namespace StarU
open PySem PySem.Spec PyProof.Rows L2
section
variable {prog : Program} {w : World} {A : Around} {E : Value → Shared → Prop} {s : Shared}
end
end StarU
namespace Pk
open PySem PySem.Spec PyProof.Rows L2
section
variable {X : Cx} {T : Tb} {W : WX} {k : Nat} {pos p2 pa pb ps ps2 : Pos} {e o : Expr} {m mo : M D} {cs : List MatchCase} {body : List Stmt} {mb mf : M Fl} {pt : Pattern} {ss : List Str} {x a b fn : Str}
def mCs (ss : List Str) (mb : M Fl) (f : Str → M Fl) : Str → M Fl := fun z => if ss.contains z then mb else f z
def ahL (i : Nat) (mb : M Fl) : Str → M Fl := fun z fr h => mb (fr.set i (some (.str z))) h
def agK (K : PySem.W.Frag) (i j : Nat) : TG := fun v σ H Q => ∃ p x xs, v = .ref p ∧ SqT K H p (x :: xs) ∧ ∀ q, H q = none → Q ((σ.set i (some x)).set j (some (.ref q))) (upd H q (.lst xs))
def afz (i j : Nat) (d : D) : M Unit := fun fr h => match d with
 | .tup (x :: xs) => .ok () ((fr.set i (some x)).set j (some (.nl xs))) h
 | _ => .err
def agL (mb : M Fl) : M Fl := fun fr h => match mb fr h with
 | .exc _ _ _ => .err
 | r => r
def acr : WX := fun _ _ _ _ => False
def agM (mb mf : M Fl) : M Fl := fun fr h => match mb fr h with
 | .ok .nx fr1 h1 => match mf fr1 h1 with
   | .ok .nx fr2 h2 => .ok .nx fr2 h2
   | _ => .err
 | _ => .err
def gSl (K : PySem.W.Frag) (to : TE) (f : Str) : TG := fun v σ H Q => to σ H fun y H1 => ∃ a C dx p vs i, y = .ref a ∧ SlX.Slt H1 a C dx vs ∧ SlX.SCls K C ∧ SlX.Slot1 K C f p i ∧ Q σ (SlX.slH H1 a C dx (SlX.putS i v vs))
def ahM (ix : Nat → Option Nat) (mo : M D) (d : D) : M Unit := mo.bind fun o fr h => match U8 ix h o d with
 | some h' => .ok () fr h'
 | none => .err
end
end Pk
namespace HotF
open PySem PySem.Spec PyProof.Rows L2
section
variable {X : Cx} {pins : List (Addr × Obj)} {σ : L2.St} {H : Hp} {st : Shared}
def Chain (Z : Obj → Prop) (l : List (Addr × Obj)) : Prop := (∀ o vs, Z o → o.data = .fields vs → vs[2]? = some .none) ∨ ∃ (p : Addr × Obj) (ws : Array Value), (∀ o vs, Z o → o.data = .fields vs → vs[2]? = some (.ref p.1)) ∧ p ∈ l ∧ p.2.data = .fields ws ∧ ws[2]? = some .none
def GX (X : Cx) (W : WX) (u : Value) (s' : Shared) : Prop :=
 ∃ (a : Addr) (B : Heap) (sI : Shared) (pins : List (Addr × Obj)) (σ : L2.St) (H : Hp) (cls : Value) (d : Option Addr) (Z : Obj → Prop),
   u = .ref a ∧ Inv X pins σ H sI ∧ (∀ b o, sI.heap.get? b = some o → b ∉ frs X.stack → B.get? b = some o) ∧ sI.heap.UpToSlots s'.heap ∧
     Sky B X.stack a Z X.env.locals s'.heap ∧ H a = none ∧ s'.os = sI.os ∧ AllBare s'.gens ∧ W cls d σ H ∧ PXN.Steady1 Z ∧ (∀ o, Z o → Zc cls d o) ∧ Chain Z (X.pn ++ pins)
def WD (X : Cx) (W : WX) : Prop := ∀ u s', GX X W u s' → X.xe u s'
theorem WD.n {W : WX} (t : WD X W) : L2N.Takes X W := fun u s' ⟨a, B, sI, pins, σ, H, cls, d, e, I, nb, up, sky, na, os, ag, w⟩ =>
 t u s' ⟨a, B, sI, pins, σ, H, cls, d, L2N.Zn cls d, e, I, nb, up, sky, na, os, ag, w, L2N.Zn.steady, fun _ z => z.zc, .inl fun o vs z q => z.2.2 vs q⟩
def afA (h : Heap) (a x1 : Addr) : Heap := (h.update a (Obj.mapFields (·.setIfInBounds 3 (.ref x1)))).update a (Obj.mapFields (·.setIfInBounds 4 (.bool true)))
end
section
variable {prog : Program} {w : World} {A : Around} {E : Value → Shared → Prop} {env : Env} {s : Shared} {x c : Sem Value} {Q : Flow → Shared → Prop} {x1 : Addr} {cls1 : Value}
end
section
variable {X : Cx} {pins : List (Addr × Obj)} {σ : L2.St} {H : Hp} {s : Shared}
abbrev afB (X : Cx) (a : Addr) (pn : List (Addr × Obj)) (E : Value → Shared → Prop) : Cx := (L2H.suiteX X a pn).wish E
def agN (i : Nat) (Wout : WX) : WX := fun c d σ H => Wout c d (σ.set i none) H
end
section
variable {X : Cx} {x n : Str} {c : Value} {i : Nat} {body suite : List Stmt} {b₀ : Stmt} {np pos pos' : Pos} {tb : WX → TS} {ts : Addr → Value → Option Addr → TS} {Wout : WX}
end
section
variable {X : Cx} {W : WX} {e : Expr} {t : L2.St → Hp → XK → Prop} {i : Nat} {n : Str} {np pos : Pos} {a : Addr} {oe : Obj} {cls1 : Value} {dd : Option Addr}
theorem Ry {x : Value} : PXN.Steady1 (fun o => ∀ vs, o.data = .fields vs → vs[2]? = some x) := fun o v h => by
 obtain ⟨c, d, dt, sl⟩ := o
 cases dt with
 | fields vs0 =>
   intro vs e
   have e2 : vs0.setIfInBounds 1 v = vs := Data.fields.inj e
   subst e2
   exact HotX.set_other (by decide) (h vs0 rfl)
 | _ =>
   intro vs e
   cases e
theorem GX.new {pins : List (Addr × Obj)} {σ : L2.St} {H : Hp} {sI s1 : Shared} {b : Addr} {o : Obj} {vs ws : Array Value} {cls : Value} {d : Option Addr} {p : Addr × Obj} (I : Inv X pins σ H sI) (k : ∀ b o, sI.heap.get? b = some o → s1.heap.get? b = some o) (hne : sI.heap.get? b = none) (hb : s1.heap.get? b = some o)
 (hz : Zc cls d o) (hd : o.data = .fields vs) (h1 : vs[1]? = some .none) (h2 : ∀ vs, o.data = .fields vs → vs[2]? = some (.ref p.1)) (hp : p ∈ X.pn ++ pins) (dp : p.2.data = .fields ws) (cp : ws[2]? = some .none) (na : H b = none) (os : s1.os = sI.os) (ag : AllBare s1.gens) (w : W cls d σ H) : GX X W (.ref b) s1 := by
 refine ⟨b, PySem.W.hideAll sI.heap (frs X.stack), sI, pins, σ, H, cls, d, fun o => Zc cls d o ∧ ∀ vs, o.data = .fields vs → vs[2]? = some (.ref p.1), rfl, I, fun y u g hy => PySem.W.hideAll_get _ g hy, Heap.UpToSlots.of_keeps k,
  .inl ⟨fun y u g => k y u (PySem.W.of_hideAll _ g), ?_, ?_, o, vs, hb, ⟨hz, h2⟩, hd, h1⟩, na, os, ag, w, fun o v q => ⟨⟨PXN.steady_cls o v q.1.1, PXN.steady_dict o v q.1.2⟩, Ry o v q.2⟩, fun _ q => q.1, .inr ⟨p, ws, fun o vs q e => q.2 vs e, hp, dp, cp⟩⟩
 · cases q : (PySem.W.hideAll sI.heap (frs X.stack)).get? b with
   | none => rfl
   | some y =>
     have z := PySem.W.of_hideAll _ q
     rw [hne] at z
     cases z
 · exact Heap.FunFrames.of_keeps (fun y u g _ => ⟨u, k y u g, rfl⟩) (funFrames_none I.stack fun y hy => PySem.W.hideAll_none _ hy)
end
end HotF
namespace Pk
open PySem PySem.Spec PyProof.Rows L2
open PySem.ExS (Ds Mr sup Dt Gz)
section
variable {X : Cx} {T : Tb} {W : WX} {k c : Nat} {x : Str} {a : Expr} {es : List Expr} {p pos : Pos} {Ok : Hp → List V → Prop}
end
section
variable {X : Cx} {T : Tb} {W : WX} {k : Nat} {x n : Str} {c : Value} {cond : Nat → Option Bool} {body suite : List Stmt} {b₀ : Stmt} {np pos pos' : Pos} {mb : M Fl} {ms : aN → M Fl}
end
section
variable {P : Program} {w : World} {K : PySem.W.Frag} {mg : Str → Option Value} {base : Heap} {T : Tb} {k : Nat} {x qual : Str} {params : Arguments} {body : List Stmt} {scope : Scope} {dvs : List V} {kws : List (Str × V)} {f : Addr} {fd : FuncData} {N ps : List Str}
abbrev Yk (P : Program) (w : World) (K : PySem.W.Frag) (mg : Str → Option Value) (base : Heap) (N : List Str) (qual : Str) (scope : Scope) (f : Addr) (cdv : Value) (A : Around) (outer : List Env) (s : Shared) (H : Hp) (E : XK) : Cx := cxOf (CX P w) P w K mg base N qual scope f cdv A outer s H E
def agO (P : Program) (w : World) (K : PySem.W.Frag) (mg : Str → Option Value) (base : Heap) (T : Tb) (k : Nat) (N : List Str) (qual : Str) (scope : Scope) (body : List Stmt) (m : M Fl) : Prop :=
 ∀ (f : Addr) (cdv : Value) (A : Around) (outer : List Env) (s : Shared) (H : Hp) (E : XK), Cq (Yk P w K mg base N qual scope f cdv A outer s H E) T (WX.up E) k → L2.Takes (Yk P w K mg base N qual scope f cdv A outer s H E) (WX.up E) → uL (Yk P w K mg base N qual scope f cdv A outer s H E) T (WX.up E) body m
structure aem (P : Program) (w : World) (K : PySem.W.Frag) (mg : Str → Option Value) (base : Heap) (T : Tb) (k : Nat) (f : Addr) (fd : FuncData) (ps : List Str) (F : Fn) : Prop where
 ok : FnOk P w K mg base (CX P w) k f fd ps (spF K T ps.length F)
 kp : PySem.W.keepIn K (.ref f) = true
end
section
variable {X : Cx} {T : Tb} {W : WX} {k kk n : Nat} {f C : Addr} {fd : FuncData} {ps ks : List Str} {F : Fn} {x m : Str} {p pos apos : Pos} {e o : Expr} {es : List Expr} {kws : List Keyword} {mo : M D} {ma mk : M (List D)} {gD : List D → List D → List D}
structure afC (X : Cx) (T : Tb) (k : Nat) (m : Str) (mt : Nat → Option Fn) (n : Nat) (ks : List Str) (gD : List D → List D → List D) : Prop where
 ex : ∀ c F, mt c = some F → ∃ (kk : Nat) (f : Addr) (fd : FuncData) (ps : List Str), Cls X.K (T.cad c) ∧ Meth X.K (T.cad c) m f ∧ aem X.prog X.w X.K X.mg X.base T kk f fd ps F ∧ Bn X.K T fd ps (n + 1) ks gD ∧ m ∉ T.fld c ∧ kk ≤ k
end
end Pk
namespace Pk
open PySem PySem.Spec PyProof.Rows L2
def ahN (K : PySem.W.Frag) (C : Addr) (f : Str) : Addr := match PySem.W.takerIn K C f with
 | some (some (.ref p)) => (match PySem.W.recIn K p "property" with
   | some (_ :: .ref g :: _) => g
   | _ => 0)
 | _ => 0
structure adz (K : PySem.W.Frag) (C : Addr) (f : Str) (g : Addr) : Prop where
 ex : ∃ (p : Addr) (a : Value) (rest : List Value), PySem.W.takerIn K C f = some (some (.ref p)) ∧ PySem.W.typeIn K (.ref p) = some (.type "property") ∧ PySem.W.recIn K p "property" = some (a :: .ref g :: rest)
def ahO (K : PySem.W.Frag) (C : Addr) (f : Str) : Bool := match PySem.W.takerIn K C f with
 | some (some (.ref p)) => decide (PySem.W.typeIn K (.ref p) = some (.type "property")) && (match PySem.W.recIn K p "property" with
   | some (_ :: .ref _ :: _) => true
   | _ => false)
 | _ => false
section
variable {X : Cx} {T : Tb} {W : WX} {k : Nat} {f : Str} {mt : Nat → Option Fn} {e o : Expr} {me mo : M D} {pos tpos : Pos}
structure ahP (X : Cx) (T : Tb) (k : Nat) (f : Str) (mt : Nat → Option Fn) : Prop where
 ex : ∀ c F, mt c = some F → ∃ (kk : Nat) (g : Addr) (fd : FuncData) (ps : List Str), Cls X.K (T.cad c) ∧ adz X.K (T.cad c) f g ∧ nu X.prog X.w X.K X.mg X.base T kk g fd ps F ∧ Binds X.K fd ps [] ∧ ps.length = 2 ∧ kk + 2 ≤ k
def aen (mt : Nat → Option Fn) (mo me : M D) : M Fl := me.bind fun d => mo.bind fun o fr h => match fnOf mt h o with
 | some F => (match F [o, d] h with
   | .ok _ _ h' => .ok .nx fr h'
   | .exc x _ h' => .exc x fr h'
   | .err => .err)
 | none => .err
end
section
variable {K : PySem.W.Frag} {x qual : Str} {params : Arguments} {body : List Stmt} {scope : Scope} {dvs : List V} {kws : List (Str × V)} {f : Addr} {fd : FuncData} {ps : List Str}
end
end Pk
namespace HotF
open PySem PySem.Spec PyProof.Rows L2
def U9 (A : Around) (x1 : Addr) (h : Heap) : Prop := A.handled = some (.ref x1) ∧ ∃ (o1 : Obj) (vs1 : Array Value), h.get? x1 = some o1 ∧ o1.data = .fields vs1 ∧
 (vs1[2]? = some .none ∨ ∃ (x2 : Addr) (o2 : Obj) (vs2 : Array Value), vs1[2]? = some (.ref x2) ∧ x2 ≠ x1 ∧ h.get? x2 = some o2 ∧ o2.data = .fields vs2 ∧ vs2[2]? = some .none)
theorem U9.ext {A : Around} {x1 : Addr} {h h' : Heap} (c : U9 A x1 h) (k : ∀ b o vs, h.get? b = some o → o.data = .fields vs → vs[2]? = some .none ∨ (∃ x, vs[2]? = some (.ref x)) → h'.get? b = some o) : U9 A x1 h' := by
 obtain ⟨c1, o1, vs1, c2, c3, c4⟩ := c
 rcases c4 with c4 | ⟨x2, o2, vs2, e1, e2, e3, e4, e5⟩
 · exact ⟨c1, o1, vs1, k _ _ _ c2 c3 (.inl c4), c3, .inl c4⟩
 · exact ⟨c1, o1, vs1, k _ _ _ c2 c3 (.inr ⟨_, e1⟩), c3, .inr ⟨x2, o2, vs2, e1, e2, k _ _ _ e3 e4 (.inl e5), e4, e5⟩⟩
section
variable {prog : Program} {w : World} {A : Around} {E : Value → Shared → Prop} {s : Shared}
end
section
variable {X : Cx}
structure Z4 (X : Cx) : Prop where
 ex : ∃ (p : Addr × Obj) (vs1 : Array Value), X.A.handled = some (.ref p.1) ∧ p ∈ X.pn ∧ p.2.data = .fields vs1 ∧
  (vs1[2]? = some .none ∨ ∃ (p2 : Addr × Obj) (vs2 : Array Value), vs1[2]? = some (.ref p2.1) ∧ p2.1 ≠ p.1 ∧ p2 ∈ X.pn ∧ p2.2.data = .fields vs2 ∧ vs2[2]? = some .none)
theorem Z4.at {pins : List (Addr × Obj)} {σ : L2.St} {H : Hp} {s : Shared} (c : Z4 X) (I : Inv X pins σ H s) : ∃ x1, U9 X.A x1 s.heap := by
 obtain ⟨p, vs1, c1, c2, c3, c4⟩ := c.ex
 refine ⟨p.1, c1, p.2, vs1, (I.pin p (List.mem_append_left _ c2)).1, c3, ?_⟩
 rcases c4 with c4 | ⟨p2, vs2, e1, e2, e3, e4, e5⟩
 · exact .inl c4
 · exact .inr ⟨p2.1, p2.2, vs2, e1, e2, (I.pin p2 (List.mem_append_left _ e3)).1, e4, e5⟩
end
end HotF
namespace Pk
open PySem PySem.Spec PyProof.Rows L2
section
variable {X : Cx} {T : Tb} {W : WX} {k : Nat} {pos : Pos} {tgs : List Expr} {is : List Nat} {gs : List D → M Unit}
end
end Pk
namespace HotF
open PySem PySem.Spec PyProof.Rows L2
section
variable {X : Cx} {l : List (Addr × Obj)} {σ : L2.St} {H : Hp} {sI st : Shared} {B h1 : Heap}
end
section
variable {X : Cx} {pins : List (Addr × Obj)} {D : Ends} {u : Value} {st : Shared} {f₀ : Stmt} {fs : List Stmt} {tfs : TS} {Wout : WX}
abbrev agP (X : Cx) (pins : List (Addr × Obj)) (D : Ends) (fl : List Stmt) : Value → Shared → Prop := fun y s1 =>
 wpAny (model X.prog X.w) X.A (noteFrame y X.env) (fun _ s2 => FinallyRaised X.prog X.w X.A X.xe X.env fl (SP X pins D) y s2) (FinallyRaised X.prog X.w X.A X.xe X.env fl (SP X pins D)) s1
end
end HotF
namespace Pk
open PySem PySem.Spec PyProof.Rows L2
def agQ (i : Nat) (cond : Nat → Option Bool) (c n : Nat) (chk : List D → Bool) (mb : M Fl) (ma : aN → M (List D)) : M Fl := fun fr h => match mb fr h with
 | .exc x fr1 h1 => match cond x.c with
   | some true => if i < fr1.length then (match ma x (fr1.set i none) h1 with
     | .ok ds fr2 h2 => if ds.length = n ∧ chk ds = true then .exc ⟨c, ds⟩ (fr2.set i none) h2 else .err
     | _ => .err) else .err
   | some false => .exc x fr1 h1
   | none => .err
 | r => r
section
variable {X : Cx} {T : Tb} {W : WX} {k c n : Nat} {x x2 y : Str} {cv : Value} {cond : Nat → Option Bool} {body : List Stmt} {a : Expr} {es : List Expr} {np np2 p p2 p3 pos pos' : Pos} {mb : M Fl} {ma : aN → M (List D)} {Ok : Hp → List V → Prop} {chk : List D → Bool}
end
def agR (mb mf : M Fl) : M Fl := fun fr h => match mb fr h with
 | .ok .nx fr1 h1 => match mf fr1 h1 with
   | .ok .nx fr2 h2 => .ok .nx fr2 h2
   | _ => .err
 | .exc x fr1 h1 => match mf fr1 h1 with
   | .ok .nx fr2 h2 => .exc x fr2 h2
   | _ => .err
 | _ => .err
section
variable {X : Cx} {T : Tb} {W : WX} {k : Nat} {body fs : List Stmt} {f₀ : Stmt} {pos : Pos} {mb mf : M Fl}
end
end Pk
namespace Pk
open PySem PySem.Spec L2
def aaB (i : Nat) (j d : D) : M D := fun fr h => match fr[i]? with
 | some (some (.nl l)) => match j with
   | .int k => if 0 ≤ k ∧ k < 2 ^ 62 ∧ l.length < big then .ok .non (fr.set i (some (.nl (l.take k.toNat ++ [d] ++ l.drop k.toNat)))) h else .err
   | _ => .err
 | _ => .err
def agS (i : Nat) (mj m : M D) : M D := (bZ i oJ).bind fun _ => mj.bind fun j => m.bind fun d => aaB i j d
section
variable {X : Cx} {T : Tb} {W : WX} {k : Nat} {apos cpos px : Pos} {e ej : Expr} {m mj : M D}
end
end Pk
namespace Pk
open PySem PySem.Spec PyProof.Rows L2
section
variable {X : Cx} {pins : List (Addr × Obj)} {σ : L2.St} {H : Hp} {s : Shared} {a b : Addr} {r : Value} {d : V} {k : List Key} {A : Around} {E : Value → Shared → Prop}
theorem aaC {kvs : List (List Key × V)} {Q : Value → Shared → Prop} (hu : A.units + 1 < cLine) (I : Inv X pins σ H s) (e : H a = some (.dT kvs)) (eb : H b = some (.tup (k.map kV))) (rd : RelV d r) (hl : kvs.length < sizeLine)
 (h1 : ∀ v, valV kvs k = some v → ∀ (w' : Value) (s' : Shared), Inv X pins σ H s' → RelV v w' → Q w' s') (h2 : valV kvs k = none → ∀ (w' : Value) (s' : Shared), Inv X pins σ (upd H a (.dT (putK kvs k d))) s' → RelV d w' → Q w' s') :
 wpAny (model X.prog X.w) A (call (.builtin "dict.setdefault") [.ref a, .ref b, r]) Q E s := by
 obtain ⟨z, hd, xs, rel, dd⟩ := dt_of I.hok e
 have hz : xs.length ≤ sizeLine := by
  rw [← Paired.length rel]
  exact z
 refine call_setdefault_heap (hsz := hz) (tupleKind_room_in1 hu) (key_of I.hok eb) hd dd (fun p hp => ?_) fun hn h' dd' hs => ?_
 · have q := rel.val k
   rw [hp] at q
   cases q0 : valV kvs k with
   | none =>
     rw [q0] at q
     exact (show False from q).elim
   | some v0 =>
     rw [q0] at q
     exact h1 v0 q0 _ _ (I.tok _) q
 · have q := rel.val k
   rw [hn] at q
   cases q0 : valV kvs k with
   | some v0 =>
     rw [q0] at q
     exact (show False from q).elim
   | none =>
     have hl2 : (putK kvs k d).length ≤ sizeLine := by
      have := length_putK kvs k d
      omega
     obtain ⟨q, es, ep, hq, g2, g3, g4, _, g5⟩ := dd'
     refine h2 q0 _ _ (d_write I (by rw [e]; exact True.intro) hs ⟨q, hq⟩ ⟨hl2, hd, _, (rel.put k eb rd).keeps fun c ys ec => ?_, q, es, ep, hq, g2, g3, g4, g5⟩) rd
     rw [upd_ne (ne_of ec e (fun z => nomatch z))]
     exact ec
end
def aaD (td ty tx : TE) : TE := fun σ H Q => td σ H fun x H1 => ∃ a, x = .ref a ∧ IsD H1 a ∧ ty σ H1 fun y H2 => tx σ H2 fun z H3 => ∃ (kvs : List (List Key × V)) (k : List Key) (b : Addr), H3 a = some (.dT kvs) ∧ y = .ref b ∧ H3 b = some (.tup (k.map kV)) ∧ kvs.length < sizeLine ∧
 (∀ v, valV kvs k = some v → Q v H3) ∧ (valV kvs k = none → Q z (upd H3 a (.dT (putK kvs k z))))
section
variable {X : Cx} {o e f : Expr} {td ty tx : TE} {apos cpos : Pos}
theorem WK (hu : X.A.units + 1 < cLine) (ho : PE X o td) (he : PE X e ty) (hf : PE X f tx) (m : M2 X o "setdefault" apos e f cpos) : PE X (.Call (.Attribute o "setdefault" apos) [e, f] [] cpos) (aaD td ty tx) := by
 refine ⟨fun pins s σ H Q I h => ?_⟩
 refine wpAny_Call_method m.base m.few m.line PySem.F.plainAttrs_dict PySem.F.slot_dict_setdefault PySem.F.type_dict_setdefault (thn (ho.run pins s σ H _ I h) fun u s1 ⟨x, H1, I1, rx, a, ex, d, q1⟩ => ?_)
 subst ex
 obtain rfl : u = Value.ref a := rx
 obtain ⟨t1, t2, _⟩ := isD_at I1 d
 refine ⟨t1, t2, ?_⟩
 rw [m.trees]
 refine Calls.callWith_builtin rfl (Calls.evalArgs_plain (Calls.spliced_cons (thn (he.run pins s1 σ H1 _ I1 q1) fun iv s2 ⟨y, H2, I2, ry, q2⟩ =>
  Calls.spliced_cons (thn (hf.run pins s2 σ H2 _ I2 q2) fun fv s3 ⟨z, H3, I3, rz, kvs, k, b, ea, ey, eb, hl, q3, q4⟩ => Calls.spliced_nil ?_))))
 subst ey
 obtain rfl : iv = Value.ref b := ry
 exact aaC hu I3 ea eb rz hl (fun v hv w' s4 I4 rw' => ⟨v, _, I4, rw', q3 v hv⟩) fun hn w' s4 I4 rw' => ⟨z, _, I4, rw', q4 hn⟩
end
def Ah : D → Option (List Key)
 | .tp l => Io l
 | _ => none
theorem Qz {K : PySem.W.Frag} {T : Tb} {w : Wd} {v : V} {d : D} {k : List Key} (r : bA K T w v d) (e : Ah d = some k) : ∃ b, v = .ref b ∧ w.F b = some (.tup (k.map kV)) := by
 cases d with
 | tp l =>
   cases r with
   | tp s rl =>
     obtain ⟨_, q⟩ := U3 e
     obtain rfl := Tq rl q
     exact ⟨_, rfl, s⟩
 | _ => cases e
def uX (h : Hh) (o k d : D) : Option (D × Hh) := (jD h o).bind fun x => (Ah k).bind fun kk => if x.2.1.length ≤ big then some (match valD x.2.1 x.2.2 kk with
 | some z => (z, h)
 | none => (d, h.set x.1 (.dc (uV x.2.1 kk) (qj x.2.1 x.2.2 kk d)))) else none
def Ca (mo mk mv : M D) : M D := mo.bind fun o fr h => if (jD h o).isSome = true then (mk.bind fun k => mv.bind fun d fr h => match uX h o k d with
 | some (z, h') => .ok z fr h'
 | none => .err) fr h else .err
def xf (h : Hh) (o k : D) : Option D := (jD h o).bind fun x => (Ah k).bind fun kk => valD x.2.1 x.2.2 kk
def Ce (mo mk : M D) : M D := mo.bind fun o => mk.bind fun k fr h => M.opt (xf h o k) fr h
def yS (h : Hh) (o : D) : Option D := (jD h o).bind fun x => some (.nl (x.2.1.map fun k => .tp (k.map keyB)))
def Cg (mo : M D) : M D := mo.bind fun o fr h => M.opt (yS h o) fr h
section
variable {X : Cx} {T : Tb} {W : WX} {k : Nat} {pos cpos apos p : Pos} {o e f : Expr} {mo mk mv m : M D}
theorem Oz {B : Bs} {w : Wd} {σ : L2.St} {H : Hp} {fr : Fr} {h : Hh} {x : V} {d : D} {n : Nat} {ks : List (List Key)} {ds : List D} (R : Rel X.K T B w σ H fr h) (rx : bA X.K T w x d) (q : jD h d = some (n, ks, ds)) :
 ∃ a vs, x = .ref a ∧ w.I[n]? = some a ∧ h[n]? = some (.dc ks ds) ∧ H a = some (.dT (ks.zip vs)) ∧ ks.length = ds.length ∧ au X.K T w vs ds := by
 obtain ⟨rfl, hc⟩ := U4 q
 cases rx with
 | @ref a n1 s1 =>
   obtain ⟨ob, eH, ro⟩ := R.cel n a _ s1 hc
   cases ro with
   | @dct _ vs _ hl rv => exact ⟨a, vs, rfl, s1, hc, eH, hl, rv⟩
theorem TQ {K : PySem.W.Frag} {w : Wd} {kk : List Key} : ∀ {ks : List (List Key)} {vs : List V} {ds : List D}, ks.length = ds.length → au K T w vs ds → valD ks ds kk = none → valV (ks.zip vs) kk = none
 | [], _, _, _, _, _ => rfl
 | k' :: ks, _, _, hl, .nil, _ => by cases hl
 | k' :: ks, _, _, hl, .cons (v := v) r rs, e => by
   unfold valD at e
   rw [List.zip_cons_cons]
   by_cases c : k' = kk
   · rw [if_pos c] at e
     cases e
   · rw [if_neg c] at e
     exact (valV_neg (p := (k', v)) c).trans (TQ (Nat.succ.inj hl) rs e)
theorem Yl (C : Cq X T W k) (so : aV X T W o mo) (sk : aV X T W e mk) (sv : aV X T W f mv) (m2 : M2 X o "setdefault" apos e f cpos := by exact ⟨by rfl, by rfl, by rfl, by rfl⟩) : aV X T W (.Call (.Attribute o "setdefault" apos) [e, f] [] cpos) (Ca mo mk mv) := fun B w σ H fr h Q R p =>
 eE (WK (by have := C.u; omega) bj bj bj m2) (so B w σ H fr h _ R (aW.bind (VR := vV X.K T B σ) p fun d fr1 h1 w1 H1 x e1 l1 r1 rx p1 => by
  have p1 : aW X.K T B W (vV X.K T B σ) w1 σ (if (jD h1 d).isSome = true then (mk.bind fun k => mv.bind fun z fr h => match uX h d k z with
   | some (z, h') => .ok z fr h'
   | none => .err) fr1 h1 else .err) Q := p1
  by_cases hi : (jD h1 d).isSome = true
  · rw [if_pos hi] at p1
    obtain ⟨⟨n, ks, ds⟩, q0⟩ := Option.isSome_iff_exists.mp hi
    obtain ⟨a, vs, rfl, s1, _, eH, _, _⟩ := Oz r1 rx q0
    refine ⟨a, rfl, .inr ⟨_, .inl eH⟩, ?_⟩
    exact sk B w1 σ H1 fr1 h1 _ r1 (aW.bind (VR := vV X.K T B σ) p1 fun kd fr2 h2 w2 H2 y e2 l2 r2 rk p2 => sv B w2 σ H2 fr2 h2 _ r2 (aW.bind (VR := vV X.K T B σ) p2 fun zd fr3 h3 w3 H3 u e3 l3 r3 rz p3 => by
     cases q : uX h3 d kd zd with
     | none => rw [q] at p3; exact p3.elim
     | some zz =>
       obtain ⟨z, h4⟩ := zz
       rw [q] at p3
       have p3 : aW X.K T B W (vV X.K T B σ) w3 σ (.ok z fr3 h4) Q := p3
       unfold uX at q
       cases q1 : jD h3 d with
       | none => rw [q1] at q; cases q
       | some c =>
         obtain ⟨n, kk, ds⟩ := c
         rw [q1] at q
         cases q2 : Ah kd with
         | none => rw [q2] at q; cases q
         | some k1 =>
           rw [q2] at q
           have q : (if kk.length ≤ big then some (match valD kk ds k1 with
            | some z => (z, h3)
            | none => (zd, h3.set n (.dc (uV kk k1) (qj kk ds k1 zd)))) else none) = some (z, h4) := q
           by_cases hb : kk.length ≤ big
           · rw [if_pos hb] at q
             obtain ⟨a', vs, ea, s1, hc, eH, hl, rv⟩ := Oz r3 (rx.mono (Wd.le_trans l2 l3)) q1
             cases ea
             obtain ⟨b, rfl, hbF⟩ := Qz (rk.mono l3) q2
             have hlv : kk.length = vs.length := hl.trans rv.length.symm
             refine ⟨kk.zip vs, k1, b, eH, rfl, r3.sub _ _ hbF, ?_, fun v hv => ?_, fun hn => ?_⟩
             · rw [List.length_zip, ← hlv, Nat.min_self]
               exact Nat.lt_of_le_of_lt hb (by decide)
             · cases q3 : valD kk ds k1 with
               | none =>
                 rw [TQ hl rv q3] at hv
                 cases hv
               | some z' =>
                 rw [q3] at q
                 cases q
                 obtain ⟨v', hv', rz'⟩ := K6 rv q3
                 rw [hv] at hv'
                 cases hv'
                 exact p3 w3 _ v (Wd.le_refl _) r3 rz'
             · cases q3 : valD kk ds k1 with
               | some z' =>
                 obtain ⟨v', hv', _⟩ := K6 rv q3
                 rw [hn] at hv'
                 cases hv'
               | none =>
                 rw [q3] at q
                 cases q
                 have R3 := r3.change_cell s1 hc (oX.dct (ks := uV kk k1) (vs := qj kk vs k1 u) (ds := qj kk ds k1 zd) (aav hl) (Wr rz rv))
                 rw [← Yd hlv] at R3
                 exact p3 w3 _ u (Wd.le_refl _) R3 rz
           · rw [if_neg hb] at q
             cases q))
  · rw [if_neg hi] at p1
    exact p1.elim))
theorem Ym (C : Cq X T W k) (so : aV X T W o mo) (sk : aV X T W e mk) (hs : NoSl e := by intro _ _; rfl) : aV X T W (.Subscript o e pos) (Ce mo mk) := fun B w σ H fr h Q R p =>
 eE (pe_dget (by have := C.u; omega) bj bj hs) (so B w σ H fr h _ R (aW.bind (VR := vV X.K T B σ) p fun d fr1 h1 w1 H1 x e1 l1 r1 rx p1 =>
  sk B w1 σ H1 fr1 h1 _ r1 (aW.bind (VR := vV X.K T B σ) p1 fun kd fr2 h2 w2 H2 y e2 l2 r2 rk p2 => by
   cases q : xf h2 d kd with
   | none => rw [q] at p2; exact p2.elim
   | some z =>
     rw [q] at p2
     unfold xf at q
     cases q1 : jD h2 d with
     | none => rw [q1] at q; cases q
     | some c =>
       obtain ⟨n, kk, ds⟩ := c
       rw [q1] at q
       cases q2 : Ah kd with
       | none => rw [q2] at q; cases q
       | some k1 =>
         rw [q2] at q
         have q : valD kk ds k1 = some z := q
         obtain ⟨a, vs, rfl, s1, hc, eH, hl, rv⟩ := Oz r2 (rx.mono l2) q1
         obtain ⟨b, rfl, hbF⟩ := Qz rk q2
         obtain ⟨v, hv, rz⟩ := K6 rv q
         have g := DGet.t (k := k1) eH (r2.sub _ _ hbF)
         rw [hv] at g
         exact ⟨a, v, rfl, g, p2 w2 _ v (Wd.le_refl _) r2 rz⟩)))
end
section
variable {prog : Program} {w : World} {A : Around} {E : Value → Shared → Prop} {s : Shared} {d r : Addr} {o : Obj} {es : Array DictEntry} {ep : Nat}
theorem WL (hv : PySem.W.KdlKeysView s.heap r d) (ho : s.heap.get? d = some o) (hdat : o.data = .dict es ep) {Q : Value → Shared → Prop}
 (hQ : Q (.ref s.heap.objs.size) { s with heap := s.heap.push { cls := .type "dict_keyiterator", data := .fields #[.ref d, .int 0 0, .int es.size 0, .int ep 0] } }) :
 wpAny (model prog w) A (pyIter (.ref r)) Q E s := by
 obtain ⟨ov, hov, hcv, hdv⟩ := id hv
 refine wpAny_pyIter_slot hv.typeIs PySem.W.kdl_slot_keys_iter (wpAny_call_entry PySem.W.kdl_slot_keys_iter hv.typeIs PySem.W.kdl_entry_keys_iter ?_ (PySem.W.kdl_args_keys_iter _))
 unfold Builtin.«dict_keys.__iter__»
 refine wpAny_bind (wpAny_pure ?_)
 refine wpAny_bind ?_
 unfold Builtin.Dict_items.dictOf
 refine wpAny_bind (wpAny_field hov hdv (x := .ref d) rfl (wpAny_pure ?_))
 refine wpAny_bind ?_
 unfold Builtin.Dict_items.newIterator
 refine wpAny_bind (wpAny_dictEntries ho hdat ?_)
 refine wpAny_bind (wpAny_dictEpoch ho hdat ?_)
 have hown : Builtin.Dict_items.ownsTuple "dict_keyiterator" = false := by decide
 simp only [hown, Bool.false_eq_true, if_false]
 refine wpAny_newObj_type (wpAny_pure ⟨_, rfl, "dict_keyiterator", _, ⟨_, Heap.get?_push_size _ rfl, rfl⟩, PySem.F.slot_dict_keyiterator_next.lookup, ?_⟩)
 simpa [rawInt] using hQ
theorem Yn (hd : o.data = .dict es ep) :
 PySem.W.KdlSrc prog w "dict_keys" r d es.size (fun i v => ∃ en : DictEntry, es[i]? = some en ∧ v = en.key) (fun h => PySem.W.KdlKeysView h r d ∧ h.get? d = some o) where
 type := fun _ hm => hm.1.typeIs
 there := fun _ hm => ⟨let ⟨_, ho, _⟩ := hm.1; Heap.lt_size ho, Heap.lt_size hm.2⟩
 keep := fun _ _ hm hk => ⟨let ⟨o, ho, x⟩ := hm.1; ⟨o, hk r (.inl rfl) o ho, x⟩, hk d (.inr rfl) _ hm.2⟩
 notList := by decide
 notTuple := by decide
 hint := fun _ _ _ _ hm hq => PySem.W.kdl_hint_keys hm.1.typeIs hq
 iter := fun _ s hh hm => ⟨_, _, (fun _ _ hq => WL hm.1 hm.2 hd hq), walks_raw hh _ d (Nat.ne_of_lt (Heap.lt_size hm.2)) hd, ⟨⟨_, Heap.get?_push_size _ rfl, rfl, rfl⟩, Heap.get?_push_of_some _ hm.2⟩⟩
theorem Rz {K : Type} [DecidableEq K] (knd : HeapKind prog w K) (d : Addr) (hd : (d == sysModules) = false) :
 MeetsIn prog w (Builtin.«dict.keys» ⟨[.ref d], []⟩) (fun _ R s => (∃ xs, s.heap.DictOfH knd d xs) ∧
  R (.ok (.ret (.ref s.heap.objs.size))) { s with heap := s.heap.push { cls := .type "dict_keys", data := .fields #[.ref d] } }) :=
 .of_wp fun A R s ⟨⟨kvs, hm⟩, h⟩ => by
  refine wpAny_bind ?_
  unfold Builtin.Dict.noArgs
  refine wpAny_bind (wpAny_notOrdered_dict hm.typeIs ?_)
  show wpAny _ _ (pure d) _ _ s
  refine wpAny_pure ?_
  show wpAny _ _ (Builtin.Dict.showsAll d >>= _) _ _ s
  unfold Builtin.Dict.showsAll
  rw [if_neg (by rw [hd]; exact Bool.false_ne_true)]
  refine wpAny_bind (wpAny_pure ?_)
  exact wpAny_bind (wpAny_newObj_type (wpAny_pure ⟨_, rfl, h⟩))
end
section
variable {X : Cx} {e : Expr} {td : TE} {apos cpos p pos : Pos}
def WN (td : TE) : TE := fun σ H Q => td σ H fun x H1 => ∃ d kvs, x = .ref d ∧ H1 d = some (.dT kvs) ∧ ∀ q bs, H1 q = none → IsKeys H1 kvs bs → Q (.ref q) (upd H1 q (.lst (bs.map V.ref)))
theorem QC (hc : X.calm = true) (hg : Gl X "list") (hm : X.mg "list" = none) (he : PE X e td) (hbase : attributeBase e "keys" X.env (eval e X.env) = eval e X.env := by rfl) (hline : (apos.endLine == cpos.line) = true := by rfl)
 (na : starEach [Expr.Call (.Attribute e "keys" apos) [] [] cpos] X.env = (false, eval (.Call (.Attribute e "keys" apos) [] [] cpos) X.env) :: starEach [] X.env := by rfl) :
 PE X (.Call (.Name "list" p) [.Call (.Attribute e "keys" apos) [] [] cpos] [] pos) (WN td) := by
 refine ⟨fun pins s σ H Q I h => ?_⟩
 refine Call_ (ld_blt I hg hm boot_list (PyProof.Rows.callWith_type1 (args_cons ?_ na) na))
 refine wpAny_Call_method (T := "dict") (id := "dict.keys") hbase rfl hline PySem.F.plainAttrs_dict PySem.F.slot_dict_keys PySem.F.type_dict_keys (thn (he.run pins s σ H _ I h) fun u s1 ⟨x, H1, I1, rx, d, kvs, ex, hd, q⟩ => ?_)
 subst ex
 obtain rfl : u = Value.ref d := rx
 obtain ⟨t1, t2, hs⟩ := isD_at I1 (.inr ⟨_, .inl hd⟩)
 refine ⟨t1, t2, ?_⟩
 have I2 : Inv X pins σ H1 { s1 with heap := s1.heap.push { cls := .type "dict_keys", data := .fields #[.ref d] } } := I1.kept (t' := s1.toks) fun b ob q => Heap.get?_push_of_some _ q
 show wpAny _ _ (callWith cpos (.builtin "dict.keys") [.ref d] [] []) _ X.xe s1
 obtain ⟨_, _, xs0, _, dd⟩ := dt_of I1.hok hd
 refine method_meetsIn PySem.F.slot_dict_keys PySem.F.entry_dict_keys rfl (PySem.evalArgs_none ⟨rfl, dd.typeIs, PySem.F.args_dict_keys_1 _, _, Rz (tupleKind (mixKind X.prog X.w)) d hs, ⟨xs0, dd⟩, args_nil ?_⟩)
 obtain ⟨z, _, ks, pr, o, es, ep, ho, hx, hdt, he2, hn⟩ := (show ObjOk X.prog X.w H1 s1.heap d (.dT kvs) from I1.hok d _ hd)
 have l1 : es.size = ks.length := size_of_entries he2
 have l2 : kvs.length = ks.length := Paired.length pr
 have dv : PySem.W.KdlKeysView (s1.heap.push { cls := .type "dict_keys", data := .fields #[.ref d] }) s1.heap.objs.size d := ⟨_, Heap.get?_push_size _ rfl, rfl, rfl⟩
 refine PySem.W.kdl_call (Yn (r := s1.heap.objs.size) hdt) (I1.ok.hd hc) ⟨dv, Heap.get?_push_of_some _ ho⟩ (by omega) fun h' tk acc' c' kp e it => ?_
 have ea : acc'.toList = ks.map fun x => Value.ref x.2.1 := by
  have hl : acc'.toList.length = ks.length := by rw [Array.length_toList, it.1]; exact l1
  apply List.ext_getElem?
  intro j
  rw [ai3]
  cases hj : acc'.toList[j]? with
  | none =>
    have h1 := List.getElem?_eq_none_iff.mp hj
    rw [List.getElem?_eq_none (by omega)]
    all_goals rfl
  | some v =>
    obtain ⟨en, hen, hv⟩ := it.2 j v (by rw [← Array.getElem?_toList]; exact hj)
    have qe := entry_at he2 j
    rw [hen] at qe
    cases hb : ks[j]? with
    | none =>
      rw [hb] at qe
      exact nomatch (show some en = none from qe)
    | some b =>
      rw [hb] at qe
      have e2 : en = entryOfKey (tupleKind (mixKind X.prog X.w)) b := Option.some.inj qe
      rw [hv, e2]
      all_goals rfl
 have eb : acc'.toList = (ks.map fun x => x.2.1).map Value.ref := by rw [ea, ai4]; all_goals rfl
 have rv : Vals ((ks.map fun x => x.2.1).map V.ref) acc'.toList := by rw [eb]; exact vals_refs _
 have hz : ((ks.map fun x => x.2.1).map V.ref).length ≤ sizeLine := by rw [aiP, aiP]; omega
 refine ⟨.ref _, upd H1 (s1.heap.push { cls := .type "dict_keys", data := .fields #[.ref d] }).objs.size (.lst ((ks.map fun x => x.2.1).map V.ref)), I2.laid (t' := tk) kp (Nat.le_refl _) ?_, rfl, q _ _ (I2.hok.fresh (Nat.le_refl _)) (isKeys_of pr)⟩
 exact ⟨hz, acc'.toList, c', rv, by rw [Array.toArray_toList]; exact e⟩
end
section
variable {X : Cx} {T : Tb} {W : WX} {k : Nat} {pos cpos apos p : Pos} {o : Expr} {mo : M D}
theorem Ld {B : Bs} {σ : L2.St} {H : Hp} {fr : Fr} {h : Hh} : ∀ {ks : List (List Key)} {bs : List Addr} {w : Wd}, Rel X.K T B w σ H fr h → Paired (fun (k : List Key) b => H b = some (.tup (k.map kV))) ks bs →
 ∃ w', w.le w' ∧ Rel X.K T B w' σ H fr h ∧ au X.K T w' (bs.map V.ref) (ks.map fun k => .tp (k.map keyB))
 | [], _, w, R, .nil => ⟨w, Wd.le_refl w, R, .nil⟩
 | k :: ks, _, w, R, .cons (b := b) e t => by
   obtain ⟨l1, R1⟩ := R.adopt e
   obtain ⟨w', l2, R2, rs⟩ := Ld R1 t
   refine ⟨w', Wd.le_trans l1 l2, R2, .cons (.tp (l2.1 _ _ ?_) (TJ k)) rs⟩
   show upd w.F b _ b = _
   rw [upd_same]
theorem NB {H : Hp} : ∀ {ks : List (List Key)} {vs : List V} {bs : List Addr}, ks.length = vs.length → IsKeys H (ks.zip vs) bs → Paired (fun (k : List Key) b => H b = some (.tup (k.map kV))) ks bs
 | [], _, _, _, r => by
   cases r
   exact .nil
 | k :: ks, [], _, hl, _ => by cases hl
 | k :: ks, v :: vs, _, hl, r => by
   cases r with
   | cons e t => exact .cons e (NB (Nat.succ.inj hl) t)
theorem Yo (C : Cq X T W k) (so : aV X T W o mo) (hm : X.mg "list" = none) (hg : Gl X "list" := by rfl) (hbase : attributeBase o "keys" X.env (eval o X.env) = eval o X.env := by rfl) (hline : (apos.endLine == cpos.line) = true := by rfl)
 (na : starEach [Expr.Call (.Attribute o "keys" apos) [] [] cpos] X.env = (false, eval (.Call (.Attribute o "keys" apos) [] [] cpos) X.env) :: starEach [] X.env := by rfl) :
 pX X T W (.Call (.Name "list" p) [.Call (.Attribute o "keys" apos) [] [] cpos] [] pos) (Cg mo) := fun B w σ H fr h Q R pp =>
 eE (QC C.calm hg hm bj hbase hline na) (so B w σ H fr h _ R (aW.bind (VR := vV X.K T B σ) pp fun d fr1 h1 w1 H1 x e1 l1 r1 rx p1 => by
  cases q : yS h1 d with
  | none => rw [q] at p1; exact p1.elim
  | some z =>
    rw [q] at p1
    unfold yS at q
    cases q1 : jD h1 d with
    | none => rw [q1] at q; cases q
    | some c =>
      obtain ⟨n, kk, ds⟩ := c
      rw [q1] at q
      cases q
      obtain ⟨a, vs, rfl, s1, hc, eH, hl, rv⟩ := Oz r1 rx q1
      refine ⟨a, _, rfl, eH, fun q bs nq ik => ?_⟩
      obtain ⟨w2, l2, R2, rs⟩ := Ld r1 (NB (hl.trans rv.length.symm) ik)
      exact yt R2 rs nq fun w3 H3 v l3 R3 rv => p1 w3 H3 v (Wd.le_trans l2 l3) R3 rv))
end
def Ir (h : Hh) (d : D) : Option D := match d.der h with
 | .fl l => some (.tp l)
 | .nl l => some (.tp l)
 | _ => none
section
variable {X : Cx} {T : Tb} {W : WX} {pf pos : Pos} {a : Expr} {ma : M D}
theorem WP {K : PySem.W.Frag} {B : Bs} {w : Wd} {σ : L2.St} {H : Hp} {fr : Fr} {h : Hh} {p : Addr} {vs : List V} {ds : List D} {Q : V → Hp → Prop} (R : Rel K T B w σ H fr h) (r : au K T w vs ds) (np : H p = none)
 (q : ∀ w' H' v, w.le w' → Rel K T B w' σ H' fr h → bA K T w' v (.tp ds) → Q v H') : Q (.ref p) (upd H p (.tup vs)) :=
 q (w.add p (.tup vs)) _ _ (Wd.le_add (R.nP np).1) (R.laid np) (.tp (by show upd w.F p _ p = _; rw [upd_same]) (r.mono (Wd.le_add (R.nP np).1)))
theorem WQ (sa : z9 X T W a ma) (hm : X.mg "tuple" = none) (hg : Gl X "tuple" := by rfl) (he : starEach (a :: []) X.env = (false, eval a X.env) :: starEach [] X.env := by exact dJ rfl) : aV X T W (.Call (.Name "tuple" pf) [a] [] pos) (aC Ir ma) :=
 Uy (id := "tuple") sa (fun B w σ H fr h x d z Q R rx q k => by
  unfold Ir at q
  split at q
  · rename_i l hd
    cases q
    obtain ⟨p, vs, rfl, rl, sq⟩ := yu R rx (.inl hd)
    exact gR call_tuple_of ⟨p, vs, rfl, .inl ⟨sq, fun q nq => WP R rl nq k⟩⟩
  · rename_i l hd
    cases q
    obtain ⟨p, vs, rfl, rl, sq⟩ := yu R rx (by first | exact .inr (.inl hd) | exact .inr (.inr hd))
    exact gR call_tuple_of ⟨p, vs, rfl, .inl ⟨sq, fun q nq => WP R rl nq k⟩⟩
  · cases q) hm hg (by decide +kernel) (by decide) (by decide) he
end
def yf (mo mj : M D) (d : D) : M Unit := mo.bind fun o => mj.bind fun j => eG o (ou j d)
section
variable {X : Cx} {T : Tb} {W : WX} {tpos : Pos} {o j : Expr} {mo mj : M D}
theorem WR (so : aV X T W o mo) (sj : aV X T W j mj)
 (ha : ∀ v, assign (.Subscript o j tpos) X.env v = (do
  let ov ← holding [v] (eval o X.env)
  let iv ← holding [v, ov] (eval j X.env)
  standAt tpos
  holding [v, ov, iv] (setItem ov iv v)
  release [v, ov, iv] []) := by intro _; rfl) : uJ X T [] (.Subscript o j tpos) (yf mo mj) := fun B w σ H fr h v d Q R rd p => by
 refine UG (pg_sub bj bj set_list ha) (so B w σ H fr h _ R ?_)
 unfold yf at p
 cases e : mo fr h with
 | err => rw [M.bind_err e] at p; exact p.elim
 | exc y fr1 h1 => rw [M.bind_exc e] at p; exact p.elim
 | ok od fr1 h1 =>
   rw [M.bind_ok e] at p
   intro w1 H1 y l1 r1 ry
   have ry : bA X.K T w1 y od := ry
   refine sj B w1 σ H1 fr1 h1 _ r1 ?_
   cases e2 : mj fr1 h1 with
   | err => rw [M.bind_err e2] at p; exact p.elim
   | exc y fr1 h1 => rw [M.bind_exc e2] at p; exact p.elim
   | ok jd fr2 h2 =>
     rw [M.bind_ok e2] at p
     intro w2 H2 jv l2 r2 rj
     have rj : bA X.K T w2 jv jd := rj
     rcases Px (f := ou jd d) r2 (ry.mono l2) with q | ⟨fr3, h3, q, z⟩
     · rw [q] at p
       exact p.elim
     · rw [q] at p
       exact Wh z (rd.mono (Wd.le_trans l1 l2)) rj fun H' R' => p w2 σ H' (Wd.le_trans l1 l2) R' ⟨rfl, fun _ _ => rfl⟩
end
section
variable {prog : Program} {w : World} {A : Around} {E : Value → Shared → Prop} {s : Shared}
theorem Va (n : Nat) : sliceBounds none none none n = (0, (n : Int), 1) := by
 simp only [sliceBounds, Option.getD_none]
 rfl
set_option maxRecDepth 100000 in
theorem RB {l b sl : Addr} {items new : Array Value} {n n2 : Nat} {Q : Unit → Shared → Prop}
 (e : s.heap.get? l = some { cls := .type "list", data := .seq items n }) (e2 : s.heap.get? b = some { cls := .type "list", data := .seq new n2 }) (hne : l ≠ b)
 (hs : s.heap.IsSliceOf sl .none .none .none) (hsz : items.size + new.size ≤ sizeLine) (h : Q () { s with heap := s.heap.update l (Obj.mapSeq fun xs => xs.extract 0 0 ++ new ++ xs.extract items.size xs.size) }) :
 wpAny (model prog w) A (setItem (.ref l) (.ref sl) (.ref b)) Q E s := by
 have hl : s.heap.IsList l items := PySem.IsL.isList e
 have hb : s.heap.IsList b new := PySem.IsL.isList e2
 obtain ⟨os, hos, hcs, hds⟩ := id hs
 have hTs : s.TypeIs (.ref sl) "slice" := ⟨os, hos, hcs⟩
 have hstep : ¬ ((rawPart none == rawInt 0) = true) := Bool.false_ne_true
 have hsame : Builtin.List.listSameRef (.ref l) (.ref b) = false := by
  unfold Builtin.List.listSameRef
  exact beq_eq_false_iff_ne.mpr hne
 have hmax : (max (0 : Int) (items.size : Int)).toNat = items.size := by omega
 have hz' : ((fun xs : Array Value => xs.extract 0 0 ++ new ++ xs.extract items.size xs.size) items).size ≤ sizeLine + 1 := by
  simp only [Array.size_append, Array.size_extract]
  omega
 unfold setItem
 try with_reducible refine wpAny_holding ?_
 first | refine wpAny_bind (wpAny_pure ?_) | skip
 refine wpAny_bind (wpAny_sequenceKey hl.typeIs (by decide) ?_)
 refine wpAny_bind (wpAny_callSpecial?_slot (name := Str.ofString "__setitem__") hl.typeIs slot_list_setitem
  (wpAny_call_entry slot_list_setitem hl.typeIs entry_list_setitem ?_ (args_list_setitem _ _ _)))
 show wpAny _ _ (Builtin.List.listSubscript? (.ref sl) >>= _) _ _ s
 refine wpAny_bind ?_
 unfold Builtin.List.listSubscript?
 refine wpAny_bind (wpAny_specialOf hTs slice_no_index ?_)
 simp only [Option.isNone_none, if_true]
 refine wpAny_pure ?_
 show wpAny _ _ (typeOf (.ref sl) >>= _) _ _ s
 refine wpAny_bind (wpAny_typeOf hTs ?_)
 first
  | rw [if_neg (by decide)]
  | refine PySem.W.KFB.if_not (by decide) ?_
 rw [listSliceParts_eq]
 refine wpAny_bind (wpAny_bind (wpAny_field hos hds (x := .none) rfl (wpAny_bind (wpAny_listPart .none ?_))))
 rw [if_neg hstep]
 refine wpAny_bind (wpAny_field hos hds (x := .none) rfl (wpAny_bind (wpAny_listPart .none ?_)))
 refine wpAny_bind (wpAny_field hos hds (x := .none) rfl (wpAny_bind (wpAny_listPart .none (wpAny_pure ?_))))
 first
  | simp only [hsame, Bool.false_eq_true, if_false]
  | refine PySem.W.KFB.if_not hsame ?_
  | (dsimp only
     rw [if_neg (by rw [hsame]; exact Bool.false_ne_true)])
 refine wpAny_bind (m := Builtin.List.listAllItems (.ref b) "must assign iterable to extended slice") ?_
 unfold Builtin.List.listAllItems
 refine wpAny_bind (wpAny_typeOf hb.typeIs ?_)
 first
  | refine PySem.W.KFB.if_so (by decide) ?_
  | rw [if_pos (by decide)]
  | simp only [beq_self_eq_true, Bool.true_or, if_true]
 unfold Builtin.List.listItems
 refine wpAny_bind (wpAny_seqItems e2 rfl (wpAny_pure ?_))
 refine wpAny_bind (wpAny_bind (wpAny_seqItems e rfl (wpAny_pure ?_)))
 refine wpAny_bind (wpAny_of_eq ((sliceIndices_raw none none none items.size (by simp)).trans (congrArg (pure : Int × Int × Int → Sem (Int × Int × Int)) (Va _))) ?_)
 show wpAny _ _ (if ((1 : Int) == 1) = true then _ else _) _ _ s
 rw [if_pos (by decide)]
 refine wpAny_bind (wpAny_rule ?_)
 first
  | simp only [L2.notLongL hsz, Bool.false_eq_true, if_false]
  | refine PySem.W.KFB.if_not (L2.notLongL hsz) ?_
 first | refine wpAny_bind (wpAny_pure ?_) | skip
 show wpAny _ _ (updateSeq l (fun xs => xs.extract 0 ((0 : Int)).toNat ++ new ++ xs.extract (max (0 : Int) (items.size : Int)).toNat xs.size) >>= _) _ _ s
 rw [hmax]
 refine wpAny_bind (wpAny_updateSeq (hz := Nat.le_trans (Nat.le_add_right _ _) hsz) (_hz' := hz') e rfl ?_)
 refine wpAny_bind (wpAny_letGo ?_)
 first
  | exact wpAny_bind (wpAny_pure (wpAny_pure ⟨.none, rfl, wpAny_pure h⟩))
  | exact wpAny_pure ⟨.none, rfl, wpAny_pure h⟩
end
section
variable {X : Cx}
theorem aaE {pins : List (Addr × Obj)} {s : Shared} {σ : L2.St} {H : Hp} {l b sl : Addr} {xs ys : List V} {Q : Unit → Shared → Prop} (I : Inv X pins σ H s)
 (hH : H l = some (.lst xs)) (hB : H b = some (.lst ys)) (hne : l ≠ b) (hs : s.heap.IsSliceOf sl .none .none .none) (hz : xs.length + ys.length ≤ sizeLine) (h : ∀ s', Inv X pins σ (upd H l (.lst ys)) s' → Q () s') :
 wpAny (model X.prog X.w) X.A (setItem (.ref l) (.ref sl) (.ref b)) Q X.xe s := by
 obtain ⟨z, its, n, r, hl, e⟩ := I.lstM hH
 obtain ⟨z2, its2, n2, r2, hl2, e2⟩ := I.lstM hB
 refine RB e e2 hne hs (by rw [List.size_toArray, List.size_toArray]; omega) (h _ ?_)
 have ey : its.take 0 ++ its2 ++ its.drop its.length = its2 := by simp
 refine I.lset (its' := its2) (t' := s.toks) hH e ?_ r2 (by omega)
 have := L2.splice_eq its its2 0 its.length
 rw [ey] at this
 rw [List.size_toArray]
 exact this
def aeo (to : TE) : TG := fun x σ H Q => to σ H fun y H1 => ∃ l b xs ys, y = V.ref l ∧ x = V.ref b ∧ H1 l = some (.lst xs) ∧ H1 b = some (.lst ys) ∧ l ≠ b ∧ xs.length + ys.length ≤ sizeLine ∧ Q σ (upd H1 l (.lst ys))
theorem acs {o : Expr} {to : TE} {p2 pos : Pos} (ho : PE X o to)
 (ha : ∀ v, assign (.Subscript o (.Slice none none none p2) pos) X.env v = (do
  let ov ← holding [v] (eval o X.env)
  let iv ← holding [v, ov] (eval (.Slice none none none p2) X.env)
  standAt pos
  holding [v, ov, iv] (setItem ov iv v)
  release [iv, v, ov] []) := by intro _; rfl) : PG X (.Subscript o (.Slice none none none p2) pos) (aeo to) := by
 refine ⟨fun pins s σ H v u Q I r h => ?_⟩
 rw [ha]
 refine wpAny_bind (wpAny_holding (thn (ho.run pins s σ H _ I h) fun ov s1 ⟨y, H1, I1, r1, l, b, xs, ys, ey, ex, hl, hb, ne, hz, q⟩ => ?_))
 subst ey ex
 obtain rfl : ov = Value.ref l := r1
 obtain rfl : u = Value.ref b := r
 refine wpAny_bind (wpAny_holding ?_)
 refine wpAny_Slice ?_
 rw [evalPart_none]
 refine wpAny_pure ?_
 refine wpAny_pure ?_
 refine wpAny_pure ?_
 have I2 : Inv X pins σ H1 { s1 with heap := s1.heap.push { cls := .type "slice", data := .fields #[.none, .none, .none] } } := I1.kept (t' := s1.toks) fun b ob q => Heap.get?_push_of_some _ q
 refine wpAny_bind (wpAny_standAt (wpAny_bind (wpAny_holding (aaE I2 hl hb ne (Heap.IsSliceOf.new ..) hz fun s3 I3 => ?_))))
 exact wpAny_release ⟨σ, _, I3, q⟩
end
def Hf (d : D) (l : List D) : Option (List D) := match d with
 | .fl m => if l.length ≤ big ∧ m.length ≤ big then some m else none
 | _ => none
def yD (mo m : M D) : M Fl := m.bind fun d => mo.bind fun o => (eG o (Hf d)).bind fun _ => M.ret .nx
section
variable {X : Cx} {T : Tb} {W : WX} {p2 pos tpos : Pos} {o e : Expr} {mo m : M D}
theorem Yp (so : aV X T W o mo) (s : aV X T W e m)
 (ha : ∀ v, assign (.Subscript o (.Slice none none none p2) tpos) X.env v = (do
  let ov ← holding [v] (eval o X.env)
  let iv ← holding [v, ov] (eval (.Slice none none none p2) X.env)
  standAt tpos
  holding [v, ov, iv] (setItem ov iv v)
  release [iv, v, ov] []) := by intro _; rfl)
 (hs : swapsWithSole [.Subscript o (.Slice none none none p2) tpos] e pos.line X.env = pure false := by rfl) (hw : swappedStores [.Subscript o (.Slice none none none p2) tpos] e X.env = pure none := by rfl)
 (h1 : (assignEach [.Subscript o (.Slice none none none p2) tpos] X.env).map (·.2) = [assign (.Subscript o (.Slice none none none p2) tpos) X.env] := by rfl) : pY X T W (.Assign [.Subscript o (.Slice none none none p2) tpos] e pos) (yD mo m) := fun B w σ H fr h D R p =>
 oG (ps_asg bj (acs bj ha) hs hw h1) (s B w σ H fr h _ R (cP.bind (VR := vV X.K T B σ) p fun d fr1 h1 w1 H1 v e1 l1 r1 rx p1 => so B w1 σ H1 fr1 h1 _ r1 (cP.bind (VR := vV X.K T B σ) p1 fun od fr0 h0 w0 H0 ov e0 l0 r0 ro p0 => by
  have p2' : cP X.K T B W w0 ((eG od (Hf d)).bind (fun _ => M.ret .nx) fr0 h0) D := p0
  rcases Px (f := Hf d) r0 ro with q | ⟨fr3, h3, q, z⟩
  · rw [M.bind_err q] at p2'
    exact p2'.elim
  · rw [M.bind_ok q] at p2'
    obtain ⟨nn, rfl⟩ : ∃ n, od = .ref n := by
     cases od <;> first
      | exact ⟨_, rfl⟩
      | (unfold eG at q; cases q)
    obtain ⟨p, vs, l, l', rfl, eq, r, ef, k⟩ := z
    unfold Hf at ef
    split at ef
    · rename_i mm
      split at ef
      · rename_i hb
        cases ef
        cases rx.mono l0 with
        | @fl b us _ fb ru =>
          have hB := r0.sub _ _ fb
          have hI : p ≠ b := fun z => by
           cases ro with
           | ref s1 =>
             have := r0.dis _ (ai1 s1)
             rw [z, fb] at this
             cases this
          refine ⟨p, b, vs, us, rfl, rfl, eq, hB, hI, ?_, p2' w0 σ _ (Wd.le_refl _) (k us ru)⟩
          rw [r.length, ru.length]
          have : big + big ≤ sizeLine := by decide
          omega
      · cases ef
    · cases ef)))
end
end Pk
namespace Pk
open PySem PySem.Spec PyProof.Rows L2
def WY : jw It ((Hh → Prop) × List D) := fun K T _ _ w _ _ J x => ∀ i w1 B1 σ1 H1 fr1 h1, w.le w1 → Rel K T B1 w1 σ1 H1 fr1 h1 → x.1 h1 →
 (x.2.length ≤ i → J.stop i H1) ∧ ∀ d, x.2[i]? = some d → J.go i H1 ∧ ∀ y H2, J.yld i H1 y H2 → ∃ w2, w1.le w2 ∧ Rel K T B1 w2 σ1 H2 fr1 h1 ∧ bA K T w2 y d
open Classical in
noncomputable def jc (n : Hh → Prop) (vs : List Nat) (g : D → M Unit) (t : M Bool) (e : M D) : List D → M (List D)
 | [] => fun fr h => if n h then .ok [] fr h else .err
 | d :: ds => fun fr h => if n h then ((dM vs g t e d).bind fun o => (jc n vs g t e ds).bind fun r => M.ret (qb o r)) fr h else .err
noncomputable def JM (vs : List Nat) (l : M ((Hh → Prop) × List D)) (g : D → M Unit) (t : M Bool) (e : M D) : M D := l.bind fun x => (Dm vs).bind fun _ => if x.2.length ≤ big then (jc x.1 vs g t e x.2).bind fun r => M.ret (.nl r) else M.opt none
section
variable {X : Cx} {T : Tb} {W : WX} {k : Nat} {pos pos' : Pos} {tg iter elt c e : Expr} {ifs : List Expr} {li : M ((Hh → Prop) × List D)} {g : D → M Unit} {b : M Fl} {is : List Nat} {t : M Bool} {m me : M D} {scope : Scope} {own : List (Str × Nat)} {body : List Stmt}
theorem aaF {B : Bs} {w : Wd} {σ : L2.St} {H : Hp} {fr : Fr} {h : Hh} {Q : VK} (si : fX (WI X tg iter) X.K T W WY li) (hi : ∀ i ∈ is, i ∈ own.map (·.2))
 (sg : ∀ (s : Shared) (H0 : Hp) (C : Addr) (cl : List (Str × Addr)) (fp : List Addr), uJ (X.blk s H0 scope (compEnvC scope cl C X.env) fp) T is tg g)
 (st : ∀ (s : Shared) (H0 : Hp) (C : Addr) (cl : List (Str × Addr)) (fp : List Addr), fX (Gn (X.blk s H0 scope (compEnvC scope cl C X.env) fp) ifs) X.K T WF vB t)
 (se : ∀ (s : Shared) (H0 : Hp) (C : Addr) (cl : List (Str × Addr)) (fp : List Addr), aV (X.blk s H0 scope (compEnvC scope cl C X.env) fp) T WF elt me)
 (R : Rel X.K T B w σ H fr h) (p : aW X.K T B W (vE X.K T B σ) w σ (JM (own.map (·.2)) li g t me fr h) Q) : tLc (WI X tg iter) (GB X scope tg) (TB X scope ifs) (EB X scope elt) (own.map (·.2)) σ H Q := by
 refine si B w σ H fr h _ R (aW.bind (VR := WY X.K T B σ) p fun xx fr0 h0 w1 H1 J e1 l1 r0 vj p0 => ?_)
 obtain ⟨n, ds⟩ := xx
 generalize hvs : own.map (·.2) = vs at hi p0 ⊢
 intro A0 nD
 have p1 : aW X.K T B W (vE X.K T B σ) w1 σ ((if ds.length ≤ big then (jc n vs g t me ds).bind fun r => M.ret (.nl r) else M.opt none) (dO fr0 vs) h0) Q := p0
 by_cases hb : ds.length ≤ big
 · rw [if_pos hb] at p1
   have rD := r0.temp (o := .lst []) nD
   have OD : Own B w1 A0 := r0.own_new nD
   refine ⟨fun i m H => m = ds.length - i ∧ i ≤ ds.length ∧ ∃ w' fr' h' acc vs', w1.le w' ∧ au X.K T w' vs' acc ∧ acc.length ≤ i ∧ Rel X.K T (B.pr A0 (.lst vs')) w' (wipe σ vs) H fr' h' ∧ (∀ j ∈ vs, ∀ d, fr'[j]? ≠ some (some d)) ∧
    aW X.K T B W (vE X.K T B σ) w' σ (((jc n vs g t me (ds.drop i)).bind fun r => M.ret (D.nl (acc ++ r))) fr' h') Q, ⟨ds.length, by simp, Nat.zero_le _, w1, dO fr0 vs, h0, [], [], Wd.le_refl _, .nil, Nat.zero_le _,
     (rD.wipe vs).protect OD (fun i ⟨z1, dd, z2, z3⟩ => r0.loose_new nD i (by
      by_cases hj : i ∈ vs
      · exact absurd z2 (jP hj)
      · rw [wW hj] at z2
        rw [wipe_out hj] at z1
        exact ⟨z1, dd, z2, z3⟩)) upd_same, fun j hj d => jP hj, p1⟩, ?_⟩
   rintro i m H2 ⟨rfl, hil, w2, fr2, h2, acc, us, l2, ra, la, r2, hw2, p2⟩
   have hP := OD.p
   by_cases hc : n h2
   case neg =>
    exfalso
    have q : jc n vs g t me (ds.drop i) fr2 h2 = .err := by cases ds.drop i <;> (unfold jc; rw [if_neg hc])
    rw [M.bind_err q] at p2
    exact p2.elim
   obtain ⟨js, jg⟩ := vj i w2 (B.pr A0 (.lst us)) (wipe σ vs) H2 fr2 h2 l2 r2 hc
   by_cases hlt : i < ds.length
   · obtain ⟨go, y⟩ := jg ds[i] (aiO hlt)
     have ed : ds.drop i = ds[i] :: ds.drop (i + 1) := List.drop_eq_getElem_cons hlt
     rw [ed] at p2
     refine .inr ⟨go, fun H' => ∃ w' fr' h' acc vs', w1.le w' ∧ au X.K T w' vs' acc ∧ acc.length ≤ i + 1 ∧ Rel X.K T (B.pr A0 (.lst vs')) w' (wipe σ vs) H' fr' h' ∧ (∀ j ∈ vs, ∀ d, fr'[j]? ≠ some (some d)) ∧
      aW X.K T B W (vE X.K T B σ) w' σ (((jc n vs g t me (ds.drop (i + 1))).bind fun r => M.ret (D.nl (acc ++ r))) fr' h') Q, fun H' q => ⟨ds.length - (i + 1), by omega, rfl, hlt, q⟩, fun x H3 yx => ?_⟩
     obtain ⟨w3, l3, r3, rx⟩ := y x H3 yx
     have turn : ∃ o fr' h', dM vs g t me ds[i] fr2 h2 = .ok o fr' h' ∧ aW X.K T B W (vE X.K T B σ) w2 σ (((jc n vs g t me (ds.drop (i + 1))).bind fun r => M.ret (D.nl (acc ++ qb o r))) fr' h') Q := by
      have p2' : aW X.K T B W (vE X.K T B σ) w2 σ (((dM vs g t me ds[i]).bind fun o => (jc n vs g t me (ds.drop (i + 1))).bind fun r => M.ret (D.nl (acc ++ qb o r))) fr2 h2) Q := by
       have ee : ((jc n vs g t me (ds[i] :: ds.drop (i + 1))).bind fun r => M.ret (D.nl (acc ++ r))) fr2 h2 = ((dM vs g t me ds[i]).bind fun o => (jc n vs g t me (ds.drop (i + 1))).bind fun r => M.ret (D.nl (acc ++ qb o r))) fr2 h2 := by
        have q9 : jc n vs g t me (ds[i] :: ds.drop (i + 1)) fr2 h2 = ((dM vs g t me ds[i]).bind fun o => (jc n vs g t me (ds.drop (i + 1))).bind fun r => M.ret (qb o r)) fr2 h2 := by rw [jc]; dsimp only; rw [if_pos hc]
        unfold M.bind at q9 ⊢
        rw [q9]
        cases dM vs g t me ds[i] fr2 h2 with
        | ok o fr' h' => dsimp only; cases jc n vs g t me (ds.drop (i + 1)) fr' h' <;> rfl
        | exc _ _ _ => rfl
        | err => rfl
       rw [← ee]
       exact p2
      cases q : dM vs g t me ds[i] fr2 h2 with
      | ok o fr' h' =>
        rw [M.bind_ok q] at p2'
        exact ⟨o, fr', h', rfl, p2'⟩
      | exc y fr' h' =>
        exfalso
        unfold dM at q
        split at q
        · split at q
          · split at q <;> cases q
          · cases q
          · cases q
        · cases q
      | err =>
        rw [M.bind_err q] at p2'
        exact p2'.elim
     obtain ⟨o, fro, ho, qt, p3⟩ := turn
     have upw : ∀ {u2 : L2.St} {w' : Wd} {H' : Hp} {fr' : Fr} {h' : Hh} {B' : Bs}, wipe u2 vs = wipe σ vs → Rel X.K T B' w' u2 H' fr' h' → Rel X.K T B' w' (wipe σ vs) H' (dO fr' vs) h' := fun {u2 w' H' fr' h' B'} e R' => by
      rw [← e]
      exact R'.wipe vs
     intro s0 H0 C cl fp
     refine sg s0 H0 C cl fp (B.pr A0 (.lst us)) w3 (wipe σ vs) H3 fr2 h2 x ds[i] _ r3 rx ?_
     unfold dM at qt
     cases q1 : g ds[i] fr2 h2 with
     | exc _ _ _ => rw [q1] at qt; cases qt
     | err => rw [q1] at qt; cases qt
     | ok _ fr3 h3 =>
       rw [q1] at qt
       dsimp only at qt
       intro w4 σ4 H4 l4 r4 k4
       have ew : wipe σ4 vs = wipe σ vs := Jy (k4.1.trans (wipe_length σ vs)) hi k4.2
       refine ⟨ew, fun s0 H0 C cl fp => st s0 H0 C cl fp (B.pr A0 (.lst us)) w4 σ4 H4 fr3 h3 _ r4 ?_⟩
       cases q2 : t fr3 h3 with
       | exc _ _ _ => rw [q2] at qt; cases qt
       | err => rw [q2] at qt; cases qt
       | ok b fr4 h4 =>
         rw [q2] at qt
         intro w5 H5 v l5 r5 rv
         have rv' : v = b := rv
         subst rv'
         cases v with
         | false =>
           dsimp only at qt
           cases qt
           simp only [Bool.false_eq_true, if_false]
           exact ⟨w5, _, _, acc, us, Wd.le_trans l2 (Wd.le_trans l3 (Wd.le_trans l4 l5)), ra.mono (Wd.le_trans l3 (Wd.le_trans l4 l5)), Nat.le_succ_of_le la, upw ew r5, fun j hj d => jP hj, p3.le (Wd.le_trans l3 (Wd.le_trans l4 l5))⟩
         | true =>
           dsimp only at qt
           simp only [if_true]
           intro s0 H0 C cl fp
           refine se s0 H0 C cl fp (B.pr A0 (.lst us)) w5 σ4 H5 fr4 h4 _ r5 ?_
           cases q3 : me fr4 h4 with
           | exc _ _ _ => rw [q3] at qt; cases qt
           | err => rw [q3] at qt; cases qt
           | ok yd fr5 h5 =>
             rw [q3] at qt
             cases qt
             intro w6 H6 yv l6 r6 ry
             have hD6 : H6 A0 = some (.lst us) := (r6.prot (A0, .lst us) (aiX)).1
             have lall : w2.le w6 := Wd.le_trans l3 (Wd.le_trans l4 (Wd.le_trans l5 l6))
             refine ⟨us, hD6, ?_, w6, _, _, acc ++ [yd], us ++ [yv], Wd.le_trans l2 lall, (ra.mono lall).append (.cons ry .nil), ?_, (upw ew r6).repr OD.e OD.p, fun j hj d => jP hj, ?_⟩
             · rw [ra.length]
               have : big < sizeLine := by decide
               omega
             · rw [aiT]
               show acc.length + 1 ≤ i + 1
               omega
             · have e9 : ∀ r : List _, acc ++ qb (some yd) r = acc ++ [yd] ++ r := fun r => by
                show acc ++ yd :: r = _
                rw [ai8]
                rfl
               simp only [e9] at p3
               exact p3.le lall
   · have e : i = ds.length := by omega
     subst e
     rw [List.drop_length] at p2
     obtain ⟨r3, O3, lo3, eD⟩ := r2.unprotect OD.e OD.p
     refine .inl ⟨js (Nat.le_refl _), ?_⟩
     have p3 : aW X.K T B W (vE X.K T B σ) w2 σ (.ok (D.nl (acc ++ [])) fr2 h2) Q := by
      have q : jc n vs g t me [] fr2 h2 = .ok [] fr2 h2 := by unfold jc; rw [if_pos hc]
      rw [M.bind_ok q] at p2
      exact p2
     rw [aiQ] at p3
     have r4 : Rel X.K T B w2 σ H2 fr2 h2 := r3.refr (by rw [← wipe_length σ vs]; exact r3.fl) fun j d ej => ⟨ej, by
      by_cases hj : j ∈ vs
      · exact absurd ej (hw2 j hj d)
      · exact (wipe_out hj).symm⟩
     refine p3 w2 H2 (.ref A0) (Wd.le_refl _) r4 (.inr ⟨A0, _, rfl, O3, fun j ⟨z1, dd, z2, z3⟩ => lo3 j ⟨?_, dd, z2, z3⟩, eD, .lst ra⟩)
     by_cases hj : j ∈ vs
     · exact absurd z2 (hw2 j hj dd)
     · rw [wipe_out hj]
       exact z1
 · rw [if_neg hb] at p1
   exact p1.elim
theorem Yq (C : Cq X T W k) (j : Nat) {y : Str} {py spos : Pos} (own : List (Str × Nat)) (si : fX (WI X tg iter) X.K T W WY li) (hi : ∀ i ∈ is, i ∈ own.map (·.2))
 (sg : ∀ (s : Shared) (H0 : Hp) (C : Addr) (cl : List (Str × Addr)) (fp : List Addr), uJ (X.blk s H0 scope (compEnvC scope cl C X.env) fp) T is tg g)
 (st : ∀ (s : Shared) (H0 : Hp) (C : Addr) (cl : List (Str × Addr)) (fp : List Addr), fX (Gn (X.blk s H0 scope (compEnvC scope cl C X.env) fp) ifs) X.K T WF vB t)
 (se : ∀ (s : Shared) (H0 : Hp) (C : Addr) (cl : List (Str × Addr)) (fp : List Addr), aV (X.blk s H0 scope (compEnvC scope cl C X.env) fp) T WF elt me)
 (ok : BlkOk X.N X.env.scope scope own) (hsw : swapsWith (.ListComp elt [⟨tg, iter, ifs, 0⟩] scope pos) (some (.Name y py)) spos.line X.env = pure true) (hy : X.N[j]? = some y := by rfl) (j0 : j ≠ 0 := by decide) (hyl : X.env.scope.names.lookup y = some .local := by rfl)
 (hs : ∀ x, foldedSetIterable iter X.env x = pure x := by intro _; rfl) : pY X T W (.Assign [.Name y py] (.ListComp elt [⟨tg, iter, ifs, 0⟩] scope pos) spos) (bu j (JM (own.map (·.2)) li g t me)) := fun B w σ H fr h D R p =>
 oG (ps_setLc C.calm C.nd hy hyl hsw BK ok (fun s H C cl fp => ⟨fun pins s' σ H v u Q I r hh => hh s _ C cl fp pins s' u I r⟩) (fun s H C cl fp => ⟨fun pins s' σ H Q I hh => hh s _ C cl fp pins s' I⟩) (fun s H C cl fp => ⟨fun pins s' σ H Q I hh => (hh s _ C cl fp).go pins s' I⟩) hs)
  (aaF si hi sg st se R (cP.bind (VR := vE X.K T B σ) p fun d fr1 h1 w1 H1 v e1 l1 r1 rx p1 => p1 w1 _ H1 (Wd.le_refl _) (r1.put j j0 rx)))
end
def DQ (h : Hh) (d e : D) : Option ((Hh → Prop) × List D) := match jO h d, jO h e with
 | some (n, l), some (n2, m) => some (fun h' => h'[n]? = some (.nl l) ∧ h'[n2]? = some (.nl m), iZ l m)
 | _, _ => none
def Ci (ma mb : M D) : M ((Hh → Prop) × List D) := ma.bind fun d => mb.bind fun e fr h => M.opt (DQ h d e) fr h
section
variable {X : Cx} {T : Tb} {W : WX} {k kk : Nat} {pos p tpos : Pos} {a c : Expr} {elts : List Expr} {ma mb : M D}
theorem aaG {K : PySem.W.Frag} {B : Bs} {σ : L2.St} {w : Wd} {H : Hp} {fr : Fr} {a1 a2 : Addr} {n n2 : Nat} {l m : List D} (s1 : w.I[n]? = some a1) (s2 : w.I[n2]? = some a2) : WY K T B σ w H fr (Yg K false false a1 a2) (fun h' => h'[n]? = some (.nl l) ∧ h'[n2]? = some (.nl m), iZ l m) := fun i w3 B3 σ3 H3 fr3 h3 l3 r4 hc3 => by
 obtain ⟨vs3, sq3, rv3⟩ := qd r4 (KY l3 s1) hc3.1
 obtain ⟨us, su3, rm3⟩ := qd r4 (KY l3 s2) hc3.2
 have q1 : vs3.length = l.length := rv3.length
 have q2 : us.length = m.length := rm3.length
 refine ⟨fun hi => ⟨vs3, us, sq3, su3, ?_⟩, fun d' hd => ?_⟩
 · rw [sY] at hi
   omega
 · obtain ⟨d1, d2, g1, g2, rfl⟩ := DG l m i d' hd
   obtain ⟨v, hv, rv⟩ := rv3.get g1
   obtain ⟨u, hu, ru⟩ := rm3.get g2
   refine ⟨⟨vs3, us, v, u, sq3, su3, hv, hu⟩, fun y H4 hy => ?_⟩
   obtain ⟨Tp, x1, x2, rfl, nT, rfl, hx, hx2⟩ := hy
   have z := hx vs3 sq3
   rw [hv] at z
   cases z
   have z := hx2 us su3
   rw [hu] at z
   cases z
   have lw := Wd.le_add (o := .tup [v, u]) (r4.nP nT).1
   exact ⟨w3.add Tp (.tup [v, u]), lw, r4.laid nT, .tup (SqT.of (by show upd w3.F Tp _ Tp = _; rw [upd_same])) (.cons (rv.mono lw) (.cons (ru.mono lw) .nil))⟩
theorem Yr (s : aV X T W a ma) (s2 : aV X T W c mb) (hm : X.mg "zip" = none) (hg : Gl X "zip" := by rfl) (hs : starEach [a, c] X.env = (false, eval a X.env) :: starEach [c] X.env := by rfl) (hs2 : starEach [c] X.env = (false, eval c X.env) :: starEach [] X.env := by rfl) (hpl : (backTo pos (starEach [c] X.env)).any (·.1) = false := by rfl) :
 fX (WI X (.Tuple elts kk tpos) (.Call (.Name "zip" p) [a, c] [] pos)) X.K T W WY (Ci ma mb) := fun B w σ H fr h Q r p =>
 Dk (aax hg hm (pa_cons bj (pa_cons bj pa_nil hs2) hs) hs hpl) (s B w σ H fr h _ r (aW.bind (VR := vV X.K T B σ) p fun d fr1 h1 w1 H1 x e1 l1 r1 rx p1 =>
  s2 B w1 σ H1 fr1 h1 _ r1 (aW.bind (VR := vV X.K T B σ) p1 fun e fr2 h2 w2 H2 y e2 l2 r2 ry p2 => by
   cases q : DQ h2 d e with
   | none => rw [q] at p2; exact p2.elim
   | some z =>
     rw [q] at p2
     unfold DQ at q
     split at q
     · rename_i n l n2 m q0 q1
       cases q
       obtain ⟨rfl, hc⟩ := ye q0
       obtain ⟨rfl, hc2⟩ := ye q1
       cases rx with
       | @ref a1 n1 s1 =>
         cases ry with
         | @ref a2 n3 s3 =>
           have s1' : w2.I[n]? = some a1 := KY l2 s1
           obtain ⟨vs, sq, rv⟩ := qd r2 s1' hc
           obtain ⟨us, sq2, rv2⟩ := qd r2 s3 hc2
           exact ⟨false, false, a1, a2, vs, us, rfl, sq, sq2, p2 w2 H2 _ (Wd.le_refl _) r2 (aaG (B := B) (σ := σ) (H := H2) (fr := fr2) s1' s3)⟩
     · cases q)))
end
end Pk
namespace Pk
open PySem PySem.Spec L2
def Wq {α : Type} (r : R α) (Q : α → Fr → Hh → Prop) (E : aN → Fr → Hh → Prop) : Prop := match r with
 | .ok a fr h => Q a fr h
 | .exc x fr h => E x fr h
 | .err => False
def Cj (d : D) : Option (List D) := match d with
 | .int j => if xR j then some (iY 0 j.toNat) else none
 | _ => none
def rgB (x y : D) : Option (List D) := match x, y with
 | .int i, .int j => if xR i && xR j then some (iY i (j - i).toNat) else none
 | _, _ => none
def dF (_ : aN) (_ : Fr) (_ : Hh) : Prop := False
def Oq {α : Type} (o : Option α) (K : α → Prop) : Prop := match o with
 | some a => K a
 | none => False
def Sq (s : Option (Option D)) (K : D → Prop) : Prop := match s with
 | some (some d) => K d
 | _ => False
def Fe (b : Bool) (A B : Prop) : Prop := if b then A else B
def Bq (fr : Fr) (K : Fr → Prop) : Prop := K fr
def Fq (f : Fl) (A B : Prop) : Prop := match f with
 | .nx => A
 | _ => B
def Rq (f : Fl) (K : D → Prop) : Prop := match f with
 | .rt d => K d
 | .nx => K .non
 | _ => False
section
variable {α β : Type} {Q : α → Fr → Hh → Prop} {E : aN → Fr → Hh → Prop} {fr : Fr} {h : Hh}
theorem tD {a : α} : Wq (.ok a fr h) Q E = Q a fr h := by unfold Wq; rfl
theorem sE : Wq (.err : R α) Q E = False := by unfold Wq; rfl
theorem oY {a : α} {K : α → Prop} : Oq (some a) K = K a := by unfold Oq; rfl
theorem ql {K : α → Prop} : Oq none K = False := by unfold Oq; rfl
theorem TV {o : Option α} {f : α → β} {K : β → Prop} : Oq (o.map f) K = Oq o fun a => K (f a) := by cases o <;> (unfold Oq; rfl)
theorem Iu {c : Prop} [Decidable c] {a : α} {K : α → Prop} : Oq (if c then some a else none) K = (c ∧ K a) := by
 by_cases hc : c
 · rw [if_pos hc, oY]; simp [hc]
 · rw [if_neg hc, ql]; simp [hc]
theorem aaH {c : Bool} {a : α} {K : α → Prop} : Oq (if c then some a else none) K = (c = true ∧ K a) := Iu
theorem DR {d : D} {K : D → Prop} : Sq (some (some d)) K = K d := by unfold Sq; rfl
theorem Vb {A B : Prop} : Fe true A B = A := by unfold Fe; exact if_pos rfl
theorem Vc {A B : Prop} : Fe false A B = B := by unfold Fe; exact if_neg (fun z => by cases z)
theorem Ys {a : Option D} {l : Fr} {K : Fr → Prop} : Bq (a :: l) K = K (a :: l) := by unfold Bq; rfl
theorem TX {A B : Prop} : Fq .nx A B = A := by unfold Fq; rfl
theorem TY {A B : Prop} {d : D} : Fq (.rt d) A B = B := by unfold Fq; rfl
theorem Yt {A B : Prop} : Fq .brk A B = B := by unfold Fq; rfl
theorem T5 {A B : Prop} : Fq .ct A B = B := by unfold Fq; rfl
theorem aaI {K : D → Prop} : Rq .nx K = K .non := by unfold Rq; rfl
theorem aaJ {K : D → Prop} {d : D} : Rq (.rt d) K = K d := by unfold Rq; rfl
theorem Wq.mono {r : R α} {Q Q' : α → Fr → Hh → Prop} {E : aN → Fr → Hh → Prop} (w : Wq r Q E) (hq : ∀ a fr h, Q a fr h → Q' a fr h) : Wq r Q' E := by
 cases r with
 | ok a fr h => exact hq _ _ _ w
 | exc x fr h => exact w
 | err => exact w
theorem Wq.ex {r : R α} {Q : α → Fr → Hh → Prop} (w : Wq r Q dF) : ∃ a fr h, r = .ok a fr h ∧ Q a fr h := by
 cases r with
 | ok a fr h => exact ⟨a, fr, h, rfl, w⟩
 | exc x fr h => exact w.elim
 | err => exact w.elim
theorem Wq.eq {a : α} {r : R α} {fr : Fr} {h : Hh} (w : Wq r (fun b fr1 h1 => b = a ∧ fr1 = fr ∧ h1 = h) dF) : r = .ok a fr h := by
 obtain ⟨b, fr1, h1, e, e1, e2, e3⟩ := w.ex
 rw [e, e1, e2, e3]
theorem Wq.of_eq {r : R α} {a : α} {fr : Fr} {h : Hh} (e : r = .ok a fr h) (q : Q a fr h) : Wq r Q E := by
 rw [e]; exact q
theorem eY {a : α} : Wq (M.ret a fr h) Q E = Q a fr h := by unfold M.ret; exact tD
theorem aQ {m : M β} {f : β → M α} : Wq (M.bind m f fr h) Q E = Wq (m fr h) (fun a fr h => Wq (f a fr h) Q E) E := by
 unfold M.bind
 cases m fr h <;> (unfold Wq; rfl)
theorem fK {o : Option α} : Wq (M.opt o fr h) Q E = Oq o fun a => Q a fr h := by
 cases o <;> (unfold Wq Oq M.opt; rfl)
end
section
variable {α : Type} {Q : D → Fr → Hh → Prop} {P : Bool → Fr → Hh → Prop} {S : α → Fr → Hh → Prop} {U : Unit → Fr → Hh → Prop} {G : List D → Fr → Hh → Prop} {L : Fl → Fr → Hh → Prop} {I : Option Int → Fr → Hh → Prop} {E : aN → Fr → Hh → Prop} {fr : Fr} {h : Hh} {m ma mb mc : M D} {i : Nat}
theorem adA {d : D} : Wq (mC d fr h) Q E = Q d fr h := eY
theorem acu : Wq (bG m fr h) Q E = Wq (m fr h) (fun d fr h => Q d.fz fr h) E := by
 unfold bG; rw [aQ]; simp only [eY]
theorem aaK : Wq (aa i fr h) Q E = Sq fr[i]? fun d => Fe d.own (Bq (fr.set i (some d.fz)) fun fr => Q d.fz fr h) (Q d fr h) := by
 unfold aa
 cases fr[i]? with
 | none => rfl
 | some o => cases o with
   | none => rfl
   | some d =>
     rw [DR]
     dsimp only
     cases d.own <;> rfl
theorem Yu : Wq (tO i fr h) Q E = Sq fr[i]? fun d => Bq (fr.set i none) fun fr => Q d fr h := by
 unfold tO
 cases fr[i]? with
 | none => rfl
 | some o => cases o <;> rfl
theorem T6 : Wq (aM i fr h) Q E = Sq fr[i]? fun d => Q d fr h := by
 unfold aM
 cases fr[i]? with
 | none => rfl
 | some o => cases o <;> rfl
theorem T7 : Wq (m9 i fr h) U E = Sq fr[i]? fun _ => U () fr h := by
 unfold m9
 cases fr[i]? with
 | none => rfl
 | some o => cases o <;> rfl
theorem acv {f : Hh → D → D → Option α} : Wq (aq f ma mb fr h) S E = Wq (ma fr h) (fun x fr h => Wq (mb fr h) (fun y fr h => Oq (f h x y) fun z => S z fr h) E) E := by
 unfold aq; simp only [aQ, fK]
theorem acw {f : Hh → D → Option α} : Wq (aC f ma fr h) S E = Wq (ma fr h) (fun x fr h => Oq (f h x) fun z => S z fr h) E := by
 unfold aC; simp only [aQ, fK]
theorem aaL {t : M Bool} : Wq (xH t fr h) P E = Wq (t fr h) (fun b fr h => P (!b) fr h) E := by
 unfold xH; simp only [aQ, eY]
theorem DW {β : Type} {b : Bool} {m n : M β} {Q : β → Fr → Hh → Prop} : Wq ((if b then m else n) fr h) Q E = Fe b (Wq (m fr h) Q E) (Wq (n fr h) Q E) := by
 cases b
 · rw [Vc]; rfl
 · rw [Vb]; rfl
theorem aaM {t u : M Bool} : Wq (m7 t u fr h) P E = Wq (t fr h) (fun b fr h => Fe b (Wq (u fr h) P E) (P false fr h)) E := by
 unfold m7; simp only [aQ, DW, eY]
theorem acx {t u : M Bool} : Wq (rE t u fr h) P E = Wq (t fr h) (fun b fr h => Fe b (P true fr h) (Wq (u fr h) P E)) E := by
 unfold rE; simp only [aQ, DW, eY]
theorem Yv : Wq (HS m fr h) Q E = Wq (m fr h) (fun d fr h => Oq d.tb fun b => Q (.bl (!b)) fr h) E := by
 unfold HS; simp only [aQ, fK, TV]
theorem Yw {n : M D} : Wq (HW m n fr h) Q E = Wq (m fr h) (fun d fr h => Oq d.tb fun b => Fe b (Wq (n fr h) Q E) (Q (.bl false) fr h)) E := by
 unfold HW; rw [aQ]
 congr 1
 funext d fr h
 cases d.tb with
 | none => dsimp only; rw [fK, ql, ql]
 | some b =>
   rw [oY]
   cases b
   · rw [Vc]; exact eY
   · rw [Vb]
theorem acy {t : M Bool} {m n : M α} : Wq (yL t m n fr h) S E = Wq (t fr h) (fun b fr h => Fe b (Wq (m fr h) S E) (Wq (n fr h) S E)) E := by
 unfold yL; simp only [aQ, DW]
theorem W0 : Wq (ak [] fr h) G E = G [] fr h := eY
theorem W3 {ms : List (M D)} : Wq (ak (m :: ms) fr h) G E = Wq (m fr h) (fun d fr h => Wq (ak ms fr h) (fun ds fr h => G (d :: ds) fr h) E) E := by
 rw [ak]; simp only [aQ, eY]
theorem aaN {ms : List (M D)} : Wq (Aa ms fr h) Q E = Wq (ak ms fr h) (fun ds fr h => ds.length ≤ big ∧ Q (.tup ds) fr h) E := by
 unfold Aa; simp only [aQ, fK, Iu]
theorem aaO {ms : List (M D)} : Wq (dD ms fr h) Q E = Wq (ak ms fr h) (fun ds fr h => ds.length ≤ big ∧ Q (.nl ds) fr h) E := by
 unfold dD; simp only [aQ, fK, Iu]
theorem Yx {β : Type} {m : M β} {f : Hh → D → β → Option D} : Wq (cZ i m f fr h) Q E = Sq fr[i]? fun _ => Wq (m fr h) (fun y fr h => Sq fr[i]? fun d => Oq (f h d y) fun z => Q z fr h) E := by
 unfold cZ; simp only [aQ, T7, T6, fK]
theorem acz : Wq (wV m fr h) G E = Wq (m fr h) (fun d fr h => Oq (d.its []) fun l => G l fr h) E := by
 unfold wV; simp only [aQ, fK]
theorem Yy : Wq (iJ m fr h) G E = Wq (m fr h) (fun d fr h => Oq (Cj d) fun l => G l fr h) E := by
 unfold iJ; simp only [aQ, fK]; rfl
theorem Yz : Wq (qZ m fr h) G E = Wq (m fr h) (fun d fr h => Oq d.lst fun l => G (fM 0 l) fr h) E := by
 unfold qZ; simp only [aQ, fK, TV]
theorem aaP {s n : M Fl} : Wq (aA s n fr h) L E = Wq (s fr h) (fun f fr h => Fq f (Wq (n fr h) L E) (L f fr h)) E := by
 unfold aA; rw [aQ]
 congr 1
 funext f fr h
 cases f with
 | nx => rw [TX]
 | brk => rw [Yt]; exact eY
 | ct => rw [T5]; exact eY
 | rt d => rw [TY]; exact eY
theorem aaQ {t : M Bool} {s n : M Fl} : Wq (eO t s n fr h) L E = Wq (t fr h) (fun b fr h => Fe b (Wq (s fr h) L E) (Wq (n fr h) L E)) E := by
 unfold eO; simp only [aQ, DW]
theorem YB {m : M α} : Wq (ni m fr h) L E = Wq (m fr h) (fun _ fr h => L .nx fr h) E := by
 unfold ni; simp only [aQ, eY]
theorem aaR : Wq (cH m fr h) L E = Wq (m fr h) (fun d fr h => L (.rt d) fr h) E := by
 unfold cH; simp only [aQ, eY]
theorem aaS : Wq (bu i m fr h) L E = Wq (m fr h) (fun d fr h => Bq (fr.set i (some d)) fun fr => L .nx fr h) E := by
 unfold bu Bq; rw [aQ]
 congr 1
theorem aaT {g : D → M Unit} : Wq (Gu m g fr h) L E = Wq (m fr h) (fun d fr h => Wq (g d fr h) (fun _ fr h => L .nx fr h) dF) E := by
 unfold Gu; rw [aQ]
 congr 1
 funext d fr h
 cases g d fr h <;> (unfold Wq; rfl)
theorem YC {is : List Nat} {ms : M (List D)} : Wq (HY is ms fr h) L E = Wq (ms fr h) (fun ds fr h => Oq (uK is ds fr) fun fr' => ds.length ≤ big ∧ Bq fr' fun fr' => L .nx fr' h) E := by
 unfold HY Bq; rw [aQ]
 congr 1
 funext ds fr h
 cases uK is ds fr with
 | none => exact sE.trans ql.symm
 | some f =>
   rw [oY]
   dsimp only
   split
   · rename_i hb; rw [tD]; simp only [hb, true_and]
   · rename_i hb; rw [sE]; simp only [hb, false_and]
theorem YD {l : M (List D)} {g : D → M Unit} {b : M Fl} : Wq (jN l g b fr h) L E = Wq (l fr h) (fun ds fr h => Wq (mO g b ds fr h) L E) E := by
 unfold jN; rw [aQ]
theorem acA {vs : List Nat} {l : M (List D)} {g : D → M Unit} {t : M Bool} {e : M D} : Wq (lM vs l g t e fr h) Q E = Wq (l fr h) (fun ds fr h => ds.length ≤ big ∧ Bq (dO fr vs) fun fr => Wq (j6 vs g t e ds fr h) (fun r fr h => Q (.nl r) fr h) E) E := by
 unfold lM Dm Bq; rw [aQ]
 congr 1
 funext ds fr h
 rw [aQ, tD]
 split
 · rename_i hb; rw [aQ]; simp only [eY, hb, true_and]
 · rename_i hb; rw [fK, ql]; simp only [hb, false_and]
theorem YF {d : D} : Wq (aY i d fr h) U E = Bq (fr.set i (some d)) fun fr => U () fr h := by
 unfold aY Bq; exact tD
theorem W4 : Wq (dY [] fr h) U E = U () fr h := eY
theorem Vd {g : D → M Unit} {gs : List D → M Unit} {d : D} {ds : List D} : Wq (aX g gs (d :: ds) fr h) U E = Wq (g d fr h) (fun _ fr h => Wq (gs ds fr h) U E) E := by
 unfold aX; exact aQ
theorem W6 {n : Nat} {gs : List D → M Unit} {l : List D} : Wq (dN n gs (.tup l) fr h) U E = (l.length = n ∧ Wq (gs l fr h) U E) := by
 unfold dN
 dsimp only
 split
 · rename_i hb; simp only [hb, true_and]
 · rename_i hb; rw [fK, ql]; simp only [hb, false_and]
theorem aaU {f : List D → Option (List D)} : Wq (bZ i f fr h) U E = Sq fr[i]? fun d => match d with
 | .nl l => Oq (f l) fun l' => Bq (fr.set i (some (.nl l'))) fun fr => U () fr h
 | .ref n => Oq h[n]? fun c => match c with
   | .nl l => Oq (f l) fun l' => U () fr (h.set n (.nl l'))
   | _ => False
 | _ => False := by
 unfold bZ Bq
 cases e : fr[i]? with
 | none => unfold Wq Sq; rfl
 | some o =>
   cases o with
   | none => unfold Wq Sq; rfl
   | some d =>
     rw [DR]
     cases d with
     | nl l => dsimp only; cases f l <;> (unfold Wq Oq; rfl)
     | ref n =>
       dsimp only
       cases h[n]? with
       | none => unfold Wq Oq; rfl
       | some c =>
         rw [oY]
         cases c with
         | nl l => dsimp only; cases f l <;> (unfold Wq Oq; rfl)
         | _ => unfold Wq; rfl
     | _ => unfold Wq; rfl
theorem YG {n : Nat} {f : List D → Option (List D)} : Wq (eG (.ref n) f fr h) U E = Oq h[n]? fun c => match c with
 | .nl l => Oq (f l) fun l' => U () fr (h.set n (.nl l'))
 | _ => False := by
 unfold eG
 dsimp only
 cases h[n]? with
 | none => unfold Wq Oq; rfl
 | some c =>
   rw [oY]
   cases c with
   | nl l => dsimp only; cases f l <;> (unfold Wq Oq; rfl)
   | _ => unfold Wq; rfl
theorem YH : Wq (rZ i m fr h) Q E = Wq (bZ i oJ fr h) (fun _ fr h => Wq (m fr h) (fun d fr h => Wq (bZ i (xJ d) fr h) (fun _ fr h => Q .non fr h) E) E) E := by
 unfold rZ; simp only [aQ, eY]
theorem YJ {mo : M D} : Wq (Ie mo m fr h) Q E = Wq (mo fr h) (fun o fr h => Wq (eG o oJ fr h) (fun _ fr h => Wq (m fr h) (fun d fr h => Wq (eG o (xJ d) fr h) (fun _ fr h => Q .non fr h) E) E) E) E := by
 unfold Ie; simp only [aQ, eY]
theorem YK {mi : M D} : Wq (o9 i m mi fr h) L E = Wq (m fr h) (fun d fr h => Sq fr[i]? fun _ => Wq (mi fr h) (fun j fr h => Wq (bZ i (ou j d) fr h) (fun _ fr h => L .nx fr h) E) E) E := by
 unfold o9; simp only [aQ, eY, T7]
theorem YL : Wq (oh m fr h) Q E = Wq (m fr h) (fun d fr h => d.own = true ∧ Q (.ref h.length) fr (h ++ [d])) E := by
 unfold oh; rw [aQ]
 congr 1
 funext d fr h
 split
 · rename_i hb; rw [tD]; simp only [hb, true_and]
 · rename_i hb; rw [sE, eq_iff_iff]
   exact ⟨False.elim, fun z => hb z.1⟩
theorem Ve {ix : Nat → Option Nat} : Wq (lW i ix m fr h) L E = Wq (m fr h) (fun d fr h => Wq (sX i ix d fr h) (fun _ fr h => L .nx fr h) E) E := by
 unfold lW; simp only [aQ, eY]
theorem YM {ix : Nat → Option Nat} {x : D} : Wq (sX i ix x fr h) U E = Sq fr[i]? fun d => match d with
 | .no c fs => Oq (ix c) fun k => Oq (nj k x fs) fun fs' => Bq (fr.set i (some (.no c fs'))) fun fr => U () fr h
 | .ref n => Oq h[n]? fun c => match c with
   | .no c fs => Oq (ix c) fun k => Oq (nj k x fs) fun fs' => U () fr (h.set n (.no c fs'))
   | _ => False
 | _ => False := by
 unfold sX Bq
 cases e : fr[i]? with
 | none => unfold Wq Sq; rfl
 | some o =>
   cases o with
   | none => unfold Wq Sq; rfl
   | some d =>
     rw [DR]
     cases d with
     | no c fs =>
       dsimp only
       cases ix c with
       | none => unfold Wq Oq; rfl
       | some k => rw [oY]; dsimp only; cases nj k x fs <;> (unfold Wq Oq; rfl)
     | ref n =>
       dsimp only
       cases h[n]? with
       | none => unfold Wq Oq; rfl
       | some c =>
         rw [oY]
         cases c with
         | no c fs =>
           dsimp only
           cases ix c with
           | none => unfold Wq Oq; rfl
           | some k => rw [oY]; dsimp only; cases nj k x fs <;> (unfold Wq Oq; rfl)
         | _ => unfold Wq; rfl
     | _ => unfold Wq; rfl
theorem YQ {r : R D} {fr0 : Fr} : Wq (oK fr0 r) Q E = Wq r (fun d _ h => Q d fr0 h) (fun x _ h => E x fr0 h) := by
 cases r <;> (unfold Wq oK; rfl)
theorem QD {n k : Nat} {F : Fn} {gD : List D → List D → List D} {ma mk : M (List D)} : Wq (bR n k F gD ma mk fr h) Q E = Wq (ma fr h) (fun ds fr h => Wq (mk fr h) (fun es fr h => ds.length = n ∧ es.length = k ∧ Wq (F (gD ds es) h) (fun d _ h => Q d fr h) (fun x _ h => E x fr h)) E) E := by
 unfold bR; rw [aQ]
 congr 1
 funext ds fr h
 rw [aQ]
 congr 1
 funext es fr h
 split
 · rename_i hb; rw [YQ]; simp only [hb.1, hb.2, true_and]
 · rename_i hb
   rw [sE, eq_iff_iff]
   exact ⟨False.elim, fun z => hb ⟨z.1, z.2.1⟩⟩
theorem YS {n k : Nat} {mt : Nat → Option Fn} {gD : List D → List D → List D} {mo : M D} {ma mk : M (List D)} : Wq (kW n k mt gD mo ma mk fr h) Q E = Wq (mo fr h) (fun o fr h => Oq (fnOf mt h o) fun F => Wq (ma fr h) (fun ds fr h => Wq (mk fr h) (fun es fr h => ds.length = n ∧ es.length = k ∧ Wq (F (gD (o :: ds) es) h) (fun d _ h => Q d fr h) (fun x _ h => E x fr h)) E) E) E := by
 unfold kW; rw [aQ]
 congr 1
 funext o fr h
 cases fnOf mt h o with
 | none => exact sE.trans ql.symm
 | some F =>
   rw [oY]
   dsimp only
   rw [QD]
   simp only [aQ, eY, aiL, Nat.add_right_cancel_iff]
theorem YT {n : Nat} {m : M Fl} {ds : List D} : Wq (dW n m ds h) Q E = Bq (startF n ds) fun fr => Wq (m fr h) (fun f _ h => Rq f fun d => Q d [] h) (fun x _ h => E x [] h) := by
 unfold dW Bq
 show _ = Wq (m (startF n ds) h) _ _
 generalize m (startF n ds) h = r
 cases r with
 | ok f fr h => cases f <;> rfl
 | exc x fr h => rfl
 | err => rfl
def Nq (c : Nat) (s : Option (Option D)) (K : D → Prop) : Prop := match s with
 | some (some (.no c' fs)) => c' = c ∧ K (.no c fs)
 | _ => False
end
structure Ff {β γ : Type} (_ : β) (_ : γ) : Type where
def Wp {α : Type} (r : R α) (Q : α → Fr → Hh → Prop) (E : aN → Fr → Hh → Prop) (_ : Ff Q E := ⟨⟩) : Prop := Wq r Q E
def Op {α : Type} (o : Option α) (K : α → Prop) (_ : Ff K K := ⟨⟩) : Prop := Oq o K
def Sl (s : Option (Option D)) (K : D → Prop) (_ : Ff K K := ⟨⟩) : Prop := Sq s K
def Cd (b : Bool) (A B : Prop) (_ : Ff A B := ⟨⟩) : Prop := Fe b A B
def Bx (fr : Fr) (K : Fr → Prop) (_ : Ff K K := ⟨⟩) : Prop := Bq fr K
def Z5 (f : Fl) (A B : Prop) (_ : Ff A B := ⟨⟩) : Prop := Fq f A B
def RtK (f : Fl) (K : D → Prop) (_ : Ff K K := ⟨⟩) : Prop := Rq f K
def NoK (c : Nat) (s : Option (Option D)) (K : D → Prop) (_ : Ff K K := ⟨⟩) : Prop := Nq c s K
section
variable {α β : Type} {Q : α → Fr → Hh → Prop} {E : aN → Fr → Hh → Prop} {fr : Fr} {h : Hh}
theorem cW {a : α} : Wp (.ok a fr h) Q E = Q a fr h := tD
theorem aK {a : α} {K : α → Prop} : Op (some a) K = K a := oY
theorem QF {c : Prop} [Decidable c] {a : α} {K : α → Prop} : Op (if c then some a else none) K = (c ∧ K a) := Iu
theorem acC {c : Bool} {a : α} {K : α → Prop} : Op (if c then some a else none) K = (c = true ∧ K a) := aaH
theorem aD {d : D} {K : D → Prop} : Sl (some (some d)) K = K d := DR
theorem d9 {A B : Prop} : Cd true A B = A := Vb
theorem bJ {A B : Prop} : Cd false A B = B := Vc
theorem aH {a : Option D} {l : Fr} {K : Fr → Prop} : Bx (a :: l) K = K (a :: l) := Ys
theorem bU {A B : Prop} : Z5 .nx A B = A := TX
theorem QG {A B : Prop} {d : D} : Z5 (.rt d) A B = B := TY
theorem Le {A B : Prop} : Z5 .ct A B = B := T5
theorem W7 {K : D → Prop} : RtK .nx K = K .non := aaI
theorem j8 {K : D → Prop} {d : D} : RtK (.rt d) K = K d := aaJ
theorem Wp.mono {r : R α} {Q Q' : α → Fr → Hh → Prop} {E : aN → Fr → Hh → Prop} (w : Wp r Q E) (hq : ∀ a fr h, Q a fr h → Q' a fr h) : Wp r Q' E := Wq.mono w hq
theorem Wp.ex {r : R α} {Q : α → Fr → Hh → Prop} (w : Wp r Q dF) : ∃ a fr h, r = .ok a fr h ∧ Q a fr h := Wq.ex w
theorem Wp.eq {a : α} {r : R α} {fr : Fr} {h : Hh} (w : Wp r (fun b fr1 h1 => b = a ∧ fr1 = fr ∧ h1 = h) dF) : r = .ok a fr h := Wq.eq w
theorem Wp.of_eq {r : R α} {a : α} {fr : Fr} {h : Hh} (e : r = .ok a fr h) (q : Q a fr h) : Wp r Q E := Wq.of_eq e q
theorem dB {a : α} : Wp (M.ret a fr h) Q E = Q a fr h := eY
end
section
variable {α : Type} {Q : D → Fr → Hh → Prop} {P : Bool → Fr → Hh → Prop} {S : α → Fr → Hh → Prop} {U : Unit → Fr → Hh → Prop} {G : List D → Fr → Hh → Prop} {L : Fl → Fr → Hh → Prop} {I : Option Int → Fr → Hh → Prop} {E : aN → Fr → Hh → Prop} {fr : Fr} {h : Hh} {m ma mb mc : M D} {i : Nat}
theorem cR {d : D} : Wp (mC d fr h) Q E = Q d fr h := adA
theorem jQ : Wp (bG m fr h) Q E = Wp (m fr h) (fun d fr h => Q d.fz fr h) E := acu
theorem aU : Wp (aa i fr h) Q E = Sl fr[i]? fun d => Cd d.own (Bx (fr.set i (some d.fz)) fun fr => Q d.fz fr h) (Q d fr h) := aaK
theorem T8 : Wp (tO i fr h) Q E = Sl fr[i]? fun d => Bx (fr.set i none) fun fr => Q d fr h := Yu
theorem cI : Wp (aM i fr h) Q E = Sl fr[i]? fun d => Q d fr h := T6
theorem bB {f : Hh → D → D → Option α} : Wp (aq f ma mb fr h) S E = Wp (ma fr h) (fun x fr h => Wp (mb fr h) (fun y fr h => Op (f h x y) fun z => S z fr h) E) E := acv
theorem cC {f : Hh → D → Option α} : Wp (aC f ma fr h) S E = Wp (ma fr h) (fun x fr h => Op (f h x) fun z => S z fr h) E := acw
theorem Hg {t : M Bool} : Wp (xH t fr h) P E = Wp (t fr h) (fun b fr h => P (!b) fr h) E := aaL
theorem gK {t u : M Bool} : Wp (m7 t u fr h) P E = Wp (t fr h) (fun b fr h => Cd b (Wp (u fr h) P E) (P false fr h)) E := aaM
theorem rA {t u : M Bool} : Wp (rE t u fr h) P E = Wp (t fr h) (fun b fr h => Cd b (P true fr h) (Wp (u fr h) P E)) E := acx
theorem aaV : Wp (HS m fr h) Q E = Wp (m fr h) (fun d fr h => Op d.tb fun b => Q (.bl (!b)) fr h) E := Yv
theorem aaW {n : M D} : Wp (HW m n fr h) Q E = Wp (m fr h) (fun d fr h => Op d.tb fun b => Cd b (Wp (n fr h) Q E) (Q (.bl false) fr h)) E := Yw
theorem DY {t : M Bool} {m n : M α} : Wp (yL t m n fr h) S E = Wp (t fr h) (fun b fr h => Cd b (Wp (m fr h) S E) (Wp (n fr h) S E)) E := acy
theorem bQ : Wp (ak [] fr h) G E = G [] fr h := W0
theorem cX {ms : List (M D)} : Wp (ak (m :: ms) fr h) G E = Wp (m fr h) (fun d fr h => Wp (ak ms fr h) (fun ds fr h => G (d :: ds) fr h) E) E := W3
theorem QH {ms : List (M D)} : Wp (Aa ms fr h) Q E = Wp (ak ms fr h) (fun ds fr h => ds.length ≤ big ∧ Q (.tup ds) fr h) E := aaN
theorem oM {ms : List (M D)} : Wp (dD ms fr h) Q E = Wp (ak ms fr h) (fun ds fr h => ds.length ≤ big ∧ Q (.nl ds) fr h) E := aaO
theorem jE {β : Type} {m : M β} {f : Hh → D → β → Option D} : Wp (cZ i m f fr h) Q E = Sl fr[i]? fun _ => Wp (m fr h) (fun y fr h => Sl fr[i]? fun d => Op (f h d y) fun z => Q z fr h) E := Yx
theorem Iv : Wp (wV m fr h) G E = Wp (m fr h) (fun d fr h => Op (d.its []) fun l => G l fr h) E := acz
theorem pD : Wp (iJ m fr h) G E = Wp (m fr h) (fun d fr h => Op (Cj d) fun l => G l fr h) E := Yy
theorem Iw : Wp (qZ m fr h) G E = Wp (m fr h) (fun d fr h => Op d.lst fun l => G (fM 0 l) fr h) E := Yz
theorem cJ {s n : M Fl} : Wp (aA s n fr h) L E = Wp (s fr h) (fun f fr h => Z5 f (Wp (n fr h) L E) (L f fr h)) E := aaP
theorem fD {t : M Bool} {s n : M Fl} : Wp (eO t s n fr h) L E = Wp (t fr h) (fun b fr h => Cd b (Wp (s fr h) L E) (Wp (n fr h) L E)) E := aaQ
theorem pF {m : M α} : Wp (ni m fr h) L E = Wp (m fr h) (fun _ fr h => L .nx fr h) E := YB
theorem jR : Wp (cH m fr h) L E = Wp (m fr h) (fun d fr h => L (.rt d) fr h) E := aaR
theorem dC : Wp (bu i m fr h) L E = Wp (m fr h) (fun d fr h => Bx (fr.set i (some d)) fun fr => L .nx fr h) E := aaS
theorem QJ {g : D → M Unit} : Wp (Gu m g fr h) L E = Wp (m fr h) (fun d fr h => Wp (g d fr h) (fun _ fr h => L .nx fr h) dF) E := aaT
theorem T9 {is : List Nat} {ms : M (List D)} : Wp (HY is ms fr h) L E = Wp (ms fr h) (fun ds fr h => Op (uK is ds fr) fun fr' => ds.length ≤ big ∧ Bx fr' fun fr' => L .nx fr' h) E := YC
theorem uh {l : M (List D)} {g : D → M Unit} {b : M Fl} : Wp (jN l g b fr h) L E = Wp (l fr h) (fun ds fr h => Wp (mO g b ds fr h) L E) E := YD
theorem tR {vs : List Nat} {l : M (List D)} {g : D → M Unit} {t : M Bool} {e : M D} : Wp (lM vs l g t e fr h) Q E = Wp (l fr h) (fun ds fr h => ds.length ≤ big ∧ Bx (dO fr vs) fun fr => Wp (j6 vs g t e ds fr h) (fun r fr h => Q (.nl r) fr h) E) E := acA
theorem bD {d : D} : Wp (aY i d fr h) U E = Bx (fr.set i (some d)) fun fr => U () fr h := YF
theorem di : Wp (dY [] fr h) U E = U () fr h := W4
theorem cU {g : D → M Unit} {gs : List D → M Unit} {d : D} {ds : List D} : Wp (aX g gs (d :: ds) fr h) U E = Wp (g d fr h) (fun _ fr h => Wp (gs ds fr h) U E) E := Vd
theorem du {n : Nat} {gs : List D → M Unit} {l : List D} : Wp (dN n gs (.tup l) fr h) U E = (l.length = n ∧ Wp (gs l fr h) U E) := W6
theorem qF {f : List D → Option (List D)} : Wp (bZ i f fr h) U E = Sl fr[i]? fun d => match d with
 | .nl l => Op (f l) fun l' => Bx (fr.set i (some (.nl l'))) fun fr => U () fr h
 | .ref n => Op h[n]? fun c => match c with
   | .nl l => Op (f l) fun l' => U () fr (h.set n (.nl l'))
   | _ => False
 | _ => False := aaU
theorem Iz {n : Nat} {f : List D → Option (List D)} : Wp (eG (.ref n) f fr h) U E = Op h[n]? fun c => match c with
 | .nl l => Op (f l) fun l' => U () fr (h.set n (.nl l'))
 | _ => False := YG
theorem v7 : Wp (rZ i m fr h) Q E = Wp (bZ i oJ fr h) (fun _ fr h => Wp (m fr h) (fun d fr h => Wp (bZ i (xJ d) fr h) (fun _ fr h => Q .non fr h) E) E) E := YH
theorem aaX {mo : M D} : Wp (Ie mo m fr h) Q E = Wp (mo fr h) (fun o fr h => Wp (eG o oJ fr h) (fun _ fr h => Wp (m fr h) (fun d fr h => Wp (eG o (xJ d) fr h) (fun _ fr h => Q .non fr h) E) E) E) E := YJ
theorem Ck {mi : M D} : Wp (o9 i m mi fr h) L E = Wp (m fr h) (fun d fr h => Sl fr[i]? fun _ => Wp (mi fr h) (fun j fr h => Wp (bZ i (ou j d) fr h) (fun _ fr h => L .nx fr h) E) E) E := YK
theorem MJ : Wp (oh m fr h) Q E = Wp (m fr h) (fun d fr h => d.own = true ∧ Q (.ref h.length) fr (h ++ [d])) E := YL
theorem NK {ix : Nat → Option Nat} : Wp (lW i ix m fr h) L E = Wp (m fr h) (fun d fr h => Wp (sX i ix d fr h) (fun _ fr h => L .nx fr h) E) E := Ve
theorem Ua {ix : Nat → Option Nat} {x : D} : Wp (sX i ix x fr h) U E = Sl fr[i]? fun d => match d with
 | .no c fs => Op (ix c) fun k => Op (nj k x fs) fun fs' => Bx (fr.set i (some (.no c fs'))) fun fr => U () fr h
 | .ref n => Op h[n]? fun c => match c with
   | .no c fs => Op (ix c) fun k => Op (nj k x fs) fun fs' => U () fr (h.set n (.no c fs'))
   | _ => False
 | _ => False := YM
theorem jX {n k : Nat} {F : Fn} {gD : List D → List D → List D} {ma mk : M (List D)} : Wp (bR n k F gD ma mk fr h) Q E = Wp (ma fr h) (fun ds fr h => Wp (mk fr h) (fun es fr h => ds.length = n ∧ es.length = k ∧ Wp (F (gD ds es) h) (fun d _ h => Q d fr h) (fun x _ h => E x fr h)) E) E := QD
theorem yE {n k : Nat} {mt : Nat → Option Fn} {gD : List D → List D → List D} {mo : M D} {ma mk : M (List D)} : Wp (kW n k mt gD mo ma mk fr h) Q E = Wp (mo fr h) (fun o fr h => Op (fnOf mt h o) fun F => Wp (ma fr h) (fun ds fr h => Wp (mk fr h) (fun es fr h => ds.length = n ∧ es.length = k ∧ Wp (F (gD (o :: ds) es) h) (fun d _ h => Q d fr h) (fun x _ h => E x fr h)) E) E) E := YS
theorem gY {n : Nat} {m : M Fl} {ds : List D} : Wp (dW n m ds h) Q E = Bx (startF n ds) fun fr => Wp (m fr h) (fun f _ h => RtK f fun d => Q d [] h) (fun x _ h => E x [] h) := YT
end
end Pk
namespace Pk
open PySem PySem.Spec L2
section
variable {h : Hh} {l l' ds fs : List D} {i j : Int} {a b : Bool} {s z : Str} {n c : Nat} {t : String}
theorem aZ : (D.int i).own = false := by unfold D.own; rfl
theorem W8 : (D.bl a).own = false := by unfold D.own; rfl
theorem Ub : (D.str s).own = false := by unfold D.own; rfl
theorem MK : D.non.own = false := by unfold D.own; rfl
theorem v8 : (D.tup l).own = false := by unfold D.own; rfl
theorem xj : (D.fl l).own = false := by unfold D.own; rfl
theorem acD : (D.kl l).own = false := by unfold D.own; rfl
theorem dU : (D.ref n).own = false := by unfold D.own; rfl
theorem uY : (D.nl l).own = true := by unfold D.own; rfl
theorem pG : (D.int i).fz = .int i := by unfold D.fz; rfl
theorem Lf : (D.tup l).fz = .tup l := by unfold D.fz; rfl
theorem qm : (D.nl l).fz = .fl l := by unfold D.fz; rfl
theorem Uc : (D.tup l).its h = some l := by unfold D.its D.der; rfl
theorem Cm : (D.fl l).its h = some l := by unfold D.its D.der; rfl
theorem acE : (D.kl l).its h = some l := by unfold D.its D.der; rfl
theorem QK : (D.nl l).its h = some l := by unfold D.its D.der; rfl
theorem aaY {x : D} (e : h[n]? = some x) : (D.ref n).der h = x := by
 unfold D.der; dsimp only; rw [e]; rfl
theorem Ud (e : h[n]? = some (.nl l)) : (D.ref n).its h = some l := by
 unfold D.its; rw [aaY e]
theorem yU : bO h (.tup l) = some (.int l.length) := by unfold bO; dsimp only; rw [Uc]; rfl
theorem Cp : bO h (.fl l) = some (.int l.length) := by unfold bO; dsimp only; rw [Cm]; rfl
theorem aaZ : bO h (.kl l) = some (.int l.length) := by unfold bO; dsimp only; rw [acE]; rfl
theorem aa0 : bO h (.nl l) = some (.int l.length) := by unfold bO; dsimp only; rw [QK]; rfl
theorem QL (e : h[n]? = some (.nl l)) : bO h (.ref n) = some (.int l.length) := by unfold bO; dsimp only; rw [Ud e]; rfl
theorem qp : aP h (.tup l) (.int i) = atI l i := by unfold aP; dsimp only; rw [Uc]
theorem rQ (e : h[n]? = some (.nl l)) : aP h (.ref n) (.int i) = atI l i := by unfold aP; dsimp only; rw [Ud e]
section
variable {α : Type} {xs : List α}
theorem lN {k : Nat} : atI xs (k : Int) = xs[k]? := by
 unfold atI ixN
 rw [if_pos (by omega)]
 by_cases hk : k < xs.length
 · rw [if_pos (by omega)]; simp
 · rw [if_neg (by omega)]; simp; omega
theorem Z6 : atI xs (-1) = xs.getLast? := by
 unfold atI ixN
 rw [if_neg (by decide), List.getLast?_eq_getElem?]
 by_cases hk : 1 ≤ xs.length
 · rw [if_pos (by omega)]
   show xs[((-1 : Int) + (xs.length : Int)).toNat]? = _
   congr 1; omega
 · rw [if_neg (by omega)]
   have : xs = [] := List.length_eq_zero_iff.mp (by omega)
   subst this; rfl
end
section
variable {C : Int → Int → Bool} {g : Int → Int → Int} {K : D → Prop}
theorem pH : Op (qM C g h (.int i) (.int j)) K = (C i j = true ∧ K (.int (g i j))) := by unfold qM; exact acC
theorem Ea : O8 i j = true := by unfold O8; rfl
theorem v9 : dZ h (.int i) (.int j) = some (.int (i + j)) := by unfold dZ; rfl
theorem yF : dZ h (.fl l) (.fl l') = if l.length + l'.length ≤ big then some (.nl (l ++ l')) else none := by unfold dZ; rfl
theorem QM : o8 h (.bl a) = some (.int (if a then 1 else 0)) := by unfold o8; rfl
theorem YW {d : D} : Kw h d = (d.its h).map .nl := by unfold Kw; rfl
theorem NP {d : D} : yM h d = (d.its h).map .tup := by unfold yM; rfl
theorem dh {p : Int → Int → Bool} : cInt p h (.int i) (.int j) = some (p i j) := by unfold cInt; rfl
theorem jT : gU h (.int i) (.int j) = some (decide (i = j)) := by
 have : gU h (.int i) (.int j) = some (i == j) := by unfold gU; rfl
 rw [this]
 by_cases e : i = j
 · subst e; simp
 · simp [e]
theorem W9 {d e : D} : zF h d e = (gU h d e).map (!·) := by unfold zF; rfl
theorem adB : (D.bl a).tb = some a := by unfold D.tb; rfl
theorem qG : (D.bl a).tru h = some a := by unfold D.tru; rfl
end
theorem Xa : ∀ xs : List Int, D.ints (xs.map .int) = some xs
 | [] => by unfold D.ints; rfl
 | i :: xs => by rw [aiN]; unfold D.ints; rw [Xa xs]; rfl
theorem adC {xs : List Int} : XQ h (.nl (xs.map .int)) = some (.int xs.sum) := by
 unfold XQ D.lints D.der; dsimp only; rw [Xa]; rfl
theorem QQ {fr : Fr} : uK [] [] fr = some fr := by unfold uK; rfl
theorem NQ {fr : Fr} {k : Nat} {ks : List Nat} {d : D} : uK (k :: ks) (d :: ds) fr = uK ks ds (fr.set k (some d)) := by rw [uK]
theorem cD {fr : Fr} : dO fr [] = fr := by unfold dO; rfl
theorem bM {fr : Fr} {k : Nat} {ks : List Nat} : dO fr (k :: ks) = (dO fr ks).set k none := by rw [dO]
theorem fu {dfl es : List D} : bh dfl ds es = ds ++ dfl := by unfold bh; rfl
theorem rR : oJ l = some l := by unfold oJ; rfl
theorem uv {d : D} : xJ d l = if l.length < big then some (l ++ [d]) else none := by unfold xJ; rfl
end
theorem dX : big = 100000 := by unfold big; rfl
def yV (f : Fl) (A : Prop) (B : Fl → Prop) (_ : Ff A B := ⟨⟩) : Prop := match f with
 | .nx => A
 | .ct => A
 | .brk => B .nx
 | .rt d => B (.rt d)
theorem fB {A : Prop} {B : Fl → Prop} : yV .nx A B = A := by unfold yV; rfl
theorem uZ {A : Prop} {B : Fl → Prop} : yV .ct A B = A := by unfold yV; rfl
theorem IK {A : Prop} {B : Fl → Prop} : yV .brk A B = B .nx := by unfold yV; rfl
theorem Lg {d : D} {A : Prop} {B : Fl → Prop} : yV (.rt d) A B = B (.rt d) := by unfold yV; rfl
section
variable {L : Fl → Fr → Hh → Prop} {E : aN → Fr → Hh → Prop} {g : D → M Unit} {b : M Fl}
theorem aa1 {fr : Fr} {h : Hh} : Wp (mO g b [] fr h) L E = L .nx fr h := by unfold mO; exact dB
theorem aa2 {d : D} {ds : List D} {fr : Fr} {h : Hh} : Wp (mO g b (d :: ds) fr h) L E = Wp (g d fr h) (fun _ fr h => Wp (b fr h) (fun f fr h => yV f (Wp (mO g b ds fr h) L E) fun f => L f fr h) E) dF := by
 rw [mO]
 dsimp only
 cases g d fr h with
 | ok u fr h =>
   rw [cW]
   dsimp only
   cases b fr h with
   | ok f fr h =>
     rw [cW]
     cases f with
     | nx => rw [fB]
     | ct => rw [uZ]
     | brk => rw [IK]; exact cW
     | rt d => rw [Lg]; exact cW
   | exc x fr h => unfold Wp; rfl
   | err => unfold Wp; rfl
 | exc x fr h => unfold Wp dF; rfl
 | err => unfold Wp; rfl
theorem QR {α : Type} {F : α → D} {xs : List α} (I : List α → Fr → Hh → Prop) {fr : Fr} {h : Hh} (i0 : I [] fr h)
 (st : ∀ pre a suf fr h, xs = pre ++ a :: suf → I pre fr h → Wp (g (F a) fr h) (fun _ fr h => Wp (b fr h) (fun f fr h => yV f (I (pre ++ [a]) fr h) fun f => L f fr h) E) dF)
 (en : ∀ fr h, I xs fr h → L .nx fr h) : Wp (mO g b (xs.map F) fr h) L E := by
 have main : ∀ (suf pre : List α) (fr : Fr) (h : Hh), xs = pre ++ suf → I pre fr h → Wp (mO g b (suf.map F) fr h) L E := by
  intro suf
  induction suf with
  | nil =>
    intro pre fr h e i
    rw [aiR, aa1]
    rw [aiQ] at e
    subst e
    exact en fr h i
  | cons a suf ih =>
    intro pre fr h e i
    rw [aiN, aa2]
    refine (st pre a suf fr h e i).mono fun _ fr1 h1 w => w.mono fun f fr2 h2 z => ?_
    have e' : xs = (pre ++ [a]) ++ suf := by rw [e, ai8]; rfl
    cases f with
    | nx => rw [fB] at z ⊢; exact ih _ _ _ e' z
    | ct => rw [uZ] at z ⊢; exact ih _ _ _ e' z
    | brk => rw [IK] at z ⊢; exact z
    | rt d => rw [Lg] at z ⊢; exact z
 exact main xs [] fr h rfl i0
theorem aa3 {lo : Int} {n : Nat} (I : Int → Fr → Hh → Prop) {fr : Fr} {h : Hh} (i0 : I lo fr h)
 (st : ∀ j fr h, lo ≤ j → j < lo + n → I j fr h → Wp (g (.int j) fr h) (fun _ fr h => Wp (b fr h) (fun f fr h => yV f (I (j + 1) fr h) fun f => L f fr h) E) dF)
 (en : ∀ fr h, I (lo + n) fr h → L .nx fr h) : Wp (mO g b (iY lo n) fr h) L E := by
 have e : iY lo n = ((aiJ n).map fun (k : Nat) => lo + (k : Int)).map D.int := by unfold iY; rw [ai4]; rfl
 rw [e]
 refine QR (fun pre fr h => I (lo + pre.length) fr h) (by simpa using i0) (fun pre a suf fr h ex i => ?_) (fun fr h i => en fr h ?_)
 · have hl : pre.length < n := by
    have := congrArg List.length ex
    simp only [aiP, aiS, aiT, aiL] at this
    omega
   have ha : a = lo + pre.length := by
    have := congrArg (fun l => l[pre.length]?) ex
    simp only [ai3, List.getElem?_range hl, Option.map_some, ajc (Nat.le_refl _), Nat.sub_self, aiH, Option.some.injEq] at this
    exact this.symm
   subst ha
   have z := st (lo + pre.length) fr h (by omega) (by omega) i
   rw [aiT, ai7, Int.natCast_add, ← Int.add_assoc]
   exact z
 · simpa using i
end
section
variable {vs : List Nat} {g : D → M Unit} {t : M Bool} {e : M D}
theorem iV {d : D} {Q : Option D → Fr → Hh → Prop} {E : aN → Fr → Hh → Prop} {fr : Fr} {h : Hh} : Wp (dM vs g t e d fr h) Q E = Wp (g d fr h) (fun _ fr h => Wp (t fr h) (fun b fr h => Cd b (Wp (e fr h) (fun y fr h => Bx (dO fr vs) fun fr => Q (some y) fr h) dF) (Bx (dO fr vs) fun fr => Q none fr h)) dF) dF := by
 unfold dM Bx
 cases g d fr h with
 | ok u fr h =>
   rw [cW]
   dsimp only
   cases t fr h with
   | ok b fr h =>
     rw [cW]
     cases b with
     | true =>
       rw [d9]
       dsimp only
       cases e fr h with
       | ok y fr h => rw [cW]; exact cW (E := dF)
       | exc x fr h => unfold Wp dF; rfl
       | err => unfold Wp; rfl
     | false => rw [bJ]; exact cW
   | exc x fr h => unfold Wp dF; rfl
   | err => unfold Wp; rfl
 | exc x fr h => unfold Wp dF; rfl
 | err => unfold Wp; rfl
theorem MN {fr : Fr} {h : Hh} : j6 vs g t e [] fr h = .ok [] fr h := by unfold j6; rfl
theorem u5 {α : Type} {F G : α → D} {p : α → Bool} {fr : Fr} {h : Hh} : ∀ {xs : List α}, (∀ a ∈ xs, Wp (dM vs g t e (F a) fr h) (fun o fr1 h1 => (o = if p a then some (G a) else none) ∧ fr1 = fr ∧ h1 = h) dF) → j6 vs g t e (xs.map F) fr h = .ok ((xs.filter p).map G) fr h
 | [], _ => MN
 | a :: xs, hh => by
   rw [aiN]
   unfold j6
   rw [M.bind_ok ((hh a aiX).eq), M.bind_ok (u5 fun x hx => hh x (ai2 _ hx)), List.filter_cons]
   cases p a <;> rfl
theorem uw {α : Type} {F G : α → D} {fr : Fr} {h : Hh} {xs : List α} (hh : ∀ a ∈ xs, Wp (dM vs g t e (F a) fr h) (fun o fr1 h1 => o = some (G a) ∧ fr1 = fr ∧ h1 = h) dF) : j6 vs g t e (xs.map F) fr h = .ok (xs.map G) fr h := by
 have := u5 (p := fun _ => true) (F := F) (G := G) (xs := xs) (vs := vs) (g := g) (t := t) (e := e) (fr := fr) (h := h) (fun a ha => (hh a ha).mono fun o fr1 h1 z => by simpa using z)
 rw [this, List.filter_eq_self.mpr (fun _ _ => rfl)]
theorem QS {α : Type} {F : α → D} {fr : Fr} {h : Hh} {xs : List α} (hh : ∀ a ∈ xs, Wp (dM vs g t e (F a) fr h) (fun o fr1 h1 => o = none ∧ fr1 = fr ∧ h1 = h) dF) : j6 vs g t e (xs.map F) fr h = .ok [] fr h := by
 have := u5 (p := fun _ => false) (F := F) (G := F) (xs := xs) (vs := vs) (g := g) (t := t) (e := e) (fr := fr) (h := h) (fun a ha => (hh a ha).mono fun o fr1 h1 z => by simpa using z)
 rw [this, List.filter_eq_nil_iff.mpr (fun _ _ => by simp)]; rfl
end
end Pk
namespace Pk
open PySem PySem.Spec L2
structure Em (α : Type) [DecidableEq α] where
 f : α → PyData
 n : Nat
 ok : α → Prop
 lay : ∀ a, ok a → (f a).canLay0 = true
 dep : ∀ a, (f a).depth ≤ n
 eq : ∀ a b, PyData.eqv (f a) (f b) = decide (a = b)
theorem aa4 (a b : Int) : (a == b) = decide (a = b) := by
 by_cases e : a = b
 · subst e; simp
 · simp [e]
def Em.int : Em Int where
 f := .int
 n := 0
 ok := fun _ => True
 lay := fun _ _ => rfl
 dep := fun _ => Nat.le_refl 0
 eq := fun a b => by
  show (a == b) = _
  exact aa4 a b
def MP (s : Str) : Bool := (PyData.str s).canLay0
def Em.str : Em Str where
 f := .str
 n := 0
 ok := fun s => MP s = true
 lay := fun _ h => h
 dep := fun _ => Nat.le_refl 0
 eq := fun a b => by
  show (a == b) = _
  by_cases e : a = b
  · subst e; simp
  · simp [e]
section
variable {α β : Type} [DecidableEq α] [DecidableEq β]
theorem Em.all_lay (A : Em α) : ∀ {l : List α}, (∀ a ∈ l, A.ok a) → PyData.canLayAll0 (l.map A.f) = true
 | [], _ => rfl
 | a :: l, h => by
   rw [aiN, PyData.canLayAll0, A.lay a (h a aiX), A.all_lay fun x hx => h x (ai2 _ hx)]
   rfl
theorem Em.all_dep (A : Em α) : ∀ l : List α, PyData.depthAll (l.map A.f) ≤ A.n
 | [] => Nat.zero_le _
 | a :: l => by
   rw [aiN, PyData.depthAll]
   exact Nat.max_le.mpr ⟨A.dep a, A.all_dep l⟩
theorem Em.all_eq (A : Em α) : ∀ l m : List α, PyData.eqvAll (l.map A.f) (m.map A.f) = decide (l = m)
 | [], [] => rfl
 | [], b :: m => by simp [PyData.eqvAll]
 | a :: l, [] => by simp [PyData.eqvAll]
 | a :: l, b :: m => by
   rw [aiN, aiN, PyData.eqvAll, A.eq, A.all_eq l m]
   by_cases e : a = b <;> by_cases e2 : l = m <;> simp [e, e2]
def Em.list (A : Em α) : Em (List α) where
 f := fun l => .list (l.map A.f)
 n := A.n + 1
 ok := fun l => ∀ a ∈ l, A.ok a
 lay := fun l h => by rw [PyData.canLay0]; exact A.all_lay h
 dep := fun l => by rw [PyData.depth]; exact Nat.succ_le_succ (A.all_dep l)
 eq := fun l m => by rw [PyData.eqv]; exact A.all_eq l m
def Em.tup (A : Em α) : Em (List α) where
 f := fun l => .tuple (l.map A.f)
 n := A.n + 1
 ok := fun l => ∀ a ∈ l, A.ok a
 lay := fun l h => by rw [PyData.canLay0]; exact A.all_lay h
 dep := fun l => by rw [PyData.depth]; exact Nat.succ_le_succ (A.all_dep l)
 eq := fun l m => by rw [PyData.eqv]; exact A.all_eq l m
def Em.pair (A : Em α) (B : Em β) : Em (α × β) where
 f := fun p => .tuple [A.f p.1, B.f p.2]
 n := max A.n B.n + 1
 ok := fun p => A.ok p.1 ∧ B.ok p.2
 lay := fun p h => by
  rw [PyData.canLay0, PyData.canLayAll0, PyData.canLayAll0, PyData.canLayAll0, A.lay _ h.1, B.lay _ h.2]; rfl
 dep := fun p => by
  rw [PyData.depth, PyData.depthAll, PyData.depthAll, PyData.depthAll]
  have := A.dep p.1
  have := B.dep p.2
  omega
 eq := fun p q => by
  rw [PyData.eqv, PyData.eqvAll, PyData.eqvAll, PyData.eqvAll, A.eq, B.eq]
  obtain ⟨a, b⟩ := p
  obtain ⟨c, d⟩ := q
  by_cases e : a = c <;> by_cases e2 : b = d <;> simp [e, e2]
def Em.opt (A : Em α) (hn : ∀ a, PyData.eqv .none (A.f a) = false ∧ PyData.eqv (A.f a) .none = false) : Em (Option α) where
 f := fun o => match o with
   | some a => A.f a
   | none => .none
 n := A.n
 ok := fun o => ∀ a, o = some a → A.ok a
 lay := fun o h => by
  cases o with
  | none => rfl
  | some a => exact A.lay a (h a rfl)
 dep := fun o => by
  cases o with
  | none => exact Nat.zero_le _
  | some a => exact A.dep a
 eq := fun o p => by
  cases o with
  | none => cases p with
    | none => rfl
    | some b => simp only [(hn b).1]; simp
  | some a => cases p with
    | none => simp only [(hn a).2]; simp
    | some b => simp only [A.eq]; simp
theorem Em.shaped (A : Em α) {a : α} (h : A.ok a) (hn : A.n ≤ 64) : SeqAt.shaped (A.f a) = true := by
 unfold SeqAt.shaped
 rw [A.lay a h, decide_eq_true (Nat.le_trans (A.dep a) hn)]
 rfl
theorem Xb (A : Em α) {h : Hh} {d e : D} {a b : α} (hd : d.toP = some (A.f a)) (he : e.toP = some (A.f b)) (oa : A.ok a) (ob : A.ok b) (hn : A.n ≤ 64) : gU h d e = some (decide (a = b)) := by
 unfold gU
 rw [hd, he]
 dsimp only
 rw [A.shaped oa hn, A.shaped ob hn, ← A.eq]
 rfl
theorem Cr (A : Em α) {g : α → D} (hg : ∀ a, (g a).toP = some (A.f a)) : ∀ l : List α, D.toPs (l.map g) = some (l.map A.f)
 | [] => by rw [aiR, D.toPs]; rfl
 | a :: l => by
   rw [aiN, D.toPs, hg a, Cr A hg l]
   rfl
theorem acF (A : Em α) {g : α → D} (hg : ∀ a, (g a).toP = some (A.f a)) (l : List α) : (D.fl (l.map g)).toP = some (A.list.f l) := by
 rw [D.toP, Cr A hg]; rfl
theorem acG (A : Em α) {g : α → D} (hg : ∀ a, (g a).toP = some (A.f a)) (l : List α) : (D.nl (l.map g)).toP = some (A.list.f l) := by
 rw [D.toP, Cr A hg]; rfl
theorem aa5 (A : Em α) {g : α → D} (hg : ∀ a, (g a).toP = some (A.f a)) (l : List α) : (D.tup (l.map g)).toP = some (A.tup.f l) := by
 rw [D.toP, Cr A hg]; rfl
theorem sG (i : Int) : (D.int i).toP = some (Em.int.f i) := by unfold D.toP; rfl
theorem Ue (s : Str) : (D.str s).toP = some (Em.str.f s) := by unfold D.toP; rfl
end
section
variable {h : Hh} {l m : List Int} {v : Int}
theorem Ug : gU h (.fl (l.map .int)) (.nl (m.map .int)) = some (decide (l = m)) := Xb Em.int.list (acF Em.int sG l) (acG Em.int sG m) (fun _ _ => trivial) (fun _ _ => trivial) (by decide)
end
theorem Xc {l : List D} : (D.fl l).lst = some l := by unfold D.lst; rfl
theorem Uh {l : List D} : (D.tup l).lst = some l := by unfold D.lst; rfl
def psI (d : D) : Option Int := match d with
 | .int i => some i
 | _ => none
theorem QT {h : Hh} {a b : Str} (ha : MP a = true) (hb : MP b = true) : gU h (.str a) (.str b) = some (decide (a = b)) := Xb Em.str (Ue a) (Ue b) ha hb (by decide)
theorem acH {i : Int} (h1 : -100000 ≤ i) (h2 : i ≤ 100000) : xR i = true := by
 unfold xR
 rw [decide_eq_true (show -(2 ^ 62) ≤ i by omega), decide_eq_true (show i < 2 ^ 62 by omega)]
 rfl
theorem aa6 {n : Nat} {N : Int} {b : M Fl} {ns : List Int} (hn : 2 ≤ n) (h1 : 1 ≤ N) (hN : N ≤ 63)
 (hb : ∀ (k : Nat) (xs : Fr) (h : Hh), (k : Int) < N → xs.length = n - 2 → Wp (b (some (.kl (ns.map .int)) :: some (.int k) :: xs) h) (fun f fr _ => (f = .nx ∨ f = .ct) ∧ ∃ x1 ys, fr = some (.kl (ns.map .int)) :: x1 :: ys ∧ ys.length = n - 2) dF) :
 ∃ fr h, dW n (aA (jN (iJ (aq zH (mC (.int 1)) (aq Ky (mC (.int N)) (aC bO (aM 0))))) (aY 1) b) (cH (mC (.bl true)))) [.kl (ns.map .int)] [] = .ok (.bl true) fr h := by
 have w : Wp (dW n (aA (jN (iJ (aq zH (mC (.int 1)) (aq Ky (mC (.int N)) (aC bO (aM 0))))) (aY 1) b) (cH (mC (.bl true)))) [.kl (ns.map .int)] []) (fun d _ _ => d = .bl true) dF := by
  have es : startF n [.kl (ns.map .int)] = some (.kl (ns.map .int)) :: none :: List.replicate (n - 2) none := by
   unfold startF
   obtain ⟨m, rfl⟩ : ∃ m, n = m + 2 := ⟨n - 2, by omega⟩
   simp [ai5]
  simp only [gY, es, aH, ↓cJ, ↓uh, ↓pD, ↓bB, ↓cR, ↓cC, ↓cI, aiH, aD, aaZ, aK, pH, Ea, true_and, Cj, aiP]
  generalize hz : (if (if (ns.length : Int) < N then (ns.length : Int) else N) > 1 then (if (ns.length : Int) < N then (ns.length : Int) else N) else 1) = z
  have z1 : 1 ≤ z := by rw [← hz]; split <;> omega
  have z2 : z ≤ N := by rw [← hz]; split <;> split at * <;> omega
  rw [acH (by omega) (by omega)]
  simp only [↓reduceIte, aK]
  refine aa3 (fun _ fr _ => ∃ x1 ys, fr = some (.kl (ns.map .int)) :: x1 :: ys ∧ ys.length = n - 2) ⟨none, _, rfl, by simp⟩ ?_ ?_
  · rintro j fr h j0 j1 ⟨x1, ys, rfl, hy⟩
    simp only [↓bD, aiI, aiG, aH]
    have ej : ((j.toNat : Nat) : Int) = j := by omega
    have := hb j.toNat ys h (by omega) hy
    rw [ej] at this
    refine this.mono ?_
    rintro f fr h ⟨rfl | rfl, q⟩
    · rw [fB]; exact q
    · rw [uZ]; exact q
  · rintro fr h ⟨x1, ys, rfl, hy⟩
    simp only [bU, ↓jR, ↓cR, j8]
 obtain ⟨d, fr, h, e, rfl⟩ := w.ex
 exact ⟨fr, h, e⟩
end Pk
namespace Pk
open PySem PySem.Spec L2
section
variable {Q : D → Fr → Hh → Prop} {E : aN → Fr → Hh → Prop} {fr : Fr} {h : Hh} {ma mb : M D} {mk : M (List D)} {F : Fn} {m : Nat} {mt : Nat → Option Fn}
end
section
variable {h : Hh} {l m : List Str} {w : Str}
end
section
variable {vs : List Nat} {g : D → M Unit} {t : M Bool} {e : M D}
end
end Pk
namespace Pk
open PySem PySem.Spec L2
def endF (i : Nat) (f : Fl) (fr : Fr) : Fr := match f with
 | .rt _ => fr
 | _ => fr.set i none
section
variable {Q : Fl → Fr → Hh → Prop} {S : D → Fr → Hh → Prop} {E : aN → Fr → Hh → Prop} {fr : Fr} {h : Hh} {i : Nat} {cond : Nat → Option Bool} {mb : M Fl} {ms : aN → M Fl} {ma mc : M D} {mt : Nat → Option Fn}
end
section
variable {h : Hh} {i : Int} {b : Bool} {z : Str} {l : List D}
end
end Pk
namespace Pk
open PySem PySem.Spec L2
def ahQ (d : D) (K : Int → Prop) : Prop := match d with
 | .int i => 0 ≤ i ∧ i < 2 ^ 60 ∧ K i
 | _ => False
section
variable {Q : Bool → Fr → Hh → Prop} {S : D → Fr → Hh → Prop} {E : aN → Fr → Hh → Prop} {fr : Fr} {h : Hh} {ma mb : M D} {mt : Nat → Option Fn}
end
end Pk
namespace Pk
open PySem PySem.Spec L2
section
variable {Q : Bool → Fr → Hh → Prop} {E : aN → Fr → Hh → Prop} {fr : Fr} {h : Hh} {mt : Nat → Option Fn} {n m : Nat} {fs gs : List D}
end
end Pk
namespace Pk
open PySem PySem.Spec L2
def aep (l : List D) (d : D) : Option (D × List D) := match d with
 | .int j => if -(2 ^ 63) ≤ j ∧ j < 2 ^ 63 then (match seqIndex? j l.length with
   | some q => (match l[q]? with
     | some y => some (y, l.eraseIdx q)
     | none => none)
   | none => none) else none
 | _ => none
def ahR (x d : D) (K : D → List D → Prop) : Prop := match x with
 | .nl l => Oq (aep l d) fun p => K p.1 p.2
 | _ => False
section
variable {S : D → Fr → Hh → Prop} {E : aN → Fr → Hh → Prop} {fr : Fr} {h : Hh} {ma : M D} {mas : M (List D)} {mt : Nat → Option Fn} {i n c : Nat} {d : D} {l : List D}
end
end Pk
namespace Pk
open PySem PySem.Spec L2
section
variable {Q : Bool → Fr → Hh → Prop} {E : aN → Fr → Hh → Prop} {fr : Fr} {h : Hh} {mb : M D} {i : Nat}
end
end Pk
namespace Pk
open PySem PySem.Spec L2
def EqK {α : Type} (o : Option α) (A B : Prop) : Prop := match o with
 | some _ => A
 | none => B
section
variable {Q : Bool → Fr → Hh → Prop} {E : aN → Fr → Hh → Prop} {fr : Fr} {h : Hh} {mt : Nat → Option Fn} {i : Int} {b c : Bool} {z : Str} {l : List D}
end
end Pk
namespace Pk
open PySem PySem.Spec L2
section
variable {Q : Bool → Fr → Hh → Prop} {E : aN → Fr → Hh → Prop} {fr : Fr} {h : Hh} {mt : Nat → Option Fn} {nf : Nat → Nat}
end
end Pk
namespace Pk
open PySem PySem.Spec L2
section
variable {Q : Fl → Fr → Hh → Prop} {E : aN → Fr → Hh → Prop} {fr : Fr} {h : Hh} {i : Nat} {cond : Nat → Option Bool} {mb : M Fl} {ms : aN → M Fl} {x : aN} {cs : List Hd}
end
end Pk
namespace Pk
open PySem PySem.Spec L2
end Pk
namespace Pk
open PySem PySem.Spec L2
section
variable {Q : Fl → Fr → Hh → Prop} {E : aN → Fr → Hh → Prop} {fr : Fr} {h : Hh} {c : Nat} {ma : M D}
end
end Pk
namespace Pk
open PySem PySem.Spec L2
section
variable {G : List D → Fr → Hh → Prop} {E : aN → Fr → Hh → Prop} {fr : Fr} {h : Hh} {ma mb : M D} {a b : D} {l m : List D}
theorem acI : Wp (MF ma mb fr h) G E = Wp (ma fr h) (fun x fr h => Wp (mb fr h) (fun y fr h => Op (Mz x y) fun l => G l fr h) E) E := by
 show Wq (MF ma mb fr h) G E = Wq (ma fr h) (fun x fr h => Wq (mb fr h) (fun y fr h => Oq (Mz x y) fun l => G l fr h) E) E
 unfold MF
 simp only [aQ, fK]
theorem Ui {k : Int} : v5 h (.fl l) (.int k) = if 0 ≤ k ∧ k < 1000 ∧ l.length ≤ 100 then some (.nl (List.replicate k.toNat l).flatten) else none := rfl
theorem aa7 : Mz (.fl l) (.fl m) = some (iZ l m) := rfl
end
end Pk
namespace Pk
open PySem PySem.Spec L2
def ahS : List Int → Int
 | a :: r => Uz a r
 | [] => 0
end Pk
namespace Pk
open PySem PySem.Spec L2
section
variable {L : Fl → Fr → Hh → Prop} {E : aN → Fr → Hh → Prop} {g : D → M Unit} {b : M Fl} {n : Nat} {l : List D} {fr : Fr} {h : Hh} {G : Nat × List D × List D → Fr → Hh → Prop} {li : M (Nat × List D × List D)} {ma mb : M D}
theorem JN : Wp (qD li g b fr h) L E = Wp (li fr h) (fun x fr h => Wp (lZ x.1 x.2.1 g b x.2.2 fr h) L E) E := by
 show Wq (qD li g b fr h) L E = Wq (li fr h) (fun x fr h => Wq (lZ x.1 x.2.1 g b x.2.2 fr h) L E) E
 unfold qD
 simp only [aQ]
theorem acJ : Wp (DK ma fr h) G E = Wp (ma fr h) (fun d fr h => Op ((jO h d).map fun x => (x.1, x.2, x.2)) fun x => G x fr h) E := by
 show Wq (DK ma fr h) G E = Wq (ma fr h) (fun d fr h => Oq ((jO h d).map fun x => (x.1, x.2, x.2)) fun x => G x fr h) E
 unfold DK
 simp only [aQ, fK]
theorem NT (e : h[n]? = some (.nl l)) : jO h (.ref n) = some (n, l) := by
 unfold jO
 dsimp only
 rw [e]
theorem YX (hc : h[n]? = some (.nl l)) : Wp (lZ n l g b [] fr h) L E = L .nx fr h := by
 unfold lZ
 rw [if_pos hc]
 exact cW
theorem YZ {d : D} {ds : List D} (hc : h[n]? = some (.nl l)) : Wp (lZ n l g b (d :: ds) fr h) L E = Wp (g d fr h) (fun _ fr h => Wp (b fr h) (fun f fr h => yV f (Wp (lZ n l g b ds fr h) L E) fun f => L f fr h) E) dF := by
 rw [lZ]
 dsimp only
 rw [if_pos hc]
 cases g d fr h with
 | ok u fr h =>
   rw [cW]
   dsimp only
   cases b fr h with
   | ok f fr h =>
     rw [cW]
     cases f with
     | nx => rw [fB]
     | ct => rw [uZ]
     | brk => rw [IK]; exact cW
     | rt d => rw [Lg]; exact cW
   | exc x fr h => unfold Wp; rfl
   | err => unfold Wp; rfl
 | exc x fr h => unfold Wp dF; rfl
 | err => unfold Wp; rfl
theorem aa8 {α : Type} {F : α → D} {xs : List α} (I : List α → Fr → Hh → Prop) (cell : ∀ pre fr h, I pre fr h → h[n]? = some (.nl l)) (i0 : I [] fr h)
 (st : ∀ pre a suf fr h, xs = pre ++ a :: suf → I pre fr h → Wp (g (F a) fr h) (fun _ fr h => Wp (b fr h) (fun f fr h => yV f (I (pre ++ [a]) fr h) fun f => L f fr h) E) dF)
 (en : ∀ fr h, I xs fr h → L .nx fr h) : Wp (lZ n l g b (xs.map F) fr h) L E := by
 have main : ∀ (suf pre : List α) (fr : Fr) (h : Hh), xs = pre ++ suf → I pre fr h → Wp (lZ n l g b (suf.map F) fr h) L E := by
  intro suf
  induction suf with
  | nil =>
    intro pre fr h e i
    rw [aiR, YX (cell pre fr h i)]
    rw [aiQ] at e
    subst e
    exact en fr h i
  | cons a suf ih =>
    intro pre fr h e i
    rw [aiN, YZ (cell pre fr h i)]
    refine (st pre a suf fr h e i).mono fun _ fr1 h1 w => w.mono fun f fr2 h2 z => ?_
    have e' : xs = (pre ++ [a]) ++ suf := by rw [e, ai8]; rfl
    cases f with
    | nx => rw [fB] at z ⊢; exact ih _ _ _ e' z
    | ct => rw [uZ] at z ⊢; exact ih _ _ _ e' z
    | brk => rw [IK] at z ⊢; exact z
    | rt d => rw [Lg] at z ⊢; exact z
 exact main xs [] fr h rfl i0
end
end Pk
namespace Pk
open PySem PySem.Spec L2
def JnK (d : D) (K : Str → Prop) : Prop := match d with
 | .str y => K y
 | _ => False
def AgK (d : D) (K : Int → Prop) : Prop := match d with
 | .int y => K y
 | _ => False
section
variable {α : Type} {Q : α → Fr → Hh → Prop} {S : D → Fr → Hh → Prop} {L : Fl → Fr → Hh → Prop} {G : Str → Fr → Hh → Prop} {E : aN → Fr → Hh → Prop} {fr : Fr} {h : Hh} {m ma mb : M D} {ml mh : M (Option Int)} {mt : Nat → Option Fn} {i : Nat} {ms : List (M D)} {acc : Str}
theorem Y0 : Wp (BV ma fr h) S E = Wp (ma fr h) (fun d fr h => Op (KZ (.int 0) d) fun z => S z fr h) E := by
 show Wq (BV ma fr h) S E = Wq (ma fr h) (fun d fr h => Oq (KZ (.int 0) d) fun z => S z fr h) E
 unfold BV
 simp only [aQ, fK]
end
end Pk
namespace Pk
open PySem PySem.Spec L2
end Pk
namespace Pk
open PySem PySem.Spec L2
section
variable {h : Hh}
theorem acK {xs : List Int} : zR h (.nl (xs.map .int)) = some (.int xs.sum) := adC
theorem Wp.out {α : Type} {r : R α} {Q : α → Fr → Hh → Prop} (w : Wp r Q dF) : ∃ a fr h, r = .ok a fr h ∧ Q a fr h := by
 cases r with
 | ok a fr h => exact ⟨a, fr, h, rfl, w⟩
 | exc y fr1 h1 => exact (show False from w).elim
 | err => exact (show False from w).elim
end
end Pk
namespace Pk
open PySem PySem.Spec L2
section
variable {S : D → Fr → Hh → Prop} {E : aN → Fr → Hh → Prop} {fr : Fr} {h : Hh} {ma : M D} {mt : Nat → Option Fn}
end
end Pk
namespace Pk
open PySem PySem.Spec L2
def Oxq (o : Option (Fn × Bool)) (A B : Fn → Prop) : Prop := match o with
 | some (F, false) => A F
 | some (F, true) => B F
 | none => False
def OxK (o : Option (Fn × Bool)) (A B : Fn → Prop) (_ : Ff A B := ⟨⟩) : Prop := Oxq o A B
section
variable {S : D → Fr → Hh → Prop} {E : aN → Fr → Hh → Prop} {fr : Fr} {h : Hh} {ma mb : M D} {mtl mtr : Nat → Option Fn}
end
end Pk
namespace Pk
open PySem PySem.Spec L2
section
variable {S : D → Fr → Hh → Prop} {E : aN → Fr → Hh → Prop} {fr : Fr} {h : Hh} {mo ma : M D}
theorem QV : Wp (wZ mo ma fr h) S E = Wp (mo fr h) (fun o fr h => (o.lstP h).isSome = true ∧ Wp (ma fr h) (fun x fr h => Op (pC h o x) fun z => S z fr h) E) E := by
 show Wq (wZ mo ma fr h) S E = Wq (mo fr h) (fun o fr h => (o.lstP h).isSome = true ∧ Wq (ma fr h) (fun x fr h => Oq (pC h o x) fun z => S z fr h) E) E
 unfold wZ
 rw [aQ]
 congr 1
 funext o fr h
 cases e : (o.lstP h).isSome with
 | true =>
   rw [if_pos rfl, aQ]
   simp only [true_and]
   congr 1
   funext x fr h
   exact fK
 | false =>
   rw [if_neg Bool.false_ne_true]
   simp only [Bool.false_eq_true, false_and]
   exact sE
end
section
variable {α : Type} [DecidableEq α] {h : Hh} {x y : D} {a : α} {l : List α}
theorem acL (A : Em α) : ((l.map A.f).any fun z => PyData.eqv z (A.f a)) = decide (a ∈ l) := by
 induction l with
 | nil => rfl
 | cons b l ih =>
   rw [aiN, List.any_cons, ih, A.eq]
   by_cases e : b = a
   · subst e; simp
   · have e' : ¬ a = b := fun z => e z.symm
     simp [e, e']
theorem Uj (A : Em α) (hx : x.toP = some (A.f a)) (hl : y.lstP h = some (l.map A.f)) (oa : A.ok a) (ol : ∀ b ∈ l, A.ok b) (hn : A.n + 1 ≤ 64) : Af h x y = some (decide (a ∈ l)) := by
 unfold Af
 rw [hx, hl]
 dsimp only
 rw [A.shaped oa (by omega), show SeqAt.shaped (.list (l.map A.f)) = true from A.list.shaped (a := l) ol hn, acL A]
 rfl
theorem aa9 (A : Em α) (hm : a ∈ l) : ((l.map A.f).findIdx? fun z => PyData.eqv z (A.f a)) = some (l.idxOf a) := by
 induction l with
 | nil => cases hm
 | cons b l ih =>
   rw [aiN, List.findIdx?_cons, A.eq, List.idxOf_cons]
   by_cases e : b = a
   · subst e; simp
   · have hm' : a ∈ l := by
      rcases List.mem_cons.mp hm with q | q
      · exact absurd q.symm e
      · exact q
     rw [ih hm', show (b == a) = false from beq_eq_false_iff_ne.mpr e]
     simp [e]
theorem QW (A : Em α) (hx : x.toP = some (A.f a)) (hl : y.lstP h = some (l.map A.f)) (oa : A.ok a) (ol : ∀ b ∈ l, A.ok b) (hn : A.n + 1 ≤ 64) (hm : a ∈ l) : pC h y x = some (.int (l.idxOf a : Nat)) := by
 unfold pC
 rw [hx, hl]
 dsimp only
 rw [A.shaped oa (by omega), show SeqAt.shaped (.list (l.map A.f)) = true from A.list.shaped (a := l) ol hn, aa9 A hm]
 rfl
theorem QX {p : Nat} {g : α → D} (A : Em α) (e : h[p]? = some (.nl (l.map g))) (hg : ∀ a, (g a).toP = some (A.f a)) : (D.ref p).lstP h = some (l.map A.f) := by
 unfold D.lstP D.der
 dsimp only
 rw [e]
 exact Cr A hg l
end
end Pk
namespace Pk
open PySem PySem.Spec L2
section
variable {Q : D → Fr → Hh → Prop} {S : List D → Fr → Hh → Prop} {E : aN → Fr → Hh → Prop} {fr : Fr} {h : Hh} {n : Nat} {l : List D} {vs : List Nat} {g : D → M Unit} {t : M Bool} {e : M D}
theorem acM {li : M (Nat × List D × List D)} : Wp (DN vs li g t e fr h) Q E = Wp (li fr h) (fun x fr h => x.2.2.length ≤ big ∧ Bx (dO fr vs) fun fr => Wp (ju x.1 x.2.1 vs g t e x.2.2 fr h) (fun r fr h => Q (.nl r) fr h) E) E := by
 show Wq (DN vs li g t e fr h) Q E = Wq (li fr h) (fun x fr h => x.2.2.length ≤ big ∧ Bq (dO fr vs) fun fr => Wq (ju x.1 x.2.1 vs g t e x.2.2 fr h) (fun r fr h => Q (.nl r) fr h) E) E
 unfold DN Dm Bq; rw [aQ]
 congr 1
 funext ds fr h
 rw [aQ, tD]
 split
 · rename_i hb; rw [aQ]; simp only [eY, hb, true_and]
 · rename_i hb; rw [fK, ql]; simp only [hb, false_and]
theorem Y4 (hc : h[n]? = some (.nl l)) : ju n l vs g t e [] fr h = .ok [] fr h := by unfold ju; rw [if_pos hc]
theorem Xd {d : D} {ds : List D} {o : Option D} {r : List D} {fr1 fr2 : Fr} {h1 h2 : Hh} (hc : h[n]? = some (.nl l)) (e1 : dM vs g t e d fr h = .ok o fr1 h1) (e2 : ju n l vs g t e ds fr1 h1 = .ok r fr2 h2) : ju n l vs g t e (d :: ds) fr h = .ok (qb o r) fr2 h2 := by
 rw [ju]
 dsimp only
 rw [if_pos hc, M.bind_ok e1, M.bind_ok e2]
 rfl
end
end Pk
namespace Pk
open PySem PySem.Spec L2
def ahT (h : Hh) (ix : Nat → Option Nat) (o d : D) : Option Hh := match o with
 | .ref n => match h[n]? with
   | some (.no c fs) => match ix c with
     | some i => match nj i d fs with
       | some fs' => some (h.set n (.no c fs'))
       | none => none
     | none => none
   | _ => none
 | _ => none
section
variable {Q : D → Fr → Hh → Prop} {L : Fl → Fr → Hh → Prop} {U : Unit → Fr → Hh → Prop} {E : aN → Fr → Hh → Prop} {fr : Fr} {h : Hh} {mo mv : M D} {ms : List (M D)}
theorem aba : Wp (K7 fr h) Q E = Q (.ref h.length) fr (h ++ [.dc [] []]) := by
 unfold K7
 exact cW
theorem Y5 {c n m : Nat} {F : Fn} {gD : List D → List D → List D} {ma mk : M (List D)} : Wp (BW c n m F gD ma mk fr h) Q E = Wp (ma fr h) (fun ds fr h => Wp (mk fr h) (fun es fr h => ds.length = n ∧ es.length = m ∧ Wp (F (.ref h.length :: gD ds es) (h ++ [.no c []])) (fun d _ h' => d = .non ∧ Q (.ref h.length) fr h') (fun x _ h' => E x fr h')) E) E := by
 show Wq (BW c n m F gD ma mk fr h) Q E = Wq (ma fr h) (fun ds fr h => Wq (mk fr h) (fun es fr h => ds.length = n ∧ es.length = m ∧ Wq (F (.ref h.length :: gD ds es) (h ++ [.no c []])) (fun d _ h' => d = .non ∧ Q (.ref h.length) fr h') (fun x _ h' => E x fr h')) E) E
 unfold BW
 rw [aQ]
 congr 1
 funext ds fr h
 rw [aQ]
 congr 1
 funext es fr h
 split
 · rename_i hb
   simp only [hb.1, hb.2, true_and]
   cases F (.ref h.length :: gD ds es) (h ++ [.no c []]) with
   | ok d fr' h' => cases d <;> simp [Ov, Wq]
   | exc x fr' h' => rfl
   | err => rfl
 · rename_i hb
   rw [sE, eq_iff_iff]
   exact ⟨False.elim, fun z => hb ⟨z.1, z.2.1⟩⟩
end
end Pk
namespace Pk
open PySem PySem.Spec L2
section
variable {E : aN → Fr → Hh → Prop} {fr : Fr} {h : Hh} {G : Nat × List D × List D → Fr → Hh → Prop} {ma : M D}
theorem JQ : Wp (rP ma fr h) G E = Wp (ma fr h) (fun d fr h => Op ((jO h d).map fun x => (x.1, x.2, fM 0 x.2)) fun x => G x fr h) E := by
 show Wq (rP ma fr h) G E = Wq (ma fr h) (fun d fr h => Oq ((jO h d).map fun x => (x.1, x.2, fM 0 x.2)) fun x => G x fr h) E
 unfold rP
 simp only [aQ, fK]
end
end Pk
namespace Pk
open PySem PySem.Spec L2
def ahU (d : D) (K : Nat → Prop) : Prop := match d with
 | .ref n => K n
 | _ => False
def ahV (d : D) (K : Nat → List D → Prop) : Prop := match d with
 | .no c fs => K c fs
 | _ => False
section
variable {S : D → Fr → Hh → Prop} {L : Fl → Fr → Hh → Prop} {A : List D → Fr → Hh → Prop} {E : aN → Fr → Hh → Prop} {fr : Fr} {h : Hh} {m mo mt : M D} {ma : M (List D)} {t : M Bool} {b : M Fl} {i j n : Nat}
def WhK (f : Fl) (again : Prop) (out : Fl → Prop) : Prop := match f with
 | .nx => again
 | .ct => again
 | .brk => out .nx
 | .rt d => out (.rt d)
theorem QZ {p : Prop} {o : Fl → Prop} : WhK .nx p o = p := rfl
theorem Hi : Wp (iK t b (n + 1) fr h) L E = Wp (t fr h) (fun c fr h => if c then Wp (b fr h) (fun f fr h => WhK f (Wp (iK t b n fr h) L E) fun f => L f fr h) E else L .nx fr h) E := by
 show Wq (iK t b (n + 1) fr h) L E = Wq (t fr h) (fun c fr h => if c then Wq (b fr h) (fun f fr h => WhK f (Wq (iK t b n fr h) L E) fun f => L f fr h) E else L .nx fr h) E
 rw [iK]
 dsimp only
 cases t fr h with
 | ok c fr h =>
   cases c with
   | true =>
     rw [tD]
     dsimp only
     rw [if_pos rfl]
     cases b fr h with
     | ok f fr h => cases f <;> rfl
     | exc x fr h => rfl
     | err => rfl
   | false => rfl
 | exc x fr h => rfl
 | err => rfl
end
end Pk
namespace Pk
open PySem PySem.Spec L2
section
variable {S : D → Fr → Hh → Prop} {A : List D → Fr → Hh → Prop} {E : aN → Fr → Hh → Prop} {fr : Fr} {h : Hh} {m mo : M D} {ma li : M (List D)} {ms : M Fl} {ds out : List D} {g : D → M Unit} {b c : List D → M (List D)}
end
end Pk
namespace Pk
open PySem PySem.Spec L2
section
variable {G : Nat × List D × List D → Fr → Hh → Prop} {E : aN → Fr → Hh → Prop} {fr : Fr} {h : Hh} {ma mb : M D} {n : Nat} {l : List D}
end
end Pk
namespace Pk
open PySem PySem.Spec L2 GenP
section
variable {A : List D → Fr → Hh → Prop} {L : Fl → Fr → Hh → Prop} {E : aN → Fr → Hh → Prop} {fr : Fr} {h : Hh} {mo : M D} {mc : M (List D)} {c nN : Nat} {b : vQ} {g : D → M Unit} {bm : M Fl}
end
end Pk
namespace Pk
open PySem PySem.Spec L2
section
variable {Q : D → Fr → Hh → Prop} {L : Fl → Fr → Hh → Prop} {E : aN → Fr → Hh → Prop} {fr : Fr} {h : Hh} {mo mk mv mz m : M D}
end
end Pk
namespace Pk
open PySem PySem.Spec L2
section
variable {α : Type} {Q : α → Fr → Hh → Prop} {E : aN → Fr → Hh → Prop} {fr : Fr} {h : Hh} {t : Fr → Hh → Bool} {a b : M α}
end
end Pk
namespace Pk
open PySem PySem.Spec L2
section
variable {α : Type} {Q : D → Fr → Hh → Prop} {L : Fl → Fr → Hh → Prop} {E : aN → Fr → Hh → Prop} {fr : Fr} {h : Hh} {m mo me : M D} {g : D → M Unit} {b : M Fl} {t : M Bool} {e : M D} {vs : List Nat}
end
end Pk
namespace Pk
open PySem PySem.Spec L2
section
variable {Q : Bool → Fr → Hh → Prop} {E : aN → Fr → Hh → Prop} {fr : Fr} {h : Hh} {mt : Nat → Option Fn} {oth : Nat → Bool}
end
end Pk
namespace Pk
open PySem PySem.Spec L2
def adD (l : List D) : Option (D × List D) := match l[l.length - 1]? with
 | some y => some (y, l.dropLast)
 | none => none
def ahW (x : D) (K : D → List D → Prop) : Prop := match x with
 | .nl l => Oq (adD l) fun p => K p.1 p.2
 | _ => False
section
variable {S : D → Fr → Hh → Prop} {G : List D → Fr → Hh → Prop} {E : aN → Fr → Hh → Prop} {fr : Fr} {h : Hh} {ma : M D} {i : Nat} {l : List D} {y : D}
end
end Pk
namespace Pk
open PySem PySem.Spec L2
section
variable {Q : D → Fr → Hh → Prop} {L : Fl → Fr → Hh → Prop} {E : aN → Fr → Hh → Prop} {fr : Fr} {h : Hh} {mo m : M D} {ma mk : M (List D)} {ms : List (M D)} {ks : List Str} {i j n c k : Nat} {ix : Nat → Option Nat} {d f : D} {fs fs' : List D}
theorem set_same {l : List D} {i : Nat} {x : D} (e : l[i]? = some x) : l.set i x = l := by
 obtain ⟨hi, rfl⟩ := List.getElem?_eq_some_iff.mp e
 exact List.set_getElem_self hi
end
end Pk
namespace Pk
open PySem PySem.Spec L2
def Fal {α : Type} (_ : α) (_ : Fr) (_ : Hh) : Prop := False
def agT (d : D) (K : D → List D → Prop) (_ : Ff K K := ⟨⟩) : Prop := match d with
 | .tup (x :: xs) => K x xs
 | _ => False
section
variable {Q : D → Fr → Hh → Prop} {L : Fl → Fr → Hh → Prop} {U : Unit → Fr → Hh → Prop} {E : aN → Fr → Hh → Prop} {fr : Fr} {h : Hh} {mo me : M D} {mb mf : M Fl} {i j n c : Nat} {ix : Nat → Option Nat} {mt : Nat → Option Fn} {d : D} {z : Str} {ss : List Str} {f : Str → M Fl} {cond : Nat → Option Bool} {chk : List D → Bool} {ma : aN → M (List D)}
end
end Pk
namespace Pk
open PySem PySem.Spec L2
def aeq (l : List D) (j d : D) : Option (List D) := match j with
 | .int k => if 0 ≤ k ∧ k < 2 ^ 62 ∧ l.length < big then some (l.take k.toNat ++ [d] ++ l.drop k.toNat) else none
 | _ => none
def ahX (x j d : D) (K : List D → Prop) : Prop := match x with
 | .nl l => Oq (aeq l j d) K
 | _ => False
section
variable {S : D → Fr → Hh → Prop} {E : aN → Fr → Hh → Prop} {fr : Fr} {h : Hh} {mj m : M D} {i : Nat} {j d : D} {l : List D}
end
end Pk
namespace Pk
open PySem PySem.Spec L2
theorem Hj {l : List D} : (D.tp l).own = false := by unfold D.own; rfl
theorem adE {l : List D} : (D.tp l).fz = .tp l := by unfold D.fz; rfl
theorem Xe {h : Hh} {l : List D} : (D.tp l).its h = some l := by unfold D.its D.der; rfl
theorem Uk {h : Hh} {l : List D} {i : Int} : aP h (.tp l) (.int i) = atI l i := by unfold aP; dsimp only; rw [Xe]
theorem Y6 {h : Hh} {l : List D} : Ir h (.nl l) = some (.tp l) := rfl
section
variable {Q : D → Fr → Hh → Prop} {L : Fl → Fr → Hh → Prop} {U : Unit → Fr → Hh → Prop} {E : aN → Fr → Hh → Prop} {fr : Fr} {h : Hh} {mo mk mv m mj : M D} {d : D}
def Op2 (o : Option (D × Hh)) (K : D → Hh → Prop) (_ : Ff K K := ⟨⟩) : Prop := match o with
 | some (z, h) => K z h
 | none => False
theorem Q3 {z : D} {h' : Hh} {K : D → Hh → Prop} : Op2 (some (z, h')) K = K z h' := rfl
theorem Q4 : Wp (Ca mo mk mv fr h) Q E = Wp (mo fr h) (fun o fr h => (jD h o).isSome = true ∧ Wp (mk fr h) (fun k fr h => Wp (mv fr h) (fun d fr h => Op2 (uX h o k d) fun z h' => Q z fr h') E) E) E := by
 show Wq (Ca mo mk mv fr h) Q E = Wq (mo fr h) (fun o fr h => (jD h o).isSome = true ∧ Wq (mk fr h) (fun k fr h => Wq (mv fr h) (fun d fr h => Op2 (uX h o k d) fun z h' => Q z fr h') E) E) E
 unfold Ca
 rw [aQ]
 congr 1
 funext o fr h
 by_cases c : (jD h o).isSome = true
 · rw [if_pos c]
   simp only [aQ, c, true_and]
   congr 1
   funext k fr h
   congr 1
   funext d fr h
   cases uX h o k d with
   | none => exact sE
   | some zz => exact tD
 · rw [if_neg c, sE, eq_iff_iff]
   exact ⟨False.elim, fun z => c z.1⟩
theorem Y7 : Wp (Ce mo mk fr h) Q E = Wp (mo fr h) (fun o fr h => Wp (mk fr h) (fun k fr h => Op (xf h o k) fun z => Q z fr h) E) E := by
 show Wq (Ce mo mk fr h) Q E = Wq (mo fr h) (fun o fr h => Wq (mk fr h) (fun k fr h => Oq (xf h o k) fun z => Q z fr h) E) E
 unfold Ce
 simp only [aQ, fK]
theorem Y8 : Wp (Cg mo fr h) Q E = Wp (mo fr h) (fun o fr h => Op (yS h o) fun z => Q z fr h) E := by
 show Wq (Cg mo fr h) Q E = Wq (mo fr h) (fun o fr h => Oq (yS h o) fun z => Q z fr h) E
 unfold Cg
 simp only [aQ, fK]
theorem Y9 : Wp (yf mo mj d fr h) U E = Wp (mo fr h) (fun o fr h => Wp (mj fr h) (fun j fr h => Wp (eG o (ou j d) fr h) U E) E) E := by
 show Wq (yf mo mj d fr h) U E = Wq (mo fr h) (fun o fr h => Wq (mj fr h) (fun j fr h => Wq (eG o (ou j d) fr h) U E) E) E
 unfold yf
 simp only [aQ]
theorem NZ : Wp (yD mo m fr h) L E = Wp (m fr h) (fun d fr h => Wp (mo fr h) (fun o fr h => Wp (eG o (Hf d) fr h) (fun _ fr h => L .nx fr h) E) E) E := by
 show Wq (yD mo m fr h) L E = Wq (m fr h) (fun d fr h => Wq (mo fr h) (fun o fr h => Wq (eG o (Hf d) fr h) (fun _ fr h => L .nx fr h) E) E) E
 unfold yD
 simp only [aQ, eY]
theorem Q5 {G : (Hh → Prop) × List D → Fr → Hh → Prop} : Wp (Ci mo m fr h) G E = Wp (mo fr h) (fun d fr h => Wp (m fr h) (fun e fr h => Op (DQ h d e) fun x => G x fr h) E) E := by
 show Wq (Ci mo m fr h) G E = Wq (mo fr h) (fun d fr h => Wq (m fr h) (fun e fr h => Oq (DQ h d e) fun x => G x fr h) E) E
 unfold Ci
 rw [aQ]
 congr 1
 funext d fr h
 rw [aQ]
 congr 1
 funext e fr h
 rw [fK]
theorem Za {n n2 : Nat} {l m : List D} (e : h[n]? = some (.nl l)) (e2 : h[n2]? = some (.nl m)) : DQ h (.ref n) (.ref n2) = some (fun h' => h'[n]? = some (.nl l) ∧ h'[n2]? = some (.nl m), iZ l m) := by
 unfold DQ
 rw [NT e, NT e2]
end
section
variable {Q : D → Fr → Hh → Prop} {E : aN → Fr → Hh → Prop} {fr : Fr} {h : Hh} {c : Hh → Prop} {vs : List Nat} {g : D → M Unit} {t : M Bool} {e : M D}
theorem Xf {li : M ((Hh → Prop) × List D)} : Wp (JM vs li g t e fr h) Q E = Wp (li fr h) (fun x fr h => x.2.length ≤ big ∧ Bx (dO fr vs) fun fr => Wp (jc x.1 vs g t e x.2 fr h) (fun r fr h => Q (.nl r) fr h) E) E := by
 show Wq (JM vs li g t e fr h) Q E = Wq (li fr h) (fun x fr h => x.2.length ≤ big ∧ Bq (dO fr vs) fun fr => Wq (jc x.1 vs g t e x.2 fr h) (fun r fr h => Q (.nl r) fr h) E) E
 unfold JM Dm Bq; rw [aQ]
 congr 1
 funext ds fr h
 rw [aQ, tD]
 split
 · rename_i hb; rw [aQ]; simp only [eY, hb, true_and]
 · rename_i hb; rw [fK, ql]; simp only [hb, false_and]
theorem Zb (hc : c h) : jc c vs g t e [] fr h = .ok [] fr h := by unfold jc; rw [if_pos hc]
theorem Xg {d : D} {ds : List D} {o : Option D} {r : List D} {fr1 fr2 : Fr} {h1 h2 : Hh} (hc : c h) (e1 : dM vs g t e d fr h = .ok o fr1 h1) (e2 : jc c vs g t e ds fr1 h1 = .ok r fr2 h2) : jc c vs g t e (d :: ds) fr h = .ok (qb o r) fr2 h2 := by
 rw [jc]
 dsimp only
 rw [if_pos hc, M.bind_ok e1, M.bind_ok e2]
 rfl
theorem Q6 {α : Type} {F G : α → D} (hc : c h) : ∀ {xs : List α}, (∀ a ∈ xs, dM vs g t e (F a) fr h = .ok (some (G a)) fr h) → jc c vs g t e (xs.map F) fr h = .ok (xs.map G) fr h
 | [], _ => Zb hc
 | a :: xs, hh => by
   rw [aiN, aiN]
   exact Xg hc (hh a aiX) (Q6 hc fun b hb => hh b (ai2 _ hb))
end
end Pk
namespace L
open PySem PySem.Spec L2 Pk GenP
noncomputable section
def fld : Nat → List Str
 | 0 => ["grid", "outside", "basis", "scale"]
 | _ => []
abbrev T (K : PySem.W.Frag) : Tb := Tbo cn fld K
def cQ : Nat → Option Nat := fun c => aiU c [(0, 0)]
def dH : Nat → Option Nat := fun c => aiU c [(0, 1)]
def gh : Nat → Option Nat := fun c => aiU c [(0, 2)]
def jx : Nat → Option Nat := fun c => aiU c [(0, 3)]
def oN : Tg → Tg → Option Bool := abN []
def afE : Tg → Tg → Option Bool := ad4 []
def qu : M Fl :=
    (aA (bu 3 (yL (aq cGe (aC Jx (aa 2)) (aq Jw (mC (.int 10)) (mC (.int 18)))) (aC Jx (aa 2)) (mC (.int 0))))
    (cH (dD [(aa 3), (bG (aq dZ (bG (aq dZ (aq Gk (aC o8 (aa 2)) (mC (.int 2147483629))) (aq ph (mC (.int 15485863)) (aa 1)))) (mC (.int 7919)))), (mC (.int 0))])))
def qH : M Fl :=
    (aA (bu 2 (yL (aq xQ (aa 1) (aC bO (aM 0))) (cZ 0 (aa 1) aP) (mC (.int 0))))
    qu)
def jZ : Fn := dW 4 qH
def wg : M Fl :=
    (aA (bu 3 (aq Gk (aC o8 (aq Jw (bG (aq dZ (aa 3) (aq ph (mC (.int 49979687)) (cZ 0 (mC (.int 2)) aP)))) (mC (.int 2)))) (mC (.int 2305843009213693951))))
    (cH (aq Gk (aC o8 (aq Jv (aa 3) (mC (.int 4096)))) (aa 1))))
def wj : M Fl :=
    (aA (bu 3 (aq Gk (aC o8 (aq Jw (bG (aq dZ (cZ 0 (mC (.int 1)) aP) (aq ph (mC (.int 32452843)) (cZ 0 (mC (.int 2)) aP)))) (mC (.int 3)))) (mC (.int 2305843009213693921))))
    wg)
def wk : M Fl :=
    (aA (o9 0 (bG (aq dZ (cZ 0 (mC (.int 2)) aP) (mC (.int 1)))) (mC (.int 2)))
    wj)
def wG : M Fl :=
    (aA (eO (aq uI (cZ 0 (mC (.int 0)) aP) (mC (.int 0)))
    (aA (bu 2 (aq Gk (aC o8 (cZ 0 (mC (.int 0)) aP)) (aa 1)))
    (aA (o9 0 (aq Jv (cZ 0 (mC (.int 0)) aP) (aa 1)) (mC (.int 0)))
    (cH (tO 2))))
    (M.ret .nx))
    wk)
def cG : Fn := dW 4 wG
def ux : M Fl :=
    (cH (cZ 1 (bG (bR 2 0 cG (bh []) (ak [(aa 0), (aC bO (aM 1))]) (ak []))) aP))
def fG : Fn := dW 2 ux
def nH : D → M Unit :=
    (aY 3)
def nJ : M Bool :=
    (M.ret true)
def nM : M D :=
    (aq (fun h x y => (gU h x y).map .bl) (bG (bR 2 0 cG (bh []) (ak [(aa 0), (mC (.int 2))]) (ak []))) (mC (.int 1)))
def qw : M Fl :=
    (aA (o9 2 (mC (.bl true)) (bG (bR 2 0 cG (bh []) (ak [(aa 0), (aa 1)]) (ak []))))
    (cH (aC yM (aM 2))))
def qI : M Fl :=
    (aA (bu 2 (lM [3] (iJ (aa 1)) nH nJ nM))
    qw)
def oF : Fn := dW 4 qI
def jm : D → M Unit :=
    (dN 2 (aX (aY 4) (aX (aY 5) dY)))
def jn : M Bool :=
    (M.ret true)
def jo : M D :=
    (oh (aq dZ (aa 4) (bG (dD [(aa 5)]))))
def fO : D → M Unit :=
    (aY 6)
def fP : M Bool :=
    (M.ret true)
def fQ : M D :=
    (aC (fun _ => dG) (aa 6))
def fU : D → M Unit :=
    (aY 7)
def fV : M Bool :=
    (M.ret true)
def fW : M D :=
    (bG (aq dZ (aC bO (aM 3)) (aa 7)))
def kY : M Fl :=
    (aA (lW 0 gh (oh (lM [7] (iJ (aC bO (aM 1))) fU fV fW)))
    (lW 0 jx (mC (.int 1))))
def kZ : M Fl :=
    (aA (lW 0 dH (oh (BV (aC bO (aM 3)))))
    kY)
def lg : M Fl :=
    (aA (ni (Ie (aC (bL cQ) (aM 0)) (oh (aq dZ (bG (lM [6] (wV (aa 3)) fO fP fQ)) (bG (dD [(mC (.int 0))]))))))
    kZ)
def j9 : M Fl :=
    (aA (lW 0 cQ (oh (lM [4, 5] (MF (aa 1) (aa 2)) jm jn jo)))
    lg)
def gj : Fn := dW 8 j9
def dR : M Fl :=
    (HY [1, 2] (ak [(aa 2), (aq Gk (aa 1) (aa 2))]))
def qW : M Fl :=
    (iK (aq uI (aa 2) (mC (.int 0))) dR 100000)
def qX : M Fl :=
    (aA (jN (wV (aa 0)) (aY 2) qW)
    (cH (aq zH (aa 1) (mC (.int 1)))))
def nO : M Fl :=
    (aA (bu 1 (mC (.int 0)))
    qX)
def jy : Fn := dW 3 nO
def pJ : D → M Unit :=
    (aY 2)
def pK : M Bool :=
    (M.ret true)
def pM : M D :=
    (aq Jv (aa 2) (aa 1))
def tE : M Fl :=
    (aA (bu 1 (bR 1 0 jy (bh []) (ak [(aa 0)]) (ak [])))
    (cH (aC yM (lM [2] (wV (aa 0)) pJ pK pM))))
def lu : Fn := dW 3 tE
def lA : M Fl :=
    (eO (m7 (aq xQ (aq aP (aq aP (aC (bL cQ) (aM 0)) (aC (fun _ => dG) (mC (.int 1)))) (aa 2)) (mC (.int 0))) (rE (aq zG (aa 1) (mC .non)) (aq xQ (aa 3) (aq aP (aC (bL dH) (aM 0)) (aa 1)))))
    (bu 1 (aa 2))
    (M.ret .nx))
def oZ : M Fl :=
    (aA (qD (rP (aC (bL dH) (aM 0))) (dN 2 (aX (aY 2) (aX (aY 3) dY))) lA)
    (cH (tO 1)))
def kh : M Fl :=
    (aA (bu 1 (mC .non))
    oZ)
def gq : Fn := dW 4 kh
def eQ : D → M Unit :=
    (dN 2 (aX (aY 9) (aX (aY 10) dY)))
def eU : M Bool :=
    (M.ret true)
def eV : M D :=
    (aq Jv (aq Ju (aq ph (aa 9) (aa 4)) (aq ph (aa 7) (aa 10))) (aC (bL jx) (aM 0)))
def lB : M Fl :=
    (aA (eO (aq gU (aa 5) (aM 1))
    (M.ret .ct)
    (M.ret .nx))
    (aA (bu 7 (cZ 6 (aa 2) aP))
    (aA (eO (m7 (aq gU (aa 7) (mC (.int 0))) (aq gU (aa 4) (aC (bL jx) (aM 0))))
    (M.ret .ct)
    (M.ret .nx))
    (aA (bu 8 (JM [9, 10] (Ci (aa 6) (aa 3)) eQ eU eV))
    (aA (o9 8 (aC (fun _ => dG) (aa 7)) (aa 2))
    (yD (aa 6) (aa 8)))))))
def lD : M Fl :=
    (aA (lW 0 jx (aa 4))
    (Gu (Aa [(aq aP (aC (bL dH) (aM 0)) (aa 2)), (aq aP (aC (bL gh) (aM 0)) (aa 1))]) (dN 2 (aX (yf (aC (bL gh) (aM 0)) (aa 1)) (aX (yf (aC (bL dH) (aM 0)) (aa 2)) dY)))))
def lE : M Fl :=
    (aA (o9 3 (aC (bL jx) (aM 0)) (aa 2))
    lD)
def o5 : M Fl :=
    (aA (qD (rP (aC (bL cQ) (aM 0))) (dN 2 (aX (aY 5) (aX (aY 6) dY))) lB)
    lE)
def lG : M Fl :=
    (aA (bu 4 (cZ 3 (aa 2) aP))
    o5)
def km : M Fl :=
    (aA (bu 3 (aq aP (aC (bL cQ) (aM 0)) (aa 1)))
    lG)
def gA : Fn := dW 11 km
def mD : M Fl :=
    (aA (bu 5 (aq aP (aq aP (aC (bL cQ) (aM 0)) (aa 3)) (aa 1)))
    (aA (eO (aq cLe (aa 5) (mC (.int 0)))
    (M.ret .ct)
    (M.ret .nx))
    (aA (eO (aq zG (aa 2) (mC .non))
    (aA (bu 2 (aa 3))
    (M.ret .ct))
    (M.ret .nx))
    (aA (bu 6 (aq Ju (aq ph (aq aP (aq aP (aC (bL cQ) (aM 0)) (aa 3)) (aC (fun _ => dG) (mC (.int 1)))) (aq aP (aq aP (aC (bL cQ) (aM 0)) (aa 2)) (aa 1))) (aq ph (aq aP (aq aP (aC (bL cQ) (aM 0)) (aa 2)) (aC (fun _ => dG) (mC (.int 1)))) (aa 5))))
    (eO (rE (aq xQ (aa 6) (mC (.int 0))) (m7 (aq gU (aa 6) (mC (.int 0))) (aq xQ (aa 4) (aq aP (aC (bL gh) (aM 0)) (aa 2)))))
    (bu 2 (aa 3))
    (M.ret .nx))))))
def pN : M Fl :=
    (aA (qD (rP (aC (bL gh) (aM 0))) (dN 2 (aX (aY 3) (aX (aY 4) dY))) mD)
    (cH (tO 2)))
def lO : M Fl :=
    (aA (bu 2 (mC .non))
    pN)
def iT : Fn := dW 7 lO
def wH : Nat → Option Fn := fun c => aiU c [(0, gq)]
def wI : Nat → Option Fn := fun c => aiU c [(0, gA)]
def yg : Nat → Option Fn := fun c => aiU c [(0, iT)]
def oO : M Fl :=
    (aA (ni (kW 2 0 wI (bh []) (aa 0) (ak [(bG (kW 1 0 yg (bh []) (aa 0) (ak [(aa 1)]) (ak []))), (aa 1)]) (ak [])))
    (cH (mC (.bl true))))
def oR : M Fl :=
    (aA (eO (aq zG (aa 1) (mC .non))
    (cH (mC (.bl false)))
    (M.ret .nx))
    oO)
def oU : M Fl :=
    (aA (bu 1 (kW 0 0 wH (bh []) (aa 0) (ak []) (ak [])))
    oR)
def gM : Fn := dW 2 oU
def mX : M Fl :=
    (cH (yL (aq Af (aa 1) (aC (bL gh) (aM 0))) (aq aP (aq aP (aC (bL cQ) (aM 0)) (wZ (aC (bL gh) (aM 0)) (aa 1))) (aC (fun _ => dG) (mC (.int 1)))) (mC (.int 0))))
def fY : Fn := dW 2 mX
def nQ : M Fl :=
    (cH (yL (aq Af (aa 1) (aC (bL dH) (aM 0))) (aq aP (aq aP (aC (bL cQ) (aM 0)) (aC (fun _ => dG) (mC (.int 1)))) (wZ (aC (bL dH) (aM 0)) (aa 1))) (mC (.int 0))))
def iU : Fn := dW 2 nQ
def uz : Nat → Option Fn := fun c => aiU c [(0, gM)]
def Eb : Nat → Option Fn := fun c => aiU c [(0, iU)]
def zV : Nat → Option Fn := fun c => aiU c [(0, fY)]
def u6 : M Fl :=
    (ni (Ca (aa 2) (aa 4) (aa 3)))
def u9 : D → M Unit :=
    (aY 4)
def vf : M Bool :=
    (M.ret true)
def vg : M D :=
    (aC (fun _ => dG) (cZ 4 (aa 3) aP))
def vh : M Fl :=
    (ni (rZ 6 (bG (aq dZ (bG (dD [(aC o8 (aa 7))])) (bG (lM [4] (wV (aa 5)) u9 vf vg))))))
def oV : M Fl :=
    (M.ret .nx)
def vm : D → M Unit :=
    (aY 3)
def vp : M Bool :=
    (M.ret true)
def vq : M D :=
    (bG (kW 1 0 Eb (bh []) (aa 8) (ak [(bG (aq dZ (aa 9) (aa 3)))]) (ak [])))
def tG : M Fl :=
    (o9 10 (bG (kW 1 0 zV (bh []) (aa 8) (ak [(bG (aq dZ (mC (.int 1)) (aa 3)))]) (ak []))) (Ce (aa 2) (aa 4)))
def Ai : M Fl :=
    (aA (jN (qZ (aa 5)) (dN 2 (aX (aY 3) (aX (aY 4) dY))) tG)
    (cH (Aa [(mC (.str "amounts")), (bG (bR 1 0 lu (bh []) (ak [(aa 10)]) (ak [])))])))
def yh : M Fl :=
    (aA (bu 10 (aq v5 (bG (dD [(mC (.int 0))])) (aC bO (aM 0))))
    Ai)
def vz : M Fl :=
    (aA (eO (aq gU (aq aP (aq aP (aC (bL cQ) (aM 8)) (aC (fun _ => dG) (mC (.int 1)))) (aC (fun _ => dG) (mC (.int 1)))) (mC (.int 0)))
    (aA (bu 9 (aq dZ (mC (.int 1)) (aC bO (aM 5))))
    (cH (Aa [(mC (.str "weights")), (bG (bR 1 0 lu (bh []) (ak [(bG (lM [3] (iJ (aC bO (aM 1))) vm vp vq))]) (ak [])))])))
    (M.ret .nx))
    yh)
def Ec : M Fl :=
    (aA (iK (m7 (aq gU (aq aP (aq aP (aC (bL cQ) (aM 8)) (aC (fun _ => dG) (mC (.int 1)))) (aC (fun _ => dG) (mC (.int 1)))) (mC (.int 0))) (aC D.tru (kW 0 0 uz (bh []) (aa 8) (ak []) (ak [])))) oV 2147483648)
    vz)
def yj : M Fl :=
    (aA (bu 8 (BW 0 3 0 gj (bh []) (ak [(aa 6), (bG (aq dZ (bG (aq v5 (bG (dD [(mC (.int 0))])) (aC bO (aM 1)))) (bG (dD [(mC (.int 1))])))), (bG (aq dZ (bG (dD [(mC (.int 1))])) (bG (aq v5 (bG (dD [(mC (.int 0))])) (aC bO (aM 5))))))]) (ak [])))
    Ec)
def ym : M Fl :=
    (aA (ni (rZ 6 (bG (aq dZ (bG (dD [(mC (.int 0))])) (bG (aq v5 (bG (dD [(mC (.int 1))])) (aC bO (aM 5))))))))
    yj)
def Ed : M Fl :=
    (aA (jN (qZ (aa 1)) (dN 2 (aX (aY 3) (aX (aY 7) dY))) vh)
    ym)
def yo : M Fl :=
    (aA (bu 6 (dD []))
    Ed)
def yq : M Fl :=
    (aA (bu 5 (Cg (aa 2)))
    yo)
def Ef : M Fl :=
    (aA (jN (qZ (aa 0)) (dN 2 (aX (aY 3) (aX (aY 4) dY))) u6)
    yq)
def Cu : M Fl :=
    (aA (bu 2 K7)
    Ef)
def uA : Fn := dW 11 Cu
def oW : M Fl :=
    (cH (aq Ju (bG (bR 2 0 cG (bh []) (ak [(aa 0), (bG (aq dZ (aq ph (mC (.int 2)) (aa 1)) (mC (.int 1))))]) (ak []))) (aa 1)))
def mF : Fn := dW 2 oW
def mY : M Fl :=
    (cH (HW (aq (qN oN) (aa 0) (mC (.ty "int"))) (HS (aq (qN oN) (aa 0) (mC (.ty "bool"))))))
def jY : Fn := dW 1 mY
def g8 : D → M Unit :=
    (aY 9)
def ie : M Bool :=
    (rE (xH (aC D.tru (bR 1 0 jY (bh []) (ak [(cZ 4 (aa 9) aP)]) (ak [])))) (aq xQ (cZ 4 (aa 9) aP) (mC (.int 0))))
def mG : M D :=
    (aa 9)
def ig : D → M Unit :=
    (aY 9)
def il : M Bool :=
    (aq uI (cZ 4 (aa 9) aP) (mC (.int 0)))
def ir : M D :=
    (aa 9)
def iw : D → M Unit :=
    (aY 9)
def iy : M Bool :=
    (M.ret true)
def iz : M D :=
    (aq ph (aq aP (cZ 1 (aa 9) aP) (aa 6)) (cZ 4 (aa 9) aP))
def jr : M Fl :=
    (aA (bu 8 (aC zR (lM [9] (iJ (aC bO (aM 1))) iw iy iz)))
    (eO (rE (aq xQ (aa 8) (mC (.int 0))) (m7 (aC D.tru (aM 7)) (aq gU (aa 8) (mC (.int 0)))))
    (cH (mC (.bl false)))
    (M.ret .nx)))
def jF : D → M Unit :=
    (aY 9)
def jG : M Bool :=
    (m7 (aC D.tru (cZ 2 (aa 9) aP)) (aq uI (cZ 4 (aa 9) aP) (mC (.int 0))))
def jH : M D :=
    (aa 9)
def iD : D → M Unit :=
    (aY 9)
def iG : M Bool :=
    (M.ret true)
def iH : M D :=
    (aq ph (cZ 10 (aa 9) aP) (cZ 4 (aa 9) aP))
def jJ : D → M Unit :=
    (aY 10)
def jK : M Bool :=
    (aq uI (aC zR (lM [9] (iJ (aC bO (aM 2))) iD iG iH)) (mC (.int 0)))
def pO : M D :=
    (aa 10)
def mH : M Fl :=
    (aA (eO (aq gU (bG (lM [9] (iJ (aC bO (aM 2))) jF jG jH)) (dD []))
    (cH (mC (.bl false)))
    (M.ret .nx))
    (cH (aq (fun h x y => (gU h x y).map .bl) (bG (DN [10] (DK (aa 1)) jJ jK pO)) (dD []))))
def jL : M Fl :=
    (aA (eO (rE (aq zF (aa 3) (mC (.str "weights"))) (aq zF (aC bO (aM 4)) (aC bO (aM 2))))
    (cH (mC (.bl false)))
    (M.ret .nx))
    mH)
def jM : M Fl :=
    (aA (eO (aq gU (aa 3) (mC (.str "amounts")))
    (aA (bu 5 (lM [9] (iJ (aC bO (aM 4))) ig il ir))
    (aA (eO (rE (aq zF (aC bO (aM 4)) (aC bO (aM 1))) (aq uI (aC bO (aM 5)) (aC bO (aM 2))))
    (cH (mC (.bl false)))
    (M.ret .nx))
    (aA (jN (qZ (aa 2)) (dN 2 (aX (aY 6) (aX (aY 7) dY))) jr)
    (cH (mC (.bl true))))))
    (M.ret .nx))
    jL)
def mJ : M Fl :=
    (aA (eO (aq zF (bG (lM [9] (iJ (aC bO (aM 4))) g8 ie mG)) (dD []))
    (cH (mC (.bl false)))
    (M.ret .nx))
    jM)
def mK : M Fl :=
    (aA (Gu (aa 0) (dN 2 (aX (aY 3) (aX (aY 4) dY))))
    mJ)
def lQ : M Fl :=
    (aA (eO (rE (xH (aC D.tru (aq (qN oN) (aa 0) (mC (.ty "tuple"))))) (rE (aq zF (aC bO (aM 0)) (mC (.int 2))) (xH (aC D.tru (aq (qN oN) (cZ 0 (mC (.int 1)) aP) (mC (.ty "tuple")))))))
    (cH (mC (.bl false)))
    (M.ret .nx))
    mK)
def fH : Fn := dW 11 lQ
def yW : M Fl :=
    (aA (bu 10 (bR 2 0 mF (bh []) (ak [(aa 2), (aa 4)]) (ak [])))
    (ni (rZ 8 (yL (m7 (aq uI (aa 5) (mC (.int 0))) (aq xQ (bG (bR 2 0 cG (bh []) (ak [(aa 2), (mC (.int 3))]) (ak []))) (aa 5))) (mC (.int 0)) (aa 10)))))
def yX : D → M Unit :=
    (aY 10)
def yZ : M Bool :=
    (M.ret true)
def za : M D :=
    (aq ph (aa 11) (aa 10))
def Aj : M Fl :=
    (aA (eO (m7 (aq G9 (aa 6) (dD [])) (aq gU (bG (bR 2 0 cG (bh []) (ak [(aa 2), (mC (.int 6))]) (ak []))) (mC (.int 0))))
    (aA (bu 11 (bR 2 0 fG (bh []) (ak [(aa 2), (bG (dD [(mC (.int 1)), (aC (fun _ => dG) (mC (.int 1))), (mC (.int 2)), (aC (fun _ => dG) (mC (.int 3)))]))]) (ak [])))
    (bu 8 (lM [10] (wV (bG (bR 2 0 fG (bh []) (ak [(aa 2), (aa 6)]) (ak [])))) yX yZ za)))
    (M.ret .nx))
    (ni (rZ 6 (aC Ir (aM 8)))))
def Ak : M Fl :=
    (aA (jN (iJ (aa 3)) (aY 9) yW)
    Aj)
def wu : M Fl :=
    (aA (bu 8 (dD []))
    Ak)
def wJ : M Fl :=
    (aA (bu 14 (bR 2 0 uA (bh []) (ak [(aa 13), (aa 12)]) (ak [])))
    (eO (rE (aq Qy (aa 13) (aa 6)) (xH (aC D.tru (bR 3 0 fH (bh []) (ak [(aa 14), (aa 6), (aa 12)]) (ak [])))))
    (cH (mC (.bl false)))
    (M.ret .nx)))
def wL : M Fl :=
    (aA (bu 13 (aC Kw (aM 6)))
    wJ)
def tH : M Fl :=
    (aA (bu 12 (bR 2 0 oF (bh []) (ak [(aa 2), (aa 3)]) (ak [])))
    wL)
def Ao : M Fl :=
    (aA (jN (iJ (bG (bR 2 0 cG (bh []) (ak [(aa 2), (bG (bR 2 0 fG (bh []) (ak [(aa 2), (bG (dD [(mC (.int 3)), (mC (.int 8)), (mC (.int 20))]))]) (ak [])))]) (ak [])))) (aY 7) wu)
    tH)
def wM : M Fl :=
    (aA (bu 6 (oh (dD [])))
    Ao)
def wN : M Fl :=
    (aA (bu 5 (bR 2 0 cG (bh []) (ak [(aa 2), (mC (.int 3))]) (ak [])))
    wM)
def wO : M Fl :=
    (aA (bu 4 (bR 2 0 fG (bh []) (ak [(aa 2), (bG (dD [(mC (.int 1)), (mC (.int 1)), (mC (.int 2)), (mC (.int 5)), (mC (.int 1000)), (aq Jw (mC (.int 10)) (mC (.int 30)))]))]) (ak [])))
    wN)
def wQ : M Fl :=
    (aA (bu 3 (aq dZ (mC (.int 1)) (bG (bR 2 0 cG (bh []) (ak [(aa 2), (bG (bR 2 0 fG (bh []) (ak [(aa 2), (bG (dD [(mC (.int 2)), (mC (.int 4)), (mC (.int 8))]))]) (ak [])))]) (ak [])))))
    wO)
def zW : M Fl :=
    (aA (bu 2 (oh (bR 2 0 jZ (bh []) (ak [(aa 0), (aa 1)]) (ak []))))
    wQ)
def Vf : M Fl :=
    (aA (jN (iJ (aq zH (mC (.int 1)) (aq Ky (mC (.int 12)) (aC bO (aM 0))))) (aY 1) zW)
    (cH (mC (.bl true))))
def Vg : Fn := dW 15 Vf
end
end L
namespace L
open PySem PySem.Spec L2 Pk GenP
section
variable {P : Program} {w : World} {K : PySem.W.Frag} {mg : Str → Option Value} {base : Heap}
theorem jU (c : bT K) (Y : K.In base) (G : base.Ns mainGlobals mg) : mg "_law_draw" = some (.ref (He.ga K "_law_draw")) := He.glo_ok Y G (c.fact 3 (f := .he (.glo "_law_draw")) rfl)
theorem Je (c : bT K) (Y : K.In base) (G : base.Ns mainGlobals mg) : mg "common_divisor" = some (.ref (He.ga K "common_divisor")) := He.glo_ok Y G (c.fact 9 (f := .he (.glo "common_divisor")) rfl)
theorem Vh (c : bT K) (Y : K.In base) (G : base.Ns mainGlobals mg) : mg "Tableau" = some (.ref (He.ga K "Tableau")) := He.glo_ok Y G (c.fact 11 (f := .he (.glo "Tableau")) rfl)
theorem Hk (c : bT K) (Y : K.In base) (G : base.Ns mainGlobals mg) : mg "shortened" = some (.ref (He.ga K "shortened")) := He.glo_ok Y G (c.fact 12 (f := .he (.glo "shortened")) rfl)
theorem Hl (c : bT K) (Y : K.In base) (G : base.Ns mainGlobals mg) : mg "_law_is_integer" = some (.ref (He.ga K "_law_is_integer")) := He.glo_ok Y G (c.fact 15 (f := .he (.glo "_law_is_integer")) rfl)
theorem MT (c : bT K) (Y : K.In base) (G : base.Ns mainGlobals mg) : mg "_law_source" = some (.ref (He.ga K "_law_source")) := He.glo_ok Y G (c.fact 18 (f := .he (.glo "_law_source")) rfl)
theorem vC (c : bT K) (Y : K.In base) (G : base.Ns mainGlobals mg) : mg "_law_of" = some (.ref (He.ga K "_law_of")) := He.glo_ok Y G (c.fact 19 (f := .he (.glo "_law_of")) rfl)
theorem JR (c : bT K) (Y : K.In base) (G : base.Ns mainGlobals mg) : mg "_law_entry_of" = some (.ref (He.ga K "_law_entry_of")) := He.glo_ok Y G (c.fact 20 (f := .he (.glo "_law_entry_of")) rfl)
theorem M3 (c : bT K) (Y : K.In base) (G : base.Ns mainGlobals mg) : mg "_law_strict" = some (.ref (He.ga K "_law_strict")) := He.glo_ok Y G (c.fact 21 (f := .he (.glo "_law_strict")) rfl)
theorem Zd (c : bT K) (Y : K.In base) (G : base.Ns mainGlobals mg) : mg "solve" = some (.ref (He.ga K "solve")) := He.glo_ok Y G (c.fact 22 (f := .he (.glo "solve")) rfl)
theorem Fv (c : bT K) (Y : K.In base) (G : base.Ns mainGlobals mg) : mg "_law_is_solution" = some (.ref (He.ga K "_law_is_solution")) := He.glo_ok Y G (c.fact 23 (f := .he (.glo "_law_is_solution")) rfl)
theorem gQ (c : bT K) (Y : K.In base) (G : base.Ns mainGlobals mg) : mg "len" = none := He.free_ok Y G (c.fact 0 (f := .he (.free "len")) rfl)
theorem Xh (c : bT K) (Y : K.In base) (G : base.Ns mainGlobals mg) : mg "abs" = none := He.free_ok Y G (c.fact 1 (f := .he (.free "abs")) rfl)
theorem zb (c : bT K) (Y : K.In base) (G : base.Ns mainGlobals mg) : mg "int" = none := He.free_ok Y G (c.fact 2 (f := .he (.free "int")) rfl)
theorem mQ (c : bT K) (Y : K.In base) (G : base.Ns mainGlobals mg) : mg "range" = none := He.free_ok Y G (c.fact 4 (f := .he (.free "range")) rfl)
theorem zf (c : bT K) (Y : K.In base) (G : base.Ns mainGlobals mg) : mg "tuple" = none := He.free_ok Y G (c.fact 5 (f := .he (.free "tuple")) rfl)
theorem Xi (c : bT K) (Y : K.In base) (G : base.Ns mainGlobals mg) : mg "zip" = none := He.free_ok Y G (c.fact 6 (f := .he (.free "zip")) rfl)
theorem M4 (c : bT K) (Y : K.In base) (G : base.Ns mainGlobals mg) : mg "list" = none := He.free_ok Y G (c.fact 7 (f := .he (.free "list")) rfl)
theorem Xj (c : bT K) (Y : K.In base) (G : base.Ns mainGlobals mg) : mg "max" = none := He.free_ok Y G (c.fact 8 (f := .he (.free "max")) rfl)
theorem nR (c : bT K) (Y : K.In base) (G : base.Ns mainGlobals mg) : mg "enumerate" = none := He.free_ok Y G (c.fact 10 (f := .he (.free "enumerate")) rfl)
theorem tU (c : bT K) (Y : K.In base) (G : base.Ns mainGlobals mg) : mg "isinstance" = none := He.free_ok Y G (c.fact 13 (f := .he (.free "isinstance")) rfl)
theorem abb (c : bT K) (Y : K.In base) (G : base.Ns mainGlobals mg) : mg "bool" = none := He.free_ok Y G (c.fact 14 (f := .he (.free "bool")) rfl)
theorem Xk (c : bT K) (Y : K.In base) (G : base.Ns mainGlobals mg) : mg "sum" = none := He.free_ok Y G (c.fact 16 (f := .he (.free "sum")) rfl)
theorem acP (c : bT K) (Y : K.In base) (G : base.Ns mainGlobals mg) : mg "min" = none := He.free_ok Y G (c.fact 17 (f := .he (.free "min")) rfl)
theorem nA (c : bT K) {X : Cx} (hK : X.K = K) : Mj X (T K) "grid" cQ := by
 subst hK
 exact ⟨iQ (Q := fun c _ => Cls X.K ((T X.K).cad c)) (.cons (He.cls_ok (c.fact 24 (f := .he (.cls "Tableau")) rfl)) .nil),
  iQ (Q := fun c _ => NoAttr X.K ((T X.K).cad c) "grid") (.cons (He.noat_ok (c.fact 25 (f := .he (.noat "Tableau" "grid")) rfl)) .nil),
  iQ (Q := fun c _ => ((T X.K).fld c).Nodup ∧ ((T X.K).fld c).length < 1000) (.cons ⟨(by show (fld 0).Nodup; decide +kernel), (by show (fld 0).length < 1000; decide)⟩ .nil),
  iQ (Q := fun (c i : Nat) => ((T X.K).fld c)[i]? = some (("grid" : Str))) (.cons rfl .nil)⟩
theorem qC (c : bT K) {X : Cx} (hK : X.K = K) : Mj X (T K) "outside" dH := by
 subst hK
 exact ⟨iQ (Q := fun c _ => Cls X.K ((T X.K).cad c)) (.cons (He.cls_ok (c.fact 24 (f := .he (.cls "Tableau")) rfl)) .nil),
  iQ (Q := fun c _ => NoAttr X.K ((T X.K).cad c) "outside") (.cons (He.noat_ok (c.fact 26 (f := .he (.noat "Tableau" "outside")) rfl)) .nil),
  iQ (Q := fun c _ => ((T X.K).fld c).Nodup ∧ ((T X.K).fld c).length < 1000) (.cons ⟨(by show (fld 0).Nodup; decide +kernel), (by show (fld 0).length < 1000; decide)⟩ .nil),
  iQ (Q := fun (c i : Nat) => ((T X.K).fld c)[i]? = some (("outside" : Str))) (.cons rfl .nil)⟩
theorem tZ (c : bT K) {X : Cx} (hK : X.K = K) : Mj X (T K) "basis" gh := by
 subst hK
 exact ⟨iQ (Q := fun c _ => Cls X.K ((T X.K).cad c)) (.cons (He.cls_ok (c.fact 24 (f := .he (.cls "Tableau")) rfl)) .nil),
  iQ (Q := fun c _ => NoAttr X.K ((T X.K).cad c) "basis") (.cons (He.noat_ok (c.fact 27 (f := .he (.noat "Tableau" "basis")) rfl)) .nil),
  iQ (Q := fun c _ => ((T X.K).fld c).Nodup ∧ ((T X.K).fld c).length < 1000) (.cons ⟨(by show (fld 0).Nodup; decide +kernel), (by show (fld 0).length < 1000; decide)⟩ .nil),
  iQ (Q := fun (c i : Nat) => ((T X.K).fld c)[i]? = some (("basis" : Str))) (.cons rfl .nil)⟩
theorem zg (c : bT K) {X : Cx} (hK : X.K = K) : Mj X (T K) "scale" jx := by
 subst hK
 exact ⟨iQ (Q := fun c _ => Cls X.K ((T X.K).cad c)) (.cons (He.cls_ok (c.fact 24 (f := .he (.cls "Tableau")) rfl)) .nil),
  iQ (Q := fun c _ => NoAttr X.K ((T X.K).cad c) "scale") (.cons (He.noat_ok (c.fact 28 (f := .he (.noat "Tableau" "scale")) rfl)) .nil),
  iQ (Q := fun c _ => ((T X.K).fld c).Nodup ∧ ((T X.K).fld c).length < 1000) (.cons ⟨(by show (fld 0).Nodup; decide +kernel), (by show (fld 0).length < 1000; decide)⟩ .nil),
  iQ (Q := fun (c i : Nat) => ((T X.K).fld c)[i]? = some (("scale" : Str))) (.cons rfl .nil)⟩
theorem G6 (c : bT K) : Mp K (T K) oN := abO .nil
theorem JS (c : bT K) (Y : K.In base) (G : base.Ns mainGlobals mg) : Does P w K mg base (T K) 0 EY "_law_source" (defScope oA) (defBody oA) qH := by
 intro f cdv A outer s H E C
 exact (aO (jk C 2 (s_if (cV cmp_lt (aj 1) (gJ (bF 0) (gQ c Y G))) (fJ 0 (aj 1)) aJ))
  (aO (jk C 3 (s_if (cV cmp_ge (V9 (aj 2) (Xh c Y G)) (Ku aJ aJ)) (V9 (aj 2) (Xh c Y G)) aJ))
  (bK (s_ret (iW (aG (aj 3) (aG (cA (lK (cA (lK (BJ (yw (aj 2) (zb c Y G)) aJ) (rC aJ (aj 1)))) aJ)) (aG aJ bH))))))))
theorem M5 (c : bT K) (Y : K.In base) (G : base.Ns mainGlobals mg) : ∃ fd : FuncData, nu P w K mg base (T K) 1 (xM.adr K) fd xK jZ ∧ Bn K (T K) fd xK 2 [] (bh []) := by
 obtain ⟨fd, F⟩ := c.def_ 0 (d := xM) rfl
 exact ⟨fd, ⟨fn_sim F Ms (JS c Y G), F.kp⟩, (mW (FunD.bindsN F fun _ _ _ _ _ _ us hl => match us, hl with | [_, _], _ => (by kernel_rfl)))⟩
theorem M6 (c : bT K) (Y : K.In base) (G : base.Ns mainGlobals mg) : Does P w K mg base (T K) 0 Jk "_law_draw" (defScope qK) (defBody qK) wG := by
 intro f cdv A outer s H E C
 exact (aO (nZ (cV cmp_gt (fJ 0 aJ) aJ)
  (aO (jk C 2 (BJ (yw (fJ 0 aJ) (zb c Y G)) (aj 1)))
  (aO (BP 0 (Ks (fJ 0 aJ) (aj 1)) aJ)
  (bK (s_ret (Ma 2)))))
  j7)
  (aO (BP 0 (cA (lK (fJ 0 aJ) aJ)) aJ)
  (aO (jk C 3 (BJ (yw (Ku (cA (lK (fJ 0 aJ) (rC aJ (fJ 0 aJ)))) aJ) (zb c Y G)) aJ))
  (aO (jk C 3 (BJ (yw (Ku (cA (lK (aj 3) (rC aJ (fJ 0 aJ)))) aJ) (zb c Y G)) aJ))
  (bK (s_ret (jt (BJ (yw (Ks (aj 3) aJ) (zb c Y G)) (aj 1)))))))))
theorem vD (c : bT K) (Y : K.In base) (G : base.Ns mainGlobals mg) : ∃ fd : FuncData, nu P w K mg base (T K) 1 (Ac.adr K) fd Ab cG ∧ Bn K (T K) fd Ab 2 [] (bh []) := by
 obtain ⟨fd, F⟩ := c.def_ 1 (d := Ac) rfl
 exact ⟨fd, ⟨fn_sim F Qe (M6 c Y G), F.kp⟩, (mW (FunD.bindsN F fun _ _ _ _ _ _ us hl => match us, hl with | [_, _], _ => (by kernel_rfl)))⟩
theorem Q7 (c : bT K) (Y : K.In base) (G : base.Ns mainGlobals mg) : Does P w K mg base (T K) 1 Ny "_law_of" (defScope uf) (defBody uf) ux := by
 obtain ⟨fd__law_draw, F__law_draw, B__law_draw_0⟩ := vD (P := P) (w := w) c Y G
 intro f cdv A outer s H E C
 exact (bK (s_ret (jt (fJ 1 (cA (fj C F__law_draw (by decide) B__law_draw_0 (jU c Y G) (aG (aj 0) (aG (gJ (bF 1) (gQ c Y G)) bH))))))))
theorem Vi (c : bT K) (Y : K.In base) (G : base.Ns mainGlobals mg) : ∃ fd : FuncData, nu P w K mg base (T K) 2 (GJ.adr K) fd GF fG ∧ Bn K (T K) fd GF 2 [] (bh []) := by
 obtain ⟨fd, F⟩ := c.def_ 2 (d := GJ) rfl
 exact ⟨fd, ⟨fn_sim F UT (Q7 c Y G), F.kp⟩, (mW (FunD.bindsN F fun _ _ _ _ _ _ us hl => match us, hl with | [_, _], _ => (by kernel_rfl)))⟩
theorem JT (c : bT K) (Y : K.In base) (G : base.Ns mainGlobals mg) : Does P w K mg base (T K) 1 Fb "_law_strict" (defScope oE) (defBody oE) qI := by
 obtain ⟨fd__law_draw, F__law_draw, B__law_draw_0⟩ := vD (P := P) (w := w) c Y G
 intro f cdv A outer s H E C
 exact (aO (Mh C 2 [("_law_turn", 3)] (pA (aj 1) (mQ c Y G)) (by decide) (fun _ _ _ _ _ => (bY (Cq.blk C) 3)) (fun _ _ _ _ _ => pB) (fun _ _ _ _ _ => (V4 (cmp_eq (Cq.blk C)) (cA (fj (Cq.blk C) F__law_draw (by decide) B__law_draw_0 (jU c Y G) (aG (aj 0) (aG aJ bH)))) (nY aJ))) (blkOk_by rfl) (sw_true rfl rfl rfl rfl))
  (aO (BP 2 tQ (cA (fj C F__law_draw (by decide) B__law_draw_0 (jU c Y G) (aG (aj 0) (aG (aj 1) bH)))))
  (bK (s_ret (jt (Pn (bF 2) (zf c Y G)))))))
theorem M7 (c : bT K) (Y : K.In base) (G : base.Ns mainGlobals mg) : ∃ fd : FuncData, nu P w K mg base (T K) 2 (xP.adr K) fd xO oF ∧ Bn K (T K) fd xO 2 [] (bh []) := by
 obtain ⟨fd, F⟩ := c.def_ 3 (d := xP) rfl
 exact ⟨fd, ⟨fn_sim F Mu (JT c Y G), F.kp⟩, (mW (FunD.bindsN F fun _ _ _ _ _ _ us hl => match us, hl with | [_, _], _ => (by kernel_rfl)))⟩
theorem Aq (c : bT K) (Y : K.In base) (G : base.Ns mainGlobals mg) : Does P w K mg base (T K) 0 vL "Tableau.__init__" (defScope jf) (defBody jf) j9 := by
 intro f cdv A outer s H E C
 exact (aO (yO 0 (nA c rfl) (v4 (wD C [("row", 4), ("limit", 5)] (ab3 (aj 1) (aj 2) (Xi c Y G)) (by decide) (fun _ _ _ _ _ => (rF (Cq.blk C) (d8 (bY (Cq.blk C) 4) (d8 (bY (Cq.blk C) 5) pq)))) (fun _ _ _ _ _ => pB) (fun _ _ _ _ _ => (v4 (lK (aj 4) (cA (iW (aG (aj 5) bH)))))) (blkOk_by rfl))))
  (aO (yN (aah (eZ (nA c rfl) (bF 0)) (v4 (lK (cA (wD C [("gain", 6)] (Gr (aj 3)) (by decide) (fun _ _ _ _ _ => (bY (Cq.blk C) 6)) (fun _ _ _ _ _ => pB) (fun _ _ _ _ _ => (oH (aj 6))) (blkOk_by rfl))) (cA (iW (aG aJ bH)))))))
  (aO (yO 0 (qC c rfl) (v4 (Yc C (gJ (bF 3) (gQ c Y G)) (M4 c Y G) (mQ c Y G))))
  (aO (yO 0 (tZ c rfl) (v4 (wD C [("at", 7)] (pA (gJ (bF 1) (gQ c Y G)) (mQ c Y G)) (by decide) (fun _ _ _ _ _ => (bY (Cq.blk C) 7)) (fun _ _ _ _ _ => pB) (fun _ _ _ _ _ => (cA (lK (gJ (bF 3) (gQ c Y G)) (aj 7)))) (blkOk_by rfl))))
  (bK (yO 0 (zg c rfl) aJ))))))
theorem Eh (c : bT K) (Y : K.In base) (G : base.Ns mainGlobals mg) : ∃ fd : FuncData, FnC P w K mg base (T K) 1 0 (qP.adr K) fd qO gj ∧ BnI K (T K) fd qO 3 [] (bh []) := by
 obtain ⟨fd, F⟩ := c.def_ 4 (d := qP) rfl
 exact ⟨fd, ⟨fn_sim F Du (Aq c Y G), He.mkr_ok (c.fact 35 (f := .he (.mkr "Tableau")) rfl)⟩, (aai 3 (FunD.bindsN F fun _ _ _ _ _ _ us hl => match us, hl with | [_, _, _, _], _ => (by kernel_rfl)) rfl)⟩
theorem Fw (c : bT K) (Y : K.In base) (G : base.Ns mainGlobals mg) : Does P w K mg base (T K) 0 yQ "common_divisor" (defScope kE) (defBody kE) nO := by
 intro f cdv A outer s H E C
 exact (aO (jk C 1 aJ)
  (aO (zJ C (Gr (aj 0)) (bY C 2)
  (bK (s_while C 100000 (cV cmp_gt (aj 2) aJ)
  (bK (abE C 1 2 (Pq (jt (aj 2)) (Pq (jt (BJ (aj 1) (aj 2))) aae)))))))
  (bK (s_ret (jt (SJ C (aj 1) aJ (Xj c Y G)))))))
theorem Jf (c : bT K) (Y : K.In base) (G : base.Ns mainGlobals mg) : ∃ fd : FuncData, nu P w K mg base (T K) 1 (tW.adr K) fd tV jy ∧ Bn K (T K) fd tV 1 [] (bh []) := by
 obtain ⟨fd, F⟩ := c.def_ 5 (d := tW) rfl
 exact ⟨fd, ⟨fn_sim F Jc (Fw c Y G), F.kp⟩, (mW (FunD.bindsN F fun _ _ _ _ _ _ us hl => match us, hl with | [_], _ => (by kernel_rfl)))⟩
theorem M8 (c : bT K) (Y : K.In base) (G : base.Ns mainGlobals mg) : Does P w K mg base (T K) 1 Jl "shortened" (defScope qL) (defBody qL) tE := by
 obtain ⟨fd_common_divisor, F_common_divisor, B_common_divisor_0⟩ := Jf (P := P) (w := w) c Y G
 intro f cdv A outer s H E C
 exact (aO (pZ C 1 (fj C F_common_divisor (by decide) B_common_divisor_0 (Je c Y G) (aG (aj 0) bH)))
  (bK (s_ret (jt (Pn (sV (wD C [("value", 2)] (Gr (aj 0)) (by decide) (fun _ _ _ _ _ => (bY (Cq.blk C) 2)) (fun _ _ _ _ _ => pB) (fun _ _ _ _ _ => (Ks (aj 2) (aj 1))) (blkOk_by rfl))) (zf c Y G))))))
theorem Q8 (c : bT K) (Y : K.In base) (G : base.Ns mainGlobals mg) : ∃ fd : FuncData, nu P w K mg base (T K) 2 (Ae.adr K) fd Ad lu ∧ Bn K (T K) fd Ad 1 [] (bh []) := by
 obtain ⟨fd, F⟩ := c.def_ 6 (d := Ae) rfl
 exact ⟨fd, ⟨fn_sim F Qg (M8 c Y G), F.kp⟩, (mW (FunD.bindsN F fun _ _ _ _ _ _ us hl => match us, hl with | [_], _ => (by kernel_rfl)))⟩
theorem Ar (c : bT K) (Y : K.In base) (G : base.Ns mainGlobals mg) : Does P w K mg base (T K) 0 vM "Tableau.entering" (defScope jh) (defBody jh) kh := by
 intro f cdv A outer s H E C
 exact (aO (jk C 1 Gi)
  (aO (Qn C (JL (eZ (qC c rfl) (bF 0)) (nR c Y G)) (rF C (d8 (bY C 2) (d8 (bY C 3) pq)))
  (bK (nZ (o7 (wU (cV cmp_lt (gH (gH (eZ (nA c rfl) (bF 0)) (oH aJ)) (aj 2)) aJ) (ue (o7 (xY (cV Pg (aj 1) Gi) (wR (cV cmp_lt (aj 3) (gH (eZ (qC c rfl) (bF 0)) (aj 1)))))))))
  (bK (jk C 1 (aj 2)))
  j7)))
  (bK (s_ret (Ma 1)))))
theorem Ei (c : bT K) (Y : K.In base) (G : base.Ns mainGlobals mg) : ∃ fd : FuncData, nu P w K mg base (T K) 1 (qR.adr K) fd qQ gq ∧ Bn K (T K) fd qQ 1 [] (bh []) := by
 obtain ⟨fd, F⟩ := c.def_ 7 (d := qR) rfl
 exact ⟨fd, ⟨fn_sim F Dy (Ar c Y G), F.kp⟩, (mW (FunD.bindsN F fun _ _ _ _ _ _ us hl => match us, hl with | [_], _ => (by kernel_rfl)))⟩
theorem Av (c : bT K) (Y : K.In base) (G : base.Ns mainGlobals mg) : Does P w K mg base (T K) 0 vP "Tableau.exchange" (defScope ji) (defBody ji) km := by
 intro f cdv A outer s H E C
 exact (aO (jk C 3 (gH (eZ (nA c rfl) (bF 0)) (aj 1)))
  (aO (jk C 4 (fJ 3 (aj 2)))
  (aO (Qn C (JL (eZ (nA c rfl) (bF 0)) (nR c Y G)) (rF C (d8 (bY C 5) (d8 (bY C 6) pq)))
  (aO (nZ (cV (cmp_eq C) (aj 5) (bF 1))
  (bK KC)
  j7)
  (aO (jk C 7 (fJ 6 (aj 2)))
  (aO (nZ (o7 (wU (cV (cmp_eq C) (aj 7) (nY aJ)) (ue (cV (cmp_eq C) (aj 4) (nY (eZ (zg c rfl) (bF 0)))))))
  (bK KC)
  j7)
  (aO (Yq C 8 [("x", 9), ("y", 10)] (Yr (aj 6) (aj 3) (Xi c Y G)) (by decide) (fun _ _ _ _ _ => (rF (Cq.blk C) (d8 (bY (Cq.blk C) 9) (d8 (bY (Cq.blk C) 10) pq)))) (fun _ _ _ _ _ => pB) (fun _ _ _ _ _ => (Ks (Pa (rC (aj 9) (aj 4)) (rC (aj 7) (aj 10))) (eZ (zg c rfl) (bF 0)))) (blkOk_by rfl) (sw_true rfl rfl rfl rfl))
  (aO (BP 8 (oH (aj 7)) (aj 2))
  (bK (Yp (aj 6) (aj 8)))))))))
  (aO (BP 3 (eZ (zg c rfl) (bF 0)) (aj 2))
  (aO (yO 0 (zg c rfl) (aj 4))
  (bK (s_asg (Ph (aG (gH (eZ (qC c rfl) (bF 0)) (aj 2)) (aG (gH (eZ (tZ c rfl) (bF 0)) (aj 1)) bH))) (rF C (d8 (WR (W := acr) (eZ (tZ c rfl) (bF 0)) (aj 1)) (d8 (WR (W := acr) (eZ (qC c rfl) (bF 0)) (aj 2)) pq))))))))))
theorem Ek (c : bT K) (Y : K.In base) (G : base.Ns mainGlobals mg) : ∃ fd : FuncData, nu P w K mg base (T K) 1 (qU.adr K) fd qT gA ∧ Bn K (T K) fd qT 3 [] (bh []) := by
 obtain ⟨fd, F⟩ := c.def_ 8 (d := qU) rfl
 exact ⟨fd, ⟨fn_sim F Dz (Av c Y G), F.kp⟩, (mW (FunD.bindsN F fun _ _ _ _ _ _ us hl => match us, hl with | [_, _, _], _ => (by kernel_rfl)))⟩
theorem Cv (c : bT K) (Y : K.In base) (G : base.Ns mainGlobals mg) : Does P w K mg base (T K) 0 wX "Tableau.leaving" (defScope jB) (defBody jB) lO := by
 intro f cdv A outer s H E C
 exact (aO (jk C 2 Gi)
  (aO (Qn C (JL (eZ (tZ c rfl) (bF 0)) (nR c Y G)) (rF C (d8 (bY C 3) (d8 (bY C 4) pq)))
  (aO (jk C 5 (gH (gH (eZ (nA c rfl) (bF 0)) (aj 3)) (aj 1)))
  (aO (nZ (cV cmp_le (aj 5) aJ)
  (bK KC)
  j7)
  (aO (nZ (cV Pg (aj 2) Gi)
  (aO (jk C 2 (aj 3))
  (bK KC))
  j7)
  (aO (jk C 6 (Pa (rC (gH (gH (eZ (nA c rfl) (bF 0)) (aj 3)) (oH aJ)) (gH (gH (eZ (nA c rfl) (bF 0)) (aj 2)) (aj 1))) (rC (gH (gH (eZ (nA c rfl) (bF 0)) (aj 2)) (oH aJ)) (aj 5))))
  (bK (nZ (o7 (xY (cV cmp_lt (aj 6) aJ) (wR (o7 (wU (cV (cmp_eq C) (aj 6) (nY aJ)) (ue (cV cmp_lt (aj 4) (gH (eZ (tZ c rfl) (bF 0)) (aj 2)))))))))
  (bK (jk C 2 (aj 3)))
  j7)))))))
  (bK (s_ret (Ma 2)))))
theorem Fy (c : bT K) (Y : K.In base) (G : base.Ns mainGlobals mg) : ∃ fd : FuncData, nu P w K mg base (T K) 1 (rJ.adr K) fd rH iT ∧ Bn K (T K) fd rH 2 [] (bh []) := by
 obtain ⟨fd, F⟩ := c.def_ 9 (d := rJ) rfl
 exact ⟨fd, ⟨fn_sim F Fp (Cv c Y G), F.kp⟩, (mW (FunD.bindsN F fun _ _ _ _ _ _ us hl => match us, hl with | [_, _], _ => (by kernel_rfl)))⟩
theorem RD (c : bT K) (Y : K.In base) (G : base.Ns mainGlobals mg) {X : Cx} {k : Nat} (hk : 1 ≤ k) (hP : X.prog = P) (hw : X.w = w) (hK : X.K = K) (hm : X.mg = mg) (hb : X.base = base) : yc X (T K) k "entering" wH 0 [] (bh []) := by
 subst hP hw hK hm hb
 exact ⟨iQ (.cons (by
  obtain ⟨fd, F, B⟩ := Ei (P := X.prog) (w := X.w) c Y G
  exact ⟨_, _, fd, _, He.cls_ok (c.fact 24 (f := .he (.cls "Tableau")) rfl), He.meth_ok (c.fact 29 (f := .he (.meth "Tableau" "entering")) rfl), F, B, (by show _ ∉ fld 0; decide +kernel), Nat.le_trans (by decide) hk⟩) .nil)⟩
theorem RJ (c : bT K) (Y : K.In base) (G : base.Ns mainGlobals mg) {X : Cx} {k : Nat} (hk : 1 ≤ k) (hP : X.prog = P) (hw : X.w = w) (hK : X.K = K) (hm : X.mg = mg) (hb : X.base = base) : yc X (T K) k "exchange" wI 2 [] (bh []) := by
 subst hP hw hK hm hb
 exact ⟨iQ (.cons (by
  obtain ⟨fd, F, B⟩ := Ek (P := X.prog) (w := X.w) c Y G
  exact ⟨_, _, fd, _, He.cls_ok (c.fact 24 (f := .he (.cls "Tableau")) rfl), He.meth_ok (c.fact 30 (f := .he (.meth "Tableau" "exchange")) rfl), F, B, (by show _ ∉ fld 0; decide +kernel), Nat.le_trans (by decide) hk⟩) .nil)⟩
theorem Vj (c : bT K) (Y : K.In base) (G : base.Ns mainGlobals mg) {X : Cx} {k : Nat} (hk : 1 ≤ k) (hP : X.prog = P) (hw : X.w = w) (hK : X.K = K) (hm : X.mg = mg) (hb : X.base = base) : yc X (T K) k "leaving" yg 1 [] (bh []) := by
 subst hP hw hK hm hb
 exact ⟨iQ (.cons (by
  obtain ⟨fd, F, B⟩ := Fy (P := X.prog) (w := X.w) c Y G
  exact ⟨_, _, fd, _, He.cls_ok (c.fact 24 (f := .he (.cls "Tableau")) rfl), He.meth_ok (c.fact 31 (f := .he (.meth "Tableau" "leaving")) rfl), F, B, (by show _ ∉ fld 0; decide +kernel), Nat.le_trans (by decide) hk⟩) .nil)⟩
theorem Hm (c : bT K) (Y : K.In base) (G : base.Ns mainGlobals mg) : Does P w K mg base (T K) 1 zP "Tableau.step" (defScope lX) (defBody lX) oU := by
 intro f cdv A outer s H E C
 exact (aO (pZ C 1 (PB C (RD (P := P) c Y G (by decide) rfl rfl rfl rfl rfl) (aj 0)))
  (aO (nZ (cV Pg (aj 1) Gi)
  (bK (s_ret (jt tQ)))
  j7)
  (aO (yN (Ih C (RJ (P := P) c Y G (by decide) rfl rfl rfl rfl rfl) (aj 0) (aG (cA (Ih C (Vj (P := P) c Y G (by decide) rfl rfl rfl rfl rfl) (aj 0) (aG (aj 1) bH))) (aG (aj 1) bH))))
  (bK (s_ret (jt tQ))))))
theorem JV (c : bT K) (Y : K.In base) (G : base.Ns mainGlobals mg) : ∃ fd : FuncData, nu P w K mg base (T K) 2 (uQ.adr K) fd uP gM ∧ Bn K (T K) fd uP 1 [] (bh []) := by
 obtain ⟨fd, F⟩ := c.def_ 10 (d := uQ) rfl
 exact ⟨fd, ⟨fn_sim F JD (Hm c Y G), F.kp⟩, (mW (FunD.bindsN F fun _ _ _ _ _ _ us hl => match us, hl with | [_], _ => (by kernel_rfl)))⟩
theorem El (c : bT K) (Y : K.In base) (G : base.Ns mainGlobals mg) : Does P w K mg base (T K) 0 xT "Tableau.amount" (defScope jV) (defBody jV) mX := by
 intro f cdv A outer s H E C
 exact (bK (s_ret (jt (s_if (cV (Tn C) (aj 1) (nY (eZ (tZ c rfl) (bF 0)))) (gH (gH (eZ (nA c rfl) (bF 0)) (Qs C (eZ (tZ c rfl) (bF 0)) (aj 1))) (oH aJ)) aJ))))
theorem Hn (c : bT K) (Y : K.In base) (G : base.Ns mainGlobals mg) : ∃ fd : FuncData, nu P w K mg base (T K) 1 (sO.adr K) fd sJ fY ∧ Bn K (T K) fd sJ 2 [] (bh []) := by
 obtain ⟨fd, F⟩ := c.def_ 11 (d := sO) rfl
 exact ⟨fd, ⟨fn_sim F GP (El c Y G), F.kp⟩, (mW (FunD.bindsN F fun _ _ _ _ _ _ us hl => match us, hl with | [_, _], _ => (by kernel_rfl)))⟩
theorem FJ (c : bT K) (Y : K.In base) (G : base.Ns mainGlobals mg) : Does P w K mg base (T K) 0 yR "Tableau.price" (defScope kJ) (defBody kJ) nQ := by
 intro f cdv A outer s H E C
 exact (bK (s_ret (jt (s_if (cV (Tn C) (aj 1) (nY (eZ (qC c rfl) (bF 0)))) (gH (gH (eZ (nA c rfl) (bF 0)) (oH aJ)) (Qs C (eZ (qC c rfl) (bF 0)) (aj 1))) aJ))))
theorem Jg (c : bT K) (Y : K.In base) (G : base.Ns mainGlobals mg) : ∃ fd : FuncData, nu P w K mg base (T K) 1 (tY.adr K) fd tX iU ∧ Bn K (T K) fd tX 2 [] (bh []) := by
 obtain ⟨fd, F⟩ := c.def_ 12 (d := tY) rfl
 exact ⟨fd, ⟨fn_sim F Jd (FJ c Y G), F.kp⟩, (mW (FunD.bindsN F fun _ _ _ _ _ _ us hl => match us, hl with | [_, _], _ => (by kernel_rfl)))⟩
theorem abd (c : bT K) (Y : K.In base) (G : base.Ns mainGlobals mg) {X : Cx} {k : Nat} (hk : 2 ≤ k) (hP : X.prog = P) (hw : X.w = w) (hK : X.K = K) (hm : X.mg = mg) (hb : X.base = base) : yc X (T K) k "step" uz 0 [] (bh []) := by
 subst hP hw hK hm hb
 exact ⟨iQ (.cons (by
  obtain ⟨fd, F, B⟩ := JV (P := X.prog) (w := X.w) c Y G
  exact ⟨_, _, fd, _, He.cls_ok (c.fact 24 (f := .he (.cls "Tableau")) rfl), He.meth_ok (c.fact 32 (f := .he (.meth "Tableau" "step")) rfl), F, B, (by show _ ∉ fld 0; decide +kernel), Nat.le_trans (by decide) hk⟩) .nil)⟩
theorem Ze (c : bT K) (Y : K.In base) (G : base.Ns mainGlobals mg) {X : Cx} {k : Nat} (hk : 1 ≤ k) (hP : X.prog = P) (hw : X.w = w) (hK : X.K = K) (hm : X.mg = mg) (hb : X.base = base) : yc X (T K) k "price" Eb 1 [] (bh []) := by
 subst hP hw hK hm hb
 exact ⟨iQ (.cons (by
  obtain ⟨fd, F, B⟩ := Jg (P := X.prog) (w := X.w) c Y G
  exact ⟨_, _, fd, _, He.cls_ok (c.fact 24 (f := .he (.cls "Tableau")) rfl), He.meth_ok (c.fact 33 (f := .he (.meth "Tableau" "price")) rfl), F, B, (by show _ ∉ fld 0; decide +kernel), Nat.le_trans (by decide) hk⟩) .nil)⟩
theorem Xl (c : bT K) (Y : K.In base) (G : base.Ns mainGlobals mg) {X : Cx} {k : Nat} (hk : 1 ≤ k) (hP : X.prog = P) (hw : X.w = w) (hK : X.K = K) (hm : X.mg = mg) (hb : X.base = base) : yc X (T K) k "amount" zV 1 [] (bh []) := by
 subst hP hw hK hm hb
 exact ⟨iQ (.cons (by
  obtain ⟨fd, F, B⟩ := Hn (P := X.prog) (w := X.w) c Y G
  exact ⟨_, _, fd, _, He.cls_ok (c.fact 24 (f := .he (.cls "Tableau")) rfl), He.meth_ok (c.fact 34 (f := .he (.meth "Tableau" "amount")) rfl), F, B, (by show _ ∉ fld 0; decide +kernel), Nat.le_trans (by decide) hk⟩) .nil)⟩
theorem Vk (c : bT K) (Y : K.In base) (G : base.Ns mainGlobals mg) : Does P w K mg base (T K) 2 Td "solve" (defScope yz) (defBody yz) Cu := by
 obtain ⟨fd_Tableau____init__, F_Tableau____init__, B_Tableau____init___0⟩ := Eh (P := P) (w := w) c Y G
 obtain ⟨fd_shortened, F_shortened, B_shortened_0⟩ := Q8 (P := P) (w := w) c Y G
 intro f cdv A outer s H E C
 exact (aO (jk C 2 aaw)
  (aO (zJ C (Ik (aj 0) (nR c Y G)) (rF C (d8 (bY C 3) (d8 (bY C 4) pq)))
  (bK (yN (Yl C (aj 2) (aj 4) (aj 3)))))
  (aO (pZ C 5 (Yo C (aj 2) (M4 c Y G)))
  (aO (pZ C 6 (iW bH))
  (aO (zJ C (Ik (aj 1) (nR c Y G)) (rF C (d8 (bY C 3) (d8 (bY C 7) pq)))
  (bK (yN (Ig 6 (cA (lK (cA (iW (aG (yw (aj 7) (zb c Y G)) bH))) (cA (wD C [("column", 4)] (Gr (aj 5)) (by decide) (fun _ _ _ _ _ => (bY (Cq.blk C) 4)) (fun _ _ _ _ _ => pB) (fun _ _ _ _ _ => (oH (fJ 4 (aj 3)))) (blkOk_by rfl)))))))))
  (aO (yN (Ig 6 (cA (lK (cA (iW (aG aJ bH))) (cA (KR (cA (iW (aG aJ bH))) (gJ (bF 5) (gQ c Y G))))))))
  (aO (jk C 8 (Ye C F_Tableau____init__ (by decide) B_Tableau____init___0 (Vh c Y G) (aG (aj 6) (aG (cA (lK (cA (KR (cA (iW (aG aJ bH))) (gJ (bF 1) (gQ c Y G)))) (cA (iW (aG aJ bH))))) (aG (cA (lK (cA (iW (aG aJ bH))) (cA (KR (cA (iW (aG aJ bH))) (gJ (bF 5) (gQ c Y G)))))) bH)))))
  (aO (s_while C 2147483648 (o7 (wU (cV (cmp_eq C) (gH (gH (eZ (nA c rfl) (bF 8)) (oH aJ)) (oH aJ)) (nY aJ)) (ue (yK (sV (PB C (abd (P := P) c Y G (by decide) rfl rfl rfl rfl rfl) (aj 8)))))))
  (bK abD))
  (aO (nZ (cV (cmp_eq C) (gH (gH (eZ (nA c rfl) (bF 8)) (oH aJ)) (oH aJ)) (nY aJ))
  (aO (pZ C 9 (lK aJ (gJ (bF 5) (gQ c Y G))))
  (bK (s_ret (jt (Ph (aG Kr (aG (cA (fj C F_shortened (by decide) B_shortened_0 (Hk c Y G) (aG (cA (wD C [("at", 3)] (pA (gJ (bF 1) (gQ c Y G)) (mQ c Y G)) (by decide) (fun _ _ _ _ _ => (bY (Cq.blk C) 3)) (fun _ _ _ _ _ => pB) (fun _ _ _ _ _ => (cA (Ih (Cq.blk C) (Ze (P := P) c Y G (by decide) rfl rfl rfl rfl rfl) (aj 8) (aG (cA (lK (aj 9) (aj 3))) bH)))) (blkOk_by rfl))) bH))) bH)))))))
  j7)
  (aO (pZ C 10 (KR (cA (iW (aG aJ bH))) (gJ (bF 0) (gQ c Y G))))
  (aO (zJ C (Ik (aj 5) (nR c Y G)) (rF C (d8 (bY C 3) (d8 (bY C 4) pq)))
  (bK (BP 10 (cA (Ih C (Xl (P := P) c Y G (by decide) rfl rfl rfl rfl rfl) (aj 8) (aG (cA (lK aJ (aj 3))) bH))) (Ym C (aj 2) (aj 4)))))
  (bK (s_ret (jt (Ph (aG Kr (aG (cA (fj C F_shortened (by decide) B_shortened_0 (Hk c Y G) (aG (aj 10) bH))) bH)))))))))))))))))
theorem Zf (c : bT K) (Y : K.In base) (G : base.Ns mainGlobals mg) : ∃ fd : FuncData, nu P w K mg base (T K) 3 (Mw.adr K) fd Mv uA ∧ Bn K (T K) fd Mv 2 [] (bh []) := by
 obtain ⟨fd, F⟩ := c.def_ 13 (d := Mw) rfl
 exact ⟨fd, ⟨fn_sim F X7 (Vk c Y G), F.kp⟩, (mW (FunD.bindsN F fun _ _ _ _ _ _ us hl => match us, hl with | [_, _], _ => (by kernel_rfl)))⟩
theorem Ho (c : bT K) (Y : K.In base) (G : base.Ns mainGlobals mg) : Does P w K mg base (T K) 1 zQ "_law_entry_of" (defScope lY) (defBody lY) oW := by
 obtain ⟨fd__law_draw, F__law_draw, B__law_draw_0⟩ := vD (P := P) (w := w) c Y G
 intro f cdv A outer s H E C
 exact (bK (s_ret (jt (Pa (cA (fj C F__law_draw (by decide) B__law_draw_0 (jU c Y G) (aG (aj 0) (aG (cA (lK (rC aJ (aj 1)) aJ)) bH)))) (aj 1)))))
theorem JW (c : bT K) (Y : K.In base) (G : base.Ns mainGlobals mg) : ∃ fd : FuncData, nu P w K mg base (T K) 2 (uU.adr K) fd uR mF ∧ Bn K (T K) fd uR 2 [] (bh []) := by
 obtain ⟨fd, F⟩ := c.def_ 14 (d := uU) rfl
 exact ⟨fd, ⟨fn_sim F JF (Ho c Y G), F.kp⟩, (mW (FunD.bindsN F fun _ _ _ _ _ _ us hl => match us, hl with | [_, _], _ => (by kernel_rfl)))⟩
theorem En (c : bT K) (Y : K.In base) (G : base.Ns mainGlobals mg) : Does P w K mg base (T K) 0 xU "_law_is_integer" (defScope jW) (defBody jW) mY := by
 intro f cdv A outer s H E C
 exact (bK (s_ret (jt (abw (KH (G6 c) (aj 0) (Ou (t := "int") (zb c Y G)) (tU c Y G)) (abu (abv (KH (G6 c) (aj 0) (Ou (t := "bool") (abb c Y G)) (tU c Y G))))))))
theorem Hq (c : bT K) (Y : K.In base) (G : base.Ns mainGlobals mg) : ∃ fd : FuncData, nu P w K mg base (T K) 1 (sU.adr K) fd sS jY ∧ Bn K (T K) fd sS 1 [] (bh []) := by
 obtain ⟨fd, F⟩ := c.def_ 15 (d := sU) rfl
 exact ⟨fd, ⟨fn_sim F GZ (En c Y G), F.kp⟩, (mW (FunD.bindsN F fun _ _ _ _ _ _ us hl => match us, hl with | [_], _ => (by kernel_rfl)))⟩
theorem Cy (c : bT K) (Y : K.In base) (G : base.Ns mainGlobals mg) : Does P w K mg base (T K) 1 wY "_law_is_solution" (defScope jC) (defBody jC) lQ := by
 obtain ⟨fd__law_is_integer, F__law_is_integer, B__law_is_integer_0⟩ := Hq (P := P) (w := w) c Y G
 intro f cdv A outer s H E C
 exact (aO (nZ (o7 (xY (Kv (yK (nY (KH (G6 c) (aj 0) (Ou (t := "tuple") (zf c Y G)) (tU c Y G))))) (xY (cV (Gm C) (gJ (bF 0) (gQ c Y G)) (nY aJ)) (wR (Kv (yK (nY (KH (G6 c) (fJ 0 aJ) (Ou (t := "tuple") (zf c Y G)) (tU c Y G)))))))))
  (bK (s_ret (jt tQ)))
  j7)
  (aO (s_asg (aj 0) (rF C (d8 (bY C 3) (d8 (bY C 4) pq))))
  (aO (nZ (cV (Gm C) (cA (wD C [("_law_k", 9)] (pA (gJ (bF 4) (gQ c Y G)) (mQ c Y G)) (by decide) (fun _ _ _ _ _ => (bY (Cq.blk C) 9)) (fun _ _ _ _ _ => (Ib (o7 (xY (Kv (yK (sV (fj (Cq.blk C) F__law_is_integer (by decide) B__law_is_integer_0 (Hl c Y G) (aG (fJ 4 (aj 9)) bH))))) (wR (cV cmp_lt (fJ 4 (aj 9)) aJ)))))) (fun _ _ _ _ _ => (aj 9)) (blkOk_by rfl))) (sV (iW bH)))
  (bK (s_ret (jt tQ)))
  j7)
  (aO (nZ (cV (cmp_eq C) (aj 3) (nY Kr))
  (aO (Mh C 5 [("_law_k", 9)] (pA (gJ (bF 4) (gQ c Y G)) (mQ c Y G)) (by decide) (fun _ _ _ _ _ => (bY (Cq.blk C) 9)) (fun _ _ _ _ _ => (Ib (cV cmp_gt (fJ 4 (aj 9)) aJ))) (fun _ _ _ _ _ => (aj 9)) (blkOk_by rfl) (sw_true rfl rfl rfl rfl))
  (aO (nZ (o7 (xY (cV (Gm C) (gJ (bF 4) (gQ c Y G)) (nY (gJ (bF 1) (gQ c Y G)))) (wR (cV cmp_gt (gJ (bF 5) (gQ c Y G)) (gJ (bF 2) (gQ c Y G))))))
  (bK (s_ret (jt tQ)))
  j7)
  (aO (zJ C (Ik (aj 2) (nR c Y G)) (rF C (d8 (bY C 6) (d8 (bY C 7) pq)))
  (aO (jk C 8 (Tj C (sV (wD C [("_law_k", 9)] (pA (gJ (bF 1) (gQ c Y G)) (mQ c Y G)) (by decide) (fun _ _ _ _ _ => (bY (Cq.blk C) 9)) (fun _ _ _ _ _ => pB) (fun _ _ _ _ _ => (rC (gH (fJ 1 (aj 9)) (aj 6)) (fJ 4 (aj 9)))) (blkOk_by rfl))) (Xk c Y G)))
  (bK (nZ (o7 (xY (cV cmp_lt (aj 8) aJ) (wR (o7 (wU (yK (bF 7)) (ue (cV (cmp_eq C) (aj 8) (nY aJ))))))))
  (bK (s_ret (jt tQ)))
  j7))))
  (bK (s_ret (jt tQ))))))
  j7)
  (aO (nZ (o7 (xY (cV (Gm C) (aj 3) (nY Kr)) (wR (cV (Gm C) (gJ (bF 4) (gQ c Y G)) (nY (gJ (bF 2) (gQ c Y G)))))))
  (bK (s_ret (jt tQ)))
  j7)
  (aO (nZ (cV (cmp_eq C) (cA (wD C [("_law_k", 9)] (pA (gJ (bF 2) (gQ c Y G)) (mQ c Y G)) (by decide) (fun _ _ _ _ _ => (bY (Cq.blk C) 9)) (fun _ _ _ _ _ => (Ib (o7 (wU (yK (nY (fJ 2 (aj 9)))) (ue (cV cmp_gt (fJ 4 (aj 9)) aJ)))))) (fun _ _ _ _ _ => (aj 9)) (blkOk_by rfl))) (sV (iW bH)))
  (bK (s_ret (jt tQ)))
  j7)
  (bK (s_ret (jt (V4 (cmp_eq C) (cA (aca C [("_law_one", 10)] (ab9 (aj 1)) (by decide) (fun _ _ _ _ _ => (bY (Cq.blk C) 10)) (fun _ _ _ _ _ => (Ib (cV cmp_gt (Tj (Cq.blk C) (sV (wD (Cq.blk C) [("_law_k", 9)] (pA (gJ (bF 2) (gQ c Y G)) (mQ c Y G)) (by decide) (fun _ _ _ _ _ => (bY (Cq.blk (Cq.blk C)) 9)) (fun _ _ _ _ _ => pB) (fun _ _ _ _ _ => (rC (fJ 10 (aj 9)) (fJ 4 (aj 9)))) (blkOk_by rfl))) (Xk c Y G)) aJ))) (fun _ _ _ _ _ => (aj 10)) (blkOk_by rfl))) (sV (iW bH))))))))))))
theorem FP (c : bT K) (Y : K.In base) (G : base.Ns mainGlobals mg) : ∃ fd : FuncData, nu P w K mg base (T K) 2 (rO.adr K) fd rK fH ∧ Bn K (T K) fd rK 3 [] (bh []) := by
 obtain ⟨fd, F⟩ := c.def_ 16 (d := rO) rfl
 exact ⟨fd, ⟨fn_sim F Ft (Cy c Y G), F.kp⟩, (mW (FunD.bindsN F fun _ _ _ _ _ _ us hl => match us, hl with | [_, _, _], _ => (by kernel_rfl)))⟩
theorem Zg (c : bT K) (Y : K.In base) (G : base.Ns mainGlobals mg) : Does P w K mg base (T K) 3 ZK "law" (defScope Il) (defBody Il) Vf := by
 obtain ⟨fd__law_draw, F__law_draw, B__law_draw_0⟩ := vD (P := P) (w := w) c Y G
 obtain ⟨fd__law_entry_of, F__law_entry_of, B__law_entry_of_0⟩ := JW (P := P) (w := w) c Y G
 obtain ⟨fd__law_is_solution, F__law_is_solution, B__law_is_solution_0⟩ := FP (P := P) (w := w) c Y G
 obtain ⟨fd__law_of, F__law_of, B__law_of_0⟩ := Vi (P := P) (w := w) c Y G
 obtain ⟨fd__law_source, F__law_source, B__law_source_0⟩ := M5 (P := P) (w := w) c Y G
 obtain ⟨fd__law_strict, F__law_strict, B__law_strict_0⟩ := M7 (P := P) (w := w) c Y G
 obtain ⟨fd_solve, F_solve, B_solve_0⟩ := Zf (P := P) (w := w) c Y G
 intro f cdv A outer s H E C
 exact (aO (zJ C (pA (SJ C aJ (aad C aJ (gJ (bF 0) (gQ c Y G)) (acP c Y G)) (Xj c Y G)) (mQ c Y G)) (bY C 1)
  (aO (jk C 2 (v4 (fj C F__law_source (by decide) B__law_source_0 (MT c Y G) (aG (aj 0) (aG (aj 1) bH)))))
  (aO (pZ C 3 (lK aJ (cA (fj C F__law_draw (by decide) B__law_draw_0 (jU c Y G) (aG (aj 2) (aG (cA (fj C F__law_of (by decide) B__law_of_0 (vC c Y G) (aG (aj 2) (aG (cA (iW (aG aJ (aG aJ (aG aJ bH))))) bH)))) bH))))))
  (aO (pZ C 4 (fj C F__law_of (by decide) B__law_of_0 (vC c Y G) (aG (aj 2) (aG (cA (iW (aG aJ (aG aJ (aG aJ (aG aJ (aG aJ (aG (Ku aJ aJ) bH)))))))) bH))))
  (aO (pZ C 5 (fj C F__law_draw (by decide) B__law_draw_0 (jU c Y G) (aG (aj 2) (aG aJ bH))))
  (aO (jk C 6 (v4 (iW bH)))
  (aO (zJ C (pA (cA (fj C F__law_draw (by decide) B__law_draw_0 (jU c Y G) (aG (aj 2) (aG (cA (fj C F__law_of (by decide) B__law_of_0 (vC c Y G) (aG (aj 2) (aG (cA (iW (aG aJ (aG aJ (aG aJ bH))))) bH)))) bH)))) (mQ c Y G)) (bY C 7)
  (aO (pZ C 8 (iW bH))
  (aO (zJ C (pA (aj 3) (mQ c Y G)) (bY C 9)
  (aO (pZ C 10 (fj C F__law_entry_of (by decide) B__law_entry_of_0 (JR c Y G) (aG (aj 2) (aG (aj 4) bH))))
  (bK (yN (Ig 8 (s_if (o7 (wU (cV cmp_gt (aj 5) aJ) (ue (cV cmp_lt (cA (fj C F__law_draw (by decide) B__law_draw_0 (jU c Y G) (aG (aj 2) (aG aJ bH)))) (aj 5))))) aJ (aj 10)))))))
  (aO (nZ (o7 (wU (cV (aaA C) (aj 6) (sV (iW bH))) (ue (cV (cmp_eq C) (cA (fj C F__law_draw (by decide) B__law_draw_0 (jU c Y G) (aG (aj 2) (aG aJ bH)))) (nY aJ)))))
  (aO (pZ C 11 (fj C F__law_of (by decide) B__law_of_0 (vC c Y G) (aG (aj 2) (aG (cA (iW (aG aJ (aG (oH aJ) (aG aJ (aG (oH aJ) bH)))))) bH))))
  (bK (Mh C 8 [("_law_value", 10)] (Gr (cA (fj C F__law_of (by decide) B__law_of_0 (vC c Y G) (aG (aj 2) (aG (aj 6) bH))))) (by decide) (fun _ _ _ _ _ => (bY (Cq.blk C) 10)) (fun _ _ _ _ _ => pB) (fun _ _ _ _ _ => (rC (aj 11) (aj 10))) (blkOk_by rfl) (sw_true rfl rfl rfl rfl))))
  j7)
  (bK (yN (Ig 6 (WQ (bF 8) (zf c Y G)))))))))
  (aO (pZ C 12 (fj C F__law_strict (by decide) B__law_strict_0 (M3 c Y G) (aG (aj 2) (aG (aj 3) bH))))
  (aO (pZ C 13 (aac (bF 6) (M4 c Y G)))
  (aO (pZ C 14 (fj C F_solve (by decide) B_solve_0 (Zd c Y G) (aG (aj 13) (aG (aj 12) bH))))
  (bK (nZ (o7 (xY (cV (aay C) (aj 13) (aj 6)) (wR (Kv (yK (sV (fj C F__law_is_solution (by decide) B__law_is_solution_0 (Fv c Y G) (aG (aj 14) (aG (aj 6) (aG (aj 12) bH))))))))))
  (bK (s_ret (jt tQ)))
  j7))))))))))))
  (bK (s_ret (jt tQ))))
end
end L
namespace L
open PySem PySem.Spec L2 Pk GenP
theorem Xm {fr : Fr} {h : Hh} {Q : Fl → Fr → Hh → Prop} {E : aN → Fr → Hh → Prop} : Wp (ux fr h) Q E = Wp ((
 (cH (cZ 1 (bG (bR 2 0 cG (bh []) (ak [(aa 0), (aC bO (aM 1))]) (ak []))) aP))) fr h) Q E := congrArg (fun m => Wp (m fr h) Q E) ux.eq_1
theorem JX {d : D} {fr : Fr} {h : Hh} {Q : Unit → Fr → Hh → Prop} {E : aN → Fr → Hh → Prop} : Wp (nH d fr h) Q E = Wp ((
 (aY 3)) d fr h) Q E := congrArg (fun m => Wp (m d fr h) Q E) nH.eq_1
theorem JZ {fr : Fr} {h : Hh} {Q : Bool → Fr → Hh → Prop} {E : aN → Fr → Hh → Prop} : Wp (nJ fr h) Q E = Wp ((
 (M.ret true)) fr h) Q E := congrArg (fun m => Wp (m fr h) Q E) nJ.eq_1
theorem J5 {fr : Fr} {h : Hh} {Q : D → Fr → Hh → Prop} {E : aN → Fr → Hh → Prop} : Wp (nM fr h) Q E = Wp ((
 (aq (fun h x y => (gU h x y).map .bl) (bG (bR 2 0 cG (bh []) (ak [(aa 0), (mC (.int 2))]) (ak []))) (mC (.int 1)))) fr h) Q E := congrArg (fun m => Wp (m fr h) Q E) nM.eq_1
theorem J8 {fr : Fr} {h : Hh} {Q : Fl → Fr → Hh → Prop} {E : aN → Fr → Hh → Prop} : Wp (qw fr h) Q E = Wp ((
 (aA (o9 2 (mC (.bl true)) (bG (bR 2 0 cG (bh []) (ak [(aa 0), (aa 1)]) (ak []))))
 (cH (aC yM (aM 2))))) fr h) Q E := congrArg (fun m => Wp (m fr h) Q E) qw.eq_1
theorem Od {fr : Fr} {h : Hh} {Q : Fl → Fr → Hh → Prop} {E : aN → Fr → Hh → Prop} : Wp (qI fr h) Q E = Wp ((
 (aA (bu 2 (lM [3] (iJ (aa 1)) nH nJ nM))
 qw)) fr h) Q E := congrArg (fun m => Wp (m fr h) Q E) qI.eq_1
theorem Ax {d : D} {fr : Fr} {h : Hh} {Q : Unit → Fr → Hh → Prop} {E : aN → Fr → Hh → Prop} : Wp (jm d fr h) Q E = Wp ((
 (dN 2 (aX (aY 4) (aX (aY 5) dY)))) d fr h) Q E := congrArg (fun m => Wp (m d fr h) Q E) jm.eq_1
theorem Ay {fr : Fr} {h : Hh} {Q : Bool → Fr → Hh → Prop} {E : aN → Fr → Hh → Prop} : Wp (jn fr h) Q E = Wp ((
 (M.ret true)) fr h) Q E := congrArg (fun m => Wp (m fr h) Q E) jn.eq_1
theorem Az {fr : Fr} {h : Hh} {Q : D → Fr → Hh → Prop} {E : aN → Fr → Hh → Prop} : Wp (jo fr h) Q E = Wp ((
 (oh (aq dZ (aa 4) (bG (dD [(aa 5)]))))) fr h) Q E := congrArg (fun m => Wp (m fr h) Q E) jo.eq_1
theorem Ba {d : D} {fr : Fr} {h : Hh} {Q : Unit → Fr → Hh → Prop} {E : aN → Fr → Hh → Prop} : Wp (fO d fr h) Q E = Wp ((
 (aY 6)) d fr h) Q E := congrArg (fun m => Wp (m d fr h) Q E) fO.eq_1
theorem Bb {fr : Fr} {h : Hh} {Q : Bool → Fr → Hh → Prop} {E : aN → Fr → Hh → Prop} : Wp (fP fr h) Q E = Wp ((
 (M.ret true)) fr h) Q E := congrArg (fun m => Wp (m fr h) Q E) fP.eq_1
theorem Bc {fr : Fr} {h : Hh} {Q : D → Fr → Hh → Prop} {E : aN → Fr → Hh → Prop} : Wp (fQ fr h) Q E = Wp ((
 (aC (fun _ => dG) (aa 6))) fr h) Q E := congrArg (fun m => Wp (m fr h) Q E) fQ.eq_1
theorem Be {d : D} {fr : Fr} {h : Hh} {Q : Unit → Fr → Hh → Prop} {E : aN → Fr → Hh → Prop} : Wp (fU d fr h) Q E = Wp ((
 (aY 7)) d fr h) Q E := congrArg (fun m => Wp (m d fr h) Q E) fU.eq_1
theorem Bf {fr : Fr} {h : Hh} {Q : Bool → Fr → Hh → Prop} {E : aN → Fr → Hh → Prop} : Wp (fV fr h) Q E = Wp ((
 (M.ret true)) fr h) Q E := congrArg (fun m => Wp (m fr h) Q E) fV.eq_1
theorem Bg {fr : Fr} {h : Hh} {Q : D → Fr → Hh → Prop} {E : aN → Fr → Hh → Prop} : Wp (fW fr h) Q E = Wp ((
 (bG (aq dZ (aC bO (aM 3)) (aa 7)))) fr h) Q E := congrArg (fun m => Wp (m fr h) Q E) fW.eq_1
theorem Bh {fr : Fr} {h : Hh} {Q : Fl → Fr → Hh → Prop} {E : aN → Fr → Hh → Prop} : Wp (kY fr h) Q E = Wp ((
 (aA (lW 0 gh (oh (lM [7] (iJ (aC bO (aM 1))) fU fV fW)))
 (lW 0 jx (mC (.int 1))))) fr h) Q E := congrArg (fun m => Wp (m fr h) Q E) kY.eq_1
theorem Bj {fr : Fr} {h : Hh} {Q : Fl → Fr → Hh → Prop} {E : aN → Fr → Hh → Prop} : Wp (kZ fr h) Q E = Wp ((
 (aA (lW 0 dH (oh (BV (aC bO (aM 3)))))
 kY)) fr h) Q E := congrArg (fun m => Wp (m fr h) Q E) kZ.eq_1
theorem Bl {fr : Fr} {h : Hh} {Q : Fl → Fr → Hh → Prop} {E : aN → Fr → Hh → Prop} : Wp (lg fr h) Q E = Wp ((
 (aA (ni (Ie (aC (bL cQ) (aM 0)) (oh (aq dZ (bG (lM [6] (wV (aa 3)) fO fP fQ)) (bG (dD [(mC (.int 0))]))))))
 kZ)) fr h) Q E := congrArg (fun m => Wp (m fr h) Q E) lg.eq_1
theorem FQ {fr : Fr} {h : Hh} {Q : Fl → Fr → Hh → Prop} {E : aN → Fr → Hh → Prop} : Wp (j9 fr h) Q E = Wp ((
 (aA (lW 0 cQ (oh (lM [4, 5] (MF (aa 1) (aa 2)) jm jn jo)))
 lg)) fr h) Q E := congrArg (fun m => Wp (m fr h) Q E) j9.eq_1
theorem vR {fr : Fr} {h : Hh} {Q : Fl → Fr → Hh → Prop} {E : aN → Fr → Hh → Prop} : Wp (dR fr h) Q E = Wp ((
 (HY [1, 2] (ak [(aa 2), (aq Gk (aa 1) (aa 2))]))) fr h) Q E := congrArg (fun m => Wp (m fr h) Q E) dR.eq_1
theorem J9 {fr : Fr} {h : Hh} {Q : Fl → Fr → Hh → Prop} {E : aN → Fr → Hh → Prop} : Wp (nO fr h) Q E = Wp ((
 (aA (bu 1 (mC (.int 0)))
 qX)) fr h) Q E := congrArg (fun m => Wp (m fr h) Q E) nO.eq_1
theorem M9 {d : D} {fr : Fr} {h : Hh} {Q : Unit → Fr → Hh → Prop} {E : aN → Fr → Hh → Prop} : Wp (pJ d fr h) Q E = Wp ((
 (aY 2)) d fr h) Q E := congrArg (fun m => Wp (m d fr h) Q E) pJ.eq_1
theorem Nb {fr : Fr} {h : Hh} {Q : Bool → Fr → Hh → Prop} {E : aN → Fr → Hh → Prop} : Wp (pK fr h) Q E = Wp ((
 (M.ret true)) fr h) Q E := congrArg (fun m => Wp (m fr h) Q E) pK.eq_1
theorem Nf {fr : Fr} {h : Hh} {Q : D → Fr → Hh → Prop} {E : aN → Fr → Hh → Prop} : Wp (pM fr h) Q E = Wp ((
 (aq Jv (aa 2) (aa 1))) fr h) Q E := congrArg (fun m => Wp (m fr h) Q E) pM.eq_1
theorem RK {fr : Fr} {h : Hh} {Q : Fl → Fr → Hh → Prop} {E : aN → Fr → Hh → Prop} : Wp (tE fr h) Q E = Wp ((
 (aA (bu 1 (bR 1 0 jy (bh []) (ak [(aa 0)]) (ak [])))
 (cH (aC yM (lM [2] (wV (aa 0)) pJ pK pM))))) fr h) Q E := congrArg (fun m => Wp (m fr h) Q E) tE.eq_1
theorem lH {fr : Fr} {h : Hh} {Q : Fl → Fr → Hh → Prop} {E : aN → Fr → Hh → Prop} : Wp (lA fr h) Q E = Wp ((
 (eO (m7 (aq xQ (aq aP (aq aP (aC (bL cQ) (aM 0)) (aC (fun _ => dG) (mC (.int 1)))) (aa 2)) (mC (.int 0))) (rE (aq zG (aa 1) (mC .non)) (aq xQ (aa 3) (aq aP (aC (bL dH) (aM 0)) (aa 1)))))
 (bu 1 (aa 2))
 (M.ret .nx))) fr h) Q E := congrArg (fun m => Wp (m fr h) Q E) lA.eq_1
theorem FT {fr : Fr} {h : Hh} {Q : Fl → Fr → Hh → Prop} {E : aN → Fr → Hh → Prop} : Wp (kh fr h) Q E = Wp ((
 (aA (bu 1 (mC .non))
 oZ)) fr h) Q E := congrArg (fun m => Wp (m fr h) Q E) kh.eq_1
theorem Bm {d : D} {fr : Fr} {h : Hh} {Q : Unit → Fr → Hh → Prop} {E : aN → Fr → Hh → Prop} : Wp (eQ d fr h) Q E = Wp ((
 (dN 2 (aX (aY 9) (aX (aY 10) dY)))) d fr h) Q E := congrArg (fun m => Wp (m d fr h) Q E) eQ.eq_1
theorem Bo {fr : Fr} {h : Hh} {Q : Bool → Fr → Hh → Prop} {E : aN → Fr → Hh → Prop} : Wp (eU fr h) Q E = Wp ((
 (M.ret true)) fr h) Q E := congrArg (fun m => Wp (m fr h) Q E) eU.eq_1
theorem Bp {fr : Fr} {h : Hh} {Q : D → Fr → Hh → Prop} {E : aN → Fr → Hh → Prop} : Wp (eV fr h) Q E = Wp ((
 (aq Jv (aq Ju (aq ph (aa 9) (aa 4)) (aq ph (aa 7) (aa 10))) (aC (bL jx) (aM 0)))) fr h) Q E := congrArg (fun m => Wp (m fr h) Q E) eV.eq_1
theorem lJ {fr : Fr} {h : Hh} {Q : Fl → Fr → Hh → Prop} {E : aN → Fr → Hh → Prop} : Wp (lB fr h) Q E = Wp ((
 (aA (eO (aq gU (aa 5) (aM 1))
 (M.ret .ct)
 (M.ret .nx))
 (aA (bu 7 (cZ 6 (aa 2) aP))
 (aA (eO (m7 (aq gU (aa 7) (mC (.int 0))) (aq gU (aa 4) (aC (bL jx) (aM 0))))
 (M.ret .ct)
 (M.ret .nx))
 (aA (bu 8 (JM [9, 10] (Ci (aa 6) (aa 3)) eQ eU eV))
 (aA (o9 8 (aC (fun _ => dG) (aa 7)) (aa 2))
 (yD (aa 6) (aa 8)))))))) fr h) Q E := congrArg (fun m => Wp (m fr h) Q E) lB.eq_1
theorem Br {fr : Fr} {h : Hh} {Q : Fl → Fr → Hh → Prop} {E : aN → Fr → Hh → Prop} : Wp (lD fr h) Q E = Wp ((
 (aA (lW 0 jx (aa 4))
 (Gu (Aa [(aq aP (aC (bL dH) (aM 0)) (aa 2)), (aq aP (aC (bL gh) (aM 0)) (aa 1))]) (dN 2 (aX (yf (aC (bL gh) (aM 0)) (aa 1)) (aX (yf (aC (bL dH) (aM 0)) (aa 2)) dY)))))) fr h) Q E := congrArg (fun m => Wp (m fr h) Q E) lD.eq_1
theorem Bt {fr : Fr} {h : Hh} {Q : Fl → Fr → Hh → Prop} {E : aN → Fr → Hh → Prop} : Wp (lE fr h) Q E = Wp ((
 (aA (o9 3 (aC (bL jx) (aM 0)) (aa 2))
 lD)) fr h) Q E := congrArg (fun m => Wp (m fr h) Q E) lE.eq_1
theorem Bu {fr : Fr} {h : Hh} {Q : Fl → Fr → Hh → Prop} {E : aN → Fr → Hh → Prop} : Wp (lG fr h) Q E = Wp ((
 (aA (bu 4 (cZ 3 (aa 2) aP))
 o5)) fr h) Q E := congrArg (fun m => Wp (m fr h) Q E) lG.eq_1
theorem FW {fr : Fr} {h : Hh} {Q : Fl → Fr → Hh → Prop} {E : aN → Fr → Hh → Prop} : Wp (km fr h) Q E = Wp ((
 (aA (bu 3 (aq aP (aC (bL cQ) (aM 0)) (aa 1)))
 lG)) fr h) Q E := congrArg (fun m => Wp (m fr h) Q E) km.eq_1
theorem iI {fr : Fr} {h : Hh} {Q : Fl → Fr → Hh → Prop} {E : aN → Fr → Hh → Prop} : Wp (mD fr h) Q E = Wp ((
 (aA (bu 5 (aq aP (aq aP (aC (bL cQ) (aM 0)) (aa 3)) (aa 1)))
 (aA (eO (aq cLe (aa 5) (mC (.int 0)))
 (M.ret .ct)
 (M.ret .nx))
 (aA (eO (aq zG (aa 2) (mC .non))
 (aA (bu 2 (aa 3))
 (M.ret .ct))
 (M.ret .nx))
 (aA (bu 6 (aq Ju (aq ph (aq aP (aq aP (aC (bL cQ) (aM 0)) (aa 3)) (aC (fun _ => dG) (mC (.int 1)))) (aq aP (aq aP (aC (bL cQ) (aM 0)) (aa 2)) (aa 1))) (aq ph (aq aP (aq aP (aC (bL cQ) (aM 0)) (aa 2)) (aC (fun _ => dG) (mC (.int 1)))) (aa 5))))
 (eO (rE (aq xQ (aa 6) (mC (.int 0))) (m7 (aq gU (aa 6) (mC (.int 0))) (aq xQ (aa 4) (aq aP (aC (bL gh) (aM 0)) (aa 2)))))
 (bu 2 (aa 3))
 (M.ret .nx))))))) fr h) Q E := congrArg (fun m => Wp (m fr h) Q E) mD.eq_1
theorem Hr {fr : Fr} {h : Hh} {Q : Fl → Fr → Hh → Prop} {E : aN → Fr → Hh → Prop} : Wp (lO fr h) Q E = Wp ((
 (aA (bu 2 (mC .non))
 pN)) fr h) Q E := congrArg (fun m => Wp (m fr h) Q E) lO.eq_1
theorem Ht {fr : Fr} {h : Hh} {Q : Fl → Fr → Hh → Prop} {E : aN → Fr → Hh → Prop} : Wp (oO fr h) Q E = Wp ((
 (aA (ni (kW 2 0 wI (bh []) (aa 0) (ak [(bG (kW 1 0 yg (bh []) (aa 0) (ak [(aa 1)]) (ak []))), (aa 1)]) (ak [])))
 (cH (mC (.bl true))))) fr h) Q E := congrArg (fun m => Wp (m fr h) Q E) oO.eq_1
theorem xq {fr : Fr} {h : Hh} {Q : Fl → Fr → Hh → Prop} {E : aN → Fr → Hh → Prop} : Wp (oR fr h) Q E = Wp ((
 (aA (eO (aq zG (aa 1) (mC .non))
 (cH (mC (.bl false)))
 (M.ret .nx))
 oO)) fr h) Q E := congrArg (fun m => Wp (m fr h) Q E) oR.eq_1
theorem zX {fr : Fr} {h : Hh} {Q : Fl → Fr → Hh → Prop} {E : aN → Fr → Hh → Prop} : Wp (oU fr h) Q E = Wp ((
 (aA (bu 1 (kW 0 0 wH (bh []) (aa 0) (ak []) (ak [])))
 oR)) fr h) Q E := congrArg (fun m => Wp (m fr h) Q E) oU.eq_1
theorem xV {fr : Fr} {h : Hh} {Q : Fl → Fr → Hh → Prop} {E : aN → Fr → Hh → Prop} : Wp (mX fr h) Q E = Wp ((
 (cH (yL (aq Af (aa 1) (aC (bL gh) (aM 0))) (aq aP (aq aP (aC (bL cQ) (aM 0)) (wZ (aC (bL gh) (aM 0)) (aa 1))) (aC (fun _ => dG) (mC (.int 1)))) (mC (.int 0))))) fr h) Q E := congrArg (fun m => Wp (m fr h) Q E) mX.eq_1
theorem zj {fr : Fr} {h : Hh} {Q : Fl → Fr → Hh → Prop} {E : aN → Fr → Hh → Prop} : Wp (nQ fr h) Q E = Wp ((
 (cH (yL (aq Af (aa 1) (aC (bL dH) (aM 0))) (aq aP (aq aP (aC (bL cQ) (aM 0)) (aC (fun _ => dG) (mC (.int 1)))) (wZ (aC (bL dH) (aM 0)) (aa 1))) (mC (.int 0))))) fr h) Q E := congrArg (fun m => Wp (m fr h) Q E) nQ.eq_1
theorem Lh {fr : Fr} {h : Hh} {Q : Fl → Fr → Hh → Prop} {E : aN → Fr → Hh → Prop} : Wp (u6 fr h) Q E = Wp ((
 (ni (Ca (aa 2) (aa 4) (aa 3)))) fr h) Q E := congrArg (fun m => Wp (m fr h) Q E) u6.eq_1
theorem Vl {d : D} {fr : Fr} {h : Hh} {Q : Unit → Fr → Hh → Prop} {E : aN → Fr → Hh → Prop} : Wp (u9 d fr h) Q E = Wp ((
 (aY 4)) d fr h) Q E := congrArg (fun m => Wp (m d fr h) Q E) u9.eq_1
theorem Vm {fr : Fr} {h : Hh} {Q : Bool → Fr → Hh → Prop} {E : aN → Fr → Hh → Prop} : Wp (vf fr h) Q E = Wp ((
 (M.ret true)) fr h) Q E := congrArg (fun m => Wp (m fr h) Q E) vf.eq_1
theorem Vn {fr : Fr} {h : Hh} {Q : D → Fr → Hh → Prop} {E : aN → Fr → Hh → Prop} : Wp (vg fr h) Q E = Wp ((
 (aC (fun _ => dG) (cZ 4 (aa 3) aP))) fr h) Q E := congrArg (fun m => Wp (m fr h) Q E) vg.eq_1
theorem Lj {fr : Fr} {h : Hh} {Q : Fl → Fr → Hh → Prop} {E : aN → Fr → Hh → Prop} : Wp (vh fr h) Q E = Wp ((
 (ni (rZ 6 (bG (aq dZ (bG (dD [(aC o8 (aa 7))])) (bG (lM [4] (wV (aa 5)) u9 vf vg))))))) fr h) Q E := congrArg (fun m => Wp (m fr h) Q E) vh.eq_1
theorem Vo {fr : Fr} {h : Hh} {Q : Fl → Fr → Hh → Prop} {E : aN → Fr → Hh → Prop} : Wp (oV fr h) Q E = Wp ((
 (M.ret .nx)) fr h) Q E := congrArg (fun m => Wp (m fr h) Q E) oV.eq_1
theorem Vp {d : D} {fr : Fr} {h : Hh} {Q : Unit → Fr → Hh → Prop} {E : aN → Fr → Hh → Prop} : Wp (vm d fr h) Q E = Wp ((
 (aY 3)) d fr h) Q E := congrArg (fun m => Wp (m d fr h) Q E) vm.eq_1
theorem Vq {fr : Fr} {h : Hh} {Q : Bool → Fr → Hh → Prop} {E : aN → Fr → Hh → Prop} : Wp (vp fr h) Q E = Wp ((
 (M.ret true)) fr h) Q E := congrArg (fun m => Wp (m fr h) Q E) vp.eq_1
theorem Vr {fr : Fr} {h : Hh} {Q : D → Fr → Hh → Prop} {E : aN → Fr → Hh → Prop} : Wp (vq fr h) Q E = Wp ((
 (bG (kW 1 0 Eb (bh []) (aa 8) (ak [(bG (aq dZ (aa 9) (aa 3)))]) (ak [])))) fr h) Q E := congrArg (fun m => Wp (m fr h) Q E) vq.eq_1
theorem RN {fr : Fr} {h : Hh} {Q : Fl → Fr → Hh → Prop} {E : aN → Fr → Hh → Prop} : Wp (tG fr h) Q E = Wp ((
 (o9 10 (bG (kW 1 0 zV (bh []) (aa 8) (ak [(bG (aq dZ (mC (.int 1)) (aa 3)))]) (ak []))) (Ce (aa 2) (aa 4)))) fr h) Q E := congrArg (fun m => Wp (m fr h) Q E) tG.eq_1
theorem Vs {fr : Fr} {h : Hh} {Q : Fl → Fr → Hh → Prop} {E : aN → Fr → Hh → Prop} : Wp (yh fr h) Q E = Wp ((
 (aA (bu 10 (aq v5 (bG (dD [(mC (.int 0))])) (aC bO (aM 0))))
 Ai)) fr h) Q E := congrArg (fun m => Wp (m fr h) Q E) yh.eq_1
theorem Lk {fr : Fr} {h : Hh} {Q : Fl → Fr → Hh → Prop} {E : aN → Fr → Hh → Prop} : Wp (vz fr h) Q E = Wp ((
 (aA (eO (aq gU (aq aP (aq aP (aC (bL cQ) (aM 8)) (aC (fun _ => dG) (mC (.int 1)))) (aC (fun _ => dG) (mC (.int 1)))) (mC (.int 0)))
 (aA (bu 9 (aq dZ (mC (.int 1)) (aC bO (aM 5))))
 (cH (Aa [(mC (.str "weights")), (bG (bR 1 0 lu (bh []) (ak [(bG (lM [3] (iJ (aC bO (aM 1))) vm vp vq))]) (ak [])))])))
 (M.ret .nx))
 yh)) fr h) Q E := congrArg (fun m => Wp (m fr h) Q E) vz.eq_1
theorem Vt {fr : Fr} {h : Hh} {Q : Fl → Fr → Hh → Prop} {E : aN → Fr → Hh → Prop} : Wp (yj fr h) Q E = Wp ((
 (aA (bu 8 (BW 0 3 0 gj (bh []) (ak [(aa 6), (bG (aq dZ (bG (aq v5 (bG (dD [(mC (.int 0))])) (aC bO (aM 1)))) (bG (dD [(mC (.int 1))])))), (bG (aq dZ (bG (dD [(mC (.int 1))])) (bG (aq v5 (bG (dD [(mC (.int 0))])) (aC bO (aM 5))))))]) (ak [])))
 Ec)) fr h) Q E := congrArg (fun m => Wp (m fr h) Q E) yj.eq_1
theorem Vu {fr : Fr} {h : Hh} {Q : Fl → Fr → Hh → Prop} {E : aN → Fr → Hh → Prop} : Wp (ym fr h) Q E = Wp ((
 (aA (ni (rZ 6 (bG (aq dZ (bG (dD [(mC (.int 0))])) (bG (aq v5 (bG (dD [(mC (.int 1))])) (aC bO (aM 5))))))))
 yj)) fr h) Q E := congrArg (fun m => Wp (m fr h) Q E) ym.eq_1
theorem Vv {fr : Fr} {h : Hh} {Q : Fl → Fr → Hh → Prop} {E : aN → Fr → Hh → Prop} : Wp (yo fr h) Q E = Wp ((
 (aA (bu 6 (dD []))
 Ed)) fr h) Q E := congrArg (fun m => Wp (m fr h) Q E) yo.eq_1
theorem Vw {fr : Fr} {h : Hh} {Q : Fl → Fr → Hh → Prop} {E : aN → Fr → Hh → Prop} : Wp (yq fr h) Q E = Wp ((
 (aA (bu 5 (Cg (aa 2)))
 yo)) fr h) Q E := congrArg (fun m => Wp (m fr h) Q E) yq.eq_1
theorem abe {fr : Fr} {h : Hh} {Q : Fl → Fr → Hh → Prop} {E : aN → Fr → Hh → Prop} : Wp (Cu fr h) Q E = Wp ((
 (aA (bu 2 K7)
 Ef)) fr h) Q E := congrArg (fun m => Wp (m fr h) Q E) Cu.eq_1
theorem Ln {fr : Fr} {h : Hh} {Q : Fl → Fr → Hh → Prop} {E : aN → Fr → Hh → Prop} : Wp (oW fr h) Q E = Wp ((
 (cH (aq Ju (bG (bR 2 0 cG (bh []) (ak [(aa 0), (bG (aq dZ (aq ph (mC (.int 2)) (aa 1)) (mC (.int 1))))]) (ak []))) (aa 1)))) fr h) Q E := congrArg (fun m => Wp (m fr h) Q E) oW.eq_1
theorem Jh {fr : Fr} {h : Hh} {Q : Fl → Fr → Hh → Prop} {E : aN → Fr → Hh → Prop} : Wp (mY fr h) Q E = Wp ((
 (cH (HW (aq (qN oN) (aa 0) (mC (.ty "int"))) (HS (aq (qN oN) (aa 0) (mC (.ty "bool"))))))) fr h) Q E := congrArg (fun m => Wp (m fr h) Q E) mY.eq_1
theorem uB {d : D} {fr : Fr} {h : Hh} {Q : Unit → Fr → Hh → Prop} {E : aN → Fr → Hh → Prop} : Wp (g8 d fr h) Q E = Wp ((
 (aY 9)) d fr h) Q E := congrArg (fun m => Wp (m d fr h) Q E) g8.eq_1
theorem uC {fr : Fr} {h : Hh} {Q : Bool → Fr → Hh → Prop} {E : aN → Fr → Hh → Prop} : Wp (ie fr h) Q E = Wp ((
 (rE (xH (aC D.tru (bR 1 0 jY (bh []) (ak [(cZ 4 (aa 9) aP)]) (ak [])))) (aq xQ (cZ 4 (aa 9) aP) (mC (.int 0))))) fr h) Q E := congrArg (fun m => Wp (m fr h) Q E) ie.eq_1
theorem uD {d : D} {fr : Fr} {h : Hh} {Q : Unit → Fr → Hh → Prop} {E : aN → Fr → Hh → Prop} : Wp (ig d fr h) Q E = Wp ((
 (aY 9)) d fr h) Q E := congrArg (fun m => Wp (m d fr h) Q E) ig.eq_1
theorem uE {fr : Fr} {h : Hh} {Q : Bool → Fr → Hh → Prop} {E : aN → Fr → Hh → Prop} : Wp (il fr h) Q E = Wp ((
 (aq uI (cZ 4 (aa 9) aP) (mC (.int 0)))) fr h) Q E := congrArg (fun m => Wp (m fr h) Q E) il.eq_1
theorem Cz {fr : Fr} {h : Hh} {Q : D → Fr → Hh → Prop} {E : aN → Fr → Hh → Prop} : Wp (ir fr h) Q E = Wp ((
 (aa 9)) fr h) Q E := congrArg (fun m => Wp (m fr h) Q E) ir.eq_1
theorem CG {d : D} {fr : Fr} {h : Hh} {Q : Unit → Fr → Hh → Prop} {E : aN → Fr → Hh → Prop} : Wp (iw d fr h) Q E = Wp ((
 (aY 9)) d fr h) Q E := congrArg (fun m => Wp (m d fr h) Q E) iw.eq_1
theorem CJ {fr : Fr} {h : Hh} {Q : Bool → Fr → Hh → Prop} {E : aN → Fr → Hh → Prop} : Wp (iy fr h) Q E = Wp ((
 (M.ret true)) fr h) Q E := congrArg (fun m => Wp (m fr h) Q E) iy.eq_1
theorem CN {fr : Fr} {h : Hh} {Q : D → Fr → Hh → Prop} {E : aN → Fr → Hh → Prop} : Wp (iz fr h) Q E = Wp ((
 (aq ph (aq aP (cZ 1 (aa 9) aP) (aa 6)) (cZ 4 (aa 9) aP))) fr h) Q E := congrArg (fun m => Wp (m fr h) Q E) iz.eq_1
theorem tK {fr : Fr} {h : Hh} {Q : Fl → Fr → Hh → Prop} {E : aN → Fr → Hh → Prop} : Wp (jr fr h) Q E = Wp ((
 (aA (bu 8 (aC zR (lM [9] (iJ (aC bO (aM 1))) iw iy iz)))
 (eO (rE (aq xQ (aa 8) (mC (.int 0))) (m7 (aC D.tru (aM 7)) (aq gU (aa 8) (mC (.int 0)))))
 (cH (mC (.bl false)))
 (M.ret .nx)))) fr h) Q E := congrArg (fun m => Wp (m fr h) Q E) jr.eq_1
theorem pP {d : D} {fr : Fr} {h : Hh} {Q : Unit → Fr → Hh → Prop} {E : aN → Fr → Hh → Prop} : Wp (jF d fr h) Q E = Wp ((
 (aY 9)) d fr h) Q E := congrArg (fun m => Wp (m d fr h) Q E) jF.eq_1
theorem pQ {fr : Fr} {h : Hh} {Q : Bool → Fr → Hh → Prop} {E : aN → Fr → Hh → Prop} : Wp (jG fr h) Q E = Wp ((
 (m7 (aC D.tru (cZ 2 (aa 9) aP)) (aq uI (cZ 4 (aa 9) aP) (mC (.int 0))))) fr h) Q E := congrArg (fun m => Wp (m fr h) Q E) jG.eq_1
theorem CP {fr : Fr} {h : Hh} {Q : D → Fr → Hh → Prop} {E : aN → Fr → Hh → Prop} : Wp (jH fr h) Q E = Wp ((
 (aa 9)) fr h) Q E := congrArg (fun m => Wp (m fr h) Q E) jH.eq_1
theorem CQ {d : D} {fr : Fr} {h : Hh} {Q : Unit → Fr → Hh → Prop} {E : aN → Fr → Hh → Prop} : Wp (iD d fr h) Q E = Wp ((
 (aY 9)) d fr h) Q E := congrArg (fun m => Wp (m d fr h) Q E) iD.eq_1
theorem CT {fr : Fr} {h : Hh} {Q : Bool → Fr → Hh → Prop} {E : aN → Fr → Hh → Prop} : Wp (iG fr h) Q E = Wp ((
 (M.ret true)) fr h) Q E := congrArg (fun m => Wp (m fr h) Q E) iG.eq_1
theorem CV {fr : Fr} {h : Hh} {Q : D → Fr → Hh → Prop} {E : aN → Fr → Hh → Prop} : Wp (iH fr h) Q E = Wp ((
 (aq ph (cZ 10 (aa 9) aP) (cZ 4 (aa 9) aP))) fr h) Q E := congrArg (fun m => Wp (m fr h) Q E) iH.eq_1
theorem CW {d : D} {fr : Fr} {h : Hh} {Q : Unit → Fr → Hh → Prop} {E : aN → Fr → Hh → Prop} : Wp (jJ d fr h) Q E = Wp ((
 (aY 10)) d fr h) Q E := congrArg (fun m => Wp (m d fr h) Q E) jJ.eq_1
theorem CZ {fr : Fr} {h : Hh} {Q : Bool → Fr → Hh → Prop} {E : aN → Fr → Hh → Prop} : Wp (jK fr h) Q E = Wp ((
 (aq uI (aC zR (lM [9] (iJ (aC bO (aM 2))) iD iG iH)) (mC (.int 0)))) fr h) Q E := congrArg (fun m => Wp (m fr h) Q E) jK.eq_1
theorem Dc {fr : Fr} {h : Hh} {Q : Fl → Fr → Hh → Prop} {E : aN → Fr → Hh → Prop} : Wp (mH fr h) Q E = Wp ((
 (aA (eO (aq gU (bG (lM [9] (iJ (aC bO (aM 2))) jF jG jH)) (dD []))
 (cH (mC (.bl false)))
 (M.ret .nx))
 (cH (aq (fun h x y => (gU h x y).map .bl) (bG (DN [10] (DK (aa 1)) jJ jK pO)) (dD []))))) fr h) Q E := congrArg (fun m => Wp (m fr h) Q E) mH.eq_1
theorem Dd {fr : Fr} {h : Hh} {Q : Fl → Fr → Hh → Prop} {E : aN → Fr → Hh → Prop} : Wp (jL fr h) Q E = Wp ((
 (aA (eO (rE (aq zF (aa 3) (mC (.str "weights"))) (aq zF (aC bO (aM 4)) (aC bO (aM 2))))
 (cH (mC (.bl false)))
 (M.ret .nx))
 mH)) fr h) Q E := congrArg (fun m => Wp (m fr h) Q E) jL.eq_1
theorem De {fr : Fr} {h : Hh} {Q : Fl → Fr → Hh → Prop} {E : aN → Fr → Hh → Prop} : Wp (jM fr h) Q E = Wp ((
 (aA (eO (aq gU (aa 3) (mC (.str "amounts")))
 (aA (bu 5 (lM [9] (iJ (aC bO (aM 4))) ig il ir))
 (aA (eO (rE (aq zF (aC bO (aM 4)) (aC bO (aM 1))) (aq uI (aC bO (aM 5)) (aC bO (aM 2))))
 (cH (mC (.bl false)))
 (M.ret .nx))
 (aA (jN (qZ (aa 2)) (dN 2 (aX (aY 6) (aX (aY 7) dY))) jr)
 (cH (mC (.bl true))))))
 (M.ret .nx))
 jL)) fr h) Q E := congrArg (fun m => Wp (m fr h) Q E) jM.eq_1
theorem uF {fr : Fr} {h : Hh} {Q : Fl → Fr → Hh → Prop} {E : aN → Fr → Hh → Prop} : Wp (mJ fr h) Q E = Wp ((
 (aA (eO (aq zF (bG (lM [9] (iJ (aC bO (aM 4))) g8 ie mG)) (dD []))
 (cH (mC (.bl false)))
 (M.ret .nx))
 jM)) fr h) Q E := congrArg (fun m => Wp (m fr h) Q E) mJ.eq_1
theorem uG {fr : Fr} {h : Hh} {Q : Fl → Fr → Hh → Prop} {E : aN → Fr → Hh → Prop} : Wp (mK fr h) Q E = Wp ((
 (aA (Gu (aa 0) (dN 2 (aX (aY 3) (aX (aY 4) dY))))
 mJ)) fr h) Q E := congrArg (fun m => Wp (m fr h) Q E) mK.eq_1
theorem xF {fr : Fr} {h : Hh} {Q : Fl → Fr → Hh → Prop} {E : aN → Fr → Hh → Prop} : Wp (lQ fr h) Q E = Wp ((
 (aA (eO (rE (xH (aC D.tru (aq (qN oN) (aa 0) (mC (.ty "tuple"))))) (rE (aq zF (aC bO (aM 0)) (mC (.int 2))) (xH (aC D.tru (aq (qN oN) (cZ 0 (mC (.int 1)) aP) (mC (.ty "tuple")))))))
 (cH (mC (.bl false)))
 (M.ret .nx))
 mK)) fr h) Q E := congrArg (fun m => Wp (m fr h) Q E) lQ.eq_1
theorem Ka {fr : Fr} {h : Hh} {Q : Fl → Fr → Hh → Prop} {E : aN → Fr → Hh → Prop} : Wp (yW fr h) Q E = Wp ((
 (aA (bu 10 (bR 2 0 mF (bh []) (ak [(aa 2), (aa 4)]) (ak [])))
 (ni (rZ 8 (yL (m7 (aq uI (aa 5) (mC (.int 0))) (aq xQ (bG (bR 2 0 cG (bh []) (ak [(aa 2), (mC (.int 3))]) (ak []))) (aa 5))) (mC (.int 0)) (aa 10)))))) fr h) Q E := congrArg (fun m => Wp (m fr h) Q E) yW.eq_1
theorem Zh {d : D} {fr : Fr} {h : Hh} {Q : Unit → Fr → Hh → Prop} {E : aN → Fr → Hh → Prop} : Wp (yX d fr h) Q E = Wp ((
 (aY 10)) d fr h) Q E := congrArg (fun m => Wp (m d fr h) Q E) yX.eq_1
theorem Zi {fr : Fr} {h : Hh} {Q : Bool → Fr → Hh → Prop} {E : aN → Fr → Hh → Prop} : Wp (yZ fr h) Q E = Wp ((
 (M.ret true)) fr h) Q E := congrArg (fun m => Wp (m fr h) Q E) yZ.eq_1
theorem Zj {fr : Fr} {h : Hh} {Q : D → Fr → Hh → Prop} {E : aN → Fr → Hh → Prop} : Wp (za fr h) Q E = Wp ((
 (aq ph (aa 11) (aa 10))) fr h) Q E := congrArg (fun m => Wp (m fr h) Q E) za.eq_1
theorem Zk {fr : Fr} {h : Hh} {Q : Fl → Fr → Hh → Prop} {E : aN → Fr → Hh → Prop} : Wp (wu fr h) Q E = Wp ((
 (aA (bu 8 (dD []))
 Ak)) fr h) Q E := congrArg (fun m => Wp (m fr h) Q E) wu.eq_1
theorem RP {fr : Fr} {h : Hh} {Q : Fl → Fr → Hh → Prop} {E : aN → Fr → Hh → Prop} : Wp (wJ fr h) Q E = Wp ((
 (aA (bu 14 (bR 2 0 uA (bh []) (ak [(aa 13), (aa 12)]) (ak [])))
 (eO (rE (aq Qy (aa 13) (aa 6)) (xH (aC D.tru (bR 3 0 fH (bh []) (ak [(aa 14), (aa 6), (aa 12)]) (ak [])))))
 (cH (mC (.bl false)))
 (M.ret .nx)))) fr h) Q E := congrArg (fun m => Wp (m fr h) Q E) wJ.eq_1
theorem RQ {fr : Fr} {h : Hh} {Q : Fl → Fr → Hh → Prop} {E : aN → Fr → Hh → Prop} : Wp (wL fr h) Q E = Wp ((
 (aA (bu 13 (aC Kw (aM 6)))
 wJ)) fr h) Q E := congrArg (fun m => Wp (m fr h) Q E) wL.eq_1
theorem RX {fr : Fr} {h : Hh} {Q : Fl → Fr → Hh → Prop} {E : aN → Fr → Hh → Prop} : Wp (tH fr h) Q E = Wp ((
 (aA (bu 12 (bR 2 0 oF (bh []) (ak [(aa 2), (aa 3)]) (ak [])))
 wL)) fr h) Q E := congrArg (fun m => Wp (m fr h) Q E) tH.eq_1
theorem R4 {fr : Fr} {h : Hh} {Q : Fl → Fr → Hh → Prop} {E : aN → Fr → Hh → Prop} : Wp (wM fr h) Q E = Wp ((
 (aA (bu 6 (oh (dD [])))
 Ao)) fr h) Q E := congrArg (fun m => Wp (m fr h) Q E) wM.eq_1
theorem R5 {fr : Fr} {h : Hh} {Q : Fl → Fr → Hh → Prop} {E : aN → Fr → Hh → Prop} : Wp (wN fr h) Q E = Wp ((
 (aA (bu 5 (bR 2 0 cG (bh []) (ak [(aa 2), (mC (.int 3))]) (ak [])))
 wM)) fr h) Q E := congrArg (fun m => Wp (m fr h) Q E) wN.eq_1
theorem R6 {fr : Fr} {h : Hh} {Q : Fl → Fr → Hh → Prop} {E : aN → Fr → Hh → Prop} : Wp (wO fr h) Q E = Wp ((
 (aA (bu 4 (bR 2 0 fG (bh []) (ak [(aa 2), (bG (dD [(mC (.int 1)), (mC (.int 1)), (mC (.int 2)), (mC (.int 5)), (mC (.int 1000)), (aq Jw (mC (.int 10)) (mC (.int 30)))]))]) (ak [])))
 wN)) fr h) Q E := congrArg (fun m => Wp (m fr h) Q E) wO.eq_1
theorem R7 {fr : Fr} {h : Hh} {Q : Fl → Fr → Hh → Prop} {E : aN → Fr → Hh → Prop} : Wp (wQ fr h) Q E = Wp ((
 (aA (bu 3 (aq dZ (mC (.int 1)) (bG (bR 2 0 cG (bh []) (ak [(aa 2), (bG (bR 2 0 fG (bh []) (ak [(aa 2), (bG (dD [(mC (.int 2)), (mC (.int 4)), (mC (.int 8))]))]) (ak [])))]) (ak [])))))
 wO)) fr h) Q E := congrArg (fun m => Wp (m fr h) Q E) wQ.eq_1
theorem Xn {fr : Fr} {h : Hh} {Q : Fl → Fr → Hh → Prop} {E : aN → Fr → Hh → Prop} : Wp (zW fr h) Q E = Wp ((
 (aA (bu 2 (oh (bR 2 0 jZ (bh []) (ak [(aa 0), (aa 1)]) (ak []))))
 wQ)) fr h) Q E := congrArg (fun m => Wp (m fr h) Q E) zW.eq_1
theorem Vx {ds : List D} {h : Hh} {Q : D → Fr → Hh → Prop} {E : aN → Fr → Hh → Prop} : Wp (fG ds h) Q E = Wp (dW 2 ux ds h) Q E := congrArg (fun m => Wp (m ds h) Q E) fG.eq_1
theorem Nh {ds : List D} {h : Hh} {Q : D → Fr → Hh → Prop} {E : aN → Fr → Hh → Prop} : Wp (oF ds h) Q E = Wp (dW 4 qI ds h) Q E := congrArg (fun m => Wp (m ds h) Q E) oF.eq_1
theorem Eo {ds : List D} {h : Hh} {Q : D → Fr → Hh → Prop} {E : aN → Fr → Hh → Prop} : Wp (gj ds h) Q E = Wp (dW 8 j9 ds h) Q E := congrArg (fun m => Wp (m ds h) Q E) gj.eq_1
theorem Ji {ds : List D} {h : Hh} {Q : D → Fr → Hh → Prop} {E : aN → Fr → Hh → Prop} : Wp (jy ds h) Q E = Wp (dW 3 nO ds h) Q E := congrArg (fun m => Wp (m ds h) Q E) jy.eq_1
theorem Q9 {ds : List D} {h : Hh} {Q : D → Fr → Hh → Prop} {E : aN → Fr → Hh → Prop} : Wp (lu ds h) Q E = Wp (dW 3 tE ds h) Q E := congrArg (fun m => Wp (m ds h) Q E) lu.eq_1
theorem Ep {ds : List D} {h : Hh} {Q : D → Fr → Hh → Prop} {E : aN → Fr → Hh → Prop} : Wp (gq ds h) Q E = Wp (dW 4 kh ds h) Q E := congrArg (fun m => Wp (m ds h) Q E) gq.eq_1
theorem Es {ds : List D} {h : Hh} {Q : D → Fr → Hh → Prop} {E : aN → Fr → Hh → Prop} : Wp (gA ds h) Q E = Wp (dW 11 km ds h) Q E := congrArg (fun m => Wp (m ds h) Q E) gA.eq_1
theorem FZ {ds : List D} {h : Hh} {Q : D → Fr → Hh → Prop} {E : aN → Fr → Hh → Prop} : Wp (iT ds h) Q E = Wp (dW 7 lO ds h) Q E := congrArg (fun m => Wp (m ds h) Q E) iT.eq_1
theorem zm {ds : List D} {h : Hh} {Q : D → Fr → Hh → Prop} {E : aN → Fr → Hh → Prop} : Wp (gM ds h) Q E = Wp (dW 2 oU ds h) Q E := congrArg (fun m => Wp (m ds h) Q E) gM.eq_1
theorem xG {ds : List D} {h : Hh} {Q : D → Fr → Hh → Prop} {E : aN → Fr → Hh → Prop} : Wp (fY ds h) Q E = Wp (dW 2 mX ds h) Q E := congrArg (fun m => Wp (m ds h) Q E) fY.eq_1
theorem xW {ds : List D} {h : Hh} {Q : D → Fr → Hh → Prop} {E : aN → Fr → Hh → Prop} : Wp (iU ds h) Q E = Wp (dW 2 nQ ds h) Q E := congrArg (fun m => Wp (m ds h) Q E) iU.eq_1
theorem Zm {ds : List D} {h : Hh} {Q : D → Fr → Hh → Prop} {E : aN → Fr → Hh → Prop} : Wp (uA ds h) Q E = Wp (dW 11 Cu ds h) Q E := congrArg (fun m => Wp (m ds h) Q E) uA.eq_1
theorem Kc {ds : List D} {h : Hh} {Q : D → Fr → Hh → Prop} {E : aN → Fr → Hh → Prop} : Wp (mF ds h) Q E = Wp (dW 2 oW ds h) Q E := congrArg (fun m => Wp (m ds h) Q E) mF.eq_1
theorem Hu {ds : List D} {h : Hh} {Q : D → Fr → Hh → Prop} {E : aN → Fr → Hh → Prop} : Wp (jY ds h) Q E = Wp (dW 1 mY ds h) Q E := congrArg (fun m => Wp (m ds h) Q E) jY.eq_1
theorem vU {ds : List D} {h : Hh} {Q : D → Fr → Hh → Prop} {E : aN → Fr → Hh → Prop} : Wp (fH ds h) Q E = Wp (dW 11 lQ ds h) Q E := congrArg (fun m => Wp (m ds h) Q E) fH.eq_1
end L
namespace L
open PySem PySem.Spec L2 Pk
def Src (h : Hh) (n : Nat) (C : Int) : Prop := ∃ a b c : Int, h[n]? = some (.nl [.int a, .int b, .int c]) ∧ 0 ≤ b ∧ b < 2 ^ 33 ∧ 0 ≤ c ∧ c ≤ C
theorem log2_lt {i : Int} {k : Nat} (h : i.natAbs < 2 ^ k) (hk : 0 < k) : i.natAbs.log2 < k := by
 by_cases h0 : i.natAbs = 0
 · rw [h0]; simpa using hk
 · exact (Nat.log2_lt h0).mpr h
theorem wy {i j : Int} (h : 0 < j) : O9 i j = true := decide_eq_true h
end L
namespace L
open PySem PySem.Spec L2 Pk
abbrev Mem := List (Nat × D)
structure bV (h : Hh) (A : Mem) : Prop where
 at_ : ∀ p ∈ A, h[p.1]? = some p.2
 nd : (A.map (·.1)).Nodup
section
variable {h : Hh} {A B : Mem} {n i : Nat} {d d' : D}
theorem bV.nil (h : Hh) : bV h [] := { at_ := fun p hp => absurd hp ai9, nd := List.nodup_nil }
theorem bV.get (H : bV h A) (e : A[i]? = some (n, d)) : h[n]? = some d := H.at_ (n, d) (ai1 e)
theorem bV.perm (H : bV h A) (p : A.Perm B) : bV h B := ⟨fun q hq => H.at_ q (p.mem_iff.mpr hq), (p.map _).nodup_iff.mp H.nd⟩
theorem bV.right (H : bV h (A ++ B)) : bV h B := ⟨fun q hq => H.at_ q (List.mem_append_right _ hq), by
 have := H.nd
 rw [ajd] at this
 exact (List.nodup_append.mp this).2.1⟩
theorem bV.left (H : bV h (A ++ B)) : bV h A := ⟨fun q hq => H.at_ q (List.mem_append_left _ hq), by
 have := H.nd
 rw [ajd] at this
 exact (List.nodup_append.mp this).1⟩
theorem bV.lt (H : bV h A) {p : Nat × D} (hp : p ∈ A) : p.1 < h.length := (List.getElem?_eq_some_iff.mp (H.at_ p hp)).1
theorem bV.set (H : bV h A) (i : Nat) (e : A[i]? = some (n, d)) (d' : D) : bV (h.set n d') (A.set i (n, d')) := by
 have hi : i < A.length := (List.getElem?_eq_some_iff.mp e).1
 have hn : n < h.length := H.lt (p := (n, d)) (ai1 e)
 have ek : (A.set i (n, d')).map (·.1) = A.map (·.1) := by
  rw [List.map_set]
  have : (A.map (·.1))[i]? = some n := by rw [ai3, e]; rfl
  obtain ⟨hj, q⟩ := List.getElem?_eq_some_iff.mp this
  show (A.map (·.1)).set i n = _
  rw [← q]
  exact List.set_getElem_self hj
 refine ⟨fun p hp => ?_, by rw [ek]; exact H.nd⟩
 obtain ⟨j, hj, ej⟩ := List.getElem_of_mem hp
 have hj' : j < A.length := by rwa [aiZ] at hj
 by_cases c : i = j
 · subst c
   rw [List.getElem_set_self] at ej
   rw [← ej]
   exact aiW hn
 · rw [List.getElem_set_ne c] at ej
   have hm : p ∈ A := by rw [← ej]; exact aja hj'
   have hne : n ≠ p.1 := fun z => by
    have n1 : (A.map (·.1))[i]? = some n := by rw [ai3, e]; rfl
    have n2 : (A.map (·.1))[j]? = some p.1 := by rw [ai3, aiO hj', ej]; rfl
    rw [← z] at n2
    exact c (Jo H.nd n1 n2)
   rw [aiV hne]
   exact H.at_ p hm
theorem bV.app (H : bV h A) (d : D) : bV (h ++ [d]) ((h.length, d) :: A) := by
 refine ⟨fun p hp => ?_, ?_⟩
 · rcases List.mem_cons.mp hp with rfl | hp
   · rw [ajc (Nat.le_refl _), Nat.sub_self]
     rfl
   · rw [ajf (H.lt hp)]
     exact H.at_ p hp
 · rw [aiN, List.nodup_cons]
   refine ⟨fun z => ?_, H.nd⟩
   obtain ⟨q, hq, e⟩ := List.mem_map.mp z
   have := H.lt hq
   have e : q.1 = h.length := e
   omega
theorem bV.upd {h' : Hh} (H : bV h ((n, d) :: A)) (e : h'[n]? = some d') (hk : ∀ k, k ≠ n → h'[k]? = h[k]?) : bV h' ((n, d') :: A) := by
 refine ⟨fun p hp => ?_, H.nd⟩
 rcases List.mem_cons.mp hp with rfl | hp
 · exact e
 · rw [hk p.1 fun z => ?_]
   · exact H.at_ p (ai2 _ hp)
   · have := H.nd
     rw [aiN, List.nodup_cons] at this
     exact this.1 (by show n ∈ _; rw [← z]; exact List.mem_map_of_mem hp)
theorem perm_swap {X Y Z : Mem} : (X ++ (Y ++ Z)).Perm (Y ++ (X ++ Z)) := by
 rw [← ai8, ← ai8]
 exact List.perm_append_comm.append_right Z
end
theorem abf {l : List Int} {i : Nat} {t : Int} {j : Int} (hj : j = (i : Int)) (e : l[i]? = some t) : atI (l.map D.int) j = some (.int t) := by
 subst hj
 have hl := (List.getElem?_eq_some_iff.mp e).1
 unfold atI
 have : ixN (l.map D.int).length (i : Int) = some i := by
  unfold ixN
  rw [aiP, if_pos (by omega), if_pos (by omega)]
  congr 1
 rw [this]
 simp [e]
theorem R8 {h : Hh} {ns : List Int} {k : Nat} (hk : k ≤ 62) : ∃ a b, jZ [.kl (ns.map .int), .int k] h = .ok (.nl [.int a, .int b, .int 0]) [] h ∧ 0 ≤ b ∧ b < 2 ^ 33 := by
 have p18 : Mg 10 18 = true := by decide
 have b3 : 3 ≤ big := by decide
 have c1 : vZ 15485863 (k : Int) = true := by
  have l2 : ((15485863 : Int)).natAbs.log2 < 64 := log2_lt (by decide) (by decide)
  have l1 : ((k : Int)).natAbs.log2 < 64 := log2_lt (by omega) (by decide)
  exact decide_eq_true (by omega)
 have main : ∀ v : Int, (if (k : Int) < ns.length then aP h (.kl (ns.map .int)) (.int k) = some (.int v) else v = 0) → ∃ a b, jZ [.kl (ns.map .int), .int k] h = .ok (.nl [.int a, .int b, .int 0]) [] h ∧ 0 ≤ b ∧ b < 2 ^ 33 := fun v hv => by
  have hb0 : 0 ≤ v % 2147483629 := Int.emod_nonneg _ (by decide)
  have hb1 : v % 2147483629 < 2147483629 := Int.emod_lt_of_pos _ (by decide)
  refine ⟨if (1000000000000000000 : Int) ≤ (if v < 0 then -v else v) then (if v < 0 then -v else v) else 0, v % 2147483629 + 15485863 * (k : Int) + 7919, ?_, by omega, by omega⟩
  by_cases hl : (k : Int) < ns.length
  · rw [if_pos hl] at hv
    have hl' : k < ns.length := by omega
    by_cases hbig : (1000000000000000000 : Int) ≤ (if v < 0 then -v else v)
    · simp [jZ, dW, qH, qu, startF, aA, bu, yL, aq, aa, D.own, M.bind, M.ret, M.opt, aC, bO, aM, D.its, D.der, cInt, hl, hl', cZ, m9, hv, mC, Jx, qM, p18, hbig, cH, dD, ak, bG, dZ, D.fz, o8, wy, c1, b3]
    · simp [jZ, dW, qH, qu, startF, aA, bu, yL, aq, aa, D.own, M.bind, M.ret, M.opt, aC, bO, aM, D.its, D.der, cInt, hl, hl', cZ, m9, hv, mC, Jx, qM, p18, hbig, cH, dD, ak, bG, dZ, D.fz, o8, wy, c1, b3]
  · rw [if_neg hl] at hv
    subst hv
    have hl' : ¬ k < ns.length := by omega
    simp [jZ, dW, qH, qu, startF, aA, bu, yL, aq, aa, D.own, M.bind, M.ret, M.opt, aC, bO, aM, D.its, D.der, cInt, hl, hl', mC, Jx, qM, p18, cH, dD, ak, bG, dZ, D.fz, o8, wy, c1, b3]
 by_cases hl : (k : Int) < ns.length
 · have e : ns[k]? = some (ns[k]'(by omega)) := aiO _
   exact main _ (by rw [if_pos hl]; exact abf rfl e)
 · exact main 0 (by rw [if_neg hl])
theorem bV.mid {h : Hh} {X G Y : Mem} (H : bV h (X ++ (G ++ Y))) : bV h (X ++ Y) := (H.perm perm_swap).right
theorem Src.up {h : Hh} {n : Nat} {C C' : Int} (S : Src h n C) (hC : C ≤ C') : Src h n C' := by
 obtain ⟨a, b, c, q1, q2, q3, q4, q5⟩ := S
 exact ⟨a, b, c, q1, q2, q3, q4, by omega⟩
end L
namespace L
open PySem PySem.Spec L2 Pk
structure Et (n : Nat) (h h' : Hh) : Prop where
 len : h'.length = h.length
 at_ : ∀ k, k ≠ n → h'[k]? = h[k]?
theorem Et.refl (n : Nat) (h : Hh) : Et n h h := ⟨rfl, fun _ _ => rfl⟩
theorem Et.trans {n : Nat} {h h' h2 : Hh} (a : Et n h h') (b : Et n h' h2) : Et n h h2 := ⟨b.len.trans a.len, fun k hk => (b.at_ k hk).trans (a.at_ k hk)⟩
theorem acQ {n : Nat} {h : Hh} (x : D) : Et n h (h.set n x) := ⟨aiZ, fun k hk => aiV (Ne.symm hk)⟩
def Eu (hB h : Hh) (n : Nat) (C : Int) : Prop := Src h n C ∧ Et n hB h
theorem Eu.up {hB h : Hh} {n : Nat} {C C' : Int} (S : Eu hB h n C) (hC : C ≤ C') : Eu hB h n C' := ⟨S.1.up hC, S.2⟩
theorem Src.u {h : Hh} {n : Nat} {C : Int} (S : Src h n C) : Eu h h n C := ⟨S, Et.refl n h⟩
theorem Lp {hB : Hh} {h : Hh} {n : Nat} {C m : Int} (S : Eu hB h n C) (hC : C ≤ 100000) (hm : 0 < m) (hl : m < 2 ^ 200) :
 ∃ r h', cG [.ref n, .int m] h = .ok (.int r) [] h' ∧ Eu hB h' n (C + 1) ∧ 0 ≤ r ∧ r < m := by
 obtain ⟨⟨a, b, c, e, b0, b1, c0, c1⟩, U⟩ := S
 have hn : n < h.length := (List.getElem?_eq_some_iff.mp e).1
 have hml : m.natAbs.log2 < 9000 := by
  refine Nat.lt_of_lt_of_le (log2_lt (k := 200) ?_ (by decide)) (by decide)
  omega
 by_cases ha : 0 < a
 · refine ⟨a % m, h.set n (.nl [.int (a / m), .int b, .int c]), ?_, ⟨⟨a / m, b, c, by rw [aiW hn], b0, b1, c0, by omega⟩, U.trans (acQ _)⟩, Int.emod_nonneg _ (by omega), Int.emod_lt_of_pos _ hm⟩
   simp [cG, dW, wG, wk, wj, wg, startF, aA, eO, M.bind, M.ret, M.opt, aq, cZ, m9, aM, mC, aP, D.its, D.der, e, atI, ixN, cInt, ha, bu, aC, o8, aa, D.own, qM, O9, hm, o9, bZ, ou, Gj, hml, cH, tO]
 · have z1 : (b + 32452843 * (c + 1)).natAbs < 2 ^ 64 := by omega
   generalize hx : (b + 32452843 * (c + 1)) ^ 3 % 2305843009213693921 = x
   have hx0 : 0 ≤ x := by rw [← hx]; exact Int.emod_nonneg _ (by decide)
   have hx1 : x < 2305843009213693921 := by rw [← hx]; exact Int.emod_lt_of_pos _ (by decide)
   have z2 : (x + 49979687 * (c + 1)).natAbs < 2 ^ 64 := by omega
   have l1 : (c + 1).natAbs.log2 < 64 := log2_lt (by omega) (by decide)
   have l2 : ((32452843 : Int)).natAbs.log2 < 64 := log2_lt (by decide) (by decide)
   have l3 : ((49979687 : Int)).natAbs.log2 < 64 := log2_lt (by decide) (by decide)
   have l4 : ((4096 : Int)).natAbs.log2 < 9000 := Nat.lt_trans (log2_lt (k := 64) (by decide) (by decide)) (by decide)
   have c1' : vZ 32452843 (c + 1) = true := decide_eq_true (by omega)
   have c2' : vZ 49979687 (c + 1) = true := decide_eq_true (by omega)
   have c3' : Mg (b + 32452843 * (c + 1)) 3 = true := by
    unfold Mg
    rw [decide_eq_true z1]
    rfl
   have c4' : Mg (x + 49979687 * (c + 1)) 2 = true := by
    unfold Mg
    rw [decide_eq_true z2]
    rfl
   have c5' : Gj ((x + 49979687 * (c + 1)) ^ 2 % 2305843009213693951) 4096 = true := by
    unfold Gj
    rw [decide_eq_true l4]
    rfl
   refine ⟨((x + 49979687 * (c + 1)) ^ 2 % 2305843009213693951) / 4096 % m, h.set n (.nl [.int a, .int b, .int (c + 1)]), ?_, ⟨⟨a, b, c + 1, by rw [aiW hn], b0, b1, by omega, by omega⟩, U.trans (acQ _)⟩, Int.emod_nonneg _ (by omega), Int.emod_lt_of_pos _ hm⟩
   have ha' : decide (0 < a) = false := decide_eq_false ha
   have e2 : ∀ v : D, (h.set n v)[n]? = some v := fun v => aiW hn
   simp [cG, dW, wG, wk, wj, wg, startF, aA, eO, M.bind, M.ret, M.opt, aq, cZ, m9, aM, mC, aP, D.its, D.der, e, atI, ixN, cInt, ha', bu, aC, o8, aa, D.own, qM, o9, bZ, ou, cH, tO, bG, D.fz, dZ, e2, c1', c2', c3', c4', c5', wy, hm, hx]
theorem Zo {hB : Hh} {h : Hh} {n : Nat} {C : Int} {l : List D} (S : Eu hB h n C) (hC : C ≤ 100000) (h0 : 0 < l.length) (hl : l.length ≤ 1000) :
 ∃ i d h', i < l.length ∧ l[i]? = some d ∧ fG [.ref n, .fl l] h = .ok d [] h' ∧ Eu hB h' n (C + 1) := by
 obtain ⟨r, h', e, S', r0, r1⟩ := Lp (m := (l.length : Int)) S hC (by omega) (by omega)
 have hi : r.toNat < l.length := by omega
 refine ⟨r.toNat, l[r.toNat], h', hi, aiO hi, ?_, S'⟩
 have er : ((r.toNat : Nat) : Int) = r := Int.toNat_of_nonneg r0
 simp [fG, dW, ux, startF, cH, cZ, m9, aM, bG, bR, ak, M.bind, M.ret, M.opt, aa, D.own, D.fz, aC, bO, D.its, D.der, bh, e, oK, aP, atI, ixN, r0, r1, hi]
def eX (F : Mem) (h : Hh) (n : Nat) (C : Int) : Prop := ∃ a b c : Int, bV h ((n, .nl [.int a, .int b, .int c]) :: F) ∧ 0 ≤ b ∧ b < 2 ^ 33 ∧ 0 ≤ c ∧ c ≤ C
section
variable {F : Mem} {h : Hh} {n : Nat} {C : Int}
theorem eX.src (S : eX F h n C) : Src h n C := by
 obtain ⟨a, b, c, H, q1, q2, q3, q4⟩ := S
 exact ⟨a, b, c, H.get (i := 0) rfl, q1, q2, q3, q4⟩
theorem eX.up {C' : Int} (S : eX F h n C) (hC : C ≤ C') : eX F h n C' := by
 obtain ⟨a, b, c, H, q1, q2, q3, q4⟩ := S
 exact ⟨a, b, c, H, q1, q2, q3, by omega⟩
theorem eX.has (S : eX F h n C) : bV h F := by
 obtain ⟨a, b, c, H, q1, q2, q3, q4⟩ := S
 exact H.right (A := [_])
theorem eX.go {h' : Hh} {C' : Int} (S : eX F h n C) (U : Eu h h' n C') : eX F h' n C' := by
 obtain ⟨a, b, c, H, q1, q2, q3, q4⟩ := S
 obtain ⟨⟨a', b', c', e, r1, r2, r3, r4⟩, U⟩ := U
 exact ⟨a', b', c', H.upd e U.at_, r1, r2, r3, r4⟩
theorem yr {m : Int} (S : eX F h n C) (hC : C ≤ 100000) (hm : 0 < m) (hl : m < 2 ^ 200) : ∃ r h', cG [.ref n, .int m] h = .ok (.int r) [] h' ∧ eX F h' n (C + 1) ∧ 0 ≤ r ∧ r < m := by
 obtain ⟨r, h', e, U, r0, r1⟩ := Lp S.src.u hC hm hl
 exact ⟨r, h', e, S.go U, r0, r1⟩
theorem Z7 {l : List D} (S : eX F h n C) (hC : C ≤ 100000) (h0 : 0 < l.length) (hl : l.length ≤ 1000) : ∃ d h', d ∈ l ∧ fG [.ref n, .fl l] h = .ok d [] h' ∧ eX F h' n (C + 1) := by
 obtain ⟨i, d, h', _, hi, e, U⟩ := Zo S.src.u hC h0 hl
 exact ⟨d, h', ai1 hi, e, S.go U⟩
end
end L
namespace L
def az : Nat → (Nat → Int) → Int
 | 0, _ => 0
 | n + 1, f => az n f + f n
theorem bW {f g : Nat → Int} : ∀ {n : Nat}, (∀ k, k < n → f k = g k) → az n f = az n g
 | 0, _ => rfl
 | n + 1, h => by
   unfold az
   rw [bW (fun k hk => h k (Nat.lt_succ_of_lt hk)), h n (Nat.lt_succ_self n)]
theorem fZ {f : Nat → Int} {n : Nat} (h : ∀ k, k < n → f k = 0) : az n f = 0 := by
 induction n with
 | zero => rfl
 | succ n ih =>
   unfold az
   rw [ih fun k hk => h k (Nat.lt_succ_of_lt hk), h n (Nat.lt_succ_self n)]
   rfl
theorem wz (f g : Nat → Int) : ∀ n : Nat, az n (fun k => f k + g k) = az n f + az n g
 | 0 => rfl
 | n + 1 => by
   unfold az
   rw [wz f g n]
   show az n f + az n g + (f n + g n) = _
   omega
theorem mU (a : Int) (f : Nat → Int) : ∀ n : Nat, az n (fun k => a * f k) = a * az n f
 | 0 => by unfold az; omega
 | n + 1 => by
   unfold az
   rw [mU a f n, Int.mul_add]
theorem gG {f : Nat → Int} {n c : Nat} (hc : c < n) (h : ∀ k, k < n → k ≠ c → f k = 0) : az n f = f c := by
 induction n with
 | zero => omega
 | succ n ih =>
   unfold az
   by_cases e : c = n
   · subst e
     rw [fZ fun k hk => h k (Nat.lt_succ_of_lt hk) (Nat.ne_of_lt hk)]
     omega
   · rw [ih (by omega) fun k hk => h k (Nat.lt_succ_of_lt hk), h n (Nat.lt_succ_self n) (fun z => e z.symm)]
     omega
theorem Kd {f : Nat → Int} {n a b : Nat} (hb : b < n) (ab : a < b) (h : ∀ k, k < n → k ≠ a → k ≠ b → f k = 0) : az n f = f a + f b := by
 induction n with
 | zero => omega
 | succ n ih =>
   unfold az
   by_cases e : b = n
   · subst e
     rw [gG ab fun k hk ka => h k (Nat.lt_succ_of_lt hk) ka (Nat.ne_of_lt hk)]
   · rw [ih (by omega) fun k hk => h k (Nat.lt_succ_of_lt hk), h n (Nat.lt_succ_self n) (by omega) (by omega)]
     omega
abbrev Mx := Nat → Nat → Int
def minor (A : Mx) (k : Nat) : Mx := fun c r => A (if c < k then c else c + 1) (r + 1)
def sgn (k : Nat) : Int := if k % 2 = 0 then 1 else -1
theorem Zq (k : Nat) : sgn (k + 1) = -sgn k := by
 unfold sgn
 by_cases h : k % 2 = 0
 · rw [if_pos h, if_neg (by omega)]
 · rw [if_neg h, if_pos (by omega)]
   rfl
def det : Nat → Mx → Int
 | 0, _ => 1
 | m + 1, A => az (m + 1) fun k => sgn k * A k 0 * det m (minor A k)
theorem zY : ∀ {m : Nat} {A B : Mx}, (∀ c r, c < m → r < m → A c r = B c r) → det m A = det m B
 | 0, _, _, _ => rfl
 | m + 1, A, B, h => by
   unfold det
   refine bW fun k hk => ?_
   rw [h k 0 hk (Nat.succ_pos m), zY (A := minor A k) (B := minor B k) fun c r hc hr => ?_]
   unfold minor
   by_cases q : c < k
   · rw [if_pos q]
     exact h c (r + 1) (by omega) (by omega)
   · rw [if_neg q]
     exact h (c + 1) (r + 1) (by omega) (by omega)
def upd {α : Type} (A : Nat → α) (c : Nat) (v : α) : Nat → α := fun k => if k = c then v else A k
theorem nW {α : Type} (A : Nat → α) (c : Nat) (v : α) : upd A c v c = v := if_pos rfl
theorem upd_ne {α : Type} (A : Nat → α) {c k : Nat} (v : α) (h : k ≠ c) : upd A c v k = A k := if_neg h
theorem mV {α : Type} (A : Nat → α) {c e : Nat} (h : c ≠ e) (v w : α) : upd (upd A c v) e w = upd (upd A e w) c v := by
 funext k
 unfold upd
 by_cases h1 : k = c
 · by_cases h2 : k = e
   · exact absurd (h1.symm.trans h2) h
   · rw [if_neg h2, if_pos h1, if_pos h1]
 · by_cases h2 : k = e
   · rw [if_pos h2, if_neg h1, if_pos h2]
   · rw [if_neg h2, if_neg h1, if_neg h1, if_neg h2]
theorem upd_self {α : Type} (A : Nat → α) (c : Nat) : upd A c (A c) = A := by
 funext k
 unfold upd
 by_cases h : k = c
 · rw [if_pos h, h]
 · rw [if_neg h]
theorem zp (A : Mx) (c : Nat) (v : Nat → Int) : minor (upd A c v) c = minor A c := by
 funext k r
 unfold minor upd
 by_cases h : k < c
 · rw [if_pos h, if_neg (by omega)]
 · rw [if_neg h, if_neg (by omega)]
theorem zq (A : Mx) {c k : Nat} (h : k < c) (v : Nat → Int) : minor (upd A c v) k = upd (minor A k) (c - 1) (fun r => v (r + 1)) := by
 funext x r
 unfold minor upd
 by_cases h1 : x < k
 · rw [if_pos h1, if_neg (by omega), if_neg (by omega)]
   simp only [h1, if_true]
 · rw [if_neg h1]
   by_cases h2 : x + 1 = c
   · rw [if_pos h2, if_pos (by omega)]
   · rw [if_neg h2, if_neg (by omega)]
     simp only [h1, if_false]
theorem zu (A : Mx) {c k : Nat} (h : c < k) (v : Nat → Int) : minor (upd A c v) k = upd (minor A k) c (fun r => v (r + 1)) := by
 funext x r
 unfold minor upd
 by_cases h1 : x < k
 · rw [if_pos h1]
   by_cases h2 : x = c
   · rw [if_pos h2, if_pos h2]
   · rw [if_neg h2, if_neg h2]
     simp only [h1, if_true]
 · rw [if_neg h1, if_neg (by omega), if_neg (by omega)]
   simp only [h1, if_false]
theorem sH : ∀ {m : Nat} (A : Mx) {c : Nat} (hc : c < m) (u v : Nat → Int), det m (upd A c fun r => u r + v r) = det m (upd A c u) + det m (upd A c v)
 | 0, _, _, h, _, _ => by omega
 | m + 1, A, c, hc, u, v => by
   unfold det
   rw [← wz]
   refine bW fun k hk => ?_
   by_cases e : k = c
   · subst e
     rw [nW, nW, nW, zp, zp, zp, Int.mul_add, Int.add_mul]
   · rw [upd_ne _ _ e, upd_ne _ _ e, upd_ne _ _ e]
     by_cases q : k < c
     · rw [zq _ q, zq _ q, zq _ q, sH (minor A k) (by omega) (fun r => u (r + 1)) (fun r => v (r + 1)), Int.mul_add]
     · rw [zu _ (by omega), zu _ (by omega), zu _ (by omega), sH (minor A k) (by omega) (fun r => u (r + 1)) (fun r => v (r + 1)), Int.mul_add]
theorem wA : ∀ {m : Nat} (A : Mx) {c : Nat} (hc : c < m) (a : Int) (u : Nat → Int), det m (upd A c fun r => a * u r) = a * det m (upd A c u)
 | 0, _, _, h, _, _ => by omega
 | m + 1, A, c, hc, a, u => by
   unfold det
   rw [← mU]
   refine bW fun k hk => ?_
   by_cases e : k = c
   · subst e
     rw [nW, nW, zp, zp]
     grind
   · rw [upd_ne _ _ e, upd_ne _ _ e]
     by_cases q : k < c
     · rw [zq _ q, zq _ q, wA (minor A k) (by omega) a (fun r => u (r + 1))]
       grind
     · rw [zu _ (by omega), zu _ (by omega), wA (minor A k) (by omega) a (fun r => u (r + 1))]
       grind
theorem IV {m : Nat} (A : Mx) {c : Nat} (hc : c < m) (x : Nat → Int) (V : Nat → Nat → Int) : ∀ n : Nat, det m (upd A c fun r => az n fun i => x i * V i r) = az n fun i => x i * det m (upd A c (V i))
 | 0 => by
   have e : (upd A c fun r => az 0 fun i => x i * V i r) = upd A c fun r => 0 * (0 : Int) := by
    congr 1
   rw [e, wA A hc 0 (fun _ => 0), Int.zero_mul]
   rfl
 | n + 1 => by
   show det m (upd A c fun r => (az n fun i => x i * V i r) + x n * V n r) = _
   rw [sH A hc, IV A hc x V n, wA A hc]
   rfl
theorem IW : ∀ {m : Nat} (A : Mx) {c : Nat} (hc : c + 1 < m) (e : A c = A (c + 1)), det m A = 0
 | 0, _, _, h, _ => by omega
 | m + 1, A, c, hc, e => by
   unfold det
   rw [Kd (a := c) (b := c + 1) hc (Nat.lt_succ_self c) fun k hk h1 h2 => ?_]
   · have em : minor A c = minor A (c + 1) := by
      funext x r
      unfold minor
      by_cases h1 : x < c
      · rw [if_pos h1, if_pos (by omega)]
      · rw [if_neg h1]
        by_cases h2 : x = c
        · rw [if_pos (by omega), h2, e]
        · rw [if_neg (by omega)]
     rw [em, e, Zq]
     grind
   · have : det m (minor A k) = 0 := by
      by_cases q : k < c
      · refine IW (minor A k) (c := c - 1) (by omega) ?_
        funext r
        unfold minor
        rw [if_neg (by omega), if_neg (by omega), show c - 1 + 1 = c by omega, e]
      · refine IW (minor A k) (c := c) (by omega) ?_
        funext r
        unfold minor
        rw [if_pos (by omega), if_pos (by omega), e]
     rw [this, Int.mul_zero]
theorem Zr {m : Nat} (A : Mx) {c : Nat} (hc : c + 1 < m) (u v : Nat → Int) : det m (upd (upd A c u) (c + 1) v) = -det m (upd (upd A c v) (c + 1) u) := by
 have n : c ≠ c + 1 := by omega
 have z : ∀ w, det m (upd (upd A c w) (c + 1) w) = 0 := fun w => IW _ hc (by rw [upd_ne _ _ n, nW, nW])
 have h := z fun r => u r + v r
 rw [sH _ hc, mV _ n, sH _ (by omega), mV _ n, sH _ (by omega), mV _ n.symm, mV _ n.symm, mV _ n.symm, mV _ n.symm, z, z] at h
 omega
theorem Ra {m : Nat} : ∀ (g : Nat) (A : Mx) {a b : Nat} (hb : b < m) (hg : b = a + g + 1) (e : A a = A b), det m A = 0
 | 0, A, a, b, hb, hg, e => by
   subst hg
   exact IW A hb e
 | g + 1, A, a, b, hb, hg, e => by
   have n : b - 1 ≠ b := by omega
   have es : A = upd (upd A (b - 1) (A (b - 1))) (b - 1 + 1) (A b) := by
    rw [upd_self, show b - 1 + 1 = b by omega, upd_self]
   rw [es, Zr A (by omega)]
   rw [Ra g (upd (upd A (b - 1) (A b)) (b - 1 + 1) (A (b - 1))) (a := a) (b := b - 1) (by omega) (by omega) ?_]
   · rfl
   · rw [upd_ne _ _ (by omega), upd_ne _ _ (by omega), upd_ne _ _ (by omega), nW, e]
theorem Ja {m : Nat} (A : Mx) {a b : Nat} (ha : a < m) (hb : b < m) (n : a ≠ b) (e : A a = A b) : det m A = 0 := by
 by_cases h : a < b
 · exact Ra (b - a - 1) A hb (by omega) e
 · exact Ra (a - b - 1) A ha (by omega) e.symm
theorem acR {m : Nat} (A : Mx) {a b : Nat} (ha : a < m) (hb : b < m) (n : a ≠ b) (u v : Nat → Int) : det m (upd (upd A a u) b v) = -det m (upd (upd A a v) b u) := by
 have z : ∀ w, det m (upd (upd A a w) b w) = 0 := fun w => Ja _ ha hb n (by rw [upd_ne _ _ n, nW, nW])
 have h := z fun r => u r + v r
 rw [sH _ hb, mV _ n, sH _ ha, mV _ n, sH _ ha, mV _ n.symm, mV _ n.symm, mV _ n.symm, mV _ n.symm, z, z] at h
 omega
theorem Ul : ∀ m : Nat, det m (fun c r => if c = r then 1 else 0) = 1
 | 0 => rfl
 | m + 1 => by
   unfold det
   have e : det m (minor (fun c r => if c = r then 1 else 0) 0) = 1 := by
    rw [zY (B := fun c r => if c = r then 1 else 0) fun c r hc hr => ?_, Ul m]
    unfold minor
    simp
   rw [gG (c := 0) (Nat.succ_pos m) fun k hk h => ?_]
   · rw [e]
     rfl
   · simp only [h, if_false, Int.mul_zero, Int.zero_mul]
def Hv : Nat → Nat
 | 0 => 1
 | n + 1 => (n + 1) * Hv n
theorem Rb {f : Nat → Int} {b : Nat} : ∀ {n : Nat}, (∀ k, k < n → (f k).natAbs ≤ b) → (az n f).natAbs ≤ n * b
 | 0, _ => by
   unfold az
   simp
 | n + 1, h => by
   have h1 := Rb (n := n) fun k hk => h k (Nat.lt_succ_of_lt hk)
   have h2 := h n (Nat.lt_succ_self n)
   unfold az
   rw [Nat.succ_mul]
   omega
theorem sgn_abs (k : Nat) : (sgn k).natAbs = 1 := by
 unfold sgn
 by_cases h : k % 2 = 0
 · rw [if_pos h]
   rfl
 · rw [if_neg h]
   rfl
theorem Um {W : Nat} : ∀ {m : Nat} {A : Mx}, (∀ c r, c < m → r < m → (A c r).natAbs ≤ W) → (det m A).natAbs ≤ Hv m * W ^ m
 | 0, _, _ => by
   unfold det Hv
   simp
 | m + 1, A, h => by
   unfold det Hv
   have e : ((m + 1) * Hv m) * W ^ (m + 1) = (m + 1) * (W * (Hv m * W ^ m)) := by
    rw [Nat.pow_succ]
    grind
   rw [e]
   refine Rb fun k hk => ?_
   rw [Int.natAbs_mul, Int.natAbs_mul, sgn_abs, Nat.one_mul]
   refine Nat.mul_le_mul (h k 0 hk (Nat.succ_pos m)) (Um fun c r hc hr => ?_)
   unfold minor
   split
   · exact h c (r + 1) (by omega) (by omega)
   · exact h (c + 1) (r + 1) (by omega) (by omega)
end L
namespace L
structure Tb where
 d : Int
 T : Nat → Nat → Int
 bs : Nat → Nat
 out : Nat → Nat
section
variable {V : Mx} {M n : Nat}
structure Tb.Ok (V : Mx) (M n : Nat) (t : Tb) : Prop where
 dp : 0 < t.d
 dt : det M (fun i => V (t.bs i)) = t.d
 lin : ∀ l, l ≤ n → ∀ r, r < M → t.d * V (t.out l) r = az M fun i => t.T i l * V (t.bs i) r
def Tb.piv (t : Tb) (a q : Nat) : Tb where
 d := t.T a q
 T := fun k l => if k = a then (if l = q then t.d else t.T a l) else (if l = q then -t.T k q else (t.T k l * t.T a q - t.T k q * t.T a l) / t.d)
 bs := upd t.bs a (t.out q)
 out := upd t.out q (t.bs a)
theorem Zt (f g : Nat → Int) (n : Nat) : az n (fun k => f k - g k) = az n f - az n g := by
 have h := wz (fun k => f k - g k) g n
 have e : az n (fun k => f k - g k + g k) = az n f := bW fun k _ => by omega
 rw [e] at h
 omega
theorem Ew (f : Nat → Int) (v : Int) : ∀ {n c : Nat}, c < n → az n (upd f c v) = az n f - f c + v
 | 0, _, h => by omega
 | n + 1, c, h => by
   unfold az
   by_cases e : c = n
   · subst e
     rw [nW, bW (g := f) fun k hk => upd_ne f v (Nat.ne_of_lt hk)]
     omega
   · rw [upd_ne f v (fun z => e z.symm), Ew f v (by omega)]
     omega
theorem z7 (a : Nat → Int) (b : Nat → Int) (T : Nat → Nat → Int) (M : Nat) : ∀ n : Nat, az n (fun l => a l * az M (fun i => T i l * b i)) = az M fun i => az n (fun l => T i l * a l) * b i
 | 0 => by
   show 0 = _
   rw [fZ fun k _ => ?_]
   unfold az
   exact Int.zero_mul _
 | n + 1 => by
   have e := z7 a b T M n
   show az n _ + a n * az M (fun i => T i n * b i) = _
   rw [e, ← mU, ← wz]
   refine bW fun k _ => ?_
   show _ = (az n _ + T k n * a n) * b k
   grind
theorem Bv {m : Nat} (A : Mx) {c : Nat} {u v : Nat → Int} (h : ∀ r, r < m → u r = v r) : det m (upd A c u) = det m (upd A c v) := zY fun k r _ hr => by
 unfold upd
 by_cases e : k = c
 · rw [if_pos e, if_pos e, h r hr]
 · rw [if_neg e, if_neg e]
theorem cancel {a b c : Int} (h : 0 < a) (e : a * b = a * c) : b = c := Int.eq_of_mul_eq_mul_left (by omega) e
variable {t : Tb}
theorem Tb.Ok.entry (o : t.Ok V M n) {i l : Nat} (hi : i < M) (hl : l ≤ n) : t.T i l = det M (upd (fun i => V (t.bs i)) i (V (t.out l))) := by
 refine cancel o.dp ?_
 rw [← wA _ hi, Bv _ (o.lin l hl), IV _ hi (fun k => t.T k l) (fun k => V (t.bs k)), gG hi fun k hk hne => ?_]
 · have e : upd (fun i => V (t.bs i)) i (V (t.bs i)) = fun i => V (t.bs i) := upd_self (fun i => V (t.bs i)) i
   rw [e, o.dt]
   exact Int.mul_comm _ _
 · rw [Ja _ hi hk hne.symm (by rw [nW, upd_ne _ _ hne]), Int.mul_zero]
theorem Tb.Ok.exact_ (o : t.Ok V M n) {a q k l : Nat} (ha : a < M) (hq : q ≤ n) (hk : k < M) (hl : l ≤ n) (hka : k ≠ a) :
 t.d * det M (upd (upd (fun i => V (t.bs i)) a (V (t.out q))) k (V (t.out l))) = t.T k l * t.T a q - t.T k q * t.T a l := by
 rw [← wA _ hk, Bv _ (o.lin l hl), IV _ hk (fun k => t.T k l) (fun k => V (t.bs k))]
 have z : ∀ i, i < M → i ≠ k → i ≠ a → t.T i l * det M (upd (upd (fun i => V (t.bs i)) a (V (t.out q))) k (V (t.bs i))) = 0 := fun i hi h1 h2 => by
  rw [Ja _ hi hk h1 (by rw [upd_ne _ _ h1, upd_ne _ _ h2, nW]), Int.mul_zero]
 have e1 : upd (upd (fun i => V (t.bs i)) a (V (t.out q))) k (V (t.bs k)) = upd (fun i => V (t.bs i)) a (V (t.out q)) := by
  have := upd_self (upd (fun i => V (t.bs i)) a (V (t.out q))) k
  rw [upd_ne _ _ hka] at this
  exact this
 have e2 : det M (upd (upd (fun i => V (t.bs i)) a (V (t.out q))) k (V (t.bs a))) = -t.T k q := by
  rw [acR _ ha hk (fun z => hka z.symm), o.entry hk hq]
  have e : upd (fun i => V (t.bs i)) a (V (t.bs a)) = fun i => V (t.bs i) := upd_self (fun i => V (t.bs i)) a
  rw [e]
 rcases Nat.lt_or_gt_of_ne hka with h | h
 · rw [Kd ha h (fun i hi h1 h2 => z i hi h1 h2), e1, e2, ← o.entry ha hq]
   grind
 · rw [Kd hk h (fun i hi h1 h2 => z i hi h2 h1), e1, e2, ← o.entry ha hq]
   grind
theorem Tb.Ok.divides (o : t.Ok V M n) {a q k l : Nat} (ha : a < M) (hq : q ≤ n) (hk : k < M) (hl : l ≤ n) (hka : k ≠ a) :
 t.d * ((t.T k l * t.T a q - t.T k q * t.T a l) / t.d) = t.T k l * t.T a q - t.T k q * t.T a l := by
 rw [← o.exact_ ha hq hk hl hka, Int.mul_ediv_cancel_left _ (by have := o.dp; omega)]
theorem Tb.Ok.piv (o : t.Ok V M n) {a q : Nat} (ha : a < M) (hq : q ≤ n) (hp : 0 < t.T a q) : (t.piv a q).Ok V M n := by
 have eB : (fun i => V ((t.piv a q).bs i)) = upd (fun i => V (t.bs i)) a (V (t.out q)) := by
  funext i
  show V (upd t.bs a (t.out q) i) = _
  unfold upd
  split <;> rfl
 refine ⟨hp, ?_, fun l hl r hr => ?_⟩
 · rw [eB, ← o.entry ha hq]
   rfl
 · have hb : ∀ k, V ((t.piv a q).bs k) r = if k = a then V (t.out q) r else V (t.bs k) r := fun k => by
    have := congrFun (congrFun eB k) r
    rw [this]
    unfold upd
    split <;> rfl
   by_cases e : l = q
   · subst e
     have e1 : (t.piv a l).out l = t.bs a := nW _ _ _
     have e2 : (az M fun i => (t.piv a l).T i l * V ((t.piv a l).bs i) r) = az M (upd (fun i => -(t.T i l * V (t.bs i) r)) a (t.d * V (t.out l) r)) := bW fun k _ => by
      rw [hb]
      show (if k = a then (if l = l then t.d else _) else (if l = l then -t.T k l else _)) * _ = _
      unfold upd
      by_cases h : k = a
      · rw [if_pos h, if_pos h, if_pos rfl, if_pos h]
      · rw [if_neg h, if_neg h, if_pos rfl, if_neg h]
        grind
     have e3 : az M (fun i => -(t.T i l * V (t.bs i) r)) = -az M (fun i => t.T i l * V (t.bs i) r) := by
      have := mU (-1) (fun i => t.T i l * V (t.bs i) r) M
      rw [show -az M (fun i => t.T i l * V (t.bs i) r) = -1 * az M (fun i => t.T i l * V (t.bs i) r) by omega, ← this]
      exact bW fun k _ => by omega
     rw [e1, e2, Ew _ _ ha, e3, ← o.lin l hl r hr]
     show t.T a l * _ = _
     omega
   · refine cancel o.dp ?_
     have e1 : (t.piv a q).out l = t.out l := upd_ne _ _ e
     have e2 : t.d * (az M fun i => (t.piv a q).T i l * V ((t.piv a q).bs i) r) = az M (fun i => (t.T a q * (t.T i l * V (t.bs i) r) - t.T a l * (t.T i q * V (t.bs i) r)) + (if i = a then t.T a l * (t.d * V (t.out q) r) else 0)) := by
      rw [← mU]
      refine bW fun k hk => ?_
      rw [hb]
      show t.d * ((if k = a then (if l = q then _ else t.T a l) else (if l = q then _ else (t.T k l * t.T a q - t.T k q * t.T a l) / t.d)) * _) = _
      by_cases h : k = a
      · rw [if_pos h, if_neg e, if_pos h, if_pos h, h]
        grind
      · rw [if_neg h, if_neg e, if_neg h, if_neg h, ← Int.mul_assoc, o.divides ha hq hk hl h]
        grind
     rw [e1, e2, wz, Zt, mU, mU, ← o.lin l hl r hr, ← o.lin q hq r hr, gG ha fun k _ h => if_neg h, if_pos rfl]
     show t.d * (t.T a q * _) = _
     grind
def Tb.sol (V : Mx) (M n : Nat) (t : Tb) (x : Nat → Int) (r : Nat) : Int := az M (fun i => x (t.bs i) * V (t.bs i) r) + az (n + 1) (fun l => x (t.out l) * V (t.out l) r)
theorem Tb.sol_piv {a q : Nat} (ha : a < M) (hq : q ≤ n) (x : Nat → Int) (r : Nat) : (t.piv a q).sol V M n x r = t.sol V M n x r := by
 unfold Tb.sol
 have e1 : (fun i => x ((t.piv a q).bs i) * V ((t.piv a q).bs i) r) = upd (fun i => x (t.bs i) * V (t.bs i) r) a (x (t.out q) * V (t.out q) r) := by
  funext i
  show x (upd t.bs a (t.out q) i) * V (upd t.bs a (t.out q) i) r = _
  unfold upd
  split <;> rfl
 have e2 : (fun i => x ((t.piv a q).out i) * V ((t.piv a q).out i) r) = upd (fun i => x (t.out i) * V (t.out i) r) q (x (t.bs a) * V (t.bs a) r) := by
  funext i
  show x (upd t.out q (t.bs a) i) * V (upd t.out q (t.bs a) i) r = _
  unfold upd
  split <;> rfl
 rw [e1, e2, Ew _ _ ha, Ew _ _ (by omega)]
 omega
theorem Tb.Ok.sol_iff (o : t.Ok V M n) (x : Nat → Int) : (∀ r, r < M → t.sol V M n x r = 0) ↔ ∀ i, i < M → t.d * x (t.bs i) + az (n + 1) (fun l => t.T i l * x (t.out l)) = 0 := by
 have key : ∀ r, r < M → t.d * t.sol V M n x r = az M (fun i => (t.d * x (t.bs i) + az (n + 1) (fun l => t.T i l * x (t.out l))) * V (t.bs i) r) := fun r hr => by
  unfold Tb.sol
  have e1 : t.d * az (n + 1) (fun l => x (t.out l) * V (t.out l) r) = az (n + 1) (fun l => x (t.out l) * az M (fun i => t.T i l * V (t.bs i) r)) := by
   rw [← mU]
   refine bW fun l hl => ?_
   rw [← o.lin l (by omega) r hr]
   grind
  rw [Int.mul_add, e1, z7, ← mU, ← wz]
  refine bW fun k _ => ?_
  grind
 constructor
 · intro h k hk
   have z : det M (upd (fun i => V (t.bs i)) k (fun r => az M (fun i => (t.d * x (t.bs i) + az (n + 1) (fun l => t.T i l * x (t.out l))) * V (t.bs i) r))) = det M (upd (fun i => V (t.bs i)) k (fun _ => 0 * (0 : Int))) := Bv _ fun r hr => by
    rw [← key r hr, h r hr]
    omega
   rw [wA _ hk 0 (fun _ => 0), Int.zero_mul, IV _ hk (fun i => t.d * x (t.bs i) + az (n + 1) (fun l => t.T i l * x (t.out l))) (fun i => V (t.bs i)), gG hk fun i hi hne => ?_] at z
   · have e : upd (fun i => V (t.bs i)) k (V (t.bs k)) = fun i => V (t.bs i) := upd_self (fun i => V (t.bs i)) k
     rw [e, o.dt] at z
     rcases Int.mul_eq_zero.mp z with q | q
     · exact q
     · have := o.dp
       omega
   · rw [Ja _ hk hi hne.symm (by rw [nW, upd_ne _ _ hne]), Int.mul_zero]
 · intro h r hr
   refine cancel o.dp ?_
   rw [key r hr, fZ fun i hi => ?_]
   · omega
   · rw [h i hi, Int.zero_mul]
end
end L
namespace L
theorem Rc {f : Nat → Int} : ∀ {n : Nat}, az n f < 0 → ∃ k, k < n ∧ f k < 0
 | 0, h => by
   unfold az at h
   omega
 | n + 1, h => by
   unfold az at h
   by_cases q : f n < 0
   · exact ⟨n, Nat.lt_succ_self n, q⟩
   · obtain ⟨k, h1, h2⟩ := Rc (f := f) (n := n) (by omega)
     exact ⟨k, Nat.lt_succ_of_lt h1, h2⟩
section
variable {V : Mx} {N m n z rh : Nat}
structure Tb.Lab (N m n z rh : Nat) (t : Tb) : Prop where
 bz : t.bs m = z
 orh : t.out n = rh
 zN : N ≤ z
 rN : N ≤ rh
 zr : z ≠ rh
 bl : ∀ i, i < m → t.bs i < N
 ol : ∀ l, l < n → t.out l < N
 bi : ∀ i j, i < m → j < m → t.bs i = t.bs j → i = j
 oi : ∀ i j, i < n → j < n → t.out i = t.out j → i = j
 bo : ∀ i l, i < m → l < n → t.bs i ≠ t.out l
theorem Tb.Lab.piv {t : Tb} (L : t.Lab N m n z rh) {a q : Nat} (ha : a < m) (hq : q < n) : (t.piv a q).Lab N m n z rh := by
 have b' : ∀ i, (t.piv a q).bs i = if i = a then t.out q else t.bs i := fun i => rfl
 have o' : ∀ l, (t.piv a q).out l = if l = q then t.bs a else t.out l := fun i => rfl
 refine ⟨?_, ?_, L.zN, L.rN, L.zr, fun i hi => ?_, fun l hl => ?_, fun i j hi hj e => ?_, fun i j hi hj e => ?_, fun i l hi hl e => ?_⟩
 · rw [b', if_neg (by omega), L.bz]
 · rw [o', if_neg (by omega), L.orh]
 · rw [b']
   split
   · exact L.ol q hq
   · exact L.bl i hi
 · rw [o']
   split
   · exact L.bl a ha
   · exact L.ol l hl
 · rw [b', b'] at e
   split at e <;> split at e
   · omega
   · exact absurd e.symm (L.bo j q hj hq)
   · exact absurd e (L.bo i q hi hq)
   · exact L.bi i j hi hj e
 · rw [o', o'] at e
   split at e <;> split at e
   · omega
   · exact absurd e (L.bo a j ha hj)
   · exact absurd e.symm (L.bo a i ha hi)
   · exact L.oi i j hi hj e
 · rw [b', o'] at e
   split at e <;> split at e
   · exact L.bo a q ha hq e.symm
   · rename_i h1 h2
     exact h2 (L.oi q l hq hl e).symm
   · rename_i h1 h2
     exact h1 (L.bi i a hi ha e)
   · exact L.bo i l hi hl e
def Tb.dir (t : Tb) (m q : Nat) (u : Nat) : Int := if u = t.out q then t.d else az (m + 1) fun i => if t.bs i = u then -t.T i q else 0
section
variable {t : Tb}
theorem Tb.Lab.dir_in (L : t.Lab N m n z rh) {q : Nat} : t.dir m q (t.out q) = t.d := if_pos rfl
theorem Tb.Lab.bne (L : t.Lab N m n z rh) {i j : Nat} (hi : i < m + 1) (hj : j < m + 1) (e : t.bs i = t.bs j) : i = j := by
 by_cases h1 : i = m
 · by_cases h2 : j = m
   · omega
   · have := L.bl j (by omega)
     rw [h1, L.bz] at e
     have := L.zN
     omega
 · by_cases h2 : j = m
   · have := L.bl i (by omega)
     rw [h2, L.bz] at e
     have := L.zN
     omega
   · exact L.bi i j (by omega) (by omega) e
theorem Tb.Lab.dir_bs (L : t.Lab N m n z rh) {q i : Nat} (hq : q < n) (hi : i < m + 1) : t.dir m q (t.bs i) = -t.T i q := by
 unfold Tb.dir
 rw [if_neg, gG hi fun k hk hne => if_neg fun e => hne (L.bne hk hi e), if_pos rfl]
 intro e
 by_cases h : i = m
 · have := L.ol q hq
   rw [h, L.bz] at e
   have := L.zN
   omega
 · exact L.bo i q (by omega) hq e
theorem Tb.dir_no {q u : Nat} (h1 : u ≠ t.out q) (h2 : ∀ i, i < m + 1 → t.bs i ≠ u) : t.dir m q u = 0 := by
 unfold Tb.dir
 rw [if_neg h1]
 exact fZ fun k hk => if_neg (h2 k hk)
theorem Tb.Lab.dir_out (L : t.Lab N m n z rh) {q l : Nat} (hq : q < n) (hl : l < n + 1) (h : l ≠ q) : t.dir m q (t.out l) = 0 := by
 refine Tb.dir_no (fun e => ?_) fun i hi e => ?_
 · by_cases h1 : l = n
   · have := L.ol q hq
     rw [h1, L.orh] at e
     have := L.rN
     omega
   · exact h (L.oi l q (by omega) hq e)
 · by_cases h1 : l = n
   · rw [h1, L.orh] at e
     by_cases h2 : i = m
     · rw [h2, L.bz] at e
       exact L.zr e
     · have := L.bl i (by omega)
       have := L.rN
       omega
   · by_cases h2 : i = m
     · have := L.ol l (by omega)
       rw [h2, L.bz] at e
       have := L.zN
       omega
     · exact L.bo i l (by omega) (by omega) e
theorem Tb.Ok.dir_sol (o : t.Ok V (m + 1) n) (L : t.Lab N m n z rh) {q : Nat} (hq : q < n) : ∀ r, r < m + 1 → t.sol V (m + 1) n (t.dir m q) r = 0 := by
 rw [o.sol_iff]
 intro i hi
 rw [L.dir_bs hq hi, gG (c := q) (by omega) fun k hk h => by rw [L.dir_out hq hk h, Int.mul_zero], L.dir_in]
 grind
end
theorem Rg {t t' : Tb} (o : t.Ok V (m + 1) n) (o' : t'.Ok V (m + 1) n) (L : t.Lab N m n z rh) (L' : t'.Lab N m n z rh) (same : ∀ x r, t.sol V (m + 1) n x r = t'.sol V (m + 1) n x r)
 {q a : Nat} (hq : q < n) (ha : a < m) (hc : t.T m q < 0) (hp : 0 < t.T a q)
 (rule : ∀ i, i < m → 0 < t.T i q → t.T i n = 0 → t.bs a ≤ t.bs i) (lt : t.out q < t.bs a)
 {q' : Nat} (hq' : q' < n) (he : t'.out q' = t.bs a) (hc' : t'.T m q' < 0) (rule' : ∀ l, l < n → t'.T m l < 0 → t.bs a ≤ t'.out l)
 (st : ∀ l, l < n → t.bs a < t'.out l → ∃ l', l' < n ∧ t.out l' = t'.out l)
 (val : ∀ i, i < m → (∃ l, l < n ∧ t'.out l = t.bs i) → t.T i n = 0) : False := by
 have s := o.dir_sol L hq
 have s' := (o'.sol_iff (t.dir m q)).mp fun r hr => by rw [← same]; exact s r hr
 have e := s' m (by omega)
 have dz : t.dir m q (t'.bs m) = -t.T m q := by
  rw [L'.bz, ← L.bz]
  exact L.dir_bs hq (by omega)
 rw [dz] at e
 have hpos : 0 < t'.d * -t.T m q := Int.mul_pos o'.dp (by omega)
 obtain ⟨l, hl, neg⟩ := Rc (f := fun l => t'.T m l * t.dir m q (t'.out l)) (n := n + 1) (by omega)
 by_cases h1 : l = n
 · rw [h1, L'.orh, ← L.orh, L.dir_out hq (by omega) (by omega), Int.mul_zero] at neg
   omega
 have hl : l < n := by omega
 by_cases h2 : t'.out l = t.out q
 · rw [h2, L.dir_in] at neg
   have : t'.T m l < 0 := by
    refine Int.not_le.mp fun h => ?_
    have := Int.mul_nonneg h (Int.le_of_lt o.dp)
    omega
   have := rule' l hl this
   omega
 by_cases h3 : ∃ i, i < m + 1 ∧ t.bs i = t'.out l
 · obtain ⟨i, hi, ei⟩ := h3
   have him : i < m := by
    by_cases h : i = m
    · have := L'.ol l hl
      rw [h, L.bz] at ei
      have := L.zN
      omega
    · omega
   rw [← ei, L.dir_bs hq hi] at neg
   rcases Nat.lt_trichotomy (t'.out l) (t.bs a) with g | g | g
   · have nn : 0 ≤ t'.T m l := Int.not_lt.mp fun h => by
      have := rule' l hl h
      omega
     have tp : 0 < t.T i q := by
      refine Int.not_le.mp fun h => ?_
      have := Int.mul_nonneg nn (show 0 ≤ -t.T i q by omega)
      omega
     have := rule i him tp (val i him ⟨l, hl, ei.symm⟩)
     omega
   · have e1 : l = q' := L'.oi l q' hl hq' (g.trans he.symm)
     have e2 : i = a := L.bi i a him ha (ei.trans g)
     rw [e1, e2] at neg
     have := Int.mul_pos_of_neg_of_neg hc' (show -t.T a q < 0 by omega)
     omega
   · obtain ⟨l', h4, h5⟩ := st l hl g
     exact L.bo i l' him h4 (ei.trans h5.symm)
 · rw [Tb.dir_no h2 fun i hi e => h3 ⟨i, hi, e⟩, Int.mul_zero] at neg
   omega
def Tb.isOut (t : Tb) (n u : Nat) : Prop := ∃ l, l < n ∧ t.out l = u
theorem Xo {t : Tb} {a q u : Nat} (h1 : t.out q ≠ u) (h2 : t.bs a ≠ u) : (t.piv a q).isOut n u ↔ t.isOut n u := by
 have o' : ∀ l, (t.piv a q).out l = if l = q then t.bs a else t.out l := fun i => rfl
 constructor
 · rintro ⟨l, hl, e⟩
   rw [o'] at e
   split at e
   · exact absurd e h2
   · exact ⟨l, hl, e⟩
 · rintro ⟨l, hl, e⟩
   refine ⟨l, hl, ?_⟩
   rw [o', if_neg fun h => h1 (by rw [← h]; exact e)]
   exact e
def Tb.at_ (t : Tb) (m n : Nat) (X : Nat → Int) (D0 : Int) : Prop := (∀ i, i < m → t.T i n * D0 = X (t.bs i) * t.d) ∧ ∀ l, l < n → X (t.out l) = 0
structure Run (V : Mx) (N m n z rh : Nat) (tb : Nat → Tb) (ent lev : Nat → Nat) (K : Nat) : Prop where
 ok : (tb 0).Ok V (m + 1) n
 lab : (tb 0).Lab N m n z rh
 st : ∀ i, i < K → tb (i + 1) = (tb i).piv (lev i) (ent i)
 hq : ∀ i, i < K → ent i < n
 ha : ∀ i, i < K → lev i < m
 hc : ∀ i, i < K → (tb i).T m (ent i) < 0
 hp : ∀ i, i < K → 0 < (tb i).T (lev i) (ent i)
 er : ∀ i, i < K → ∀ l, l < n → (tb i).T m l < 0 → (tb i).out (ent i) ≤ (tb i).out l
 lr : ∀ i, i < K → ∀ k, k < m → 0 < (tb i).T k (ent i) → (tb i).T k n = 0 → (tb i).bs (lev i) ≤ (tb i).bs k
 dg : ∀ i, i < K → (tb i).T (lev i) n = 0
section
variable {tb : Nat → Tb} {ent lev : Nat → Nat} {K : Nat}
theorem Run.all (R : Run V N m n z rh tb ent lev K) : ∀ i, i ≤ K → (tb i).Ok V (m + 1) n ∧ (tb i).Lab N m n z rh
 | 0, _ => ⟨R.ok, R.lab⟩
 | i + 1, h => by
   obtain ⟨h1, h2⟩ := R.all i (by omega)
   rw [R.st i (by omega)]
   have ha := R.ha i (by omega)
   have hq := R.hq i (by omega)
   exact ⟨h1.piv (by omega) (by omega) (R.hp i (by omega)), h2.piv ha hq⟩
theorem Run.same (R : Run V N m n z rh tb ent lev K) (x : Nat → Int) (r : Nat) : ∀ i, i ≤ K → (tb i).sol V (m + 1) n x r = (tb 0).sol V (m + 1) n x r
 | 0, _ => rfl
 | i + 1, h => by
   have ha := R.ha i (by omega)
   have hq := R.hq i (by omega)
   rw [R.st i (by omega), Tb.sol_piv (by omega) (by omega), R.same x r i (by omega)]
theorem Run.point (R : Run V N m n z rh tb ent lev K) {X : Nat → Int} {D0 : Int} (h0 : (tb 0).at_ m n X D0) : ∀ i, i ≤ K → (tb i).at_ m n X D0
 | 0, _ => h0
 | i + 1, h => by
   have hi : i < K := by omega
   obtain ⟨p1, p2⟩ := R.point h0 i (by omega)
   obtain ⟨o, L⟩ := R.all i (by omega)
   have ha := R.ha i hi
   have hq := R.hq i hi
   have dg := R.dg i hi
   have hp := R.hp i hi
   rw [R.st i hi]
   have b' : ∀ k, ((tb i).piv (lev i) (ent i)).bs k = if k = lev i then (tb i).out (ent i) else (tb i).bs k := fun i => rfl
   have o' : ∀ l, ((tb i).piv (lev i) (ent i)).out l = if l = ent i then (tb i).bs (lev i) else (tb i).out l := fun i => rfl
   have d' : ((tb i).piv (lev i) (ent i)).d = (tb i).T (lev i) (ent i) := rfl
   have X0 : X ((tb i).bs (lev i)) = 0 := by
    have := p1 (lev i) ha
    rw [dg, Int.zero_mul] at this
    rcases Int.mul_eq_zero.mp this.symm with q | q
    · exact q
    · have := o.dp
      omega
   refine ⟨fun k hk => ?_, fun l hl => ?_⟩
   · rw [b', d']
     by_cases e : k = lev i
     · rw [if_pos e, p2 _ hq, e]
       show (if lev i = lev i then (if n = ent i then _ else (tb i).T (lev i) n) else _) * D0 = _
       rw [if_pos rfl, if_neg (by omega), dg, Int.zero_mul, Int.zero_mul]
     · rw [if_neg e]
       have t' : ((tb i).piv (lev i) (ent i)).T k n = ((tb i).T k n * (tb i).T (lev i) (ent i) - (tb i).T k (ent i) * (tb i).T (lev i) n) / (tb i).d := by
        show (if k = lev i then _ else (if n = ent i then _ else _)) = _
        rw [if_neg e, if_neg (by omega)]
       refine cancel o.dp ?_
       rw [t', ← Int.mul_assoc, o.divides (by omega) (by omega) (by omega) (Nat.le_refl n) e, dg]
       have := p1 k hk
       grind
   · rw [o']
     split
     · exact X0
     · exact p2 l hl
theorem Run.stays (R : Run V N m n z rh tb ent lev K) {u a : Nat} : ∀ b, a ≤ b → b ≤ K → (∀ i, a ≤ i → i < b → (tb i).out (ent i) ≠ u ∧ (tb i).bs (lev i) ≠ u) → ((tb b).isOut n u ↔ (tb a).isOut n u)
 | 0, h, _, _ => by
   have : a = 0 := by omega
   rw [this]
 | b + 1, h, hb, hn => by
   by_cases e : a = b + 1
   · rw [e]
   · have q := hn b (by omega) (by omega)
     rw [R.st b (by omega), Xo q.1 q.2]
     exact R.stays b (by omega) (by omega) fun i h1 h2 => hn i h1 (by omega)
theorem Run.once (R : Run V N m n z rh tb ent lev K) {X : Nat → Int} {D0 : Int} (hD : 0 < D0) (h0 : (tb 0).at_ m n X D0) {w a b i0 i1 : Nat} (hb : b ≤ K) (le : ∀ i, a ≤ i → i < b → (tb i).out (ent i) ≤ w ∧ (tb i).bs (lev i) ≤ w)
 (h1 : a ≤ i0) (h2 : i0 < i1) (h3 : i1 < b) (p0 : (tb i0).out (ent i0) = w ∨ (tb i0).bs (lev i0) = w) (p1 : (tb i1).out (ent i1) = w ∨ (tb i1).bs (lev i1) = w)
 (no : ∀ i, i0 < i → i < i1 → (tb i).out (ent i) ≠ w ∧ (tb i).bs (lev i) ≠ w) : False := by
 obtain ⟨o0, L0⟩ := R.all i0 (by omega)
 obtain ⟨o1, L1⟩ := R.all i1 (by omega)
 have q0 := R.hq i0 (by omega)
 have a0 := R.ha i0 (by omega)
 have q1 := R.hq i1 (by omega)
 have a1 := R.ha i1 (by omega)
 have le0 := le i0 (by omega) (by omega)
 have le1 := le i1 (by omega) (by omega)
 have sw := R.stays (u := w) (a := i0 + 1) i1 (by omega) (by omega) fun i h4 h5 => no i (by omega) h5
 have o' : ∀ l, (tb (i0 + 1)).out l = if l = ent i0 then (tb i0).bs (lev i0) else (tb i0).out l := fun l => by rw [R.st i0 (by omega)]; rfl
 have su : ∀ u, w < u → ((tb i1).isOut n u ↔ (tb i0).isOut n u) := fun u hu => R.stays i1 (by omega) (by omega) fun i h4 h5 => by
  have := le i (by omega) (by omega)
  exact ⟨by omega, by omega⟩
 have same : ∀ x r, (tb i0).sol V (m + 1) n x r = (tb i1).sol V (m + 1) n x r := fun x r => by rw [R.same x r i0 (by omega), R.same x r i1 (by omega)]
 obtain ⟨x0, y0⟩ := R.point h0 i0 (by omega)
 obtain ⟨x1, y1⟩ := R.point h0 i1 (by omega)
 have zero : ∀ {c D d : Int}, 0 < D → c * D = 0 * d → c = 0 := fun {c D d} hD e => by
  rw [Int.zero_mul] at e
  rcases Int.mul_eq_zero.mp e with q | q
  · exact q
  · omega
 rcases p0 with p0 | p0
 · have nw : ¬ (tb (i0 + 1)).isOut n w := by
    rintro ⟨l, hl, e⟩
    rw [o'] at e
    split at e
    · exact L0.bo (lev i0) (ent i0) a0 q0 (e.trans p0.symm)
    · rename_i h
      exact h (L0.oi l (ent i0) hl q0 (e.trans p0.symm))
   have p1 : (tb i1).bs (lev i1) = w := by
    rcases p1 with p1 | p1
    · exact absurd (sw.mp ⟨_, q1, p1⟩) nw
    · exact p1
   have ne := L1.bo (lev i1) (ent i1) a1 q1
   refine Rg o1 o0 L1 L0 (fun x r => (same x r).symm) q1 a1 (R.hc i1 (by omega)) (R.hp i1 (by omega)) (R.lr i1 (by omega)) (by omega) q0 (p0.trans p1.symm) (R.hc i0 (by omega)) (fun l hl h => ?_) (fun l hl h => ?_) fun i hi ⟨l, hl, e⟩ => ?_
   · have := R.er i0 (by omega) l hl h
     omega
   · rw [p1] at h
     exact (su _ h).mpr ⟨l, hl, rfl⟩
   · have := x1 i hi
     rw [← e, y0 l hl] at this
     exact zero hD this
 · have nw : (tb (i0 + 1)).isOut n w := ⟨ent i0, q0, by rw [o', if_pos rfl, p0]⟩
   obtain ⟨l, hl, el⟩ := sw.mpr nw
   have p1 : (tb i1).out (ent i1) = w := by
    rcases p1 with p1 | p1
    · exact p1
    · exact absurd (p1.trans el.symm) (L1.bo _ _ a1 hl)
   have ne := L0.bo (lev i0) (ent i0) a0 q0
   refine Rg o0 o1 L0 L1 same q0 a0 (R.hc i0 (by omega)) (R.hp i0 (by omega)) (R.lr i0 (by omega)) (by omega) q1 (p1.trans p0.symm) (R.hc i1 (by omega)) (fun l hl h => ?_) (fun l hl h => ?_) fun i hi ⟨l, hl, e⟩ => ?_
   · have := R.er i1 (by omega) l hl h
     omega
   · rw [p0] at h
     exact (su _ h).mp ⟨l, hl, rfl⟩
   · have := x0 i hi
     rw [← e, y1 l hl] at this
     exact zero hD this
theorem abg {P : Nat → Prop} {i0 i1 : Nat} (h : i0 < i1) (p : P i1) : ∃ i, i0 < i ∧ i ≤ i1 ∧ P i ∧ ∀ j, i0 < j → j < i → ¬ P j := by
 induction i1 using Nat.strongRecOn with
 | ind i1 ih =>
   by_cases e : ∃ j, i0 < j ∧ j < i1 ∧ P j
   · obtain ⟨j, h1, h2, h3⟩ := e
     obtain ⟨i, g1, g2, g3⟩ := ih j h2 h1 h3
     exact ⟨i, g1, by omega, g3⟩
   · exact ⟨i1, h, Nat.le_refl _, p, fun j h1 h2 h3 => e ⟨j, h1, h2, h3⟩⟩
theorem Run.short (R : Run V N m n z rh tb ent lev K) {X : Nat → Int} {D0 : Int} (hD : 0 < D0) (h0 : (tb 0).at_ m n X D0) : ∀ (w a b : Nat), a ≤ b → b ≤ K → (∀ i, a ≤ i → i < b → (tb i).out (ent i) < w ∧ (tb i).bs (lev i) < w) → b - a < 2 ^ w
 | 0, a, b, h1, h2, h3 => by
   by_cases e : a = b
   · rw [e, Nat.sub_self]
     decide
   · have := h3 a (Nat.le_refl a) (by omega)
     omega
 | w + 1, a, b, h1, h2, h3 => by
   have pw : 2 ^ (w + 1) = 2 ^ w + 2 ^ w := by rw [Nat.pow_succ]; omega
   by_cases e : ∃ i, a ≤ i ∧ i < b ∧ ((tb i).out (ent i) = w ∨ (tb i).bs (lev i) = w)
   · obtain ⟨i, hi1, hi2, p⟩ := e
     have nxt : ∀ j k, a ≤ j → j < k → k < b → ((tb j).out (ent j) = w ∨ (tb j).bs (lev j) = w) → ((tb k).out (ent k) = w ∨ (tb k).bs (lev k) = w) → False := fun j k h4 h5 h6 p0 p1 => by
      obtain ⟨k', g1, g2, g3, g4⟩ := abg (P := fun k => (tb k).out (ent k) = w ∨ (tb k).bs (lev k) = w) h5 p1
      exact R.once hD h0 (a := a) (b := b) (w := w) h2 (fun i h7 h8 => by have := h3 i h7 h8; omega) h4 g1 (by omega) p0 g3 fun i h7 h8 => ⟨fun z => g4 i h7 h8 (.inl z), fun z => g4 i h7 h8 (.inr z)⟩
     have s1 := R.short hD h0 w a i hi1 (by omega) fun j h4 h5 => by
      have := h3 j h4 (by omega)
      have n1 : (tb j).out (ent j) ≠ w := fun z => nxt j i h4 h5 hi2 (.inl z) p
      have n2 : (tb j).bs (lev j) ≠ w := fun z => nxt j i h4 h5 hi2 (.inr z) p
      omega
     have s2 := R.short hD h0 w (i + 1) b (by omega) h2 fun j h4 h5 => by
      have := h3 j (by omega) h5
      have n1 : (tb j).out (ent j) ≠ w := fun z => nxt i j hi1 (by omega) h5 p (.inl z)
      have n2 : (tb j).bs (lev j) ≠ w := fun z => nxt i j hi1 (by omega) h5 p (.inr z)
      omega
     omega
   · have := R.short hD h0 w a b h1 h2 fun i h4 h5 => by
      have := h3 i h4 h5
      have n1 : (tb i).out (ent i) ≠ w := fun z => e ⟨i, h4, h5, .inl z⟩
      have n2 : (tb i).bs (lev i) ≠ w := fun z => e ⟨i, h4, h5, .inr z⟩
      omega
     omega
theorem Run.bound (R : Run V N m n z rh tb ent lev K) {X : Nat → Int} {D0 : Int} (hD : 0 < D0) (h0 : (tb 0).at_ m n X D0) : K < 2 ^ N := by
 have := R.short hD h0 N 0 K (Nat.zero_le K) (Nat.le_refl K) fun i h1 h2 => by
  obtain ⟨o, L⟩ := R.all i (by omega)
  exact ⟨L.ol _ (R.hq i h2), L.bl _ (R.ha i h2)⟩
 omega
end
end
end L
namespace L
structure Sy where
 p : Nat
 q : Nat
 st : Nat → Int
 col : Nat → Nat → Int
abbrev Sy.n (s : Sy) : Nat := s.q + 1
abbrev Sy.m (s : Sy) : Nat := s.p + 1
abbrev Sy.N (s : Sy) : Nat := s.n + s.m
def Sy.T (s : Sy) (i j : Nat) : Int :=
 if i < s.p then (if j = 0 then s.st i else if j < s.n then -s.col (j - 1) i else 0)
 else if i = s.p then (if j = 0 then 0 else 1)
 else if j = 0 then -1 else 0
def Sy.t (s : Sy) : Tb where
 d := 1
 T := s.T
 bs := fun i => s.n + i
 out := fun l => if l < s.n then l else s.N + 1
def Sy.V (s : Sy) (u r : Nat) : Int := if u < s.n then s.T r u else if u ≤ s.N then (if u = s.n + r then 1 else 0) else s.T r s.n
theorem Sy.hm (s : Sy) : s.m = s.p + 1 := rfl
theorem Sy.hn (s : Sy) : s.n = s.q + 1 := rfl
theorem Sy.hN (s : Sy) : s.N = s.n + s.m := rfl
section
variable {s : Sy}
theorem Sy.lab (s : Sy) : s.t.Lab s.N s.m s.n s.N (s.N + 1) := by
 have hm := s.hm
 have hn := s.hn
 have hN := s.hN
 have o : ∀ l, s.t.out l = if l < s.n then l else s.N + 1 := fun l => rfl
 have b : ∀ i, s.t.bs i = s.n + i := fun i => rfl
 refine ⟨rfl, ?_, Nat.le_refl _, by omega, by omega, fun i hi => ?_, fun l hl => ?_, fun i j hi hj e => ?_, fun i j hi hj e => ?_, fun i l hi hl e => ?_⟩
 · rw [o, if_neg (by omega)]
 · rw [b]
   show s.n + i < s.n + s.m
   omega
 · rw [o, if_pos hl]
   show l < s.n + s.m
   omega
 · rw [b, b] at e
   omega
 · rw [o, o, if_pos hi, if_pos hj] at e
   exact e
 · rw [o, b, if_pos hl] at e
   omega
theorem Sy.ok (s : Sy) : s.t.Ok s.V (s.m + 1) s.n := by
 have hm := s.hm
 have hn := s.hn
 have hN := s.hN
 have vb : ∀ i r, i < s.m + 1 → s.V (s.t.bs i) r = if i = r then 1 else 0 := fun i r hi => by
  show s.V (s.n + i) r = _
  unfold Sy.V
  rw [if_neg (by omega), if_pos (by show s.n + i ≤ s.n + s.m; omega)]
  by_cases e : i = r
  · rw [if_pos (by omega), if_pos e]
  · rw [if_neg (by omega), if_neg e]
 have vo : ∀ l r, l ≤ s.n → s.V (s.t.out l) r = s.T r l := fun l r hl => by
  show s.V (if l < s.n then l else s.N + 1) r = _
  by_cases e : l < s.n
  · rw [if_pos e]
    unfold Sy.V
    rw [if_pos e]
  · rw [if_neg e]
    unfold Sy.V
    rw [if_neg (by show ¬ s.n + s.m + 1 < s.n; omega), if_neg (by omega), show l = s.n by omega]
 refine ⟨by show (0 : Int) < 1; decide, ?_, fun l hl r hr => ?_⟩
 · rw [zY (B := fun c r => if c = r then 1 else 0) fun c r hc hr => vb c r hc, Ul]
   rfl
 · rw [vo l r hl, bW (g := fun i => s.T i l * if i = r then 1 else 0) fun i hi => by rw [vb i r hi]; rfl, gG hr fun k hk h => by rw [if_neg h, Int.mul_zero], if_pos rfl]
   show 1 * _ = _ * 1
   omega
structure On (s : Sy) (t : Tb) : Prop where
 ok : t.Ok s.V (s.m + 1) s.n
 lab : t.Lab s.N s.m s.n s.N (s.N + 1)
 sol : ∀ x r, t.sol s.V (s.m + 1) s.n x r = s.t.sol s.V (s.m + 1) s.n x r
 nn : ∀ i, i < s.m → 0 ≤ t.T i s.n
theorem Sy.on (s : Sy) : On s s.t := ⟨s.ok, s.lab, fun _ _ => rfl, fun i hi => by
 have hm := s.hm
 have hn := s.hn
 have hN := s.hN
 show 0 ≤ s.T i s.n
 unfold Sy.T
 split
 · rw [if_neg (by omega), if_neg (by omega)]
   omega
 · split
   · rw [if_neg (by omega)]
     decide
   · omega⟩
variable {t : Tb}
theorem On.piv (o : On s t) {a q : Nat} (ha : a < s.m) (hq : q < s.n) (hp : 0 < t.T a q) (rule : ∀ k, k < s.m → 0 < t.T k q → t.T a s.n * t.T k q ≤ t.T k s.n * t.T a q) : On s (t.piv a q) := by
 have hm := s.hm
 have hn := s.hn
 have hN := s.hN
 refine ⟨o.ok.piv (by omega) (by omega) hp, o.lab.piv ha hq, fun x r => by rw [Tb.sol_piv (by omega) (by omega), o.sol], fun i hi => ?_⟩
 show 0 ≤ if i = a then (if s.n = q then t.d else t.T a s.n) else (if s.n = q then -t.T i q else (t.T i s.n * t.T a q - t.T i q * t.T a s.n) / t.d)
 by_cases e : i = a
 · rw [if_pos e, if_neg (by omega)]
   exact o.nn a ha
 · rw [if_neg e, if_neg (by omega)]
   refine Int.ediv_nonneg ?_ (Int.le_of_lt o.ok.dp)
   have h1 := Int.mul_nonneg (o.nn i hi) (Int.le_of_lt hp)
   by_cases g : 0 < t.T i q
   · have := rule i hi g
     have e : t.T a s.n * t.T i q = t.T i q * t.T a s.n := Int.mul_comm _ _
     omega
   · have h2 := Int.mul_nonneg (show 0 ≤ -t.T i q by omega) (o.nn a ha)
     have e : -t.T i q * t.T a s.n = -(t.T i q * t.T a s.n) := Int.neg_mul _ _
     omega
theorem On.gain (o : On s t) {a q : Nat} (ha : a < s.m) (hq : q < s.n) (h0 : t.T s.m s.n = 0) (hc : t.T s.m q < 0) (hz : (t.piv a q).T s.m s.n = 0) : t.T a s.n = 0 := by
 have hm := s.hm
 have hn := s.hn
 have hN := s.hN
 have e : (t.piv a q).T s.m s.n = (t.T s.m s.n * t.T a q - t.T s.m q * t.T a s.n) / t.d := by
  show (if s.m = a then _ else (if s.n = q then _ else _)) = _
  rw [if_neg (by omega), if_neg (by omega)]
 have d := o.ok.divides (a := a) (q := q) (k := s.m) (l := s.n) (by omega) (by omega) (by omega) (Nat.le_refl _) (by omega)
 rw [← e, hz, h0] at d
 rcases Int.mul_eq_zero.mp (show t.T s.m q * t.T a s.n = 0 by omega) with g | g
 · omega
 · exact g
theorem On.rows (o : On s t) {x : Nat → Int} (h : ∀ i, i < s.m + 1 → t.d * x (t.bs i) + az (s.n + 1) (fun l => t.T i l * x (t.out l)) = 0) : ∀ i, i < s.m + 1 → x (s.n + i) + (az s.n (fun j => s.T i j * x j) + s.T i s.n * x (s.N + 1)) = 0 := by
 have hm := s.hm
 have hn := s.hn
 have hN := s.hN
 have h1 := (o.ok.sol_iff x).mpr h
 have h2 := (s.ok.sol_iff x).mp fun r hr => by rw [← o.sol]; exact h1 r hr
 intro i hi
 have := h2 i hi
 have e1 : s.t.d * x (s.t.bs i) = x (s.n + i) := Int.one_mul _
 have e2 : az (s.n + 1) (fun l => s.t.T i l * x (s.t.out l)) = az s.n (fun j => s.T i j * x j) + s.T i s.n * x (s.N + 1) := by
  show az s.n _ + s.T i s.n * x (if s.n < s.n then s.n else s.N + 1) = _
  rw [if_neg (by omega), bW fun j hj => ?_]
  show s.T i j * x (if j < s.n then j else s.N + 1) = _
  rw [if_pos hj]
 rw [e1, e2] at this
 exact this
theorem On.rows' (o : On s t) {x : Nat → Int} (h : ∀ i, i < s.m + 1 → x (s.n + i) + (az s.n (fun j => s.T i j * x j) + s.T i s.n * x (s.N + 1)) = 0) : ∀ i, i < s.m + 1 → t.d * x (t.bs i) + az (s.n + 1) (fun l => t.T i l * x (t.out l)) = 0 := by
 have hm := s.hm
 have hn := s.hn
 have hN := s.hN
 refine (o.ok.sol_iff x).mp fun r hr => ?_
 rw [o.sol]
 refine (s.ok.sol_iff x).mpr (fun i hi => ?_) r hr
 have := h i hi
 have e1 : s.t.d * x (s.t.bs i) = x (s.n + i) := Int.one_mul _
 have e2 : az (s.n + 1) (fun l => s.t.T i l * x (s.t.out l)) = az s.n (fun j => s.T i j * x j) + s.T i s.n * x (s.N + 1) := by
  show az s.n _ + s.T i s.n * x (if s.n < s.n then s.n else s.N + 1) = _
  rw [if_neg (by omega), bW fun j hj => ?_]
  show s.T i j * x (if j < s.n then j else s.N + 1) = _
  rw [if_pos hj]
 rw [e1, e2]
 exact this
theorem Sy.row_lt (s : Sy) {i : Nat} (hi : i < s.p) (x : Nat → Int) : az s.n (fun j => s.T i j * x j) = s.st i * x 0 - az s.q (fun l => s.col l i * x (l + 1)) := by
 have hm := s.hm
 have hn := s.hn
 have hN := s.hN
 have e : ∀ k : Nat, k ≤ s.q → az (k + 1) (fun j => s.T i j * x j) = s.st i * x 0 - az k (fun l => s.col l i * x (l + 1)) := by
  intro k
  induction k with
  | zero =>
    intro _
    show 0 + s.T i 0 * x 0 = _
    unfold Sy.T
    rw [if_pos hi, if_pos rfl]
    show _ = _ - 0
    omega
  | succ k ih =>
    intro hk
    have t1 : s.T i (k + 1) = -s.col k i := by
     unfold Sy.T
     rw [if_pos hi, if_neg (by omega), if_pos (by show k + 1 < s.q + 1; omega)]
     rfl
    show az (k + 1) _ + s.T i (k + 1) * x (k + 1) = _ - (az k _ + s.col k i * x (k + 1))
    rw [ih (by omega), t1, Int.neg_mul]
    omega
 exact e s.q (Nat.le_refl _)
theorem Sy.row_p (s : Sy) (x : Nat → Int) : az s.n (fun j => s.T s.p j * x j) = az s.q (fun l => x (l + 1)) := by
 have hm := s.hm
 have hn := s.hn
 have hN := s.hN
 have e : ∀ k : Nat, az (k + 1) (fun j => s.T s.p j * x j) = az k (fun l => x (l + 1)) := by
  intro k
  induction k with
  | zero =>
    show 0 + s.T s.p 0 * x 0 = 0
    unfold Sy.T
    rw [if_neg (by omega), if_pos rfl, if_pos rfl]
    omega
  | succ k ih =>
    show az (k + 1) _ + s.T s.p (k + 1) * x (k + 1) = az k _ + x (k + 1)
    have t1 : s.T s.p (k + 1) = 1 := by
     unfold Sy.T
     rw [if_neg (by omega), if_pos rfl, if_neg (by omega)]
    rw [ih, t1, Int.one_mul]
 exact e s.q
theorem Sy.row_m (s : Sy) (x : Nat → Int) : az s.n (fun j => s.T s.m j * x j) = -x 0 := by
 have hm := s.hm
 have hn := s.hn
 have hN := s.hN
 rw [gG (c := 0) (by omega) fun k hk h => ?_]
 · unfold Sy.T
   rw [if_neg (by omega), if_neg (by omega), if_pos rfl]
   omega
 · unfold Sy.T
   rw [if_neg (by omega), if_neg (by omega), if_neg h, Int.zero_mul]
theorem Sy.rhs_lt (s : Sy) {i : Nat} (hi : i < s.p) : s.T i s.n = 0 := by
 have hm := s.hm
 have hn := s.hn
 have hN := s.hN
 unfold Sy.T
 rw [if_pos hi, if_neg (by omega), if_neg (by omega)]
theorem Sy.rhs_p (s : Sy) : s.T s.p s.n = 1 := by
 have hm := s.hm
 have hn := s.hn
 have hN := s.hN
 unfold Sy.T
 rw [if_neg (by omega), if_pos rfl, if_neg (by omega)]
theorem Sy.rhs_m (s : Sy) : s.T s.m s.n = 0 := by
 have hm := s.hm
 have hn := s.hn
 have hN := s.hN
 unfold Sy.T
 rw [if_neg (by omega), if_neg (by omega), if_neg (by omega)]
theorem wB {f : Nat → Int} : ∀ {n : Nat}, (∀ k, k < n → 0 ≤ f k) → 0 ≤ az n f
 | 0, _ => Int.le_refl _
 | n + 1, h => by
   have h1 := wB (f := f) (n := n) fun k hk => h k (Nat.lt_succ_of_lt hk)
   have h2 := h n (Nat.lt_succ_self n)
   unfold az
   omega
theorem Rh {f : Nat → Int} : ∀ {n : Nat}, (∀ k, k < n → 0 ≤ f k) → az n f ≤ 0 → ∀ k, k < n → f k = 0
 | 0, _, _, k, hk => by omega
 | n + 1, h, e, k, hk => by
   have h1 := wB (f := f) (n := n) fun k hk => h k (Nat.lt_succ_of_lt hk)
   have h2 := h n (Nat.lt_succ_self n)
   unfold az at e
   by_cases g : k = n
   · rw [g]
     omega
   · exact Rh (fun k hk => h k (Nat.lt_succ_of_lt hk)) (by omega) k (by omega)
theorem On.limited (o : On s t) (hs : ∃ i, i < s.p ∧ s.st i = 1) {q : Nat} (hq : q < s.n) (hc : t.T s.m q < 0) : ∃ k, k < s.m ∧ 0 < t.T k q := by
 have hm := s.hm
 have hn := s.hn
 have hN := s.hN
 refine Classical.byContradiction fun no => ?_
 have le : ∀ k, k < s.m → t.T k q ≤ 0 := fun k hk => Int.not_lt.mp fun h => no ⟨k, hk, h⟩
 have L := o.lab
 obtain ⟨x, hx⟩ : ∃ x, x = t.dir s.m q := ⟨_, rfl⟩
 have nn : ∀ u, u < s.N → 0 ≤ x u := fun u hu => by
  rw [hx]
  unfold Tb.dir
  split
  · exact Int.le_of_lt o.ok.dp
  · refine wB fun k hk => ?_
    split
    · rename_i e
      by_cases g : k = s.m
      · rw [g, L.bz] at e
        omega
      · have := le k (by omega)
        omega
    · exact Int.le_refl _
 have rows := o.rows (x := x) fun i hi => by
  have := (o.ok.sol_iff x).mp (fun r hr => by rw [hx]; exact o.ok.dir_sol L hq r hr) i hi
  exact this
 have xr : x (s.N + 1) = 0 := by
  have := L.dir_out hq (l := s.n) (by omega) (by omega)
  rw [L.orh] at this
  rw [hx]
  exact this
 have xz : 0 < x (s.n + s.m) := by
  have := L.dir_bs hq (i := s.m) (by omega)
  rw [L.bz] at this
  rw [hx]
  show 0 < t.dir s.m q s.N
  omega
 have rp := rows s.p (by omega)
 rw [s.row_p, xr, Int.mul_zero] at rp
 have sp : 0 ≤ x (s.n + s.p) := nn _ (by show s.n + s.p < s.n + (s.p + 1); omega)
 have z := Rh (f := fun l => x (l + 1)) (n := s.q) (fun k hk => nn _ (by show k + 1 < s.q + 1 + (s.p + 1); omega)) (by omega)
 have rm := rows s.m (by omega)
 rw [s.row_m, xr, Int.mul_zero] at rm
 obtain ⟨i, hi, e⟩ := hs
 have ri := rows i (by omega)
 rw [s.row_lt hi, xr, Int.mul_zero, e, fZ fun l hl => by have := z l hl; rw [this, Int.mul_zero]] at ri
 have := nn (s.n + i) (by show s.n + i < s.n + (s.p + 1); omega)
 omega
def Tb.price (t : Tb) (m n u : Nat) : Int := az n fun l => if t.out l = u then t.T m l else 0
def Tb.amt (t : Tb) (m n u : Nat) : Int := az m fun i => if t.bs i = u then t.T i n else 0
theorem Lq (f : Nat → Int) (a : Nat) : ∀ b : Nat, az (a + b) f = az a f + az b fun i => f (a + i)
 | 0 => by
   show az a f = az a f + 0
   omega
 | b + 1 => by
   show az (a + b) f + f (a + b) = az a f + (az b (fun i => f (a + i)) + f (a + b))
   rw [Lq f a b]
   omega
theorem On.prices (o : On s t) (x : Nat → Int) : az s.n (fun l => t.T s.m l * x (t.out l)) = az s.N fun u => t.price s.m s.n u * x u := by
 have hm := s.hm
 have hn := s.hn
 have hN := s.hN
 have e : az s.N (fun u => x u * az s.n (fun l => (if t.out l = u then 1 else 0) * t.T s.m l)) = az s.n (fun l => az s.N (fun u => (if t.out l = u then 1 else 0) * x u) * t.T s.m l) := z7 x (fun l => t.T s.m l) (fun l u => if t.out l = u then 1 else 0) s.n s.N
 have e1 : az s.N (fun u => t.price s.m s.n u * x u) = az s.N (fun u => x u * az s.n (fun l => (if t.out l = u then 1 else 0) * t.T s.m l)) := bW fun u _ => by
  unfold Tb.price
  rw [Int.mul_comm]
  congr 1
  refine bW fun l _ => ?_
  split
  · omega
  · omega
 rw [e1, e]
 refine bW fun l hl => ?_
 rw [gG (o.lab.ol l hl) fun k hk h => by rw [if_neg fun z => h z.symm, Int.zero_mul], if_pos rfl]
 grind
theorem On.gains (o : On s t) (h0 : t.T s.m s.n = 0) {x : Nat → Int} (h : ∀ i, i < s.m + 1 → x (s.n + i) + (az s.n (fun j => s.T i j * x j) + s.T i s.n * x (s.N + 1)) = 0) :
 t.d * x (s.n + s.m) + (az s.n (fun j => t.price s.m s.n j * x j) + az s.m (fun i => t.price s.m s.n (s.n + i) * x (s.n + i))) = 0 := by
 have r := o.rows' h s.m (by omega)
 have L := o.lab
 have e : az (s.n + 1) (fun l => t.T s.m l * x (t.out l)) = az s.n (fun l => t.T s.m l * x (t.out l)) + t.T s.m s.n * x (t.out s.n) := rfl
 rw [L.bz, e, h0, Int.zero_mul, o.prices, show s.N = s.n + s.m from rfl, Lq] at r
 omega
structure abh (s : Sy) (y : Nat → Int) : Prop where
 nn : ∀ i, 0 ≤ y i
 one : ∃ i, i < s.p ∧ s.st i = 1 ∧ 0 < y i
 le : ∀ l, l < s.q → az s.p (fun i => s.col l i * y i) ≤ 0
theorem On.weights (o : On s t) (hst : ∀ i, i < s.p → s.st i = 0 ∨ s.st i = 1) (h0 : t.T s.m s.n = 0) (hc : ∀ l, l < s.n → 0 ≤ t.T s.m l) : abh s (fun i => t.price s.m s.n (s.n + i)) := by
 have hm := s.hm
 have hn := s.hn
 have hN := s.hN
 have pn : ∀ u, 0 ≤ t.price s.m s.n u := fun u => wB fun l hl => by
  split
  · exact hc l hl
  · exact Int.le_refl _
 obtain ⟨y, hy⟩ : ∃ y : Nat → Int, y = fun i => t.price s.m s.n (s.n + i) := ⟨_, rfl⟩
 have yn : ∀ i, 0 ≤ y i := fun i => by rw [hy]; exact pn _
 have yp : y s.p = 0 := by
  have g := o.gains h0 (x := fun u => if u < s.n then 0 else if u = s.N + 1 then -1 else s.T (u - s.n) s.n) fun i hi => by
   rw [if_neg (by omega), if_neg (by show ¬ s.n + i = s.n + s.m + 1; omega), if_neg (by show ¬ s.n + s.m + 1 < s.n; omega), if_pos rfl, show s.n + i - s.n = i by omega, fZ fun j hj => by rw [if_pos hj, Int.mul_zero]]
   omega
  rw [if_neg (by omega), if_neg (by show ¬ s.n + s.m = s.n + s.m + 1; omega), show s.n + s.m - s.n = s.m by omega, s.rhs_m, Int.mul_zero, fZ fun j hj => by rw [if_pos hj, Int.mul_zero], gG (c := s.p) (by omega) fun k hk h => ?_, if_neg (by omega), if_neg (by show ¬ s.n + s.p = s.n + (s.p + 1) + 1; omega), show s.n + s.p - s.n = s.p by omega, s.rhs_p] at g
  · rw [hy]
    show t.price s.m s.n (s.n + s.p) = 0
    omega
  · rw [if_neg (by omega), if_neg (by show ¬ s.n + k = s.n + (s.p + 1) + 1; omega), show s.n + k - s.n = k by omega, s.rhs_lt (by omega), Int.mul_zero]
 have col : ∀ j, j < s.n → az s.p (fun i => y i * s.T i j) = t.price s.m s.n j - t.d * s.T s.m j := fun j hj => by
  have g := o.gains h0 (x := fun u => if u < s.n then (if u = j then 1 else 0) else if u = s.N + 1 then 0 else -s.T (u - s.n) j) fun i hi => by
   rw [if_neg (by omega), if_neg (by show ¬ s.n + i = s.n + s.m + 1; omega), if_neg (by show ¬ s.n + s.m + 1 < s.n; omega), if_pos rfl, show s.n + i - s.n = i by omega, gG hj fun k hk h => by rw [if_pos hk, if_neg h, Int.mul_zero], if_pos hj, if_pos rfl]
   omega
  rw [if_neg (by omega), if_neg (by show ¬ s.n + s.m = s.n + s.m + 1; omega), show s.n + s.m - s.n = s.m by omega, gG hj fun k hk h => by rw [if_pos hk, if_neg h, Int.mul_zero], if_pos hj, if_pos rfl] at g
  have e : az s.m (fun i => t.price s.m s.n (s.n + i) * (if s.n + i < s.n then (if s.n + i = j then 1 else 0) else if s.n + i = s.N + 1 then 0 else -s.T (s.n + i - s.n) j)) = -1 * az s.p (fun i => y i * s.T i j) := by
   show az s.p _ + _ = _
   dsimp only
   have z : y s.p = t.price s.m s.n (s.n + s.p) := by rw [hy]
   rw [← z, yp, Int.zero_mul, ← mU, bW (g := fun k => -1 * (y k * s.T k j)) fun k hk => ?_]
   · omega
   · rw [if_neg (by omega), if_neg (by show ¬ s.n + k = s.n + (s.p + 1) + 1; omega), show s.n + k - s.n = k by omega, hy]
     grind
  rw [e] at g
  have e2 : t.d * -s.T s.m j = -(t.d * s.T s.m j) := Int.mul_neg _ _
  omega
 rw [← hy]
 refine ⟨yn, ?_, fun l hl => ?_⟩
 · have c := col 0 (by omega)
   have tm : s.T s.m 0 = -1 := by
    unfold Sy.T
    rw [if_neg (by omega), if_neg (by omega), if_pos rfl]
   rw [tm] at c
   have pos : 0 < az s.p (fun i => y i * s.T i 0) := by
    have := pn 0
    have := o.ok.dp
    omega
   refine Classical.byContradiction fun no => ?_
   have : az s.p (fun i => y i * s.T i 0) ≤ 0 := by
    rw [fZ fun i hi => ?_]
    · exact Int.le_refl _
    · have t1 : s.T i 0 = s.st i := by
       unfold Sy.T
       rw [if_pos hi, if_pos rfl]
      rw [t1]
      rcases hst i hi with g | g
      · rw [g, Int.mul_zero]
      · have h1 : ¬ 0 < y i := fun h => no ⟨i, hi, g, h⟩
        have h2 := yn i
        rw [show y i = 0 by omega, Int.zero_mul]
   omega
 · have c := col (l + 1) (by show l + 1 < s.q + 1; omega)
   have tm : s.T s.m (l + 1) = 0 := by
    unfold Sy.T
    rw [if_neg (by omega), if_neg (by omega), if_neg (by omega)]
   rw [tm, Int.mul_zero] at c
   have e : az s.p (fun i => y i * s.T i (l + 1)) = -1 * az s.p (fun i => s.col l i * y i) := by
    rw [← mU]
    refine bW fun i hi => ?_
    have t1 : s.T i (l + 1) = -s.col l i := by
     unfold Sy.T
     rw [if_pos hi, if_neg (by omega), if_pos (by show l + 1 < s.q + 1; omega)]
     rfl
    rw [t1]
    grind
   have := pn (l + 1)
   omega
structure abi (s : Sy) (x : Nat → Int) : Prop where
 nn : ∀ l, 0 ≤ x l
 le : ∀ i, i < s.p → 0 ≤ az s.q (fun l => s.col l i * x l)
 lt : ∀ i, i < s.p → s.st i = 1 → 0 < az s.q (fun l => s.col l i * x l)
 few : ((aiJ s.q).filter fun l => decide (0 < x l)).length ≤ s.p
theorem zA : ∀ {l l' : List Nat}, l.Nodup → (∀ a ∈ l, a ∈ l') → l.length ≤ l'.length
 | [], l', _, _ => Nat.zero_le _
 | a :: l, l', h, h2 => by
   obtain ⟨h3, h4⟩ := List.nodup_cons.mp h
   have ma := h2 a aiX
   have := zA (l := l) (l' := l'.erase a) h4 fun b hb => by
    refine (List.mem_erase_of_ne ?_).mpr (h2 b (ai2 _ hb))
    rintro rfl
    exact h3 hb
   rw [List.length_erase_of_mem ma] at this
   have : 0 < l'.length := List.length_pos_of_mem ma
   rw [aiL]
   omega
theorem On.amounts (o : On s t) (hst : ∀ i, i < s.p → s.st i = 0 ∨ s.st i = 1) (h0 : t.T s.m s.n ≠ 0) : abi s (fun l => t.amt s.m s.n (l + 1)) := by
 have hm := s.hm
 have hn := s.hn
 have hN := s.hN
 have L := o.lab
 have an : ∀ u, 0 ≤ t.amt s.m s.n u := fun u => wB fun i hi => by
  split
  · exact o.nn i hi
  · exact Int.le_refl _
 have ab : ∀ i, i < s.m → t.amt s.m s.n (t.bs i) = t.T i s.n := fun i hi => by
  unfold Tb.amt
  rw [gG hi fun k hk h => if_neg fun e => h (L.bi k i hk hi e), if_pos rfl]
 have ao : ∀ l, l < s.n → t.amt s.m s.n (t.out l) = 0 := fun l hl => by
  unfold Tb.amt
  exact fZ fun k hk => if_neg fun e => L.bo k l hk hl e
 obtain ⟨X, hX⟩ : ∃ X : Nat → Int, X = t.amt s.m s.n := ⟨_, rfl⟩
 have rows := o.rows (x := fun u => if u = s.N then t.T s.m s.n else if u = s.N + 1 then -t.d else X u) fun i hi => by
  have e : az (s.n + 1) (fun l => t.T i l * (if t.out l = s.N then t.T s.m s.n else if t.out l = s.N + 1 then -t.d else X (t.out l))) = t.T i s.n * -t.d := by
   show az s.n _ + _ = _
   dsimp only
   rw [L.orh, if_neg (by omega), if_pos rfl, fZ fun l hl => ?_]
   · omega
   · have := L.ol l hl
     rw [if_neg (by omega), if_neg (by omega), hX, ao l hl, Int.mul_zero]
  rw [e]
  by_cases g : i = s.m
  · rw [g, L.bz, if_pos rfl]
    grind
  · have := L.bl i (by omega)
    rw [if_neg (by omega), if_neg (by omega), hX, ab i (by omega)]
    grind
 have xs : ∀ i, i < s.p → az s.q (fun l => s.col l i * X (l + 1)) = s.st i * X 0 + X (s.n + i) := fun i hi => by
  have r := rows i (by omega)
  rw [if_neg (by show ¬ s.n + i = s.n + (s.p + 1); omega), if_neg (by show ¬ s.n + i = s.n + (s.p + 1) + 1; omega), s.rhs_lt hi, Int.zero_mul, bW (g := fun j => s.T i j * X j) fun j hj => by
   rw [if_neg (by show ¬ j = s.n + (s.p + 1); omega), if_neg (by show ¬ j = s.n + (s.p + 1) + 1; omega)], s.row_lt hi] at r
  omega
 have x0 : X 0 = t.T s.m s.n := by
  have r := rows s.m (by omega)
  rw [if_pos rfl, s.rhs_m, Int.zero_mul, bW (g := fun j => s.T s.m j * X j) fun j hj => by
   rw [if_neg (by show ¬ j = s.n + (s.p + 1); omega), if_neg (by show ¬ j = s.n + (s.p + 1) + 1; omega)], s.row_m] at r
  omega
 have xn : ∀ u, 0 ≤ X u := fun u => by rw [hX]; exact an u
 have xp : 0 < X 0 := by
  have := xn 0
  omega
 rw [← hX]
 refine ⟨fun l => xn _, fun i hi => ?_, fun i hi e => ?_, ?_⟩
 · rw [xs i hi]
   have := xn (s.n + i)
   have := Int.mul_nonneg (show 0 ≤ s.st i by rcases hst i hi with g | g <;> omega) (xn 0)
   omega
 · rw [xs i hi, e]
   have := xn (s.n + i)
   omega
 · have bas : ∀ u, 0 < X u → u ∈ (aiJ s.m).map t.bs := fun u hu => by
    refine Classical.byContradiction fun no => ?_
    have : X u = 0 := by
     rw [hX]
     unfold Tb.amt
     refine fZ fun k hk => if_neg fun e => no (List.mem_map.mpr ⟨k, List.mem_range.mpr hk, e⟩)
    omega
   have nd : (0 :: ((aiJ s.q).filter fun l => decide (0 < X (l + 1))).map (· + 1)).Nodup := by
    refine List.nodup_cons.mpr ⟨fun h => ?_, ?_⟩
    · obtain ⟨l, _, e⟩ := List.mem_map.mp h
      omega
    · exact ((List.nodup_range (n := s.q)).filter _).map _ fun a b h e => h (by omega)
   have le := zA nd fun u hu => by
    rcases List.mem_cons.mp hu with rfl | h
    · exact bas 0 xp
    · obtain ⟨l, hl, rfl⟩ := List.mem_map.mp h
      exact bas _ (of_decide_eq_true (List.mem_filter.mp hl).2)
   rw [aiL, aiP, aiP, aiS] at le
   omega
end
end L
namespace L
structure Ri (p c : Nat) (en : Nat → Nat → Int) (st : Nat → Int) (x : Nat → Int) : Prop where
 nn : ∀ k, k < c → 0 ≤ x k
 ge : ∀ i, i < p → 0 ≤ az c fun k => en k i * x k
 gt : ∀ i, i < p → st i = 1 → 0 < az c fun k => en k i * x k
 few : ((aiJ c).filter fun k => decide (0 < x k)).length ≤ p
structure Uo (p c : Nat) (en : Nat → Nat → Int) (st : Nat → Int) (y : Nat → Int) : Prop where
 nn : ∀ i, i < p → 0 ≤ y i
 one : ∃ i, i < p ∧ st i = 1 ∧ 0 < y i
 le : ∀ k, k < c → az p (fun i => en k i * y i) ≤ 0
def mZ (ix : Nat → Nat) (x : Nat → Int) (l k : Nat) : Int := az l fun l' => if ix l' = k then x l' else 0
section
variable {p c q : Nat} {en col : Nat → Nat → Int} {st x y : Nat → Int} {ix : Nat → Nat}
theorem Zu (inj : ∀ a b, a < q → b < q → ix a = ix b → a = b) {l : Nat} (hl : l < q) (k : Nat) : mZ ix x (l + 1) k = if k = ix l then x l else mZ ix x l k := by
 have e : mZ ix x (l + 1) k = mZ ix x l k + if ix l = k then x l else 0 := rfl
 rw [e]
 by_cases h : k = ix l
 · rw [if_pos h, if_pos h.symm]
   have z : mZ ix x l k = 0 := fZ fun l' hl' => if_neg fun e => by
    have := inj l' l (by omega) hl (e.trans h)
    omega
   omega
 · rw [if_neg h, if_neg fun z => h z.symm]
   omega
theorem abj {l k : Nat} (h : 0 < mZ ix x l k) (hx : ∀ a, a < l → 0 ≤ x a) : ∃ a, a < l ∧ ix a = k ∧ 0 < x a := by
 refine Classical.byContradiction fun no => ?_
 have : mZ ix x l k = 0 := fZ fun a ha => by
  split
  · rename_i e
    have := hx a ha
    have h2 : ¬ 0 < x a := fun z => no ⟨a, ha, e, z⟩
    omega
  · rfl
 omega
theorem acS (inj : ∀ a b, a < q → b < q → ix a = ix b → a = b) (lt : ∀ a, a < q → ix a < c) (ec : ∀ a i, a < q → i < p → en (ix a) i = col a i) (nn : ∀ l, 0 ≤ x l) (ge : ∀ i, i < p → 0 ≤ az q fun l => col l i * x l)
 (gt : ∀ i, i < p → st i = 1 → 0 < az q fun l => col l i * x l) (few : ((aiJ q).filter fun l => decide (0 < x l)).length ≤ p) : Ri p c en st (mZ ix x q) := by
 have sm : ∀ i, i < p → az c (fun k => en k i * mZ ix x q k) = az q fun l => col l i * x l := fun i hi => by
  have e := z7 (fun k => en k i) x (fun l k => if ix l = k then 1 else 0) q c
  have e1 : az c (fun k => en k i * mZ ix x q k) = az c (fun k => en k i * az q fun l => (if ix l = k then 1 else 0) * x l) := bW fun k _ => by
   congr 1
   refine bW fun l _ => ?_
   split
   · omega
   · omega
  rw [e1, e]
  refine bW fun l hl => ?_
  rw [gG (lt l hl) fun k hk h => by rw [if_neg fun z => h z.symm, Int.zero_mul], if_pos rfl, Int.one_mul, ec l i hl hi]
 refine ⟨fun k _ => wB fun l _ => ?_, fun i hi => ?_, fun i hi e => ?_, ?_⟩
 · split
   · exact nn l
   · exact Int.le_refl _
 · rw [sm i hi]
   exact ge i hi
 · rw [sm i hi]
   exact gt i hi e
 · have := zA (l := (aiJ c).filter fun k => decide (0 < mZ ix x q k)) (l' := ((aiJ q).filter fun l => decide (0 < x l)).map ix) ((List.nodup_range (n := c)).filter _) fun k hk => by
    obtain ⟨a, ha, rfl, hp⟩ := abj (of_decide_eq_true (List.mem_filter.mp hk).2) fun a _ => nn a
    exact List.mem_map.mpr ⟨a, List.mem_filter.mpr ⟨List.mem_range.mpr ha, decide_eq_true hp⟩, rfl⟩
   rw [aiP] at this
   omega
theorem Nk {g : Int} {n : Nat} {f z : Nat → Int} (hd : ∀ k, k < n → g ∣ z k) : g * az n (fun k => f k * (z k / g)) = az n fun k => f k * z k := by
 rw [← mU]
 refine bW fun k hk => ?_
 have := Int.mul_ediv_cancel' (hd k hk)
 grind
theorem div_pos {g a : Int} (hg : 1 ≤ g) (hd : g ∣ a) : 0 < a / g ↔ 0 < a := by
 have e := Int.mul_ediv_cancel' hd
 constructor
 · intro h
   have := Int.mul_pos (show 0 < g by omega) h
   omega
 · intro h
   refine Int.not_le.mp fun h2 => ?_
   have := Int.mul_le_mul_of_nonneg_left h2 (show 0 ≤ g by omega)
   omega
theorem Xp {g a : Int} (hg : 1 ≤ g) (h : 0 ≤ a) : 0 ≤ a / g := Int.ediv_nonneg h (by omega)
theorem Ri.div (A : Ri p c en st x) {g : Int} (hg : 1 ≤ g) (hd : ∀ k, k < c → g ∣ x k) : Ri p c en st fun k => x k / g := by
 refine ⟨fun k hk => Xp hg (A.nn k hk), fun i hi => ?_, fun i hi e => ?_, ?_⟩
 · have e1 := Nk (f := fun k => en k i) hd
   have := A.ge i hi
   refine Int.not_lt.mp fun h2 => ?_
   have := Int.mul_lt_mul_of_pos_left h2 (show 0 < g by omega)
   omega
 · have e1 := Nk (f := fun k => en k i) hd
   have := A.gt i hi e
   refine Int.not_le.mp fun h2 => ?_
   have := Int.mul_le_mul_of_nonneg_left h2 (show 0 ≤ g by omega)
   omega
 · have e : ((aiJ c).filter fun k => decide (0 < x k / g)) = (aiJ c).filter fun k => decide (0 < x k) := by
    refine List.filter_congr fun k hk => ?_
    exact decide_eq_decide.mpr (div_pos hg (hd k (List.mem_range.mp hk)))
   rw [e]
   exact A.few
theorem Uo.div (W : Uo p c en st y) {g : Int} (hg : 1 ≤ g) (hd : ∀ i, i < p → g ∣ y i) : Uo p c en st fun i => y i / g := by
 refine ⟨fun i hi => Xp hg (W.nn i hi), ?_, fun k hk => ?_⟩
 · obtain ⟨i, hi, e, h⟩ := W.one
   exact ⟨i, hi, e, (div_pos hg (hd i hi)).mpr h⟩
 · have e1 := Nk (f := fun i => en k i) hd
   have := W.le k hk
   refine Int.not_lt.mp fun h2 => ?_
   have := Int.mul_lt_mul_of_pos_left h2 (show 0 < g by omega)
   omega
end
end L
namespace L
open PySem PySem.Spec L2 Pk
theorem N5 {n a : Nat} {pre suf : List Nat} (e : aiJ n = pre ++ a :: suf) : pre.length < n ∧ a = pre.length := by
 have hl : pre.length < n := by
  have := congrArg List.length e
  rw [aiS, aiT, aiL] at this
  omega
 refine ⟨hl, ?_⟩
 have := congrArg (fun l => l[pre.length]?) e
 rw [ajc (Nat.le_refl _), Nat.sub_self, List.getElem?_range hl] at this
 exact (Option.some.inj this).symm
section
variable {g : D → M Unit} {b : M Fl} {L : Fl → Fr → Hh → Prop} {E : aN → Fr → Hh → Prop} {fr : Fr} {h : Hh} {c n : Nat} {l : List D} {F : Nat → D}
theorem Ke (I : Nat → Fr → Hh → Prop) (cell : ∀ k fr h, I k fr h → h[c]? = some (.nl l)) (i0 : I 0 fr h)
 (st : ∀ k fr h, k < n → I k fr h → Wp (g (F k) fr h) (fun _ fr h => Wp (b fr h) (fun f fr h => yV f (I (k + 1) fr h) fun f => L f fr h) E) dF)
 (en : ∀ fr h, I n fr h → L .nx fr h) : Wp (lZ c l g b ((aiJ n).map F) fr h) L E := by
 refine aa8 (fun pre fr h => I pre.length fr h) (fun pre fr h i => cell _ fr h i) i0 (fun pre a suf fr h e i => ?_) fun fr h i => en fr h (by rw [aiS] at i; exact i)
 obtain ⟨h1, rfl⟩ := N5 e
 rw [aiT, ai7]
 exact st _ fr h h1 i
theorem yG (I : Nat → Fr → Hh → Prop) (i0 : I 0 fr h)
 (st : ∀ k fr h, k < n → I k fr h → Wp (g (F k) fr h) (fun _ fr h => Wp (b fr h) (fun f fr h => yV f (I (k + 1) fr h) fun f => L f fr h) E) dF)
 (en : ∀ fr h, I n fr h → L .nx fr h) : Wp (mO g b ((aiJ n).map F) fr h) L E := by
 refine QR (fun pre fr h => I pre.length fr h) i0 (fun pre a suf fr h e i => ?_) fun fr h i => en fr h (by rw [aiS] at i; exact i)
 obtain ⟨h1, rfl⟩ := N5 e
 rw [aiT, ai7]
 exact st _ fr h h1 i
end
theorem Lr : ∀ (l : List D) (i : Nat), fM i l = (aiJ l.length).map fun k => D.tup [.int ((i + k : Nat) : Int), (l[k]?).getD .non]
 | [], i => by simp [fM]
 | d :: l, i => by
   rw [fM, Lr l (i + 1), aiL, List.range_succ_eq_map, aiN, ai4]
   congr 1
   refine aje fun k _ => ?_
   show D.tup [.int ((i + 1 + k : Nat) : Int), _] = D.tup [.int ((i + (k + 1) : Nat) : Int), _]
   rw [show i + 1 + k = i + (k + 1) by omega]
   rfl
structure Tab where
 t : Nat
 g : Nat
 o : Nat
 b : Nat
 rp : Nat → Nat
 tb : Tb
def nD (i : Nat) : D := .int (i : Int)
def aR (n : Nat) (f : Nat → D) : List D := (aiJ n).map f
def cY (n : Nat) (f : Nat → Int) : List D := aR (n + 1) fun j => .int (f j)
def Tab.fs (T : Tab) : List D := [.ref T.g, .ref T.o, .ref T.b, .int T.tb.d]
def Tab.cl (T : Tab) (m n : Nat) : Mem := (T.t, .no 0 T.fs) :: (T.g, .nl (aR (m + 1) fun i => .ref (T.rp i))) :: (T.o, .nl (aR n fun l => nD (T.tb.out l))) :: (T.b, .nl (aR m fun i => nD (T.tb.bs i))) :: (aiJ (m + 1)).map fun i => (T.rp i, .nl (cY n (T.tb.T i)))
structure Tab.Sh (T : Tab) (m n : Nat) : Prop where
 sm : m ≤ 50
 sn : n ≤ 50
 bd : ∀ i j, i ≤ m → j ≤ n → (T.tb.T i j).natAbs < 2 ^ 4000
def optN : Option Nat → D
 | none => .non
 | some q => .int (q : Int)
theorem Hz : optN none = .non := rfl
theorem rW (q : Nat) : optN (some q) = .int (q : Int) := rfl
theorem Ey (r : Option Nat) : (optN r).own = false := by cases r <;> rfl
theorem cO (n : Nat) (f : Nat → D) : (aR n f).length = n := by
 unfold aR
 rw [aiP, aiS]
theorem qJ {n : Nat} (f : Nat → D) {i : Nat} (h : i < n) : (aR n f)[i]? = some (f i) := by
 unfold aR
 rw [ai3, List.getElem?_range h]
 rfl
theorem Rj {n : Nat} (f : Nat → D) : (aR (n + 1) f).getLast? = some (f n) := by
 rw [List.getLast?_eq_getElem?, cO, Nat.add_sub_cancel, qJ f (Nat.lt_succ_self n)]
theorem j5 {n : Nat} {f g : Nat → D} (h : ∀ i, i < n → f i = g i) : aR n f = aR n g := aje fun i hi => h i (List.mem_range.mp hi)
theorem Fg {α : Type} {n k : Nat} (f : Nat → α) (v : α) : ((aiJ n).map f).set k v = (aiJ n).map fun i => if i = k then v else f i := by
 refine List.ext_getElem (by simp) fun i h1 h2 => ?_
 rw [List.getElem_set]
 simp only [List.getElem_map, List.getElem_range]
 by_cases c : i = k
 · rw [if_pos c.symm, if_pos c]
 · rw [if_neg fun z => c z.symm, if_neg c]
theorem abk {n k : Nat} (f : Nat → D) (v : D) : (aR n f).set k v = aR n fun i => if i = k then v else f i := Fg f v
section
variable {h : Hh} {T : Tab} {F : Mem} {m n i j : Nat}
theorem Uq {n c : Nat} {fs : List D} (e : h[n]? = some (.no c fs)) : (D.ref n).ins h = some (c, fs) := by
 unfold D.ins D.der
 dsimp only
 rw [e]
 rfl
theorem zB {n c i : Nat} {fs : List D} {ix : Nat → Option Nat} (e : h[n]? = some (.no c fs)) (hi : ix c = some i) : bL ix h (.ref n) = fs[i]? := by
 unfold bL
 rw [Uq e]
 dsimp only
 rw [hi]
theorem Xq {n c : Nat} {fs : List D} {mt : Nat → Option Fn} (e : h[n]? = some (.no c fs)) : fnOf mt h (.ref n) = mt c := by
 unfold fnOf
 rw [Uq e]
theorem Rk (H : bV h (T.cl m n ++ F)) : h[T.t]? = some (.no 0 T.fs) := H.get (i := 0) rfl
theorem pU (H : bV h (T.cl m n ++ F)) : bL cQ h (.ref T.t) = some (.ref T.g) ∧ bL dH h (.ref T.t) = some (.ref T.o) ∧ bL gh h (.ref T.t) = some (.ref T.b) ∧ bL jx h (.ref T.t) = some (.int T.tb.d) := by
 have e := Rk H
 exact ⟨zB (i := 0) e rfl, zB (i := 1) e rfl, zB (i := 2) e rfl, zB (i := 3) e rfl⟩
theorem Jb {mt : Nat → Option Fn} (H : bV h (T.cl m n ++ F)) : fnOf mt h (.ref T.t) = mt 0 := Xq (Rk H)
theorem OJ (H : bV h (T.cl m n ++ F)) : h[T.g]? = some (.nl (aR (m + 1) fun i => .ref (T.rp i))) := H.get (i := 1) rfl
theorem O4 (H : bV h (T.cl m n ++ F)) : h[T.o]? = some (.nl (aR n fun l => nD (T.tb.out l))) := H.get (i := 2) rfl
theorem O5 (H : bV h (T.cl m n ++ F)) : h[T.b]? = some (.nl (aR m fun i => nD (T.tb.bs i))) := H.get (i := 3) rfl
theorem Xr (hi : i ≤ m) : (T.cl m n ++ F)[4 + i]? = some (T.rp i, .nl (cY n (T.tb.T i))) := by
 have e : ((aiJ (m + 1)).map fun i => (T.rp i, D.nl (cY n (T.tb.T i))))[i]? = some (T.rp i, .nl (cY n (T.tb.T i))) := by
  rw [ai3, List.getElem?_range (by omega)]
  rfl
 unfold Tab.cl
 rw [ajf (by simp; omega), show 4 + i = i + 1 + 1 + 1 + 1 by omega]
 simp only [aiK]
 exact e
theorem Ls (H : bV h (T.cl m n ++ F)) (hi : i ≤ m) : h[T.rp i]? = some (.nl (cY n (T.tb.T i))) := H.get (Xr hi)
theorem Vy (H : bV h (T.cl m n ++ F)) (hi : i ≤ m) : aP h (.ref T.g) (.int (i : Int)) = some (.ref (T.rp i)) := by
 rw [rQ (OJ H), lN, qJ _ (by omega)]
theorem O6 (H : bV h (T.cl m n ++ F)) : aP h (.ref T.g) (.int (-1)) = some (.ref (T.rp m)) := by
 rw [rQ (OJ H), Z6, Rj]
theorem Nm (H : bV h (T.cl m n ++ F)) (hi : i ≤ m) (hj : j ≤ n) : aP h (.ref (T.rp i)) (.int (j : Int)) = some (.int (T.tb.T i j)) := by
 rw [rQ (Ls H hi), lN]
 exact qJ _ (by omega)
theorem Lw (H : bV h (T.cl m n ++ F)) (hi : i ≤ m) : aP h (.ref (T.rp i)) (.int (-1)) = some (.int (T.tb.T i n)) := by
 rw [rQ (Ls H hi), Z6]
 exact Rj _
theorem acT (H : bV h (T.cl m n ++ F)) (hj : j < n) : aP h (.ref T.o) (.int (j : Int)) = some (.int (T.tb.out j : Int)) := by
 rw [rQ (O4 H), lN]
 exact qJ _ hj
theorem acU (H : bV h (T.cl m n ++ F)) (hi : i < m) : aP h (.ref T.b) (.int (i : Int)) = some (.int (T.tb.bs i : Int)) := by
 rw [rQ (O5 H), lN]
 exact qJ _ hi
theorem wC (n : Nat) (f : Nat → D) : fM 0 (aR n f) = (aiJ n).map fun (k : Nat) => D.tup [.int (k : Int), f k] := by
 rw [Lr, cO]
 refine aje fun k hk => ?_
 rw [qJ f (List.mem_range.mp hk), Nat.zero_add]
 rfl
def Ent (T : Tab) (m k : Nat) : Option Nat → Prop
 | none => ∀ l, l < k → 0 ≤ T.tb.T m l
 | some q => q < k ∧ T.tb.T m q < 0 ∧ ∀ l, l < k → T.tb.T m l < 0 → T.tb.out q ≤ T.tb.out l
theorem Oe (H : bV h (T.cl m n ++ F)) (S : T.Sh m n) : ∃ r, gq [.ref T.t] h = .ok (optN r) [] h ∧ Ent T m n r := by
 obtain ⟨fg, fo, fb, fd⟩ := pU H
 have gm := O6 H
 have co := O4 H
 have cl : jO h (.ref T.o) = some (T.o, (aR n fun l => nD (T.tb.out l))) := by
  unfold jO
  dsimp only
  rw [co]
 obtain ⟨B, hB⟩ : ∃ B, B = lA := ⟨_, rfl⟩
 have k1 : oZ = (aA (qD (rP (aC (bL dH) (aM 0))) (dN 2 (aX (aY 2) (aX (aY 3) dY))) B) (cH (tO 1))) := by rw [hB]; rfl
 have b1 : dG (.int 1) = some (.int (-1)) := rfl
 have lp : Wp (lZ T.o ((aR n fun l => nD (T.tb.out l))) (dN 2 (aX (aY 2) (aX (aY 3) dY))) B ((aiJ n).map fun (k : Nat) => D.tup [.int (k : Int), nD (T.tb.out k)]) [some (.ref T.t), some .non, none, none] h)
  (fun f fr h' => f = .nx ∧ h' = h ∧ ∃ r x2 x3, fr = [some (.ref T.t), some (optN r), x2, x3] ∧ Ent T m n r) dF := by
  refine Ke (fun k fr h' => h' = h ∧ ∃ r x2 x3, fr = [some (.ref T.t), some (optN r), x2, x3] ∧ Ent T m k r) ?_ ?_ ?_ ?_
  · rintro k fr h' ⟨rfl, _⟩
    exact co
  · exact ⟨rfl, none, none, none, rfl, fun l hl => by omega⟩
  · rintro k fr h' hk ⟨rfl, r, x2, x3, rfl, en⟩
    have ee := Nm H (Nat.le_refl m) (Nat.le_of_lt hk)
    rw [hB]
    by_cases c : T.tb.T m k < 0
    · have d1 : decide (T.tb.T m k < 0) = true := decide_eq_true c
      cases r with
      | none =>
        have cn : zG h' D.non .non = some true := rfl
        simp only [↓du, nD, aiL, aiM, Nat.zero_add, Nat.reduceAdd, ↓cU, ↓bD, Hz, aiI, aiG, aH, ↓di, ↓lH, ↓fD, ↓gK, ↓bB, ↓cC, ↓cI, aiH, aD, fg, aK, ↓cR, b1, Int.reduceNeg, gm, ↓aU, aiK, aZ, bJ, ee, dh, d1, d9, ↓rA, MK, cn, ↓dC, fB, true_and]
        exact ⟨some k, _, _, rfl, Nat.lt_succ_self k, c, fun l hl hc => by
         by_cases g : l = k
         · rw [g]
           exact Nat.le_refl _
         · have := en l (by omega)
           omega⟩
      | some q =>
        obtain ⟨h1, h2, h3⟩ := en
        have cn : zG h' (.int (q : Int)) .non = some false := rfl
        have xo := acT H (j := q) (by omega)
        by_cases c2 : T.tb.out k < T.tb.out q
        · have d2 : decide ((T.tb.out k : Int) < (T.tb.out q : Int)) = true := decide_eq_true (by omega)
          simp only [↓du, nD, aiL, aiM, Nat.zero_add, Nat.reduceAdd, ↓cU, ↓bD, rW, aiI, aiG, aH, ↓di, ↓lH, ↓fD, ↓gK, ↓bB, ↓cC, ↓cI, aiH, aD, fg, aK, ↓cR, b1, Int.reduceNeg, gm, ↓aU, aiK, aZ, bJ, ee, dh, d1, d9, ↓rA, cn, fo, xo, d2, ↓dC, fB, true_and]
          exact ⟨some k, _, _, rfl, Nat.lt_succ_self k, c, fun l hl hc => by
           by_cases g : l = k
           · rw [g]
             exact Nat.le_refl _
           · have := h3 l (by omega) hc
             omega⟩
        · have d2 : decide ((T.tb.out k : Int) < (T.tb.out q : Int)) = false := decide_eq_false (by omega)
          simp only [↓du, nD, aiL, aiM, Nat.zero_add, Nat.reduceAdd, ↓cU, ↓bD, rW, aiI, aiG, aH, ↓di, ↓lH, ↓fD, ↓gK, ↓bB, ↓cC, ↓cI, aiH, aD, fg, aK, ↓cR, b1, Int.reduceNeg, gm, ↓aU, aiK, aZ, bJ, ee, dh, d1, d9, ↓rA, cn, fo, xo, d2, ↓dB, fB, true_and]
          exact ⟨some q, _, _, rfl, by omega, h2, fun l hl hc => by
           by_cases g : l = k
           · rw [g]
             omega
           · exact h3 l (by omega) hc⟩
    · have d1 : decide (T.tb.T m k < 0) = false := decide_eq_false c
      have ow := Ey r
      obtain ⟨OR, hOR⟩ : ∃ x, x = optN r := ⟨_, rfl⟩
      rw [← hOR] at ow ⊢
      simp only [↓du, nD, aiL, aiM, Nat.zero_add, Nat.reduceAdd, ↓cU, ↓bD, aiI, aiG, aH, ↓di, ↓lH, ↓fD, ↓gK, ↓bB, ↓cC, ↓cI, aiH, aD, fg, aK, ↓cR, b1, Int.reduceNeg, gm, ↓aU, aiK, aZ, bJ, ee, dh, d1, ↓dB, fB, true_and]
      refine ⟨r, _, _, by rw [hOR], ?_⟩
      cases r with
      | none =>
        intro l hl
        by_cases g : l = k
        · rw [g]
          omega
        · exact en l (by omega)
      | some q =>
        obtain ⟨h1, h2, h3⟩ := en
        exact ⟨by omega, h2, fun l hl hc => by
         by_cases g : l = k
         · rw [g] at hc
           exact absurd hc c
         · exact h3 l (by omega) hc⟩
  · rintro fr h' ⟨rfl, r, x2, x3, rfl, en⟩
    exact ⟨rfl, rfl, r, x2, x3, rfl, en⟩
 have eo := wC n (fun l => nD (T.tb.out l))
 have w : Wp (gq [.ref T.t] h) (fun d fr h' => fr = [] ∧ h' = h ∧ ∃ r, d = optN r ∧ Ent T m n r) dF := by
  clear H
  generalize (aR n fun l => nD (T.tb.out l)) = OD at *
  simp only [↓Ep, ↓gY, startF, aiN, aiR, aiL, aiM, Nat.zero_add, Nat.reduceSub, ai5, ai0, ai6, ajb, aH, ↓FT, ↓cJ, ↓dC, ↓cR, aiI, aiG, bU, k1, ↓JN, ↓JQ, ↓cC, ↓cI, aiH, aD, fo, aK, cl, Option.map_some, eo]
  refine lp.mono ?_
  rintro f fr h' ⟨rfl, rfl, r, x2, x3, rfl, en⟩
  have ow := Ey r
  obtain ⟨OR, hOR⟩ : ∃ x, x = optN r := ⟨_, rfl⟩
  rw [← hOR] at ow ⊢
  simp only [bU, ↓jR, ↓T8, aiK, aiH, aiI, aiG, aD, aH, j8, true_and]
  exact ⟨r, hOR, en⟩
 obtain ⟨d, fr, h', e, rfl, rfl, r, rfl, en⟩ := w.out
 exact ⟨r, e, en⟩
end
end L
namespace L
open PySem PySem.Spec L2 Pk
theorem Zv {xk pk xa pa xi pi : Int} (ha : 0 < pa) (hk : 0 < pk) (hi : 0 < pi) (h1 : xk * pa < xa * pk) (h2 : xa * pi ≤ xi * pa) : xk * pi < xi * pk := by
 have g1 := Int.mul_lt_mul_of_pos_right h1 hi
 have g2 := Int.mul_le_mul_of_nonneg_right h2 (Int.le_of_lt hk)
 refine Int.lt_of_mul_lt_mul_left (a := pa) ?_ (Int.le_of_lt ha)
 have e1 : pa * (xk * pi) = xk * pa * pi := by grind
 have e2 : pa * (xi * pk) = xi * pa * pk := by grind
 have e3 : xa * pk * pi = xa * pi * pk := by grind
 omega
theorem Zw {xk pk xa pa xi pi : Int} (ha : 0 < pa) (hk : 0 < pk) (hi : 0 < pi) (h1 : xk * pa = xa * pk) (h2 : xa * pi ≤ xi * pa) : xk * pi ≤ xi * pk ∧ (xi * pk = xk * pi → xi * pa = xa * pi) := by
 have g1 : xk * pa * pi = xa * pk * pi := by rw [h1]
 have g2 := Int.mul_le_mul_of_nonneg_right h2 (Int.le_of_lt hk)
 have e1 : pa * (xk * pi) = xk * pa * pi := by grind
 have e2 : pa * (xi * pk) = xi * pa * pk := by grind
 have e3 : xa * pk * pi = xa * pi * pk := by grind
 refine ⟨Int.le_of_mul_le_mul_left (a := pa) (by omega) ha, fun e => ?_⟩
 refine Int.eq_of_mul_eq_mul_left (a := pk) (by omega) ?_
 have e4 : pa * (xi * pk) = pa * (xk * pi) := by rw [e]
 have e5 : pk * (xi * pa) = xi * pa * pk := by grind
 have e6 : pk * (xa * pi) = xa * pi * pk := by grind
 omega
def Lv (T : Tab) (n q k : Nat) : Option Nat → Prop
 | none => ∀ i, i < k → T.tb.T i q ≤ 0
 | some a => a < k ∧ 0 < T.tb.T a q ∧ ∀ i, i < k → 0 < T.tb.T i q → T.tb.T a n * T.tb.T i q ≤ T.tb.T i n * T.tb.T a q ∧ (T.tb.T i n * T.tb.T a q = T.tb.T a n * T.tb.T i q → T.tb.bs a ≤ T.tb.bs i)
theorem yH {a b : Int} (ha : a.natAbs < 2 ^ 4000) (hb : b.natAbs < 2 ^ 4000) : vZ a b = true := by
 have l1 := log2_lt ha (by decide)
 have l2 := log2_lt hb (by decide)
 exact decide_eq_true (by omega)
theorem Rm {a b : Int} (h0 : 0 < b) (hb : b.natAbs < 2 ^ 4000) : Gj a b = true := by
 have l2 := log2_lt hb (by decide)
 unfold Gj
 rw [decide_eq_true h0, decide_eq_true (show b.natAbs.log2 < 9000 by omega)]
 rfl
section
variable {h : Hh} {T : Tab} {F : Mem} {m n i j q : Nat}
theorem Ro (H : bV h (T.cl m n ++ F)) (S : T.Sh m n) (hq : q ≤ n) : ∃ r, iT [.ref T.t, .int (q : Int)] h = .ok (optN r) [] h ∧ Lv T n q m r := by
 obtain ⟨fg, fo, fb, fd⟩ := pU H
 have co := O5 H
 have cl : jO h (.ref T.b) = some (T.b, (aR m fun i => nD (T.tb.bs i))) := by
  unfold jO
  dsimp only
  rw [co]
 obtain ⟨B, hB⟩ : ∃ B, B = mD := ⟨_, rfl⟩
 have k1 : pN = (aA (qD (rP (aC (bL gh) (aM 0))) (dN 2 (aX (aY 3) (aX (aY 4) dY))) B) (cH (tO 2))) := by rw [hB]; rfl
 have b1 : dG (.int 1) = some (.int (-1)) := rfl
 have lp : Wp (lZ T.b (aR m fun i => nD (T.tb.bs i)) (dN 2 (aX (aY 3) (aX (aY 4) dY))) B ((aiJ m).map fun (k : Nat) => D.tup [.int (k : Int), nD (T.tb.bs k)]) [some (.ref T.t), some (.int (q : Int)), some .non, none, none, none, none] h)
  (fun f fr h' => f = .nx ∧ h' = h ∧ ∃ r x3 x4 x5 x6, fr = [some (.ref T.t), some (.int (q : Int)), some (optN r), x3, x4, x5, x6] ∧ Lv T n q m r) dF := by
  refine Ke (fun k fr h' => h' = h ∧ ∃ r x3 x4 x5 x6, fr = [some (.ref T.t), some (.int (q : Int)), some (optN r), x3, x4, x5, x6] ∧ Lv T n q k r) ?_ ?_ ?_ ?_
  · rintro k fr h' ⟨rfl, _⟩
    exact co
  · exact ⟨rfl, none, none, none, none, none, rfl, fun l hl => by omega⟩
  · rintro k fr h' hk ⟨rfl, r, x3, x4, x5, x6, rfl, en⟩
    have xg := Vy H (i := k) (by omega)
    have xe := Nm H (i := k) (j := q) (by omega) hq
    have xm := Lw H (i := k) (by omega)
    rw [hB]
    by_cases c : T.tb.T k q ≤ 0
    · have d1 : decide (T.tb.T k q ≤ 0) = true := decide_eq_true c
      have ow := Ey r
      obtain ⟨OR, hOR⟩ : ∃ x, x = optN r := ⟨_, rfl⟩
      rw [← hOR] at ow ⊢
      simp only [↓du, nD, aiL, aiM, Nat.zero_add, Nat.reduceAdd, ↓cU, ↓bD, aiI, aiG, aH, ↓di, ↓iI, ↓cJ, ↓dC, ↓bB, ↓cC, ↓cI, aiH, aD, fg, aK, ↓aU, aiK, aZ, bJ, xg, xe, bU, ↓fD, ↓cR, dh, d1, d9, ↓dB, Le, uZ, true_and]
      refine ⟨r, _, _, _, _, by rw [hOR], ?_⟩
      cases r with
      | none =>
        intro l hl
        by_cases g : l = k
        · rw [g]
          exact c
        · exact en l (by omega)
      | some a =>
        obtain ⟨h1, h2, h3⟩ := en
        exact ⟨by omega, h2, fun l hl hc => by
         by_cases g : l = k
         · rw [g] at hc
           omega
         · exact h3 l (by omega) hc⟩
    · have d1 : decide (T.tb.T k q ≤ 0) = false := decide_eq_false c
      cases r with
      | none =>
        have cn : zG h' D.non .non = some true := rfl
        simp only [↓du, nD, aiL, aiM, Nat.zero_add, Nat.reduceAdd, ↓cU, ↓bD, Hz, aiI, aiG, aH, ↓di, ↓iI, ↓cJ, ↓dC, ↓bB, ↓cC, ↓cI, aiH, aD, fg, aK, ↓aU, aiK, aZ, bJ, xg, xe, bU, ↓fD, ↓cR, dh, d1, ↓dB, MK, cn, d9, Le, uZ, true_and]
        exact ⟨some k, _, _, _, _, rfl, Nat.lt_succ_self k, by omega, fun l hl hc => by
         by_cases g : l = k
         · rw [g]
           exact ⟨Int.le_refl _, fun _ => Nat.le_refl _⟩
         · have := en l (by omega)
           omega⟩
      | some a =>
        obtain ⟨h1, h2, h3⟩ := en
        have cn : zG h' (.int (a : Int)) .non = some false := rfl
        have ag := Vy H (i := a) (by omega)
        have ae := Nm H (i := a) (j := q) (by omega) hq
        have am := Lw H (i := a) (by omega)
        have ab := acU H (i := a) (by omega)
        have m1 : vZ (T.tb.T k n) (T.tb.T a q) = true := yH (S.bd _ _ (by omega) (Nat.le_refl n)) (S.bd _ _ (by omega) hq)
        have m2 : vZ (T.tb.T a n) (T.tb.T k q) = true := yH (S.bd _ _ (by omega) (Nat.le_refl n)) (S.bd _ _ (by omega) hq)
        by_cases c2 : T.tb.T k n * T.tb.T a q - T.tb.T a n * T.tb.T k q < 0
        · have d2 : decide (T.tb.T k n * T.tb.T a q - T.tb.T a n * T.tb.T k q < 0) = true := decide_eq_true c2
          simp only [↓du, nD, aiL, aiM, Nat.zero_add, Nat.reduceAdd, ↓cU, ↓bD, rW, aiI, aiG, aH, ↓di, ↓iI, ↓cJ, ↓dC, ↓bB, ↓cC, ↓cI, aiH, aD, fg, aK, ↓aU, aiK, aZ, bJ, xg, xe, bU, ↓fD, ↓cR, dh, d1, ↓dB, cn, b1, Int.reduceNeg, xm, ag, ae, pH, m1, am, m2, Ea, ↓rA, d2, d9, fB, true_and]
          exact ⟨some k, _, _, _, _, rfl, Nat.lt_succ_self k, by omega, fun l hl hc => by
           by_cases g : l = k
           · rw [g]
             exact ⟨Int.le_refl _, fun _ => Nat.le_refl _⟩
           · have := Zv h2 (show 0 < T.tb.T k q by omega) hc (show T.tb.T k n * T.tb.T a q < T.tb.T a n * T.tb.T k q by omega) (h3 l (by omega) hc).1
             exact ⟨by omega, fun e => by omega⟩⟩
        · have d2 : decide (T.tb.T k n * T.tb.T a q - T.tb.T a n * T.tb.T k q < 0) = false := decide_eq_false c2
          by_cases c3 : T.tb.T k n * T.tb.T a q - T.tb.T a n * T.tb.T k q = 0
          · by_cases c4 : T.tb.bs k < T.tb.bs a
            · have d4 : decide ((T.tb.bs k : Int) < (T.tb.bs a : Int)) = true := decide_eq_true (by omega)
              simp only [↓du, nD, aiL, aiM, Nat.zero_add, Nat.reduceAdd, ↓cU, ↓bD, rW, aiI, aiG, aH, ↓di, ↓iI, ↓cJ, ↓dC, ↓bB, ↓cC, ↓cI, aiH, aD, fg, aK, ↓aU, aiK, aZ, bJ, xg, xe, bU, ↓fD, ↓cR, dh, d1, ↓dB, cn, b1, Int.reduceNeg, xm, ag, ae, pH, m1, am, m2, Ea, c3, ↓rA, Int.reduceLT, decide_false, ↓gK, jT, decide_true, d9, fb, ab, d4, fB, true_and]
              exact ⟨some k, _, _, _, _, rfl, Nat.lt_succ_self k, by omega, fun l hl hc => by
               by_cases g : l = k
               · rw [g]
                 exact ⟨Int.le_refl _, fun _ => Nat.le_refl _⟩
               · obtain ⟨g1, g2⟩ := h3 l (by omega) hc
                 obtain ⟨g3, g4⟩ := Zw h2 (show 0 < T.tb.T k q by omega) hc (show T.tb.T k n * T.tb.T a q = T.tb.T a n * T.tb.T k q by omega) g1
                 exact ⟨g3, fun e => by
                  have := g2 (g4 e)
                  omega⟩⟩
            · have d4 : decide ((T.tb.bs k : Int) < (T.tb.bs a : Int)) = false := decide_eq_false (by omega)
              simp only [↓du, nD, aiL, aiM, Nat.zero_add, Nat.reduceAdd, ↓cU, ↓bD, rW, aiI, aiG, aH, ↓di, ↓iI, ↓cJ, ↓dC, ↓bB, ↓cC, ↓cI, aiH, aD, fg, aK, ↓aU, aiK, aZ, bJ, xg, xe, bU, ↓fD, ↓cR, dh, d1, ↓dB, cn, b1, Int.reduceNeg, xm, ag, ae, pH, m1, am, m2, Ea, c3, ↓rA, Int.reduceLT, decide_false, ↓gK, jT, decide_true, d9, fb, ab, d4, fB, true_and]
              exact ⟨some a, _, _, _, _, rfl, by omega, h2, fun l hl hc => by
               by_cases g : l = k
               · rw [g]
                 exact ⟨by omega, fun _ => by omega⟩
               · exact h3 l (by omega) hc⟩
          · have d3 : decide (T.tb.T k n * T.tb.T a q - T.tb.T a n * T.tb.T k q = 0) = false := decide_eq_false c3
            simp only [↓du, nD, aiL, aiM, Nat.zero_add, Nat.reduceAdd, ↓cU, ↓bD, rW, aiI, aiG, aH, ↓di, ↓iI, ↓cJ, ↓dC, ↓bB, ↓cC, ↓cI, aiH, aD, fg, aK, ↓aU, aiK, aZ, bJ, xg, xe, bU, ↓fD, ↓cR, dh, d1, ↓dB, cn, b1, Int.reduceNeg, xm, ag, ae, pH, m1, am, m2, Ea, ↓rA, d2, ↓gK, jT, c3, decide_false, fB, true_and]
            exact ⟨some a, _, _, _, _, rfl, by omega, h2, fun l hl hc => by
             by_cases g : l = k
             · rw [g]
               exact ⟨by omega, fun e => by omega⟩
             · exact h3 l (by omega) hc⟩
  · rintro fr h' ⟨rfl, r, x3, x4, x5, x6, rfl, en⟩
    exact ⟨rfl, rfl, r, x3, x4, x5, x6, rfl, en⟩
 have eo := wC m (fun i => nD (T.tb.bs i))
 have w : Wp (iT [.ref T.t, .int (q : Int)] h) (fun d fr h' => fr = [] ∧ h' = h ∧ ∃ r, d = optN r ∧ Lv T n q m r) dF := by
  clear H
  generalize (aR m fun i => nD (T.tb.bs i)) = OD at *
  simp only [↓FZ, ↓gY, startF, aiN, aiR, aiL, aiM, Nat.zero_add, Nat.reduceAdd, Nat.reduceSub, ai5, ai0, ai6, ajb, aH, ↓Hr, ↓cJ, ↓dC, ↓cR, aiI, aiG, bU, k1, ↓JN, ↓JQ, ↓cC, ↓cI, aiH, aD, fb, aK, cl, Option.map_some, eo]
  refine lp.mono ?_
  rintro f fr h' ⟨rfl, rfl, r, x3, x4, x5, x6, rfl, en⟩
  have ow := Ey r
  obtain ⟨OR, hOR⟩ : ∃ x, x = optN r := ⟨_, rfl⟩
  rw [← hOR] at ow ⊢
  simp only [bU, ↓jR, ↓T8, aiK, aiH, aiI, aiG, aD, aH, j8, true_and]
  exact ⟨r, hOR, en⟩
 obtain ⟨d, fr, h', e, rfl, rfl, r, rfl, en⟩ := w.out
 exact ⟨r, e, en⟩
end
end L
namespace L
open PySem PySem.Spec L2 Pk
theorem Np (f g : Nat → D) : ∀ l : List Nat, iZ (l.map f) (l.map g) = l.map fun j => .tup [f j, g j]
 | [] => rfl
 | a :: l => by
   rw [aiN, aiN, iZ, Np f g l, aiN]
theorem Df {n q : Nat} (f : Nat → D) (v : D) (hq : q < n) : ou (.int (q : Int)) v (aR n f) = some (aR n fun i => if i = q then v else f i) := by
 unfold ou
 dsimp only
 have : ixN (aR n f).length (q : Int) = some q := by
  rw [cO]
  unfold ixN
  rw [if_pos (by omega), if_pos (by omega)]
  congr 1
 rw [this, ← abk]
 rfl
def Tab.w (U : Tab) (tb : Tb) : Tab := ⟨U.t, U.g, U.o, U.b, U.rp, tb⟩
def Tab.row (U : Tab) (i : Nat) (f : Nat → Int) : Tab := U.w ⟨U.tb.d, fun k => if k = i then f else U.tb.T k, U.tb.bs, U.tb.out⟩
section
variable {h : Hh} {T U : Tab} {F : Mem} {m n i j a q : Nat}
theorem bV.row (H : bV h (U.cl m n ++ F)) (hi : i ≤ m) (f : Nat → Int) : bV (h.set (U.rp i) (.nl (cY n f))) ((U.row i f).cl m n ++ F) := by
 have H2 := H.set (4 + i) (Xr hi) (.nl (cY n f))
 have e : (U.cl m n ++ F).set (4 + i) (U.rp i, .nl (cY n f)) = (U.row i f).cl m n ++ F := by
  rw [List.set_append_left _ _ (by unfold Tab.cl; simp; omega)]
  congr 1
  unfold Tab.cl
  rw [show 4 + i = i + 1 + 1 + 1 + 1 by omega]
  simp only [aiI]
  rw [Fg]
  refine congrArg (fun r => (U.t, D.no 0 U.fs) :: (U.g, D.nl (aR (m + 1) fun i => .ref (U.rp i))) :: (U.o, D.nl (aR n fun l => nD (U.tb.out l))) :: (U.b, D.nl (aR m fun i => nD (U.tb.bs i))) :: r) (aje fun k _ => ?_)
  show _ = (U.rp k, D.nl (cY n ((if k = i then f else U.tb.T k))))
  by_cases c : k = i
  · rw [if_pos c, if_pos c, c]
  · rw [if_neg c, if_neg c]
 rw [e] at H2
 exact H2
def Tab.mid (T : Tab) (a q k : Nat) : Tab := T.w ⟨T.tb.d, fun i l => if i < k ∧ i ≠ a then (T.tb.piv a q).T i l else T.tb.T i l, T.tb.bs, T.tb.out⟩
theorem Tab.mid0 : T.mid a q 0 = T := by
 have e : (fun i l => if i < 0 ∧ i ≠ a then (T.tb.piv a q).T i l else T.tb.T i l) = T.tb.T := by
  funext i l
  rw [if_neg (by omega)]
 unfold Tab.mid
 rw [e]
 rfl
theorem Tab.mid_skip {k : Nat} (e : k = a ∨ ∀ l, (T.tb.piv a q).T k l = T.tb.T k l) : T.mid a q (k + 1) = T.mid a q k := by
 unfold Tab.mid
 congr 2
 funext i l
 by_cases c : i < k + 1 ∧ i ≠ a
 · by_cases c2 : i < k ∧ i ≠ a
   · rw [if_pos c, if_pos c2]
   · rw [if_pos c, if_neg c2]
     obtain rfl : i = k := by omega
     rcases e with e | e
     · exact absurd e c.2
     · exact e l
 · rw [if_neg c, if_neg (by omega)]
theorem Tab.mid_row {k : Nat} (ka : k ≠ a) : (T.mid a q k).row k ((T.tb.piv a q).T k) = T.mid a q (k + 1) := by
 unfold Tab.mid Tab.row
 show T.w _ = T.w _
 congr 2
 funext i
 by_cases c : i = k
 · rw [if_pos c]
   funext l
   rw [if_pos (by omega), c]
 · rw [if_neg c]
   funext l
   show (if i < k ∧ i ≠ a then (T.tb.piv a q).T i l else T.tb.T i l) = _
   by_cases c2 : i < k ∧ i ≠ a
   · rw [if_pos c2, if_pos (by omega)]
   · rw [if_neg c2, if_neg (by omega)]
theorem Ur {t : Tb} {a q k l : Nat} (ka : k ≠ a) : (t.piv a q).T k l = if l = q then -t.T k q else (t.T k l * t.T a q - t.T k q * t.T a l) / t.d := by
 unfold Tb.piv
 dsimp only
 rw [if_neg ka]
theorem Og (H : bV h (T.cl m n ++ F)) (S : T.Sh m n) (hd : 0 < T.tb.d) (hd2 : T.tb.d.natAbs < 2 ^ 4000) (ha : a < m) (hq : q < n) :
 ∃ h', gA [.ref T.t, .int (a : Int), .int (q : Int)] h = .ok .non [] h' ∧ bV h' ((T.w (T.tb.piv a q)).cl m n ++ F) := by
 have b50 : 51 ≤ big := by decide
 have sm := S.sm
 have sn := S.sn
 obtain ⟨B, hB⟩ : ∃ B, B = lB := ⟨_, rfl⟩
 have k2 : o5 = (aA (qD (rP (aC (bL cQ) (aM 0))) (dN 2 (aX (aY 5) (aX (aY 6) dY))) B) lE) := by rw [hB]; rfl
 have lp : Wp (lZ T.g (aR (m + 1) fun i => .ref (T.rp i)) (dN 2 (aX (aY 5) (aX (aY 6) dY))) B ((aiJ (m + 1)).map fun (k : Nat) => D.tup [.int (k : Int), .ref (T.rp k)])
  [some (.ref T.t), some (.int (a : Int)), some (.int (q : Int)), some (.ref (T.rp a)), some (.int (T.tb.T a q)), none, none, none, none, none, none] h)
  (fun f fr h' => f = .nx ∧ bV h' ((T.mid a q (m + 1)).cl m n ++ F) ∧ ∃ x5 x6 x7 x8 x9 x10, fr = [some (.ref T.t), some (.int (a : Int)), some (.int (q : Int)), some (.ref (T.rp a)), some (.int (T.tb.T a q)), x5, x6, x7, x8, x9, x10]) dF := by
  refine Ke (fun k fr h' => bV h' ((T.mid a q k).cl m n ++ F) ∧ ∃ x5 x6 x7 x8 x9 x10, fr = [some (.ref T.t), some (.int (a : Int)), some (.int (q : Int)), some (.ref (T.rp a)), some (.int (T.tb.T a q)), x5, x6, x7, x8, x9, x10]) ?_ ?_ ?_ ?_
  · rintro k fr h' ⟨H', _⟩
    exact OJ (T := T.mid a q k) H'
  · rw [Tab.mid0]
    exact ⟨H, none, none, none, none, none, none, rfl⟩
  · rintro k fr h' hk ⟨H', x5, x6, x7, x8, x9, x10, rfl⟩
    obtain ⟨fg, fo, fb, fd⟩ := pU H'
    have fd : bL jx h' (.ref T.t) = some (.int T.tb.d) := fd
    have ek : (T.mid a q k).tb.T k = T.tb.T k := by
     funext l
     exact if_neg (by omega)
    have ea : (T.mid a q k).tb.T a = T.tb.T a := by
     funext l
     exact if_neg (by omega)
    have xe := Nm H' (i := k) (j := q) (by omega) (Nat.le_of_lt hq)
    rw [ek] at xe
    have xe : aP h' (.ref (T.rp k)) (.int (q : Int)) = some (.int (T.tb.T k q)) := xe
    have rk := Ls H' (i := k) (by omega)
    rw [ek] at rk
    have rk : h'[T.rp k]? = some (.nl (cY n (T.tb.T k))) := rk
    have ra := Ls H' (i := a) (by omega)
    rw [ea] at ra
    have ra : h'[T.rp a]? = some (.nl (cY n (T.tb.T a))) := ra
    rw [hB]
    by_cases c : k = a
    · have d1 : decide ((k : Int) = (a : Int)) = true := decide_eq_true (by omega)
      simp only [↓du, aiL, aiM, Nat.zero_add, Nat.reduceAdd, ↓cU, ↓bD, aiI, aiG, aH, ↓di, ↓lJ, ↓cJ, ↓fD, ↓bB, ↓aU, aiK, aiH, aD, aZ, bJ, ↓cI, jT, d1, aK, d9, ↓dB, Le, uZ, true_and]
      rw [Tab.mid_skip (.inl c)]
      exact ⟨H', _, _, _, _, _, _, rfl⟩
    · have d1 : decide ((k : Int) = (a : Int)) = false := decide_eq_false (by omega)
      by_cases c2 : T.tb.T k q = 0 ∧ T.tb.T a q = T.tb.d
      · have d2 : decide (T.tb.T k q = 0) = true := decide_eq_true c2.1
        have d3 : decide (T.tb.T a q = T.tb.d) = true := decide_eq_true c2.2
        simp only [↓du, aiL, aiM, Nat.zero_add, Nat.reduceAdd, ↓cU, ↓bD, aiI, aiG, aH, ↓di, ↓lJ, ↓cJ, ↓fD, ↓bB, ↓aU, aiK, aiH, aD, aZ, bJ, ↓cI, jT, d1, aK, ↓dB, bU, ↓dC, ↓jE, xe, ↓gK, ↓cR, d2, d9, ↓cC, fd, d3, Le, uZ, true_and]
        rw [Tab.mid_skip (.inr fun l => ?_)]
        · exact ⟨H', _, _, _, _, _, _, rfl⟩
        · rw [Ur c, c2.1, c2.2]
          by_cases g : l = q
          · rw [if_pos g, g, c2.1]
            rfl
          · rw [if_neg g, Int.zero_mul, Int.sub_zero, Int.mul_ediv_cancel _ (by omega)]
      · have W1 : ∀ fr0 : Fr, fr0 = [some (.ref T.t), some (.int (a : Int)), some (.int (q : Int)), some (.ref (T.rp a)), some (.int (T.tb.T a q)), some (.int (k : Int)), some (.ref (T.rp k)), some (.int (T.tb.T k q)), x8, none, none] →
         Wp (jc (fun h2 => h2[T.rp k]? = some (.nl (cY n (T.tb.T k))) ∧ h2[T.rp a]? = some (.nl (cY n (T.tb.T a)))) [9, 10] eQ eU eV (iZ (cY n (T.tb.T k)) (cY n (T.tb.T a))) fr0 h')
          (fun r fr h2 => h2 = h' ∧ fr = fr0 ∧ r = aR (n + 1) fun j => .int ((T.tb.T k j * T.tb.T a q - T.tb.T k q * T.tb.T a j) / T.tb.d)) dF := by
         rintro fr0 rfl
         have ez : iZ (cY n (T.tb.T k)) (cY n (T.tb.T a)) = (aiJ (n + 1)).map fun j => D.tup [.int (T.tb.T k j), .int (T.tb.T a j)] := Np _ _ _
         rw [ez]
         have q0 := Q6 (vs := [9, 10]) (g := eQ) (t := eU) (e := eV) (c := fun h2 => h2[T.rp k]? = some (.nl (cY n (T.tb.T k))) ∧ h2[T.rp a]? = some (.nl (cY n (T.tb.T a))))
          (h := h') (fr := [some (.ref T.t), some (.int (a : Int)), some (.int (q : Int)), some (.ref (T.rp a)), some (.int (T.tb.T a q)), some (.int (k : Int)), some (.ref (T.rp k)), some (.int (T.tb.T k q)), x8, none, none])
          (F := fun j => D.tup [.int (T.tb.T k j), .int (T.tb.T a j)]) (G := fun j => .int ((T.tb.T k j * T.tb.T a q - T.tb.T k q * T.tb.T a j) / T.tb.d)) (xs := aiJ (n + 1)) ⟨rk, ra⟩ fun j hj => by
           have hj := List.mem_range.mp hj
           have m1 : vZ (T.tb.T k j) (T.tb.T a q) = true := yH (S.bd _ _ (by omega) (by omega)) (S.bd _ _ (by omega) (by omega))
           have m2 : vZ (T.tb.T k q) (T.tb.T a j) = true := yH (S.bd _ _ (by omega) (by omega)) (S.bd _ _ (by omega) (by omega))
           have m3 : ∀ x, Gj x T.tb.d = true := fun x => Rm hd hd2
           have w : Wp (dM [9, 10] eQ eU eV (D.tup [.int (T.tb.T k j), .int (T.tb.T a j)]) [some (.ref T.t), some (.int (a : Int)), some (.int (q : Int)), some (.ref (T.rp a)), some (.int (T.tb.T a q)), some (.int (k : Int)), some (.ref (T.rp k)), some (.int (T.tb.T k q)), x8, none, none] h')
            (fun o fr1 h1 => o = some (.int ((T.tb.T k j * T.tb.T a q - T.tb.T k q * T.tb.T a j) / T.tb.d)) ∧ fr1 = [some (.ref T.t), some (.int (a : Int)), some (.int (q : Int)), some (.ref (T.rp a)), some (.int (T.tb.T a q)), some (.int (k : Int)), some (.ref (T.rp k)), some (.int (T.tb.T k q)), x8, none, none] ∧ h1 = h') dF := by
            simp only [↓iV, ↓Bm, ↓du, aiL, aiM, Nat.zero_add, Nat.reduceAdd, ↓cU, ↓bD, aiI, aiG, aH, ↓di, ↓Bo, ↓dB, d9, ↓Bp, ↓bB, ↓aU, aiK, aiH, aD, aZ, bJ, pH, m1, m2, Ea, ↓cC, ↓cI, fd, aK, m3, bM, cD, and_self]
           obtain ⟨_, _, _, e, rfl, rfl, rfl⟩ := w.out
           exact e
         rw [q0]
         simp only [cW]
         exact ⟨trivial, trivial, rfl⟩
        have ez := Za rk ra
        have lz : (iZ (cY n (T.tb.T k)) (cY n (T.tb.T a))).length ≤ 100000 := by
         rw [sY]
         unfold cY
         rw [cO, cO]
         omega
        have sF := Df (n := n + 1) (q := q) (fun j => .int ((T.tb.T k j * T.tb.T a q - T.tb.T k q * T.tb.T a j) / T.tb.d)) (.int (-T.tb.T k q)) (by omega)
        have er : (aR (n + 1) fun i => if i = q then D.int (-T.tb.T k q) else .int ((T.tb.T k i * T.tb.T a q - T.tb.T k q * T.tb.T a i) / T.tb.d)) = cY n ((T.tb.piv a q).T k) := j5 fun l _ => by
         rw [Ur c]
         by_cases g : l = q
         · rw [if_pos g, if_pos g]
         · rw [if_neg g, if_neg g]
        rw [er] at sF
        have aF : Hf (.fl (cY n ((T.tb.piv a q).T k))) (cY n (T.tb.T k)) = some (cY n ((T.tb.piv a q).T k)) := by
         unfold Hf
         dsimp only
         unfold cY
         rw [cO, cO, if_pos (by omega)]
        have H2 : bV (h'.set (T.rp k) (.nl (cY n ((T.tb.piv a q).T k)))) ((T.mid a q (k + 1)).cl m n ++ F) := by
         rw [← Tab.mid_row c]
         exact bV.row (U := T.mid a q k) H' (by omega) _
        have bn : dG (.int (T.tb.T k q)) = some (.int (-T.tb.T k q)) := rfl
        obtain ⟨R1, hR1⟩ : ∃ x, x = aR (n + 1) fun j => D.int ((T.tb.T k j * T.tb.T a q - T.tb.T k q * T.tb.T a j) / T.tb.d) := ⟨_, rfl⟩
        obtain ⟨R2, hR2⟩ : ∃ x, x = cY n ((T.tb.piv a q).T k) := ⟨_, rfl⟩
        obtain ⟨R3, hR3⟩ : ∃ x, x = cY n (T.tb.T k) := ⟨_, rfl⟩
        rw [← hR1] at sF
        rw [← hR2] at sF aF H2
        rw [← hR3] at aF rk lz ez
        have W1 := W1 _ rfl
        rw [← hR1, ← hR3] at W1
        by_cases c3 : T.tb.T k q = 0
        · have d2 : decide (T.tb.T k q = 0) = true := decide_eq_true c3
          have d3 : decide (T.tb.T a q = T.tb.d) = false := decide_eq_false fun z => c2 ⟨c3, z⟩
          simp only [↓du, aiL, aiM, Nat.zero_add, Nat.reduceAdd, ↓cU, ↓bD, aiI, aiG, aH, ↓di, ↓lJ, ↓cJ, ↓fD, ↓bB, ↓aU, aiK, aiH, aD, aZ, bJ, ↓cI, jT, d1, aK, ↓dB, bU, ↓dC, ↓jE, xe, ↓gK, ↓cR, d2, d9, ↓cC, fd, d3, ↓Xf, ↓Q5, dU, ez, dX, lz, bM, cD, true_and]
          refine W1.mono ?_
          rintro r fr h2 ⟨rfl, rfl, rfl⟩
          simp only [aiI, aiG, aH, bU, ↓cJ, ↓Ck, ↓cC, ↓aU, aiK, aiH, aD, aZ, bJ, bn, aK, ↓qF, sF, ↓NZ, uY, d9, qm, dU, Iz, rk, aF, fB]
          exact ⟨H2, _, _, _, _, _, _, rfl⟩
        · have d2 : decide (T.tb.T k q = 0) = false := decide_eq_false c3
          simp only [↓du, aiL, aiM, Nat.zero_add, Nat.reduceAdd, ↓cU, ↓bD, aiI, aiG, aH, ↓di, ↓lJ, ↓cJ, ↓fD, ↓bB, ↓aU, aiK, aiH, aD, aZ, bJ, ↓cI, jT, d1, aK, ↓dB, bU, ↓dC, ↓jE, xe, ↓gK, ↓cR, d2, ↓Xf, ↓Q5, dU, ez, dX, lz, bM, cD, true_and]
          refine W1.mono ?_
          rintro r fr h2 ⟨rfl, rfl, rfl⟩
          simp only [aiI, aiG, aH, bU, ↓cJ, ↓Ck, ↓cC, ↓aU, aiK, aiH, aD, aZ, bJ, bn, aK, ↓qF, sF, ↓NZ, uY, d9, qm, dU, Iz, rk, aF, fB]
          exact ⟨H2, _, _, _, _, _, _, rfl⟩
  · rintro fr h' ⟨H', q⟩
    exact ⟨rfl, H', q⟩
 obtain ⟨fg, fo, fb, fd⟩ := pU H
 have co := OJ H
 have cl : jO h (.ref T.g) = some (T.g, (aR (m + 1) fun i => .ref (T.rp i))) := by
  unfold jO
  dsimp only
  rw [co]
 have xg := Vy H (i := a) (by omega)
 have xe := Nm H (i := a) (j := q) (by omega) (Nat.le_of_lt hq)
 have eo := wC (m + 1) (fun i => .ref (T.rp i))
 have w : Wp (gA [.ref T.t, .int (a : Int), .int (q : Int)] h) (fun d fr h' => d = .non ∧ fr = [] ∧ bV h' ((T.w (T.tb.piv a q)).cl m n ++ F)) dF := by
  clear H co
  generalize (aR (m + 1) fun i => .ref (T.rp i)) = OD at *
  simp only [↓Es, ↓gY, startF, aiN, aiR, aiL, aiM, Nat.zero_add, Nat.reduceAdd, Nat.reduceSub, ai5, ai0, ai6, ajb, aH, ↓FW, ↓cJ, ↓dC, ↓bB, ↓cC, ↓cI, aiH, aD, fg, aK, ↓aU, aiK, aiI, aiG, aZ, bJ, xg, bU, ↓Bu, ↓jE, xe, k2, ↓JN, ↓JQ, cl, Option.map_some, eo]
  refine lp.mono ?_
  rintro f fr h' ⟨rfl, H', x5, x6, x7, x8, x9, x10, rfl⟩
  obtain ⟨U, hU⟩ : ∃ U, U = T.mid a q (m + 1) := ⟨_, rfl⟩
  have ea : U.tb.T a = T.tb.T a := by
   rw [hU]
   funext l
   exact if_neg (by omega)
  have ut : U.t = T.t := by rw [hU]; rfl
  have ub : U.b = T.b := by rw [hU]; rfl
  have uo : U.o = T.o := by rw [hU]; rfl
  have ug : U.g = T.g := by rw [hU]; rfl
  have ur : U.rp = T.rp := by rw [hU]; rfl
  have ud : U.tb.d = T.tb.d := by rw [hU]; rfl
  have ubs : U.tb.bs = T.tb.bs := by rw [hU]; rfl
  have uout : U.tb.out = T.tb.out := by rw [hU]; rfl
  have uT : ∀ i, i ≤ m → i ≠ a → U.tb.T i = (T.tb.piv a q).T i := fun i hi ia => by
   rw [hU]
   funext l
   exact if_pos ⟨by omega, ia⟩
  rw [← hU] at H'
  clear hU
  obtain ⟨-, -, -, fd1⟩ := pU H'
  have ra := Ls H' (i := a) (by omega)
  rw [ea, ur] at ra
  rw [ut, ud] at fd1
  have H1 := bV.row H' (i := a) (by omega) ((T.tb.piv a q).T a)
  obtain ⟨h1, e1⟩ : ∃ x, x = h'.set (U.rp a) (.nl (cY n ((T.tb.piv a q).T a))) := ⟨_, rfl⟩
  rw [← e1] at H1
  obtain ⟨X, hX⟩ : ∃ X : Nat → Nat → Int, X = fun k => if k = a then (T.tb.piv a q).T a else U.tb.T k := ⟨_, rfl⟩
  have H1 : bV h1 ((U.w ⟨U.tb.d, X, U.tb.bs, U.tb.out⟩).cl m n ++ F) := by rw [hX]; exact H1
  have c1 := Rk H1
  have c1 : h1[U.t]? = some (.no 0 [.ref U.g, .ref U.o, .ref U.b, .int U.tb.d]) := c1
  have H2 : bV (h1.set U.t (.no 0 [.ref U.g, .ref U.o, .ref U.b, .int (T.tb.T a q)])) ((U.w ⟨T.tb.T a q, X, U.tb.bs, U.tb.out⟩).cl m n ++ F) := H1.set 0 rfl _
  obtain ⟨h2, e2⟩ : ∃ x, x = h1.set U.t (.no 0 [.ref U.g, .ref U.o, .ref U.b, .int (T.tb.T a q)]) := ⟨_, rfl⟩
  rw [← e2] at H2
  obtain ⟨-, fo2, fb2, -⟩ := pU H2
  have xo2 := acT H2 (j := q) hq
  have xb2 := acU H2 (i := a) ha
  have cb2 := O5 H2
  have sb : ou (.int (a : Int)) (.int (U.tb.out q : Int)) (aR m fun i => nD (U.tb.bs i)) = some (aR m fun i => nD (upd U.tb.bs a (U.tb.out q) i)) := by
   rw [Df _ _ ha]
   congr 1
   refine j5 fun i _ => ?_
   unfold upd
   by_cases c : i = a
   · rw [if_pos c, if_pos c]
     rfl
   · rw [if_neg c, if_neg c]
  have so : ou (.int (q : Int)) (.int (U.tb.bs a : Int)) (aR n fun i => nD (U.tb.out i)) = some (aR n fun i => nD (upd U.tb.out q (U.tb.bs a) i)) := by
   rw [Df _ _ hq]
   congr 1
   refine j5 fun i _ => ?_
   unfold upd
   by_cases c : i = q
   · rw [if_pos c, if_pos c]
     rfl
   · rw [if_neg c, if_neg c]
  have H3 : bV (h2.set U.b (.nl (aR m fun i => nD (upd U.tb.bs a (U.tb.out q) i)))) ((U.w ⟨T.tb.T a q, X, upd U.tb.bs a (U.tb.out q), U.tb.out⟩).cl m n ++ F) := H2.set 3 rfl _
  obtain ⟨h3, e3⟩ : ∃ x, x = h2.set U.b (.nl (aR m fun i => nD (upd U.tb.bs a (U.tb.out q) i))) := ⟨_, rfl⟩
  rw [← e3] at H3
  obtain ⟨-, fo3, -, -⟩ := pU H3
  have co3 := O4 H3
  have H4 : bV (h3.set U.o (.nl (aR n fun i => nD (upd U.tb.out q (U.tb.bs a) i)))) ((U.w ⟨T.tb.T a q, X, upd U.tb.bs a (U.tb.out q), upd U.tb.out q (U.tb.bs a)⟩).cl m n ++ F) := H3.set 2 rfl _
  obtain ⟨h4, e4⟩ : ∃ x, x = h3.set U.o (.nl (aR n fun i => nD (upd U.tb.out q (U.tb.bs a) i))) := ⟨_, rfl⟩
  rw [← e4] at H4
  have fin : bV h4 ((T.w (T.tb.piv a q)).cl m n ++ F) := by
   have e : (U.w ⟨T.tb.T a q, X, upd U.tb.bs a (U.tb.out q), upd U.tb.out q (U.tb.bs a)⟩).cl m n = (T.w (T.tb.piv a q)).cl m n := by
    have er : ((aiJ (m + 1)).map fun i => (U.rp i, D.nl (cY n (X i)))) = (aiJ (m + 1)).map fun i => (T.rp i, D.nl (cY n ((T.tb.piv a q).T i))) := aje fun i hi => by
     have hi := List.mem_range.mp hi
     rw [ur, hX]
     dsimp only
     by_cases c : i = a
     · rw [if_pos c, c]
     · rw [if_neg c, uT i (by omega) c]
    unfold Tab.cl
    show _ :: _ :: _ :: _ :: ((aiJ (m + 1)).map fun i => (U.rp i, D.nl (cY n (X i)))) = _ :: _ :: _ :: _ :: ((aiJ (m + 1)).map fun i => (T.rp i, D.nl (cY n ((T.tb.piv a q).T i))))
    rw [er]
    unfold Tab.fs Tab.w
    dsimp only
    rw [ubs, uout, ut, ug, ur, ub, uo]
    rfl
   rw [← e]
   exact H4
  have sa : ou (.int (q : Int)) (.int T.tb.d) (cY n (T.tb.T a)) = some (cY n ((T.tb.piv a q).T a)) := by
   unfold cY
   rw [Df _ _ (by omega)]
   congr 1
   refine j5 fun i _ => ?_
   show _ = D.int (if a = a then (if i = q then T.tb.d else T.tb.T a i) else _)
   rw [if_pos rfl]
   by_cases c : i = q
   · rw [if_pos c, if_pos c]
   · rw [if_neg c, if_neg c]
  have pf : nj 3 (.int (T.tb.T a q)) [.ref U.g, .ref U.o, .ref U.b, .int U.tb.d] = some [.ref U.g, .ref U.o, .ref U.b, .int (T.tb.T a q)] := rfl
  have i3 : jx 0 = some 3 := rfl
  have fo2 : bL dH h2 (.ref U.t) = some (.ref U.o) := fo2
  have fb2 : bL gh h2 (.ref U.t) = some (.ref U.b) := fb2
  have fo3 : bL dH h3 (.ref U.t) = some (.ref U.o) := fo3
  have xo2 : aP h2 (.ref U.o) (.int (q : Int)) = some (.int (U.tb.out q : Int)) := xo2
  have xb2 : aP h2 (.ref U.b) (.int (a : Int)) = some (.int (U.tb.bs a : Int)) := xb2
  have cb2 : h2[U.b]? = some (.nl (aR m fun i => nD (U.tb.bs i))) := cb2
  have co3 : h3[U.o]? = some (.nl (aR n fun i => nD (U.tb.out i))) := co3
  rw [ur] at e1
  rw [ut] at c1 e2 fo2 fb2 fo3
  have e1 := e1.symm
  have e2 := e2.symm
  have e3 := e3.symm
  have e4 := e4.symm
  simp only [bU, ↓Bt, ↓cJ, ↓Ck, ↓cC, ↓cI, aiH, aiK, aD, fd1, aK, ↓aU, aiI, aiG, aZ, bJ, ↓qF, ra, sa, ↓Br, ↓NK, ↓Ua, e1, c1, i3, pf, ↓QJ, ↓QH, ↓cX, ↓bB, aiL, e2, fo2, xo2, fb2, xb2, ↓bQ, aiM, Nat.zero_add, Nat.reduceAdd, dX, Nat.reduceLeDiff, ↓du, ↓cU, ↓Y9, Iz, cb2, sb, e3, fo3, co3, so, ↓di, W7, e4, true_and]
  exact fin
 obtain ⟨d, fr, h', e, rfl, rfl, H'⟩ := w.out
 exact ⟨h', e, H'⟩
end
end L
namespace L
open PySem PySem.Spec L2 Pk
section
variable {h : Hh} {T U : Tab} {F : Mem} {m n i j a q : Nat}
structure Step (T : Tab) (m n a q : Nat) : Prop where
 hq : q < n
 ha : a < m
 hc : T.tb.T m q < 0
 er : ∀ l, l < n → T.tb.T m l < 0 → T.tb.out q ≤ T.tb.out l
 hp : 0 < T.tb.T a q
 lr : ∀ i, i < m → 0 < T.tb.T i q → T.tb.T a n * T.tb.T i q ≤ T.tb.T i n * T.tb.T a q ∧ (T.tb.T i n * T.tb.T a q = T.tb.T a n * T.tb.T i q → T.tb.bs a ≤ T.tb.bs i)
theorem Xu (H : bV h (T.cl m n ++ F)) (S : T.Sh m n) (hd : 0 < T.tb.d) (hd2 : T.tb.d.natAbs < 2 ^ 4000) (lim : ∀ q, q < n → T.tb.T m q < 0 → ∃ k, k < m ∧ 0 < T.tb.T k q) :
 (gM [.ref T.t] h = .ok (.bl false) [] h ∧ ∀ l, l < n → 0 ≤ T.tb.T m l) ∨ ∃ a q h', gM [.ref T.t] h = .ok (.bl true) [] h' ∧ bV h' ((T.w (T.tb.piv a q)).cl m n ++ F) ∧ Step T m n a q := by
 obtain ⟨r, e1, en⟩ := Oe H S
 have f1 : fnOf wH h (.ref T.t) = some gq := Jb H
 cases r with
 | none =>
   refine .inl ⟨?_, en⟩
   have w : Wp (gM [.ref T.t] h) (fun d fr h' => d = .bl false ∧ fr = [] ∧ h' = h) dF := by
    have ci : zG h D.non .non = some true := rfl
    rw [Hz] at e1
    simp only [↓zm, ↓gY, startF, aiN, aiR, aiL, aiM, Nat.zero_add, Nat.reduceSub, ai5, ai0, ai6, ajb, aH, ↓zX, ↓cJ, ↓dC, ↓yE, ↓aU, aiH, aiG, aD, dU, bJ, f1, aK, ↓bQ, fu, aiQ, e1, aiI, ↓cW, bU, ↓xq, ↓fD, ↓bB, aiK, MK, ↓cR, ci, d9, ↓jR, QG, j8, and_self]
   obtain ⟨_, _, _, e, rfl, rfl, rfl⟩ := w.out
   exact e
 | some q =>
   obtain ⟨hq, hc, er⟩ := en
   obtain ⟨r, e2, lv⟩ := Ro H S (q := q) (by omega)
   have f2 : fnOf yg h (.ref T.t) = some iT := Jb H
   cases r with
   | none =>
     obtain ⟨k, hk, hp⟩ := lim q hq hc
     have := lv k hk
     omega
   | some a =>
     obtain ⟨ha, hp, lr⟩ := lv
     obtain ⟨h', e3, H'⟩ := Og H S hd hd2 ha hq
     have f3 : fnOf wI h (.ref T.t) = some gA := Jb H
     refine .inr ⟨a, q, h', ?_, H', hq, ha, hc, er, hp, lr⟩
     have w : Wp (gM [.ref T.t] h) (fun d fr h2 => d = .bl true ∧ fr = [] ∧ h2 = h') dF := by
      have ci : zG h (.int (q : Int)) .non = some false := rfl
      rw [rW] at e1 e2
      simp only [↓zm, ↓gY, startF, aiN, aiR, aiL, aiM, Nat.zero_add, Nat.reduceSub, ai5, ai0, ai6, ajb, aH, ↓zX, ↓cJ, ↓dC, ↓yE, ↓aU, aiH, aiG, aD, dU, bJ, f1, aK, ↓bQ, fu, aiQ, e1, aiI, ↓cW, bU, ↓xq, ↓fD, ↓bB, aiK, aZ, ↓cR, ci, ↓dB, ↓Ht, ↓pF, f3, ↓cX, ↓jQ, f2, e2, Nat.reduceAdd, pG, e3, ↓jR, j8, and_self]
     obtain ⟨_, _, _, e, rfl, rfl, rfl⟩ := w.out
     exact e
theorem Us (n : Nat) (f : Nat → Nat) : (aR n fun i => nD (f i)) = ((aiJ n).map fun i => (f i : Int)).map D.int := by
 unfold aR nD
 rw [ai4]
 rfl
theorem Ut {n u : Nat} {f : Nat → Nat} (h : (u : Int) ∈ (aiJ n).map fun i => (f i : Int)) : ((aiJ n).map fun i => (f i : Int)).idxOf (u : Int) < n ∧ f (((aiJ n).map fun i => (f i : Int)).idxOf (u : Int)) = u := by
 have h1 := List.idxOf_lt_length_of_mem h
 have h2 := List.getElem_idxOf h1
 rw [List.getElem_map, List.getElem_range] at h2
 rw [aiP, aiS] at h1
 exact ⟨h1, by omega⟩
theorem R9 (H : bV h (T.cl m n ++ F)) (inj : ∀ i j, i < m → j < m → T.tb.bs i = T.tb.bs j → i = j) (u : Nat) : fY [.ref T.t, .int (u : Int)] h = .ok (.int (T.tb.amt m n u)) [] h := by
 obtain ⟨fg, fo, fb, fd⟩ := pU H
 have cb := O5 H
 rw [Us] at cb
 obtain ⟨l, hl⟩ : ∃ l, l = (aiJ m).map fun i => (T.tb.bs i : Int) := ⟨_, rfl⟩
 rw [← hl] at cb
 have lp := QX (g := D.int) Em.int cb sG
 have ci := Uj (h := h) (a := (u : Int)) Em.int (sG (u : Int)) lp trivial (fun _ _ => trivial) (by decide)
 have b1 : dG (.int 1) = some (.int (-1)) := rfl
 by_cases c : (u : Int) ∈ l
 · have ix := QW (h := h) (a := (u : Int)) Em.int (sG (u : Int)) lp trivial (fun _ _ => trivial) (by decide) c
   rw [decide_eq_true c] at ci
   rw [hl] at c
   obtain ⟨g1, g2⟩ := Ut c
   rw [← hl] at g1 g2
   have xg := Vy H (i := l.idxOf (u : Int)) (by omega)
   have xm := Lw H (i := l.idxOf (u : Int)) (by omega)
   have am : T.tb.amt m n u = T.tb.T (l.idxOf (u : Int)) n := by
    unfold Tb.amt
    rw [gG g1 fun k hk hne => if_neg fun z => hne (inj _ _ hk g1 (z.trans g2.symm)), if_pos g2]
   have so : ((D.ref T.b).lstP h).isSome = true := by rw [lp]; rfl
   have w : Wp (fY [.ref T.t, .int (u : Int)] h) (fun d fr h' => d = .int (T.tb.T (l.idxOf (u : Int)) n) ∧ fr = [] ∧ h' = h) dF := by
    simp only [↓xG, ↓gY, startF, aiN, aiR, aiL, aiM, Nat.zero_add, Nat.reduceAdd, Nat.reduceSub, ai0, aiQ, aH, ↓xV, ↓jR, ↓DY, ↓bB, ↓aU, aiK, aiH, aiI, aiG, aD, aZ, bJ, ↓cC, ↓cI, fb, aK, ci, d9, fg, ↓QV, so, ix, xg, ↓cR, b1, Int.reduceNeg, xm, j8, and_self]
   obtain ⟨_, _, _, e, rfl, rfl, rfl⟩ := w.out
   rw [am]
   exact e
 · rw [decide_eq_false c] at ci
   have am : T.tb.amt m n u = 0 := by
    unfold Tb.amt
    refine fZ fun k hk => if_neg fun z => c ?_
    rw [hl]
    exact List.mem_map.mpr ⟨k, List.mem_range.mpr hk, by rw [z]⟩
   have w : Wp (fY [.ref T.t, .int (u : Int)] h) (fun d fr h' => d = .int 0 ∧ fr = [] ∧ h' = h) dF := by
    simp only [↓xG, ↓gY, startF, aiN, aiR, aiL, aiM, Nat.zero_add, Nat.reduceAdd, Nat.reduceSub, ai0, aiQ, aH, ↓xV, ↓jR, ↓DY, ↓bB, ↓aU, aiK, aiH, aiI, aiG, aD, aZ, bJ, ↓cC, ↓cI, fb, aK, ci, ↓cR, j8, and_self]
   obtain ⟨_, _, _, e, rfl, rfl, rfl⟩ := w.out
   rw [am]
   exact e
theorem Vz (H : bV h (T.cl m n ++ F)) (inj : ∀ i j, i < n → j < n → T.tb.out i = T.tb.out j → i = j) (u : Nat) : iU [.ref T.t, .int (u : Int)] h = .ok (.int (T.tb.price m n u)) [] h := by
 obtain ⟨fg, fo, fb, fd⟩ := pU H
 have cb := O4 H
 rw [Us] at cb
 obtain ⟨l, hl⟩ : ∃ l, l = (aiJ n).map fun i => (T.tb.out i : Int) := ⟨_, rfl⟩
 rw [← hl] at cb
 have lp := QX (g := D.int) Em.int cb sG
 have ci := Uj (h := h) (a := (u : Int)) Em.int (sG (u : Int)) lp trivial (fun _ _ => trivial) (by decide)
 have b1 : dG (.int 1) = some (.int (-1)) := rfl
 have gm := O6 H
 by_cases c : (u : Int) ∈ l
 · have ix := QW (h := h) (a := (u : Int)) Em.int (sG (u : Int)) lp trivial (fun _ _ => trivial) (by decide) c
   rw [decide_eq_true c] at ci
   rw [hl] at c
   obtain ⟨g1, g2⟩ := Ut c
   rw [← hl] at g1 g2
   have xm := Nm H (i := m) (j := l.idxOf (u : Int)) (Nat.le_refl m) (by omega)
   have am : T.tb.price m n u = T.tb.T m (l.idxOf (u : Int)) := by
    unfold Tb.price
    rw [gG g1 fun k hk hne => if_neg fun z => hne (inj _ _ hk g1 (z.trans g2.symm)), if_pos g2]
   have so : ((D.ref T.o).lstP h).isSome = true := by rw [lp]; rfl
   have w : Wp (iU [.ref T.t, .int (u : Int)] h) (fun d fr h' => d = .int (T.tb.T m (l.idxOf (u : Int))) ∧ fr = [] ∧ h' = h) dF := by
    simp only [↓xW, ↓gY, startF, aiN, aiR, aiL, aiM, Nat.zero_add, Nat.reduceAdd, Nat.reduceSub, ai0, aiQ, aH, ↓zj, ↓jR, ↓DY, ↓bB, ↓aU, aiK, aiH, aiI, aiG, aD, aZ, bJ, ↓cC, ↓cI, fo, aK, ci, d9, fg, ↓cR, b1, Int.reduceNeg, gm, ↓QV, so, ix, xm, j8, and_self]
   obtain ⟨_, _, _, e, rfl, rfl, rfl⟩ := w.out
   rw [am]
   exact e
 · rw [decide_eq_false c] at ci
   have am : T.tb.price m n u = 0 := by
    unfold Tb.price
    refine fZ fun k hk => if_neg fun z => c ?_
    rw [hl]
    exact List.mem_map.mpr ⟨k, List.mem_range.mpr hk, by rw [z]⟩
   have w : Wp (iU [.ref T.t, .int (u : Int)] h) (fun d fr h' => d = .int 0 ∧ fr = [] ∧ h' = h) dF := by
    simp only [↓xW, ↓gY, startF, aiN, aiR, aiL, aiM, Nat.zero_add, Nat.reduceAdd, Nat.reduceSub, ai0, aiQ, aH, ↓zj, ↓jR, ↓DY, ↓bB, ↓aU, aiK, aiH, aiI, aiG, aD, aZ, bJ, ↓cC, ↓cI, fo, aK, ci, ↓cR, j8, and_self]
   obtain ⟨_, _, _, e, rfl, rfl, rfl⟩ := w.out
   rw [am]
   exact e
end
end L
namespace L
open PySem PySem.Spec L2 Pk
theorem Zx {f v : Int} (hv : 0 < v) (hf : v < f) : 2 * (v * (f % v)) < f * v := by
 have h0 := Int.emod_nonneg f (show v ≠ 0 by omega)
 have h1 := Int.emod_lt_of_pos f hv
 have h2 := Int.mul_ediv_add_emod f v
 have h3 : 0 < f / v := by
  rcases Int.lt_or_le 0 (f / v) with g | g
  · exact g
  · have := Int.mul_le_mul_of_nonneg_left g (Int.le_of_lt hv)
    omega
 have h4 : v ≤ v * (f / v) := by
  have := Int.mul_le_mul_of_nonneg_left (show (1 : Int) ≤ f / v by omega) (Int.le_of_lt hv)
  omega
 have h5 : 2 * (f % v) < f := by omega
 have h6 := Int.mul_lt_mul_of_pos_right h5 hv
 have e : 2 * (f % v) * v = 2 * (v * (f % v)) := by grind
 omega
section
variable {h : Hh} {V : D}
theorem Uu : ∀ (N : Nat) (f v : Int), 0 ≤ f → 0 ≤ v → v = 0 ∨ (v < f ∧ f * v < 2 ^ N) →
 Wp (iK (aq uI (aa 2) (mC (.int 0))) dR (N + 1) [some V, some (.int f), some (.int v)] h) (fun fl fr h' => fl = .nx ∧ h' = h ∧ ∃ g, fr = [some V, some (.int g), some (.int 0)] ∧ 0 ≤ g ∧ g ∣ f ∧ g ∣ v ∧ (g ≤ f ∨ g ≤ v)) dF
 | N, f, v, hf, hv, hm => by
   rw [Hi]
   by_cases c : 0 < v
   · have d1 : decide (0 < v) = true := decide_eq_true c
     obtain ⟨c1, c2⟩ : v < f ∧ f * v < 2 ^ N := by
      rcases hm with g | g
      · omega
      · exact g
     have m1 : O9 f v = true := wy c
     cases N with
     | zero =>
       have := Int.mul_lt_mul_of_pos_right c1 c
       have := Int.mul_pos c c
       omega
     | succ N =>
       have h1 := Zx c c1
       have ih := Uu N v (f % v) hv (Int.emod_nonneg f (by omega)) (.inr ⟨Int.emod_lt_of_pos f c, by
        have e : (2 : Int) ^ (N + 1) = 2 * 2 ^ N := by rw [Int.pow_succ, Int.mul_comm]
        omega⟩)
       obtain ⟨B, hB⟩ : ∃ B, B = dR := ⟨_, rfl⟩
       obtain ⟨t, ht⟩ : ∃ t, t = iK (aq uI (aa 2) (mC (.int 0))) dR (N + 1) := ⟨_, rfl⟩
       rw [← ht] at ih ⊢
       simp only [↓bB, ↓aU, aiK, aiH, aiI, aiG, aD, aZ, bJ, ↓cR, dh, d1, aK, ↓reduceIte, ↓vR, ↓T9, ↓cX, aiL, QZ, pH, m1, ↓bQ, NQ, QQ, aiM, Nat.reduceAdd, dX, Nat.reduceLeDiff, aH, true_and]
       refine ih.mono ?_
       rintro fl fr h' ⟨rfl, rfl, g, rfl, g0, g1, g2, g3⟩
       refine ⟨rfl, rfl, g, rfl, g0, ?_, g1, ?_⟩
       · have := Int.mul_ediv_add_emod f v
         rw [← this]
         exact Int.dvd_add (Int.dvd_trans g1 (Int.dvd_mul_right v _)) g2
       · have := Int.emod_lt_of_pos f c
         omega
   · have d1 : decide (0 < v) = false := decide_eq_false c
     obtain rfl : v = 0 := by omega
     simp only [↓bB, ↓aU, aiK, aiH, aiI, aiG, aD, aZ, bJ, ↓cR, dh, Int.reduceLT, decide_false, aK, Bool.false_eq_true, ↓reduceIte, true_and]
     exact ⟨f, rfl, hf, Int.dvd_refl f, Int.dvd_zero f, .inl (Int.le_refl f)⟩
theorem VB {a b : Int} (ha : 0 ≤ a) (hb : 0 ≤ b) (ha2 : a < 2 ^ 4000) (hb2 : b < 2 ^ 4000) {N : Nat} (hN : 8000 ≤ N) : a * b < 2 ^ N := by
 obtain ⟨x, rfl⟩ := Int.eq_ofNat_of_zero_le ha
 obtain ⟨y, rfl⟩ := Int.eq_ofNat_of_zero_le hb
 have hx : x < 2 ^ 4000 := by exact_mod_cast ha2
 have hy : y < 2 ^ 4000 := by exact_mod_cast hb2
 have h1 : x * y < 2 ^ 4000 * 2 ^ 4000 := by
  rcases Nat.eq_zero_or_pos y with g | g
  · rw [g, Nat.mul_zero]
    exact Nat.mul_pos (Nat.two_pow_pos _) (Nat.two_pow_pos _)
  · exact Nat.mul_lt_mul_of_lt_of_le hx (Nat.le_of_lt hy) (Nat.two_pow_pos _)
 rw [← Nat.pow_add] at h1
 have h2 : x * y < 2 ^ N := Nat.lt_of_lt_of_le h1 (Nat.pow_le_pow_right (by decide) hN)
 exact_mod_cast h2
theorem acV {N : Nat} (hN : 8000 ≤ N) {f v : Int} (hf : 0 ≤ f) (hv : 0 ≤ v) (hf2 : f < 2 ^ 4000) (hv2 : v < 2 ^ 4000) :
 Wp (iK (aq uI (aa 2) (mC (.int 0))) dR (N + 1 + 1) [some V, some (.int f), some (.int v)] h) (fun fl fr h' => fl = .nx ∧ h' = h ∧ ∃ g, fr = [some V, some (.int g), some (.int 0)] ∧ 0 ≤ g ∧ g ∣ f ∧ g ∣ v ∧ (g ≤ f ∨ g ≤ v)) dF := by
 rw [Hi]
 by_cases c : 0 < v
 · have d1 : decide (0 < v) = true := decide_eq_true c
   have m1 : O9 f v = true := wy c
   have l1 := Int.emod_nonneg f (show v ≠ 0 by omega)
   have l2 := Int.emod_lt_of_pos f c
   have ih := Uu (h := h) (V := V) N v (f % v) hv l1 (.inr ⟨l2, VB hv l1 hv2 (Int.lt_trans l2 hv2) hN⟩)
   obtain ⟨t, ht⟩ : ∃ t, t = iK (aq uI (aa 2) (mC (.int 0))) dR (N + 1) := ⟨_, rfl⟩
   rw [← ht] at ih ⊢
   simp only [↓bB, ↓aU, aiK, aiH, aiI, aiG, aD, aZ, bJ, ↓cR, dh, d1, aK, ↓reduceIte, ↓vR, ↓T9, ↓cX, aiL, QZ, pH, m1, ↓bQ, NQ, QQ, aiM, Nat.reduceAdd, dX, Nat.reduceLeDiff, aH, true_and]
   refine ih.mono ?_
   rintro fl fr h' ⟨rfl, rfl, g, rfl, g0, g1, g2, g3⟩
   refine ⟨rfl, rfl, g, rfl, g0, ?_, g1, ?_⟩
   · have := Int.mul_ediv_add_emod f v
     rw [← this]
     exact Int.dvd_add (Int.dvd_trans g1 (Int.dvd_mul_right v _)) g2
   · omega
 · have d1 : decide (0 < v) = false := decide_eq_false c
   obtain rfl : v = 0 := by omega
   simp only [↓bB, ↓aU, aiK, aiH, aiI, aiG, aD, aZ, bJ, ↓cR, dh, Int.reduceLT, decide_false, aK, Bool.false_eq_true, ↓reduceIte, true_and]
   exact ⟨f, rfl, hf, Int.dvd_refl f, Int.dvd_zero f, .inl (Int.le_refl f)⟩
theorem Rp {l : List Int} (hl : ∀ v ∈ l, 0 ≤ v ∧ v < 2 ^ 4000) : ∃ g, jy [.fl (l.map .int)] h = .ok (.int g) [] h ∧ 1 ≤ g ∧ g < 2 ^ 4000 ∧ ∀ v ∈ l, g ∣ v := by
 obtain ⟨N, hN, eN⟩ : ∃ N, 8000 ≤ N ∧ N + 1 + 1 = 100000 := ⟨99998, by decide, rfl⟩
 obtain ⟨B, hB⟩ : ∃ B, B = qW := ⟨_, rfl⟩
 have b2 : qW = iK (aq uI (aa 2) (mC (.int 0))) dR 100000 := rfl
 have k1 : qX = (aA (jN (wV (aa 0)) (aY 2) B) (cH (aq zH (aa 1) (mC (.int 1))))) := by rw [hB]; rfl
 have lp : Wp (mO (aY 2) B (l.map .int) [some (.fl (l.map .int)), some (.int 0), none] h) (fun f fr h' => f = .nx ∧ h' = h ∧ ∃ g x, fr = [some (.fl (l.map .int)), some (.int g), x] ∧ 0 ≤ g ∧ g < 2 ^ 4000 ∧ ∀ v ∈ l, g ∣ v) dF := by
  refine QR (fun pre fr h' => h' = h ∧ ∃ g x, fr = [some (.fl (l.map .int)), some (.int g), x] ∧ 0 ≤ g ∧ g < 2 ^ 4000 ∧ ∀ v ∈ pre, g ∣ v) ?_ ?_ ?_
  · exact ⟨rfl, 0, none, rfl, Int.le_refl 0, Int.pow_pos (by decide), fun v hv => absurd hv ai9⟩
  · rintro pre a suf fr h' e ⟨rfl, g, x, rfl, g0, g1, g2⟩
    obtain ⟨a0, a1⟩ := hl a (by rw [e]; simp)
    have w := acV (h := h') (V := .fl (l.map .int)) hN g0 a0 g1 a1
    rw [eN, ← b2, ← hB] at w
    obtain ⟨VL, hVL⟩ : ∃ x, x = l.map D.int := ⟨_, rfl⟩
    rw [← hVL] at w ⊢
    simp only [↓bD, aiI, aiG, aH]
    refine w.mono ?_
    rintro f fr h2 ⟨rfl, rfl, g', rfl, z0, z1, z2, z3⟩
    simp only [fB, true_and]
    refine ⟨g', _, rfl, z0, by omega, fun v hv => ?_⟩
    rcases List.mem_append.mp hv with hv | hv
    · exact Int.dvd_trans z1 (g2 v hv)
    · rw [List.mem_singleton.mp hv]
      exact z2
  · rintro fr h' ⟨rfl, q⟩
    exact ⟨rfl, rfl, q⟩
 have w : Wp (jy [.fl (l.map .int)] h) (fun d fr h' => ∃ g, d = .int g ∧ fr = [] ∧ h' = h ∧ 1 ≤ g ∧ g < 2 ^ 4000 ∧ ∀ v ∈ l, g ∣ v) dF := by
  generalize l.map D.int = VL at *
  simp only [↓Ji, ↓gY, startF, aiN, aiR, aiL, aiM, Nat.zero_add, Nat.reduceSub, ai5, ai0, ai6, ajb, aH, ↓J9, ↓cJ, ↓dC, ↓cR, aiI, aiG, bU, k1, ↓uh, ↓Iv, ↓aU, aiH, aD, xj, bJ, Cm, aK]
  refine lp.mono ?_
  rintro f fr h' ⟨rfl, rfl, g, x, rfl, g0, g1, g2⟩
  have mx : zH h' (.int g) (.int 1) = some (.int (if (1 : Int) > g then 1 else g)) := rfl
  simp only [bU, ↓jR, ↓bB, ↓aU, aiK, aiH, aiI, aiG, aD, aZ, bJ, ↓cR, mx, aK, j8, true_and]
  by_cases c : (1 : Int) > g
  · rw [if_pos c]
    refine ⟨1, rfl, Int.le_refl 1, ?_, fun v hv => ?_⟩
    · have h1 : (1 : Int) ≤ 2 ^ 3999 := by
       have : (0 : Int) < 2 ^ 3999 := Int.pow_pos (by decide)
       omega
      have h2 : (2 : Int) ^ 4000 = 2 ^ 3999 * 2 := Int.pow_succ _ _
      omega
    · exact Int.one_dvd v
  · rw [if_neg c]
    exact ⟨g, rfl, by omega, g1, g2⟩
 obtain ⟨d, fr, h', e, g, rfl, rfl, rfl, q⟩ := w.out
 exact ⟨g, e, q⟩
theorem Dg {l : List Int} (hl : ∀ v ∈ l, 0 ≤ v ∧ v < 2 ^ 4000) (hn : l.length ≤ 1000) : ∃ g : Int, lu [.fl (l.map .int)] h = .ok (.tup (l.map fun v => .int (v / g))) [] h ∧ 1 ≤ g ∧ ∀ v ∈ l, g ∣ v := by
 obtain ⟨g, e1, g1, g2, g3⟩ := Rp (h := h) hl
 refine ⟨g, ?_, g1, g3⟩
 have m3 : ∀ x, Gj x g = true := fun x => Rm (by omega) (by
  have : (g.natAbs : Int) < ((2 ^ 4000 : Nat) : Int) := by
   rw [Int.natAbs_of_nonneg (by omega)]
   exact_mod_cast g2
  exact_mod_cast this)
 have lc := uw (vs := [2]) (g := pJ) (t := pK) (e := pM) (F := D.int) (G := fun v => .int (v / g)) (fr := [some (.fl (l.map .int)), some (.int g), none]) (h := h) (xs := l) fun a _ => by
  obtain ⟨VL, hVL⟩ : ∃ x, x = l.map D.int := ⟨_, rfl⟩
  rw [← hVL]
  simp only [↓iV, ↓M9, ↓bD, aiI, aiG, aH, ↓Nb, ↓dB, d9, ↓Nf, ↓bB, ↓aU, aiK, aiH, aD, aZ, bJ, pH, m3, bM, cD, and_self]
 have ll : (l.map D.int).length ≤ 100000 := by
  rw [aiP]
  omega
 have w : Wp (lu [.fl (l.map .int)] h) (fun d fr h' => d = .tup (l.map fun v => .int (v / g)) ∧ fr = [] ∧ h' = h) dF := by
  have lm : (l.map fun v => D.int (v / g)).length = l.length := aiP ..
  generalize l.map D.int = VL at *
  generalize (l.map fun v => D.int (v / g)) = VG at *
  simp only [↓Q9, ↓gY, startF, aiN, aiR, aiL, aiM, Nat.zero_add, Nat.reduceSub, ai5, ai0, ai6, ajb, aH, ↓RK, ↓cJ, ↓dC, ↓jX, ↓cX, ↓aU, aiH, aiG, aD, xj, bJ, ↓bQ, fu, aiQ, e1, aiI, ↓cW, bU, ↓jR, ↓cC, ↓tR, ↓Iv, Cm, aK, dX, ll, bM, cD, lc, NP, QK, Option.map_some, j8, and_self]
 obtain ⟨_, _, _, e, rfl, rfl, rfl⟩ := w.out
 exact e
end
end L
namespace L
open PySem PySem.Spec L2 Pk
section
variable {vs : List Nat} {g : D → M Unit} {t : M Bool} {e : M D} {α : Type} {F G : α → D} {fr : Fr}
theorem N6 : ∀ (xs : List α) (h : Hh), (∀ a ∈ xs, ∀ h, Wp (dM vs g t e (F a) fr h) (fun o fr1 h1 => o = some (.ref h.length) ∧ fr1 = fr ∧ h1 = h ++ [G a]) dF) →
 j6 vs g t e (xs.map F) fr h = .ok ((aiJ xs.length).map fun i => .ref (h.length + i)) fr (h ++ xs.map G)
 | [], h, _ => by
   rw [aiR, MN, aiR, aiQ]
   rfl
 | a :: xs, h, hh => by
   obtain ⟨o1, f1, h1, e1, rfl, z, rfl⟩ := (hh a aiX h).out
   rw [z] at e1
   rw [aiN]
   unfold j6
   rw [M.bind_ok e1, M.bind_ok (N6 xs _ fun b hb => hh b (ai2 _ hb))]
   show R.ok (D.ref h.length :: _) _ _ = _
   rw [aiL, List.range_succ_eq_map, aiN, ai4, aiN, ai8, aiT]
   congr 2
   refine aje fun i _ => ?_
   show D.ref (h.length + 1 + i) = D.ref (h.length + (i + 1))
   congr 1
   omega
end
section
variable {h : Hh} {F : Mem} {m n : Nat}
theorem bV.apps (H : bV h F) (f : Nat → D) : ∀ k, bV (h ++ (aiJ k).map f) (((aiJ k).map fun i => (h.length + i, f i)) ++ F)
 | 0 => by
   rw [List.range_zero, aiR, aiR, aiQ]
   exact H
 | k + 1 => by
   have := (bV.apps H f k).app (f k)
   rw [List.range_succ, ajd, ajd, ← ai8]
   refine (this.perm (B := _) ?_)
   rw [aiT, aiP, aiS, ai8]
   exact List.perm_middle.symm
theorem t7 (n : Nat) (f : Nat → D) : aR (n + 1) f = aR n f ++ [f n] := by
 unfold aR
 rw [List.range_succ, ajd]
 rfl
theorem set_same {h : Hh} {i : Nat} {d : D} (e : h[i]? = some d) : h.set i d = h := by
 obtain ⟨hi, rfl⟩ := List.getElem?_eq_some_iff.mp e
 exact List.set_getElem_self hi
theorem Xv (H : bV h F) (tb : Tb) (G : Nat → Int) (hm : m ≤ 50) (hn : n ≤ 50) (t1 : tb.d = 1) (t2 : ∀ i, i < m → tb.bs i = n + i) (t3 : ∀ l, l < n → tb.out l = l) (t4 : tb.T m n = 0) (t5 : ∀ j, j < n → tb.T m j = -G j) :
 ∃ (h' : Hh) (T : Tab), gj [.ref h.length, .fl (aR m fun i => .fl (aR n fun j => .int (tb.T i j))), .fl (aR m fun i => .int (tb.T i n)), .fl (aR n fun j => .int (G j))] (h ++ [.no 0 []]) = .ok .non [] h' ∧ T.t = h.length ∧ T.tb = tb ∧ bV h' (T.cl m n ++ F) := by
 have b50 : 100 ≤ big := by decide
 obtain ⟨RW, hRW⟩ : ∃ x, x = aR m fun i => D.fl (aR n fun j => .int (tb.T i j)) := ⟨_, rfl⟩
 obtain ⟨LM, hLM⟩ : ∃ x, x = aR m fun i => D.int (tb.T i n) := ⟨_, rfl⟩
 obtain ⟨GN, hGN⟩ : ∃ x, x = aR n fun j => D.int (G j) := ⟨_, rfl⟩
 have lRW : RW.length = m := by rw [hRW, cO]
 have lGN : GN.length = n := by rw [hGN, cO]
 have H0 := H.app (.no 0 [])
 obtain ⟨N, hN⟩ : ∃ N, N = h.length := ⟨_, rfl⟩
 obtain ⟨A0, hA0⟩ : ∃ x, x = h ++ [D.no 0 []] := ⟨_, rfl⟩
 rw [← hRW, ← hLM, ← hGN, ← hN, ← hA0]
 rw [← hN, ← hA0] at H0
 have zr : iZ RW LM = (aiJ m).map fun i => D.tup [.fl (aR n fun j => .int (tb.T i j)), .int (tb.T i n)] := by
  rw [hRW, hLM]
  exact Np _ _ _
 have lz : (iZ RW LM).length ≤ 100000 := by
  rw [zr, aiP, aiS]
  omega
 have lc1 := N6 (vs := [4, 5]) (g := jm) (t := jn) (e := jo) (F := fun i => D.tup [.fl (aR n fun j => .int (tb.T i j)), .int (tb.T i n)]) (G := fun i => .nl (cY n (tb.T i)))
  (fr := [some (.ref N), some (.fl RW), some (.fl LM), some (.fl GN), none, none, none, none]) (aiJ m) A0 fun i _ h0 => by
   have ap : dZ h0 (.fl (aR n fun j => .int (tb.T i j))) (.fl [.int (tb.T i n)]) = some (.nl (cY n (tb.T i))) := by
    unfold cY
    rw [t7, yF, cO, ai7, if_pos (by omega)]
   generalize (aR n fun j => D.int (tb.T i j)) = R0 at *
   simp only [↓iV, ↓Ax, ↓du, aiL, aiM, Nat.zero_add, Nat.reduceAdd, ↓cU, ↓bD, aiI, aiG, aH, ↓di, ↓Ay, ↓dB, d9, ↓Az, ↓MJ, ↓bB, ↓aU, aiK, aiH, aD, xj, bJ, ↓jQ, ↓oM, ↓cX, aZ, ↓bQ, dX, Nat.reduceLeDiff, qm, ap, aK, uY, bM, cD, and_self]
 rw [← zr, aiS] at lc1
 have H1 := H0.apps (fun i => .nl (cY n (tb.T i))) m
 obtain ⟨A1, hA1⟩ : ∃ x, x = A0 ++ (aiJ m).map fun i => D.nl (cY n (tb.T i)) := ⟨_, rfl⟩
 rw [← hA1] at lc1 H1
 obtain ⟨RF, hRF⟩ : ∃ x, x = (aiJ m).map fun i => D.ref (A0.length + i) := ⟨_, rfl⟩
 rw [← hRF] at lc1
 have lRF : RF.length = m := by rw [hRF, aiP, aiS]
 have H2 := H1.app (.nl RF)
 obtain ⟨g, hg⟩ : ∃ g, g = A1.length := ⟨_, rfl⟩
 obtain ⟨A2, hA2⟩ : ∃ x, x = A1 ++ [D.nl RF] := ⟨_, rfl⟩
 rw [← hg, ← hA2] at H2
 obtain ⟨RR, hRR⟩ : ∃ RR, RR = (aiJ m).map fun i => (A0.length + i, D.nl (cY n (tb.T i))) := ⟨_, rfl⟩
 rw [← hRR] at H2
 have H2 : bV A2 ((N, .no 0 []) :: (g, .nl RF) :: (RR ++ F)) := H2.perm (by
  refine (List.perm_middle (a := (N, D.no 0 [])) (l₁ := (g, D.nl RF) :: RR) (l₂ := F)).trans ?_
  exact .refl _)
 have c2 : A2[N]? = some (.no 0 []) := H2.get (i := 0) rfl
 have H3 : bV (A2.set N (.no 0 [.ref g])) ((N, .no 0 [.ref g]) :: (g, .nl RF) :: (RR ++ F)) := H2.set 0 rfl _
 obtain ⟨A3, hA3⟩ : ∃ x, x = A2.set N (.no 0 [.ref g]) := ⟨_, rfl⟩
 rw [← hA3] at H3
 have fg3 : bL cQ A3 (.ref N) = some (.ref g) := zB (i := 0) (H3.get (i := 0) rfl) rfl
 have cg3 : A3[g]? = some (.nl RF) := H3.get (i := 1) rfl
 have s3 := set_same cg3
 have H4 := H3.app (.nl (cY n (tb.T m)))
 obtain ⟨r, hr⟩ : ∃ r, r = A3.length := ⟨_, rfl⟩
 obtain ⟨A4, hA4⟩ : ∃ x, x = A3 ++ [D.nl (cY n (tb.T m))] := ⟨_, rfl⟩
 rw [← hr, ← hA4] at H4
 have cg4 : A4[g]? = some (.nl RF) := H4.get (i := 2) rfl
 have H5 : bV (A4.set g (.nl (RF ++ [.ref r]))) ((r, .nl (cY n (tb.T m))) :: (N, .no 0 [.ref g]) :: (g, .nl (RF ++ [.ref r])) :: (RR ++ F)) := H4.set 2 rfl _
 obtain ⟨A5, hA5⟩ : ∃ x, x = A4.set g (.nl (RF ++ [.ref r])) := ⟨_, rfl⟩
 rw [← hA5] at H5
 have H6 := H5.app (.nl (aR n fun l => nD l))
 obtain ⟨o, ho⟩ : ∃ o, o = A5.length := ⟨_, rfl⟩
 obtain ⟨A6, hA6⟩ : ∃ x, x = A5 ++ [D.nl (aR n fun l => nD l)] := ⟨_, rfl⟩
 rw [← ho, ← hA6] at H6
 have c6 : A6[N]? = some (.no 0 [.ref g]) := H6.get (i := 2) rfl
 have H7 : bV (A6.set N (.no 0 [.ref g, .ref o])) ((o, .nl (aR n fun l => nD l)) :: (r, .nl (cY n (tb.T m))) :: (N, .no 0 [.ref g, .ref o]) :: (g, .nl (RF ++ [.ref r])) :: (RR ++ F)) := H6.set 2 rfl _
 obtain ⟨A7, hA7⟩ : ∃ x, x = A6.set N (.no 0 [.ref g, .ref o]) := ⟨_, rfl⟩
 rw [← hA7] at H7
 have H8 := H7.app (.nl (aR m fun i => .int ((n : Int) + (i : Int))))
 obtain ⟨b, hb⟩ : ∃ b, b = A7.length := ⟨_, rfl⟩
 obtain ⟨A8, hA8⟩ : ∃ x, x = A7 ++ [D.nl (aR m fun i => .int ((n : Int) + (i : Int)))] := ⟨_, rfl⟩
 rw [← hb, ← hA8] at H8
 have c8 : A8[N]? = some (.no 0 [.ref g, .ref o]) := H8.get (i := 3) rfl
 have H9 : bV (A8.set N (.no 0 [.ref g, .ref o, .ref b])) ((b, .nl (aR m fun i => .int ((n : Int) + (i : Int)))) :: (o, .nl (aR n fun l => nD l)) :: (r, .nl (cY n (tb.T m))) :: (N, .no 0 [.ref g, .ref o, .ref b]) :: (g, .nl (RF ++ [.ref r])) :: (RR ++ F)) := H8.set 3 rfl _
 obtain ⟨A9, hA9⟩ : ∃ x, x = A8.set N (.no 0 [.ref g, .ref o, .ref b]) := ⟨_, rfl⟩
 rw [← hA9] at H9
 have c9 : A9[N]? = some (.no 0 [.ref g, .ref o, .ref b]) := H9.get (i := 3) rfl
 have H10 : bV (A9.set N (.no 0 [.ref g, .ref o, .ref b, .int 1])) ((b, .nl (aR m fun i => .int ((n : Int) + (i : Int)))) :: (o, .nl (aR n fun l => nD l)) :: (r, .nl (cY n (tb.T m))) :: (N, .no 0 [.ref g, .ref o, .ref b, .int 1]) :: (g, .nl (RF ++ [.ref r])) :: (RR ++ F)) := H9.set 3 rfl _
 obtain ⟨A10, hA10⟩ : ∃ x, x = A9.set N (.no 0 [.ref g, .ref o, .ref b, .int 1]) := ⟨_, rfl⟩
 rw [← hA10] at H10
 have lc2 : ∀ hh : Hh, j6 [6] fO fP fQ GN [some (.ref N), some (.fl RW), some (.fl LM), some (.fl GN), none, none, none, none] hh = .ok (aR n fun j => .int (-G j)) [some (.ref N), some (.fl RW), some (.fl LM), some (.fl GN), none, none, none, none] hh := fun hh => by
  have := uw (vs := [6]) (g := fO) (t := fP) (e := fQ) (F := fun j => D.int (G j)) (G := fun j => .int (-G j)) (fr := [some (.ref N), some (.fl RW), some (.fl LM), some (.fl GN), none, none, none, none]) (h := hh) (xs := aiJ n) fun j _ => by
   have bn : dG (.int (G j)) = some (.int (-G j)) := rfl
   simp only [↓iV, ↓Ba, ↓bD, aiI, aiG, aH, ↓Bb, ↓dB, d9, ↓Bc, ↓cC, ↓aU, aiK, aiH, aD, aZ, bJ, bn, aK, bM, cD, and_self]
  rw [hGN] at this ⊢
  exact this
 have lc3 : ∀ hh : Hh, j6 [7] fU fV fW (iY 0 m) [some (.ref N), some (.fl RW), some (.fl LM), some (.fl GN), none, none, none, none] hh = .ok (aR m fun i => .int ((n : Int) + (i : Int))) [some (.ref N), some (.fl RW), some (.fl LM), some (.fl GN), none, none, none, none] hh := fun hh => by
  have := uw (vs := [7]) (g := fU) (t := fV) (e := fW) (F := fun (i : Nat) => D.int (0 + (i : Int))) (G := fun i => .int ((n : Int) + (i : Int))) (fr := [some (.ref N), some (.fl RW), some (.fl LM), some (.fl GN), none, none, none, none]) (h := hh) (xs := aiJ m) fun i _ => by
   simp only [↓iV, ↓Be, ↓bD, Int.zero_add, aiI, aiG, aH, ↓Bf, ↓dB, d9, ↓Bg, ↓jQ, ↓bB, ↓cC, ↓cI, aiK, aiH, aD, Cp, lGN, aK, ↓aU, aZ, bJ, v9, bM, cD, pG, and_self]
  exact this
 have ap2 : ∀ hh : Hh, dZ hh (.fl (aR n fun j => .int (-G j))) (.fl [.int 0]) = some (.nl (cY n (tb.T m))) := fun hh => by
  unfold cY
  rw [t7, yF, cO, ai7, if_pos (by omega), t4]
  congr 2
  congr 1
  exact j5 fun j hj => by rw [t5 j hj]
 have apF : xJ (.ref r) RF = some (RF ++ [.ref r]) := by
  unfold xJ
  rw [if_pos (by omega)]
 have rg : KZ (.int 0) (.int (n : Int)) = some (.nl (aR n fun l => nD l)) := by
  have r1 : Qo 0 (n : Int) = true := by
   unfold Qo
   simp only [Bool.and_eq_true, decide_eq_true_eq]
   omega
  have r2 : ZV 0 (n : Int) = aR n fun l => nD l := by
   unfold ZV aR nD
   rw [show ((n : Int) - 0).toNat = n by omega]
   exact aje fun i _ => by rw [Int.zero_add]
  unfold KZ
  dsimp only
  rw [if_pos r1, r2]
 have sm1 : xR (m : Int) = true := by
  unfold xR
  rw [decide_eq_true (by omega), decide_eq_true (by omega)]
  rfl
 have lrn : (iY 0 m).length ≤ 100000 := by
  unfold iY
  rw [aiP, aiS]
  omega
 have lGN2 : GN.length ≤ 100000 := by omega
 have i0 : cQ 0 = some 0 := rfl
 have i1 : dH 0 = some 1 := rfl
 have i2 : gh 0 = some 2 := rfl
 have i3 : jx 0 = some 3 := rfl
 have p0 : nj 0 (.ref g) [] = some [.ref g] := rfl
 have p1 : nj 1 (.ref o) [.ref g] = some [.ref g, .ref o] := rfl
 have p2 : nj 2 (.ref b) [.ref g, .ref o] = some [.ref g, .ref o, .ref b] := rfl
 have p3 : nj 3 (.int 1) [.ref g, .ref o, .ref b] = some [.ref g, .ref o, .ref b, .int 1] := rfl
 have w : Wp (gj [.ref N, .fl RW, .fl LM, .fl GN] A0) (fun d fr h' => d = .non ∧ fr = [] ∧ h' = A10) dF := by
  have hA1 := hA1.symm
  have hA2 := hA2.symm
  have hA3 := hA3.symm
  have hA4 := hA4.symm
  have hA5 := hA5.symm
  have hA6 := hA6.symm
  have hA7 := hA7.symm
  have hA8 := hA8.symm
  have hA9 := hA9.symm
  have hA10 := hA10.symm
  have hg := hg.symm
  have hr := hr.symm
  have ho := ho.symm
  have hb := hb.symm
  generalize hz : iZ RW LM = ZZ at *
  generalize hrm : (iY 0 m) = RM at *
  generalize (aR n fun l => nD l) = OL at *
  generalize (aR m fun i => D.int ((n : Int) + (i : Int))) = BL at *
  generalize (cY n (tb.T m)) = RL at *
  simp only [↓Eo, ↓gY, startF, aiN, aiR, aiL, aiM, Nat.zero_add, Nat.reduceAdd, Nat.reduceSub, ai5, ai0, ai6, ajb, aH, ↓FQ, ↓cJ, ↓NK, ↓MJ, ↓tR, ↓acI, ↓aU, aiK, aiH, aiI, aiG, aD, xj, bJ, aa7, hz, aK, dX, lz, bM, cD, lc1, ↓cW, uY, ↓Ua, hA2, c2, i0, hg, p0, bU, ↓Bl, ↓pF, ↓aaX, ↓cC, ↓cI, hA3, fg3, Iz, cg3, rR, ↓bB, ↓jQ, ↓Iv, Cm, lGN, s3, lc2, ↓oM, ↓cX, ↓cR, ↓bQ, Nat.reduceLeDiff, qm, ap2, hr, hA4, cg4, uv, QF, ↓Bj, ↓Y0, hA5, Cp, rg, hA6, c6, i1, ho, p1, ↓Bh, ↓pD, Cj, hA7, lRW, sm1, ↓reduceIte, Int.toNat_natCast, hrm, lrn, lc3, hA8, c8, i2, hb, p2, hA9, c9, i3, p3, W7, hA10, and_self, and_true, true_and]
  omega
 obtain ⟨_, _, _, e, rfl, rfl, rfl⟩ := w.out
 refine ⟨_, ⟨N, g, o, b, fun i => if i < m then A0.length + i else r, tb⟩, e, rfl, rfl, ?_⟩
 refine H10.perm ?_
 have e1 : (RF ++ [.ref r]) = aR (m + 1) fun i => .ref (if i < m then A0.length + i else r) := by
  rw [t7, if_neg (Nat.lt_irrefl m), hRF]
  refine congrArg (· ++ [D.ref r]) (aje fun i hi => ?_)
  rw [if_pos (List.mem_range.mp hi)]
 have e2 : (aR n fun l => nD l) = aR n fun l => nD (tb.out l) := j5 fun l hl => by rw [t3 l hl]
 have e3 : (aR m fun i => D.int ((n : Int) + (i : Int))) = aR m fun i => nD (tb.bs i) := j5 fun i hi => by
  rw [t2 i hi]
  unfold nD
  rw [Int.natCast_add]
 have e4 : RR ++ [(r, D.nl (cY n (tb.T m)))] = (aiJ (m + 1)).map fun i => ((if i < m then A0.length + i else r), D.nl (cY n (tb.T i))) := by
  rw [List.range_succ, ajd, hRR]
  rw [aiN, aiR, if_neg (Nat.lt_irrefl m)]
  refine congrArg (· ++ [(r, D.nl (cY n (tb.T m)))]) (aje fun i hi => ?_)
  rw [if_pos (List.mem_range.mp hi)]
 unfold Tab.cl Tab.fs
 dsimp only
 rw [← e4, ← e1, ← e2, ← e3, t1]
 generalize (b, D.nl (aR m fun i => D.int ((n : Int) + (i : Int)))) = B
 generalize (o, D.nl (aR n fun l => nD l)) = O
 generalize (r, D.nl (cY n (tb.T m))) = R
 generalize (N, D.no 0 [D.ref g, .ref o, .ref b, .int 1]) = N0
 generalize (g, D.nl (RF ++ [D.ref r])) = G0
 have q1 : (B :: O :: R :: N0 :: G0 :: (RR ++ F)).Perm (N0 :: G0 :: O :: B :: R :: (RR ++ F)) := by
  have z : ([B, O, R, N0, G0] : Mem).Perm [N0, G0, O, B, R] := by
   refine List.Perm.trans (l₂ := [N0, B, O, R, G0]) ?_ (.cons _ ?_)
   · exact List.perm_middle (l₁ := [B, O, R]) (l₂ := [G0])
   refine List.Perm.trans (l₂ := [G0, B, O, R]) ?_ (.cons _ ?_)
   · exact List.perm_middle (l₁ := [B, O, R]) (l₂ := [])
   exact .swap _ _ _
  exact z.append_right (RR ++ F)
 refine q1.trans ?_
 show (N0 :: G0 :: O :: B :: R :: (RR ++ F)).Perm (N0 :: G0 :: O :: B :: ((RR ++ [R]) ++ F))
 refine .cons _ (.cons _ (.cons _ (.cons _ ?_)))
 rw [ai8]
 exact (List.perm_middle (a := R) (l₁ := RR) (l₂ := F)).symm
end
end L
namespace L
open PySem PySem.Spec L2 Pk
structure Sy.Sm (s : Sy) : Prop where
 hp : s.p ≤ 8
 hq : s.q ≤ 20
 hs : ∀ i, i < s.p → s.st i = 0 ∨ s.st i = 1
 one : ∃ i, i < s.p ∧ s.st i = 1
 hc : ∀ l i, l < s.q → i < s.p → (s.col l i).natAbs ≤ 2 ^ 200
theorem acW : ∀ M, M ≤ 10 → Hv M ≤ 3628800 := by decide
section
variable {s : Sy} {t : Tb}
theorem Sy.Sm.T (hs : s.Sm) (i j : Nat) : (s.T i j).natAbs ≤ 2 ^ 200 := by
 have h1 : 1 ≤ 2 ^ 200 := Nat.one_le_two_pow
 unfold Sy.T
 split
 · rename_i hi
   split
   · rcases hs.hs i hi with e | e
     · rw [e]
       exact Nat.zero_le _
     · rw [e]
       exact h1
   · rename_i hj
     split
     · rename_i hj2
       rw [Int.natAbs_neg]
       have hn := s.hn
       exact hs.hc _ _ (by omega) hi
     · exact Nat.zero_le _
 · split
   · split
     · exact Nat.zero_le _
     · exact h1
   · split
     · exact h1
     · exact Nat.zero_le _
theorem Sy.Sm.V (hs : s.Sm) (u r : Nat) : (s.V u r).natAbs ≤ 2 ^ 200 := by
 have h1 : 1 ≤ 2 ^ 200 := Nat.one_le_two_pow
 unfold Sy.V
 split
 · exact hs.T _ _
 · split
   · split
     · exact h1
     · exact Nat.zero_le _
   · exact hs.T _ _
theorem N7 {M : Nat} (hM : M ≤ 10) {A : Mx} (h : ∀ c r, (A c r).natAbs ≤ 2 ^ 200) : (det M A).natAbs < 2 ^ 4000 := by
 have h1 := Um (W := 2 ^ 200) (m := M) (A := A) fun c r _ _ => h c r
 have h2 : (2 ^ 200) ^ M ≤ (2 ^ 200) ^ 10 := Nat.pow_le_pow_right (Nat.two_pow_pos _) hM
 have h3 : Hv M * (2 ^ 200) ^ M ≤ 3628800 * (2 ^ 200) ^ 10 := Nat.mul_le_mul (acW M hM) h2
 have e : (2 ^ 200) ^ 10 = 2 ^ (200 * 10) := (Nat.pow_mul 2 200 10).symm
 rw [e] at h3
 have h4 : 3628800 * 2 ^ (200 * 10) < 2 ^ 22 * 2 ^ (200 * 10) := Nat.mul_lt_mul_of_pos_right (by decide) (Nat.two_pow_pos _)
 rw [← Nat.pow_add] at h4
 have h5 : 2 ^ (22 + 200 * 10) ≤ 2 ^ 4000 := Nat.pow_le_pow_right (by decide) (by decide)
 exact Nat.lt_of_le_of_lt h1 (Nat.lt_of_le_of_lt h3 (Nat.lt_of_lt_of_le h4 h5))
theorem On.small (o : On s t) (hs : s.Sm) : (∀ i j, i ≤ s.m → j ≤ s.n → (t.T i j).natAbs < 2 ^ 4000) ∧ t.d.natAbs < 2 ^ 4000 := by
 have hm := s.hm
 have hp := hs.hp
 refine ⟨fun i j hi hj => ?_, ?_⟩
 · rw [o.ok.entry (i := i) (l := j) (by omega) hj]
   refine N7 (by omega) fun c r => ?_
   unfold upd
   split
   · exact hs.V _ _
   · exact hs.V _ _
 · rw [← o.ok.dt]
   exact N7 (by omega) fun c r => hs.V _ _
end
section
variable {h : Hh} {T : Tab} {F : Mem} {s : Sy}
theorem On.sh (o : On s T.tb) (hs : s.Sm) : T.Sh s.m s.n := by
 have hm := s.hm
 have hn := s.hn
 have hp := hs.hp
 have hq := hs.hq
 exact ⟨by omega, by omega, (o.small hs).1⟩
def Way (s : Sy) (t : Tb) (K : Nat) : Prop := ∃ tb ent lev, Run s.V s.N s.m s.n s.N (s.N + 1) tb ent lev K ∧ tb 0 = s.t ∧ tb K = t
theorem Way.lt {t : Tb} {K : Nat} (w : Way s t K) : K < 2 ^ s.N := by
 obtain ⟨tb, ent, lev, R, e0, _⟩ := w
 have hm := s.hm
 have hn := s.hn
 have hN := s.hN
 refine R.bound (X := fun u => if u < s.n then 0 else s.T (u - s.n) s.n) (D0 := 1) (by decide) ?_
 rw [e0]
 refine ⟨fun i hi => ?_, fun l hl => ?_⟩
 · show s.T i s.n * 1 = (if s.n + i < s.n then 0 else s.T (s.n + i - s.n) s.n) * 1
   rw [if_neg (by omega), show s.n + i - s.n = i by omega]
 · show (if (if l < s.n then l else s.N + 1) < s.n then (0 : Int) else _) = 0
   rw [if_pos hl, if_pos hl]
theorem Way.zero : Way s s.t 0 := ⟨fun _ => s.t, fun _ => 0, fun _ => 0, ⟨s.ok, s.lab, fun i hi => absurd hi (Nat.not_lt_zero i), fun i hi => absurd hi (Nat.not_lt_zero i), fun i hi => absurd hi (Nat.not_lt_zero i), fun i hi => absurd hi (Nat.not_lt_zero i), fun i hi => absurd hi (Nat.not_lt_zero i), fun i hi => absurd hi (Nat.not_lt_zero i), fun i hi => absurd hi (Nat.not_lt_zero i), fun i hi => absurd hi (Nat.not_lt_zero i)⟩, rfl, rfl⟩
theorem Way.next {a q K : Nat} (w : Way s T.tb K) (o : On s T.tb) (st : Step T s.m s.n a q) (h0 : T.tb.T s.m s.n = 0) (hz : (T.tb.piv a q).T s.m s.n = 0) : Way s (T.tb.piv a q) (K + 1) := by
 obtain ⟨tb, ent, lev, R, e0, eK⟩ := w
 have dg := o.gain st.ha st.hq h0 st.hc hz
 refine ⟨fun i => if i ≤ K then tb i else T.tb.piv a q, fun i => if i < K then ent i else q, fun i => if i < K then lev i else a, ?_, ?_, ?_⟩
 · have T0 : ∀ i, i ≤ K → (if i ≤ K then tb i else T.tb.piv a q) = tb i := fun i hi => if_pos hi
   have c : ∀ (P : Tb → Nat → Nat → Prop), (∀ i, i < K → P (tb i) (ent i) (lev i)) → P T.tb q a → ∀ i, i < K + 1 → P (if i ≤ K then tb i else T.tb.piv a q) (if i < K then ent i else q) (if i < K then lev i else a) := fun P h1 h2 i hi => by
    rw [if_pos (show i ≤ K by omega)]
    by_cases g : i < K
    · rw [if_pos g, if_pos g]
      exact h1 i g
    · rw [if_neg g, if_neg g, show i = K by omega, eK]
      exact h2
   refine ⟨?_, ?_, fun i hi => ?_, ?_, ?_, ?_, ?_, ?_, ?_, ?_⟩
   · show Tb.Ok _ _ _ (if 0 ≤ K then tb 0 else _)
     rw [if_pos (Nat.zero_le K)]
     exact R.ok
   · show Tb.Lab _ _ _ _ _ (if 0 ≤ K then tb 0 else _)
     rw [if_pos (Nat.zero_le K)]
     exact R.lab
   · show (if i + 1 ≤ K then tb (i + 1) else T.tb.piv a q) = (if i ≤ K then tb i else T.tb.piv a q).piv (if i < K then lev i else a) (if i < K then ent i else q)
     rw [if_pos (show i ≤ K by omega)]
     by_cases g : i < K
     · rw [if_pos (show i + 1 ≤ K by omega), if_pos g, if_pos g]
       exact R.st i g
     · rw [if_neg (by omega), if_neg g, if_neg g, show i = K by omega, eK]
   · exact c (fun _ e _ => e < s.n) R.hq st.hq
   · exact c (fun _ _ l => l < s.m) R.ha st.ha
   · exact c (fun t e _ => t.T s.m e < 0) R.hc st.hc
   · exact c (fun t e l => 0 < t.T l e) R.hp st.hp
   · exact c (fun t e _ => ∀ l, l < s.n → t.T s.m l < 0 → t.out e ≤ t.out l) R.er st.er
   · refine c (fun t e l => ∀ k, k < s.m → 0 < t.T k e → t.T k s.n = 0 → t.bs l ≤ t.bs k) R.lr fun k hk hp hn => (st.lr k hk hp).2 ?_
     rw [dg, hn, Int.zero_mul, Int.zero_mul]
   · exact c (fun t _ l => t.T l s.n = 0) R.dg dg
 · exact (if_pos (Nat.zero_le K)).trans e0
 · exact if_neg (by omega)
theorem Ly (hs : s.Sm) {x0 x1 x2 x3 x4 x5 x6 x7 x9 x10 : Option D} : ∀ (fuel K : Nat) (h : Hh) (T : Tab), bV h (T.cl s.m s.n ++ F) → On s T.tb → (T.tb.T s.m s.n = 0 → Way s T.tb K) → K ≤ 2 ^ s.N → 2 ^ s.N < K + fuel →
 Wp (iK (m7 (aq gU (aq aP (aq aP (aC (bL cQ) (aM 8)) (aC (fun _ => dG) (mC (.int 1)))) (aC (fun _ => dG) (mC (.int 1)))) (mC (.int 0))) (aC D.tru (kW 0 0 uz (bh []) (aa 8) (ak []) (ak [])))) oV fuel
  [x0, x1, x2, x3, x4, x5, x6, x7, some (.ref T.t), x9, x10] h)
  (fun f fr h' => f = .nx ∧ fr = [x0, x1, x2, x3, x4, x5, x6, x7, some (.ref T.t), x9, x10] ∧ ∃ T' : Tab, T'.t = T.t ∧ bV h' (T'.cl s.m s.n ++ F) ∧ On s T'.tb ∧ (T'.tb.T s.m s.n = 0 → ∀ l, l < s.n → 0 ≤ T'.tb.T s.m l)) dF
 | 0, K, h, T, H, o, w, hK, hf => by omega
 | f + 1, K, h, T, H, o, w, hK, hf => by
   have hm := s.hm
   have hn := s.hn
   have hN := s.hN
   obtain ⟨fg, fo, fb, fd⟩ := pU H
   have gm := O6 H
   have em := Lw H (i := s.m) (Nat.le_refl _)
   have b1 : dG (.int 1) = some (.int (-1)) := rfl
   rw [Hi]
   by_cases c : T.tb.T s.m s.n = 0
   · have d1 : decide (T.tb.T s.m s.n = 0) = true := decide_eq_true c
     have way := w c
     have lt := way.lt
     have f1 : fnOf uz h (.ref T.t) = some gM := Jb H
     rcases Xu H (o.sh hs) o.ok.dp (o.small hs).2 (fun q hq hc => o.limited hs.one hq hc) with ⟨e1, hc⟩ | ⟨a, q, h', e1, H', st⟩
     · obtain ⟨W, hW⟩ : ∃ W, W = iK (m7 (aq gU (aq aP (aq aP (aC (bL cQ) (aM 8)) (aC (fun _ => dG) (mC (.int 1)))) (aC (fun _ => dG) (mC (.int 1)))) (mC (.int 0))) (aC D.tru (kW 0 0 uz (bh []) (aa 8) (ak []) (ak [])))) oV f := ⟨_, rfl⟩
       rw [← hW]
       simp only [↓gK, ↓bB, ↓cC, ↓cI, aiK, aiH, aD, fg, aK, ↓cR, b1, Int.reduceNeg, gm, em, jT, d1, d9, ↓yE, ↓aU, aiI, aiG, dU, bJ, f1, ↓bQ, aiM, fu, aiQ, e1, ↓cW, qG, Bool.false_eq_true, ↓reduceIte, true_and]
       exact ⟨T, rfl, H, o, fun _ => hc⟩
     · have o' : On s (T.w (T.tb.piv a q)).tb := o.piv st.ha st.hq st.hp fun k hk hp => (st.lr k hk hp).1
       have ih := Ly hs (x0 := x0) (x1 := x1) (x2 := x2) (x3 := x3) (x4 := x4) (x5 := x5) (x6 := x6) (x7 := x7) (x9 := x9) (x10 := x10) f (K + 1) h' (T.w (T.tb.piv a q)) H' o' (fun hz => way.next o st c hz) (by omega) (by omega)
       obtain ⟨W, hW⟩ : ∃ W, W = iK (m7 (aq gU (aq aP (aq aP (aC (bL cQ) (aM 8)) (aC (fun _ => dG) (mC (.int 1)))) (aC (fun _ => dG) (mC (.int 1)))) (mC (.int 0))) (aC D.tru (kW 0 0 uz (bh []) (aa 8) (ak []) (ak [])))) oV f := ⟨_, rfl⟩
       rw [← hW] at ih ⊢
       simp only [↓gK, ↓bB, ↓cC, ↓cI, aiK, aiH, aD, fg, aK, ↓cR, b1, Int.reduceNeg, gm, em, jT, d1, d9, ↓yE, ↓aU, aiI, aiG, dU, bJ, f1, ↓bQ, aiM, fu, aiQ, e1, ↓cW, qG, ↓reduceIte, ↓Vo, ↓dB, true_and, QZ]
       exact ih
   · have d1 : decide (T.tb.T s.m s.n = 0) = false := decide_eq_false c
     obtain ⟨W, hW⟩ : ∃ W, W = iK (m7 (aq gU (aq aP (aq aP (aC (bL cQ) (aM 8)) (aC (fun _ => dG) (mC (.int 1)))) (aC (fun _ => dG) (mC (.int 1)))) (mC (.int 0))) (aC D.tru (kW 0 0 uz (bh []) (aa 8) (ak []) (ak [])))) oV f := ⟨_, rfl⟩
     rw [← hW]
     simp only [↓gK, ↓bB, ↓cC, ↓cI, aiK, aiH, aD, fg, aK, ↓cR, b1, Int.reduceNeg, gm, em, jT, d1, bJ, Bool.false_eq_true, ↓reduceIte, true_and]
     exact ⟨T, rfl, H, o, fun z => absurd z c⟩
end
end L
namespace L
open PySem PySem.Spec L2 Pk
def dw (c : List Int) : List Key := c.map Sum.inl
def bf (c : List Int) : D := .tp (c.map .int)
theorem Kg {a b : List Int} (h : dw a = dw b) : a = b := (List.map_inj_right fun _ _ e => Sum.inl.inj e).mp h
theorem Lz : ∀ c : List Int, zU (c.map .int) = some (dw c)
 | [] => rfl
 | i :: c => by
   rw [aiN, zU, Lz c]
   rfl
theorem Kh {c : List Int} (h : c.length ≤ big) : Ah (bf c) = some (dw c) := by
 unfold bf Ah Io
 dsimp only
 rw [aiP, if_pos h, Lz]
theorem Xw (c : List Int) : (dw c).map keyB = c.map .int := by
 unfold dw
 rw [ai4]
 rfl
section
variable {U : List (List Int)} {ds : List D} {c : List Int} {d : D}
theorem Zy : DP (U.map dw) (dw c) = decide (c ∈ U) := by
 unfold DP
 induction U with
 | nil => rfl
 | cons a U ih =>
   rw [aiN, List.any_cons, ih]
   by_cases e : a = c
   · subst e; simp
   · have e1 : ¬ dw a = dw c := fun z => e (Kg z)
     have e2 : ¬ c = a := fun z => e z.symm
     simp [e1, e2]
theorem Fj : ∀ {U : List (List Int)} {ds : List D}, c ∉ U → valD (U.map dw) ds (dw c) = none
 | [], _, _ => by unfold valD; rfl
 | a :: U, [], _ => rfl
 | a :: U, d :: ds, h => by
   have h1 : c ≠ a := fun z => h (by rw [z]; exact aiX)
   have h2 : c ∉ U := fun z => h (ai2 _ z)
   rw [aiN, valD, if_neg fun z => h1 (Kg z).symm]
   exact Fj h2
theorem Fo : ∀ {U : List (List Int)} {ds : List D}, c ∈ U → U.length = ds.length → ∃ z, valD (U.map dw) ds (dw c) = some z
 | [], _, h, _ => absurd h ai9
 | a :: U, [], _, e => by cases e
 | a :: U, d :: ds, h, e => by
   rw [aiN, valD]
   by_cases g : dw a = dw c
   · rw [if_pos g]
     exact ⟨d, rfl⟩
   · rw [if_neg g]
     rcases List.mem_cons.mp h with h | h
     · exact absurd (by rw [h]) g
     · exact Fo h (Nat.succ.inj e)
theorem Jm : ∀ {U : List (List Int)} {ds : List D} {l : Nat}, U.Nodup → U[l]? = some c → ds[l]? = some d → valD (U.map dw) ds (dw c) = some d
 | [], _, _, _, h, _ => by cases h
 | a :: U, [], _, _, _, e => by cases e
 | a :: U, d' :: ds, 0, _, h, e => by
   rw [aiH] at h e
   cases h
   cases e
   rw [aiN, valD, if_pos rfl]
 | a :: U, d' :: ds, l + 1, nd, h, e => by
   rw [aiK] at h e
   obtain ⟨n1, n2⟩ := List.nodup_cons.mp nd
   rw [aiN, valD, if_neg fun z => n1 ?_]
   · exact Jm n2 h e
   · rw [Kg z]
     exact ai1 h
end
section
variable {h : Hh} {A : Nat} {U : List (List Int)} {ds : List D} {c : List Int} {d : D}
theorem Dh (e : h[A]? = some (.dc (U.map dw) ds)) : jD h (.ref A) = some (A, U.map dw, ds) := by
 unfold jD
 dsimp only
 rw [e]
theorem Zz (e : h[A]? = some (.dc (U.map dw) ds)) (hc : c ∈ U) (hl : U.length = ds.length) (hb : U.length ≤ big) (hk : c.length ≤ big) : ∃ z, uX h (.ref A) (bf c) d = some (z, h) := by
 obtain ⟨z, ez⟩ := Fo hc hl
 refine ⟨z, ?_⟩
 unfold uX
 rw [Dh e]
 show (Ah (bf c)).bind _ = _
 rw [Kh hk]
 show (if (U.map dw).length ≤ big then some (match valD (U.map dw) ds (dw c) with
  | some z => (z, h)
  | none => (d, h.set A (.dc (uV (U.map dw) (dw c)) (qj (U.map dw) ds (dw c) d)))) else none) = _
 rw [aiP, if_pos hb, ez]
theorem ZC (e : h[A]? = some (.dc (U.map dw) ds)) (hc : c ∉ U) (hb : U.length ≤ big) (hk : c.length ≤ big) : uX h (.ref A) (bf c) d = some (d, h.set A (.dc ((U ++ [c]).map dw) (ds ++ [d]))) := by
 have hk0 : DP (U.map dw) (dw c) = false := Zy.trans (decide_eq_false hc)
 unfold uX
 rw [Dh e]
 show (Ah (bf c)).bind _ = _
 rw [Kh hk]
 show (if (U.map dw).length ≤ big then some (match valD (U.map dw) ds (dw c) with
  | some z => (z, h)
  | none => (d, h.set A (.dc (uV (U.map dw) (dw c)) (qj (U.map dw) ds (dw c) d)))) else none) = _
 rw [aiP, if_pos hb, Fj hc]
 dsimp only
 unfold uV qj
 rw [if_neg (by rw [hk0]; exact Bool.false_ne_true), if_neg (by rw [hk0]; exact Bool.false_ne_true), ajd]
 rfl
theorem abl (e : h[A]? = some (.dc (U.map dw) ds)) (nd : U.Nodup) {l : Nat} (hu : U[l]? = some c) (hd : ds[l]? = some d) (hk : c.length ≤ big) : xf h (.ref A) (bf c) = some d := by
 unfold xf
 rw [Dh e]
 show (Ah (bf c)).bind _ = _
 rw [Kh hk]
 exact Jm nd hu hd
theorem adF (e : h[A]? = some (.dc (U.map dw) ds)) : yS h (.ref A) = some (.nl (U.map bf)) := by
 unfold yS
 rw [Dh e]
 show some (D.nl ((U.map dw).map fun k => .tp (k.map keyB))) = _
 rw [ai4]
 congr 2
 refine aje fun c _ => ?_
 show D.tp ((dw c).map keyB) = bf c
 rw [Xw]
 rfl
end
structure Un (cols : List (List Int)) (k : Nat) (U : List (List Int)) (ix : Nat → Nat) : Prop where
 nd : U.Nodup
 lt : ∀ l, l < U.length → ix l < k
 inj : ∀ a b, a < U.length → b < U.length → ix a = ix b → a = b
 at_ : ∀ l, l < U.length → cols.getD (ix l) [] = U.getD l []
 al : ∀ i, i < k → cols.getD i [] ∈ U
section
variable {cols U : List (List Int)} {k : Nat} {ix : Nat → Nat}
theorem Un.zero : Un cols 0 [] fun _ => 0 := ⟨List.nodup_nil, fun l hl => absurd hl (Nat.not_lt_zero l), fun a b ha => absurd ha (Nat.not_lt_zero a), fun l hl => absurd hl (Nat.not_lt_zero l), fun i hi => absurd hi (Nat.not_lt_zero i)⟩
theorem Un.old (u : Un cols k U ix) (h : cols.getD k [] ∈ U) : Un cols (k + 1) U ix := ⟨u.nd, fun l hl => Nat.lt_succ_of_lt (u.lt l hl), u.inj, u.at_, fun i hi => by
 by_cases e : i = k
 · rw [e]
   exact h
 · exact u.al i (by omega)⟩
theorem Un.new (u : Un cols k U ix) (h : cols.getD k [] ∉ U) : Un cols (k + 1) (U ++ [cols.getD k []]) fun l => if l = U.length then k else ix l := by
 have len : (U ++ [cols.getD k []]).length = U.length + 1 := by rw [aiT, ai7]
 refine ⟨?_, fun l hl => ?_, fun a b ha hb e => ?_, fun l hl => ?_, fun i hi => ?_⟩
 · refine List.nodup_append.mpr ⟨u.nd, by simp, fun a ha b hb e => h ?_⟩
   rw [← List.mem_singleton.mp hb, ← e]
   exact ha
 · rw [len] at hl
   show (if l = U.length then k else ix l) < k + 1
   split
   · omega
   · have := u.lt l (by omega)
     omega
 · rw [len] at ha hb
   have e : (if a = U.length then k else ix a) = (if b = U.length then k else ix b) := e
   by_cases c1 : a = U.length
   · by_cases c2 : b = U.length
     · omega
     · rw [if_pos c1, if_neg c2] at e
       have := u.lt b (by omega)
       omega
   · by_cases c2 : b = U.length
     · rw [if_neg c1, if_pos c2] at e
       have := u.lt a (by omega)
       omega
     · rw [if_neg c1, if_neg c2] at e
       exact u.inj a b (by omega) (by omega) e
 · rw [len] at hl
   show cols.getD (if l = U.length then k else ix l) [] = _
   rw [aiY (l := U ++ _)]
   by_cases c : l = U.length
   · rw [if_pos c, c, ajc (Nat.le_refl _), Nat.sub_self]
     rfl
   · rw [if_neg c, ajf (by omega), u.at_ l (by omega), aiY]
 · by_cases c : i = k
   · rw [c]
     exact List.mem_append_right _ aiX
   · exact List.mem_append_left _ (u.al i (by omega))
end
theorem Di {α : Type} (f : α → D) (z : α) (l : List α) : l.map f = aR l.length fun k => f (l.getD k z) := by
 refine List.ext_getElem (by rw [aiP, cO]) fun i h1 h2 => ?_
 have hi : i < l.length := by rw [aiP] at h1; exact h1
 rw [List.getElem_map]
 have := qJ (n := l.length) (fun k => f (l.getD k z)) hi
 rw [aiO h2] at this
 rw [Option.some.inj this, aiY, aiO hi]
 rfl
theorem Kl (n : Nat) (f : Nat → D) : aR (n + 1) f = f 0 :: aR n fun i => f (i + 1) := by
 unfold aR
 rw [List.range_succ_eq_map, aiN, ai4]
 rfl
section
variable {h : Hh} {F : Mem} {A : Nat} {cols : List (List Int)} {ST : D}
theorem Sd (H : bV h ((A, .dc [] []) :: F)) (hn : cols.length ≤ 50) (hl : ∀ c ∈ cols, c.length ≤ 50) {x3 x4 x5 x6 x7 x8 x9 x10 : Option D} :
 Wp (mO (dN 2 (aX (aY 3) (aX (aY 4) dY))) u6 (fM 0 (cols.map bf)) [some (.fl (cols.map bf)), some ST, some (.ref A), x3, x4, x5, x6, x7, x8, x9, x10] h)
  (fun f fr h' => f = .nx ∧ ∃ U ix x3 x4, fr = [some (.fl (cols.map bf)), some ST, some (.ref A), x3, x4, x5, x6, x7, x8, x9, x10] ∧ Un cols cols.length U ix ∧ bV h' ((A, .dc (U.map dw) (aR U.length fun l => nD (ix l))) :: F)) dF := by
 have b50 : 51 ≤ big := by decide
 have ee : fM 0 (cols.map bf) = (aiJ cols.length).map fun (k : Nat) => D.tup [.int (k : Int), bf (cols.getD k [])] := by
  rw [Di bf [] cols]
  exact wC _ _
 rw [ee]
 obtain ⟨CL, hCL⟩ : ∃ x, x = cols.map bf := ⟨_, rfl⟩
 rw [← hCL]
 refine yG (fun k fr h' => ∃ U ix x3 x4, fr = [some (.fl CL), some ST, some (.ref A), x3, x4, x5, x6, x7, x8, x9, x10] ∧ Un cols k U ix ∧ bV h' ((A, .dc (U.map dw) (aR U.length fun l => nD (ix l))) :: F)) ?_ ?_ ?_
 · exact ⟨[], fun _ => 0, x3, x4, rfl, Un.zero, H⟩
 · rintro k fr h' hk ⟨U, ix, x3, x4, rfl, u, H'⟩
   have e : h'[A]? = some (.dc (U.map dw) (aR U.length fun l => nD (ix l))) := H'.get (i := 0) rfl
   have cs : (jD h' (.ref A)).isSome = true := by rw [Dh e]; rfl
   have ul : U.length ≤ 50 := by
    have h1 := zA (l := (aiJ U.length).map ix) (l' := aiJ k) (List.pairwise_map.mpr (List.Pairwise.imp_of_mem (fun ha hb hne e => hne (u.inj _ _ (List.mem_range.mp ha) (List.mem_range.mp hb) e)) List.nodup_range)) fun a ha => by
     obtain ⟨l, hl, rfl⟩ := List.mem_map.mp ha
     exact List.mem_range.mpr (u.lt l (List.mem_range.mp hl))
    rw [aiP, aiS, aiS] at h1
    omega
   have kl : (cols.getD k []).length ≤ 50 := by
    rw [aiY, aiO hk]
    exact hl _ (aja hk)
   have ow : (bf (cols.getD k [])).own = false := Hj
   by_cases c : cols.getD k [] ∈ U
   · obtain ⟨z, ez⟩ := Zz (d := .int (k : Int)) e c (by rw [cO]) (by omega) (by omega)
     generalize bf (cols.getD k []) = CK at *
     simp only [↓du, aiL, aiM, Nat.zero_add, Nat.reduceAdd, ↓cU, ↓bD, aiI, aiG, aH, ↓di, ↓Lh, ↓pF, ↓Q4, ↓aU, aiK, aiH, aD, dU, bJ, cs, ow, aZ, ez, Q3, fB, true_and]
     exact ⟨U, ix, _, _, rfl, u.old c, H'⟩
   · have ez := ZC (d := .int (k : Int)) e c (by omega) (by omega)
     have H2 := H'.set 0 rfl (.dc ((U ++ [cols.getD k []]).map dw) ((aR U.length fun l => nD (ix l)) ++ [.int (k : Int)]))
     have u2 := u.new c
     generalize hCK : bf (cols.getD k []) = CK at *
     generalize h'.set A (.dc ((U ++ [cols.getD k []]).map dw) ((aR U.length fun l => nD (ix l)) ++ [.int (k : Int)])) = h2 at *
     simp only [↓du, aiL, aiM, Nat.zero_add, Nat.reduceAdd, ↓cU, ↓bD, aiI, aiG, aH, ↓di, ↓Lh, ↓pF, ↓Q4, ↓aU, aiK, aiH, aD, dU, bJ, cs, ow, aZ, ez, Q3, fB, true_and]
     refine ⟨U ++ [cols.getD k []], fun l => if l = U.length then k else ix l, _, _, rfl, u2, ?_⟩
     have em : (aR (U ++ [cols.getD k []]).length fun l => nD (if l = U.length then k else ix l)) = (aR U.length fun l => nD (ix l)) ++ [.int (k : Int)] := by
      rw [aiT, ai7, t7, if_pos rfl]
      refine congrArg (· ++ [D.int (k : Int)]) (j5 fun l hl => ?_)
      rw [if_neg (by omega)]
     rw [em]
     exact H2
 · rintro fr h' ⟨U, ix, x3, x4, e, u, H'⟩
   exact ⟨rfl, U, ix, x3, x4, e, u, H'⟩
end
end L
namespace L
open PySem PySem.Spec L2 Pk
def Ez (U : List (List Int)) (strict : List Bool) : Sy := ⟨strict.length, U.length, fun i => if strict.getD i false then 1 else 0, fun l i => (U.getD l []).getD i 0⟩
def vG (s : Sy) (i : Nat) : D := .fl (aR s.n fun j => .int (s.T i j))
section
variable {h : Hh} {U : List (List Int)} {strict : List Bool} {CL : List D} {A : Nat}
theorem acX {k : Nat} (hk0 : k < strict.length) : ([D.int (if strict.getD k false then 1 else 0)] ++ U.map fun c => D.int (-(c.getD k 0))) = aR (Ez U strict).n fun j => .int ((Ez U strict).T k j) := by
 have hk : k < (Ez U strict).p := hk0
 show _ = aR (U.length + 1) _
 rw [Kl, Di (fun c => D.int (-(c.getD k 0))) [] U]
 have e0 : (Ez U strict).T k 0 = if strict.getD k false then 1 else 0 := by
  unfold Sy.T
  rw [if_pos hk, if_pos rfl]
  rfl
 rw [e0]
 show _ :: _ = _ :: _
 congr 1
 refine j5 fun j hj => ?_
 unfold Sy.T
 rw [if_pos hk, if_neg (by omega), if_pos (by show j + 1 < U.length + 1; omega)]
 rfl
theorem Xx (hp : 1 ≤ strict.length) (hp2 : strict.length ≤ 50) (hq : U.length ≤ 50) (hl : ∀ c ∈ U, c.length = strict.length) {x3 x4 x7 x8 x9 x10 : Option D} :
 Wp (mO (dN 2 (aX (aY 3) (aX (aY 7) dY))) vh (fM 0 (strict.map .bl)) [some (.fl CL), some (.tup (strict.map .bl)), some (.ref A), x3, x4, some (.nl (U.map bf)), some (.nl []), x7, x8, x9, x10] h)
  (fun f fr h' => f = .nx ∧ h' = h ∧ ∃ x3 x4 x7, fr = [some (.fl CL), some (.tup (strict.map .bl)), some (.ref A), x3, x4, some (.fl (U.map bf)), some (.nl (aR strict.length (vG (Ez U strict)))), x7, x8, x9, x10]) dF := by
 have b50 : 52 ≤ big := by decide
 have ee : fM 0 (strict.map D.bl) = (aiJ strict.length).map fun (k : Nat) => D.tup [.int (k : Int), .bl (strict.getD k false)] := by
  rw [Di D.bl false strict]
  exact wC _ _
 rw [ee]
 obtain ⟨SL, hSL⟩ : ∃ x, x = strict.map D.bl := ⟨_, rfl⟩
 rw [← hSL]
 obtain ⟨s, hs⟩ : ∃ s, s = Ez U strict := ⟨_, rfl⟩
 rw [← hs]
 refine yG (fun k fr h' => h' = h ∧ ∃ x3 x4 x5 x7, (if k = 0 then x5 = D.nl (U.map bf) else x5 = .fl (U.map bf)) ∧ fr = [some (.fl CL), some (.tup SL), some (.ref A), x3, x4, some x5, some (.nl (aR k (vG s))), x7, x8, x9, x10]) ?_ ?_ ?_
 · exact ⟨rfl, x3, x4, _, x7, rfl, rfl⟩
 · rintro k fr h' hk ⟨rfl, x3, x4, x5, x7, h5, rfl⟩
   have lc := uw (vs := [4]) (g := u9) (t := vf) (e := vg) (F := bf) (G := fun c => .int (-(c.getD k 0))) (fr := [some (.fl CL), some (.tup SL), some (.ref A), some (.int (k : Int)), none, some (.fl (U.map bf)), some (.nl (aR k (vG s))), some (.bl (strict.getD k false)), x8, x9, x10]) (h := h') (xs := U) fun c hc => by
    have bi : aP h' (bf c) (.int (k : Int)) = some (.int (c.getD k 0)) := by
     unfold bf
     rw [Uk, lN, ai3, aiY, aiO (by rw [hl c hc]; exact hk)]
     rfl
    have bn : dG (.int (c.getD k 0)) = some (.int (-(c.getD k 0))) := rfl
    have ow : (bf c).own = false := Hj
    generalize bf c = CK at *
    generalize hUL : U.map bf = UL at *
    generalize aR k (vG s) = RL at *
    simp only [↓iV, ↓Vl, ↓bD, aiI, aiG, aH, ↓Vm, ↓dB, d9, ↓Vn, ↓cC, ↓jE, aiK, aiH, aD, ↓aU, aZ, bJ, bi, aK, bn, bM, cD, and_self]
   have rq := acX (U := U) hk
   rw [← hs] at rq
   have ap : dZ h' (.fl [.int (if strict.getD k false then 1 else 0)]) (.fl (U.map fun c => D.int (-(c.getD k 0)))) = some (.nl (aR s.n fun j => .int (s.T k j))) := by
    rw [yF, ai7, aiP, if_pos (by omega), rq]
   have ll : (U.map bf).length ≤ 100000 := by rw [aiP]; omega
   have rl : (aR k (vG s)).length < 100000 := by rw [cO]; omega
   have apE : aR (k + 1) (vG s) = aR k (vG s) ++ [.fl (aR s.n fun j => .int (s.T k j))] := t7 k (vG s)
   generalize U.map bf = UL at *
   generalize (U.map fun c => D.int (-(c.getD k 0))) = NL at *
   generalize (aR s.n fun j => D.int (s.T k j)) = ROW at *
   generalize aR k (vG s) = RL at *
   by_cases c : k = 0
   · rw [if_pos c] at h5
     subst h5
     simp only [↓du, aiL, aiM, Nat.zero_add, Nat.reduceAdd, ↓cU, ↓bD, aiI, aiG, aH, ↓di, ↓Lj, ↓pF, ↓v7, ↓qF, aiK, aiH, aD, rR, aK, ↓jQ, ↓bB, ↓oM, ↓cX, ↓cC, ↓aU, W8, bJ, QM, ↓bQ, dX, Nat.reduceLeDiff, ↓tR, ↓Iv, uY, d9, qm, Cm, ll, bM, cD, lc, ↓cW, ap, uv, QF, fB, reduceCtorEq, ↓reduceIte, true_and]
     rw [apE]
     exact ⟨rl, _, _, _, _, rfl, rfl⟩
   · rw [if_neg c] at h5
     subst h5
     simp only [↓du, aiL, aiM, Nat.zero_add, Nat.reduceAdd, ↓cU, ↓bD, aiI, aiG, aH, ↓di, ↓Lj, ↓pF, ↓v7, ↓qF, aiK, aiH, aD, rR, aK, ↓jQ, ↓bB, ↓oM, ↓cX, ↓cC, ↓aU, W8, bJ, QM, ↓bQ, dX, Nat.reduceLeDiff, ↓tR, ↓Iv, xj, Cm, ll, bM, cD, lc, ↓cW, qm, ap, uv, QF, fB, reduceCtorEq, ↓reduceIte, true_and]
     rw [apE]
     exact ⟨rl, _, _, _, _, rfl, rfl⟩
 · rintro fr h' ⟨rfl, x3, x4, x5, x7, h5, rfl⟩
   rw [if_neg (by omega)] at h5
   subst h5
   exact ⟨rfl, rfl, x3, x4, x7, rfl⟩
end
end L
namespace L
open PySem PySem.Spec L2 Pk
theorem Km {n u : Nat} {f : Nat → Nat} {v : Nat → Int} (inj : ∀ a b, a < n → b < n → f a = f b → a = b) : (az n fun l => if f l = u then v l else 0) = 0 ∨ ∃ l, l < n ∧ (az n fun l => if f l = u then v l else 0) = v l := by
 by_cases h : ∃ l, l < n ∧ f l = u
 · obtain ⟨l, hl, e⟩ := h
   exact .inr ⟨l, hl, by rw [gG hl fun k hk hne => if_neg fun z => hne (inj k l hk hl (z.trans e.symm)), if_pos e]⟩
 · exact .inl (fZ fun k hk => if_neg fun z => h ⟨k, hk, z⟩)
theorem Xy {v : Int} (h0 : 0 ≤ v) (h : v.natAbs < 2 ^ 4000) : v < 2 ^ 4000 := by
 have : (v.natAbs : Int) < ((2 ^ 4000 : Nat) : Int) := by exact_mod_cast h
 rw [Int.natAbs_of_nonneg h0] at this
 exact_mod_cast this
def Ans (cols : List (List Int)) (strict : List Bool) (d : D) : Prop :=
 (∃ y, d = .tup [.str "weights", .tup (aR strict.length fun i => .int (y i))] ∧ Uo strict.length cols.length (fun k i => (cols.getD k []).getD i 0) (fun i => if strict.getD i false then 1 else 0) y ∧ ∀ i, i < strict.length → y i < 2 ^ 4000) ∨
 ∃ x, d = .tup [.str "amounts", .tup (aR cols.length fun k => .int (x k))] ∧ Ri strict.length cols.length (fun k i => (cols.getD k []).getD i 0) (fun i => if strict.getD i false then 1 else 0) x ∧ ∀ k, k < cols.length → x k < 2 ^ 4000
section
variable {h : Hh} {T : Tab} {F : Mem} {U cols : List (List Int)} {strict : List Bool} {A : Nat} {ix : Nat → Nat} {s : Sy}
theorem Xz (hsy : s = Ez U strict) (hs : s.Sm) (hc : cols.length ≤ 50) (u : Un cols cols.length U ix) (hl : ∀ c ∈ U, c.length = strict.length) (H : bV h (T.cl s.m s.n ++ ((A, .dc (U.map dw) (aR U.length fun l => nD (ix l))) :: F))) (o : On s T.tb)
 (hw : T.tb.T s.m s.n = 0 → ∀ l, l < s.n → 0 ≤ T.tb.T s.m l) {x3 x4 x6 x7 x9 x10 : Option D} :
 Wp (vz [some (.fl (cols.map bf)), some (.tup (strict.map .bl)), some (.ref A), x3, x4, some (.fl (U.map bf)), x6, x7, some (.ref T.t), x9, x10] h) (fun f fr h' => h' = h ∧ ∃ d, f = .rt d ∧ Ans cols strict d) dF := by
 have b50 : 100 ≤ big := by decide
 have hm := s.hm
 have hn := s.hn
 have hp0 := hs.hp
 have hq0 := hs.hq
 have sp : s.p = strict.length := by rw [hsy]; rfl
 have sq : s.q = U.length := by rw [hsy]; rfl
 have sst : s.st = fun i => if strict.getD i false then 1 else 0 := by rw [hsy]; rfl
 have scol : s.col = fun l i => (U.getD l []).getD i 0 := by rw [hsy]; rfl
 obtain ⟨fg, fo, fb, fd⟩ := pU H
 have gm := O6 H
 have em := Lw H (i := s.m) (Nat.le_refl _)
 have b1 : dG (.int 1) = some (.int (-1)) := rfl
 have sml := (o.small hs).1
 obtain ⟨CL, hCL⟩ : ∃ x, x = cols.map bf := ⟨_, rfl⟩
 obtain ⟨SL, hSL⟩ : ∃ x, x = strict.map D.bl := ⟨_, rfl⟩
 obtain ⟨UL, hUL⟩ : ∃ x, x = U.map bf := ⟨_, rfl⟩
 have lCL : CL.length = cols.length := by rw [hCL, aiP]
 have lSL : SL.length = strict.length := by rw [hSL, aiP]
 have lUL : UL.length = U.length := by rw [hUL, aiP]
 rw [← hCL, ← hSL, ← hUL]
 by_cases c : T.tb.T s.m s.n = 0
 · have d1 : decide (T.tb.T s.m s.n = 0) = true := decide_eq_true c
   have W := o.weights hs.hs c (hw c)
   have f1 : fnOf Eb h (.ref T.t) = some iU := Jb H
   have lc := uw (vs := [3]) (g := vm) (t := vp) (e := vq) (F := fun (i : Nat) => D.int (0 + (i : Int))) (G := fun i => .int (T.tb.price s.m s.n (s.n + i)))
    (fr := [some (.fl CL), some (.tup SL), some (.ref A), none, x4, some (.fl UL), x6, x7, some (.ref T.t), some (.int (1 + (U.length : Int))), x10]) (h := h) (xs := aiJ s.p) fun i _ => by
     have e1 := Vz H o.lab.oi (s.n + i)
     have e2 : ((s.n + i : Nat) : Int) = 1 + (U.length : Int) + (0 + (i : Int)) := by omega
     rw [e2] at e1
     simp only [↓iV, ↓Vp, ↓bD, aiI, aiG, aH, ↓Vq, ↓dB, d9, ↓Vr, ↓jQ, ↓yE, ↓aU, aiK, aiH, aD, dU, bJ, f1, aK, ↓cX, ↓bB, aiL, aZ, v9, ↓bQ, aiM, Nat.zero_add, pG, fu, aiQ, e1, ↓cW, bM, cD, and_self]
   have ern : iY 0 strict.length = (aiJ s.p).map fun (i : Nat) => D.int (0 + (i : Int)) := by rw [sp]; rfl
   rw [← ern] at lc
   have lrn : (iY 0 strict.length).length ≤ 100000 := by
    unfold iY
    rw [aiP, aiS]
    omega
   have sm1 : xR (strict.length : Int) = true := by
    unfold xR
    rw [decide_eq_true (by omega), decide_eq_true (by omega)]
    rfl
   have bd : ∀ i, 0 ≤ T.tb.price s.m s.n (s.n + i) ∧ T.tb.price s.m s.n (s.n + i) < 2 ^ 4000 := fun i => by
    refine ⟨W.nn i, Xy (W.nn i) ?_⟩
    rcases Km (u := s.n + i) (v := fun l => T.tb.T s.m l) o.lab.oi with e | ⟨l, hl, e⟩
    · show (az s.n _).natAbs < _
      rw [e]
      exact Nat.two_pow_pos _
    · show (az s.n _).natAbs < _
      rw [e]
      exact sml _ _ (Nat.le_refl _) (by omega)
   obtain ⟨g, e3, g1, g2⟩ := Dg (h := h) (l := (aiJ s.p).map fun i => T.tb.price s.m s.n (s.n + i)) (fun v hv => by
    obtain ⟨i, hi, rfl⟩ := List.mem_map.mp hv
    exact bd i) (by rw [aiP, aiS]; omega)
   rw [ai4, ai4] at e3
   have e4 : ((aiJ s.p).map fun i => D.int (T.tb.price s.m s.n (s.n + i))) = (aiJ s.p).map (D.int ∘ fun i => T.tb.price s.m s.n (s.n + i)) := rfl
   have fin : Ans cols strict (.tup [.str "weights", .tup ((aiJ s.p).map ((fun v => D.int (v / g)) ∘ fun i => T.tb.price s.m s.n (s.n + i)))]) := by
    refine .inl ⟨fun i => T.tb.price s.m s.n (s.n + i) / g, by rw [sp]; rfl, ?_, fun i _ => Int.lt_of_le_of_lt (Int.ediv_le_self _ (bd i).1) (bd i).2⟩
    have W2 : Uo strict.length cols.length (fun k i => (cols.getD k []).getD i 0) (fun i => if strict.getD i false then 1 else 0) (fun i => T.tb.price s.m s.n (s.n + i)) := by
     refine ⟨fun i _ => W.nn i, ?_, fun k hk => ?_⟩
     · obtain ⟨i, h1, h2, h3⟩ := W.one
       rw [sst] at h2
       exact ⟨i, by omega, h2, h3⟩
     · have hm := u.al k hk
       obtain ⟨l, hl, e⟩ := List.getElem_of_mem hm
       have := W.le l (by rw [sq]; exact hl)
       rw [scol, sp] at this
       have e5 : U.getD l [] = cols.getD k [] := by rw [aiY, aiO hl, e]; rfl
       show az strict.length (fun i => (cols.getD k []).getD i 0 * _) ≤ 0
       rw [← e5]
       exact this
    exact W2.div g1 fun i hi => g2 _ (List.mem_map.mpr ⟨i, List.mem_range.mpr (by omega), rfl⟩)
   rw [e4] at lc
   generalize hz : iY 0 strict.length = RG at *
   generalize (aiJ s.p).map (D.int ∘ fun i => T.tb.price s.m s.n (s.n + i)) = PL at *
   generalize (aiJ s.p).map ((fun v => D.int (v / g)) ∘ fun i => T.tb.price s.m s.n (s.n + i)) = PG at *
   simp only [↓Lk, ↓cJ, ↓fD, ↓bB, ↓cC, ↓cI, aiK, aiH, aD, fg, aK, ↓cR, b1, Int.reduceNeg, gm, em, jT, d1, d9, ↓dC, aiI, aiG, Cp, lUL, v9, aH, bU, ↓jR, ↓QH, ↓cX, ↓jQ, ↓jX, ↓tR, ↓pD, Cj, aiL, yU, lSL, sm1, ↓reduceIte, Int.toNat_natCast, hz, dX, lrn, bM, cD, lc, ↓cW, ↓bQ, aiM, Nat.zero_add, qm, fu, aiQ, e3, Nat.reduceAdd, Nat.reduceLeDiff, Lf, QG, true_and]
   exact ⟨_, rfl, fin⟩
 · have d1 : decide (T.tb.T s.m s.n = 0) = false := decide_eq_false c
   have Am := o.amounts hs.hs c
   have f1 : fnOf zV h (.ref T.t) = some fY := Jb H
   obtain ⟨x, hx⟩ : ∃ x : Nat → Int, x = fun l => T.tb.amt s.m s.n (l + 1) := ⟨_, rfl⟩
   rw [← hx] at Am
   have cd : h[A]? = some (.dc (U.map dw) (aR U.length fun l => nD (ix l))) := H.right.get (i := 0) rfl
   have er : v5 h (.fl [.int 0]) (.int (cols.length : Int)) = some (.nl (aR cols.length fun k => .int (mZ ix x 0 k))) := by
    rw [Ui, if_pos ⟨by omega, by omega, by decide⟩]
    congr 2
    rw [Int.toNat_natCast]
    refine List.ext_getElem (by rw [cO]; simp) fun i h1 h2 => ?_
    have := qJ (n := cols.length) (fun k => D.int (mZ ix x 0 k)) (i := i) (by rw [cO] at h2; exact h2)
    rw [aiO h2] at this
    rw [Option.some.inj this]
    have hm := aja h1
    obtain ⟨l, hl, hi⟩ := List.mem_flatten.mp hm
    rw [List.eq_of_mem_replicate hl] at hi
    exact List.mem_singleton.mp hi
   have ee : fM 0 UL = (aiJ U.length).map fun (k : Nat) => D.tup [.int (k : Int), bf (U.getD k [])] := by
    rw [hUL, Di bf [] U]
    exact wC _ _
   have lp : ∀ x3 x4 : Option D, Wp (mO (dN 2 (aX (aY 3) (aX (aY 4) dY))) tG (fM 0 UL) [some (.fl CL), some (.tup SL), some (.ref A), x3, x4, some (.fl UL), x6, x7, some (.ref T.t), x9, some (.nl (aR cols.length fun k => .int (mZ ix x 0 k)))] h)
    (fun f fr h' => f = .nx ∧ h' = h ∧ ∃ x3 x4, fr = [some (.fl CL), some (.tup SL), some (.ref A), x3, x4, some (.fl UL), x6, x7, some (.ref T.t), x9, some (.nl (aR cols.length fun k => .int (mZ ix x U.length k)))]) dF := fun x3 x4 => by
    rw [ee]
    refine yG (fun l fr h' => h' = h ∧ ∃ x3 x4, fr = [some (.fl CL), some (.tup SL), some (.ref A), x3, x4, some (.fl UL), x6, x7, some (.ref T.t), x9, some (.nl (aR cols.length fun k => .int (mZ ix x l k)))]) ⟨rfl, _, _, rfl⟩ ?_ ?_
    · rintro l fr h' hl2 ⟨rfl, x3, x4, rfl⟩
      have e1 := R9 H o.lab.bi (l + 1)
      have e2 : ((l + 1 : Nat) : Int) = 1 + (l : Int) := by omega
      rw [e2] at e1
      have ex : T.tb.amt s.m s.n (l + 1) = x l := by rw [hx]
      rw [ex] at e1
      have gu : U[l]? = some (U.getD l []) := by rw [aiY, aiO hl2]; rfl
      have cl := hl (U.getD l []) (ai1 gu)
      have dg := abl (d := nD (ix l)) cd u.nd gu (qJ _ hl2) (by omega)
      have sF := Df (n := cols.length) (q := ix l) (fun k => .int (mZ ix x l k)) (.int (x l)) (u.lt l hl2)
      have em2 : (aR cols.length fun i => if i = ix l then D.int (x l) else .int (mZ ix x l i)) = aR cols.length fun k => .int (mZ ix x (l + 1) k) := j5 fun k _ => by
       rw [Zu u.inj hl2 k]
       split <;> rfl
      rw [em2] at sF
      have dg : xf h' (.ref A) (bf (U.getD l [])) = some (.int (ix l : Int)) := dg
      have ow : (bf (U.getD l [])).own = false := Hj
      generalize bf (U.getD l []) = CK at *
      generalize (aR cols.length fun k => D.int (mZ ix x l k)) = M0 at *
      generalize (aR cols.length fun k => D.int (mZ ix x (l + 1) k)) = M1 at *
      simp only [↓du, aiL, aiM, Nat.zero_add, Nat.reduceAdd, ↓cU, ↓bD, aiI, aiG, aH, ↓di, ↓RN, ↓Ck, ↓jQ, ↓yE, ↓aU, aiK, aiH, aD, dU, bJ, f1, aK, ↓cX, ↓bB, ↓cR, aZ, v9, ↓bQ, pG, fu, aiQ, e1, ↓cW, ↓Y7, ow, dg, ↓qF, sF, fB, true_and]
      exact ⟨_, _, rfl⟩
    · rintro fr h' ⟨rfl, x3, x4, rfl⟩
      exact ⟨rfl, rfl, x3, x4, rfl⟩
   have bd : ∀ k, 0 ≤ mZ ix x U.length k ∧ mZ ix x U.length k < 2 ^ 4000 := fun k => by
    have nn : 0 ≤ mZ ix x U.length k := wB fun l _ => by
     split
     · exact Am.nn l
     · exact Int.le_refl _
    refine ⟨nn, Xy nn ?_⟩
    rcases Km (u := k) (v := x) u.inj with e | ⟨l, hl, e⟩
    · show (az U.length _).natAbs < _
      rw [e]
      exact Nat.two_pow_pos _
    · show (az U.length _).natAbs < _
      rw [e, hx]
      rcases Km (u := l + 1) (v := fun i => T.tb.T i s.n) o.lab.bi with e | ⟨i, hi, e⟩
      · show (az s.m _).natAbs < _
        rw [e]
        exact Nat.two_pow_pos _
      · show (az s.m _).natAbs < _
        rw [e]
        exact sml _ _ (by omega) (Nat.le_refl _)
   obtain ⟨g, e3, g1, g2⟩ := Dg (h := h) (l := (aiJ cols.length).map fun k => mZ ix x U.length k) (fun v hv => by
    obtain ⟨k, hk, rfl⟩ := List.mem_map.mp hv
    exact bd k) (by rw [aiP, aiS]; omega)
   rw [ai4, ai4] at e3
   have e4 : (aR cols.length fun k => D.int (mZ ix x U.length k)) = (aiJ cols.length).map (D.int ∘ fun k => mZ ix x U.length k) := rfl
   have fin : Ans cols strict (.tup [.str "amounts", .tup ((aiJ cols.length).map ((fun v => D.int (v / g)) ∘ fun k => mZ ix x U.length k))]) := by
    refine .inr ⟨fun k => mZ ix x U.length k / g, rfl, ?_, fun k _ => Int.lt_of_le_of_lt (Int.ediv_le_self _ (bd k).1) (bd k).2⟩
    have A2 : Ri strict.length cols.length (fun k i => (cols.getD k []).getD i 0) (fun i => if strict.getD i false then 1 else 0) (mZ ix x U.length) := by
     refine acS (col := s.col) u.inj u.lt (fun a i ha hi => ?_) Am.nn (fun i hi => ?_) (fun i hi e => ?_) ?_
     · rw [scol]
       show (cols.getD (ix a) []).getD i 0 = _
       rw [u.at_ a ha]
     · rw [← sq]
       exact Am.le i (by omega)
     · rw [← sq]
       refine Am.lt i (by omega) ?_
       rw [sst]
       exact e
     · have := Am.few
       rw [sq, sp] at this
       exact this
    exact A2.div g1 fun k hk => g2 _ (List.mem_map.mpr ⟨k, List.mem_range.mpr hk, rfl⟩)
   rw [e4] at lp
   generalize (aR cols.length fun k => D.int (mZ ix x 0 k)) = M0 at *
   generalize (aiJ cols.length).map (D.int ∘ fun k => mZ ix x U.length k) = PL at *
   generalize (aiJ cols.length).map ((fun v => D.int (v / g)) ∘ fun k => mZ ix x U.length k) = PG at *
   obtain ⟨B, hB⟩ : ∃ B, B = tG := ⟨_, rfl⟩
   have k10 : Ai = (aA (jN (qZ (aa 5)) (dN 2 (aX (aY 3) (aX (aY 4) dY))) B) (cH (Aa [(mC (.str "amounts")), (bG (bR 1 0 lu (bh []) (ak [(aa 10)]) (ak [])))]))) := by rw [hB]; rfl
   rw [← hB] at lp
   generalize hEU : fM 0 UL = EU at *
   simp only [↓Lk, ↓cJ, ↓fD, ↓bB, ↓cC, ↓cI, aiK, aiH, aD, fg, aK, ↓cR, b1, Int.reduceNeg, gm, em, jT, d1, bJ, ↓dB, bU, ↓Vs, ↓dC, ↓jQ, ↓oM, ↓cX, ↓bQ, aiL, aiM, Nat.zero_add, dX, Nat.reduceLeDiff, aiI, aiG, Cp, lCL, qm, er, aH, k10, ↓uh, ↓Iw, ↓aU, xj, Xc, hEU, true_and]
   refine (lp _ _).mono ?_
   rintro f fr h' ⟨rfl, rfl, x3, x4, rfl⟩
   simp only [bU, ↓jR, ↓QH, ↓cX, ↓cR, ↓jQ, ↓jX, ↓aU, aiK, aiH, aiI, aiG, aiL, aD, uY, d9, qm, aH, ↓bQ, aiM, Nat.zero_add, fu, aiQ, e3, ↓cW, Nat.reduceAdd, dX, Nat.reduceLeDiff, Lf, true_and]
   exact ⟨_, rfl, fin⟩
end
end L
namespace L
open PySem PySem.Spec L2 Pk
theorem Rr {h : Hh} {n : Nat} (d : D) (hn : n < 1000) : v5 h (.fl [d]) (.int (n : Int)) = some (.nl (aR n fun _ => d)) := by
 rw [Ui, if_pos ⟨by omega, by omega, by show 1 ≤ 100; decide⟩]
 congr 2
 rw [Int.toNat_natCast]
 refine List.ext_getElem (by rw [cO]; simp) fun i h1 h2 => ?_
 have := qJ (n := n) (fun _ => d) (i := i) (by rw [cO] at h2; exact h2)
 rw [aiO h2] at this
 rw [Option.some.inj this]
 have hm := aja h1
 obtain ⟨l, hl, hi⟩ := List.mem_flatten.mp hm
 rw [List.eq_of_mem_replicate hl] at hi
 exact List.mem_singleton.mp hi
section
variable {h : Hh} {F : Mem} {U cols : List (List Int)} {strict : List Bool} {ix : Nat → Nat}
theorem Un.mem (u : Un cols cols.length U ix) : ∀ c ∈ U, c ∈ cols := fun c hc => by
 obtain ⟨l, hl, rfl⟩ := List.getElem_of_mem hc
 have e := u.at_ l hl
 have hi := u.lt l hl
 rw [aiY, aiY, aiO hl, aiO hi] at e
 have e : cols[ix l] = U[l] := e
 rw [← e]
 exact aja hi
theorem Un.len (u : Un cols cols.length U ix) : U.length ≤ cols.length := by
 have h1 := zA (l := (aiJ U.length).map ix) (l' := aiJ cols.length) (List.pairwise_map.mpr (List.Pairwise.imp_of_mem (fun ha hb hne e => hne (u.inj _ _ (List.mem_range.mp ha) (List.mem_range.mp hb) e)) List.nodup_range)) fun a ha => by
  obtain ⟨l, hl, rfl⟩ := List.mem_map.mp ha
  exact List.mem_range.mpr (u.lt l (List.mem_range.mp hl))
 rw [aiP, aiS, aiS] at h1
 exact h1
theorem adG (u : Un cols cols.length U ix) (hp : 1 ≤ strict.length) (hp2 : strict.length ≤ 8) (hc : cols.length ≤ 20) (hb : ∀ c ∈ cols, ∀ v ∈ c, v.natAbs ≤ 2 ^ 200) (one : ∃ i, i < strict.length ∧ strict.getD i false = true) : (Ez U strict).Sm := by
 refine ⟨hp2, Nat.le_trans u.len hc, fun i hi => ?_, ?_, fun l i hl hi => ?_⟩
 · show (if strict.getD i false then (1 : Int) else 0) = 0 ∨ (if strict.getD i false then (1 : Int) else 0) = 1
   split
   · exact .inr rfl
   · exact .inl rfl
 · obtain ⟨i, hi, e⟩ := one
   exact ⟨i, hi, by show (if strict.getD i false then (1 : Int) else 0) = 1; rw [e]; rfl⟩
 · show ((U.getD l []).getD i 0).natAbs ≤ _
   have hl : l < U.length := hl
   have e : U.getD l [] = U[l] := by rw [aiY, aiO hl]; rfl
   rw [e]
   have hm := u.mem _ (aja hl)
   rw [aiY]
   by_cases g : i < U[l].length
   · rw [aiO g]
     exact hb _ hm _ (aja g)
   · rw [List.getElem?_eq_none (by omega)]
     exact Nat.zero_le _
theorem VD (H : bV h F) (hp : 1 ≤ strict.length) (hp2 : strict.length ≤ 8) (hc : cols.length ≤ 20) (hl : ∀ c ∈ cols, c.length = strict.length) (hb : ∀ c ∈ cols, ∀ v ∈ c, v.natAbs ≤ 2 ^ 200) (one : ∃ i, i < strict.length ∧ strict.getD i false = true) :
 ∃ h' d, uA [.fl (cols.map bf), .tup (strict.map .bl)] h = .ok d [] h' ∧ bV h' F ∧ Ans cols strict d := by
 have b50 : 100 ≤ big := by decide
 have H0 := H.app (.dc [] [])
 obtain ⟨A, hA⟩ : ∃ A, A = h.length := ⟨_, rfl⟩
 obtain ⟨h0, hh0⟩ : ∃ x, x = h ++ [D.dc [] []] := ⟨_, rfl⟩
 rw [← hA, ← hh0] at H0
 have w1 := Sd (ST := .tup (strict.map .bl)) (cols := cols) (A := A) H0 (by omega) (fun c hc => by have := hl c hc; omega) (x3 := none) (x4 := none) (x5 := none) (x6 := none) (x7 := none) (x8 := none) (x9 := none) (x10 := none)
 have main : Wp (uA [.fl (cols.map bf), .tup (strict.map .bl)] h) (fun d fr h' => fr = [] ∧ bV h' F ∧ Ans cols strict d) dF := by
  have hh0' := hh0.symm
  have hA' := hA.symm
  obtain ⟨B1, hB1⟩ : ∃ B, B = u6 := ⟨_, rfl⟩
  have k1 : Ef = (aA (jN (qZ (aa 0)) (dN 2 (aX (aY 3) (aX (aY 4) dY))) B1) yq) := by rw [hB1]; rfl
  rw [← hB1] at w1
  have step1 : ∀ (CL SL : List D) (EC : List D), CL = cols.map bf → SL = strict.map D.bl → fM 0 CL = EC →
   Wp (mO (dN 2 (aX (aY 3) (aX (aY 4) dY))) B1 EC [some (.fl CL), some (.tup SL), some (.ref A), none, none, none, none, none, none, none, none] h0)
    (fun f fr h' => f = .nx ∧ ∃ U ix x3 x4, fr = [some (.fl CL), some (.tup SL), some (.ref A), x3, x4, none, none, none, none, none, none] ∧ Un cols cols.length U ix ∧ bV h' ((A, .dc (U.map dw) (aR U.length fun l => nD (ix l))) :: F)) dF →
   Wp (uA [.fl CL, .tup SL] h) (fun d fr h' => fr = [] ∧ bV h' F ∧ Ans cols strict d) dF := fun CL SL EC hCL hSL hEC w1 => by
   simp only [↓Zm, ↓gY, startF, aiN, aiR, aiL, aiM, Nat.zero_add, Nat.reduceAdd, Nat.reduceSub, ai5, ai0, ai6, ajb, aH, ↓abe, ↓cJ, ↓dC, ↓aba, hA', aiI, aiG, bU, k1, hh0', ↓uh, ↓Iw, ↓aU, aiH, aD, xj, bJ, Xc, aK, hEC]
   refine w1.mono ?_
   rintro f fr h1 ⟨rfl, U, ix, x3, x4, rfl, u, H1⟩
   have hs := adG u hp hp2 hc hb one
   have lU := u.len
   have hlU : ∀ c ∈ U, c.length = strict.length := fun c hc => hl c (u.mem c hc)
   have cd : h1[A]? = some (.dc (U.map dw) (aR U.length fun l => nD (ix l))) := H1.get (i := 0) rfl
   have dk := adF cd
   obtain ⟨s, hsy⟩ : ∃ s, s = Ez U strict := ⟨_, rfl⟩
   rw [← hsy] at hs
   have hm := s.hm
   have hn := s.hn
   have hN := s.hN
   have sp : s.p = strict.length := by rw [hsy]; rfl
   have sq : s.q = U.length := by rw [hsy]; rfl
   have w2 := fun x3 x4 x7 x8 x9 x10 => Xx (h := h1) (CL := CL) (A := A) hp (by omega) (by omega) hlU (x3 := x3) (x4 := x4) (x7 := x7) (x8 := x8) (x9 := x9) (x10 := x10)
   rw [← hSL, ← hsy] at w2
   have lSL : SL.length = strict.length := by rw [hSL, aiP]
   have lUL : (U.map bf).length = U.length := aiP ..
   obtain ⟨G, hG⟩ : ∃ G : Nat → Int, G = fun j => if j = 0 then 1 else 0 := ⟨_, rfl⟩
   obtain ⟨h2, T, ei, eT, eTb, H2⟩ := Xv (m := s.m) (n := s.n) H1 s.t G (by omega) (by omega) rfl (fun i _ => rfl) (fun l hl => if_pos hl) s.rhs_m (fun j hj => by
    show s.T s.m j = _
    unfold Sy.T
    rw [if_neg (by omega), if_neg (by omega), hG]
    dsimp only
    split <;> rfl)
   have r1 := Rr (h := h1) (n := U.length) (.int 1) (by omega)
   have r2 := Rr (h := h1) (n := strict.length) (.int 0) (by omega)
   have r3 := Rr (h := h1) (n := U.length) (.int 0) (by omega)
   have a1 : dZ h1 (.fl [.int 0]) (.fl (aR U.length fun _ => .int 1)) = some (.nl (aR s.n fun j => .int (s.T s.p j))) := by
    rw [yF, ai7, cO, if_pos (by omega), hn, sq, Kl]
    congr 2
    show _ :: _ = _ :: _
    have e0 : s.T s.p 0 = 0 := by
     unfold Sy.T
     rw [if_neg (by omega), if_pos rfl, if_pos rfl]
    rw [e0]
    refine congrArg (D.int 0 :: ·) (j5 fun j _ => ?_)
    unfold Sy.T
    rw [if_neg (by omega), if_pos rfl, if_neg (by omega)]
   have a2 : dZ h1 (.fl (aR strict.length fun _ => .int 0)) (.fl [.int 1]) = some (.nl (aR s.m fun i => .int (s.t.T i s.n))) := by
    rw [yF, ai7, cO, if_pos (by omega), hm, t7]
    have e1 : s.t.T s.p s.n = 1 := s.rhs_p
    rw [e1, sp]
    congr 2
    refine congrArg (· ++ [D.int 1]) (j5 fun i hi => ?_)
    have e2 : s.t.T i s.n = 0 := s.rhs_lt (by omega)
    rw [e2]
   have a3 : dZ h1 (.fl [.int 1]) (.fl (aR U.length fun _ => .int 0)) = some (.nl (aR s.n fun j => .int (G j))) := by
    rw [yF, ai7, cO, if_pos (by omega), hn, sq, Kl, hG]
    congr 2
   have er : (aR strict.length (vG s)) ++ [.fl (aR s.n fun j => .int (s.T s.p j))] = aR s.m fun i => .fl (aR s.n fun j => .int (s.t.T i j)) := by
    rw [hm]
    show _ = aR (s.p + 1) (vG s)
    rw [t7 s.p (vG s), sp]
    rfl
   have lR : (aR strict.length (vG s)).length < 100000 := by rw [cO]; omega
   have eT' := eT.symm
   rw [eT'] at ei
   have ends := fun h' (T' : Tab) x3 x4 x6 x7 x9 x10 H' o' hw => Xz (h := h') (T := T') (F := F) (A := A) (ix := ix) hsy hs (by omega) u hlU H' o' hw (x3 := x3) (x4 := x4) (x6 := x6) (x7 := x7) (x9 := x9) (x10 := x10)
   rw [← hCL, ← hSL] at ends
   obtain ⟨WH, hWH⟩ : ∃ x, x = iK (m7 (aq gU (aq aP (aq aP (aC (bL cQ) (aM 8)) (aC (fun _ => dG) (mC (.int 1)))) (aC (fun _ => dG) (mC (.int 1)))) (mC (.int 0))) (aC D.tru (kW 0 0 uz (bh []) (aa 8) (ak []) (ak [])))) oV 2147483648 := ⟨_, rfl⟩
   have k7 : Ec = aA WH vz := by rw [hWH]; rfl
   have wh := fun x0 x1 x2 x3 x4 x5 x6 x7 x9 x10 => Ly (s := s) (F := ((A, .dc (U.map dw) (aR U.length fun l => nD (ix l))) :: F)) hs (x0 := x0) (x1 := x1) (x2 := x2) (x3 := x3) (x4 := x4) (x5 := x5) (x6 := x6) (x7 := x7) (x9 := x9) (x10 := x10) 2147483648 0 h2 T H2 (by rw [eTb]; exact s.on) (fun _ => by rw [eTb]; exact Way.zero) (Nat.zero_le _) (by
    have : s.N ≤ 30 := by have := hs.hp; have := hs.hq; omega
    have := Nat.pow_le_pow_right (n := 2) (by decide) this
    omega)
   rw [← hWH] at wh
   obtain ⟨B5, hB5⟩ : ∃ B, B = vh := ⟨_, rfl⟩
   have k4 : Ed = (aA (jN (qZ (aa 1)) (dN 2 (aX (aY 3) (aX (aY 7) dY))) B5) ym) := by rw [hB5]; rfl
   rw [← hB5] at w2
   generalize hES : fM 0 SL = ES at *
   generalize U.map bf = UL at *
   simp only [bU, ↓Vw, ↓cJ, ↓dC, ↓Y8, ↓aU, aiK, aiH, aiI, aiG, aD, dU, bJ, dk, aK, aH, ↓Vv, ↓oM, ↓bQ, aiM, dX, Nat.reduceLeDiff, k4, ↓uh, ↓Iw, v8, Uh, hES, true_and]
   refine (w2 _ _ _ _ _ _).mono ?_
   rintro f fr h' ⟨rfl, rfl, x3, x4, x7, rfl⟩
   generalize (aR strict.length (vG s)) = RL at *
   generalize (aR U.length fun _ => D.int 1) = L1 at *
   generalize (aR strict.length fun _ => D.int 0) = L2 at *
   generalize (aR U.length fun _ => D.int 0) = L3 at *
   generalize (aR s.n fun j => D.int (s.T s.p j)) = ROW at *
   generalize (aR s.m fun i => D.int (s.t.T i s.n)) = LIM at *
   generalize (aR s.n fun j => D.int (G j)) = GN at *
   generalize (aR s.m fun i => D.fl (aR s.n fun j => .int (s.t.T i j))) = RWS at *
   simp only [bU, ↓Vu, ↓cJ, ↓pF, ↓v7, ↓qF, aiK, aiH, aiI, aiG, aD, rR, aK, aH, ↓jQ, ↓bB, ↓oM, ↓cX, ↓cR, ↓bQ, aiL, aiM, Nat.zero_add, dX, Nat.reduceLeDiff, ↓cC, ↓cI, Cp, lUL, qm, r1, a1, uv, lR, ↓reduceIte, er, ↓Vt, ↓dC, ↓Y5, ↓aU, uY, d9, yU, lSL, r2, a2, r3, a3, Nat.reduceAdd, eT', fu, aiQ, ei, ↓cW, k7, true_and]
   refine (wh _ _ _ _ _ _ _ _ _ _).mono ?_
   rintro f fr h3 ⟨rfl, rfl, T', eT2, H3, o', hw⟩
   rw [← eT2]
   simp only [bU]
   refine (ends h3 T' _ _ _ _ _ _ H3 o' hw).mono ?_
   rintro f fr h4 ⟨rfl, d, rfl, an⟩
   simp only [j8, true_and]
   exact ⟨(H3.right).right (A := [_]), an⟩
  exact step1 _ _ _ rfl rfl rfl w1
 obtain ⟨d, fr, h', e, rfl, H', an⟩ := main.out
 exact ⟨h', d, e, H', an⟩
end
end L
namespace L
open PySem PySem.Spec L2 Pk
theorem z8 (h : Hh) (l : List D) : qN oN h (.tup l) (.ty "tuple") = some (.bl true) := by kernel_rfl
theorem Ss (h : Hh) (v : Int) : qN oN h (.int v) (.ty "int") = some (.bl true) := by kernel_rfl
theorem Ru (h : Hh) (v : Int) : qN oN h (.int v) (.ty "bool") = some (.bl false) := by kernel_rfl
theorem LC (h : Hh) (v : Int) : jY [.int v] h = .ok (.bl true) [] h := by
 apply Wp.eq
 have i1 := Ss h v
 have i2 := Ru h v
 simp only [↓Hu, ↓gY, startF, aiN, aiR, aiL, aiM, Nat.zero_add, Nat.reduceSub, ai0, aiQ, aH, ↓Jh, ↓jR, ↓aaW, ↓bB, ↓aU, aiH, aiG, aD, aZ, bJ, ↓cR, i1, aK, adB, d9, ↓aaV, i2, Bool.not_false, j8, and_self]
theorem N8 (f : Nat → Int) : ∀ n, ((aiJ n).map f).sum = az n f
 | 0 => rfl
 | n + 1 => by
   rw [List.range_succ, ajd, List.sum_append, N8 f n]
   show _ + (f n + 0) = az n f + f n
   omega
theorem sum_mk {h : Hh} (n : Nat) (f : Nat → Int) : zR h (.nl (aR n fun k => .int (f k))) = some (.int (az n f)) := by
 have e : (aR n fun k => D.int (f k)) = ((aiJ n).map f).map D.int := by
  unfold aR
  rw [ai4]
  rfl
 rw [e, acK, N8]
theorem vH (n : Nat) : iY 0 n = (aiJ n).map fun (i : Nat) => D.int (0 + (i : Int)) := rfl
theorem Nr {n : Nat} (h : n ≤ 100000) : (iY 0 n).length ≤ 100000 := by
 unfold iY
 rw [aiP, aiS]
 exact h
theorem HD {n : Nat} (h : n ≤ 100000) : xR (n : Int) = true := by
 unfold xR
 rw [decide_eq_true (by omega), decide_eq_true (by omega)]
 rfl
theorem nil_eq (h : Hh) : gU h (.fl []) (.nl []) = some true := Ug (l := []) (m := [])
theorem abm {h : Hh} {l : List Int} (hl : l ≠ []) : gU h (.fl (l.map .int)) (.nl []) = some false := by
 have := Ug (h := h) (l := l) (m := [])
 rw [decide_eq_false hl] at this
 exact this
theorem Oa {α : Type} {F : α → D} {n : Nat} {l : List D} {vs : List Nat} {g : D → M Unit} {t : M Bool} {e : M D} {fr : Fr} {h : Hh} (hc : h[n]? = some (.nl l)) : ∀ {xs : List α}, (∀ a ∈ xs, dM vs g t e (F a) fr h = .ok none fr h) → ju n l vs g t e (xs.map F) fr h = .ok [] fr h
 | [], _ => Y4 hc
 | a :: xs, hh => by
   rw [aiN]
   exact Xd hc (hh a aiX) (Oa hc fun b hb => hh b (ai2 _ hb))
section
variable {h : Hh} {cols : List (List Int)} {strict : List Bool} {C : Nat} {x : Nat → Int}
theorem XC {c : List Int} {i : Nat} (hi : i < c.length) : aP h (bf c) (.int (i : Int)) = some (.int (c.getD i 0)) := by
 unfold bf
 rw [Uk, lN, ai3, aiY, aiO hi]
 rfl
theorem Oh (hC : h[C]? = some (.nl (cols.map bf))) (hp : strict.length ≤ 8) (hc : cols.length ≤ 20) (hl : ∀ c ∈ cols, c.length = strict.length) (hb : ∀ c ∈ cols, ∀ v ∈ c, v.natAbs ≤ 2 ^ 200)
 (A : Ri strict.length cols.length (fun k i => (cols.getD k []).getD i 0) (fun i => if strict.getD i false then 1 else 0) x) (bd : ∀ k, k < cols.length → x k < 2 ^ 4000) :
 fH [.tup [.str "amounts", .tup (aR cols.length fun k => .int (x k))], .ref C, .tup (strict.map .bl)] h = .ok (.bl true) [] h := by
 obtain ⟨NX, hNX⟩ : ∃ X, X = aR cols.length fun k => D.int (x k) := ⟨_, rfl⟩
 obtain ⟨SL, hSL⟩ : ∃ X, X = strict.map D.bl := ⟨_, rfl⟩
 have lNX : NX.length = cols.length := by rw [hNX, cO]
 have lSL : SL.length = strict.length := by rw [hSL, aiP]
 have xN : ∀ k, k < cols.length → NX[k]? = some (.int (x k)) := fun k hk => by rw [hNX]; exact qJ _ hk
 have lC : bO h (.ref C) = some (.int (cols.length : Int)) := by rw [QL hC, aiP]
 have xC : ∀ k, k < cols.length → aP h (.ref C) (.int (k : Int)) = some (bf (cols.getD k [])) := fun k hk => by
  rw [rQ hC, lN, ai3, aiY, aiO hk]
  rfl
 have kl : ∀ k, k < cols.length → (cols.getD k []).length = strict.length := fun k hk => by
  rw [aiY, aiO hk]
  exact hl _ (aja hk)
 have kb : ∀ k i, k < cols.length → ((cols.getD k []).getD i 0).natAbs < 2 ^ 4000 := fun k i hk => by
  have h2 : 2 ^ 200 < 2 ^ 4000 := Nat.pow_lt_pow_right (by decide) (by decide)
  rw [aiY (l := cols), aiO hk]
  show (cols[k].getD i 0).natAbs < _
  rw [aiY]
  by_cases g : i < cols[k].length
  · rw [aiO g]
    exact Nat.lt_of_le_of_lt (hb _ (aja hk) _ (aja g)) h2
  · rw [List.getElem?_eq_none (by omega)]
    exact Nat.two_pow_pos _
 have xb : ∀ k, k < cols.length → (x k).natAbs < 2 ^ 4000 := fun k hk => by
  have h1 := A.nn k hk
  have h2 := bd k hk
  have : ((x k).natAbs : Int) < ((2 ^ 4000 : Nat) : Int) := by
   rw [Int.natAbs_of_nonneg h1]
   exact_mod_cast h2
  exact_mod_cast this
 obtain ⟨FD, hFD⟩ : ∃ X, X = D.tup [.str "amounts", .tup NX] := ⟨_, rfl⟩
 have s1 : MP "amounts" = true := by decide +kernel
 have ca : gU h (.str "amounts") (.str "amounts") = some true := by rw [QT s1 s1]; rfl
 have i1 := z8 h [.str "amounts", .tup NX]
 have i2 := z8 h NX
 have rl := Nr (n := cols.length) (by omega)
 have rs := HD (n := cols.length) (by omega)
 have lc1 := QS (vs := [9]) (g := g8) (t := ie) (e := mG) (F := fun (i : Nat) => D.int (0 + (i : Int)))
  (fr := [some FD, some (.ref C), some (.tup SL), some (.str "amounts"), some (.tup NX), none, none, none, none, none, none]) (h := h) (xs := aiJ cols.length) fun k hk => by
   have hk := List.mem_range.mp hk
   have e1 := xN k hk
   have e2 := LC h (x k)
   have d1 : decide (x k < 0) = false := decide_eq_false (by have := A.nn k hk; omega)
   simp only [↓iV, ↓uB, ↓bD, Int.zero_add, aiI, aiG, aH, ↓uC, ↓rA, ↓Hg, ↓cC, ↓jX, ↓cX, ↓jE, aiK, aiH, aiL, aD, ↓aU, aZ, bJ, qp, lN, e1, aK, ↓bQ, aiM, Nat.zero_add, fu, aiQ, e2, ↓cW, qG, Bool.not_true, ↓bB, ↓cR, dh, d1, bM, cD, and_self]
 rw [← vH] at lc1
 have lc2 := u5 (vs := [9]) (g := ig) (t := il) (e := ir) (F := fun (i : Nat) => D.int (0 + (i : Int))) (G := fun (i : Nat) => D.int (0 + (i : Int))) (p := fun k => decide (0 < x k))
  (fr := [some FD, some (.ref C), some (.tup SL), some (.str "amounts"), some (.tup NX), none, none, none, none, none, none]) (h := h) (xs := aiJ cols.length) fun k hk => by
   have hk := List.mem_range.mp hk
   have e1 := xN k hk
   by_cases c : 0 < x k
   · have d1 : decide (0 < x k) = true := decide_eq_true c
     simp only [↓iV, ↓uD, ↓bD, Int.zero_add, aiI, aiG, aH, ↓uE, ↓bB, ↓jE, aiK, aiH, aD, ↓aU, aZ, bJ, qp, lN, e1, aK, ↓cR, dh, d1, d9, ↓Cz, bM, cD, ↓reduceIte, and_self]
   · have d1 : decide (0 < x k) = false := decide_eq_false c
     simp only [↓iV, ↓uD, ↓bD, Int.zero_add, aiI, aiG, aH, ↓uE, ↓bB, ↓jE, aiK, aiH, aD, ↓aU, aZ, bJ, qp, lN, e1, aK, ↓cR, dh, d1, bM, cD, Bool.false_eq_true, ↓reduceIte, and_self]
 rw [← vH] at lc2
 have few := A.few
 obtain ⟨US, hUS⟩ : ∃ X, X = ((aiJ cols.length).filter fun k => decide (0 < x k)).map fun (i : Nat) => D.int (0 + (i : Int)) := ⟨_, rfl⟩
 have lUS : US.length ≤ strict.length := by rw [hUS, aiP]; exact few
 rw [← hUS] at lc2
 have ee : fM 0 SL = (aiJ strict.length).map fun (k : Nat) => D.tup [.int (k : Int), .bl (strict.getD k false)] := by
  rw [hSL, Di D.bl false strict]
  exact wC _ _
 have d2 : decide ((US.length : Int) > (strict.length : Int)) = false := decide_eq_false (by omega)
 have d2' : decide ((strict.length : Int) < (US.length : Int)) = false := decide_eq_false (by omega)
 obtain ⟨B, hB⟩ : ∃ B, B = jr := ⟨_, rfl⟩
 have lp : ∀ u : D, Wp (mO (dN 2 (aX (aY 6) (aX (aY 7) dY))) B (fM 0 SL) [some FD, some (.ref C), some (.tup SL), some (.str "amounts"), some (.tup NX), some u, none, none, none, none, none] h)
  (fun f fr h' => f = .nx ∧ h' = h) dF := fun u => by
  rw [ee]
  refine yG (fun l fr h' => h' = h ∧ ∃ x6 x7 x8, fr = [some FD, some (.ref C), some (.tup SL), some (.str "amounts"), some (.tup NX), some u, x6, x7, x8, none, none]) ⟨rfl, _, _, _, rfl⟩ ?_ ?_
  · rintro i fr h' hi ⟨rfl, x6, x7, x8, rfl⟩
    have lc3 := uw (vs := [9]) (g := iw) (t := iy) (e := iz) (F := fun (i : Nat) => D.int (0 + (i : Int))) (G := fun k => .int ((cols.getD k []).getD i 0 * x k))
     (fr := [some FD, some (.ref C), some (.tup SL), some (.str "amounts"), some (.tup NX), some u, some (.int (i : Int)), some (.bl (strict.getD i false)), x8, none, none]) (h := h') (xs := aiJ cols.length) fun k hk => by
      have hk := List.mem_range.mp hk
      have e1 := xN k hk
      have e2 := xC k hk
      have e3 := XC (h := h') (c := cols.getD k []) (i := i) (by rw [kl k hk]; exact hi)
      have m1 : vZ ((cols.getD k []).getD i 0) (x k) = true := yH (kb k i hk) (xb k hk)
      generalize bf (cols.getD k []) = CK at *
      simp only [↓iV, ↓CG, ↓bD, Int.zero_add, aiI, aiG, aH, ↓CJ, ↓dB, d9, ↓CN, ↓bB, ↓jE, aiK, aiH, aD, ↓aU, aZ, bJ, e2, aK, e3, qp, lN, e1, pH, m1, bM, cD, and_self]
    rw [← vH] at lc3
    have sm := sum_mk (h := h') cols.length fun k => (cols.getD k []).getD i 0 * x k
    have ge := A.ge i hi
    have gt := A.gt i hi
    generalize (az cols.length fun k => (cols.getD k []).getD i 0 * x k) = TOT at *
    have d3 : decide (TOT < 0) = false := decide_eq_false (by omega)
    obtain ⟨SX, hSX⟩ : ∃ X, X = aR cols.length fun k => D.int ((cols.getD k []).getD i 0 * x k) := ⟨_, rfl⟩
    rw [← hSX] at sm
    have lc3 : j6 [9] iw iy iz (iY 0 cols.length) [some FD, some (.ref C), some (.tup SL), some (.str "amounts"), some (.tup NX), some u, some (.int (i : Int)), some (.bl (strict.getD i false)), x8, none, none] h' = .ok SX [some FD, some (.ref C), some (.tup SL), some (.str "amounts"), some (.tup NX), some u, some (.int (i : Int)), some (.bl (strict.getD i false)), x8, none, none] h' := by
     rw [hSX]
     exact lc3
    generalize hRG : iY 0 cols.length = RG at *
    rw [hB]
    by_cases c : strict.getD i false = true
    · have gt := gt (by show (if strict.getD i false then (1 : Int) else 0) = 1; rw [c]; rfl)
      have d4 : decide (TOT = 0) = false := decide_eq_false (by omega)
      rw [c] at lc3 ⊢
      simp only [↓du, aiL, aiM, Nat.zero_add, Nat.reduceAdd, ↓cU, ↓bD, aiI, aiG, aH, ↓di, ↓tK, ↓cJ, ↓dC, ↓cC, ↓tR, ↓pD, ↓cI, aiK, aiH, Cj, aD, lC, aK, rs, ↓reduceIte, Int.toNat_natCast, hRG, dX, rl, bM, cD, lc3, ↓cW, sm, bU, ↓fD, ↓rA, ↓bB, ↓aU, aZ, bJ, ↓cR, dh, d3, ↓gK, qG, d9, jT, d4, ↓dB, fB, true_and]
      exact ⟨_, _, _, rfl⟩
    · have c : strict.getD i false = false := by cases z : strict.getD i false <;> simp_all
      rw [c] at lc3 ⊢
      simp only [↓du, aiL, aiM, Nat.zero_add, Nat.reduceAdd, ↓cU, ↓bD, aiI, aiG, aH, ↓di, ↓tK, ↓cJ, ↓dC, ↓cC, ↓tR, ↓pD, ↓cI, aiK, aiH, Cj, aD, lC, aK, rs, ↓reduceIte, Int.toNat_natCast, hRG, dX, rl, bM, cD, lc3, ↓cW, sm, bU, ↓fD, ↓rA, ↓bB, ↓aU, aZ, bJ, ↓cR, dh, d3, ↓gK, qG, ↓dB, fB, true_and]
      exact ⟨_, _, _, rfl⟩
  · rintro fr h' ⟨rfl, _⟩
    exact ⟨rfl, rfl⟩
 rw [← hNX, ← hSL, ← hFD]
 have k3 : jM = (aA (eO (aq gU (aa 3) (mC (.str "amounts")))
  (aA (bu 5 (lM [9] (iJ (aC bO (aM 4))) ig il ir))
  (aA (eO (rE (aq zF (aC bO (aM 4)) (aC bO (aM 1))) (aq uI (aC bO (aM 5)) (aC bO (aM 2))))
  (cH (mC (.bl false)))
  (M.ret .nx))
  (aA (jN (qZ (aa 2)) (dN 2 (aX (aY 6) (aX (aY 7) dY))) B)
  (cH (mC (.bl true))))))
  (M.ret .nx))
  jL) := by rw [hB]; rfl
 have ne := nil_eq h
 have i1 : qN oN h FD (.ty "tuple") = some (.bl true) := by rw [hFD]; exact i1
 have lF : bO h FD = some (.int 2) := by rw [hFD]; rfl
 have f1 : aP h FD (.int 1) = some (.tup NX) := by rw [hFD]; rfl
 have ow : FD.own = false := by rw [hFD]; exact v8
 have tgF : ∀ (x0 : Option D) (U : Unit → Fr → Hh → Prop), Wp (dN 2 (aX (aY 3) (aX (aY 4) dY)) FD [x0, some (.ref C), some (.tup SL), none, none, none, none, none, none, none, none] h) U dF = U () [x0, some (.ref C), some (.tup SL), some (.str "amounts"), some (.tup NX), none, none, none, none, none, none] h := fun x0 U => by
  rw [hFD]
  simp only [↓du, aiL, aiM, Nat.zero_add, Nat.reduceAdd, ↓cU, ↓bD, aiI, aiG, aH, ↓di, true_and]
 have cl1 : gU h (.int (cols.length : Int)) (.int (cols.length : Int)) = some true := by
  rw [jT]
  exact congrArg some (decide_eq_true rfl)
 clear hFD hNX hSL
 generalize hES : fM 0 SL = ES at *
 generalize hRG : iY 0 cols.length = RG at *
 apply Wp.eq
 have c22 : decide ((2 : Int) = 2) = true := rfl
 simp only [↓vU, ↓gY, startF, aiN, aiR, aiL, aiM, Nat.zero_add, Nat.reduceAdd, Nat.reduceSub, ai5, ai0, ai6, ajb, aH, ↓xF, ↓cJ, ↓fD, ↓rA, ↓Hg, ↓cC, ↓bB, ↓aU, aiH, aiG, aD, ow, bJ, ↓cR, i1, aK, qG, Bool.not_true, ↓cI, lF, W9, jT, decide_true, Option.map_some, ↓jE, f1, i2, ↓dB, bU, ↓uG, ↓QJ, tgF, ↓uF, ↓jQ, ↓tR, ↓pD, aiK, Cj, yU, lNX, rs, ↓reduceIte, Int.toNat_natCast, hRG, dX, rl, bM, cD, aiI, lc1, ↓cW, ↓oM, ↓bQ, Nat.reduceLeDiff, qm, ne, k3, Ub, ca, d9, ↓dC, lc2, lC, aa0, lSL, dh, d2, ↓uh, ↓Iw, v8, Uh, hES, true_and]
 refine (lp _).mono ?_
 rintro f fr h' ⟨rfl, rfl⟩
 simp only [bU, ↓jR, ↓cR, QG, j8, and_self]
end
end L
namespace L
open PySem PySem.Spec L2 Pk
section
variable {h : Hh} {cols : List (List Int)} {strict : List Bool} {C : Nat} {y : Nat → Int}
theorem Oi (hC : h[C]? = some (.nl (cols.map bf))) (hp : strict.length ≤ 8) (hc : cols.length ≤ 20) (hl : ∀ c ∈ cols, c.length = strict.length) (hb : ∀ c ∈ cols, ∀ v ∈ c, v.natAbs ≤ 2 ^ 200)
 (A : Uo strict.length cols.length (fun k i => (cols.getD k []).getD i 0) (fun i => if strict.getD i false then 1 else 0) y) (bd : ∀ i, i < strict.length → y i < 2 ^ 4000) :
 fH [.tup [.str "weights", .tup (aR strict.length fun i => .int (y i))], .ref C, .tup (strict.map .bl)] h = .ok (.bl true) [] h := by
 obtain ⟨NX, hNX⟩ : ∃ X, X = aR strict.length fun k => D.int (y k) := ⟨_, rfl⟩
 obtain ⟨SL, hSL⟩ : ∃ X, X = strict.map D.bl := ⟨_, rfl⟩
 have lNX : NX.length = strict.length := by rw [hNX, cO]
 have lSL : SL.length = strict.length := by rw [hSL, aiP]
 have xN : ∀ k, k < strict.length → NX[k]? = some (.int (y k)) := fun k hk => by rw [hNX]; exact qJ _ hk
 have xS : ∀ k, k < strict.length → SL[k]? = some (.bl (strict.getD k false)) := fun k hk => by
  rw [hSL, ai3, aiY, aiO hk]
  rfl
 have kb : ∀ c ∈ cols, ∀ i, (c.getD i 0).natAbs < 2 ^ 4000 := fun c hc i => by
  have h2 : 2 ^ 200 < 2 ^ 4000 := Nat.pow_lt_pow_right (by decide) (by decide)
  rw [aiY]
  by_cases g : i < c.length
  · rw [aiO g]
    exact Nat.lt_of_le_of_lt (hb _ hc _ (aja g)) h2
  · rw [List.getElem?_eq_none (by omega)]
    exact Nat.two_pow_pos _
 have xb : ∀ k, k < strict.length → (y k).natAbs < 2 ^ 4000 := fun k hk => by
  have h1 := A.nn k hk
  have h2 := bd k hk
  have : ((y k).natAbs : Int) < ((2 ^ 4000 : Nat) : Int) := by
   rw [Int.natAbs_of_nonneg h1]
   exact_mod_cast h2
  exact_mod_cast this
 obtain ⟨FD, hFD⟩ : ∃ X, X = D.tup [.str "weights", .tup NX] := ⟨_, rfl⟩
 have s1 : MP "amounts" = true := by decide +kernel
 have s2 : MP "weights" = true := by decide +kernel
 have ca : gU h (.str "weights") (.str "amounts") = some false := by
  rw [QT s2 s1]
  exact congrArg some (decide_eq_false (by decide))
 have cb : gU h (.str "weights") (.str "weights") = some true := by rw [QT s2 s2]; rfl
 have i1 := z8 h [.str "weights", .tup NX]
 have i2 := z8 h NX
 have rl := Nr (n := strict.length) (by omega)
 have rs := HD (n := strict.length) (by omega)
 have lc1 := QS (vs := [9]) (g := g8) (t := ie) (e := mG) (F := fun (i : Nat) => D.int (0 + (i : Int)))
  (fr := [some FD, some (.ref C), some (.tup SL), some (.str "weights"), some (.tup NX), none, none, none, none, none, none]) (h := h) (xs := aiJ strict.length) fun k hk => by
   have hk := List.mem_range.mp hk
   have e1 := xN k hk
   have e2 := LC h (y k)
   have d1 : decide (y k < 0) = false := decide_eq_false (by have := A.nn k hk; omega)
   simp only [↓iV, ↓uB, ↓bD, Int.zero_add, aiI, aiG, aH, ↓uC, ↓rA, ↓Hg, ↓cC, ↓jX, ↓cX, ↓jE, aiK, aiH, aiL, aD, ↓aU, aZ, bJ, qp, lN, e1, aK, ↓bQ, aiM, Nat.zero_add, fu, aiQ, e2, ↓cW, qG, Bool.not_true, ↓bB, ↓cR, dh, d1, bM, cD, and_self]
 rw [← vH] at lc1
 have lc2 := u5 (vs := [9]) (g := jF) (t := jG) (e := jH) (F := fun (i : Nat) => D.int (0 + (i : Int))) (G := fun (i : Nat) => D.int (0 + (i : Int))) (p := fun k => strict.getD k false && decide (0 < y k))
  (fr := [some FD, some (.ref C), some (.tup SL), some (.str "weights"), some (.tup NX), none, none, none, none, none, none]) (h := h) (xs := aiJ strict.length) fun k hk => by
   have hk := List.mem_range.mp hk
   have e1 := xN k hk
   have e3 := xS k hk
   cases c : strict.getD k false with
   | true =>
     rw [c] at e3
     by_cases c : 0 < y k
     · have d1 : decide (0 < y k) = true := decide_eq_true c
       simp only [↓iV, ↓pP, ↓bD, Int.zero_add, aiI, aiG, aH, ↓pQ, ↓gK, ↓cC, ↓jE, aiK, aiH, aD, ↓aU, aZ, bJ, qp, lN, e3, aK, qG, d9, ↓bB, e1, ↓cR, dh, d1, ↓CP, bM, cD, Bool.and_true, ↓reduceIte, and_self]
     · have d1 : decide (0 < y k) = false := decide_eq_false c
       simp only [↓iV, ↓pP, ↓bD, Int.zero_add, aiI, aiG, aH, ↓pQ, ↓gK, ↓cC, ↓jE, aiK, aiH, aD, ↓aU, aZ, bJ, qp, lN, e3, aK, qG, d9, ↓bB, e1, ↓cR, dh, d1, bM, cD, Bool.and_false, Bool.false_eq_true, ↓reduceIte, and_self]
   | false =>
     rw [c] at e3
     simp only [↓iV, ↓pP, ↓bD, Int.zero_add, aiI, aiG, aH, ↓pQ, ↓gK, ↓cC, ↓jE, aiK, aiH, aD, ↓aU, aZ, bJ, qp, lN, e3, aK, qG, bM, cD, Bool.false_and, Bool.false_eq_true, ↓reduceIte, and_self]
 rw [← vH] at lc2
 obtain ⟨US, hUS⟩ : ∃ X, X = ((aiJ strict.length).filter fun k => strict.getD k false && decide (0 < y k)).map fun (i : Nat) => D.int (0 + (i : Int)) := ⟨_, rfl⟩
 have nU : gU h (.fl US) (.nl []) = some false := by
  have e : US = (((aiJ strict.length).filter fun k => strict.getD k false && decide (0 < y k)).map fun (i : Nat) => (0 + (i : Int))).map D.int := by
   rw [hUS, ai4]
   rfl
  rw [e]
  refine abm fun z => ?_
  obtain ⟨i, hi, e1, e2⟩ := A.one
  have e1 : (if strict.getD i false then (1 : Int) else 0) = 1 := e1
  have hs : strict.getD i false = true := by
   cases c : strict.getD i false with
   | true => rfl
   | false => rw [c] at e1; cases e1
  have hm : (0 + (i : Int)) ∈ (((aiJ strict.length).filter fun k => strict.getD k false && decide (0 < y k)).map fun (i : Nat) => (0 + (i : Int))) := List.mem_map.mpr ⟨i, List.mem_filter.mpr ⟨List.mem_range.mpr hi, by rw [hs, decide_eq_true e2]; rfl⟩, rfl⟩
  rw [z] at hm
  exact absurd hm ai9
 rw [← hUS] at lc2
 have lc3 := Oa (F := bf) (vs := [10]) (g := jJ) (t := jK) (e := pO) (fr := [some FD, some (.ref C), some (.tup SL), some (.str "weights"), some (.tup NX), none, none, none, none, none, none]) hC (xs := cols) fun c hcm => by
  apply Wp.eq
  have le : az strict.length (fun i => c.getD i 0 * y i) ≤ 0 := by
   obtain ⟨k, hk, e⟩ := List.getElem_of_mem hcm
   have := A.le k hk
   have e2 : cols.getD k [] = c := by rw [aiY, aiO hk]; exact e
   rw [e2] at this
   exact this
  have d3 : decide (0 < az strict.length fun i => c.getD i 0 * y i) = false := decide_eq_false (by omega)
  have sm := sum_mk (h := h) strict.length fun k => c.getD k 0 * y k
  have ow : (bf c).own = false := Hj
  have lc4 := uw (vs := [9]) (g := iD) (t := iG) (e := iH) (F := fun (i : Nat) => D.int (0 + (i : Int))) (G := fun k => .int (c.getD k 0 * y k))
   (fr := [some FD, some (.ref C), some (.tup SL), some (.str "weights"), some (.tup NX), none, none, none, none, none, some (bf c)]) (h := h) (xs := aiJ strict.length) fun k hk => by
    have hk := List.mem_range.mp hk
    have e1 := xN k hk
    have e3 := XC (h := h) (c := c) (i := k) (by rw [hl c hcm]; exact hk)
    have m1 : vZ (c.getD k 0) (y k) = true := yH (kb c hcm k) (xb k hk)
    generalize bf c = CK at *
    simp only [↓iV, ↓CQ, ↓bD, Int.zero_add, aiI, aiG, aH, ↓CT, ↓dB, d9, ↓CV, ↓bB, ↓jE, aiK, aiH, aD, ↓aU, aZ, bJ, e3, aK, qp, lN, e1, pH, m1, bM, cD, and_self]
  rw [← vH] at lc4
  have lc5 : j6 [9] iD iG iH (iY 0 strict.length) [some FD, some (.ref C), some (.tup SL), some (.str "weights"), some (.tup NX), none, none, none, none, none, some (bf c)] h = .ok (aR strict.length fun k => D.int (c.getD k 0 * y k)) [some FD, some (.ref C), some (.tup SL), some (.str "weights"), some (.tup NX), none, none, none, none, none, some (bf c)] h := lc4
  clear lc4
  generalize (aR strict.length fun k => D.int (c.getD k 0 * y k)) = SX at sm lc5
  generalize (az strict.length fun k => c.getD k 0 * y k) = TOT at *
  generalize bf c = CK at *
  generalize hRG : iY 0 strict.length = RG at *
  simp only [↓iV, ↓CW, ↓bD, aiI, aiG, aH, ↓CZ, ↓bB, ↓cC, ↓tR, ↓pD, ↓cI, aiK, aiH, Cj, aD, yU, lSL, aK, rs, ↓reduceIte, Int.toNat_natCast, hRG, dX, rl, bM, cD, lc5, ↓cW, sm, ↓cR, dh, d3, bJ, and_self]
 rw [← hNX, ← hSL, ← hFD]
 have ne := nil_eq h
 have i1 : qN oN h FD (.ty "tuple") = some (.bl true) := by rw [hFD]; exact i1
 have lF : bO h FD = some (.int 2) := by rw [hFD]; rfl
 have f1 : aP h FD (.int 1) = some (.tup NX) := by rw [hFD]; rfl
 have ow : FD.own = false := by rw [hFD]; exact v8
 have tgF : ∀ (x0 : Option D) (U : Unit → Fr → Hh → Prop), Wp (dN 2 (aX (aY 3) (aX (aY 4) dY)) FD [x0, some (.ref C), some (.tup SL), none, none, none, none, none, none, none, none] h) U dF = U () [x0, some (.ref C), some (.tup SL), some (.str "weights"), some (.tup NX), none, none, none, none, none, none] h := fun x0 U => by
  rw [hFD]
  simp only [↓du, aiL, aiM, Nat.zero_add, Nat.reduceAdd, ↓cU, ↓bD, aiI, aiG, aH, ↓di, true_and]
 have cll : jO h (.ref C) = some (C, cols.map bf) := by
  unfold jO
  dsimp only
  rw [hC]
 have lcc : (cols.map bf).length ≤ 100000 := by rw [aiP]; omega
 clear hFD hNX hSL hUS
 generalize hRG : iY 0 strict.length = RG at *
 generalize cols.map bf = CL at *
 apply Wp.eq
 have c22 : decide ((2 : Int) = 2) = true := rfl
 simp only [↓vU, ↓gY, startF, aiN, aiR, aiL, aiM, Nat.zero_add, Nat.reduceAdd, Nat.reduceSub, ai5, ai0, ai6, ajb, aH, ↓xF, ↓cJ, ↓fD, ↓rA, ↓Hg, ↓cC, ↓bB, ↓aU, aiH, aiG, aD, ow, bJ, ↓cR, i1, aK, qG, Bool.not_true, ↓cI, lF, W9, jT, decide_true, Option.map_some, ↓jE, f1, i2, ↓dB, bU, ↓uG, ↓QJ, tgF, ↓uF, ↓jQ, ↓tR, ↓pD, aiK, Cj, yU, lNX, rs, ↓reduceIte, Int.toNat_natCast, hRG, dX, rl, bM, cD, aiI, lc1, ↓cW, ↓oM, ↓bQ, Nat.reduceLeDiff, qm, ne, ↓De, Ub, ca, ↓Dd, cb, lSL, ↓Dc, lc2, nU, ↓jR, ↓acM, ↓acJ, dU, cll, lcc, lc3, j8, and_self]
theorem ZD {d : D} (hC : h[C]? = some (.nl (cols.map bf))) (hp : strict.length ≤ 8) (hc : cols.length ≤ 20) (hl : ∀ c ∈ cols, c.length = strict.length) (hb : ∀ c ∈ cols, ∀ v ∈ c, v.natAbs ≤ 2 ^ 200) (A : Ans cols strict d) :
 fH [d, .ref C, .tup (strict.map .bl)] h = .ok (.bl true) [] h := by
 rcases A with ⟨y, rfl, W, bd⟩ | ⟨x, rfl, A, bd⟩
 · exact Oi hC hp hc hl hb W bd
 · exact Oh hC hp hc hl hb A bd
end
end L
namespace L
open PySem PySem.Spec L2 Pk
section
variable {F : Mem} {n : Nat} {α : Type} {vs : List Nat} {g : D → M Unit} {t : M Bool} {e : M D} {fr : Fr} {Fd : α → D} {P : D → Prop}
theorem Uv (turn : ∀ (h : Hh) (C : Int), eX F h n C → C ≤ 95000 → ∀ a : α, ∃ d h', dM vs g t e (Fd a) fr h = .ok (some d) fr h' ∧ eX F h' n (C + 1) ∧ P d) :
 ∀ (xs : List α) (h : Hh) (C : Int), eX F h n C → C + (xs.length : Int) ≤ 95000 → ∃ ds h', j6 vs g t e (xs.map Fd) fr h = .ok ds fr h' ∧ ds.length = xs.length ∧ (∀ d ∈ ds, P d) ∧ eX F h' n (C + (xs.length : Int))
 | [], h, C, S, _ => ⟨[], h, MN, rfl, fun d hd => absurd hd ai9, S.up (by simp)⟩
 | a :: xs, h, C, S, hC => by
   rw [aiL] at hC
   obtain ⟨d, h1, e1, S1, p1⟩ := turn h C S (by omega) a
   obtain ⟨ds, h2, e2, l2, p2, S2⟩ := Uv turn xs h1 (C + 1) S1 (by omega)
   refine ⟨d :: ds, h2, ?_, by rw [aiL, aiL, l2], fun x hx => ?_, S2.up (by rw [aiL]; omega)⟩
   · rw [aiN]
     unfold j6
     rw [M.bind_ok e1, M.bind_ok e2]
     rfl
   · rcases List.mem_cons.mp hx with rfl | hx
     · exact p1
     · exact p2 x hx
theorem Rv : ∀ {ds : List D}, (∀ d ∈ ds, ∃ b, d = D.bl b) → ∃ bs : List Bool, ds = bs.map .bl
 | [], _ => ⟨[], rfl⟩
 | d :: ds, h => by
   obtain ⟨b, rfl⟩ := h d aiX
   obtain ⟨bs, rfl⟩ := Rv (ds := ds) fun x hx => h x (ai2 _ hx)
   exact ⟨b :: bs, rfl⟩
end
section
variable {F : Mem} {n : Nat} {h : Hh} {C : Int}
theorem Sw {m : Nat} (S : eX F h n C) (hC : C ≤ 90000) (hm : 1 ≤ m) (hm2 : m ≤ 8) : ∃ (bs : List Bool) (h' : Hh), oF [.ref n, .int (m : Int)] h = .ok (.tup (bs.map .bl)) [] h' ∧ eX F h' n (C + 20) ∧ bs.length = m ∧ ∃ i, i < m ∧ bs.getD i false = true := by
 obtain ⟨ds, h1, e1, l1, p1, S1⟩ := Uv (F := F) (n := n) (vs := [3]) (g := nH) (t := nJ) (e := nM) (fr := [some (.ref n), some (.int (m : Int)), none, none]) (Fd := fun (i : Nat) => D.int (0 + (i : Int))) (P := fun d => ∃ b, d = D.bl b) (fun h C S hC a => by
  obtain ⟨r, h', e, S', r0, r1⟩ := yr (m := 2) S (by omega) (by decide) (by decide)
  refine ⟨.bl (decide (r = 1)), h', ?_, S', _, rfl⟩
  apply Wp.eq
  simp only [↓iV, ↓JX, ↓bD, aiI, aiG, aH, ↓JZ, ↓dB, d9, ↓J5, ↓bB, ↓jQ, ↓jX, ↓cX, ↓aU, aiH, aiL, aD, dU, bJ, ↓cR, ↓bQ, aiM, Nat.zero_add, Nat.reduceAdd, fu, aiQ, e, ↓cW, pG, jT, Option.map_some, aK, bM, cD, and_self]) (aiJ m) h C S (by rw [aiS]; omega)
 rw [← vH] at e1
 rw [aiS] at l1 S1
 obtain ⟨bs, rfl⟩ := Rv p1
 rw [aiP] at l1
 obtain ⟨r, h2, e2, S2, r0, r1⟩ := yr (m := (m : Int)) S1 (by omega) (by omega) (by
  have : (8 : Int) < 2 ^ 200 := by decide
  omega)
 have hr : r = ((r.toNat : Nat) : Int) := by omega
 have rm : r.toNat < m := by omega
 rw [hr] at e2
 generalize r.toNat = k at *
 refine ⟨bs.set k true, h2, ?_, S2.up (by omega), by rw [aiZ, l1], k, rm, ?_⟩
 · have sF : ou (.int (k : Int)) (.bl true) (bs.map .bl) = some ((bs.set k true).map .bl) := by
    unfold ou
    dsimp only
    have : ixN (bs.map D.bl).length (k : Int) = some k := by
     rw [aiP, l1]
     unfold ixN
     rw [if_pos (by omega), if_pos (by omega)]
     congr 1
    rw [this, List.map_set]
    rfl
   have rs := HD (n := m) (by omega)
   have rl := Nr (n := m) (by omega)
   apply Wp.eq
   generalize hRG : iY 0 m = RG at *
   generalize bs.map D.bl = B0 at *
   generalize (bs.set k true).map D.bl = B1 at *
   simp only [↓Nh, ↓gY, startF, aiN, aiR, aiL, aiM, Nat.zero_add, Nat.reduceAdd, Nat.reduceSub, ai5, ai0, ai6, ajb, aH, ↓Od, ↓cJ, ↓dC, ↓tR, ↓pD, ↓aU, aiK, aiH, aiI, aiG, Cj, aD, aZ, Int.toNat_natCast, bJ, rs, ↓reduceIte, hRG, aK, dX, rl, bM, cD, e1, ↓cW, bU, ↓J8, ↓Ck, ↓cR, ↓jQ, ↓jX, ↓cX, dU, ↓bQ, fu, aiQ, e2, ↓qF, pG, sF, ↓jR, ↓cC, ↓cI, NP, QK, Option.map_some, j8, and_self]
 · rw [aiY, aiW (by omega)]
   rfl
theorem VF {M : Int} (S : eX F h n C) (hC : C ≤ 90000) (hM : 0 ≤ M) (hM2 : M ≤ 10 ^ 30) : ∃ (v : Int) (h' : Hh), mF [.ref n, .int M] h = .ok (.int v) [] h' ∧ eX F h' n (C + 1) ∧ v.natAbs ≤ 10 ^ 30 := by
 have p200 : (2 : Int) * 10 ^ 30 + 1 < 2 ^ 200 := by decide
 obtain ⟨r, h', e, S', r0, r1⟩ := yr (m := 2 * M + 1) S (by omega) (by omega) (by omega)
 have m1 : vZ 2 M = true := by
  have l1 : ((2 : Int)).natAbs.log2 < 200 := log2_lt (by decide) (by decide)
  have l2 : M.natAbs.log2 < 200 := log2_lt (by omega) (by decide)
  exact decide_eq_true (by omega)
 refine ⟨r - M, h', ?_, S', by omega⟩
 apply Wp.eq
 simp only [↓Kc, ↓gY, startF, aiN, aiR, aiL, aiM, Nat.zero_add, Nat.reduceAdd, Nat.reduceSub, ai0, aiQ, aH, ↓Ln, ↓jR, ↓bB, ↓jQ, ↓jX, ↓cX, ↓aU, aiH, aiG, aD, dU, bJ, ↓cR, aiK, aiI, aZ, pH, m1, v9, aK, ↓bQ, pG, fu, e, ↓cW, Ea, j8, and_self]
theorem ofR {CC : Nat} {l : List D} (S : eX ((CC, .nl l) :: F) h n C) (hC : C ≤ 90000) (h0 : 0 < l.length) (hl : l.length ≤ 1000) : ∃ d h', d ∈ l ∧ fG [.ref n, .ref CC] h = .ok d [] h' ∧ eX ((CC, .nl l) :: F) h' n (C + 1) := by
 obtain ⟨r, h', e, S', r0, r1⟩ := yr (m := (l.length : Int)) S (by omega) (by omega) (by
  have : (1000 : Int) < 2 ^ 200 := by decide
  omega)
 have hr : r.toNat < l.length := by omega
 refine ⟨l[r.toNat], h', aja hr, ?_, S'⟩
 have bl : bO h (.ref CC) = some (.int (l.length : Int)) := QL (S.has.get (i := 0) rfl)
 have bi : aP h' (.ref CC) (.int r) = some l[r.toNat] := by
  have q : atI l ((r.toNat : Nat) : Int) = some l[r.toNat] := by
   rw [lN]
   simp [hr]
  rw [show ((r.toNat : Nat) : Int) = r by omega] at q
  rw [rQ (S'.has.get (i := 0) rfl)]
  exact q
 apply Wp.eq
 simp only [↓Vx, ↓gY, startF, aiN, aiR, aiL, aiM, Nat.zero_add, Nat.reduceAdd, Nat.reduceSub, ai0, aiQ, aH, ↓Xm, ↓jR, ↓jE, aiK, aiH, aD, ↓jQ, ↓jX, ↓cX, ↓aU, aiG, dU, bJ, ↓cC, ↓cI, bl, aK, ↓bQ, fu, e, ↓cW, pG, bi, j8, and_self]
theorem VH {many : Nat} {M z : Int} (S : eX F h n C) (hC : C ≤ 80000) (hm : many ≤ 8) (hM : 0 ≤ M) (hM2 : M ≤ 10 ^ 30) {x0 x1 x6 x7 x9 x10 x11 x12 x13 x14 : Option D} :
 Wp (mO (aY 9) yW (iY 0 many) [x0, x1, some (.ref n), some (.int (many : Int)), some (.int M), some (.int z), x6, x7, some (.nl []), x9, x10, x11, x12, x13, x14] h)
  (fun f fr h' => f = .nx ∧ ∃ (l : List Int) (x9 x10 : Option D), fr = [x0, x1, some (.ref n), some (.int (many : Int)), some (.int M), some (.int z), x6, x7, some (.nl (l.map .int)), x9, x10, x11, x12, x13, x14] ∧ l.length = many ∧ (∀ v ∈ l, v.natAbs ≤ 10 ^ 30) ∧ eX F h' n (C + 16)) dF := by
 rw [vH]
 refine yG (fun k fr h' => ∃ (l : List Int) (x9 x10 : Option D), fr = [x0, x1, some (.ref n), some (.int (many : Int)), some (.int M), some (.int z), x6, x7, some (.nl (l.map .int)), x9, x10, x11, x12, x13, x14] ∧ l.length = k ∧ (∀ v ∈ l, v.natAbs ≤ 10 ^ 30) ∧ eX F h' n (C + 2 * (k : Int))) ?_ ?_ ?_
 · exact ⟨[], x9, x10, rfl, rfl, fun v hv => absurd hv ai9, S.up (by omega)⟩
 · rintro k fr h' hk ⟨l, x9, x10, rfl, ll, lb, S⟩
   obtain ⟨v, h1, e1, S1, vb⟩ := VF S (by omega) hM hM2
   obtain ⟨r, h2, e2, S2, r0, r1⟩ := yr (m := 3) S1 (by omega) (by decide) (by decide)
   have lL : (l.map D.int).length < 100000 := by rw [aiP]; omega
   have nx : ∀ u : Int, l.map D.int ++ [.int u] = (l ++ [u]).map .int := fun u => by rw [ajd]; rfl
   have fin : ∀ u : Int, u.natAbs ≤ 10 ^ 30 → (l ++ [u]).length = k + 1 ∧ (∀ v ∈ l ++ [u], v.natAbs ≤ 10 ^ 30) := fun u hu => by
    refine ⟨by rw [aiT, ll]; rfl, fun w hw => ?_⟩
    rcases List.mem_append.mp hw with hw | hw
    · exact lb w hw
    · rw [List.mem_singleton.mp hw]
      exact hu
   obtain ⟨f1, f2⟩ := fin v vb
   obtain ⟨f3, f4⟩ := fin 0 (Nat.zero_le _)
   have n1 := nx v
   have n2 := nx 0
   have S1' := S1.up (C' := C + 2 * ((k + 1 : Nat) : Int)) (by omega)
   have S2' := S2.up (C' := C + 2 * ((k + 1 : Nat) : Int)) (by omega)
   generalize l.map D.int = LI at *
   by_cases c : 0 < z
   · have d1 : decide (0 < z) = true := decide_eq_true c
     by_cases c2 : r < z
     · have d2 : decide (r < z) = true := decide_eq_true c2
       simp only [↓bD, aiI, aiG, aH, ↓Ka, ↓cJ, ↓dC, ↓jX, ↓cX, ↓aU, aiK, aiH, aiL, aD, dU, bJ, aZ, ↓bQ, aiM, Nat.zero_add, Nat.reduceAdd, fu, aiQ, e1, ↓cW, bU, ↓pF, ↓v7, ↓qF, rR, aK, ↓DY, ↓gK, ↓bB, ↓cR, dh, d1, d9, ↓jQ, e2, pG, d2, uv, dX, lL, ↓reduceIte, fB, true_and]
       exact ⟨l ++ [0], _, _, by rw [← n2], f3, f4, S2'⟩
     · have d2 : decide (r < z) = false := decide_eq_false c2
       simp only [↓bD, aiI, aiG, aH, ↓Ka, ↓cJ, ↓dC, ↓jX, ↓cX, ↓aU, aiK, aiH, aiL, aD, dU, bJ, aZ, ↓bQ, aiM, Nat.zero_add, Nat.reduceAdd, fu, aiQ, e1, ↓cW, bU, ↓pF, ↓v7, ↓qF, rR, aK, ↓DY, ↓gK, ↓bB, ↓cR, dh, d1, d9, ↓jQ, e2, pG, d2, uv, dX, lL, ↓reduceIte, fB, true_and]
       exact ⟨l ++ [v], _, _, by rw [← n1], f1, f2, S2'⟩
   · have d1 : decide (0 < z) = false := decide_eq_false c
     simp only [↓bD, aiI, aiG, aH, ↓Ka, ↓cJ, ↓dC, ↓jX, ↓cX, ↓aU, aiK, aiH, aiL, aD, dU, bJ, aZ, ↓bQ, aiM, Nat.zero_add, Nat.reduceAdd, fu, aiQ, e1, ↓cW, bU, ↓pF, ↓v7, ↓qF, rR, aK, ↓DY, ↓gK, ↓bB, ↓cR, dh, d1, uv, dX, lL, ↓reduceIte, fB, true_and]
     exact ⟨l ++ [v], _, _, by rw [← n1], f1, f2, S1'⟩
 · rintro fr h' ⟨l, x9, x10, rfl, ll, lb, S⟩
   exact ⟨rfl, l, x9, x10, rfl, ll, lb, S.up (by omega)⟩
end
end L
namespace L
open PySem PySem.Spec L2 Pk
@[irreducible] def xX (j : Nat) : Nat := 3 ^ j * 10 ^ 30
theorem acY {v j : Nat} (h : v ≤ 10 ^ 30) : v ≤ xX j := by
 unfold xX
 have p3 : 1 ≤ 3 ^ j := Nat.one_le_pow _ _ (by decide)
 have := Nat.mul_le_mul_right (10 ^ 30) p3
 omega
theorem abn {a b j : Nat} (ha : a ≤ 3) (hb : b ≤ xX j) : a * b ≤ xX (j + 1) := by
 unfold xX at *
 have h1 := Nat.mul_le_mul ha hb
 rw [Nat.pow_succ]
 have e : 3 * (3 ^ j * 10 ^ 30) = 3 ^ j * 3 * 10 ^ 30 := by grind
 omega
theorem XD {v j k : Nat} (h : j ≤ k) (hv : v ≤ xX j) : v ≤ xX k := by
 unfold xX at *
 exact Nat.le_trans hv (Nat.mul_le_mul_right _ (Nat.pow_le_pow_right (by decide) h))
theorem Uw {v j : Nat} (h : j ≤ 20) (hv : v ≤ xX j) : v ≤ 2 ^ 200 := by
 have := XD h hv
 unfold xX at this
 exact Nat.le_trans this (by decide)
section
variable {F : Mem} {n CC : Nat} {h : Hh} {C : Int} {cols : List (List Int)}
theorem eX.setc {d d' : D} (S : eX ((CC, d) :: F) h n C) : eX ((CC, d') :: F) (h.set CC d') n C := by
 obtain ⟨a, b, c, H, q1, q2, q3, q4⟩ := S
 exact ⟨a, b, c, H.set 1 rfl d', q1, q2, q3, q4⟩
theorem ZF {l : List Int} (S : eX ((CC, .nl (cols.map bf)) :: F) h n C) (hc : cols.length ≤ 20) {x0 x1 x2 x3 x4 x5 x7 x9 x10 x11 x12 x13 x14 : Option D} :
 Wp (ni (rZ 6 (aC Ir (aM 8))) [x0, x1, x2, x3, x4, x5, some (.ref CC), x7, some (.nl (l.map .int)), x9, x10, x11, x12, x13, x14] h)
  (fun f fr h' => f = .nx ∧ fr = [x0, x1, x2, x3, x4, x5, some (.ref CC), x7, some (.nl (l.map .int)), x9, x10, x11, x12, x13, x14] ∧ eX ((CC, .nl ((cols ++ [l]).map bf)) :: F) h' n C) dF := by
 have e1 : h[CC]? = some (.nl (cols.map bf)) := S.has.get (i := 0) rfl
 have e2 := set_same e1
 have lc : (cols.map bf).length < 100000 := by rw [aiP]; omega
 have e3 : cols.map bf ++ [D.tp (l.map .int)] = (cols ++ [l]).map bf := by rw [ajd]; rfl
 have S2 := S.setc (d' := .nl ((cols ++ [l]).map bf))
 rw [← e3] at S2 ⊢
 generalize cols.map bf = CL at *
 generalize l.map D.int = LI at *
 simp only [↓pF, ↓v7, ↓qF, aiK, aiH, aiI, aiG, aD, e1, aK, rR, ↓cC, ↓cI, e2, Y6, uv, dX, lc, ↓reduceIte, true_and]
 exact S2
theorem XF {b7 B K : M Fl} (h7 : b7 = wu) (hB : B = yW) (hK : K = (ni (rZ 6 (aC Ir (aM 8))))) {many : Nat} {mo z : Int} (S : eX ((CC, .nl (cols.map bf)) :: F) h n C) (hC : C ≤ 70000) (hm : many ≤ 8) (hM : 0 ≤ mo) (hM2 : mo ≤ 10 ^ 30) (hc : cols.length ≤ 20) (hl : ∀ c ∈ cols, c.length = many) (hb : ∀ c ∈ cols, ∀ v ∈ c, v.natAbs ≤ xX cols.length)
 {x0 x1 x7 x8 x9 x10 x11 x12 x13 x14 : Option D} :
 Wp (b7 [x0, x1, some (.ref n), some (.int (many : Int)), some (.int mo), some (.int z), some (.ref CC), x7, x8, x9, x10, x11, x12, x13, x14] h)
  (fun f fr h' => f = .nx ∧ ∃ (l : List Int) (x8 x9 x10 x11 : Option D), fr = [x0, x1, some (.ref n), some (.int (many : Int)), some (.int mo), some (.int z), some (.ref CC), x7, x8, x9, x10, x11, x12, x13, x14] ∧ l.length = many ∧ (∀ v ∈ l, v.natAbs ≤ xX (cols.length + 1)) ∧ eX ((CC, .nl ((cols ++ [l]).map bf)) :: F) h' n (C + 30)) dF := by
 rw [h7]
 have k1 : Ak = (aA (jN (iJ (aa 3)) (aY 9) B) Aj) := by rw [hB]; rfl
 have k2 : Aj = (aA (eO (m7 (aq G9 (aa 6) (dD [])) (aq gU (bG (bR 2 0 cG (bh []) (ak [(aa 2), (mC (.int 6))]) (ak []))) (mC (.int 0))))
  (aA (bu 11 (bR 2 0 fG (bh []) (ak [(aa 2), (bG (dD [(mC (.int 1)), (aC (fun _ => dG) (mC (.int 1))), (mC (.int 2)), (aC (fun _ => dG) (mC (.int 3)))]))]) (ak [])))
  (bu 8 (lM [10] (wV (bG (bR 2 0 fG (bh []) (ak [(aa 2), (aa 6)]) (ak [])))) yX yZ za)))
  (M.ret .nx)) K) := by rw [hK]; rfl
 have dr := fun (x9 x10 : Option D) => VH (x0 := x0) (x1 := x1) (x6 := some (.ref CC)) (x7 := x7) (x9 := x9) (x10 := x10) (x11 := x11) (x12 := x12) (x13 := x13) (x14 := x14) (z := z) S (by omega) hm hM hM2
 rw [← hB] at dr
 have rs := HD (n := many) (by omega)
 have ml : (cols.map bf).length ≤ 1000 := by rw [aiP]; omega
 generalize hRG : iY 0 many = RG at *
 simp only [↓Zk, ↓cJ, ↓dC, ↓oM, ↓bQ, aiM, dX, Nat.reduceLeDiff, aiI, aiG, aH, bU, k1, ↓uh, ↓pD, ↓aU, aiK, aiH, Cj, aD, aZ, Int.toNat_natCast, bJ, rs, ↓reduceIte, hRG, aK, true_and]
 refine (dr _ _).mono ?_
 rintro f fr h1 ⟨rfl, l, x9, x10, rfl, ll, lb, S1⟩
 have small : ∀ v ∈ l, v.natAbs ≤ xX (cols.length + 1) := fun v hv => acY (lb v hv)
 have ap := fun (l : List Int) (h : Hh) (C : Int) (S : eX ((CC, .nl (cols.map bf)) :: F) h n C) (x9 x10 x11 : Option D) => ZF (l := l) (x0 := x0) (x1 := x1) (x2 := some (.ref n)) (x3 := some (.int (many : Int))) (x4 := some (.int mo)) (x5 := some (.int z)) (x7 := x7) (x9 := x9) (x10 := x10) (x11 := x11) (x12 := x12) (x13 := x13) (x14 := x14) S hc
 rw [← hK] at ap
 have nn : G9 h1 (.ref CC) (.nl []) = some (!(cols.map bf).isEmpty) := by
  unfold G9 D.lstOf
  dsimp only
  rw [S1.has.get (i := 0) rfl]
 have done : ∀ (l : List Int) (h2 : Hh) (C' : Int) (S : eX ((CC, .nl (cols.map bf)) :: F) h2 n C') (hC : C' ≤ C + 30) (x9 x10 x11 : Option D), l.length = many → (∀ v ∈ l, v.natAbs ≤ xX (cols.length + 1)) →
  Wp (K [x0, x1, some (.ref n), some (.int (many : Int)), some (.int mo), some (.int z), some (.ref CC), x7, some (.nl (l.map .int)), x9, x10, x11, x12, x13, x14] h2) (fun f fr h' => f = .nx ∧ ∃ (l : List Int) (x8 x9 x10 x11 : Option D), fr = [x0, x1, some (.ref n), some (.int (many : Int)), some (.int mo), some (.int z), some (.ref CC), x7, x8, x9, x10, x11, x12, x13, x14] ∧ l.length = many ∧ (∀ v ∈ l, v.natAbs ≤ xX (cols.length + 1)) ∧ eX ((CC, .nl ((cols ++ [l]).map bf)) :: F) h' n (C + 30)) dF := fun l h2 C' S hC x9 x10 x11 q1 q2 => by
  refine (ap l h2 C' S x9 x10 x11).mono ?_
  rintro f fr h3 ⟨rfl, rfl, S3⟩
  exact ⟨rfl, l, _, _, _, _, rfl, q1, q2, S3.up hC⟩
 by_cases ce : cols = []
 · have nn : G9 h1 (.ref CC) (.nl []) = some false := by rw [nn, ce]; rfl
   have fin := done l h1 _ S1 (by omega) x9 x10 x11 ll small
   generalize l.map D.int = LI at *
   simp only [bU, k2, ↓cJ, ↓fD, ↓gK, ↓bB, ↓aU, aiK, aiH, aiI, aiG, aD, dU, bJ, ↓oM, ↓bQ, aiM, dX, Nat.reduceLeDiff, nn, aK, ↓dB, true_and]
   exact fin
 · have h0 : 0 < cols.length := by
    cases cols with
    | nil => exact absurd rfl ce
    | cons a l => exact Nat.succ_pos _
   have nn : G9 h1 (.ref CC) (.nl []) = some true := by
    rw [nn]
    cases cols with
    | nil => exact absurd rfl ce
    | cons a l => rfl
   obtain ⟨r, h2, e2, S2, r0, r1⟩ := yr (m := 6) S1 (by omega) (by decide) (by decide)
   by_cases c : r = 0
   · have d1 : decide (r = 0) = true := decide_eq_true c
     obtain ⟨d, h3, dm, e3, S3⟩ := Z7 (l := [.int 1, .int (-1), .int 2, .int (-3)]) S2 (by omega) (by decide) (by decide)
     obtain ⟨by_, hby, rfl⟩ : ∃ by_ : Int, by_.natAbs ≤ 3 ∧ d = .int by_ := by
      simp only [List.mem_cons, ai9, or_false] at dm
      rcases dm with rfl | rfl | rfl | rfl
      · exact ⟨1, by decide, rfl⟩
      · exact ⟨-1, by decide, rfl⟩
      · exact ⟨2, by decide, rfl⟩
      · exact ⟨-3, by decide, rfl⟩
     obtain ⟨d, h4, dm, e4, S4⟩ := ofR S3 (by omega) (by rw [aiP]; exact h0) ml
     obtain ⟨c, hcm, rfl⟩ := List.mem_map.mp dm
     have b1 : dG (.int 1) = some (.int (-1)) := rfl
     have b3 : dG (.int 3) = some (.int (-3)) := rfl
     have cb := hb c hcm
     have lc : ∀ x8 x9 : Option D, j6 [10] yX yZ za (c.map .int) [x0, x1, some (.ref n), some (.int (many : Int)), some (.int mo), some (.int z), some (.ref CC), x7, x8, x9, none, some (.int by_), x12, x13, x14] h4 = .ok (c.map fun v => .int (by_ * v)) [x0, x1, some (.ref n), some (.int (many : Int)), some (.int mo), some (.int z), some (.ref CC), x7, x8, x9, none, some (.int by_), x12, x13, x14] h4 := fun x8 x9 => uw (F := D.int) (G := fun v => .int (by_ * v)) (xs := c) fun v hv => by
      have m1 : vZ by_ v = true := by
       have l1 : by_.natAbs.log2 < 300 := log2_lt (by omega) (by decide)
       have l2 : v.natAbs.log2 < 300 := log2_lt (Nat.lt_of_le_of_lt (Uw hc (cb v hv)) (by decide)) (by decide)
       exact decide_eq_true (by omega)
      simp only [↓iV, ↓Zh, ↓bD, aiI, aiG, aH, ↓Zi, ↓dB, d9, ↓Zj, ↓bB, ↓aU, aiK, aiH, aD, aZ, bJ, pH, m1, bM, cD, and_self]
     have lcc : (c.map D.int).length ≤ 100000 := by rw [aiP, hl c hcm]; omega
     have ow : (bf c).own = false := Hj
     have fzc : (bf c).fz = bf c := adE
     have itc : (bf c).its [] = some (c.map .int) := Xe
     have fin := done (c.map fun v => by_ * v) h4 _ S4 (by omega) x9 none (some (.int by_)) (by rw [aiP, hl c hcm]) (fun w hw => by
      obtain ⟨v, hv, rfl⟩ := List.mem_map.mp hw
      rw [Int.natAbs_mul]
      exact abn hby (cb v hv))
     have em : ((c.map fun v => by_ * v).map D.int) = c.map fun v => D.int (by_ * v) := by rw [ai4]; rfl
     rw [em] at fin
     generalize l.map D.int = LI at *
     generalize c.map D.int = CI at *
     generalize (c.map fun v => D.int (by_ * v)) = CB at *
     generalize bf c = CK at *
     simp only [bU, k2, ↓cJ, ↓fD, ↓gK, ↓bB, ↓aU, aiK, aiH, aiI, aiG, aD, dU, bJ, ↓oM, ↓bQ, aiM, dX, Nat.reduceLeDiff, nn, aK, d9, ↓jQ, ↓jX, ↓cX, aiL, ↓cR, Nat.zero_add, Nat.reduceAdd, fu, aiQ, e2, ↓cW, pG, jT, d1, ↓dC, ↓cC, b1, Int.reduceNeg, b3, qm, e3, aH, ↓tR, ↓Iv, e4, fzc, itc, lcc, bM, cD, lc, true_and]
     exact fin
   · have d1 : decide (r = 0) = false := decide_eq_false c
     have fin := done l h2 _ S2 (by omega) x9 x10 x11 ll small
     generalize l.map D.int = LI at *
     simp only [bU, k2, ↓cJ, ↓fD, ↓gK, ↓bB, ↓aU, aiK, aiH, aiI, aiG, aD, dU, bJ, ↓oM, ↓bQ, aiM, dX, Nat.reduceLeDiff, nn, aK, d9, ↓jQ, ↓jX, ↓cX, aiL, ↓cR, Nat.zero_add, Nat.reduceAdd, fu, aiQ, e2, ↓cW, pG, jT, d1, ↓dB, true_and]
     exact fin
end
end L
namespace L
open PySem PySem.Spec L2 Pk
theorem abo (c : List Int) : (bf c).toP = some (Em.int.tup.f c) := by
 have := aa5 Em.int sG c
 unfold D.toP at this
 unfold bf D.toP
 exact this
theorem HF {h : Hh} {k : Nat} : ∀ cols : List (List Int), uW ((cols.map bf).map (D.toPh h k)) = some (cols.map Em.int.tup.f)
 | [] => rfl
 | c :: cols => by
   have e : D.toPh h k (bf c) = some (Em.int.tup.f c) := by
    rw [← abo c]
    cases k <;> rfl
   rw [aiN, aiN, e]
   show (uW ((cols.map bf).map (D.toPh h k))).map _ = _
   rw [HF cols]
   rfl
theorem XH {h : Hh} {CC : Nat} {cols : List (List Int)} (e : h[CC]? = some (.nl (cols.map bf))) : Qy h (.fl (cols.map bf)) (.ref CC) = some false := by
 have e1 : (D.fl (cols.map bf)).toPh h 3 = some (.list (cols.map Em.int.tup.f)) := by
  show (uW ((cols.map bf).map (D.toPh h 2))).map PyData.list = _
  rw [HF]
  rfl
 have e2 : (D.ref CC).toPh h 3 = some (.list (cols.map Em.int.tup.f)) := by
  unfold D.toPh
  dsimp only
  rw [e]
  show (uW ((cols.map bf).map (D.toPh h 2))).map PyData.list = _
  rw [HF]
  rfl
 unfold Qy U6
 rw [e1, e2]
 dsimp only
 have sh : SeqAt.shaped (.list (cols.map Em.int.tup.f)) = true := Em.int.tup.list.shaped (a := cols) (fun _ _ _ _ => trivial) (by decide)
 have eq : PyData.eqv (.list (cols.map Em.int.tup.f)) (.list (cols.map Em.int.tup.f)) = true := (Em.int.tup.list.eq cols cols).trans (decide_eq_true rfl)
 rw [sh, eq]
 rfl
section
variable {F : Mem} {n CC : Nat} {h : Hh} {C : Int}
structure Sys (cols : List (List Int)) (many : Nat) : Prop where
 le : cols.length ≤ 20
 wd : ∀ c ∈ cols, c.length = many
 bd : ∀ c ∈ cols, ∀ v ∈ c, v.natAbs ≤ xX cols.length
theorem VJ {b7 : M Fl} (h7 : b7 = wu) {many r : Nat} {mo z : Int} (S : eX ((CC, .nl []) :: F) h n C) (hC : C ≤ 50000) (hm : many ≤ 8) (hM : 0 ≤ mo) (hM2 : mo ≤ 10 ^ 30) (hr : r ≤ 20) {x0 x1 x7 x8 x9 x10 x11 x12 x13 x14 : Option D} :
 Wp (mO (aY 7) b7 (iY 0 r) [x0, x1, some (.ref n), some (.int (many : Int)), some (.int mo), some (.int z), some (.ref CC), x7, x8, x9, x10, x11, x12, x13, x14] h)
  (fun f fr h' => f = .nx ∧ ∃ (cols : List (List Int)) (x7 x8 x9 x10 x11 : Option D), fr = [x0, x1, some (.ref n), some (.int (many : Int)), some (.int mo), some (.int z), some (.ref CC), x7, x8, x9, x10, x11, x12, x13, x14] ∧ Sys cols many ∧ eX ((CC, .nl (cols.map bf)) :: F) h' n (C + 600)) dF := by
 rw [vH]
 refine yG (fun k fr h' => ∃ (cols : List (List Int)) (x7 x8 x9 x10 x11 : Option D), fr = [x0, x1, some (.ref n), some (.int (many : Int)), some (.int mo), some (.int z), some (.ref CC), x7, x8, x9, x10, x11, x12, x13, x14] ∧ cols.length = k ∧ Sys cols many ∧ eX ((CC, .nl (cols.map bf)) :: F) h' n (C + 30 * (k : Int))) ?_ ?_ ?_
 · exact ⟨[], _, _, _, _, _, rfl, rfl, ⟨Nat.zero_le _, fun c hc => absurd hc ai9, fun c hc => absurd hc ai9⟩, S.up (by omega)⟩
 · rintro k fr h' hk ⟨cols, x7, x8, x9, x10, x11, rfl, hl, sy, S'⟩
   have w := XF h7 rfl rfl S' (by omega) hm hM hM2 sy.le sy.wd sy.bd (x0 := x0) (x1 := x1) (x7 := some (.int (0 + (k : Int)))) (x8 := x8) (x9 := x9) (x10 := x10) (x11 := x11) (x12 := x12) (x13 := x13) (x14 := x14) (z := z)
   simp only [↓bD, aiI, aiG, aH]
   simp only [Int.zero_add] at w
   refine (by simpa only [Int.zero_add] using w : Wp (b7 _ _) _ _).mono ?_
   rintro f fr h2 ⟨rfl, l, x8, x9, x10, x11, rfl, ll, lb, S2⟩
   rw [fB]
   refine ⟨cols ++ [l], _, _, _, _, _, rfl, by rw [aiT, hl]; rfl, ⟨by rw [aiT, hl, ai7]; omega, fun c hc => ?_, fun c hc v hv => ?_⟩, S2.up (by omega)⟩
   · rcases List.mem_append.mp hc with hc | hc
     · exact sy.wd c hc
     · rw [List.mem_singleton.mp hc]
       exact ll
   · rw [aiT, ai7]
     rcases List.mem_append.mp hc with hc | hc
     · exact XD (Nat.le_succ _) (sy.bd c hc v hv)
     · rw [List.mem_singleton.mp hc] at hv
       exact lb v hv
 · rintro fr h' ⟨cols, x7, x8, x9, x10, x11, rfl, hl, sy, S'⟩
   exact ⟨rfl, cols, x7, x8, x9, x10, x11, rfl, sy, S'.up (by omega)⟩
theorem VM {k6 : M Fl} (h6 : k6 = tH) {many : Nat} {mo z : Int} {cols : List (List Int)} (S : eX ((CC, .nl (cols.map bf)) :: F) h n C) (hC : C ≤ 50000) (hm : 1 ≤ many) (hm2 : many ≤ 8) (sy : Sys cols many) {x0 x1 x4 x5 x7 x8 x9 x10 x11 x12 x13 x14 : Option D} :
 Wp (k6 [x0, x1, some (.ref n), some (.int (many : Int)), x4, x5, some (.ref CC), x7, x8, x9, x10, x11, x12, x13, x14] h) (fun f fr h' => f = .nx ∧ ∃ x12 x13 x14 : Option D, fr = [x0, x1, some (.ref n), some (.int (many : Int)), x4, x5, some (.ref CC), x7, x8, x9, x10, x11, x12, x13, x14]) dF := by
 have hb : ∀ c ∈ cols, ∀ v ∈ c, v.natAbs ≤ 2 ^ 200 := fun c hc v hv => Uw sy.le (sy.bd c hc v hv)
 have q1 := Sw S (by omega) hm hm2
 refine Exists.elim q1 fun bs q1 => Exists.elim q1 fun h2 q1 => ?_
 have e1 := q1.1
 have S2 := q1.2.1
 have lb := q1.2.2.1
 have one := q1.2.2.2
 have q2 : ∃ a b c : Int, bV h2 ((n, .nl [.int a, .int b, .int c]) :: (CC, .nl (cols.map bf)) :: F) := Exists.elim S2 fun a q => Exists.elim q fun b q => Exists.elim q fun c q => ⟨a, b, c, q.1⟩
 refine Exists.elim q2 fun a q2 => Exists.elim q2 fun b q2 => Exists.elim q2 fun c H => ?_
 have cc2 : h2[CC]? = some (.nl (cols.map bf)) := H.get (i := 1) rfl
 have q3 := VD (strict := bs) H (by omega) (by omega) sy.le (fun c hc => by rw [lb]; exact sy.wd c hc) hb (by rw [lb]; exact one)
 refine Exists.elim q3 fun h3 q3 => Exists.elim q3 fun d q3 => ?_
 have e3 := q3.1
 have cc3 : h3[CC]? = some (.nl (cols.map bf)) := q3.2.1.get (i := 1) rfl
 have an := q3.2.2
 have e4 := XH cc3
 have e5 := ZD cc3 (by omega) sy.le (fun c hc => by rw [lb]; exact sy.wd c hc) hb an
 have it : (D.ref CC).its h2 = some (cols.map bf) := by
  unfold D.its D.der
  dsimp only
  rw [cc2]
  rfl
 have lcc : (cols.map bf).length ≤ 100000 := by
  have := sy.le
  rw [aiP]
  omega
 have ow : d.own = false ∧ d.fz = d := by
  rcases an with ⟨y, rfl, _⟩ | ⟨y, rfl, _⟩
  · exact ⟨v8, Lf⟩
  · exact ⟨v8, Lf⟩
 have ow1 := ow.1
 have ow2 := ow.2
 clear an ow
 generalize cols.map bf = CL at *
 generalize bs.map D.bl = SL at *
 rw [h6]
 simp only [↓RX, ↓cJ, ↓dC, ↓jX, ↓cX, ↓aU, aiK, aiH, aiI, aiG, aiL, aD, dU, bJ, aZ, ↓bQ, aiM, Nat.zero_add, Nat.reduceAdd, fu, aiQ, e1, ↓cW, aH, bU, ↓RQ, ↓cC, ↓cI, YW, it, Option.map_some, aK, ↓RP, uY, d9, qm, v8, e3, ↓fD, ↓rA, ↓bB, xj, e4, ↓Hg, ow1, e5, qG, Bool.not_true, ↓dB, true_and]
 exact ⟨_, _, _, rfl⟩
end
end L
namespace L
open PySem PySem.Spec L2 Pk
section
variable {ns : List Int}
def Z8 (ns : List Int) (f : Fl) (fr : Fr) : Prop := (f = .nx ∨ f = .ct) ∧ ∃ x1 ys, fr = some (.kl (ns.map .int)) :: x1 :: ys ∧ ys.length = 13
theorem acZ {k : Nat} (hk : k ≤ 62) (h : Hh) (x2 x3 x4 x5 x6 x7 x8 x9 x10 x11 x12 x13 x14 : Option D) {b16 : M Fl} (h16 : b16 = zW) :
 Wp (b16 [some (.kl (ns.map .int)), some (.int (k : Int)), x2, x3, x4, x5, x6, x7, x8, x9, x10, x11, x12, x13, x14] h) (fun f fr _ => Z8 ns f fr) dF := by
 obtain ⟨a, b, e1, b0, b1⟩ := R8 (h := h) (ns := ns) hk
 obtain ⟨n, hn⟩ : ∃ n, n = h.length := ⟨_, rfl⟩
 have S1 : eX [] (h ++ [.nl [.int a, .int b, .int 0]]) n 0 := ⟨a, b, 0, by rw [hn]; exact (bV.nil h).app _, b0, b1, by decide, by decide⟩
 obtain ⟨h1, hh1⟩ : ∃ x, x = h ++ [D.nl [.int a, .int b, .int 0]] := ⟨_, rfl⟩
 rw [← hh1] at S1
 obtain ⟨d2, h2, dm, e2, S2⟩ := Z7 (l := [.int 2, .int 4, .int 8]) S1 (by decide) (by decide) (by decide)
 obtain ⟨u, hu1, hu2, rfl⟩ : ∃ u : Int, 0 < u ∧ u ≤ 8 ∧ d2 = .int u := by
  simp only [List.mem_cons, ai9, or_false] at dm
  rcases dm with rfl | rfl | rfl
  · exact ⟨2, by decide, by decide, rfl⟩
  · exact ⟨4, by decide, by decide, rfl⟩
  · exact ⟨8, by decide, by decide, rfl⟩
 have p8 : (8 : Int) < 2 ^ 200 := by decide
 obtain ⟨r3, h3, e3, S3, r30, r31⟩ := yr (m := u) S2 (by decide) hu1 (by omega)
 obtain ⟨many, hmany⟩ : ∃ many : Nat, (many : Int) = 1 + r3 := ⟨(1 + r3).toNat, by omega⟩
 obtain ⟨d4, h4, dm, e4, S4⟩ := Z7 (l := [.int 1, .int 1, .int 2, .int 5, .int 1000, .int 1000000000000000000000000000000]) S3 (by decide) (by decide) (by decide)
 obtain ⟨mo, hmo1, hmo2, rfl⟩ : ∃ mo : Int, 0 ≤ mo ∧ mo ≤ 10 ^ 30 ∧ d4 = .int mo := by
  simp only [List.mem_cons, ai9, or_false] at dm
  rcases dm with rfl | rfl | rfl | rfl | rfl | rfl
  · exact ⟨1, by decide, by decide, rfl⟩
  · exact ⟨1, by decide, by decide, rfl⟩
  · exact ⟨2, by decide, by decide, rfl⟩
  · exact ⟨5, by decide, by decide, rfl⟩
  · exact ⟨1000, by decide, by decide, rfl⟩
  · exact ⟨1000000000000000000000000000000, by decide, by decide, rfl⟩
 obtain ⟨z, h5, e5, S5, z0, z1⟩ := yr (m := 3) S4 (by decide) (by decide) (by decide)
 obtain ⟨CC, hCC⟩ : ∃ n, n = h5.length := ⟨_, rfl⟩
 obtain ⟨h6, hh6⟩ : ∃ x, x = h5 ++ [D.nl []] := ⟨_, rfl⟩
 have S6 : eX [(CC, .nl [])] h6 n (0 + 1 + 1 + 1 + 1) := by
  obtain ⟨a, b, c, H, q1, q2, q3, q4⟩ := S5
  refine ⟨a, b, c, ?_, q1, q2, q3, q4⟩
  rw [hh6, hCC]
  exact (H.app (.nl [])).perm (.swap _ _ _)
 obtain ⟨d7, h7, dm, e7, S7⟩ := Z7 (l := [.int 3, .int 8, .int 20]) S6 (by decide) (by decide) (by decide)
 obtain ⟨w, hw1, hw2, rfl⟩ : ∃ u : Int, 0 < u ∧ u ≤ 20 ∧ d7 = .int u := by
  simp only [List.mem_cons, ai9, or_false] at dm
  rcases dm with rfl | rfl | rfl
  · exact ⟨3, by decide, by decide, rfl⟩
  · exact ⟨8, by decide, by decide, rfl⟩
  · exact ⟨20, by decide, by decide, rfl⟩
 have p20 : (20 : Int) < 2 ^ 200 := by decide
 obtain ⟨r8, h8, e8, S8, r80, r81⟩ := yr (m := w) S7 (by decide) hw1 (by omega)
 obtain ⟨r, hr⟩ : ∃ r : Nat, (r : Int) = r8 := ⟨r8.toNat, by omega⟩
 rw [← hr] at e8
 obtain ⟨b7, hb7⟩ : ∃ b7, b7 = wu := ⟨_, rfl⟩
 obtain ⟨k6, hk6⟩ : ∃ k6, k6 = tH := ⟨_, rfl⟩
 have k5 : Ao = (aA (jN (iJ (bG (bR 2 0 cG (bh []) (ak [(aa 2), (bG (bR 2 0 fG (bh []) (ak [(aa 2), (bG (dD [(mC (.int 3)), (mC (.int 8)), (mC (.int 20))]))]) (ak [])))]) (ak [])))) (aY 7) b7) k6) := by rw [hb7, hk6]; rfl
 have ts := fun (x7 x8 x9 x10 x11 x12 x13 x14 : Option D) => VJ hb7 (many := many) (r := r) (mo := mo) (z := z) S8 (by decide) (by omega) hmo1 hmo2 (by omega) (x0 := some (.kl (ns.map .int))) (x1 := some (.int (k : Int))) (x7 := x7) (x8 := x8) (x9 := x9) (x10 := x10) (x11 := x11) (x12 := x12) (x13 := x13) (x14 := x14)
 have cs := fun (cols : List (List Int)) (h : Hh) S sy (x7 x8 x9 x10 x11 x12 x13 x14 : Option D) => VM hk6 (F := []) (n := n) (CC := CC) (h := h) (C := 0 + 1 + 1 + 1 + 1 + 1 + 1 + 600) (many := many) (mo := mo) (z := z) (cols := cols) S (by decide) (by omega) (by omega) sy (x0 := some (.kl (ns.map .int))) (x1 := some (.int (k : Int))) (x4 := some (.int mo)) (x5 := some (.int z)) (x7 := x7) (x8 := x8) (x9 := x9) (x10 := x10) (x11 := x11) (x12 := x12) (x13 := x13) (x14 := x14)
 have rs := HD (n := r) (by omega)
 have pw : Jw h3 (.int 10) (.int 30) = some (.int 1000000000000000000000000000000) := by kernel_rfl
 have hh1' := hh1.symm
 have hn' := hn.symm
 have hh6' := hh6.symm
 have hCC' := hCC.symm
 have hmany' := hmany.symm
 unfold Z8
 generalize ns.map D.int = NS at *
 generalize hRG : iY 0 r = RG at *
 rw [h16]
 simp only [↓Xn, ↓cJ, ↓dC, ↓MJ, ↓jX, ↓cX, ↓aU, aiH, aiG, aiL, aD, acD, bJ, aiK, aiI, aZ, ↓bQ, aiM, Nat.zero_add, Nat.reduceAdd, fu, aiQ, e1, ↓cW, uY, hn', aH, bU, ↓R7, ↓bB, ↓cR, ↓jQ, dU, ↓oM, dX, Nat.reduceLeDiff, qm, hh1', e2, pG, e3, v9, hmany', aK, ↓R6, pw, e4, ↓R5, e5, ↓R4, hCC', k5, hh6', ↓uh, ↓pD, Cj, e7, e8, rs, ↓reduceIte, Int.toNat_natCast, hRG, true_and]
 refine (ts _ _ _ _ _ _ _ _).mono ?_
 rintro f fr h9 ⟨rfl, cols, x7, x8, x9, x10, x11, rfl, sy, S9⟩
 rw [bU]
 refine (cs cols h9 S9 sy _ _ _ _ _ _ _ _).mono ?_
 rintro f fr h10 ⟨rfl, x12, x13, x14, rfl⟩
 exact ⟨.inl rfl, _, _, rfl, rfl⟩
theorem plain (ns : List Int) (hl : ns.length ≤ 63) : ∃ fr h, Vg [.kl (ns.map Pk.D.int)] [] = .ok (.bl true) fr h := by
 unfold Vg Vf
 refine aa6 (by decide) (by decide) (by decide) fun k xs h hk hx => ?_
 match xs, hx with
 | [x2, x3, x4, x5, x6, x7, x8, x9, x10, x11, x12, x13, x14], _ => exact acZ (by omega) h x2 x3 x4 x5 x6 x7 x8 x9 x10 x11 x12 x13 x14 rfl
end
end L
namespace L
open PySem PySem.Spec PyProof.Rows L2
theorem facts {P : Program} {w : World} {K : PySem.W.Frag} {h : Heap} {mg : Str → Option Value} {f : Addr} (X : K.In h) (G : h.Ns mainGlobals mg) (hfa : mg ("law" : Str) = some (.ref f)) (c : bT K) :
 ∃ fd : FuncData, (∀ (s : Shared) (v : Value), BindsTo s fd ⟨[v], []⟩ [("_law_script", v)]) ∧ ∀ base : Heap, K.In base → base.Ns mainGlobals mg → FnOk P w K mg base (L2N.CX P w) 4 f fd ["_law_script"] (Pk.spF K (T K) 1 Vg) := by
 obtain ⟨fd, F⟩ := c.def_ (fn.length - 1) (d := ZL) rfl
 have e := hfa.symm.trans (He.glo_ok X G (c.fact (fa.length - 1) (f := .he (.glo "law")) rfl))
 cases e
 have b := FunD.bindsA (ps := ["_law_script"]) F fun _ _ _ _ _ _ us hl => match us, hl with | [_], _ => rfl
 exact ⟨fd, fun s v => b s [v] rfl, fun base Y Gb => Pk.fn_sim F abP (Zg c Y Gb)⟩
end L
open PySem PySem.W PySem.Calls PyProof.Rows
theorem PySem.Challenge.cw_countrestarts_k52_solutions_holds : PySem.Challenge.rw_countrestarts_k52_solutions.Holds := by
 w_on; o_law
 refine HandSHeadRun.head_any (r := OpenLaw.row PySem.Challenge.rw_countrestarts_k52_solutions) (q := L.vw) (H := L.hk) (ob := L.ob) (M := 20000) (loose := L.names) (d := HandSHeadRun.topDef (OpenLaw.row PySem.Challenge.rw_countrestarts_k52_solutions).prog 13) (kwd := []) L.ob_eq
  (by kernel_rfl) (fun s => by kernel_rfl) L.run (by kernel_rfl) (by kernel_rfl) (by kernel_rfl) (by rfl) (by first | assumption | decide +kernel) (by decide +kernel) ⟨rfl, rfl, rfl, rfl, rfl, by decide +kernel⟩ ?hw ?hc
 case hw => w_witness2
 case hc =>
  refine L2.walk_ofE (l := PySem.Challenge.rw_countrestarts_k52_solutions) (n := 63) (k := 4) (x := "_law_script") (CX := L2.CX0) rfl (by decide) (by kernel_rfl) ⟨rfl, by decide, by decide⟩ ?F (fun _ _ _ _ z => z)
  intro w mg fa h Y G hmg0
  obtain ⟨K, KX, c⟩ := Y
  have hmg : mg ("law" : PySem.Str) = some (.ref fa) := by
   have e : (HandSHeadRun.topDef (OpenLaw.row PySem.Challenge.rw_countrestarts_k52_solutions).prog 13).name = ("law" : PySem.Str) := by kernel_rfl
   rw [← e]
   exact hmg0
  obtain ⟨fd, hb, hF⟩ := L.facts (P := (PySem.Challenge.rw_countrestarts_k52_solutions).prog) (w := w) KX G hmg c
  exact ⟨K, fd, _, KX, hb, fun H a ns hl _ hS => (let ⟨fr, h, e⟩ := L.plain ns hl; Pk.law_sp hS e), fun base Y Gb => Pk.fn_cx0 (hF base Y Gb)⟩
