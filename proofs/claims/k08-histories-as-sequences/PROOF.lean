import PyProof.Rows.All
import Wide.All
import OpenK.AllK
import Wide.FinOn
import HandS.ForMost
import HandS.Exc
import HandS.IsInst
import HandS.Slots
import HandS.Lambda
import HandS.Wide
import HandS.TupAny
import HandS.Conv
import HandS.Deep
import HandS.ExcCtx
import HandS.Property
import HandS.MakeKwOnly
import HandS.SortInts
import HandS.RaiseMore
import HandS.Style
import HandS.Zip
import HandS.CallSlots
import HandS.Defaults
import HandS.HeadHook1
import HandS.HeadHook2
import HandS.HeadHook3
import HandS.HeadHook4
import HandS.HeadEnd
import HandS.ExcIs
import HandS.ExcField
import KE.GoesMore
import PyProof.EnumMake
import PyProof.EnumFor
import HandS.Iter
import HandS.Star
import KE.KExcSuper
import KE.KSuper
import HandS.ExcInit
import KE.KExcIs
import HandS.TryOnly
import HandS.TryMany
import HandS.ClsMeth
import KE.KStateDown
import HandS.Head0
import HandS.Head1
import HandS.Head2
import HandS.MakeKw
import PySem.Challenge.RW_countrestarts_k08_histories_as_sequences
import HandS.OwnEq
import PyProof.CallFns
import HandS.FStr
import PyProof.Rows.StrWeight2
import PyProof.Rows.StrSplitJoin
import PyProof.Rows.StrFin3
import HandS.ExcOwn
import KE.GoesSet
import HandS.Strs
import KE.KTupSum
import PyProof.Rows.RuleN_abs
import KE.KOpsOwn
import KE.KMethU
import HandS.Dict
import HandS.Flow
import HandS.MethStar
import HandS.GenList
import HandS.GenYield
import KE.GoesZip
import KE.GoesEnum
import HandS.GenCall
import KE.SortData
import KE.SortLaws
import KE.KDictList
import PyProof.ReprRoads
import HandS.Ends
import HandS.EndBits
set_option Elab.async false
set_option linter.all false
set_option maxRecDepth 100000
set_option maxHeartbeats 40000000
set_option autoImplicit false
open List renaming length_cons → ag9, getElem?_cons_zero → aha, map_cons → ahb, set_cons_zero → ahc, length_nil → ahd, append_nil → ahe, map_nil → ahf, set_cons_succ → ahg, getElem?_cons_succ → ahh, getElem?_eq_getElem → ahi, length_append → ahj, length_map → ahk, length_singleton → ahl, lookup → ahm, replicate_zero → ahn, nil_append → aho, getElem?_set_self → ahp, mem_of_getElem? → ahq, cons_append → ahr, getElem?_set_ne → ahs, mem_cons_self → aht, replicate_succ → ahu, length_set → ahv, mem_singleton → ahw, mem_cons_of_mem → ahx, getElem?_map → ahy, getElem?_append_right → ahz, mem_cons → ahA, getElem?_append_left → ahB
namespace Pk
open PySem PySem.Spec L2
inductive D where
 | non | bl (b : Bool) | int (i : Int) | str (s : Str)
 | tup (l : List D) | fl (l : List D) | nl (l : List D) | kl (l : List D)
 | obj (c : Nat) (fs : List D) | no (c : Nat) (fs : List D) | ref (n : Nat) | cls (c : Nat) | ty (t : String)
 | sl (lo hi : Option Int)
 /-- a tuple that the heap knows (it may be a key) -/
 | tp (l : List D)
 /-- a dict with tuples for keys, in a cell: its keys, its values -/
 | dc (ks : List (List (Sum Int Str))) (ds : List D)
 /-- a dict with ints and texts for keys, in a cell -/
 | dk (ks : List (Sum Int Str)) (ds : List D)
 /-- an instance with slots, in a cell: its class, the cell of its dict, its slots -/
 | so (c m : Nat) (fs : List D)
 /-- .. its dict, before the first store and behind it -/
 | hid (b : Bool)
 deriving Inhabited
def D.own : D → Bool
 | .nl _ => true
 | .no _ _ => true
 | _ => false
def D.fz : D → D
 | .nl l => .fl l
 | .no c fs => .obj c fs
 | d => d
abbrev Fr := List (Option D)
abbrev Hh := List D
structure Tb where
 cad : Nat → Addr
 fld : Nat → List Str
 /-- tables of code objects, and the names that they tell -/
 tabs : List (Addr × Str)
structure Wd where
 F : Hp
 I : List Addr
def Wd.le (w w' : Wd) : Prop := (∀ a o, w.F a = some o → w'.F a = some o) ∧ ∃ r, w'.I = w.I ++ r
theorem Wd.le_refl (w : Wd) : w.le w := ⟨fun _ _ h => h, [], by simp⟩
theorem Wd.le_trans {a b c : Wd} (x : a.le b) (y : b.le c) : a.le c :=
 ⟨fun p o h => y.1 p o (x.1 p o h), by
  obtain ⟨r, e⟩ := x.2
  obtain ⟨q, f⟩ := y.2
  exact ⟨r ++ q, by rw [f, e, List.append_assoc]⟩⟩
theorem Wd.le_at {w w' : Wd} (x : w.le w') {n : Nat} {a : Addr} (h : w.I[n]? = some a) : w'.I[n]? = some a := by
 obtain ⟨r, e⟩ := x.2
 rw [e, ahB (List.getElem?_eq_some_iff.mp h).1]
 exact h
theorem Wd.le_mem {w w' : Wd} (x : w.le w') {a : Addr} (h : a ∈ w.I) : a ∈ w'.I := by
 obtain ⟨r, e⟩ := x.2
 rw [e]
 exact List.mem_append_left _ h
theorem Zr {F F' : Hp} (x : ∀ a o, F a = some o → F' a = some o) {a : Addr} {u : HO} (h : Rd F a u) : Rd F' a u := by
 rcases h with h | ⟨o, h⟩
 · exact .inl (x _ _ h)
 · exact .inr ⟨o, x _ _ h⟩
theorem jK {K : PySem.W.Frag} {F F' : Hp} (x : ∀ a o, F a = some o → F' a = some o) {a : Addr} {vs : List V} (h : SqL K F a vs) : SqL K F' a vs := by
 rcases h with h | h
 · exact .inl (Zr x h)
 · exact .inr h
theorem eG {K : PySem.W.Frag} {F F' : Hp} (x : ∀ a o, F a = some o → F' a = some o) {a : Addr} {vs : List V} (h : SqT K F a vs) : SqT K F' a vs := by
 rcases h with h | h
 · exact .inl (Zr x h)
 · exact .inr h
def SlO (a : Addr) (lo hi : Option Int) (h : Heap) : Prop := ∃ vl vu, h.IsSliceOf a vl vu .none ∧ IsPart vl lo ∧ IsPart vu hi
mutual
inductive bD (K : PySem.W.Frag) (T : Tb) (w : Wd) : V → D → Prop where
 | non : bD K T w .non .non
 | bl (b : Bool) : bD K T w (.bl b) (.bl b)
 | int (i : Int) : bD K T w (.int i) (.int i)
 | str (s : Str) : bD K T w (.str s) (.str s)
 | tup {a : Addr} {vs : List V} {ds : List D} : SqT K w.F a vs → az K T w vs ds → bD K T w (.ref a) (.tup ds)
 | fl {a : Addr} {vs : List V} {ds : List D} : w.F a = some (.lst vs) → az K T w vs ds → bD K T w (.ref a) (.fl ds)
 | kl {a : Addr} {vs : List V} {ds : List D} : SqL K w.F a vs → az K T w vs ds → bD K T w (.ref a) (.kl ds)
 | obj {a dx : Addr} {c : Nat} {vs : List V} {ds : List D} : w.F a = some (.ins (T.cad c) dx ((T.fld c).zip vs)) → az K T w vs ds → bD K T w (.ref a) (.obj c ds)
 | ref {a : Addr} {n : Nat} : w.I[n]? = some a → bD K T w (.ref a) (.ref n)
 | cls (c : Nat) : bD K T w (.ref (T.cad c)) (.cls c)
 | ty (t : String) : bD K T w (.ty t) (.ty t)
 | sl {a : Addr} {lo hi : Option Int} : w.F a = some (.ext (SlO a lo hi)) → bD K T w (.ref a) (.sl lo hi)
 | tp {a : Addr} {vs : List V} {ds : List D} : w.F a = some (.tup vs) → az K T w vs ds → bD K T w (.ref a) (.tp ds)
inductive az (K : PySem.W.Frag) (T : Tb) (w : Wd) : List V → List D → Prop where
 | nil : az K T w [] []
 | cons {v : V} {d : D} {vs : List V} {ds : List D} : bD K T w v d → az K T w vs ds → az K T w (v :: vs) (d :: ds)
end
section
variable {K : PySem.W.Frag} {T : Tb} {w w' : Wd}
mutual
theorem bD.mono (x : w.le w') : ∀ {v : V} {d : D}, bD K T w v d → bD K T w' v d
 | _, _, .non => .non
 | _, _, .bl b => .bl b
 | _, _, .int i => .int i
 | _, _, .str s => .str s
 | _, _, .tup h t => .tup (eG x.1 h) (az.mono x t)
 | _, _, .fl h t => .fl (x.1 _ _ h) (az.mono x t)
 | _, _, .kl h t => .kl (jK x.1 h) (az.mono x t)
 | _, _, .obj h t => .obj (x.1 _ _ h) (az.mono x t)
 | _, _, .ref h => .ref (Wd.le_at x h)
 | _, _, .cls c => .cls c
 | _, _, .ty t => .ty t
 | _, _, .sl h => .sl (x.1 _ _ h)
 | _, _, .tp h t => .tp (x.1 _ _ h) (az.mono x t)
theorem az.mono (x : w.le w') : ∀ {vs : List V} {ds : List D}, az K T w vs ds → az K T w' vs ds
 | _, _, .nil => .nil
 | _, _, .cons h t => .cons (bD.mono x h) (az.mono x t)
end
theorem az.length : ∀ {vs : List V} {ds : List D}, az K T w vs ds → vs.length = ds.length
 | _, _, .nil => rfl
 | _, _, .cons _ t => congrArg Nat.succ (az.length t)
theorem az.get : ∀ {vs : List V} {ds : List D} {i : Nat} {d : D}, az K T w vs ds → ds[i]? = some d → ∃ v, vs[i]? = some v ∧ bD K T w v d
 | _, _, _, _, .nil, e => by simp at e
 | _, _, 0, _, .cons h _, e => by
   simp at e
   subst e
   exact ⟨_, rfl, h⟩
 | _, _, i + 1, d, .cons _ t, e => by
   obtain ⟨v, h1, h2⟩ := az.get (i := i) (d := d) t (by simpa using e)
   exact ⟨v, by simpa using h1, h2⟩
theorem az.append : ∀ {vs us : List V} {ds es : List D}, az K T w vs ds → az K T w us es → az K T w (vs ++ us) (ds ++ es)
 | _, _, _, _, .nil, t => t
 | _, _, _, _, .cons h r, t => .cons h (az.append r t)
theorem az.drop : ∀ {vs : List V} {ds : List D} (n : Nat), az K T w vs ds → az K T w (vs.drop n) (ds.drop n)
 | _, _, 0, h => h
 | _, _, _ + 1, .nil => .nil
 | _, _, n + 1, .cons _ t => az.drop n t
theorem az.take : ∀ {vs : List V} {ds : List D} (n : Nat), az K T w vs ds → az K T w (vs.take n) (ds.take n)
 | _, _, 0, _ => .nil
 | _, _, _ + 1, .nil => .nil
 | _, _, n + 1, .cons h t => .cons h (az.take n t)
theorem az.set : ∀ {vs : List V} {ds : List D} {v : V} {d : D} (n : Nat), az K T w vs ds → bD K T w v d → az K T w (vs.set n v) (ds.set n d)
 | _, _, _, _, _, .nil, _ => .nil
 | _, _, _, _, 0, .cons _ t, h => .cons h t
 | _, _, _, _, n + 1, .cons h t, k => .cons h (az.set n t k)
theorem az.ints : ∀ {vs : List V} {is : List Int}, az K T w vs (is.map D.int) → vs = is.map V.int
 | _, [], .nil => rfl
 | _, i :: is, .cons h t => by
   cases h
   rw [az.ints t]
   rfl
end
structure Bs where
 w0 : Wd
 H0 : Hp
 P : List (Addr × HO)
 /-- where an __init__'s own instance is: in slot 0, as long as that holds an object of the body's own -/
 me : Option Addr
abbrev Bs.of (w : Wd) (H : Hp) : Bs := ⟨w, H, [], none⟩
structure Own (B : Bs) (w : Wd) (p : Addr) : Prop where
 f : w.F p = none
 i : p ∉ w.I
 e : B.H0 p = none
 p : ∀ q ∈ B.P, q.1 ≠ p
inductive mX (K : PySem.W.Frag) (T : Tb) (w : Wd) : HO → D → Prop where
 | lst {vs : List V} {ds : List D} : az K T w vs ds → mX K T w (.lst vs) (.nl ds)
 | obj {dx : Addr} {c : Nat} {vs : List V} {ds : List D} : az K T w vs ds → mX K T w (.ins (T.cad c) dx ((T.fld c).zip vs)) (.no c ds)
theorem mX.own {K : PySem.W.Frag} {T : Tb} {w : Wd} {o : HO} {d : D} (x : mX K T w o d) : d.own = true := by
 cases x <;> rfl
theorem mX.mono {K : PySem.W.Frag} {T : Tb} {w w' : Wd} {o : HO} {d : D} (l : w.le w') (x : mX K T w o d) : mX K T w' o d := by
 cases x with
 | lst r => exact .lst (r.mono l)
 | obj r => exact .obj (r.mono l)
theorem mX.fz {K : PySem.W.Frag} {T : Tb} {w w' : Wd} {o : HO} {d : D} {p : Addr} (l : w.le w') (e : w'.F p = some o) (x : mX K T w o d) : bD K T w' (.ref p) d.fz := by
 cases x with
 | lst r => exact .fl e (r.mono l)
 | obj r => exact .obj e (r.mono l)
theorem wM {K : PySem.W.Frag} {T : Tb} {w : Wd} {v : V} {d : D} (r : bD K T w v d) : d.own = false := by
 cases r <;> rfl
theorem ZZ {K : PySem.W.Frag} {T : Tb} {w : Wd} {v : V} {d : D} (r : bD K T w v d) : d.fz = d := by
 cases r <;> rfl
theorem rA {K : PySem.W.Frag} {T : Tb} {w : Wd} {v : V} {d : D} (o : d.own = true) (r : bD K T w v d) : False := by
 rw [wM r] at o
 cases o
theorem Wb (d : D) : d.fz.own = false := by
 cases d <;> rfl
inductive Dy (K : PySem.W.Frag) (T : Tb) (B : Bs) (w : Wd) (H : Hp) : Option V → Option D → Prop where
 | none {v : Option V} : Dy K T B w H v none
 | val {v : V} {d : D} : bD K T w v d → Dy K T B w H (some v) (some d)
 | own {p : Addr} {o : HO} {d : D} : Own B w p → H p = some o → mX K T w o d → Dy K T B w H (some (.ref p)) (some d)
inductive lA (K : PySem.W.Frag) (T : Tb) (w : Wd) : List (Option V) → List D → Prop where
 | nil : lA K T w [] []
 | hole {vs : List (Option V)} {ds : List D} : lA K T w vs ds → lA K T w (none :: vs) (.hid false :: ds)
 | cons {v : V} {d : D} {vs : List (Option V)} {ds : List D} : bD K T w v d → lA K T w vs ds → lA K T w (some v :: vs) (d :: ds)
section
variable {K : PySem.W.Frag} {T : Tb} {w w' : Wd}
theorem lA.mono (l : w.le w') : ∀ {vs : List (Option V)} {ds : List D}, lA K T w vs ds → lA K T w' vs ds
 | _, _, .nil => .nil
 | _, _, .hole t => .hole (t.mono l)
 | _, _, .cons r t => .cons (r.mono l) (t.mono l)
theorem lA.length : ∀ {vs : List (Option V)} {ds : List D}, lA K T w vs ds → vs.length = ds.length
 | _, _, .nil => rfl
 | _, _, .hole t => congrArg Nat.succ t.length
 | _, _, .cons _ t => congrArg Nat.succ t.length
def D.isHid : D → Bool
 | .hid _ => true
 | _ => false
theorem lA.get : ∀ {vs : List (Option V)} {ds : List D} {i : Nat} {d : D}, lA K T w vs ds → ds[i]? = some d → d.isHid = false → ∃ v, vs[i]? = some (some v) ∧ bD K T w v d
 | _, _, _, _, .nil, e, _ => by simp at e
 | _, _, 0, _, .hole _, e, hd => by
   simp at e
   subst e
   cases hd
 | _, _, 0, _, .cons r _, e, _ => by
   simp at e
   subst e
   exact ⟨_, rfl, r⟩
 | _, _, i + 1, _, .hole t, e, hd => t.get (i := i) (by simpa using e) hd
 | _, _, i + 1, _, .cons _ t, e, hd => t.get (i := i) (by simpa using e) hd
theorem lA.append : ∀ {vs us : List (Option V)} {ds es : List D}, lA K T w vs ds → lA K T w us es → lA K T w (vs ++ us) (ds ++ es)
 | _, _, _, _, .nil, t => t
 | _, _, _, _, .hole r, t => .hole (r.append t)
 | _, _, _, _, .cons h r, t => .cons h (r.append t)
theorem lA.set : ∀ {vs : List (Option V)} {ds : List D} {v : V} {d : D} (n : Nat), lA K T w vs ds → bD K T w v d → lA K T w (vs.set n (some v)) (ds.set n d)
 | _, _, _, _, _, .nil, _ => .nil
 | _, _, _, _, 0, .hole t, h => .cons h t
 | _, _, _, _, 0, .cons _ t, h => .cons h t
 | _, _, _, _, n + 1, .hole t, k => .hole (t.set n k)
 | _, _, _, _, n + 1, .cons h t, k => .cons h (t.set n k)
end
inductive rQ (K : PySem.W.Frag) (T : Tb) (w : Wd) (a : Addr) : HO → D → Prop where
 | lst {vs : List V} {ds : List D} : az K T w vs ds → rQ K T w a (.lst vs) (.nl ds)
 | obj {dx : Addr} {c : Nat} {vs : List V} {ds : List D} : az K T w vs ds → rQ K T w a (.ins (T.cad c) dx ((T.fld c).zip vs)) (.no c ds)
 | dct {ks : List (List Key)} {vs : List V} {ds : List D} : ks.length = ds.length → az K T w vs ds → rQ K T w a (.dT (ks.zip vs)) (.dc ks ds)
 | dkt {ks : List Key} {vs : List V} {ds : List D} : ks.length = ds.length → az K T w vs ds → rQ K T w a (.dK (ks.zip vs)) (.dk ks ds)
 | so0 {dx : Addr} {c m : Nat} : w.I[m]? = some dx → rQ K T w a (.ins (T.cad c) dx []) (.so c m [])
 | so1 {dx : Addr} {c m : Nat} {vs : List (Option V)} {d : D} {ds : List D} : w.I[m]? = some dx → lA K T w vs (d :: ds) → rQ K T w a (SlX.SlO a (T.cad c) dx vs) (.so c m (d :: ds))
 | hid0 {x : Addr} : rQ K T w a (.own x) (.hid false)
 | hid1 : rQ K T w a (.xd []) (.hid true)
theorem mX.cel {K : PySem.W.Frag} {T : Tb} {w : Wd} {o : HO} {d : D} (a : Addr) (x : mX K T w o d) : rQ K T w a o d := by
 cases x with
 | lst r => exact .lst r
 | obj r => exact .obj r
theorem rQ.mono {K : PySem.W.Frag} {T : Tb} {w w' : Wd} {a : Addr} {o : HO} {d : D} (l : w.le w') (x : rQ K T w a o d) : rQ K T w' a o d := by
 cases x with
 | lst r => exact .lst (r.mono l)
 | obj r => exact .obj (r.mono l)
 | dct h r => exact .dct h (r.mono l)
 | dkt h r => exact .dkt h (r.mono l)
 | so0 h => exact .so0 (Wd.le_at l h)
 | so1 h r => exact .so1 (Wd.le_at l h) (r.mono l)
 | hid0 => exact .hid0
 | hid1 => exact .hid1
def Bc (K : PySem.W.Frag) (T : Tb) (w : Wd) (H : Hp) (a : Addr) (d : D) : Prop := ∃ o, H a = some o ∧ rQ K T w a o d
def uV (σ : St) (fr : Fr) (i : Nat) (p : Addr) : Prop := σ[i]? = some (some (.ref p)) ∧ ∃ d, fr[i]? = some (some d) ∧ d.own = true
def TabW (w : Wd) (H : Hp) (P : Addr) (s : Str) : Prop := ∃ ps : Array Value, H P = some (.tbl ps) ∧ PySem.TriplesOk ps.toList ∧ ∀ (pos : Pos) (cv : Value), codeAmong pos ps.toList = some cv → ∃ c, cv = .ref c ∧ H c = some (LamX.CodeO c s) ∧ c ∉ w.I
def oY (H : Hp) (a : Addr) (o : HO) : Prop := H a = some o ∨ ∃ ps ps', o = .tbl ps ∧ H a = some (.tbl ps')
theorem oY.ne {H : Hp} {a : Addr} {o : HO} (k : oY H a o) : H a ≠ none := by
 rcases k with k | ⟨_, _, _, k⟩
 · rw [k]
   simp
 · rw [k]
   simp
theorem oY.eq {H : Hp} {a : Addr} {o : HO} (k : oY H a o) (n : ∀ ps, o ≠ .tbl ps) : H a = some o := by
 rcases k with k | ⟨_, _, e, _⟩
 · exact k
 · exact absurd e (n _)
theorem oY.ext {H H' : Hp} {a : Addr} {o : HO} (hk : ∀ b o, H b = some o → H' b = some o) (k : oY H a o) : oY H' a o := by
 rcases k with k | ⟨ps, ps', e, k⟩
 · exact .inl (hk _ _ k)
 · exact .inr ⟨ps, ps', e, hk _ _ k⟩
theorem oY.upd {H : Hp} {a p : Addr} {o x : HO} (n : a ≠ p) (k : oY H a o) : oY (upd H p x) a o := by
 unfold oY
 rw [upd_ne n]
 exact k
theorem oY.trans {H H' : Hp} {a : Addr} {o : HO} (k : oY H a o) (f : ∀ o2, H a = some o2 → oY H' a o2) : oY H' a o := by
 rcases k with k | ⟨ps, ps', e, k⟩
 · exact f o k
 · rcases f _ k with q | ⟨_, ps2, _, q⟩
   · exact .inr ⟨ps, ps', e, q⟩
   · exact .inr ⟨ps, ps2, e, q⟩
structure Rel (K : PySem.W.Frag) (T : Tb) (B : Bs) (w : Wd) (σ : St) (H : Hp) (fr : Fr) (h : Hh) : Prop where
 le : B.w0.le w
 nF : ∀ a, w.F a ≠ none → B.w0.F a ≠ none ∨ B.H0 a = none ∨ ∃ vs, B.H0 a = some (.tup vs)
 nI : ∀ a ∈ w.I, a ∈ B.w0.I ∨ B.H0 a = none
 keep : ∀ a o, B.H0 a = some o → a ∉ B.w0.I → oY H a o
 prot : ∀ q ∈ B.P, H q.1 = some q.2 ∧ w.F q.1 = none ∧ q.1 ∉ w.I
 sub : ∀ a o, w.F a = some o → H a = some o
 len : w.I.length = h.length
 nd : w.I.Nodup
 dis : ∀ a ∈ w.I, w.F a = none
 cel : ∀ (n : Nat) a c, w.I[n]? = some a → h[n]? = some c → Bc K T w H a c
 fl : fr.length = σ.length
 sl : ∀ (i : Nat) s d, σ[i]? = some s → fr[i]? = some d → Dy K T B w H s d
 sep : ∀ i j p, i ≠ j → uV σ fr i p → uV σ fr j p → False
 me : ∀ x d, B.me = some x → fr[0]? = some (some d) → d.own = true → σ[0]? = some (some (.ref x))
 pt : ∀ q ∈ B.P, (∀ vs, q.2 ≠ .tup vs) ∧ ∀ ps, q.2 ≠ .tbl ps
 tb : ∀ q ∈ T.tabs, TabW w H q.1 q.2
 tf : ∀ q ∈ T.tabs, w.F q.1 = none
theorem XH {w w' : Wd} {H : Hp} {P p : Addr} {s : Str} {o : HO} (t : TabW w H P s) (eI : w'.I = w.I) (hm : p ∈ w.I) (hp : ∀ ps, H p ≠ some (.tbl ps)) : TabW w' (upd H p o) P s := by
 obtain ⟨ps, e1, e2, e3⟩ := t
 refine ⟨ps, by rw [upd_ne (fun z => hp ps (by rw [← z]; exact e1))]; exact e1, e2, fun pos cv hc => ?_⟩
 obtain ⟨c, q1, q2, q3⟩ := e3 pos cv hc
 exact ⟨c, q1, by rw [upd_ne (fun z => q3 (by rw [z]; exact hm))]; exact q2, by rw [eI]; exact q3⟩
theorem BZ {K : PySem.W.Frag} {T : Tb} {w : Wd} {H : Hp} {p : Addr} {o : HO} {d : D} (e : H p = some o) (r : mX K T w o d) : (∀ ps, H p ≠ some (.tbl ps)) ∧ ∀ c s, H p ≠ some (LamX.CodeO c s) := by
 refine ⟨fun ps z => ?_, fun c s z => ?_⟩
 · rw [e] at z
   cases z
   cases r
 · rw [e] at z
   have z := Option.some.inj z
   unfold LamX.CodeO at z
   subst z
   cases r
theorem Z0 {K : PySem.W.Frag} {T : Tb} {w : Wd} {H : Hp} {P p : Addr} {s : Str} {o o' : HO} {d : D} (t : TabW w H P s) (e : H p = some o) (r : mX K T w o d) : TabW w (upd H p o') P s := by
 obtain ⟨ps, e1, e2, e3⟩ := t
 have n := BZ e r
 refine ⟨ps, by rw [upd_ne (fun z => n.1 ps (by rw [← z]; exact e1))]; exact e1, e2, fun pos cv hc => ?_⟩
 obtain ⟨c, q1, q2, q3⟩ := e3 pos cv hc
 exact ⟨c, q1, by rw [upd_ne (fun z => n.2 c s (by rw [← z]; exact q2))]; exact q2, q3⟩
theorem Z3 {w w' : Wd} {H H' : Hp} {P : Addr} {s : Str} (t : TabW w H P s) (eI : w'.I = w.I) (hk : ∀ b o, H b = some o → H' b = some o) : TabW w' H' P s := by
 obtain ⟨ps, e1, e2, e3⟩ := t
 refine ⟨ps, hk _ _ e1, e2, fun pos cv hc => ?_⟩
 obtain ⟨c, q1, q2, q3⟩ := e3 pos cv hc
 exact ⟨c, q1, hk _ _ q2, by rw [eI]; exact q3⟩
theorem XJ {w w' : Wd} {H : Hp} {P p : Addr} {s : Str} (t : TabW w H P s) (eI : w'.I = w.I ++ [p]) (n : ∀ c s, H p ≠ some (LamX.CodeO c s)) : TabW w' H P s := by
 obtain ⟨ps, e1, e2, e3⟩ := t
 refine ⟨ps, e1, e2, fun pos cv hc => ?_⟩
 obtain ⟨c, q1, q2, q3⟩ := e3 pos cv hc
 refine ⟨c, q1, q2, fun z => ?_⟩
 rw [eI] at z
 rcases List.mem_append.mp z with z | z
 · exact q3 z
 · rw [List.mem_singleton.mp z] at q2
   exact n _ _ q2
theorem Z4 {K : PySem.W.Frag} {T : Tb} {w : Wd} {H : Hp} {a : Addr} {o : HO} {d : D} (e : H a = some o) (r : rQ K T w a o d) : ∀ ps, H a ≠ some (.tbl ps) := fun ps z => by
 rw [e] at z
 cases z
 cases r
section
variable {K : PySem.W.Frag} {T : Tb} {B : Bs} {w w' : Wd} {σ : St} {H H' : Hp} {fr : Fr} {h : Hh}
theorem Rel.nP (R : Rel K T B w σ H fr h) {p : Addr} (np : H p = none) : w.F p = none ∧ p ∉ w.I ∧ (∀ q ∈ B.P, q.1 ≠ p) := by
 refine ⟨?_, fun hm => ?_, fun q hq e => ?_⟩
 · cases e : w.F p with
   | none => rfl
   | some o =>
     have := R.sub p o e
     rw [np] at this
     cases this
 · obtain ⟨n, hn, e⟩ := List.getElem_of_mem hm
   have hl : n < h.length := by rw [← R.len]; exact hn
   obtain ⟨o, q, _⟩ := R.cel n p h[n] (by rw [ahi hn, e]) (ahi hl)
   rw [np] at q
   cases q
 · have z := (R.prot q hq).1
   rw [e, np] at z
   cases z
theorem Rel.iSome (R : Rel K T B w σ H fr h) {a : Addr} (hm : a ∈ w.I) : H a ≠ none := fun np => (R.nP np).2.1 hm
theorem Bc.keep {a : Addr} {c : D} (x : w.le w') (e : H' a = H a) (z : Bc K T w H a c) : Bc K T w' H' a c := by
 obtain ⟨o, q, r⟩ := z
 exact ⟨o, by rw [e]; exact q, r.mono x⟩
theorem Rel.grow (R : Rel K T B w σ H fr h) (x : w.le w') (eI : w'.I = w.I) (hk : ∀ a o, H a = some o → H' a = some o) (hF : ∀ a o, w'.F a = some o → H' a = some o)
 (hn : ∀ a, w'.F a ≠ none → w.F a ≠ none ∨ H a = none) (he : ∀ a, H a = none → B.H0 a = none ∨ True) : Rel K T B w' σ H' fr h where
 le := Wd.le_trans R.le x
 nF := fun a ha => by
  rcases hn a ha with q | q
  · exact R.nF a q
  · right
    left
    cases e : B.H0 a with
    | none => rfl
    | some o =>
      by_cases hm : a ∈ B.w0.I
      · exact absurd q (R.iSome (Wd.le_mem R.le hm))
      · exact absurd q (R.keep a o e hm).ne
 nI := fun a ha => R.nI a (by rw [← eI]; exact ha)
 keep := fun a o e hm => (R.keep a o e hm).ext hk
 prot := fun q hq => by
  obtain ⟨h1, h2, h3⟩ := R.prot q hq
  refine ⟨hk _ _ h1, ?_, by rw [eI]; exact h3⟩
  cases e : w'.F q.1 with
  | none => rfl
  | some o =>
    rcases hn q.1 (by rw [e]; simp) with z | z
    · exact absurd h2 z
    · rw [h1] at z
      cases z
 sub := hF
 len := by rw [eI]; exact R.len
 nd := by rw [eI]; exact R.nd
 dis := fun a ha => by
  have hm : a ∈ w.I := by rw [← eI]; exact ha
  cases e : w'.F a with
  | none => rfl
  | some o =>
    rcases hn a (by rw [e]; simp) with z | z
    · exact absurd (R.dis a hm) z
    · exact absurd z (R.iSome hm)
 cel := fun n a c e1 e2 => by
  have e1' : w.I[n]? = some a := by rw [← eI]; exact e1
  have z := R.cel n a c e1' e2
  refine Bc.keep x ?_ z
  have hs := R.iSome (ahq e1')
  cases q : H a with
  | none => exact absurd q hs
  | some o => exact hk a o q
 fl := R.fl
 sl := fun i s d e1 e2 => by
  have z := R.sl i s d e1 e2
  cases z with
  | none => exact .none
  | val r => exact .val (r.mono x)
  | own o e r =>
    refine .own ⟨?_, by rw [eI]; exact o.i, o.e, o.p⟩ (hk _ _ e) (r.mono x)
    cases q : w'.F _ with
    | none => rfl
    | some u =>
      rcases hn _ (by rw [q]; simp) with z | z
      · exact absurd o.f z
      · rw [e] at z
        cases z
 sep := R.sep
 me := R.me
 pt := R.pt
 tb := fun q hq => Z3 (R.tb q hq) eI hk
 tf := fun q hq => by
  obtain ⟨ps, e1, _⟩ := R.tb q hq
  cases e : w'.F q.1 with
  | none => rfl
  | some o =>
    rcases hn q.1 (by rw [e]; simp) with z | z
    · exact absurd (R.tf q hq) z
    · rw [e1] at z
      cases z
def Wd.add (w : Wd) (p : Addr) (o : HO) : Wd := ⟨upd w.F p o, w.I⟩
theorem Wd.le_add {p : Addr} {o : HO} (e : w.F p = none) : w.le (w.add p o) :=
 ⟨fun a u h => by
  show upd w.F p o a = some u
  rw [upd_ne (ne_of_none h e)]
  exact h, [], by simp [Wd.add]⟩
theorem Rel.laid (R : Rel K T B w σ H fr h) {p : Addr} {o : HO} (np : H p = none) : Rel K T B (w.add p o) σ (upd H p o) fr h := by
 refine R.grow (Wd.le_add (R.nP np).1) rfl (fun a u e => ?_) (fun a u e => ?_) (fun a e => ?_) (fun _ _ => .inr trivial)
 · rw [upd_ne (ne_of_none e np)]
   exact e
 · have e' : upd w.F p o a = some u := e
   by_cases ha : a = p
   · subst ha
     rw [upd_same] at e' ⊢
     exact e'
   · rw [upd_ne ha] at e' ⊢
     exact R.sub a u e'
 · have e' : upd w.F p o a ≠ none := e
   by_cases ha : a = p
   · subst ha
     exact .inr np
   · rw [upd_ne ha] at e'
     exact .inl e'
theorem Rel.temp (R : Rel K T B w σ H fr h) {p : Addr} {o : HO} (np : H p = none) : Rel K T B w σ (upd H p o) fr h :=
 R.grow (Wd.le_refl w) rfl (fun a u e => by rw [upd_ne (ne_of_none e np)]; exact e) (fun a u e => by rw [upd_ne (ne_of_none (R.sub a u e) np)]; exact R.sub a u e) (fun a e => .inl e) (fun _ _ => .inr trivial)
theorem Rel.own_new (R : Rel K T B w σ H fr h) {p : Addr} (np : H p = none) : Own B w p := by
 obtain ⟨h1, h2, h3⟩ := R.nP np
 refine ⟨h1, h2, ?_, h3⟩
 cases e : B.H0 p with
 | none => rfl
 | some o =>
   by_cases hm : p ∈ B.w0.I
   · exact absurd np (R.iSome (Wd.le_mem R.le hm))
   · exact absurd np (R.keep p o e hm).ne
def uW (σ : St) (fr : Fr) (p : Addr) : Prop := ∀ i, ¬ uV σ fr i p
theorem Rel.loose_new (R : Rel K T B w σ H fr h) {p : Addr} (np : H p = none) : uW σ fr p := fun i ⟨e1, d, e2, od⟩ => by
 have z := R.sl i _ _ e1 e2
 cases z with
 | val r => exact rA od r
 | own o e r =>
   rw [np] at e
   cases e
theorem Rel.freeze (R : Rel K T B w σ H fr h) {p : Addr} {o : HO} (O : Own B w p) (l : uW σ fr p) (e : H p = some o) (nt : ∀ ps, o ≠ .tbl ps := by intro ps z; cases z) : Rel K T B (w.add p o) σ H fr h where
 le := Wd.le_trans R.le (Wd.le_add O.f)
 nF := fun a ha => by
  have e' : upd w.F p o a ≠ none := ha
  by_cases hp : a = p
  · subst hp
    exact .inr (.inl O.e)
  · rw [upd_ne hp] at e'
    exact R.nF a e'
 nI := R.nI
 keep := R.keep
 prot := fun q hq => by
  obtain ⟨h1, h2, h3⟩ := R.prot q hq
  refine ⟨h1, ?_, h3⟩
  show upd w.F p o q.1 = none
  rw [upd_ne (O.p q hq)]
  exact h2
 sub := fun a u ha => by
  have e' : upd w.F p o a = some u := ha
  by_cases hp : a = p
  · subst hp
    rw [upd_same] at e'
    rw [← e']
    exact e
  · rw [upd_ne hp] at e'
    exact R.sub a u e'
 len := R.len
 nd := R.nd
 dis := fun a ha => by
  show upd w.F p o a = none
  have hne : a ≠ p := fun z => O.i (by rw [← z]; exact ha)
  rw [upd_ne hne]
  exact R.dis a ha
 cel := fun n a c e1 e2 => Bc.keep (Wd.le_add O.f) rfl (R.cel n a c e1 e2)
 fl := R.fl
 sl := fun i s d e1 e2 => by
  have z := R.sl i s d e1 e2
  cases z with
  | none => exact .none
  | val r => exact .val (r.mono (Wd.le_add O.f))
  | @own q _ _ o' e' r =>
    refine .own ⟨?_, o'.i, o'.e, o'.p⟩ e' (r.mono (Wd.le_add O.f))
    show upd w.F p o q = none
    have hne : q ≠ p := fun z => l i ⟨by rw [← z]; exact e1, _, e2, r.own⟩
    rw [upd_ne hne]
    exact o'.f
 sep := R.sep
 me := R.me
 pt := R.pt
 tb := R.tb
 tf := fun q hq => by
  obtain ⟨ps, e1, _⟩ := R.tb q hq
  show upd w.F p o q.1 = none
  rw [upd_ne fun z => nt ps (by rw [z, e] at e1; exact Option.some.inj e1)]
  exact R.tf q hq
theorem Gi {σ : St} {fr : Fr} {i j : Nat} {s : Option V} {d : Option D} {p : Addr} (hi : i ≠ j) (o : uV (σ.set j s) (fr.set j d) i p) : uV σ fr i p := by
 obtain ⟨e1, dd, e2, od⟩ := o
 rw [ahs (Ne.symm hi)] at e1 e2
 exact ⟨e1, dd, e2, od⟩
theorem Rel.set_slot (R : Rel K T B w σ H fr h) {i : Nat} {s : Option V} {d : Option D} (r : Dy K T B w H s d) (hp : ∀ p d', s = some (.ref p) → d = some d' → d'.own = true → uW σ fr p) (hm : i = 0 → ∀ d', d = some d' → d'.own = false) : Rel K T B w (σ.set i s) H (fr.set i d) h :=
 { R with
   me := fun x d' bx e od => by
    by_cases hi : i = 0
    · subst hi
      have l2 : 0 < fr.length := by
       have := (List.getElem?_eq_some_iff.mp e).1
       rwa [ahv] at this
      rw [ahp l2] at e
      rw [hm rfl d' (Option.some.inj e)] at od
      cases od
    · rw [ahs hi] at e ⊢
      exact R.me x d' bx e od
   fl := by rw [ahv, ahv]; exact R.fl
   sl := fun j s' d' e1 e2 => by
    by_cases hj : i = j
    · subst hj
      have l1 : i < σ.length := by
       have := (List.getElem?_eq_some_iff.mp e1).1
       rwa [ahv] at this
      rw [ahp l1] at e1
      rw [ahp (by rw [R.fl]; exact l1)] at e2
      cases e1
      cases e2
      exact r
    · rw [ahs hj] at e1 e2
      exact R.sl j s' d' e1 e2
   sep := fun a b p hab o1 o2 => by
    have key : ∀ a b, a ≠ b → a = i → uV (σ.set i s) (fr.set i d) a p → uV (σ.set i s) (fr.set i d) b p → False := fun a b hab ha o1 o2 => by
     subst ha
     have o2' := Gi (Ne.symm hab) o2
     obtain ⟨e1, dd, e2, od⟩ := o1
     have l1 : a < σ.length := by
      have := (List.getElem?_eq_some_iff.mp e1).1
      rwa [ahv] at this
     rw [ahp l1] at e1
     rw [ahp (by rw [R.fl]; exact l1)] at e2
     cases e1
     cases e2
     exact hp p dd rfl rfl od b o2'
    by_cases ha : a = i
    · exact key a b hab ha o1 o2
    · by_cases hb : b = i
      · exact key b a (Ne.symm hab) hb o2 o1
      · exact R.sep a b p hab (Gi ha o1) (Gi hb o2) }
theorem Rel.drop_slot (R : Rel K T B w σ H fr h) (i : Nat) : Rel K T B w σ H (fr.set i none) h :=
 { R with
   me := fun x d' bx e od => by
    by_cases hi : i = 0
    · subst hi
      have l2 : 0 < fr.length := by
       have := (List.getElem?_eq_some_iff.mp e).1
       rwa [ahv] at this
      rw [ahp l2] at e
      cases e
    · rw [ahs hi] at e
      exact R.me x d' bx e od
   fl := by rw [ahv]; exact R.fl
   sl := fun j s' d' e1 e2 => by
    by_cases hj : i = j
    · subst hj
      have l2 : i < fr.length := by
       have := (List.getElem?_eq_some_iff.mp e2).1
       rwa [ahv] at this
      rw [ahp l2] at e2
      cases e2
      exact .none
    · rw [ahs hj] at e2
      exact R.sl j s' d' e1 e2
   sep := fun a b p hab o1 o2 => by
    have key : ∀ a, uV σ (fr.set i none) a p → uV σ fr a p := fun a o => by
     obtain ⟨e1, dd, e2, od⟩ := o
     by_cases ha : i = a
     · subst ha
       have l2 : i < fr.length := by
        have := (List.getElem?_eq_some_iff.mp e2).1
        rwa [ahv] at this
       rw [ahp l2] at e2
       cases e2
     · rw [ahs ha] at e2
       exact ⟨e1, dd, e2, od⟩
    exact R.sep a b p hab (key a o1) (key b o2) }
theorem Rel.freeze_slot (R : Rel K T B w σ H fr h) {i : Nat} {d : D} (e : fr[i]? = some (some d)) (od : d.own = true) :
 ∃ p o, σ[i]? = some (some (.ref p)) ∧ H p = some o ∧ mX K T w o d ∧ w.F p = none ∧ Rel K T B (w.add p o) σ H (fr.set i (some d.fz)) h := by
 have l2 : i < fr.length := (List.getElem?_eq_some_iff.mp e).1
 have l1 : i < σ.length := by rw [← R.fl]; exact l2
 have e1 : σ[i]? = some σ[i] := ahi l1
 have z := R.sl i _ _ e1 e
 generalize hs : σ[i] = s at z e1
 cases z with
 | val r => exact (rA od r).elim
 | @own p o _ O eH r =>
   refine ⟨p, o, e1, eH, r, O.f, ?_⟩
   have R1 := R.drop_slot i
   have lo : uW σ (fr.set i none) p := fun j q => by
    obtain ⟨q1, dq, q2, oq⟩ := q
    by_cases hj : i = j
    · subst hj
      rw [ahp l2] at q2
      cases q2
    · rw [ahs hj] at q2
      exact R.sep i j p hj ⟨e1, d, e, od⟩ ⟨q1, dq, q2, oq⟩
   have R2 := R1.freeze O lo eH (fun ps z => (BZ eH r).1 ps (by rw [eH, z]))
   have R3 := R2.set_slot (i := i) (s := some (.ref p)) (d := some d.fz) (.val (r.fz (Wd.le_add O.f) (by show upd w.F p _ p = _; rw [upd_same]))) (fun _ _ _ q oq => by
    cases q
    rw [Wb] at oq
    cases oq) (fun _ d' q => by
    cases q
    exact Wb d)
   rw [List.set_set] at R3
   have es : σ.set i (some (.ref p)) = σ := by
    have := List.set_getElem_self (as := σ) (h := l1)
    rw [hs] at this
    exact this
   rw [es] at R3
   exact R3
theorem Qq {α : Type} : ∀ {l : List α} {i j : Nat} {a : α}, l.Nodup → l[i]? = some a → l[j]? = some a → i = j
 | [], _, _, _, _, e, _ => by simp at e
 | b :: l, 0, 0, _, _, _, _ => rfl
 | b :: l, 0, j + 1, a, n, e1, e2 => by
   simp at e1 e2
   subst e1
   exact absurd (ahq e2) (List.nodup_cons.mp n).1
 | b :: l, i + 1, 0, a, n, e1, e2 => by
   simp at e1 e2
   subst e2
   exact absurd (ahq e1) (List.nodup_cons.mp n).1
 | b :: l, i + 1, j + 1, a, n, e1, e2 => by
   simp at e1 e2
   rw [Qq (List.nodup_cons.mp n).2 e1 e2]
theorem Rel.change_slot (R : Rel K T B w σ H fr h) {i : Nat} {d d' : D} {p : Addr} {o o' : HO} (e1 : σ[i]? = some (some (.ref p))) (e : fr[i]? = some (some d)) (O : Own B w p) (eH : H p = some o) (od : d.own = true) (r' : mX K T w o' d') :
 Rel K T B w σ (upd H p o') (fr.set i (some d')) h := by
 have l2 : i < fr.length := (List.getElem?_eq_some_iff.mp e).1
 have l1 : i < σ.length := by rw [← R.fl]; exact l2
 have tbx : ∀ q ∈ T.tabs, TabW w (upd H p o') q.1 q.2 := fun q hq => by
  have z := R.sl i _ _ e1 e
  cases z with
  | val r => rw [wM r] at od; cases od
  | own O' eH' rr => exact Z0 (R.tb q hq) eH' rr
 refine { R with tb := tbx, keep := fun a u ha hm => ?_, prot := fun q hq => ?_, sub := fun a u ha => ?_, cel := fun n a c q1 q2 => ?_, fl := by rw [ahv]; exact R.fl, sl := fun j s dj q1 q2 => ?_, sep := fun a b q hab o1 o2 => ?_, me := fun x dx bx q od' => ?_ }
 · exact (R.keep a u ha hm).upd fun z => by rw [z, O.e] at ha; cases ha
 · obtain ⟨h1, h2, h3⟩ := R.prot q hq
   exact ⟨by rw [upd_ne (O.p q hq)]; exact h1, h2, h3⟩
 · rw [upd_ne (fun z => by rw [z, O.f] at ha; cases ha)]
   exact R.sub a u ha
 · refine Bc.keep (Wd.le_refl w) ?_ (R.cel n a c q1 q2)
   exact upd_ne (fun z => O.i (z ▸ ahq q1))
 · by_cases hj : i = j
   · subst hj
     rw [e1] at q1
     rw [ahp l2] at q2
     cases q1
     cases q2
     exact .own O upd_same r'
   · rw [ahs hj] at q2
     have z := R.sl j s dj q1 q2
     cases z with
     | none => exact .none
     | val r => exact .val r
     | @own q u _ O' eH' rr =>
       refine .own O' ?_ rr
       have hne : q ≠ p := fun z => R.sep i j p hj ⟨e1, d, e, od⟩ ⟨by rw [← z]; exact q1, _, q2, rr.own⟩
       rw [upd_ne hne]
       exact eH'
 · have key : ∀ a, uV σ (fr.set i (some d')) a q → uV σ fr a q := fun a ⟨q1, dq, q2, oq⟩ => by
    by_cases ha : i = a
    · subst ha
      exact ⟨q1, d, e, od⟩
    · rw [ahs ha] at q2
      exact ⟨q1, dq, q2, oq⟩
   exact R.sep a b q hab (key a o1) (key b o2)
 · by_cases hi : i = 0
   · subst hi
     exact R.me x d bx e od
   · rw [ahs hi] at q
     exact R.me x dx bx q od'
theorem Rel.change_cell (R : Rel K T B w σ H fr h) {n : Nat} {a : Addr} {d d' : D} {o' : HO} (e1 : w.I[n]? = some a) (e : h[n]? = some d) (r' : rQ K T w a o' d') : Rel K T B w σ (upd H a o') fr (h.set n d') := by
 have hm : a ∈ w.I := ahq e1
 have lh : n < h.length := (List.getElem?_eq_some_iff.mp e).1
 refine { R with tb := fun q hq => XH (R.tb q hq) rfl hm (by obtain ⟨o1, z1, z2⟩ := R.cel n a d e1 e; exact Z4 z1 z2), keep := fun b u hb hn => ?_, prot := fun q hq => ?_, sub := fun b u hb => ?_, len := by rw [ahv]; exact R.len, cel := fun k b c q1 q2 => ?_, sl := fun j s dj q1 q2 => ?_ }
 · exact (R.keep b u hb hn).upd fun z => by
    subst z
    rcases R.nI _ hm with q | q
    · exact hn q
    · rw [q] at hb
      cases hb
 · obtain ⟨h1, h2, h3⟩ := R.prot q hq
   have hne : q.1 ≠ a := fun z => h3 (by rw [z]; exact hm)
   exact ⟨by rw [upd_ne hne]; exact h1, h2, h3⟩
 · rw [upd_ne (fun z => by rw [z, R.dis a hm] at hb; cases hb)]
   exact R.sub b u hb
 · by_cases hk : n = k
   · subst hk
     rw [e1] at q1
     rw [ahp lh] at q2
     cases q1
     cases q2
     exact ⟨o', upd_same, r'⟩
   · rw [ahs hk] at q2
     refine Bc.keep (Wd.le_refl w) (upd_ne fun z => ?_) (R.cel k b c q1 q2)
     subst z
     exact hk (Qq R.nd e1 q1)
 · have z := R.sl j s dj q1 q2
   cases z with
   | none => exact .none
   | val r => exact .val r
   | @own q u _ O' eH' rr =>
     have hne : q ≠ a := fun z => O'.i (by rw [z]; exact hm)
     exact .own O' (by rw [upd_ne hne]; exact eH') rr
theorem Rel.to_cellO (R : Rel K T B w σ H fr h) {p : Addr} {o : HO} {d : D} (O : Own B w p) (lo : uW σ fr p) (e : H p = some o) (r : rQ K T w p o d) (nx : ∀ c s, o ≠ LamX.CodeO c s := by intro c s z; unfold LamX.CodeO at z; cases z) : Rel K T B ⟨w.F, w.I ++ [p]⟩ σ H fr (h ++ [d]) := by
 have le : w.le ⟨w.F, w.I ++ [p]⟩ := ⟨fun _ _ q => q, [p], rfl⟩
 refine ⟨Wd.le_trans R.le le, R.nF, fun a ha => ?_, R.keep, fun q hq => ?_, R.sub, ?_, ?_, fun a ha => ?_, fun n a c q1 q2 => ?_, R.fl, fun j s dj q1 q2 => ?_, R.sep, R.me, R.pt, fun q hq => XJ (R.tb q hq) rfl (fun c s z => nx c s (by rw [e] at z; exact Option.some.inj z)), R.tf⟩
 · rcases List.mem_append.mp ha with q | q
   · exact R.nI a q
   · rw [ahw] at q
     subst q
     exact .inr O.e
 · obtain ⟨h1, h2, h3⟩ := R.prot q hq
   refine ⟨h1, h2, fun z => ?_⟩
   rcases List.mem_append.mp z with y | y
   · exact h3 y
   · rw [ahw] at y
     exact O.p q hq y
 · show (w.I ++ [p]).length = (h ++ [d]).length
   rw [ahj, ahj, R.len]
   rfl
 · show (w.I ++ [p]).Nodup
   rw [List.nodup_append]
   exact ⟨R.nd, by simp, fun a ha b hb => by
    rw [ahw] at hb
    subst hb
    exact fun z => O.i (z ▸ ha)⟩
 · rcases List.mem_append.mp ha with q | q
   · exact R.dis a q
   · rw [ahw] at q
     subst q
     exact O.f
 · have q1' : (w.I ++ [p])[n]? = some a := q1
   by_cases hn : n < w.I.length
   · rw [ahB hn] at q1'
     rw [ahB (by rw [← R.len]; exact hn)] at q2
     exact Bc.keep le rfl (R.cel n a c q1' q2)
   · have hn' : w.I.length ≤ n := Nat.le_of_not_lt hn
     rw [ahz hn'] at q1'
     rw [ahz (by rw [← R.len]; exact hn'), ← R.len] at q2
     cases k : n - w.I.length with
     | zero =>
       rw [k] at q1' q2
       cases q1'
       cases q2
       exact ⟨o, e, r.mono le⟩
     | succ m =>
       rw [k] at q1'
       simp at q1'
 · have z := R.sl j s dj q1 q2
   cases z with
   | none => exact .none
   | val r => exact .val (r.mono le)
   | @own q u _ O' eH' rr =>
     refine .own ⟨O'.f, fun z => ?_, O'.e, O'.p⟩ eH' (rr.mono le)
     rcases List.mem_append.mp z with y | y
     · exact O'.i y
     · rw [ahw] at y
       exact lo j ⟨by rw [← y]; exact q1, _, q2, rr.own⟩
theorem Rel.to_cell (R : Rel K T B w σ H fr h) {p : Addr} {o : HO} {d : D} (O : Own B w p) (lo : uW σ fr p) (e : H p = some o) (r : mX K T w o d) : Rel K T B ⟨w.F, w.I ++ [p]⟩ σ H fr (h ++ [d]) := R.to_cellO O lo e (r.cel p) fun c s z => (BZ e r).2 c s (by rw [e, z])
theorem Gj {i : Nat} {p : Addr} : ¬ uV [] [] i p := fun ⟨q, _⟩ => by simp at q
theorem Rel.enter (R : Rel K T B w σ H fr h) : Rel K T (Bs.of w H) w [] H [] h where
 le := Wd.le_refl w
 nF := fun _ q => .inl q
 nI := fun _ q => .inl q
 keep := fun _ _ q _ => .inl q
 prot := fun _ q => by cases q
 sub := R.sub
 len := R.len
 nd := R.nd
 dis := R.dis
 cel := R.cel
 fl := rfl
 sl := fun _ _ _ q => by simp at q
 sep := fun _ _ _ _ q => (Gj q).elim
 me := fun _ _ _ q _ => by simp at q
 pt := fun _ q => by cases q
 tb := R.tb
 tf := R.tf
theorem Rel.unframe (R : Rel K T B w σ H fr h) : Rel K T B w [] H [] h where
 le := R.le
 nF := R.nF
 nI := R.nI
 keep := R.keep
 prot := R.prot
 sub := R.sub
 len := R.len
 nd := R.nd
 dis := R.dis
 cel := R.cel
 fl := rfl
 sl := fun _ _ _ q => by simp at q
 sep := fun _ _ _ _ q => (Gj q).elim
 me := fun _ _ _ q _ => by simp at q
 pt := R.pt
 tb := R.tb
 tf := R.tf
theorem rQ.no_tup {a : Addr} {vs : List V} {c : D} (z : rQ K T w a (.tup vs) c) : False := by cases z
theorem Rel.no_cell (R : Rel K T B w σ H fr h) {a : Addr} {vs : List V} (e : H a = some (.tup vs)) (hm : a ∈ w.I) : False := by
 obtain ⟨n, hn, q⟩ := List.getElem_of_mem hm
 have hl : n < h.length := by rw [← R.len]; exact hn
 obtain ⟨o, q1, r⟩ := R.cel n a h[n] (by rw [ahi hn, q]) (ahi hl)
 rw [e] at q1
 cases q1
 exact r.no_tup
theorem Rel.old_tup (R : Rel K T B w σ H fr h) {a : Addr} {vs : List V} (q : H a = some (.tup vs)) : B.w0.F a ≠ none ∨ B.H0 a = none ∨ ∃ vs, B.H0 a = some (.tup vs) := by
 right
 cases e : B.H0 a with
 | none => exact .inl rfl
 | some o =>
   by_cases hm : a ∈ B.w0.I
   · exact (R.no_cell q (Wd.le_mem R.le hm)).elim
   · rcases R.keep a o e hm with this | ⟨_, _, _, this⟩
     · rw [q] at this
       exact .inr ⟨vs, this.symm⟩
     · rw [q] at this
       cases this
theorem Rel.back {h' : Hh} (R : Rel K T B w σ H fr h) (x : w.le w') (C : Rel K T (Bs.of w H) w' [] H' [] h') : Rel K T B w' σ H' fr h' where
 le := Wd.le_trans R.le x
 nF := fun a ha => by
  rcases C.nF a ha with q | q | ⟨vs, q⟩
  · exact R.nF a q
  · exact .inr (.inl (R.own_new q).e)
  · exact R.old_tup q
 nI := fun a ha => by
  rcases C.nI a ha with q | q
  · exact R.nI a q
  · exact .inr (R.own_new q).e
 keep := fun a o e hm => (R.keep a o e hm).trans fun o2 e2 => C.keep a o2 e2 fun z => by
  rcases R.nI a z with q | q
  · exact hm q
  · rw [q] at e
    cases e
 prot := fun q hq => by
  obtain ⟨h1, h2, h3⟩ := R.prot q hq
  refine ⟨(C.keep _ _ h1 h3).eq (R.pt q hq).2, ?_, fun z => ?_⟩
  · cases e : w'.F q.1 with
    | none => rfl
    | some o =>
      rcases C.nF q.1 (by rw [e]; simp) with y | y | ⟨vs, y⟩
      · exact absurd h2 y
      · have y' : H q.1 = none := y
        rw [h1] at y'
        cases y'
      · have y' : H q.1 = some (.tup vs) := y
        rw [h1] at y'
        exact absurd (Option.some.inj y') ((R.pt q hq).1 vs)
  · rcases C.nI _ z with y | y
    · exact h3 y
    · have y' : H q.1 = none := y
      rw [h1] at y'
      cases y'
 sub := C.sub
 len := C.len
 nd := C.nd
 dis := C.dis
 cel := C.cel
 fl := R.fl
 sl := fun i s d e1 e2 => by
  have z := R.sl i s d e1 e2
  cases z with
  | none => exact .none
  | val r => exact .val (r.mono x)
  | @own p o _ O eH rr =>
    refine .own ⟨?_, fun z => ?_, O.e, O.p⟩ ((C.keep _ _ eH O.i).eq (fun ps z => (BZ eH rr).1 ps (by rw [eH, z]))) (rr.mono x)
    · cases e : w'.F p with
      | none => rfl
      | some o =>
        rcases C.nF p (by rw [e]; simp) with y | y | ⟨vs, y⟩
        · exact absurd O.f y
        · have y' : H p = none := y
          rw [eH] at y'
          cases y'
        · have y' : H p = some (.tup vs) := y
          rw [eH] at y'
          cases y'
          cases rr
    · rcases C.nI _ z with y | y
      · exact O.i y
      · have y' : H p = none := y
        rw [eH] at y'
        cases y'
 sep := R.sep
 me := R.me
 pt := R.pt
 tb := C.tb
 tf := C.tf
end
end Pk
namespace Pk
open PySem PySem.Spec L2
structure aW where
 c : Nat
 fs : List D
inductive R (α : Type) where
 | ok (a : α) (fr : Fr) (h : Hh)
 | exc (x : aW) (fr : Fr) (h : Hh)
 | err
abbrev M (α : Type) := Fr → Hh → R α
def M.ret {α : Type} (a : α) : M α := fun fr h => .ok a fr h
def M.bind {α β : Type} (m : M α) (f : α → M β) : M β := fun fr h => match m fr h with
 | .ok a fr h => f a fr h
 | .exc x fr h => .exc x fr h
 | .err => .err
def M.opt {α : Type} (o : Option α) : M α := fun fr h => match o with
 | some a => .ok a fr h
 | none => .err
@[simp] theorem M.bind_ret {α β : Type} (a : α) (f : α → M β) : (M.ret a).bind f = f a := rfl
@[simp] theorem M.ret_ap {α : Type} (a : α) (fr : Fr) (h : Hh) : M.ret a fr h = .ok a fr h := rfl
@[simp] theorem M.opt_some {α : Type} (a : α) (fr : Fr) (h : Hh) : M.opt (some a) fr h = .ok a fr h := rfl
@[simp] theorem M.opt_none {α : Type} (fr : Fr) (h : Hh) : M.opt (none : Option α) fr h = .err := rfl
theorem M.bind_ok {α β : Type} {m : M α} {f : α → M β} {fr fr1 : Fr} {h h1 : Hh} {a : α} (e : m fr h = .ok a fr1 h1) : m.bind f fr h = f a fr1 h1 := by
 unfold M.bind
 rw [e]
theorem M.bind_exc {α β : Type} {m : M α} {f : α → M β} {fr fr1 : Fr} {h h1 : Hh} {x : aW} (e : m fr h = .exc x fr1 h1) : m.bind f fr h = .exc x fr1 h1 := by
 unfold M.bind
 rw [e]
theorem M.bind_err {α β : Type} {m : M α} {f : α → M β} {fr : Fr} {h : Hh} (e : m fr h = .err) : m.bind f fr h = .err := by
 unfold M.bind
 rw [e]
def JB (K : PySem.W.Frag) (T : Tb) (w : Wd) (x : aW) (cls : Value) (dd : Option Addr) : Prop :=
 cls = .ref (T.cad x.c) ∧ ((x.fs = [] ∧ dd = none) ∨ ∃ d vs, dd = some d ∧ w.F d = some (.xd ((T.fld x.c).zip vs)) ∧ az K T w vs x.fs)
section
variable {α β : Type}
def aJ (K : PySem.W.Frag) (T : Tb) (B : Bs) (W : WX) (VR : Wd → Hp → Fr → β → α → Prop) (w : Wd) (σ : L2.St) (r : R α) (Q : β → Hp → Prop) : Prop :=
 match r with
 | .ok d fr h => ∀ w' H' v, w.le w' → Rel K T B w' σ H' fr h → VR w' H' fr v d → Q v H'
 | .exc x fr h => ∀ w' H' cls dd, w.le w' → Rel K T B w' σ H' fr h → JB K T w' x cls dd → W cls dd σ H'
 | .err => False
end
abbrev iw (β α : Type) := PySem.W.Frag → Tb → Bs → L2.St → Wd → Hp → Fr → β → α → Prop
def vV : iw V D := fun K T _ _ w _ _ v d => bD K T w v d
def vE : iw V D := fun K T B σ w H fr v d => bD K T w v d ∨ ∃ p o, v = .ref p ∧ Own B w p ∧ uW σ fr p ∧ H p = some o ∧ mX K T w o d
def vO : iw V D := fun K T _ _ w H _ v d => bD K T w v d ∨ ∃ p o, v = .ref p ∧ H p = some o ∧ mX K T w o d
def vB : iw Bool Bool := fun _ _ _ _ _ _ _ b c => b = c
def vA : iw (List V) (List D) := fun K T _ _ w _ _ vs ds => az K T w vs ds
def gj {α β : Type} (run : L2.St → Hp → (β → Hp → Prop) → Prop) (K : PySem.W.Frag) (T : Tb) (W : WX) (VR : iw β α) (m : M α) : Prop :=
 ∀ (B : Bs) (w : Wd) (σ : L2.St) (H : Hp) (fr : Fr) (h : Hh) (Q : β → Hp → Prop), Rel K T B w σ H fr h → aJ K T B W (VR K T B σ) w σ (m fr h) Q → run σ H Q
section
variable {α β γ δ : Type} {K : PySem.W.Frag} {T : Tb} {B : Bs} {W : WX} {w w' : Wd} {σ : L2.St} {H : Hp}
theorem aJ.le {VR : Wd → Hp → Fr → β → α → Prop} {r : R α} {Q : β → Hp → Prop} (x : w.le w') (p : aJ K T B W VR w σ r Q) : aJ K T B W VR w' σ r Q := by
 cases r with
 | ok d fr h => exact fun w2 H2 v y => p w2 H2 v (Wd.le_trans x y)
 | exc e fr h => exact fun w2 H2 c d y => p w2 H2 c d (Wd.le_trans x y)
 | err => exact p
theorem aJ.imp {VR : Wd → Hp → Fr → β → α → Prop} {r : R α} {Q Q' : β → Hp → Prop} (p : aJ K T B W VR w σ r Q) (hq : ∀ v H, Q v H → Q' v H) : aJ K T B W VR w σ r Q' := by
 cases r with
 | ok d fr h => exact fun w2 H2 v y r z => hq _ _ (p w2 H2 v y r z)
 | exc e fr h => exact p
 | err => exact p
theorem aJ.bind {VR : Wd → Hp → Fr → γ → δ → Prop} {VR' : Wd → Hp → Fr → β → α → Prop} {m : M δ} {f : δ → M α} {fr : Fr} {h : Hh} {Q : β → Hp → Prop} {Q' : γ → Hp → Prop} (p : aJ K T B W VR' w σ (m.bind f fr h) Q)
 (k : ∀ d fr1 h1 w1 H1 v, m fr h = .ok d fr1 h1 → w.le w1 → Rel K T B w1 σ H1 fr1 h1 → VR w1 H1 fr1 v d → aJ K T B W VR' w1 σ (f d fr1 h1) Q → Q' v H1) : aJ K T B W VR w σ (m fr h) Q' := by
 cases e : m fr h with
 | ok d fr1 h1 =>
   rw [M.bind_ok e] at p
   exact fun w1 H1 v x r z => k d fr1 h1 w1 H1 v e x r z (p.le x)
 | exc y fr1 h1 =>
   rw [M.bind_exc e] at p
   exact p
 | err =>
   rw [M.bind_err e] at p
   exact p
theorem gj.bind {run1 : L2.St → Hp → (γ → Hp → Prop) → Prop} {run2 : γ → L2.St → Hp → (β → Hp → Prop) → Prop} {VR1 : iw γ δ} {VR : iw β α} {m : M δ} {f : δ → M α} (s1 : gj run1 K T W VR1 m)
 (s2 : ∀ B w σ H fr h d v Q, Rel K T B w σ H fr h → VR1 K T B σ w H fr v d → aJ K T B W (VR K T B σ) w σ (f d fr h) Q → run2 v σ H Q) :
 gj (fun σ H Q => run1 σ H fun v H1 => run2 v σ H1 Q) K T W VR (m.bind f) := fun B w σ H fr h Q r p =>
 s1 B w σ H fr h _ r (p.bind fun d fr1 h1 w1 H1 v e x r1 z p1 => s2 B w1 σ H1 fr1 h1 d v Q r1 z p1)
end
structure WE (X : Cx) (e : Expr) (σ : L2.St) (H : Hp) (Q : VK) : Prop where
 go : ∀ pins s, Inv X pins σ H s → wpAny (model X.prog X.w) X.A (eval e X.env) (EP X pins σ Q) X.xe s
structure WT (X : Cx) (e : Expr) (σ : L2.St) (H : Hp) (Q : Bool → Hp → Prop) : Prop where
 go : ∀ pins s, Inv X pins σ H s → wpAny (model X.prog X.w) X.A (isTrue e X.env (eval e X.env)) (TP X pins σ Q) X.xe s
structure WW (X : Cx) (e : Expr) (σ : L2.St) (H : Hp) (Q : Bool → Hp → Prop) : Prop where
 go : ∀ whole pins s, Inv X pins σ H s → wpAny (model X.prog X.w) X.A (isTrue e X.env whole) (TP X pins σ Q) X.xe s
structure WA (X : Cx) (es : List Expr) (σ : L2.St) (H : Hp) (Q : List V → Hp → Prop) : Prop where
 go : ∀ pos pins s, Inv X pins σ H s → wpAny (model X.prog X.w) X.A (spliced (backTo pos (starEach es X.env))) (AP X pins σ Q) X.xe s
structure WS (X : Cx) (st : Stmt) (D : Ends) (σ : L2.St) (H : Hp) : Prop where
 go : ∀ pins s, Inv X pins σ H s → wpAny (model X.prog X.w) X.A (exec st X.env) (SP X pins D) X.xe s
structure Jm (X : Cx) (st : List Stmt) (D : Ends) (σ : L2.St) (H : Hp) : Prop where
 go : ∀ pins s, Inv X pins σ H s → wpAny (model X.prog X.w) X.A (execs st X.env) (SP X pins D) X.xe s
def rM (X : Cx) (f : Value → Value → Sem Value) : R2 := fun x y H Q => ∀ pins s σ v u, Inv X pins σ H s → RelV x v → RelV y u → wpAny (model X.prog X.w) X.A (f v u) (EP X pins σ Q) X.xe s
def uM (X : Cx) (f : Value → Sem Value) : V → Hp → VK → Prop := fun x H Q => ∀ pins s σ v, Inv X pins σ H s → RelV x v → wpAny (model X.prog X.w) X.A (f v) (EP X pins σ Q) X.xe s
def cM (X : Cx) (f : Value) : List V → Hp → VK → Prop := fun xs H Q => ∀ pins s σ us, Inv X pins σ H s → Vals xs us → wpAny (model X.prog X.w) X.A (call f us) (EP X pins σ Q) X.xe s
section
variable {X : Cx} {e : Expr} {es : List Expr} {st : Stmt} {sts : List Stmt}
theorem aV : PE X e (WE X e) := ⟨fun pins s σ H Q I h => h.go pins s I⟩
theorem xT : PT X e (WT X e) := ⟨fun pins s σ H Q I h => h.go pins s I⟩
theorem Qs : PW X e (WW X e) := ⟨fun wh pins s σ H Q I h => h.go wh pins s I⟩
theorem vK : PA X es (WA X es) := ⟨fun pos pins s σ H Q I h => h.go pos pins s I⟩
theorem Qt : PS X st (WS X st) := ⟨fun pins s σ H D I h => h.go pins s I⟩
theorem ug : PSs X sts (Jm X sts) := ⟨fun pins s σ H D I h => h.go pins s I⟩
theorem cY {t : TE} (p : PE X e t) {σ : L2.St} {H : Hp} {Q : VK} (h : t σ H Q) : WE X e σ H Q := ⟨fun pins s I => p.run pins s σ H Q I h⟩
theorem HW {t : TT} (p : PT X e t) {σ : L2.St} {H : Hp} {Q : Bool → Hp → Prop} (h : t σ H Q) : WT X e σ H Q := ⟨fun pins s I => p.run pins s σ H Q I h⟩
theorem Qc {t : TT} (p : PW X e t) {σ : L2.St} {H : Hp} {Q : Bool → Hp → Prop} (h : t σ H Q) : WW X e σ H Q := ⟨fun wh pins s I => p.run wh pins s σ H Q I h⟩
theorem Kr {t : TA} (p : PA X es t) {σ : L2.St} {H : Hp} {Q : List V → Hp → Prop} (h : t σ H Q) : WA X es σ H Q := ⟨fun pos pins s I => p.run pos pins s σ H Q I h⟩
theorem oZ {t : TS} (p : PS X st t) {D : Ends} {σ : L2.St} {H : Hp} (h : t D σ H) : WS X st D σ H := ⟨fun pins s I => p.run pins s σ H D I h⟩
theorem HY {t : TS} (p : PSs X sts t) {D : Ends} {σ : L2.St} {H : Hp} (h : t D σ H) : Jm X sts D σ H := ⟨fun pins s I => p.run pins s σ H D I h⟩
theorem xU {f : Value → Value → Sem Value} : OpR X f (rM X f) := fun pins s σ H x y v u Q I rx ry h => h pins s σ v u I rx ry
theorem nU {f : Value → Value → Sem Value} {r : R2} (o : OpR X f r) {x y : V} {H : Hp} {Q : VK} (h : r x y H Q) : rM X f x y H Q := fun pins s σ v u I rx ry => o pins s σ H x y v u Q I rx ry h
theorem abk {f : Value → Sem Value} : UnR X f (uM X f) := fun pins s σ H x v Q I rx h => h pins s σ v I rx
theorem adb {f : Value → Sem Value} {r : V → Hp → VK → Prop} (o : UnR X f r) {x : V} {H : Hp} {Q : VK} (h : r x H Q) : uM X f x H Q := fun pins s σ v I rx => o pins s σ H x v Q I rx h
theorem yQ {f : Value} : CallR X f (cM X f) := fun pins s σ H xs us Q I r h => h pins s σ us I r
theorem gR {f : Value} {r : List V → Hp → VK → Prop} (o : CallR X f r) {xs : List V} {H : Hp} {Q : VK} (h : r xs H Q) : cM X f xs H Q := fun pins s σ us I rr => o pins s σ H xs us Q I rr h
end
abbrev mH (X : Cx) (T : Tb) (W : WX) (e : Expr) (m : M D) : Prop := gj (WE X e) X.K T W vE m
abbrev aR (X : Cx) (T : Tb) (W : WX) (e : Expr) (m : M D) : Prop := gj (WE X e) X.K T W vV m
abbrev vL (X : Cx) (T : Tb) (W : WX) (e : Expr) (m : M Bool) : Prop := gj (WT X e) X.K T W vB m
abbrev JC (X : Cx) (T : Tb) (W : WX) (e : Expr) (m : M Bool) : Prop := gj (WW X e) X.K T W vB m
abbrev yR (X : Cx) (T : Tb) (W : WX) (es : List Expr) (m : M (List D)) : Prop := gj (WA X es) X.K T W vA m
abbrev Gk (X : Cx) (T : Tb) (W : WX) (e : Expr) (m : M D) : Prop := gj (WE X e) X.K T W vO m
def aM (m : M D) : M D := m.bind fun d => M.ret d.fz
def mC (d : D) : M D := M.ret d
def aa (i : Nat) : M D := fun fr h => match fr[i]? with
 | some (some d) => if d.own then .ok d.fz (fr.set i (some d.fz)) h else .ok d fr h
 | _ => .err
def su (i : Nat) : M D := fun fr h => match fr[i]? with
 | some (some d) => .ok d (fr.set i none) h
 | _ => .err
def aG (i : Nat) : M D := fun fr h => match fr[i]? with
 | some (some d) => .ok d fr h
 | _ => .err
section
variable {X : Cx} {T : Tb} {W : WX} {e a b c : Expr} {es : List Expr} {m ma mb mc : M D} {pos : Pos}
theorem Mv {α β : Type} {run : L2.St → Hp → (β → Hp → Prop) → Prop} {K : PySem.W.Frag} {VR VR' : iw β α} {m : M α} (s : gj run K T W VR m) (h : ∀ B σ w H fr v d, VR K T B σ w H fr v d → VR' K T B σ w H fr v d) : gj run K T W VR' m :=
 fun B w σ H fr hh Q r p => s B w σ H fr hh Q r (by
  cases q : m fr hh with
  | ok d fr1 h1 =>
    rw [q] at p
    exact fun w1 H1 v x r1 z => p w1 H1 v x r1 (h _ _ _ _ _ _ _ z)
  | exc y fr1 h1 => rw [q] at p; exact p
  | err => rw [q] at p; exact p)
theorem cR (s : aR X T W e m) : mH X T W e m := Mv s fun _ _ _ _ _ _ _ z => .inl z
theorem dR (s : aR X T W e m) : Gk X T W e m := Mv s fun _ _ _ _ _ _ _ z => .inl z
theorem dY (s : mH X T W e m) : Gk X T W e m := Mv s fun _ _ _ _ _ _ _ z => by
 rcases z with z | ⟨p, o, e1, _, _, e2, r⟩
 · exact .inl z
 · exact .inr ⟨p, o, e1, e2, r⟩
theorem bz (s : mH X T W e m) : aR X T W e (aM m) := fun B w σ H fr h Q r p => s B w σ H fr h Q r (by
 refine aJ.bind (VR := vE X.K T B σ) p fun d fr1 h1 w1 H1 v eq x r1 z p1 => ?_
 rcases z with z | ⟨p', o, rfl, O, lo, eH, rd⟩
 · rw [ZZ z] at p1
   exact p1 w1 H1 v (Wd.le_refl _) r1 z
 · exact p1 (w1.add p' o) H1 (.ref p') (Wd.le_add O.f) (r1.freeze O lo eH (fun ps z => (BZ eH rd).1 ps (by rw [eH, z]))) (rd.fz (Wd.le_add O.f) (by show upd w1.F p' _ p' = _; rw [upd_same])))
theorem aA {i : Int} {j : Nat} : aR X T W (.Constant (.int i) j pos) (mC (.int i)) := fun B w σ H fr h Q r p => cY pe_int (p w H _ (Wd.le_refl _) r (.int i))
theorem gh {i : Bool} {j : Nat} : aR X T W (.Constant (.bool i) j pos) (mC (.bl i)) := fun B w σ H fr h Q r p => cY pe_bl (p w H _ (Wd.le_refl _) r (.bl i))
theorem Ca {j : Nat} : aR X T W (.Constant .none j pos) (mC .non) := fun B w σ H fr h Q r p => cY pe_non (p w H _ (Wd.le_refl _) r .non)
theorem vM {i : Str} {j : Nat} : aR X T W (.Constant (.str i) j pos) (mC (.str i)) := fun B w σ H fr h Q r p => cY pe_str (p w H _ (Wd.le_refl _) r (.str i))
theorem gq {K : PySem.W.Frag} {T : Tb} {B : Bs} {w : Wd} {σ : L2.St} {H : Hp} {fr : Fr} {h : Hh} (R : Rel K T B w σ H fr h) {i : Nat} {d : D} (e : fr[i]? = some (some d)) :
 ∃ v, σ[i]? = some (some v) ∧ Dy K T B w H (some v) (some d) := by
 have l2 : i < fr.length := (List.getElem?_eq_some_iff.mp e).1
 have l1 : i < σ.length := by rw [← R.fl]; exact l2
 have e1 : σ[i]? = some σ[i] := ahi l1
 have z := R.sl i _ _ e1 e
 generalize σ[i] = s at z e1
 cases z with
 | val r => exact ⟨_, e1, .val r⟩
 | own O eH r => exact ⟨_, e1, .own O eH r⟩
theorem ao (i : Nat) {x : Str} (hN : X.N[i]? = some x := by rfl) (hv : Vis X.env.scope x := by first | exact Or.inl rfl | exact Or.inr (Or.inl rfl) | exact Or.inr (Or.inr rfl)) (hd : (x == ("__debug__" : Str)) = false := by decide)
 (hcd : (x == ("__classdict__" : Str)) = false := by decide) : aR X T W (.Name x pos) (aa i) := fun B w σ H fr h Q r p => cY (pe_var hN hv hd hcd) (by
 unfold aa at p
 split at p
 · rename_i d e1
   cases od : d.own with
   | true =>
     rw [od] at p
     obtain ⟨q, o, e2, eH, rd, nf, r1⟩ := r.freeze_slot e1 od
     exact ⟨_, e2, p (w.add q o) H (.ref q) (Wd.le_add nf) r1 (rd.fz (Wd.le_add nf) (by show upd w.F q _ q = _; rw [upd_same]))⟩
   | false =>
     rw [od] at p
     obtain ⟨v, e2, z⟩ := gq r e1
     cases z with
     | val rd => exact ⟨v, e2, p w H v (Wd.le_refl _) r rd⟩
     | own O eH rd =>
       rw [rd.own] at od
       cases od
 · exact p.elim)
theorem bA (i : Nat) {x : Str} (hN : X.N[i]? = some x := by rfl) (hv : Vis X.env.scope x := by first | exact Or.inl rfl | exact Or.inr (Or.inl rfl) | exact Or.inr (Or.inr rfl)) (hd : (x == ("__debug__" : Str)) = false := by decide)
 (hcd : (x == ("__classdict__" : Str)) = false := by decide) : Gk X T W (.Name x pos) (aG i) := fun B w σ H fr h Q r p => cY (pe_var hN hv hd hcd) (by
 unfold aG at p
 split at p
 · rename_i d e1
   obtain ⟨v, e2, z⟩ := gq r e1
   refine ⟨v, e2, p w H v (Wd.le_refl _) r ?_⟩
   cases z with
   | val rd => exact .inl rd
   | own O eH rd => exact .inr ⟨_, _, rfl, eH, rd⟩
 · exact p.elim)
theorem Mw (i : Nat) {x : Str} (hN : X.N[i]? = some x := by rfl) (hv : Vis X.env.scope x := by first | exact Or.inl rfl | exact Or.inr (Or.inl rfl) | exact Or.inr (Or.inr rfl)) (hd : (x == ("__debug__" : Str)) = false := by decide)
 (hcd : (x == ("__classdict__" : Str)) = false := by decide) : mH X T W (.Name x pos) (su i) := fun B w σ H fr h Q r p => cY (pe_var hN hv hd hcd) (by
 unfold su at p
 split at p
 · rename_i d e1
   obtain ⟨v, e2, z⟩ := gq r e1
   refine ⟨v, e2, p w H v (Wd.le_refl _) (r.drop_slot i) ?_⟩
   cases z with
   | val rd => exact .inl rd
   | @own q o _ O eH rd =>
     refine .inr ⟨q, o, rfl, O, fun j z => ?_, eH, rd⟩
     obtain ⟨q1, dq, q2, oq⟩ := z
     by_cases hj : i = j
     · subst hj
       rw [ahp (List.getElem?_eq_some_iff.mp e1).1] at q2
       cases q2
     · rw [ahs hj] at q2
       exact r.sep i j q hj ⟨e2, d, e1, rd.own⟩ ⟨q1, dq, q2, oq⟩
 · exact p.elim)
def big : Nat := 100000
theorem lK {n : Nat} (h : n ≤ big) : n ≤ sizeLine := Nat.le_trans h (by decide)
def D.der (h : Hh) : D → D
 | .ref n => (h[n]?).getD .non
 | d => d
def D.its (h : Hh) (d : D) : Option (List D) := match d.der h with
 | .tup l => some l
 | .fl l => some l
 | .kl l => some l
 | .nl l => some l
 | .tp l => some l
 | _ => none
theorem yM {K : PySem.W.Frag} {T : Tb} {B : Bs} {w : Wd} {σ : L2.St} {H : Hp} {fr : Fr} {h : Hh} {v : V} {d : D} {ds : List D} (R : Rel K T B w σ H fr h) (z : vO K T B σ w H fr v d) (e : d.its h = some ds) :
 ∃ p vs, v = .ref p ∧ az K T w vs ds ∧ (SqL K H p vs ∨ SqT K H p vs) := by
 rcases z with z | ⟨p, o, rfl, eH, z⟩
 · cases z with
   | tup s r =>
     have e' : some _ = some ds := e
     cases e'
     exact ⟨_, _, rfl, r, .inr (eG R.sub s)⟩
   | fl s r =>
     have e' : some _ = some ds := e
     cases e'
     exact ⟨_, _, rfl, r, .inl (SqL.of (R.sub _ _ s))⟩
   | kl s r =>
     have e' : some _ = some ds := e
     cases e'
     exact ⟨_, _, rfl, r, .inl (jK R.sub s)⟩
   | @ref a n s =>
     have ln : n < h.length := by
      rw [← R.len]
      exact (List.getElem?_eq_some_iff.mp s).1
     obtain ⟨o, q, rr⟩ := R.cel n a h[n] s (ahi ln)
     have e0 : (h[n]?).getD .non = h[n] := by rw [ahi ln]; rfl
     unfold D.its D.der at e
     dsimp only at e
     rw [e0] at e
     generalize h[n] = c at rr e
     cases rr with
     | lst r =>
       have e' : some _ = some ds := e
       cases e'
       exact ⟨_, _, rfl, r, .inl (SqL.of q)⟩
     | obj r => cases e
     | dct _ r => cases e
     | dkt _ r => cases e
     | so0 _ => cases e
     | so1 _ _ => cases e
     | hid0 => cases e
     | hid1 => cases e
   | non => cases e
   | bl _ => cases e
   | int _ => cases e
   | str _ => cases e
   | obj _ _ => cases e
   | cls _ => cases e
   | ty _ => cases e
   | sl _ => cases e
   | tp s r =>
     have e' : some _ = some ds := e
     cases e'
     exact ⟨_, _, rfl, r, .inr (.inl (.inl (R.sub _ _ s)))⟩
 · cases z with
   | lst r =>
     have e' : some _ = some ds := e
     cases e'
     exact ⟨_, _, rfl, r, .inl (SqL.of eH)⟩
   | obj r => cases e
def aD {α : Type} (f : Hh → D → D → Option α) (ma mb : M D) : M α := ma.bind fun x => mb.bind fun y fr h => M.opt (f h x y) fr h
theorem Mx {α β : Type} {VR2 : iw V D} {VR : iw β α} {f : Hh → D → D → Option α} {r : V → V → Hp → (β → Hp → Prop) → Prop} (sa : aR X T W a ma) (sb : gj (WE X b) X.K T W VR2 mb)
 (hr : ∀ B w σ H fr h x y d e z Q, Rel X.K T B w σ H fr h → bD X.K T w x d → VR2 X.K T B σ w H fr y e → f h d e = some z → (∀ w' H' v, w.le w' → Rel X.K T B w' σ H' fr h → VR X.K T B σ w' H' fr v z → Q v H') → r x y H Q) :
 gj (fun σ H Q => WE X a σ H fun x H1 => WE X b σ H1 fun y H2 => r x y H2 Q) X.K T W VR (aD f ma mb) := fun B w σ H fr h Q r1 p =>
 sa B w σ H fr h _ r1 (aJ.bind (VR := vV X.K T B σ) p fun d fr1 h1 w1 H1 x e1 l1 r1 rx p1 => sb B w1 σ H1 fr1 h1 _ r1 (aJ.bind (VR := VR2 X.K T B σ) p1 fun e fr2 h2 w2 H2 y e2 l2 r2 ry p2 => by
  cases q : f h2 d e with
  | none => rw [q] at p2; exact p2.elim
  | some z =>
    rw [q] at p2
    exact hr B w2 σ H2 fr2 h2 x y d e z Q r2 (rx.mono l2) ry q p2))
end
end Pk
namespace Pk
open PySem PySem.Spec L2
structure Cq (X : Cx) (T : Tb) (W : WX) (k : Nat) : Prop where
 calm : X.calm = true
 nd : X.N.Nodup
 room : Room k X.A
 takes : Takes X W
 po : PassesOwn (model X.prog X.w) X.A X.env X.xe
theorem Cq.u {X : Cx} {T : Tb} {W : WX} {k : Nat} (C : Cq X T W k) : X.A.units + 65 < cLine := by
 have := C.room.un
 omega
section
variable {X : Cx} {T : Tb} {W : WX} {k : Nat} {e a b c : Expr} {es : List Expr} {m ma mb mc : M D} {pos : Pos}
mutual
def D.toP : D → Option PyData
 | .non => some .none
 | .bl b => some (.bool b)
 | .int i => some (.int i)
 | .str s => some (.str s)
 | .tup l => (D.toPs l).map .tuple
 | .fl l => (D.toPs l).map .list
 | .kl l => (D.toPs l).map .list
 | .nl l => (D.toPs l).map .list
 | .tp l => (D.toPs l).map .tuple
 | _ => none
def D.toPs : List D → Option (List PyData)
 | [] => some []
 | d :: ds => match D.toP d, D.toPs ds with
   | some p, some ps => some (p :: ps)
   | _, _ => none
end
section
variable {K : PySem.W.Frag} {w : Wd} {H : Hp}
mutual
theorem Dz (hs : ∀ a o, w.F a = some o → H a = some o) : ∀ {v : V} {d : D} {p : PyData}, bD K T w v d → d.toP = some p → Dp K H v p
 | _, _, _, .non, e => by cases e; exact .non
 | _, _, _, .bl b, e => by cases e; exact .bl b
 | _, _, _, .int i, e => by cases e; exact .int i
 | _, _, _, .str s, e => by cases e; exact .str s
 | _, _, _, .tup s r, e => by
   unfold D.toP at e
   obtain ⟨ps, e1, e2⟩ := Option.map_eq_some_iff.mp e
   subst e2
   exact .tup (eG hs s) (uG hs r e1)
 | _, _, _, .fl s r, e => by
   unfold D.toP at e
   obtain ⟨ps, e1, e2⟩ := Option.map_eq_some_iff.mp e
   subst e2
   exact .lst (SqL.of (hs _ _ s)) (uG hs r e1)
 | _, _, _, .kl s r, e => by
   unfold D.toP at e
   obtain ⟨ps, e1, e2⟩ := Option.map_eq_some_iff.mp e
   subst e2
   exact .lst (jK hs s) (uG hs r e1)
 | _, _, _, .obj _ _, e => by cases e
 | _, _, _, .ref _, e => by cases e
 | _, _, _, .cls _, e => by cases e
 | _, _, _, .ty _, e => by cases e
 | _, _, _, .sl _, e => by cases e
 | _, _, _, .tp s r, e => by
   unfold D.toP at e
   obtain ⟨ps, e1, e2⟩ := Option.map_eq_some_iff.mp e
   subst e2
   exact .tup (.inl (.inl (hs _ _ s))) (uG hs r e1)
theorem uG (hs : ∀ a o, w.F a = some o → H a = some o) : ∀ {vs : List V} {ds : List D} {ps : List PyData}, az K T w vs ds → D.toPs ds = some ps → DpAll K H vs ps
 | _, _, _, .nil, e => by cases e; exact .nil
 | _, _, _, @az.cons _ _ _ _ d _ ds h t, e => by
   unfold D.toPs at e
   cases e1 : d.toP with
   | none => rw [e1] at e; cases e
   | some p =>
     cases e2 : D.toPs ds with
     | none => rw [e1, e2] at e; cases e
     | some ps =>
       rw [e1, e2] at e
       cases e
       exact .cons (Dz hs h e1) (uG hs t e2)
end
theorem Ks {B : Bs} {σ : L2.St} {fr : Fr} {h : Hh} {v : V} {d : D} {p : PyData} (R : Rel K T B w σ H fr h) (z : vO K T B σ w H fr v d) (e : d.toP = some p) : Dp K H v p := by
 rcases z with z | ⟨q, o, rfl, eH, z⟩
 · exact Dz R.sub z e
 · cases z with
   | lst r =>
     unfold D.toP at e
     obtain ⟨ps, e1, e2⟩ := Option.map_eq_some_iff.mp e
     subst e2
     exact .lst (SqL.of eH) (uG R.sub r e1)
   | obj r => cases e
end
def bL (h : Hh) : D → D → Option D
 | .int i, .int j => some (.int (i + j))
 | .str a, .str b => if a.length + b.length ≤ big then some (.str (a ++ b)) else none
 | .tup a, .tup b => if a.length + b.length ≤ big then some (.tup (a ++ b)) else none
 | .fl a, .fl b => if a.length + b.length ≤ big then some (.nl (a ++ b)) else none
 | _, _ => none
theorem Qu {w : Wd} {K : PySem.W.Frag} {v : V} {ds : List D} (r : bD K T w v (.fl ds)) : ∃ a vs, v = .ref a ∧ w.F a = some (.lst vs) ∧ az K T w vs ds := by
 cases r with
 | fl s t => exact ⟨_, _, rfl, s, t⟩
theorem vC {w : Wd} {K : PySem.W.Frag} {v : V} {ds : List D} (r : bD K T w v (.tup ds)) : ∃ a vs, v = .ref a ∧ SqT K w.F a vs ∧ az K T w vs ds := by
 cases r with
 | tup s t => exact ⟨_, _, rfl, s, t⟩
theorem iy {w : Wd} {K : PySem.W.Frag} {v : V} {i : Int} (r : bD K T w v (.int i)) : v = .int i := by
 cases r
 rfl
theorem Gm {w : Wd} {K : PySem.W.Frag} {v : V} {i : Bool} (r : bD K T w v (.bl i)) : v = .bl i := by
 cases r
 rfl
theorem yN {w : Wd} {K : PySem.W.Frag} {v : V} {i : Str} (r : bD K T w v (.str i)) : v = .str i := by
 cases r
 rfl
theorem wN {K : PySem.W.Frag} {B : Bs} {w : Wd} {σ : L2.St} {H : Hp} {fr : Fr} {h : Hh} {p : Addr} {vs : List V} {ds : List D} {Q : V → Hp → Prop} (R : Rel K T B w σ H fr h) (r : az K T w vs ds) (np : H p = none)
 (q : ∀ w' H' v, w.le w' → Rel K T B w' σ H' fr h → bD K T w' v (.tup ds) → Q v H') : Q (.ref p) (upd H p (.tup vs)) :=
 q (w.add p (.tup vs)) _ _ (Wd.le_add (R.nP np).1) (R.laid np) (.tup (SqT.of (by show upd w.F p _ p = _; rw [upd_same])) (r.mono (Wd.le_add (R.nP np).1)))
theorem Ib {K : PySem.W.Frag} {B : Bs} {w : Wd} {σ : L2.St} {H : Hp} {fr : Fr} {h : Hh} {p : Addr} {vs : List V} {ds : List D} {Q : V → Hp → Prop} (R : Rel K T B w σ H fr h) (r : az K T w vs ds) (np : H p = none)
 (q : ∀ w' H' v, w.le w' → Rel K T B w' σ H' fr h → vE K T B σ w' H' fr v (.nl ds) → Q v H') : Q (.ref p) (upd H p (.lst vs)) :=
 q w _ _ (Wd.le_refl w) (R.temp np) (.inr ⟨p, _, rfl, R.own_new np, R.loose_new np, upd_same, .lst r⟩)
theorem ie (sa : aR X T W a ma) (sb : aR X T W b mb) : mH X T W (.BinOp a .Add b pos) (aD bL ma mb) := fun B w σ H fr h Q r1 p =>
 cY (pe_op xU aV aV) (Mx (VR := vE) sa sb (fun B w σ H fr h x y d e z Q R rx ry q k => by
  unfold bL at q
  split at q
  · cases q
    rw [iy rx, iy ry]
    exact nU op_add ⟨_, _, rfl, rfl, k w H _ (Wd.le_refl _) R (.inl (.int _))⟩
  · split at q
    · rename_i hl
      cases q
      rw [yN rx, yN ry]
      exact nU op_add_str ⟨_, _, rfl, rfl, lK hl, k w H _ (Wd.le_refl _) R (.inl (.str _))⟩
    · cases q
  · split at q
    · rename_i ds es hl
      cases q
      obtain ⟨p1, vs, rfl, s1, r1⟩ := vC rx
      obtain ⟨p2, us, rfl, s2, r2⟩ := vC ry
      refine nU op_catA ⟨p1, p2, vs, us, rfl, rfl, eG R.sub s1, eG R.sub s2, by rw [r1.length, r2.length]; exact lK hl, fun e0 => ?_, fun _ e0 => ?_, fun _ _ p np => ?_⟩
      · subst e0
        cases r1
        exact k w H _ (Wd.le_refl _) R (.inl ry)
      · subst e0
        cases r2
        rw [ahe] at k
        exact k w H _ (Wd.le_refl _) R (.inl rx)
      · exact wN R (r1.append r2) np fun w' H' v l R' r' => k w' H' v l R' (.inl r')
    · cases q
  · split at q
    · rename_i ds es hl
      cases q
      obtain ⟨p1, vs, rfl, s1, r1⟩ := Qu rx
      obtain ⟨p2, us, rfl, s2, r2⟩ := Qu ry
      refine nU op_cat ⟨p1, p2, vs, us, rfl, rfl, R.sub _ _ s1, R.sub _ _ s2, by rw [r1.length, r2.length]; exact lK hl, fun p np => ?_⟩
      exact Ib R (r1.append r2) np k
    · cases q
  · cases q) B w σ H fr h Q r1 p)
def dH (C : Int → Int → Bool) (g : Int → Int → Int) (_ : Hh) : D → D → Option D
 | .int i, .int j => if C i j then some (.int (g i j)) else none
 | _, _ => none
theorem yS {op : Operator} {P : Int → Int → Prop} {C : Int → Int → Bool} {g : Int → Int → Int} (o : OpR X (binaryOp op) (rI P fun i j => .int (g i j))) (hC : ∀ i j, C i j = true → P i j) (sa : aR X T W a ma) (sb : aR X T W b mb) :
 aR X T W (.BinOp a op b pos) (aD (dH C g) ma mb) := fun B w σ H fr h Q r1 p =>
 cY (pe_op xU aV aV) (Mx (VR := vV) sa sb (fun B w σ H fr h x y d e z Q R rx ry q k => by
  unfold dH at q
  split at q
  · split at q
    · rename_i hc
      cases q
      rw [iy rx, iy ry]
      exact nU o ⟨_, _, rfl, rfl, hC _ _ hc, k w H _ (Wd.le_refl _) R (.int _)⟩
    · cases q
  · cases q) B w σ H fr h Q r1 p)
def jF (_ _ : Int) : Bool := true
def Mz (i j : Int) : Bool := decide (i.natAbs.log2 + j.natAbs.log2 < 1000000)
def Vl (_ j : Int) : Bool := decide (0 < j)
def JD (_ j : Int) : Bool := decide (0 < j) && decide (j.natAbs.log2 < 9000)
def vP (i j : Int) : Bool := decide (0 ≤ j) && decide (j ≤ 1000000) && decide (i.natAbs < 2 ^ 64)
abbrev yU := dH jF (fun i j => i - j)
abbrev Vm := dH Mz (fun i j => i * j)
abbrev MF := dH Vl (fun i j => i % j)
abbrev XM := dH JD (fun i j => i / j)
abbrev yh := dH vP (fun i j => i ^ j.toNat)
theorem Z5 : OpR X (binaryOp .Sub) (rI (fun _ _ => True) fun i j => .int (i - j)) := fun pins s σ H x y v u Q I rx ry ⟨i, j, e1, e2, _, q⟩ => op_sub pins s σ H x y v u Q I rx ry ⟨i, j, e1, e2, q⟩
theorem uH (sa : aR X T W a ma) (sb : aR X T W b mb) : aR X T W (.BinOp a .Sub b pos) (aD yU ma mb) := yS Z5 (fun _ _ _ => trivial) sa sb
theorem Qv (sa : aR X T W a ma) (sb : aR X T W b mb) : aR X T W (.BinOp a .Mult b pos) (aD Vm ma mb) := yS op_mulW (fun i j h => by
 have h' : decide (i.natAbs.log2 + j.natAbs.log2 < 1000000) = true := h
 have h2 : i.natAbs.log2 + j.natAbs.log2 < 1000000 := of_decide_eq_true h'
 exact h2) sa sb
theorem Gn (sa : aR X T W a ma) (sb : aR X T W b mb) : aR X T W (.BinOp a .Mod b pos) (aD MF ma mb) := yS op_mod (fun _ j h => by
 have h' : decide (0 < j) = true := h
 exact of_decide_eq_true h') sa sb
theorem Wc (sa : aR X T W a ma) (sb : aR X T W b mb) : aR X T W (.BinOp a .FloorDiv b pos) (aD XM ma mb) := yS op_fdivW (fun _ _ h => by
 obtain ⟨h1, h2⟩ := Bool.and_eq_true_iff.mp h
 exact ⟨of_decide_eq_true h1, of_decide_eq_true h2⟩) sa sb
theorem yV (sa : aR X T W a ma) (sb : aR X T W b mb) : aR X T W (.BinOp a .Pow b pos) (aD yh ma mb) := yS op_pow (fun _ _ h => by
 obtain ⟨h1, h3⟩ := Bool.and_eq_true_iff.mp h
 obtain ⟨h1, h2⟩ := Bool.and_eq_true_iff.mp h1
 exact ⟨of_decide_eq_true h1, of_decide_eq_true h2, of_decide_eq_true h3⟩) sa sb
def sX : D → Option D
 | .int i => some (.int (-i))
 | _ => none
def aF {α : Type} (f : Hh → D → Option α) (ma : M D) : M α := ma.bind fun x fr h => M.opt (f h x) fr h
theorem Vn {α β : Type} {VR1 : iw V D} {VR : iw β α} {f : Hh → D → Option α} {r : V → Hp → (β → Hp → Prop) → Prop} (sa : gj (WE X a) X.K T W VR1 ma)
 (hr : ∀ B w σ H fr h x d z Q, Rel X.K T B w σ H fr h → VR1 X.K T B σ w H fr x d → f h d = some z → (∀ w' H' v, w.le w' → Rel X.K T B w' σ H' fr h → VR X.K T B σ w' H' fr v z → Q v H') → r x H Q) :
 gj (fun σ H Q => WE X a σ H fun x H1 => r x H1 Q) X.K T W VR (aF f ma) := fun B w σ H fr h Q r1 p =>
 sa B w σ H fr h _ r1 (aJ.bind (VR := VR1 X.K T B σ) p fun d fr1 h1 w1 H1 x e1 l1 r1 rx p1 => by
  cases q : f h1 d with
  | none => rw [q] at p1; exact p1.elim
  | some z =>
    rw [q] at p1
    exact hr B w1 σ H1 fr1 h1 x d z Q r1 rx q p1)
theorem Ce (sa : aR X T W a ma) : aR X T W (.UnaryOp .USub a pos) (aF (fun _ => sX) ma) := fun B w σ H fr h Q r1 p =>
 cY (pe_un abk aV) (Vn (VR := vV) sa (fun B w σ H fr h x d z Q R rx q k => by
  unfold sX at q
  split at q
  · cases q
    rw [iy rx]
    exact adb un_neg ⟨_, rfl, k w H _ (Wd.le_refl _) R (.int _)⟩
  · cases q) B w σ H fr h Q r1 p)
def mW (X : Cx) (T : Tb) (VR2 : iw V D) (op : CmpOp) (f : Hh → D → D → Option Bool) : Prop :=
 ∀ B w σ H fr h x y d e c Q, Rel X.K T B w σ H fr h → bD X.K T w x d → VR2 X.K T B σ w H fr y e → f h d e = some c → Q (.bl c) H → rM X (compareOp op) x y H Q
def cInt (p : Int → Int → Bool) (_ : Hh) : D → D → Option Bool
 | .int i, .int j => some (p i j)
 | _, _ => none
theorem Ie {op : CmpOp} {p : Int → Int → Bool} (o : OpR X (compareOp op) (rI0 fun i j => .bl (p i j))) : mW X T vV op (cInt p) := fun B w σ H fr h x y d e c Q R rx ry q k => by
 unfold cInt at q
 split at q
 · cases q
   rw [iy rx, iy ry]
   exact nU o ⟨_, _, rfl, rfl, k⟩
 · cases q
abbrev Jo := cInt fun i j => decide (i < j)
abbrev Gp := cInt fun i j => decide (i ≤ j)
abbrev TJ := cInt fun i j => decide (j < i)
abbrev cGe := cInt fun i j => decide (j ≤ i)
theorem cmp_lt : mW X T vV .Lt Jo := Ie op_lt
theorem cmp_le : mW X T vV .LtE Gp := Ie op_le
theorem cmp_gt : mW X T vV .Gt TJ := Ie op_gt
theorem cmp_ge : mW X T vV .GtE cGe := Ie op_ge
def fY (_ : Hh) (d e : D) : Option Bool := match d.toP, e.toP with
 | some p, some q => if SeqAt.shaped p && SeqAt.shaped q then some (PyData.eqv p q) else none
 | _, _ => none
def yW (h : Hh) (d e : D) : Option Bool := (fY h d e).map (!·)
theorem Qw {h : Hh} {d e : D} {c : Bool} (q : fY h d e = some c) : ∃ p p', d.toP = some p ∧ e.toP = some p' ∧ SeqAt.shaped p = true ∧ SeqAt.shaped p' = true ∧ c = PyData.eqv p p' := by
 unfold fY at q
 split at q
 · rename_i p p' e1 e2
   split at q
   · rename_i hs
     obtain ⟨h1, h2⟩ := Bool.and_eq_true_iff.mp hs
     cases q
     exact ⟨p, p', e1, e2, h1, h2, rfl⟩
   · cases q
 · cases q
theorem cmp_eq (C : Cq X T W k) : mW X T vO .Eq fY := fun B w σ H fr h x y d e c Q R rx ry q kk => by
 obtain ⟨p, p', e1, e2, s1, s2, rfl⟩ := Qw q
 exact nU (op_eqD (by have := C.u; omega)) ⟨p, p', Dz R.sub rx e1, Ks R ry e2, s1, s2, kk⟩
theorem Cg (C : Cq X T W k) : mW X T vO .NotEq yW := fun B w σ H fr h x y d e c Q R rx ry q kk => by
 obtain ⟨c', q', rfl⟩ := Option.map_eq_some_iff.mp q
 obtain ⟨p, p', e1, e2, s1, s2, rfl⟩ := Qw q'
 exact nU (op_neD (by have := C.u; omega)) ⟨p, p', Dz R.sub rx e1, Ks R ry e2, s1, s2, kk⟩
def D.flat : D → Bool
 | .non => true
 | .bl _ => true
 | .int _ => true
 | .str _ => true
 | _ => false
def D.eqf : D → D → Bool
 | .non, .non => true
 | .bl a, .bl b => a == b
 | .bl a, .int b => (if a then 1 else 0) == b
 | .int a, .bl b => a == (if b then 1 else 0)
 | .int a, .int b => a == b
 | .str a, .str b => a == b
 | _, _ => false
theorem Qx {K : PySem.W.Frag} {w : Wd} {v : V} {d : D} (r : bD K T w v d) (f : d.flat = true) : flatV v = true := by
 cases r <;> first | rfl | cases f
theorem Ou {K : PySem.W.Frag} {w : Wd} : ∀ {vs : List V} {ds : List D}, az K T w vs ds → ds.all D.flat = true → vs.all flatV = true
 | _, _, .nil, _ => rfl
 | _, _, .cons h t, f => by
   rw [List.all_cons, Bool.and_eq_true] at f ⊢
   exact ⟨Qx h f.1, Ou t f.2⟩
theorem Z6 {K : PySem.W.Frag} {w : Wd} {v u : V} {d e : D} (r : bD K T w v d) (s : bD K T w u e) : eqV v u = D.eqf d e := by
 cases r <;> cases s <;> rfl
theorem TQ {K : PySem.W.Frag} {w : Wd} {u : V} {e : D} (s : bD K T w u e) : ∀ {vs : List V} {ds : List D}, az K T w vs ds → inV u vs = ds.any fun z => D.eqf z e
 | _, _, .nil => rfl
 | _, _, @az.cons _ _ _ v d vs ds h t => by
   have q := TQ s t
   unfold inV at q ⊢
   rw [List.any_cons, List.any_cons, Z6 h s, q]
def cIn (h : Hh) (x y : D) : Option Bool := match x, y with
 | .str c, .str z => if c.length = 1 then some (decide (c.cps.toList.headD 0 ∈ z.cps.toList)) else some (!(Builtin.Str.occurrences z c 0 z.length 1).isEmpty)
 | x, y => match y.its h with
   | some l => if x.flat && l.all D.flat then some (l.any fun z => D.eqf z x) else none
   | none => none
def Qy (h : Hh) (x y : D) : Option Bool := (cIn h x y).map (!·)
theorem str1 {c : Str} (h : c.length = 1) : c = ⟨#[c.cps.toList.headD 0]⟩ := by
 obtain ⟨⟨l⟩⟩ := c
 have h' : l.length = 1 := h
 match l, h' with
 | [x], _ => rfl
theorem TV : mW X T vO .NotIn Qy := fun B w σ H fr h x y d e c Q R rx ry q kk => by
 obtain ⟨c', q', rfl⟩ := Option.map_eq_some_iff.mp q
 clear q
 have q := q'
 clear q'
 unfold cIn at q
 split at q
 · rename_i cc z
   have ey : y = .str z := by
    rcases ry with ry | ⟨_, _, _, _, r⟩
    · exact yN ry
    · cases r
   rw [yN rx, ey]
   split at q
   · rename_i h1
     cases q
     exact nU op_notIn_sign ⟨_, z, by rw [← str1 h1], rfl, kk⟩
   · cases q
     exact nU op_notin_str ⟨cc, z, rfl, rfl, kk⟩
 · split at q
   · rename_i l el
     split at q
     · rename_i hf
       obtain ⟨f1, f2⟩ := Bool.and_eq_true_iff.mp hf
       cases q
       obtain ⟨p, vs, rfl, rl, sq⟩ := yM R ry el
       refine nU op_notIn_seq ⟨p, vs, rfl, sq, Qx rx f1, Ou rl f2, ?_⟩
       rw [if_pos rfl, TQ rx rl]
       exact kk
     · cases q
   · cases q
def D.isNon : D → Bool
 | .non => true
 | _ => false
theorem Ov {K : PySem.W.Frag} {w : Wd} {v : V} {d : D} (r : bD K T w v d) : decide (v = .non) = d.isNon := by
 cases r <;> rfl
def TY (_ : Hh) (d e : D) : Option Bool := if e.isNon then some d.isNon else none
def Vo (_ : Hh) (d e : D) : Option Bool := if e.isNon then some (!d.isNon) else none
theorem We {K : PySem.W.Frag} {w : Wd} {v : V} {d : D} (r : bD K T w v d) (h : d.isNon = true) : v = .non := by
 cases r <;> first | rfl | cases h
theorem abm : mW X T vV .Is TY := fun B w σ H fr h x y d e c Q R rx ry q kk => by
 unfold TY at q
 split at q
 · rename_i he
   cases q
   refine nU op_isN ⟨We ry he, ?_⟩
   rw [Ov rx]
   exact kk
 · cases q
theorem Z7 : mW X T vV .IsNot Vo := fun B w σ H fr h x y d e c Q R rx ry q kk => by
 unfold Vo at q
 split at q
 · rename_i he
   cases q
   refine nU op_notN ⟨We ry he, ?_⟩
   rw [Ov rx]
   exact kk
 · cases q
theorem dZ {op : CmpOp} {VR2 : iw V D} {f : Hh → D → D → Option Bool} (o : mW X T VR2 op f) (sa : aR X T W a ma) (sb : gj (WE X b) X.K T W VR2 mb) (hm : behindInMarks op b = false := by with_unfolding_all rfl) :
 vL X T W (.Compare a [op] [b] pos) (aD f ma mb) := fun B w σ H fr h Q r1 p =>
 HW (pt_cmpR xU aV aV hm) (Mx (VR := vB) (r := fun x y H Q => rM X (compareOp op) x y H fun z H' => ∃ k, z = .bl k ∧ Q k H') sa sb (fun B w σ H fr h x y d e z Q R rx ry q k =>
  o B w σ H fr h x y d e z _ R rx ry q ⟨z, rfl, k w H z (Wd.le_refl _) R rfl⟩) B w σ H fr h Q r1 p)
def Ow (m : M Bool) : M D := m.bind fun b => M.ret (.bl b)
theorem jx {op : CmpOp} {VR2 : iw V D} {f : Hh → D → D → Option Bool} (o : mW X T VR2 op f) (sa : aR X T W a ma) (sb : gj (WE X b) X.K T W VR2 mb) (hm : behindInMarks op b = false := by with_unfolding_all rfl) :
 aR X T W (.Compare a [op] [b] pos) (aD (fun h x y => (f h x y).map .bl) ma mb) := fun B w σ H fr h Q r1 p =>
 cY (pe_cmpR xU aV aV hm) (Mx (VR := vV) sa sb (fun B w σ H fr h x y d e z Q R rx ry q k => by
  obtain ⟨c, q', rfl⟩ := Option.map_eq_some_iff.mp q
  exact o B w σ H fr h x y d e c _ R rx ry q' (k w H _ (Wd.le_refl _) R (.bl c))) B w σ H fr h Q r1 p)
def ig (f g : Hh → D → D → Option Bool) (ma mb mc : M D) : M Bool := ma.bind fun x => mb.bind fun y fr h => match f h x y with
 | some true => (mc.bind fun z fr h => M.opt (g h y z) fr h) fr h
 | some false => .ok false fr h
 | none => .err
theorem DG {op op' : CmpOp} {f g : Hh → D → D → Option Bool} (o : mW X T vV op f) (o' : mW X T vV op' g) (sa : aR X T W a ma) (sb : aR X T W b mb) (sc : aR X T W c mc) (hm : lastMarks [op, op'] [b, c] = false := by with_unfolding_all rfl) :
 vL X T W (.Compare a [op, op'] [b, c] pos) (ig f g ma mb mc) := fun B w σ H fr h Q r1 p =>
 HW (pt_chain xU xU aV aV aV hm) (sa B w σ H fr h _ r1 (aJ.bind (VR := vV X.K T B σ) p fun d fr1 h1 w1 H1 x e1 l1 r1 rx p1 => sb B w1 σ H1 fr1 h1 _ r1 (aJ.bind (VR := vV X.K T B σ) p1 fun e fr2 h2 w2 H2 y e2 l2 r2 ry p2 => by
  cases q : f h2 d e with
  | none => rw [q] at p2; exact p2.elim
  | some k =>
    rw [q] at p2
    cases k with
    | false => exact o B w2 σ H2 fr2 h2 x y d e false _ r2 (rx.mono l2) ry q ⟨false, rfl, ⟨false, rfl, p2 w2 H2 false (Wd.le_refl _) r2 rfl⟩⟩
    | true => exact o B w2 σ H2 fr2 h2 x y d e true _ r2 (rx.mono l2) ry q ⟨true, rfl, by
     show WE X c σ H2 _
     exact sc B w2 σ H2 fr2 h2 _ r2 (aJ.bind (VR := vV X.K T B σ) p2 fun z fr3 h3 w3 H3 zv e3 l3 r3 rz p3 => by
      cases q' : g h3 e z with
      | none => rw [q'] at p3; exact p3.elim
      | some k' =>
        rw [q'] at p3
        exact o' B w3 σ H3 fr3 h3 y zv e z k' _ r3 (ry.mono l3) rz q' ⟨k', rfl, p3 w3 H3 k' (Wd.le_refl _) r3 rfl⟩)⟩)))
def D.tb : D → Option Bool
 | .bl b => some b
 | _ => none
theorem Gq {K : PySem.W.Frag} {B : Bs} {σ : L2.St} {w : Wd} {H : Hp} {fr : Fr} {v : V} {d : D} {b : Bool} (r : vO K T B σ w H fr v d) (e : d.tb = some b) : v = .bl b := by
 rcases r with r | ⟨_, _, _, _, r⟩
 · cases r <;> first | (cases e; rfl) | cases e
 · cases r <;> cases e
def D.tru (h : Hh) (d : D) : Option Bool := match d with
 | .non => some false
 | .bl b => some b
 | .int i => some (i != 0)
 | .str z => if z.length ≤ big then some ((z.length : Int) != 0) else none
 | d => (d.its h).map fun l => !l.isEmpty
theorem Ox {K : PySem.W.Frag} {w : Wd} {vs : List V} {ds : List D} (r : az K T w vs ds) : vs.isEmpty = ds.isEmpty := by
 cases r <;> rfl
theorem eO (s : Gk X T W e m) (he : ∀ whole, isTrue e X.env whole = (do let v ← whole; standAt e.pos; holding [v] (truthy v)) := by intro _; rfl) : vL X T W e (aF D.tru m) := fun B w σ H fr h Q r1 p =>
 HW (pt_truth aV he) (Vn (VR := vB) (r := fun x H Q => ∃ k, TruV X.K x H k ∧ Q k H) s (fun B w σ H fr h x d z Q R rx q k => by
  refine ⟨z, ?_, k w H z (Wd.le_refl _) R rfl⟩
  have viaIts : ∀ {l : List D}, d.its h = some l → (!l.isEmpty) = z → TruV X.K x H z := fun {l} el ez => by
   obtain ⟨p, vs, rfl, rl, sq⟩ := yM R rx el
   rcases sq with sq | sq
   · exact .inl ⟨vs, sq, by rw [← ez, Ox rl]⟩
   · exact .inr (.inl ⟨vs, sq, by rw [← ez, Ox rl]⟩)
  unfold D.tru at q
  split at q
  · rcases rx with rx | ⟨_, _, _, _, rx⟩
    · cases rx
      cases q
      rfl
    · cases rx
  · rcases rx with rx | ⟨_, _, _, _, rx⟩
    · cases rx
      cases q
      rfl
    · cases rx
  · rcases rx with rx | ⟨_, _, _, _, rx⟩
    · cases rx
      cases q
      rfl
    · cases rx
  · split at q
    · rename_i hl
      rcases rx with rx | ⟨_, _, _, _, rx⟩
      · cases rx
        cases q
        exact ⟨lK hl, rfl⟩
      · cases rx
    · cases q
  · obtain ⟨l, e1, e2⟩ := Option.map_eq_some_iff.mp q
    exact viaIts e1 e2) B w σ H fr h Q r1 p)
def bV (m : M Bool) : M Bool := m.bind fun b => M.ret !b
def yj (m n : M Bool) : M Bool := m.bind fun b => if b then n else M.ret false
def iD (m n : M Bool) : M Bool := m.bind fun b => if b then M.ret true else n
variable {n ta tb tc : M Bool} {rest : List Expr}
theorem dF (s : vL X T W a n) : vL X T W (.UnaryOp .Not a pos) (bV n) := fun B w σ H fr h Q r1 p =>
 HW (pt_not xT) (s B w σ H fr h _ r1 (aJ.bind (VR := vB X.K T B σ) p fun d fr1 h1 w1 H1 x e1 l1 r1 rx p1 => by
  have rx' : x = d := rx
  subst rx'
  exact p1 w1 H1 _ (Wd.le_refl _) r1 rfl))
theorem qm (s : JC X T W e n) : vL X T W e n := fun B w σ H fr h Q r1 p => HW Qs.pt (s B w σ H fr h Q r1 p)
theorem MJ (s : vL X T W a ta) : JC X T W (.BoolOp .And [a] pos) ta := fun B w σ H fr h Q r1 p => Qc (pw_and1 xT) (s B w σ H fr h Q r1 p)
theorem qQ (s : vL X T W a ta) : JC X T W (.BoolOp .Or [a] pos) ta := fun B w σ H fr h Q r1 p => Qc (pw_or1 xT) (s B w σ H fr h Q r1 p)
theorem Qz (s : vL X T W a ta) (t : JC X T W (.BoolOp .And (b :: rest) pos) tb) : JC X T W (.BoolOp .And (a :: b :: rest) pos) (yj ta tb) := fun B w σ H fr h Q r1 p =>
 Qc (pw_and xT Qs) (s B w σ H fr h _ r1 (aJ.bind (VR := vB X.K T B σ) p fun d fr1 h1 w1 H1 x e1 l1 r1 rx p1 => by
  have rx' : x = d := rx
  subst rx'
  cases x with
  | true => exact t B w1 σ H1 fr1 h1 Q r1 p1
  | false => exact p1 w1 H1 false (Wd.le_refl _) r1 rfl))
theorem qp (s : vL X T W a ta) (t : JC X T W (.BoolOp .Or (b :: rest) pos) tb) : JC X T W (.BoolOp .Or (a :: b :: rest) pos) (iD ta tb) := fun B w σ H fr h Q r1 p =>
 Qc (pw_or xT Qs) (s B w σ H fr h _ r1 (aJ.bind (VR := vB X.K T B σ) p fun d fr1 h1 w1 H1 x e1 l1 r1 rx p1 => by
  have rx' : x = d := rx
  subst rx'
  cases x with
  | false => exact t B w1 σ H1 fr1 h1 Q r1 p1
  | true => exact p1 w1 H1 true (Wd.le_refl _) r1 rfl))
def xM (m : M D) : M D := m.bind fun d => M.opt (d.tb.map fun b => .bl (!b))
def dU (m n : M D) : M D := m.bind fun d => match d.tb with
 | some true => n
 | some false => M.ret (.bl false)
 | none => M.opt none
def Vp (m n : M D) : M D := m.bind fun d => match d.tb with
 | some true => M.ret (.bl true)
 | some false => n
 | none => M.opt none
theorem vQ {op : BoolOp} (s : aR X T W a ma) : aR X T W (.BoolOp op [a] pos) ma := fun B w σ H fr h Q r1 p => cY (pe_one aV) (s B w σ H fr h Q r1 p)
theorem abn (s : aR X T W a ma) : aR X T W (.UnaryOp .Not a pos) (xM ma) := fun B w σ H fr h Q r1 p =>
 cY (pe_not aV) (s B w σ H fr h _ r1 (aJ.bind (VR := vV X.K T B σ) p fun d fr1 h1 w1 H1 x e1 l1 r1 rx p1 => by
  cases q : d.tb with
  | none => rw [q] at p1; exact p1.elim
  | some c =>
    rw [q] at p1
    exact ⟨c, Gq (fr := fr1) (B := B) (σ := σ) (H := H1) (.inl rx) q, p1 w1 H1 _ (Wd.le_refl _) r1 (.bl _)⟩))
theorem pH (s : aR X T W a ma) (t : aR X T W (.BoolOp .And (b :: rest) pos) mb) : aR X T W (.BoolOp .And (a :: b :: rest) pos) (dU ma mb) := fun B w σ H fr h Q r1 p =>
 cY (pe_and aV aV) (s B w σ H fr h _ r1 (aJ.bind (VR := vV X.K T B σ) p fun d fr1 h1 w1 H1 x e1 l1 r1 rx p1 => by
  cases q : d.tb with
  | none => rw [q] at p1; exact p1.elim
  | some c =>
    rw [q] at p1
    refine ⟨c, Gq (fr := fr1) (B := B) (σ := σ) (H := H1) (.inl rx) q, ?_⟩
    cases c with
    | true => exact t B w1 σ H1 fr1 h1 Q r1 p1
    | false => exact p1 w1 H1 _ (Wd.le_refl _) r1 (.bl _)))
theorem adc (s : aR X T W a ma) (t : aR X T W (.BoolOp .Or (b :: rest) pos) mb) : aR X T W (.BoolOp .Or (a :: b :: rest) pos) (Vp ma mb) := fun B w σ H fr h Q r1 p =>
 cY (pe_or aV aV) (s B w σ H fr h _ r1 (aJ.bind (VR := vV X.K T B σ) p fun d fr1 h1 w1 H1 x e1 l1 r1 rx p1 => by
  cases q : d.tb with
  | none => rw [q] at p1; exact p1.elim
  | some c =>
    rw [q] at p1
    refine ⟨c, Gq (fr := fr1) (B := B) (σ := σ) (H := H1) (.inl rx) q, ?_⟩
    cases c with
    | false => exact t B w1 σ H1 fr1 h1 Q r1 p1
    | true => exact p1 w1 H1 _ (Wd.le_refl _) r1 (.bl _)))
def Gr {α : Type} (t : M Bool) (m n : M α) : M α := t.bind fun b => if b then m else n
theorem s_if {VR : iw V D} (st : vL X T W c tc) (sa : gj (WE X a) X.K T W VR ma) (sb : gj (WE X b) X.K T W VR mb) : gj (WE X (.IfExp c a b pos)) X.K T W VR (Gr tc ma mb) := fun B w σ H fr h Q r1 p =>
 cY (pe_ifExp xT aV aV) (st B w σ H fr h _ r1 (aJ.bind (VR := vB X.K T B σ) p fun d fr1 h1 w1 H1 x e1 l1 r1 rx p1 => by
  have rx' : x = d := rx
  subst rx'
  cases x with
  | true => exact sa B w1 σ H1 fr1 h1 Q r1 p1
  | false => exact sb B w1 σ H1 fr1 h1 Q r1 p1))
def ade : Expr → Bool
 | .Starred .. => true
 | _ => false
theorem cJ {e : Expr} {es : List Expr} {env : Env} (h : ade e = false) : starEach (e :: es) env = (false, eval e env) :: starEach es env := by
 cases e <;> first | (cases h; done) | rfl
def aj : List (M D) → M (List D)
 | [] => M.ret []
 | m :: ms => m.bind fun d => (aj ms).bind fun ds => M.ret (d :: ds)
variable {ms : List (M D)}
theorem aH : yR X T W [] (aj []) := fun B w σ H fr h Q r1 p => Kr pa_nil (p w H _ (Wd.le_refl _) r1 .nil)
theorem ak (s : aR X T W e m) (t : yR X T W es (aj ms)) (hs : starEach (e :: es) X.env = (false, eval e X.env) :: starEach es X.env := by exact cJ rfl) : yR X T W (e :: es) (aj (m :: ms)) := fun B w σ H fr h Q r1 p =>
 Kr (pa_cons aV vK hs) (s B w σ H fr h _ r1 (aJ.bind (VR := vV X.K T B σ) p fun d fr1 h1 w1 H1 x e1 l1 r1 rx p1 =>
  t B w1 σ H1 fr1 h1 _ r1 (aJ.bind (VR := vA X.K T B σ) p1 fun ds fr2 h2 w2 H2 vs e2 l2 r2 rs p2 => p2 w2 H2 _ (Wd.le_refl _) r2 (.cons (rx.mono l2) rs))))
def gA (ms : List (M D)) : M D := (aj ms).bind fun ds => M.opt (if ds.length ≤ big then some (.tup ds) else none)
def dC (ms : List (M D)) : M D := (aj ms).bind fun ds => M.opt (if ds.length ≤ big then some (.nl ds) else none)
theorem qR {x1 : Nat} (s : yR X T W es (aj ms)) : aR X T W (.Tuple es x1 pos) (gA ms) := fun B w σ H fr h Q r1 p =>
 cY (pe_tup vK) (s B w σ H fr h _ r1 (aJ.bind (VR := vA X.K T B σ) p fun ds fr1 h1 w1 H1 vs e1 l1 r1 rs p1 => by
  by_cases hl : ds.length ≤ big
  · rw [if_pos hl] at p1
    exact ⟨by rw [az.length rs]; exact lK hl, fun q nq => wN r1 rs nq p1⟩
  · rw [if_neg hl] at p1
    exact p1.elim))
theorem jL (s : yR X T W es (aj ms)) : mH X T W (.List es pos) (dC ms) := fun B w σ H fr h Q r1 p =>
 cY (pe_lst vK) (s B w σ H fr h _ r1 (aJ.bind (VR := vA X.K T B σ) p fun ds fr1 h1 w1 H1 vs e1 l1 r1 rs p1 => by
  by_cases hl : ds.length ≤ big
  · rw [if_pos hl] at p1
    exact ⟨by rw [az.length rs]; exact lK hl, fun q nq => Ib r1 rs nq p1⟩
  · rw [if_neg hl] at p1
    exact p1.elim))
end
end Pk
namespace Pk
open PySem PySem.Spec L2
section
variable {X : Cx} {T : Tb} {W : WX} {k : Nat} {e a b c o : Expr} {es : List Expr} {m ma mb mc : M D} {pos p2 pf : Pos}
def bF (h : Hh) (d i : D) : Option D := match d, i with
 | .str z, .int i => if z.length ≤ big then (atI z.cps.toList i).map fun c => .str ⟨#[c]⟩ else none
 | d, .int i => match d.its h with
   | some l => atI l i
   | none => none
 | _, _ => none
def ixM (X : Cx) : R2 := fun x y H Q => ∀ value slice pins s σ v u, Inv X pins σ H s → RelV x v → RelV y u → subscripted slice false v u = operate [v, u] (getItem v u) → wpAny (model X.prog X.w) X.A (PyProof.Rows.subscriptTail value slice v u) (EP X pins σ Q) X.xe s
theorem Wf : IxR X (ixM X) := fun value slice pins s σ H x y v u Q I rx ry h hs => h value slice pins s σ v u I rx ry hs
theorem QC {r : R2} (o : IxR X r) {x y : V} {H : Hp} {Q : VK} (h : r x y H Q) : ixM X x y H Q := fun value slice pins s σ v u I rx ry hs => o value slice pins s σ H x y v u Q I rx ry h hs
theorem Z8 {K : PySem.W.Frag} {w : Wd} {vs : List V} {ds : List D} {i : Int} {d : D} (r : az K T w vs ds) (e : atI ds i = some d) : ∃ v, atI vs i = some v ∧ bD K T w v d := by
 unfold atI at e ⊢
 rw [r.length]
 cases q : ixN ds.length i with
 | none => rw [q] at e; cases e
 | some j =>
   rw [q] at e
   exact r.get (show ds[j]? = some d from e)
theorem QD {K : PySem.W.Frag} {B : Bs} {σ : L2.St} {w : Wd} {H : Hp} {fr : Fr} {v : V} {z : Str} (r : vO K T B σ w H fr v (.str z)) : v = .str z := by
 rcases r with r | ⟨_, _, _, _, r⟩
 · exact yN r
 · cases r
theorem Wg {B : Bs} {w : Wd} {σ : L2.St} {H : Hp} {fr : Fr} {h : Hh} {x y : V} {d i z : D} {Q : VK} (R : Rel X.K T B w σ H fr h) (rx : vO X.K T B σ w H fr x d) (ry : bD X.K T w y i) (q : bF h d i = some z)
 (k : ∀ v, bD X.K T w v z → Q v H) : ixM X x y H Q := by
 unfold bF at q
 split at q
 · rename_i z' i'
   split at q
   · rename_i hl
     obtain ⟨c, ec, rfl⟩ := Option.map_eq_some_iff.mp q
     rw [QD rx, iy ry]
     exact QC ix_str ⟨z', i', c, rfl, rfl, lK hl, ec, k _ (.str _)⟩
   · cases q
 · rename_i i' _
   split at q
   · rename_i l el
     obtain ⟨p, vs, rfl, rl, sq⟩ := yM R rx el
     obtain ⟨v, ev, rv⟩ := Z8 rl q
     rw [iy ry]
     rcases sq with sq | sq
     · exact QC ix_list ⟨p, vs, i', v, rfl, rfl, sq, ev, k v rv⟩
     · exact QC ix_tup ⟨p, vs, i', v, rfl, rfl, sq, ev, k v rv⟩
   · cases q
 · cases q
theorem Wh (sa : aR X T W a ma) (sb : aR X T W b mb) (hs : PlainIx b := by intro _ _; rfl) : aR X T W (.Subscript a b pos) (aD bF ma mb) := fun B w σ H fr h Q r1 p =>
 cY (pe_ix Wf aV aV hs) (Mx (VR := vV) sa sb (fun B w σ H fr h x y d e z Q R rx ry q k => Wg R (.inl rx) ry q fun v rv => k w H v (Wd.le_refl _) R rv) B w σ H fr h Q r1 p)
def fX (i : Nat) : M Unit := fun fr h => match fr[i]? with
 | some (some _) => .ok () fr h
 | _ => .err
def bj {α : Type} (i : Nat) (m : M α) (f : Hh → D → α → Option D) : M D := (fX i).bind fun _ => m.bind fun y => (aG i).bind fun d fr h => M.opt (f h d y) fr h
theorem QF {K : PySem.W.Frag} {B : Bs} {w : Wd} {σ : L2.St} {H : Hp} {fr : Fr} {h : Hh} {i : Nat} {α β : Type} {VR : Wd → Hp → Fr → β → α → Prop} {m : M α} {Q : β → Hp → Prop} (R : Rel K T B w σ H fr h) (p : aJ K T B W VR w σ ((fX i).bind (fun _ => m) fr h) Q) :
 (∃ v, σ[i]? = some (some v)) ∧ aJ K T B W VR w σ (m fr h) Q := by
 cases e1 : fr[i]? with
 | none =>
   have q : fX i fr h = .err := by unfold fX; rw [e1]
   rw [M.bind_err q] at p
   exact p.elim
 | some o =>
   cases o with
   | none =>
     have q : fX i fr h = .err := by unfold fX; rw [e1]
     rw [M.bind_err q] at p
     exact p.elim
   | some d =>
     have q : fX i fr h = .ok () fr h := by unfold fX; rw [e1]
     rw [M.bind_ok q] at p
     obtain ⟨v, e2, z⟩ := gq R e1
     exact ⟨⟨v, e2⟩, p⟩
theorem QG {K : PySem.W.Frag} {B : Bs} {w : Wd} {σ : L2.St} {H : Hp} {fr : Fr} {h : Hh} {i : Nat} {v : V} {α β : Type} {VR : Wd → Hp → Fr → β → α → Prop} {f : D → M α} {Q : β → Hp → Prop} (R : Rel K T B w σ H fr h) (ev : σ[i]? = some (some v))
 (p : aJ K T B W VR w σ ((aG i).bind f fr h) Q) : ∃ d, vO K T B σ w H fr v d ∧ aJ K T B W VR w σ (f d fr h) Q := by
 cases e1 : fr[i]? with
 | none =>
   have q : aG i fr h = .err := by unfold aG; rw [e1]
   rw [M.bind_err q] at p
   exact p.elim
 | some o =>
   cases o with
   | none =>
     have q : aG i fr h = .err := by unfold aG; rw [e1]
     rw [M.bind_err q] at p
     exact p.elim
   | some d =>
     have q : aG i fr h = .ok d fr h := by unfold aG; rw [e1]
     rw [M.bind_ok q] at p
     obtain ⟨v', e2, z⟩ := gq R e1
     rw [ev] at e2
     cases e2
     refine ⟨d, ?_, p⟩
     cases z with
     | val rd => exact .inl rd
     | own O eH rd => exact .inr ⟨_, _, rfl, eH, rd⟩
theorem cH (i : Nat) {x : Str} {px : Pos} (sb : aR X T W b mb) (hs : PlainIx b := by intro _ _; rfl) (hN : X.N[i]? = some x := by rfl) (hv : Vis X.env.scope x := by first | exact Or.inl rfl | exact Or.inr (Or.inl rfl) | exact Or.inr (Or.inr rfl)) (hd : (x == ("__debug__" : Str)) = false := by decide)
 (hcd : (x == ("__classdict__" : Str)) = false := by decide) : aR X T W (.Subscript (.Name x px) b pos) (bj i mb bF) := fun B w σ H fr h Q r1 p => by
 obtain ⟨⟨v, ev⟩, p⟩ := QF r1 p
 refine cY (pe_ix Wf (pe_var hN hv hd hcd) aV hs) ⟨v, ev, sb B w σ H fr h _ r1 (aJ.bind (VR := vV X.K T B σ) p fun y fr1 h1 w1 H1 u e1 l1 r2 ru p1 => ?_)⟩
 obtain ⟨d, rd, p2⟩ := QG r2 ev p1
 cases q : bF h1 d y with
 | none => rw [q] at p2; exact p2.elim
 | some z =>
   rw [q] at p2
   exact Wg r2 rd ru q fun v' rv => p2 w1 H1 v' (Wd.le_refl _) r2 rv
def Zt (X : Cx) : V → Option Int → Option Int → Hp → VK → Prop := fun x lo hi H Q => ∀ pins s σ v vl vu sl, Inv X pins σ H s → RelV x v → s.heap.IsSliceOf sl vl vu .none → IsPart vl lo → IsPart vu hi →
    ∃ T id, typeLookup (.type T) "__getitem__" = pure (some (.builtin id)) ∧ s.TypeIs v T ∧ wpAny (model X.prog X.w) X.A (getItem v (.ref sl)) (EP X pins σ Q) X.xe s
theorem Wi : SlR X (Zt X) := fun pins s σ H x v vl vu lo hi sl Q I rx hs pl pu h => h pins s σ v vl vu sl I rx hs pl pu
theorem QH {r : V → Option Int → Option Int → Hp → VK → Prop} (o : SlR X r) {x : V} {lo hi : Option Int} {H : Hp} {Q : VK} (h : r x lo hi H Q) : Zt X x lo hi H Q := fun pins s σ v vl vu sl I rx hs pl pu => o pins s σ H x v vl vu lo hi sl Q I rx hs pl pu h
def WO (X : Cx) (e : Option Expr) : TO := fun σ H Q => ∀ pins s, Inv X pins σ H s → wpAny (model X.prog X.w) X.A (evalPart e X.env) (fun u s' => ∃ o H', Inv X pins σ H' s' ∧ IsPart u o ∧ Q o H') X.xe s
theorem Ku {e : Option Expr} : PO X e (WO X e) := ⟨fun pins s σ H Q I h => h pins s I⟩
theorem Zu {e : Option Expr} {t : TO} (p : PO X e t) {σ : L2.St} {H : Hp} {Q : Option Int → Hp → Prop} (h : t σ H Q) : WO X e σ H Q := fun pins s I => p.run pins s σ H Q I h
def vI : iw (Option Int) (Option Int) := fun _ _ _ _ _ _ _ b c => b = c
abbrev MK (X : Cx) (T : Tb) (W : WX) (e : Option Expr) (m : M (Option Int)) : Prop := gj (WO X e) X.K T W vI m
def Gu : M (Option Int) := M.ret none
def Ci (m : M D) : M (Option Int) := m.bind fun d => M.opt (match d with | .int i => some (some i) | _ => none)
theorem Ig : MK X T W none Gu := fun B w σ H fr h Q r p => Zu po_none (p w H _ (Wd.le_refl _) r rfl)
theorem Ih (s : aR X T W e m) : MK X T W (some e) (Ci m) := fun B w σ H fr h Q r p =>
 Zu (po_some aV) (s B w σ H fr h _ r (aJ.bind (VR := vV X.K T B σ) p fun d fr1 h1 w1 H1 x e1 l1 r1 rx p1 => by
  cases rx with
  | int i => exact ⟨i, rfl, p1 w1 H1 _ (Wd.le_refl _) r1 rfl⟩
  | _ => exact (show False from p1).elim))
def cutD {α : Type} (xs : List α) (lo hi : Option Int) : List α := (xs.drop (HT.sIx xs.length 0 lo)).take (HT.sIx xs.length xs.length hi - HT.sIx xs.length 0 lo)
theorem T5 {K : PySem.W.Frag} {w : Wd} {vs : List V} {ds : List D} {lo hi : Option Int} (r : az K T w vs ds) : az K T w (cutV vs lo hi) (cutD ds lo hi) := by
 unfold cutV cutD
 rw [r.length]
 exact (r.drop _).take _
def oN (h : Hh) (d : D) (p : Option Int × Option Int) : Option D := match d with
 | .str z => if z.length ≤ big then some (.str (cutS z p.1 p.2)) else none
 | .tup l => some (.tup (cutD l p.1 p.2))
 | d => match d.der h with
   | .fl l => some (.nl (cutD l p.1 p.2))
   | .nl l => some (.nl (cutD l p.1 p.2))
   | .kl l => some (.nl (cutD l p.1 p.2))
   | _ => none
theorem Wj {α : Type} {xs : List α} {lo hi : Option Int} (h1 : HT.sIx xs.length 0 lo = 0) (h2 : HT.sIx xs.length xs.length hi = xs.length) : cutD xs lo hi = xs := by
 unfold cutD
 rw [h1, h2, List.drop_zero, Nat.sub_zero, List.take_length]
theorem T6 {K : PySem.W.Frag} {B : Bs} {w : Wd} {σ : L2.St} {H : Hp} {fr : Fr} {h : Hh} {v : V} {d : D} {l : List D} (R : Rel K T B w σ H fr h) (z : vO K T B σ w H fr v d) (e : d.der h = .fl l ∨ d.der h = .nl l ∨ d.der h = .kl l) :
 ∃ p vs, v = .ref p ∧ az K T w vs l ∧ SqL K H p vs := by
 rcases z with z | ⟨p, o, rfl, eH, z⟩
 · cases z with
   | fl s r =>
     rcases e with e | e | e <;> cases e
     exact ⟨_, _, rfl, r, SqL.of (R.sub _ _ s)⟩
   | kl s r =>
     rcases e with e | e | e <;> cases e
     exact ⟨_, _, rfl, r, jK R.sub s⟩
   | @ref a n s =>
     have ln : n < h.length := by
      rw [← R.len]
      exact (List.getElem?_eq_some_iff.mp s).1
     obtain ⟨o, q, rr⟩ := R.cel n a h[n] s (ahi ln)
     have e0 : D.der h (.ref n) = h[n] := by
      unfold D.der
      dsimp only
      rw [ahi ln]
      rfl
     rw [e0] at e
     generalize h[n] = c at rr e
     cases rr with
     | lst r =>
       rcases e with e | e | e <;> cases e
       exact ⟨_, _, rfl, r, SqL.of q⟩
     | obj r => rcases e with e | e | e <;> cases e
     | dct _ r => rcases e with e | e | e <;> cases e
     | dkt _ r => rcases e with e | e | e <;> cases e
     | so0 _ => rcases e with e | e | e <;> cases e
     | so1 _ _ => rcases e with e | e | e <;> cases e
     | hid0 => rcases e with e | e | e <;> cases e
     | hid1 => rcases e with e | e | e <;> cases e
   | _ => rcases e with e | e | e <;> cases e
 · cases z with
   | lst r =>
     rcases e with e | e | e <;> cases e
     exact ⟨_, _, rfl, r, SqL.of eH⟩
   | obj r => rcases e with e | e | e <;> cases e
theorem Wk {B : Bs} {w : Wd} {σ : L2.St} {H : Hp} {fr : Fr} {h : Hh} {x : V} {d z : D} {lo hi : Option Int} {Q : VK} (R : Rel X.K T B w σ H fr h) (rx : vO X.K T B σ w H fr x d) (q : oN h d (lo, hi) = some z)
 (k : ∀ w' H' v, w.le w' → Rel X.K T B w' σ H' fr h → vE X.K T B σ w' H' fr v z → Q v H') : Zt X x lo hi H Q := by
 have fin : ∀ {l : List D}, (d.der h = .fl l ∨ d.der h = .nl l ∨ d.der h = .kl l) → z = .nl (cutD l lo hi) → Zt X x lo hi H Q := fun {l} el ez => by
  obtain ⟨p, vs, rfl, rl, sq⟩ := T6 R rx el
  subst ez
  exact QH sl_list ⟨p, vs, rfl, sq, fun q nq => Ib R (T5 rl) nq k⟩
 unfold oN at q
 split at q
 · split at q
   · rename_i hl
     cases q
     rw [QD rx]
     exact QH sl_str ⟨_, rfl, lK hl, k w H _ (Wd.le_refl _) R (.inl (.str _))⟩
   · cases q
 · cases q
   rcases rx with rx | ⟨_, _, _, _, r⟩
   · obtain ⟨p, vs, rfl, s, rl⟩ := vC rx
     refine QH sl_tupA ⟨p, vs, rfl, eG R.sub s, fun hw => ?_, fun _ q nq => wN R (T5 rl) nq fun w' H' v l R' r' => k w' H' v l R' (.inl r')⟩
     rw [rl.length] at hw
     refine k w H _ (Wd.le_refl _) R (.inl ?_)
     rw [Wj hw.1 hw.2]
     exact rx
   · cases r
 · split at q
   · rename_i l el
     exact fin (.inl el) (by cases q; rfl)
   · rename_i l el
     exact fin (.inr (.inl el)) (by cases q; rfl)
   · rename_i l el
     exact fin (.inr (.inr el)) (by cases q; rfl)
   · cases q
def xN (ml mh : M (Option Int)) : M (Option Int × Option Int) := ml.bind fun l => mh.bind fun u => M.ret (l, u)
variable {lo hi : Option Expr} {ml mh : M (Option Int)}
theorem T7 (i : Nat) {x : Str} {px : Pos} (sl : MK X T W lo ml) (sh : MK X T W hi mh) (hN : X.N[i]? = some x := by rfl) (hv : Vis X.env.scope x := by first | exact Or.inl rfl | exact Or.inr (Or.inl rfl) | exact Or.inr (Or.inr rfl)) (hd : (x == ("__debug__" : Str)) = false := by decide)
 (hcd : (x == ("__classdict__" : Str)) = false := by decide) : mH X T W (.Subscript (.Name x px) (.Slice lo hi none p2) pos) (bj i (xN ml mh) oN) := fun B w σ H fr h Q r1 p => by
 obtain ⟨⟨v, ev⟩, p⟩ := QF r1 p
 have p0 : aJ X.K T B W (vE X.K T B σ) w σ ((ml.bind fun l => mh.bind fun u => (aG i).bind fun d fr h => M.opt (oN h d (l, u)) fr h) fr h) Q := by
  have e : (xN ml mh).bind (fun y => (aG i).bind fun d fr h => M.opt (oN h d y) fr h) fr h = (ml.bind fun l => mh.bind fun u => (aG i).bind fun d fr h => M.opt (oN h d (l, u)) fr h) fr h := by
   unfold xN M.bind
   cases ml fr h with
   | ok l fr1 h1 => dsimp only; cases mh fr1 h1 <;> rfl
   | exc _ _ _ => rfl
   | err => rfl
  rw [← e]
  exact p
 refine cY (pe_slice Wi (pe_var hN hv hd hcd) Ku Ku) ⟨v, ev, sl B w σ H fr h _ r1 (aJ.bind (VR := vI X.K T B σ) p0 fun l fr1 h1 w1 H1 l' e1 l1 r2 rl p1 => sh B w1 σ H1 fr1 h1 _ r2 (aJ.bind (VR := vI X.K T B σ) p1 fun u fr2 h2 w2 H2 u' e2 l2 r3 ru p2 => ?_))⟩
 have rl' : l' = l := rl
 have ru' : u' = u := ru
 subst rl' ru'
 obtain ⟨d, rd, p3⟩ := QG r3 ev p2
 cases q : oN h2 d (l', u') with
 | none => rw [q] at p3; exact p3.elim
 | some z =>
   rw [q] at p3
   exact Wk r3 rd q p3
def Gv (ma : M D) (ml mh : M (Option Int)) : M D := ma.bind fun d => ml.bind fun l => mh.bind fun u fr h => M.opt (oN h d (l, u)) fr h
theorem Wl (sa : aR X T W a ma) (sl : MK X T W lo ml) (sh : MK X T W hi mh) : mH X T W (.Subscript a (.Slice lo hi none p2) pos) (Gv ma ml mh) := fun B w σ H fr h Q r1 p => by
 refine cY (pe_slice Wi aV Ku Ku) (sa B w σ H fr h _ r1 (aJ.bind (VR := vV X.K T B σ) p fun d fr0 h0 w0 H0 x e0 l0 r0 rx p => sl B w0 σ H0 fr0 h0 _ r0 (aJ.bind (VR := vI X.K T B σ) p fun l fr1 h1 w1 H1 l' e1 l1 r2 rl p1 => sh B w1 σ H1 fr1 h1 _ r2 (aJ.bind (VR := vI X.K T B σ) p1 fun u fr2 h2 w2 H2 u' e2 l2 r3 ru p2 => ?_))))
 have rl' : l' = l := rl
 have ru' : u' = u := ru
 subst rl' ru'
 cases q : oN h2 d (l', u') with
 | none => rw [q] at p2; exact p2.elim
 | some z =>
   rw [q] at p2
   exact Wk r3 (.inl (rx.mono (Wd.le_trans l1 l2))) q p2
variable {x : Str}
theorem XN {VR1 VR : iw V D} {id : String} {f : Hh → D → Option D} (sa : gj (WE X a) X.K T W VR1 ma) (hr : ∀ B w σ H fr h x d z Q, Rel X.K T B w σ H fr h → VR1 X.K T B σ w H fr x d → f h d = some z → (∀ w' H' v, w.le w' → Rel X.K T B w' σ H' fr h → VR X.K T B σ w' H' fr v z → Q v H') → cM X (.builtin id) [x] H Q)
 (hm : X.mg x = none) (hg : Gl X x := by rfl) (hv : bootBuiltins x = some (.builtin id) := by decide +kernel) (hn : x ≠ "__name__" := by decide) (hdb : (x == ("__debug__" : Str)) = false := by decide)
 (he : starEach (a :: []) X.env = (false, eval a X.env) :: starEach [] X.env := by exact cJ rfl) (hpl : (backTo pos (starEach [] X.env)).any (·.1) = false := by rfl) : gj (WE X (.Call (.Name x pf) [a] [] pos)) X.K T W VR (aF f ma) := fun B w σ H fr h Q r1 p =>
 cY (pe_callB yQ hg hm hv (pa_cons aV pa_nil he) hn hdb he hpl) (Vn (r := fun x H Q => cM X (.builtin id) [x] H Q) sa hr B w σ H fr h Q r1 p)
theorem Vq {VR1 VR : iw V D} {id : String} {f : Hh → D → Option D} (sa : gj (WE X a) X.K T W VR1 ma) (hr : ∀ B w σ H fr h x d z Q, Rel X.K T B w σ H fr h → VR1 X.K T B σ w H fr x d → f h d = some z → (∀ w' H' v, w.le w' → Rel X.K T B w' σ H' fr h → VR X.K T B σ w' H' fr v z → Q v H') → cM X (.type id) [x] H Q)
 (hm : X.mg x = none) (hg : Gl X x := by rfl) (hv : bootBuiltins x = some (.type id) := by decide +kernel) (hn : x ≠ "__name__" := by decide) (hdb : (x == ("__debug__" : Str)) = false := by decide)
 (he : starEach (a :: []) X.env = (false, eval a X.env) :: starEach [] X.env := by exact cJ rfl) (hpl : (backTo pos (starEach [] X.env)).any (·.1) = false := by rfl) : gj (WE X (.Call (.Name x pf) [a] [] pos)) X.K T W VR (aF f ma) := fun B w σ H fr h Q r1 p =>
 cY (pe_callTy yQ hg hm hv (pa_cons aV pa_nil he) hn hdb he hpl) (Vn (r := fun x H Q => cM X (.type id) [x] H Q) sa hr B w σ H fr h Q r1 p)
def bW (h : Hh) (d : D) : Option D := match d with
 | .str z => if z.length ≤ big then some (.int z.length) else none
 | d => (d.its h).map fun l => .int l.length
theorem iZ (sa : Gk X T W a ma) (hm : X.mg "len" = none) (hg : Gl X "len" := by rfl) (he : starEach (a :: []) X.env = (false, eval a X.env) :: starEach [] X.env := by exact cJ rfl) : aR X T W (.Call (.Name "len" pf) [a] [] pos) (aF bW ma) :=
 XN (id := "len") sa (fun B w σ H fr h x d z Q R rx q k => by
  unfold bW at q
  split at q
  · split at q
    · rename_i hl
      cases q
      rw [QD rx]
      exact gR call_len_str ⟨_, rfl, lK hl, k w H _ (Wd.le_refl _) R (.int _)⟩
    · cases q
  · obtain ⟨l, el, rfl⟩ := Option.map_eq_some_iff.mp q
    obtain ⟨p, vs, rfl, rl, sq⟩ := yM R rx el
    refine gR call_len_seq ⟨p, vs, rfl, sq, ?_⟩
    rw [rl.length]
    exact k w H _ (Wd.le_refl _) R (.int _)) hm hg (by decide +kernel) (by decide) (by decide) he
def sE (_ : Hh) (d : D) : Option D := match d with
 | .int i => some (.int i)
 | .bl b => some (.int (if b then 1 else 0))
 | .str z => if z.length ≤ 640 then (PySem.intText? z).map .int else none
 | _ => none
theorem Cj (sa : aR X T W a ma) (hm : X.mg "int" = none) (hg : Gl X "int" := by rfl) (he : starEach (a :: []) X.env = (false, eval a X.env) :: starEach [] X.env := by exact cJ rfl) : aR X T W (.Call (.Name "int" pf) [a] [] pos) (aF sE ma) :=
 Vq (id := "int") sa (fun B w σ H fr h x d z Q R rx q k => by
  unfold sE at q
  split at q
  · cases q
    rw [iy rx]
    exact gR call_int1 (.inl ⟨_, rfl, k w H _ (Wd.le_refl _) R (.int _)⟩)
  · cases q
    rw [Gm rx]
    exact gR call_int1 (.inr ⟨_, rfl, k w H _ (Wd.le_refl _) R (.int _)⟩)
  · split at q
    · rename_i hl
      obtain ⟨n, en, rfl⟩ := Option.map_eq_some_iff.mp q
      rw [yN rx]
      exact gR call_int_str ⟨_, n, rfl, en, hl, k w H _ (Wd.le_refl _) R (.int _)⟩
    · cases q
  · cases q) hm hg (by decide +kernel) (by decide) (by decide) he
def JF (_ : Hh) (d : D) : Option D := match d with
 | .int i => some (.int (if i < 0 then -i else i))
 | _ => none
theorem Wm (sa : aR X T W a ma) (hm : X.mg "abs" = none) (hg : Gl X "abs" := by rfl) (he : starEach (a :: []) X.env = (false, eval a X.env) :: starEach [] X.env := by exact cJ rfl) : aR X T W (.Call (.Name "abs" pf) [a] [] pos) (aF JF ma) :=
 XN (id := "abs") sa (fun B w σ H fr h x d z Q R rx q k => by
  unfold JF at q
  split at q
  · cases q
    rw [iy rx]
    exact gR call_abs ⟨_, rfl, k w H _ (Wd.le_refl _) R (.int _)⟩
  · cases q) hm hg (by decide +kernel) (by decide) (by decide) he
def gU (h : Hh) (d : D) : Option D := (d.its h).map .nl
theorem wO (sa : Gk X T W a ma) (hm : X.mg "list" = none) (hg : Gl X "list" := by rfl) (he : starEach (a :: []) X.env = (false, eval a X.env) :: starEach [] X.env := by exact cJ rfl) : mH X T W (.Call (.Name "list" pf) [a] [] pos) (aF gU ma) :=
 Vq (id := "list") sa (fun B w σ H fr h x d z Q R rx q k => by
  obtain ⟨l, el, rfl⟩ := Option.map_eq_some_iff.mp q
  obtain ⟨p, vs, rfl, rl, sq⟩ := yM R rx el
  exact gR call_list_of ⟨p, vs, rfl, sq, fun q nq => Ib R rl nq k⟩) hm hg (by decide +kernel) (by decide) (by decide) he
def uI (h : Hh) (d : D) : Option D := (d.its h).map .tup
theorem yX (sa : Gk X T W a ma) (hm : X.mg "tuple" = none) (hg : Gl X "tuple" := by rfl) (he : starEach (a :: []) X.env = (false, eval a X.env) :: starEach [] X.env := by exact cJ rfl) : aR X T W (.Call (.Name "tuple" pf) [a] [] pos) (aF uI ma) :=
 Vq (id := "tuple") sa (fun B w σ H fr h x d z Q R rx q k => by
  obtain ⟨l, el, rfl⟩ := Option.map_eq_some_iff.mp q
  cases hd : d.der h with
  | tup l' =>
    have ed : d = .tup l' := by
     rcases rx with rx | ⟨_, _, _, _, rr⟩
     · cases rx with
       | tup s r => exact hd
       | @ref a n s =>
         have ln : n < h.length := by
          rw [← R.len]
          exact (List.getElem?_eq_some_iff.mp s).1
         obtain ⟨o, q, rr⟩ := R.cel n a h[n] s (ahi ln)
         have e0 : D.der h (.ref n) = h[n] := by
          unfold D.der
          dsimp only
          rw [ahi ln]
          rfl
         rw [e0] at hd
         rw [hd] at rr
         cases rr
       | _ => cases hd
     · cases rr <;> cases hd
    subst ed
    cases el
    rcases rx with rx | ⟨_, _, _, _, rr⟩
    · obtain ⟨p, vs, rfl, s, rl⟩ := vC rx
      exact gR call_tuple_of ⟨p, vs, rfl, .inr ⟨eG R.sub s, k w H _ (Wd.le_refl _) R rx⟩⟩
    · cases rr
  | tp l' =>
    have ed : d = .tp l' := by
     rcases rx with rx | ⟨_, _, _, _, rr⟩
     · cases rx with
       | tp s r => exact hd
       | @ref a n s =>
         have ln : n < h.length := by
          rw [← R.len]
          exact (List.getElem?_eq_some_iff.mp s).1
         obtain ⟨o, q, rr⟩ := R.cel n a h[n] s (ahi ln)
         have e0 : D.der h (.ref n) = h[n] := by
          unfold D.der
          dsimp only
          rw [ahi ln]
          rfl
         rw [e0] at hd
         rw [hd] at rr
         cases rr
       | _ => cases hd
     · cases rr <;> cases hd
    subst ed
    cases el
    rcases rx with rx | ⟨_, _, _, _, rr⟩
    · cases rx with
      | tp s rl => exact gR call_tuple_of ⟨_, _, rfl, .inr ⟨.inl (.inl (R.sub _ _ s)), k w H _ (Wd.le_refl _) R (.tup (.inl (.inl s)) rl)⟩⟩
    · cases rr
  | _ =>
    have el' := el
    unfold D.its at el'
    rw [hd] at el'
    first
     | (cases el'; done)
     | (cases el'
        obtain ⟨p, vs, rfl, rl, sq⟩ := T6 R rx (by first | exact .inl hd | exact .inr (.inl hd) | exact .inr (.inr hd))
        exact gR call_tuple_of ⟨p, vs, rfl, .inl ⟨sq, fun q nq => wN R rl nq k⟩⟩)) hm hg (by decide +kernel) (by decide) (by decide) he
def D.ints : List D → Option (List Int)
 | [] => some []
 | .int i :: r => (D.ints r).map (i :: ·)
 | _ :: _ => none
def D.lints (h : Hh) (d : D) : Option (List Int) := match d.der h with
 | .fl l => D.ints l
 | .nl l => D.ints l
 | .kl l => D.ints l
 | _ => none
def aed (h : Hh) (d : D) : Option D := (d.lints h).map fun l => .int l.sum
def Vr : Int → List Int → Int
 | a, [] => a
 | a, b :: r => Vr (if b > a then b else a) r
def abp : Int → List Int → Int
 | a, [] => a
 | a, b :: r => abp (if b < a then b else a) r
def adf (h : Hh) (d : D) : Option D := match d.lints h with
 | some (a :: r) => some (.int (Vr a r))
 | _ => none
def afm (h : Hh) (d : D) : Option D := match d.lints h with
 | some (a :: r) => some (.int (abp a r))
 | _ => none
theorem XQ {VR2 VR : iw V D} {id : String} {f : Hh → D → D → Option D} (sa : aR X T W a ma) (sb : gj (WE X b) X.K T W VR2 mb)
 (hr : ∀ B w σ H fr h x y d e z Q, Rel X.K T B w σ H fr h → bD X.K T w x d → VR2 X.K T B σ w H fr y e → f h d e = some z → (∀ w' H' v, w.le w' → Rel X.K T B w' σ H' fr h → VR X.K T B σ w' H' fr v z → Q v H') → cM X (.builtin id) [x, y] H Q)
 (hm : X.mg x = none) (hg : Gl X x := by rfl) (hv : bootBuiltins x = some (.builtin id) := by decide +kernel) (hn : x ≠ "__name__" := by decide) (hdb : (x == ("__debug__" : Str)) = false := by decide)
 (he : starEach (a :: b :: []) X.env = (false, eval a X.env) :: starEach (b :: []) X.env := by exact cJ rfl) (he2 : starEach (b :: []) X.env = (false, eval b X.env) :: starEach [] X.env := by exact cJ rfl)
 (hpl : (backTo pos (starEach (b :: []) X.env)).any (·.1) = false := by rfl) : gj (WE X (.Call (.Name x pf) [a, b] [] pos)) X.K T W VR (aD f ma mb) := fun B w σ H fr h Q r1 p =>
 cY (pe_callB yQ hg hm hv (pa_cons aV (pa_cons aV pa_nil he2) he) hn hdb he hpl) (Mx (r := fun x y H Q => cM X (.builtin id) [x, y] H Q) sa sb hr B w σ H fr h Q r1 p)
abbrev Kv := dH jF fun i j => if j > i then j else i
abbrev Kw := dH jF fun i j => if j < i then j else i
theorem Z9 (C : Cq X T W k) (sa : aR X T W a ma) (sb : aR X T W b mb) (hm : X.mg "max" = none) (hg : Gl X "max" := by rfl) (he : starEach (a :: b :: []) X.env = (false, eval a X.env) :: starEach (b :: []) X.env := by exact cJ rfl) (he2 : starEach (b :: []) X.env = (false, eval b X.env) :: starEach [] X.env := by exact cJ rfl)
 (hpl : (backTo pos (starEach (b :: []) X.env)).any (·.1) = false := by rfl) : aR X T W (.Call (.Name "max" pf) [a, b] [] pos) (aD Kv ma mb) :=
 XQ (id := "max") sa sb (fun B w σ H fr h x y d e z Q R rx ry q kk => by
  unfold Kv dH at q
  split at q
  · cases q
    rw [iy rx, iy ry]
    exact gR (call_max2 C.calm) ⟨_, _, rfl, kk w H _ (Wd.le_refl _) R (.int _)⟩
  · cases q) hm hg (by decide +kernel) (by decide) (by decide) he he2 hpl
theorem aaa (C : Cq X T W k) (sa : aR X T W a ma) (sb : aR X T W b mb) (hm : X.mg "min" = none) (hg : Gl X "min" := by rfl) (he : starEach (a :: b :: []) X.env = (false, eval a X.env) :: starEach (b :: []) X.env := by exact cJ rfl) (he2 : starEach (b :: []) X.env = (false, eval b X.env) :: starEach [] X.env := by exact cJ rfl)
 (hpl : (backTo pos (starEach (b :: []) X.env)).any (·.1) = false := by rfl) : aR X T W (.Call (.Name "min" pf) [a, b] [] pos) (aD Kw ma mb) :=
 XQ (id := "min") sa sb (fun B w σ H fr h x y d e z Q R rx ry q kk => by
  unfold Kw dH at q
  split at q
  · cases q
    rw [iy rx, iy ry]
    exact gR (call_min2 C.calm) ⟨_, _, rfl, kk w H _ (Wd.le_refl _) R (.int _)⟩
  · cases q) hm hg (by decide +kernel) (by decide) (by decide) he he2 hpl
end
end Pk
namespace Pk
open PySem PySem.Spec L2
def Bs.pr (B : Bs) (p : Addr) (o : HO) : Bs := ⟨B.w0, B.H0, (p, o) :: B.P, B.me⟩
section
variable {K : PySem.W.Frag} {T : Tb} {B : Bs} {w w' : Wd} {σ : L2.St} {H H' : Hp} {fr : Fr} {h : Hh} {p : Addr} {o : HO}
theorem Own.pr (O : Own B w p) {q : Addr} {u : HO} (hq : q ≠ p) : Own (B.pr q u) w p := ⟨O.f, O.i, O.e, fun z hz => by
 rcases List.mem_cons.mp hz with e | hz
 · rw [e]
   exact hq
 · exact O.p z hz⟩
theorem Own.unpr {q : Addr} {u : HO} (O : Own (B.pr q u) w p) : Own B w p := ⟨O.f, O.i, O.e, fun z hz => O.p z (ahx _ hz)⟩
theorem Rel.protect (R : Rel K T B w σ H fr h) (O : Own B w p) (lo : uW σ fr p) (e : H p = some o) (nt : (∀ vs, o ≠ .tup vs) ∧ ∀ ps, o ≠ .tbl ps := by exact ⟨fun vs z => (by cases z), fun ps z => (by cases z)⟩) : Rel K T (B.pr p o) w σ H fr h :=
 { R with
   pt := fun q hq => by
    rcases List.mem_cons.mp hq with z | hq
    · rw [z]
      exact nt
    · exact R.pt q hq
   prot := fun q hq => by
    rcases List.mem_cons.mp hq with z | hq
    · rw [z]
      exact ⟨e, O.f, O.i⟩
    · exact R.prot q hq
   sl := fun i s d e1 e2 => by
    have z := R.sl i s d e1 e2
    cases z with
    | none => exact .none
    | val r => exact .val r
    | @own q u _ O' eH' rr =>
      have hne : p ≠ q := fun z => lo i ⟨by rw [z]; exact e1, _, e2, rr.own⟩
      exact .own (O'.pr hne) eH' rr }
theorem Rel.unprotect (R : Rel K T (B.pr p o) w σ H fr h) (e0 : B.H0 p = none) (hP : ∀ q ∈ B.P, q.1 ≠ p) : Rel K T B w σ H fr h ∧ Own B w p ∧ uW σ fr p ∧ H p = some o := by
 obtain ⟨h1, h2, h3⟩ := R.prot (p, o) (aht)
 refine ⟨{ R with pt := fun q hq => R.pt q (ahx _ hq), prot := fun q hq => R.prot q (ahx _ hq), sl := fun i s d e1 e2 => ?_ }, ⟨h2, h3, e0, hP⟩, fun i ⟨q1, d, q2, od⟩ => ?_, h1⟩
 · have z := R.sl i s d e1 e2
   cases z with
   | none => exact .none
   | val r => exact .val r
   | own O' eH' rr => exact .own O'.unpr eH' rr
 · have z := R.sl i _ _ q1 q2
   cases z with
   | val r => exact rA od r
   | own O' eH' rr => exact O'.p (p, o) (aht) rfl
theorem Rel.repr {o' : HO} (R : Rel K T (B.pr p o) w σ H fr h) (e0 : B.H0 p = none) (hP : ∀ q ∈ B.P, q.1 ≠ p) (nt : (∀ vs, o' ≠ .tup vs) ∧ ∀ ps, o' ≠ .tbl ps := by exact ⟨fun vs z => (by cases z), fun ps z => (by cases z)⟩) (nx : (∀ ps, o ≠ .tbl ps) ∧ ∀ c s, o ≠ LamX.CodeO c s := by exact ⟨fun ps z => (by cases z), fun c s z => (by unfold LamX.CodeO at z; cases z)⟩) : Rel K T (B.pr p o') w σ (upd H p o') fr h := by
 obtain ⟨R1, O, lo, e⟩ := R.unprotect e0 hP
 have tbx : ∀ q ∈ T.tabs, TabW w (upd H p o') q.1 q.2 := fun q hq => by
  obtain ⟨ps, e1, e2, e3⟩ := R1.tb q hq
  refine ⟨ps, by rw [upd_ne (fun z => nx.1 ps (by rw [z, e] at e1; exact Option.some.inj e1))]; exact e1, e2, fun pos cv hc => ?_⟩
  obtain ⟨c, q1, q2, q3⟩ := e3 pos cv hc
  exact ⟨c, q1, by rw [upd_ne (fun z => nx.2 c _ (by rw [z, e] at q2; rw [z]; exact Option.some.inj q2))]; exact q2, q3⟩
 refine Rel.protect { R1 with tb := tbx, keep := fun a u ha hm => ?_, prot := fun q hq => ?_, sub := fun a u ha => ?_, cel := fun n a c q1 q2 => ?_, sl := fun j s dj q1 q2 => ?_ } O lo upd_same nt
 · exact (R1.keep a u ha hm).upd fun z => by rw [z, e0] at ha; cases ha
 · obtain ⟨h1, h2, h3⟩ := R1.prot q hq
   exact ⟨by rw [upd_ne (hP q hq)]; exact h1, h2, h3⟩
 · rw [upd_ne (fun z => by rw [z, O.f] at ha; cases ha)]
   exact R1.sub a u ha
 · have hne : a ≠ p := fun z => O.i (by rw [← z]; exact ahq q1)
   exact Bc.keep (Wd.le_refl w) (upd_ne hne) (R1.cel n a c q1 q2)
 · have z := R1.sl j s dj q1 q2
   cases z with
   | none => exact .none
   | val r => exact .val r
   | @own q u _ O' eH' rr =>
     have hne : q ≠ p := fun z => lo j ⟨by rw [← z]; exact q1, _, q2, rr.own⟩
     exact .own O' (by rw [upd_ne hne]; exact eH') rr
end
def WG (X : Cx) (tg : Expr) : TG := fun v σ H Q => ∀ pins s u, Inv X pins σ H s → RelV v u → wpAny (model X.prog X.w) X.A (assign tg X.env u) (fun _ s' => ∃ σ' H', Inv X pins σ' H' s' ∧ Q σ' H') X.xe s
structure WI (X : Cx) (tg iter : Expr) (σ : L2.St) (H : Hp) (R : It → Hp → Prop) : Prop where
 go : ∀ pins s, Inv X pins σ H s → wpAny (model X.prog X.w) X.A (eval iter X.env) (fun v s1 => wpAny (model X.prog X.w) X.A (pyIter v) (PIE X pins σ tg R) X.xe s1) X.xe s
def Oz (X : Cx) (ifs : List Expr) : TT := fun σ H Q => ∀ pins s, Inv X pins σ H s →
    wpAny (model X.prog X.w) X.A (forIn ifs true fun c r => if r = true then do let ok ← isTrue c X.env (eval c X.env); pure (ForInStep.yield ok) else pure (ForInStep.yield r)) (TP X pins σ Q) X.xe s
section
variable {X : Cx} {tg iter : Expr} {ifs : List Expr}
theorem QJ : PG X tg (WG X tg) := ⟨fun pins s σ H v u Q I r h => h pins s u I r⟩
theorem Gx : PI X tg iter (WI X tg iter) := ⟨fun pins s σ H R I h => h.go pins s I⟩
theorem Zv {t : TG} (p : PG X tg t) {v : V} {σ : L2.St} {H : Hp} {Q : L2.St → Hp → Prop} (h : t v σ H Q) : WG X tg v σ H Q := fun pins s u I r => p.run pins s σ H v u Q I r h
theorem Ky {t : TI} (p : PI X tg iter t) {σ : L2.St} {H : Hp} {R : It → Hp → Prop} (h : t σ H R) : WI X tg iter σ H R := ⟨fun pins s I => p.run pins s σ H R I h⟩
theorem T8 {t : TT} (p : PTs X ifs t) {σ : L2.St} {H : Hp} {Q : Bool → Hp → Prop} (h : t σ H Q) : Oz X ifs σ H Q := fun pins s I => p.run pins s σ H Q I h
end
inductive wG (K : PySem.W.Frag) (T : Tb) (B : Bs) (σ : L2.St) (w : Wd) (H : Hp) (fr : Fr) : List V → List D → List Addr → Prop where
 | nil : wG K T B σ w H fr [] [] []
 | val {v : V} {d : D} {vs : List V} {ds : List D} {ps : List Addr} : bD K T w v d → wG K T B σ w H fr vs ds ps → wG K T B σ w H fr (v :: vs) (d :: ds) ps
 | own {p : Addr} {o : HO} {d : D} {vs : List V} {ds : List D} {ps : List Addr} : Own B w p → uW σ fr p → H p = some o → mX K T w o d → p ∉ ps → wG K T B σ w H fr vs ds ps → wG K T B σ w H fr (.ref p :: vs) (d :: ds) (p :: ps)
def Wn : iw (List V) (List D) := fun K T B σ w H fr vs ds => ∃ ps, wG K T B σ w H fr vs ds ps
abbrev Kz (X : Cx) (T : Tb) (W : WX) (es : List Expr) (m : M (List D)) : Prop := gj (WA X es) X.K T W Wn m
theorem wG.unpr {K : PySem.W.Frag} {T : Tb} {B : Bs} {σ : L2.St} {w : Wd} {H : Hp} {fr : Fr} {p : Addr} {o : HO} {vs : List V} {ds : List D} {ps : List Addr} (x : wG K T (B.pr p o) σ w H fr vs ds ps) : wG K T B σ w H fr vs ds ps ∧ p ∉ ps := by
 induction x with
 | nil => exact ⟨.nil, by simp⟩
 | val r _ ih => exact ⟨.val r ih.1, ih.2⟩
 | @own q u d vs ds ps O lo e r nq _ ih =>
   refine ⟨.own O.unpr lo e r nq ih.1, fun z => ?_⟩
   rcases List.mem_cons.mp z with z | z
   · exact O.p (p, o) (aht) z
   · exact ih.2 z
theorem wG.length {K : PySem.W.Frag} {T : Tb} {B : Bs} {σ : L2.St} {w : Wd} {H : Hp} {fr : Fr} {vs : List V} {ds : List D} {ps : List Addr} (x : wG K T B σ w H fr vs ds ps) : vs.length = ds.length := by
 induction x with
 | nil => rfl
 | val _ _ ih => exact congrArg Nat.succ ih
 | own _ _ _ _ _ _ ih => exact congrArg Nat.succ ih
theorem aJ.pr {α β : Type} {K : PySem.W.Frag} {T : Tb} {B : Bs} {W : WX} {VR VR' : Wd → Hp → Fr → β → α → Prop} {w : Wd} {σ : L2.St} {p : Addr} {o : HO} {r : R α} {Q Q' : β → Hp → Prop} (e0 : B.H0 p = none) (hP : ∀ q ∈ B.P, q.1 ≠ p) (x : aJ K T B W VR w σ r Q)
 (k : ∀ d fr h w' H' v, r = .ok d fr h → w.le w' → Rel K T (B.pr p o) w' σ H' fr h → VR' w' H' fr v d → (∀ w2 H2 v2, w.le w2 → Rel K T B w2 σ H2 fr h → VR w2 H2 fr v2 d → Q v2 H2) → Q' v H') : aJ K T (B.pr p o) W VR' w σ r Q' := by
 cases r with
 | ok d fr h => exact fun w' H' v l R z => k d fr h w' H' v rfl l R z x
 | exc e fr h => exact fun w' H' c dd l R z => x w' H' c dd l (R.unprotect e0 hP).1 z
 | err => exact x
section
variable {X : Cx} {T : Tb} {W : WX} {e : Expr} {es : List Expr} {m : M D} {ms : List (M D)}
theorem T9 : Kz X T W [] (aj []) := fun B w σ H fr h Q r1 p => Kr pa_nil (p w H _ (Wd.le_refl _) r1 ⟨[], .nil⟩)
theorem vh (s : mH X T W e m) (t : Kz X T W es (aj ms)) (hs : starEach (e :: es) X.env = (false, eval e X.env) :: starEach es X.env := by exact cJ rfl) : Kz X T W (e :: es) (aj (m :: ms)) := fun B w σ H fr h Q r1 p =>
 Kr (pa_cons aV vK hs) (s B w σ H fr h _ r1 (aJ.bind (VR := vE X.K T B σ) p fun d fr1 h1 w1 H1 x e1 l1 r1 rx p1 => by
  rcases rx with rx | ⟨q, o, rfl, O, lo, eH, rd⟩
  · exact t B w1 σ H1 fr1 h1 _ r1 (aJ.bind (VR := Wn X.K T B σ) p1 fun ds fr2 h2 w2 H2 vs e2 l2 r2 ⟨ps, rs⟩ p2 => p2 w2 H2 _ (Wd.le_refl _) r2 ⟨ps, .val (rx.mono l2) rs⟩)
  · refine t (B.pr q o) w1 σ H1 fr1 h1 _ (r1.protect O lo eH ⟨fun vs z => (by subst z; cases rd), fun ps z => (by subst z; cases rd)⟩) ?_
    have p1' : aJ X.K T B W (Wn X.K T B σ) w1 σ ((aj ms).bind (fun ds => M.ret (d :: ds)) fr1 h1) Q := p1
    cases e2 : aj ms fr1 h1 with
    | ok ds fr2 h2 =>
      rw [M.bind_ok e2] at p1'
      intro w2 H2 vs l2 r2 ⟨ps, rs⟩
      obtain ⟨r3, O3, lo3, eH3⟩ := r2.unprotect O.e O.p
      obtain ⟨rs', np⟩ := rs.unpr
      exact p1' w2 H2 (.ref q :: vs) l2 r3 ⟨q :: ps, .own O3 lo3 eH3 (rd.mono l2) np rs'⟩
    | exc y fr2 h2 =>
      rw [M.bind_exc e2] at p1'
      exact fun w' H' c dd l R z => p1' w' H' c dd l (R.unprotect O.e O.p).1 z
    | err =>
      rw [M.bind_err e2] at p1'
      exact p1'))
end
def Ii (is : List Nat) (σ' σ : L2.St) : Prop := σ'.length = σ.length ∧ ∀ j : Nat, j ∉ is → σ'[j]? = σ[j]?
def Be (X : Cx) (T : Tb) (is : List Nat) (tg : Expr) (mg : D → M Unit) : Prop := ∀ B w σ H fr h x d (Q : L2.St → Hp → Prop), Rel X.K T B w σ H fr h → bD X.K T w x d →
 (match mg d fr h with
  | .ok _ fr' h' => ∀ w' σ' H', w.le w' → Rel X.K T B w' σ' H' fr' h' → Ii is σ' σ → Q σ' H'
  | _ => False) → WG X tg x σ H Q
def Qe (X : Cx) (T : Tb) (is : List Nat) (tgs : List Expr) (mg : List D → M Unit) : Prop := ∃ t, PGs X tgs t ∧ ∀ B w σ H fr h xs ds (Q : L2.St → Hp → Prop), Rel X.K T B w σ H fr h → az X.K T w xs ds →
 (match mg ds fr h with
  | .ok _ fr' h' => ∀ w' σ' H', w.le w' → Rel X.K T B w' σ' H' fr' h' → Ii is σ' σ → Q σ' H'
  | _ => False) → t xs σ H Q
def bM (i : Nat) (d : D) : M Unit := fun fr h => .ok () (fr.set i (some d)) h
def DK : List D → M Unit
 | [] => M.ret ()
 | _ => M.opt none
def uJ (g : D → M Unit) (gs : List D → M Unit) : List D → M Unit
 | [] => M.opt none
 | d :: ds => (g d).bind fun _ => gs ds
def DN (n : Nat) (gs : List D → M Unit) (d : D) : M Unit := match d with
 | .tup l => if l.length = n then gs l else M.opt none
 | _ => M.opt none
section
variable {X : Cx} {T : Tb} {W : WX} {k : Nat} {pos : Pos} {tg : Expr} {tgs : List Expr} {g : D → M Unit} {gs : List D → M Unit} {is js : List Nat}
theorem fM (C : Cq X T W k) (i : Nat) {x : Str} (hi : X.N[i]? = some x := by rfl) (hx : Loc X.env.scope x := by first | exact Or.inl rfl | exact Or.inr rfl) (hf : X.fn x = true ∨ X.env.scope.names.lookup x = some .local := by first | exact .inl rfl | exact .inr rfl) :
 Be X T [i] (.Name x pos) (bM i) := fun B w σ H fr h v d Q R rd p => Zv (pg_name C.nd hi hx hf) (p w _ H (Wd.le_refl _) (R.set_slot (.val rd) (fun _ _ _ e od => by
 cases e
 exact (rA od rd).elim) fun _ _ e => by
 cases e
 exact wM rd) ⟨ahv, fun j hj => by
  rw [ahs]
  intro e
  exact hj (by simp [e])⟩)
theorem Ua : Qe X T [] [] DK := ⟨_, pgs_nil, fun B w σ H fr h vs ds Q R rd p => by
 cases rd with
 | nil => exact ⟨rfl, p w σ H (Wd.le_refl _) R ⟨rfl, fun _ _ => rfl⟩⟩
 | cons _ _ => exact p.elim⟩
theorem DP (s : Be X T is tg g) (t : Qe X T js tgs gs) (hs : (assignEach (tg :: tgs) X.env).map (·.2) = assign tg X.env :: (assignEach tgs X.env).map (·.2) := by rfl) : Qe X T (is ++ js) (tg :: tgs) (uJ g gs) := by
 obtain ⟨u, pu, t⟩ := t
 refine ⟨_, pgs_cons QJ pu hs, fun B w σ H fr h vs ds Q R rd p => ?_⟩
 cases rd with
 | nil => exact p.elim
 | @cons v d vr dr r rr =>
   refine ⟨v, vr, rfl, s B w σ H fr h v d _ R r ?_⟩
   have p' : (match (g d).bind (fun _ => gs dr) fr h with
    | .ok _ fr' h' => ∀ w' σ' H', w.le w' → Rel X.K T B w' σ' H' fr' h' → Ii (is ++ js) σ' σ → Q σ' H'
    | _ => False) := p
   cases e : g d fr h with
   | ok _ fr1 h1 =>
     rw [M.bind_ok e] at p'
     intro w1 σ1 H1 l1 R1 k1
     refine t B w1 σ1 H1 fr1 h1 vr dr Q R1 (rr.mono l1) ?_
     cases e2 : gs dr fr1 h1 with
     | ok _ fr2 h2 =>
       rw [e2] at p'
       exact fun w2 σ2 H2 l2 R2 k2 => p' w2 σ2 H2 (Wd.le_trans l1 l2) R2 ⟨k2.1.trans k1.1, fun j hj => by
        rw [List.mem_append, not_or] at hj
        rw [k2.2 j hj.2, k1.2 j hj.1]⟩
     | exc _ _ _ => rw [e2] at p'; exact p'
     | err => rw [e2] at p'; exact p'
   | exc y fr1 h1 =>
     rw [M.bind_exc e] at p'
     exact p'.elim
   | err =>
     rw [M.bind_err e] at p'
     exact p'.elim
theorem Wo (C : Cq X T W k) {kk : Nat} {n : Nat} (t : Qe X T is tgs gs) (hn : (assignEach tgs X.env).length = n := by rfl) (hst : (assignEach tgs X.env).findIdx? (·.1) = none := by rfl) : Be X T is (.Tuple tgs kk pos) (DN n gs) := by
 obtain ⟨u, pu, t⟩ := t
 refine fun B w σ H fr h x d Q R rd p => Zv (pg_tup C.calm pu hn hst) ?_
 cases d with
 | tup l =>
   have p' : (match (if l.length = n then gs l else M.opt none) fr h with
    | .ok _ fr' h' => ∀ w' σ' H', w.le w' → Rel X.K T B w' σ' H' fr' h' → Ii is σ' σ → Q σ' H'
    | _ => False) := p
   by_cases hl : l.length = n
   · rw [if_pos hl] at p'
     obtain ⟨a, vs, rfl, sq, rl⟩ := vC rd
     exact ⟨a, vs, rfl, eG R.sub sq, rl.length.trans hl, t B w σ H fr h vs l Q R rl p'⟩
   · rw [if_neg hl] at p'
     exact p'.elim
 | _ => exact (show False from p).elim
def nW : List Nat → List D → Fr → Option Fr
 | [], [], fr => some fr
 | i :: is, d :: ds, fr => nW is ds (fr.set i (some d))
 | _, _, _ => none
theorem Rel.putV {K : PySem.W.Frag} {B : Bs} {w : Wd} {σ : L2.St} {H : Hp} {fr : Fr} {h : Hh} {v : V} {d : D} (R : Rel K T B w σ H fr h) (i : Nat) (r : bD K T w v d) : Rel K T B w (σ.set i (some v)) H (fr.set i (some d)) h :=
 R.set_slot (.val r) (fun _ _ _ e od => by
  cases e
  exact (rA od r).elim) fun _ _ e => by
  cases e
  exact wM r
theorem Rel.put {K : PySem.W.Frag} {B : Bs} {w : Wd} {σ : L2.St} {H : Hp} {fr : Fr} {h : Hh} {v : V} {d : D} (R : Rel K T B w σ H fr h) (i : Nat) (hi : i ≠ 0) (x : vE K T B σ w H fr v d) : Rel K T B w (σ.set i (some v)) H (fr.set i (some d)) h := by
 rcases x with r | ⟨p, o, rfl, O, lo, e, r⟩
 · exact R.putV i r
 · exact R.set_slot (.own O e r) (fun q d' e1 e2 od => by
    cases e1
    cases e2
    exact lo) fun z => (hi z).elim
theorem Gy {σ : L2.St} {fr : Fr} {i : Nat} {v : V} {d : D} {p : Addr} (lo : uW σ fr p) (hv : d.own = true → v ≠ .ref p) : uW (σ.set i (some v)) (fr.set i (some d)) p := fun j z => by
 obtain ⟨e1, dd, e2, od⟩ := z
 by_cases hj : i = j
 · subst hj
   have l1 : i < σ.length := by
    have := (List.getElem?_eq_some_iff.mp e1).1
    rwa [ahv] at this
   have l2 : i < fr.length := by
    have := (List.getElem?_eq_some_iff.mp e2).1
    rwa [ahv] at this
   rw [ahp l1] at e1
   rw [ahp l2] at e2
   cases e1
   cases e2
   exact hv od rfl
 · rw [ahs hj] at e1 e2
   exact lo j ⟨e1, dd, e2, od⟩
theorem wG.set {K : PySem.W.Frag} {B : Bs} {w : Wd} {σ : L2.St} {H : Hp} {fr : Fr} {vs : List V} {ds : List D} {ps : List Addr} {i : Nat} {v : V} {d : D} (x : wG K T B σ w H fr vs ds ps) (hv : ∀ p ∈ ps, d.own = true → v ≠ .ref p) :
 wG K T B (σ.set i (some v)) w H (fr.set i (some d)) vs ds ps := by
 induction x with
 | nil => exact .nil
 | val r _ ih => exact .val r (ih hv)
 | own O lo e r nq _ ih => exact .own O (Gy lo (hv _ (aht))) e r nq (ih fun q hq => hv q (ahx _ hq))
def Qg (X : Cx) (T : Tb) (is : List Nat) (tgs : List Expr) : Prop := ∃ t, PGs X tgs t ∧ ∀ B w σ H fr fr' h xs ds ps (Q : L2.St → Hp → Prop), Rel X.K T B w σ H fr h → wG X.K T B σ w H fr xs ds ps → nW is ds fr = some fr' →
 (∀ σ', Rel X.K T B w σ' H fr' h → Q σ' H) → t xs σ H Q
theorem aab : Qg X T [] [] := ⟨_, pgs_nil, fun B w σ H fr fr' h xs ds ps Q R rs e q => by
 cases rs with
 | nil =>
   cases e
   exact ⟨rfl, q σ R⟩
 | val _ _ => cases e
 | own _ _ _ _ _ _ => cases e⟩
theorem yZ (C : Cq X T W k) (i : Nat) {x : Str} (t : Qg X T is tgs) (hs : (assignEach (.Name x pos :: tgs) X.env).map (·.2) = assign (.Name x pos) X.env :: (assignEach tgs X.env).map (·.2) := by rfl)
 (hi : X.N[i]? = some x := by rfl) (hx : Loc X.env.scope x := by first | exact Or.inl rfl | exact Or.inr rfl) (hf : X.fn x = true ∨ X.env.scope.names.lookup x = some .local := by first | exact .inl rfl | exact .inr rfl) (h0 : i ≠ 0 := by decide) : Qg X T (i :: is) (.Name x pos :: tgs) := by
 obtain ⟨u, pu, t⟩ := t
 refine ⟨_, pgs_cons (pg_name C.nd hi hx hf) pu hs, fun B w σ H fr fr' h xs ds ps Q R rs e q => ?_⟩
 cases rs with
 | nil => cases e
 | val r rr => exact ⟨_, _, rfl, t B w _ H _ fr' h _ _ _ Q (R.put i h0 (.inl r)) (rr.set fun p _ od => (rA od r).elim) e q⟩
 | own O lo eH r nq rr => exact ⟨_, _, rfl, t B w _ H _ fr' h _ _ _ Q (R.put i h0 (.inr ⟨_, _, rfl, O, lo, eH, r⟩)) (rr.set fun p hp _ z => by
  cases z
  exact nq hp) e q⟩
end
def vJ : iw It (List D) := fun K T _ _ w _ _ J ds => ∀ i w1 H1, w.le w1 → (∀ a o, w1.F a = some o → H1 a = some o) →
 (ds.length ≤ i → J.stop i H1) ∧ ∀ d, ds[i]? = some d → J.go i H1 ∧ ∀ x H2, J.yld i H1 x H2 → ∀ B σ fr h, Rel K T B w1 σ H1 fr h → ∃ w2, w1.le w2 ∧ Rel K T B w2 σ H2 fr h ∧ bD K T w2 x d
abbrev DQ (X : Cx) (T : Tb) (W : WX) (tg iter : Expr) (m : M (List D)) : Prop := gj (WI X tg iter) X.K T W vJ m
section
variable {X : Cx} {T : Tb} {W : WX} {k : Nat} {pos p pf tpos : Pos} {tg e a b : Expr} {m ma mb : M D}
def sY (m : M D) : M (List D) := m.bind fun d => M.opt (d.its [])
theorem aac {K : PySem.W.Frag} {w : Wd} {v : V} {d : D} {l : List D} (r : bD K T w v d) (e : d.its [] = some l) : ∃ p vs, v = .ref p ∧ az K T w vs l ∧ (SqT K w.F p vs ∨ SqL K w.F p vs) := by
 cases r with
 | tup s r =>
   have e' : some _ = some l := e
   cases e'
   exact ⟨_, _, rfl, r, .inl s⟩
 | fl s r =>
   have e' : some _ = some l := e
   cases e'
   exact ⟨_, _, rfl, r, .inr (SqL.of s)⟩
 | kl s r =>
   have e' : some _ = some l := e
   cases e'
   exact ⟨_, _, rfl, r, .inr s⟩
 | tp s r =>
   have e' : some _ = some l := e
   cases e'
   exact ⟨_, _, rfl, r, .inl (.inl (.inl s))⟩
 | ref s => cases e
 | _ => cases e
def aee (K : PySem.W.Frag) (tl : TE) : TI := fun σ H R => tl σ H fun x H1 => ∃ a, x = .ref a ∧ (((∃ xs, SqT K H1 a xs) ∧ R (Itt K a) H1) ∨ ((∃ xs, SqL K H1 a xs) ∧ R (Itl K a) H1))
open PyProof.Rows in
theorem Wr {l : Expr} {tl : TE} (hl : PE X l tl) : PI X tg l (aee X.K tl) := by
 refine ⟨fun pins s σ H R I h => ?_⟩
 refine thn (hl.run pins s σ H _ I h) fun v s1 ⟨x, H1, I1, r1, q1⟩ => ?_
 obtain ⟨a, e, ⟨⟨xs, hq⟩, q⟩ | ⟨⟨xs, hq⟩, q⟩⟩ := q1
 · subst e
   cases r1
   obtain ⟨its, rv, p, hz⟩ := I1.tuple hq
   refine wpAny_pyIter_tuple (show s1.heap.IsTuple a its.toArray from p) ?_
   refine ⟨s1.heap.objs.size, [s1.heap.objs.size], _, _, H1, rfl, I1.kept (t' := s1.toks) fun b o e => Heap.get?_push_of_some _ e, turn_tuple a _, ⟨_, Heap.get?_push_size _ rfl, rfl, rfl⟩, fun b hb => ?_, q⟩
   have e : b = s1.heap.objs.size := by simpa using hb
   subst e
   exact I1.fpOk (Nat.le_refl _) (I1.hok.fresh (Nat.le_refl _))
 · subst e
   cases r1
   obtain ⟨its, rv, p, hz⟩ := I1.list hq
   refine wpAny_pyIter_list p.isList ?_
   refine ⟨s1.heap.objs.size, [s1.heap.objs.size], _, _, H1, rfl, I1.kept (t' := s1.toks) fun b o e => Heap.get?_push_of_some _ e, turn_list a _, ⟨_, Heap.get?_push_size _ rfl, rfl, rfl⟩, fun b hb => ?_, q⟩
   have e : b = s1.heap.objs.size := by simpa using hb
   subst e
   exact I1.fpOk (Nat.le_refl _) (I1.hok.fresh (Nat.le_refl _))
theorem abq {K : PySem.W.Frag} {B : Bs} {σ : L2.St} {w : Wd} {H : Hp} {fr : Fr} {a : Addr} {vs : List V} {l : List D} (sq : SqT K w.F a vs) (rl : az K T w vs l) : vJ K T B σ w H fr (Itt K a) l := fun i w2 H2 l2 hs => ⟨fun hi => ⟨vs, eG hs (eG l2.1 sq), by rw [rl.length]; exact hi⟩, fun d' hd => by
 obtain ⟨v, hv, rv⟩ := rl.get hd
 refine ⟨⟨vs, v, eG hs (eG l2.1 sq), hv⟩, fun y H3 hy B' σ' fr' h' R' => ?_⟩
 obtain ⟨rfl, hy⟩ := hy
 have z := hy vs (eG hs (eG l2.1 sq))
 rw [hv] at z
 cases z
 exact ⟨w2, Wd.le_refl _, R', rv.mono l2⟩⟩
theorem abr {K : PySem.W.Frag} {B : Bs} {σ : L2.St} {w : Wd} {H : Hp} {fr : Fr} {a : Addr} {vs : List V} {l : List D} (sq : SqL K w.F a vs) (rl : az K T w vs l) : vJ K T B σ w H fr (Itl K a) l := fun i w2 H2 l2 hs => ⟨fun hi => ⟨vs, jK hs (jK l2.1 sq), by rw [rl.length]; exact hi⟩, fun d' hd => by
 obtain ⟨v, hv, rv⟩ := rl.get hd
 refine ⟨⟨vs, v, jK hs (jK l2.1 sq), hv⟩, fun y H3 hy B' σ' fr' h' R' => ?_⟩
 obtain ⟨rfl, hy⟩ := hy
 have z := hy vs (jK hs (jK l2.1 sq))
 rw [hv] at z
 cases z
 exact ⟨w2, Wd.le_refl _, R', rv.mono l2⟩⟩
theorem uK (s : aR X T W e m) : DQ X T W tg e (sY m) := fun B w σ H fr h Q r p => Ky (Wr aV) (s B w σ H fr h _ r (aJ.bind (VR := vV X.K T B σ) p fun d fr1 h1 w1 H1 x e1 l1 r1 rx p1 => by
 cases q : d.its [] with
 | none => rw [q] at p1; exact p1.elim
 | some l =>
   rw [q] at p1
   obtain ⟨a, vs, rfl, rl, sq⟩ := aac rx q
   refine ⟨a, rfl, ?_⟩
   rcases sq with sq | sq
   · exact .inl ⟨⟨vs, eG r1.sub sq⟩, p1 w1 H1 (Itt X.K a) (Wd.le_refl _) r1 (abq sq rl)⟩
   · exact .inr ⟨⟨vs, jK r1.sub sq⟩, p1 w1 H1 (Itl X.K a) (Wd.le_refl _) r1 (abr sq rl)⟩))
def fj (lo : Int) (n : Nat) : List D := (List.range n).map fun (i : Nat) => D.int (lo + (i : Int))
def jc (i : Int) : Bool := decide (-(2 ^ 62) ≤ i) && decide (i < 2 ^ 62)
theorem QK {i : Int} (h : jc i = true) : -(2 ^ 62) ≤ i ∧ i < 2 ^ 62 := by
 obtain ⟨h1, h2⟩ := Bool.and_eq_true_iff.mp h
 exact ⟨of_decide_eq_true h1, of_decide_eq_true h2⟩
def sG (m : M D) : M (List D) := m.bind fun d => M.opt (match d with
 | .int j => if jc j then some (fj 0 j.toNat) else none
 | _ => none)
def sH (ma mb : M D) : M (List D) := ma.bind fun x => mb.bind fun y => M.opt (match x, y with
 | .int i, .int j => if jc i && jc j then some (fj i (j - i).toNat) else none
 | _, _ => none)
theorem Ws {K : PySem.W.Frag} {B : Bs} {σ : L2.St} {w : Wd} {H : Hp} {fr : Fr} (lo : Int) (n : Nat) : vJ K T B σ w H fr (Itr lo n) (fj lo n) := fun i w2 H2 l2 hs => ⟨fun hi => by
 have hi' : (fj lo n).length ≤ i := hi
 unfold fj at hi'
 rw [ahk, List.length_range] at hi'
 exact hi', fun d' hd => by
 unfold fj at hd
 rw [ahy] at hd
 obtain ⟨j, hj, rfl⟩ := Option.map_eq_some_iff.mp hd
 obtain ⟨hl, ej⟩ := List.getElem?_eq_some_iff.mp hj
 rw [List.length_range] at hl
 rw [List.getElem_range] at ej
 subst ej
 refine ⟨hl, fun y H3 hy B' σ' fr' h' R' => ?_⟩
 obtain ⟨rfl, rfl⟩ := hy
 exact ⟨w2, Wd.le_refl _, R', .int _⟩⟩
theorem Ij (s : aR X T W a ma) (hm : X.mg "range" = none) (hg : Gl X "range" := by rfl) (hs : starEach [a] X.env = [(false, eval a X.env)] := by rfl) : DQ X T W tg (.Call (.Name "range" p) [a] [] pos) (sG ma) := fun B w σ H fr h Q r p =>
 Ky (pi_range1 hg hm (pa_cons aV pa_nil (hs.trans (by rfl))) hs) (s B w σ H fr h _ r (aJ.bind (VR := vV X.K T B σ) p fun d fr1 h1 w1 H1 x e1 l1 r1 rx p1 => by
  cases rx with
  | int j =>
    dsimp only at p1
    cases hj : jc j with
    | false => rw [hj] at p1; exact (show False from p1).elim
    | true =>
      rw [hj] at p1
      obtain ⟨h1', h2'⟩ := QK hj
      exact ⟨j, rfl, h1', h2', p1 w1 H1 (Itr 0 j.toNat) (Wd.le_refl _) r1 (Ws 0 _)⟩
  | _ => exact (show False from p1).elim))
theorem MN (sa : aR X T W a ma) (sb : aR X T W b mb) (hm : X.mg "range" = none) (hg : Gl X "range" := by rfl) (hs : starEach [a, b] X.env = [(false, eval a X.env), (false, eval b X.env)] := by rfl) (hs2 : starEach [b] X.env = [(false, eval b X.env)] := by rfl) :
 DQ X T W tg (.Call (.Name "range" p) [a, b] [] pos) (sH ma mb) := fun B w σ H fr h Q r p =>
 Ky (pi_range2 hg hm (pa_cons aV (pa_cons aV pa_nil (hs2.trans (by rfl))) (hs.trans (by rw [hs2]))) hs hs2) (sa B w σ H fr h _ r (aJ.bind (VR := vV X.K T B σ) p fun d fr1 h1 w1 H1 x e1 l1 r1 rx p => sb B w1 σ H1 fr1 h1 _ r1 (aJ.bind (VR := vV X.K T B σ) p fun d2 fr2 h2 w2 H2 y e2 l2 r2 ry p1 => by
  have bad : ¬ (∃ i j, d = .int i ∧ d2 = .int j ∧ (jc i && jc j) = true) → False := fun hn => by
   revert p1
   split
   · rename_i i j
     cases hc : jc i && jc j with
     | false => exact fun p1 => p1
     | true => exact fun _ => hn ⟨i, j, rfl, rfl, hc⟩
   · exact fun p1 => p1
  by_cases hh : ∃ i j, d = .int i ∧ d2 = .int j ∧ (jc i && jc j) = true
  · obtain ⟨i, j, rfl, rfl, hc⟩ := hh
    cases rx
    cases ry
    dsimp only at p1
    rw [hc] at p1
    obtain ⟨hi, hj⟩ := Bool.and_eq_true_iff.mp hc
    obtain ⟨h1', h2'⟩ := QK hi
    obtain ⟨h3', h4'⟩ := QK hj
    exact ⟨i, j, rfl, ⟨h1', h2', h3', h4'⟩, p1 w2 H2 (Itr i (j - i).toNat) (Wd.le_refl _) r2 (Ws i _)⟩
  · exact (bad hh).elim)))
end
end Pk
namespace Pk
open PySem PySem.Spec L2
inductive Fl where
 | nx | brk | ct | rt (d : D)
def cC (K : PySem.W.Frag) (T : Tb) (B : Bs) (W : WX) (w : Wd) (r : R Fl) (D : Ends) : Prop :=
 match r with
 | .ok .nx fr h => ∀ w' σ' H', w.le w' → Rel K T B w' σ' H' fr h → D.nx σ' H'
 | .ok .brk fr h => ∀ w' σ' H', w.le w' → Rel K T B w' σ' H' fr h → D.bk σ' H'
 | .ok .ct fr h => ∀ w' σ' H', w.le w' → Rel K T B w' σ' H' fr h → D.ct σ' H'
 | .ok (.rt d) fr h => ∀ w' σ' H' v, w.le w' → Rel K T B w' σ' H' fr h → vE K T B σ' w' H' fr v d → D.rt v H'
 | .exc x fr h => ∀ w' σ' H' cls dd, w.le w' → Rel K T B w' σ' H' fr h → JB K T w' x cls dd → W cls dd σ' H'
 | .err => False
def qu (X : Cx) (T : Tb) (W : WX) (st : Stmt) (m : M Fl) : Prop := ∀ (B : Bs) (w : Wd) (σ : L2.St) (H : Hp) (fr : Fr) (h : Hh) (D : Ends), Rel X.K T B w σ H fr h → cC X.K T B W w (m fr h) D → WS X st D σ H
def uX (X : Cx) (T : Tb) (W : WX) (sts : List Stmt) (m : M Fl) : Prop := ∀ (B : Bs) (w : Wd) (σ : L2.St) (H : Hp) (fr : Fr) (h : Hh) (D : Ends), Rel X.K T B w σ H fr h → cC X.K T B W w (m fr h) D → Jm X sts D σ H
section
variable {K : PySem.W.Frag} {T : Tb} {B : Bs} {W : WX} {w w' : Wd} {σ : L2.St} {H : Hp}
theorem cC.le {r : R Fl} {D : Ends} (x : w.le w') (p : cC K T B W w r D) : cC K T B W w' r D := by
 cases r with
 | ok f fr h =>
   cases f with
   | rt d => exact fun w2 σ2 H2 v y => p w2 σ2 H2 v (Wd.le_trans x y)
   | _ => exact fun w2 σ2 H2 y => p w2 σ2 H2 (Wd.le_trans x y)
 | exc e fr h => exact fun w2 σ2 H2 c d y => p w2 σ2 H2 c d (Wd.le_trans x y)
 | err => exact p
theorem cC.bind {α β : Type} {VR : Wd → Hp → Fr → β → α → Prop} {m : M α} {f : α → M Fl} {fr : Fr} {h : Hh} {D : Ends} {Q : β → Hp → Prop} (p : cC K T B W w (m.bind f fr h) D)
 (k : ∀ d fr1 h1 w1 H1 v, m fr h = .ok d fr1 h1 → w.le w1 → Rel K T B w1 σ H1 fr1 h1 → VR w1 H1 fr1 v d → cC K T B W w1 (f d fr1 h1) D → Q v H1) : aJ K T B W VR w σ (m fr h) Q := by
 cases e : m fr h with
 | ok d fr1 h1 =>
   rw [M.bind_ok e] at p
   exact fun w1 H1 v x r z => k d fr1 h1 w1 H1 v e x r z (p.le x)
 | exc y fr1 h1 =>
   rw [M.bind_exc e] at p
   exact fun w1 H1 c dd x r z => p w1 σ H1 c dd x r z
 | err =>
   rw [M.bind_err e] at p
   exact p
end
def aC (m n : M Fl) : M Fl := m.bind fun f => match f with
 | .nx => n
 | f => M.ret f
def aU (t : M Bool) (m n : M Fl) : M Fl := t.bind fun b => if b then m else n
def iK {α : Type} (m : M α) : M Fl := m.bind fun _ => M.ret .nx
def aO (m : M D) : M Fl := m.bind fun d => M.ret (.rt d)
def bh (i : Nat) (m : M D) : M Fl := m.bind fun d fr h => .ok .nx (fr.set i (some d)) h
def agc (m : M D) (g : D → M Unit) : M Fl := m.bind fun d fr h => match g d fr h with
 | .ok _ fr h => .ok .nx fr h
 | _ => .err
def uY (is : List Nat) (m : M (List D)) : M Fl := m.bind fun ds fr h => match nW is ds fr with
 | some fr' => if ds.length ≤ big then .ok .nx fr' h else .err
 | none => .err
section
variable {X : Cx} {T : Tb} {W : WX} {k : Nat} {pos pos' p2 : Pos} {e a b c : Expr} {st : Stmt} {sts as bs : List Stmt} {m : M D} {s n : M Fl} {t : M Bool} {es : List Expr}
theorem cV : uX X T W [] (M.ret .nx) := fun B w σ H fr h D R p => HY pss_nil (p w σ H (Wd.le_refl _) R)
theorem aK (s1 : qu X T W st s) (s2 : uX X T W sts n) : uX X T W (st :: sts) (aC s n) := fun B w σ H fr h D R p =>
 HY (pss_cons Qt ug) (s1 B w σ H fr h _ R (by
  unfold aC at p
  cases e : s fr h with
  | ok f fr1 h1 =>
    rw [M.bind_ok e] at p
    cases f with
    | nx => exact fun w1 σ1 H1 l R1 => s2 B w1 σ1 H1 fr1 h1 D R1 (p.le l)
    | _ => exact p
  | exc y fr1 h1 => rw [M.bind_exc e] at p; exact p
  | err => rw [M.bind_err e] at p; exact p))
theorem aN (s1 : qu X T W st s) : uX X T W [st] s := fun B w σ H fr h D R p => HY (pss_one Qt) (s1 B w σ H fr h _ R p)
theorem za {VR : iw V D} (s : gj (WE X e) X.K T W VR m) (hs : swapsWith e none pos.line X.env = pure false := by rfl) : qu X T W (.Expr e pos) (iK m) := fun B w σ H fr h D R p =>
 oZ (ps_expr aV hs) (s B w σ H fr h _ R (cC.bind (VR := VR X.K T B σ) p fun d fr1 h1 w1 H1 v e1 l1 r1 rx p1 => p1 w1 σ H1 (Wd.le_refl _) r1))
theorem s_ret (s : mH X T W e m) : qu X T W (.Return (some e) pos) (aO m) := fun B w σ H fr h D R p =>
 oZ (ps_ret aV) (s B w σ H fr h _ R (cC.bind (VR := vE X.K T B σ) p fun d fr1 h1 w1 H1 v e1 l1 r1 rx p1 => p1 w1 σ H1 v (Wd.le_refl _) r1 rx))
theorem dG (st : vL X T W c t) (sa : uX X T W as s) (sb : uX X T W bs n) : qu X T W (.If c as bs pos) (aU t s n) := fun B w σ H fr h D R p =>
 oZ (ps_if xT ug ug) (st B w σ H fr h _ R (cC.bind (VR := vB X.K T B σ) p fun d fr1 h1 w1 H1 x e1 l1 r1 rx p1 => by
  have rx' : x = d := rx
  subst rx'
  cases x with
  | true => exact sa B w1 σ H1 fr1 h1 D r1 p1
  | false => exact sb B w1 σ H1 fr1 h1 D r1 p1))
theorem MP : qu X T W st (fun _ _ => .err) := fun B w σ H fr h D R p => p.elim
theorem nY (C : Cq X T W k) (i : Nat) {x : Str} (s : mH X T W e m) (hs : swapsWith e (some (.Name x pos')) pos.line X.env = pure false := by rfl) (hi : X.N[i]? = some x := by rfl) (hx : Loc X.env.scope x := by first | exact Or.inl rfl | exact Or.inr rfl)
 (hf : X.fn x = true ∨ X.env.scope.names.lookup x = some .local := by first | exact .inl rfl | exact .inr rfl) (h0 : i ≠ 0 := by decide) : qu X T W (.Assign [.Name x pos'] e pos) (bh i m) := fun B w σ H fr h D R p =>
 oZ (ps_set C.nd hi hx aV hs hf) (s B w σ H fr h _ R (cC.bind (VR := vE X.K T B σ) p fun d fr1 h1 w1 H1 v e1 l1 r1 rx p1 => p1 w1 _ H1 (Wd.le_refl _) (r1.put i h0 rx)))
theorem uL (C : Cq X T W k) (i : Nat) {x : Str} (s : aR X T W e m) (hs : swapsWith e (some (.Name x pos')) pos.line X.env = pure false := by rfl) (hi : X.N[i]? = some x := by rfl) (hx : Loc X.env.scope x := by first | exact Or.inl rfl | exact Or.inr rfl)
 (hf : X.fn x = true ∨ X.env.scope.names.lookup x = some .local := by first | exact .inl rfl | exact .inr rfl) : qu X T W (.Assign [.Name x pos'] e pos) (bh i m) := fun B w σ H fr h D R p =>
 oZ (ps_set C.nd hi hx aV hs hf) (s B w σ H fr h _ R (cC.bind (VR := vV X.K T B σ) p fun d fr1 h1 w1 H1 v e1 l1 r1 rx p1 => p1 w1 _ H1 (Wd.le_refl _) (r1.putV i rx)))
theorem wG.temp {K : PySem.W.Frag} {B : Bs} {σ : L2.St} {w : Wd} {H : Hp} {fr : Fr} {vs : List V} {ds : List D} {ps : List Addr} {p : Addr} {o : HO} (x : wG K T B σ w H fr vs ds ps) (np : H p = none) : wG K T B σ w (upd H p o) fr vs ds ps := by
 induction x with
 | nil => exact .nil
 | val r _ ih => exact .val r ih
 | own O lo e r nq _ ih => exact .own O lo (by rw [upd_ne (ne_of_none e np)]; exact e) r nq ih
theorem QL : ∀ (is : List Nat) (ds : List D) (fr fr' : Fr), nW is ds fr = some fr' → ds.length = is.length
 | [], [], _, _, _ => rfl
 | [], _ :: _, _, _, q => by cases q
 | _ :: _, [], _, _, q => by cases q
 | _ :: is, _ :: ds, _, fr', q => congrArg Nat.succ (QL is ds _ fr' q)
theorem abt (C : Cq X T W k) {tgs : List Expr} {is : List Nat} {kk x1 : Nat} {n : Nat} {ms : M (List D)} (se : Kz X T W es ms) (g : Qg X T is tgs) (hn : (assignEach tgs X.env).length = n := by rfl) (hl : is.length = n := by rfl) (hst : (assignEach tgs X.env).findIdx? (·.1) = none := by rfl)
 (hs : swapsWithSole [.Tuple tgs kk pos'] (.Tuple es x1 p2) pos.line X.env = pure false := by rfl) (hw : swappedStores [.Tuple tgs kk pos'] (.Tuple es x1 p2) X.env = pure none := by rfl)
 (h1 : (assignEach [.Tuple tgs kk pos'] X.env).map (·.2) = [assign (.Tuple tgs kk pos') X.env] := by rfl) : qu X T W (.Assign [.Tuple tgs kk pos'] (.Tuple es x1 p2) pos) (uY is ms) := by
 obtain ⟨u, pu, g⟩ := g
 refine fun B w σ H fr h D R p => oZ (ps_asg (pe_tup vK) (pg_tup C.calm pu hn hst) hs hw h1) (se B w σ H fr h _ R (cC.bind (VR := Wn X.K T B σ) p fun ds fr1 h1 w1 H1 vs e1 l1 r1 ⟨ps, rs⟩ p1 => ?_))
 cases q : nW is ds fr1 with
 | none => rw [q] at p1; exact p1.elim
 | some fr' =>
   rw [q] at p1
   dsimp only at p1
   by_cases hb : ds.length ≤ big
   · rw [if_pos hb] at p1
     refine ⟨by rw [rs.length]; exact lK hb, fun a na => ⟨a, vs, rfl, SqT.of upd_same, ?_, ?_⟩⟩
     · rw [rs.length, QL _ _ _ _ q, hl]
     · exact g B w1 σ (upd H1 a (.tup vs)) fr1 fr' h1 vs ds ps _ (r1.temp na) (rs.temp na) q fun σ' R' => p1 w1 σ' _ (Wd.le_refl _) R'
   · rw [if_neg hb] at p1
     exact p1.elim
theorem abu (C : Cq X T W k) (i j : Nat) {x y : Str} {px py pt : Pos} {kt k2 : Nat} {pt2 : Pos} {ms : M (List D)} (se : Kz X T W [a, b] ms) (hi : X.N[i]? = some x := by rfl) (hj : X.N[j]? = some y := by rfl) (hij : i ≠ j := by decide) (i0 : i ≠ 0 := by decide) (j0 : j ≠ 0 := by decide)
 (hx : X.env.scope.names.lookup x = some .local := by rfl) (hy : X.env.scope.names.lookup y = some .local := by rfl)
 (hw : swappedStores [.Tuple [.Name x px, .Name y py] kt pt] (.Tuple [a, b] k2 pt2) X.env = pure (some [x, y]) := by rfl)
 (hs : swapsWithSole [.Tuple [.Name x px, .Name y py] kt pt] (.Tuple [a, b] k2 pt2) pos.line X.env = pure false := by rfl) :
 qu X T W (.Assign [.Tuple [.Name x px, .Name y py] kt pt] (.Tuple [a, b] k2 pt2) pos) (uY [i, j] ms) := fun B w σ H fr h D R p =>
 oZ (ps_par C.calm C.nd hi hj hij hx hy vK hw hs) (se B w σ H fr h _ R (cC.bind (VR := Wn X.K T B σ) p fun ds fr1 h1 w1 H1 vs e1 l1 r1 ⟨ps, rs⟩ p1 => by
  have two : ∃ d e, ds = [d, e] := by
   cases ds with
   | nil => exact (show False from p1).elim
   | cons d ds =>
     cases ds with
     | nil => exact (show False from p1).elim
     | cons e ds =>
       cases ds with
       | nil => exact ⟨d, e, rfl⟩
       | cons _ _ => exact (show False from p1).elim
  obtain ⟨d, e, rfl⟩ := two
  have p2 : cC X.K T B W w1 (.ok .nx ((fr1.set i (some d)).set j (some e)) h1) D := p1
  cases rs with
  | val r1' rr =>
    cases rr with
    | val r2' rr =>
      cases rr
      exact ⟨_, _, rfl, p2 w1 _ H1 (Wd.le_refl _) ((r1.put i i0 (.inl r1')).put j j0 (.inl r2'))⟩
    | own O lo eH r2' nq rr =>
      cases rr
      exact ⟨_, _, rfl, p2 w1 _ H1 (Wd.le_refl _) ((r1.put i i0 (.inl r1')).put j j0 (.inr ⟨_, _, rfl, O, Gy lo fun od => (rA od r1').elim, eH, r2'⟩))⟩
  | own O lo eH r1' nq rr =>
    cases rr with
    | val r2' rr =>
      cases rr
      exact ⟨_, _, rfl, p2 w1 _ H1 (Wd.le_refl _) ((r1.put i i0 (.inr ⟨_, _, rfl, O, lo, eH, r1'⟩)).put j j0 (.inl r2'))⟩
    | own O2 lo2 eH2 r2' nq2 rr =>
      cases rr
      exact ⟨_, _, rfl, p2 w1 _ H1 (Wd.le_refl _) ((r1.put i i0 (.inr ⟨_, _, rfl, O, lo, eH, r1'⟩)).put j j0 (.inr ⟨_, _, rfl, O2, Gy lo2 fun od z => by
       cases z
       exact nq (by simp), eH2, r2'⟩))⟩))
end
end Pk
namespace Pk
open PySem PySem.Spec L2
def dw (g : D → M Unit) (b : M Fl) : List D → M Fl
 | [] => M.ret .nx
 | d :: ds => fun fr h => match g d fr h with
   | .ok _ fr h => match b fr h with
     | .ok .nx fr h => dw g b ds fr h
     | .ok .ct fr h => dw g b ds fr h
     | .ok .brk fr h => .ok .nx fr h
     | .ok (.rt d) fr h => .ok (.rt d) fr h
     | .exc x fr h => .exc x fr h
     | .err => .err
   | _ => .err
def d9 (l : M (List D)) (g : D → M Unit) (b : M Fl) : M Fl := l.bind fun ds => dw g b ds
def Wt (t : M Bool) (b : M Fl) : Nat → M Fl
 | 0 => fun _ _ => .err
 | n + 1 => fun fr h => match t fr h with
   | .ok true fr h => match b fr h with
     | .ok .nx fr h => Wt t b n fr h
     | .ok .ct fr h => Wt t b n fr h
     | .ok .brk fr h => .ok .nx fr h
     | .ok (.rt d) fr h => .ok (.rt d) fr h
     | .exc x fr h => .exc x fr h
     | .err => .err
   | .ok false fr h => .ok .nx fr h
   | .exc x fr h => .exc x fr h
   | .err => .err
section
variable {X : Cx} {T : Tb} {W : WX} {k : Nat} {pos pos' : Pos} {tg iter c : Expr} {body : List Stmt} {li : M (List D)} {g : D → M Unit} {b : M Fl} {is : List Nat} {t : M Bool}
theorem vR (C : Cq X T W k) (si : DQ X T W tg iter li) (sg : Be X T is tg g) (sb : uX X T W body b) (hs : ∀ x, foldedSetIterable iter X.env x = pure x := by intro _; rfl) : qu X T W (.For tg iter body [] pos) (d9 li g b) := fun B w σ H fr h D R p =>
 oZ (ps_for C.po C.calm Gx QJ ug hs) (si B w σ H fr h _ R (cC.bind (VR := vJ X.K T B σ) p fun ds fr1 h1 w1 H1 J e1 l1 r1 vj p1 => by
  refine ⟨fun i m σ H => m = ds.length - i ∧ i ≤ ds.length ∧ ∃ w' fr' h', w1.le w' ∧ Rel X.K T B w' σ H fr' h' ∧ cC X.K T B W w' (dw g b (ds.drop i) fr' h') D, ⟨ds.length, by simp, Nat.zero_le _, w1, fr1, h1, Wd.le_refl _, r1, p1⟩, ?_⟩
  rintro i m σ2 H2 ⟨rfl, hi, w2, fr2, h2, l2, r2, p2⟩
  obtain ⟨js, jg⟩ := vj i w2 H2 l2 r2.sub
  by_cases hlt : i < ds.length
  · obtain ⟨go, y⟩ := jg ds[i] (ahi hlt)
    refine .inr ⟨go, fun σ' H' => ∃ w' fr' h', w1.le w' ∧ Rel X.K T B w' σ' H' fr' h' ∧ cC X.K T B W w' (dw g b (ds.drop (i + 1)) fr' h') D, fun σ' H' q => ⟨ds.length - (i + 1), by omega, rfl, hlt, q⟩, fun x H3 yx => ?_⟩
    obtain ⟨w3, l3, r3, rx⟩ := y x H3 yx B σ2 fr2 h2 r2
    have ed : ds.drop i = ds[i] :: ds.drop (i + 1) := List.drop_eq_getElem_cons hlt
    rw [ed] at p2
    refine sg B w3 σ2 H3 fr2 h2 x ds[i] _ r3 rx ?_
    unfold dw at p2
    cases e2 : g ds[i] fr2 h2 with
    | ok u fr3 h3 =>
      rw [e2] at p2
      intro w4 σ4 H4 l4 r4 _
      refine sb B w4 σ4 H4 fr3 h3 _ r4 ?_
      have l34 : w1.le w4 := Wd.le_trans l2 (Wd.le_trans l3 l4)
      dsimp only at p2
      cases e3 : b fr3 h3 with
      | ok f fr4 h4 =>
        rw [e3] at p2
        cases f with
        | nx => exact fun w5 σ5 H5 l5 r5 => ⟨w5, fr4, h4, Wd.le_trans l34 l5, r5, p2.le (Wd.le_trans (Wd.le_trans l3 l4) l5)⟩
        | ct => exact fun w5 σ5 H5 l5 r5 => ⟨w5, fr4, h4, Wd.le_trans l34 l5, r5, p2.le (Wd.le_trans (Wd.le_trans l3 l4) l5)⟩
        | brk => exact fun w5 σ5 H5 l5 r5 => p2 w5 σ5 H5 (Wd.le_trans (Wd.le_trans l3 l4) l5) r5
        | rt d => exact fun w5 σ5 H5 v l5 r5 rv => p2 w5 σ5 H5 v (Wd.le_trans (Wd.le_trans l3 l4) l5) r5 rv
      | exc y fr4 h4 =>
        rw [e3] at p2
        exact fun w5 σ5 H5 cc dd l5 r5 z => p2 w5 σ5 H5 cc dd (Wd.le_trans (Wd.le_trans l3 l4) l5) r5 z
      | err => rw [e3] at p2; exact p2
    | exc y fr3 h3 => rw [e2] at p2; exact p2
    | err => rw [e2] at p2; exact p2
  · have e : i = ds.length := by omega
    subst e
    rw [List.drop_length] at p2
    exact .inl ⟨js (Nat.le_refl _), p2 w2 σ2 H2 (Wd.le_refl _) r2⟩))
end
def WF : WX := fun _ _ _ _ => False
def dW (fr : Fr) : List Nat → Fr
 | [] => fr
 | v :: vs => (dW fr vs).set v none
theorem Gz (fr : Fr) : ∀ vs : List Nat, (dW fr vs).length = fr.length
 | [] => rfl
 | v :: vs => by unfold dW; rw [ahv, Gz fr vs]
theorem GF {fr : Fr} {i : Nat} : ∀ {vs : List Nat}, i ∉ vs → (dW fr vs)[i]? = fr[i]?
 | [], _ => rfl
 | v :: vs, h => by
   unfold dW
   rw [ahA, not_or] at h
   rw [ahs (Ne.symm h.1), GF h.2]
theorem wQ {fr : Fr} {i : Nat} {d : D} : ∀ {vs : List Nat}, i ∈ vs → (dW fr vs)[i]? ≠ some (some d)
 | [], h => by cases h
 | v :: vs, h => by
   unfold dW
   by_cases e : v = i
   · subst e
     by_cases l : v < (dW fr vs).length
     · rw [ahp l]
       exact fun z => by cases z
     · rw [List.getElem?_eq_none (by rw [ahv]; omega)]
       exact fun z => by cases z
   · rw [ahs e]
     rcases List.mem_cons.mp h with z | z
     · exact absurd z.symm e
     · exact wQ z
theorem wipe_out {σ : L2.St} {i : Nat} : ∀ {vs : List Nat}, i ∉ vs → (wipe σ vs)[i]? = σ[i]?
 | [], _ => rfl
 | v :: vs, h => by
   unfold wipe
   rw [ahA, not_or] at h
   rw [ahs (Ne.symm h.1), wipe_out h.2]
theorem aad {σ : L2.St} {i : Nat} {v : V} {vs : List Nat} (h : i ∈ vs) : (wipe σ vs)[i]? ≠ some (some v) := fun z => (wipe_some z).2 h
section
variable {K : PySem.W.Frag} {T : Tb} {B : Bs} {w w' : Wd} {σ σ' : L2.St} {H H' : Hp} {fr fr' : Fr} {h : Hh}
theorem Rel.refr (R : Rel K T B w σ H fr h) (fl : fr'.length = σ'.length) (hs : ∀ (i : Nat) (d : D), fr'[i]? = some (some d) → fr[i]? = some (some d) ∧ σ'[i]? = σ[i]?) : Rel K T B w σ' H fr' h :=
 { R with
   me := fun x d bx e od => by
    obtain ⟨h1, h2⟩ := hs 0 d e
    rw [h2]
    exact R.me x d bx h1 od
   fl := fl
   sl := fun i s d e1 e2 => by
    cases d with
    | none => exact .none
    | some d =>
      obtain ⟨h1, h2⟩ := hs i d e2
      rw [h2] at e1
      exact R.sl i s (some d) e1 h1
   sep := fun i j p hij ⟨a1, d1, a2, a3⟩ ⟨b1, d2, b2, b3⟩ => by
    obtain ⟨h1, h2⟩ := hs i d1 a2
    obtain ⟨h3, h4⟩ := hs j d2 b2
    rw [h2] at a1
    rw [h4] at b1
    exact R.sep i j p hij ⟨a1, d1, h1, a3⟩ ⟨b1, d2, h3, b3⟩ }
theorem Rel.wipe (R : Rel K T B w σ H fr h) (vs : List Nat) : Rel K T B w (wipe σ vs) H (dW fr vs) h := by
 refine R.refr (by rw [Gz, wipe_length]; exact R.fl) fun i d e => ?_
 by_cases hi : i ∈ vs
 · exact absurd e (wQ hi)
 · rw [GF hi] at e
   exact ⟨e, wipe_out hi⟩
end
def lB (vs : List Nat) (g : D → M Unit) (t : M Bool) (e : M D) (d : D) : M (Option D) := fun fr h => match g d fr h with
 | .ok _ fr h => match t fr h with
   | .ok true fr h => match e fr h with
     | .ok y fr h => .ok (some y) (dW fr vs) h
     | _ => .err
   | .ok false fr h => .ok none (dW fr vs) h
   | _ => .err
 | _ => .err
def MT {α : Type} : Option α → List α → List α
 | some y, r => y :: r
 | none, r => r
def lL (vs : List Nat) (g : D → M Unit) (t : M Bool) (e : M D) : List D → M (List D)
 | [] => M.ret []
 | d :: ds => (lB vs g t e d).bind fun o => (lL vs g t e ds).bind fun r => M.ret (MT o r)
def DR (vs : List Nat) : M Unit := fun fr h => .ok () (dW fr vs) h
def uN (vs : List Nat) (l : M (List D)) (g : D → M Unit) (t : M Bool) (e : M D) : M D := l.bind fun ds => (DR vs).bind fun _ => if ds.length ≤ big then (lL vs g t e ds).bind fun r => M.ret (.nl r) else M.opt none
section
variable {X : Cx} {T : Tb} {W : WX} {k : Nat} {pos pos' : Pos} {tg iter elt c : Expr} {ifs : List Expr} {li : M (List D)} {g : D → M Unit} {b : M Fl} {is : List Nat} {t : M Bool} {me : M D} {scope : Scope} {own : List (Str × Nat)}
theorem XR {σ σ2 : L2.St} {vs is : List Nat} (hl : σ2.length = σ.length) (hi : ∀ i ∈ is, i ∈ vs) (hk : ∀ (j : Nat), j ∉ is → σ2[j]? = (wipe σ vs)[j]?) : wipe σ2 vs = wipe σ vs := by
 refine List.ext_getElem? fun j => ?_
 by_cases hj : j ∈ vs
 · have key : ∀ τ : L2.St, τ.length = σ.length → (wipe τ vs)[j]? = if j < σ.length then some none else none := fun τ hτ => by
    by_cases hjl : j < σ.length
    · rw [if_pos hjl]
      have hjl' : j < (wipe τ vs).length := by rw [wipe_length, hτ]; exact hjl
      rw [ahi hjl']
      cases e : (wipe τ vs)[j] with
      | none => rfl
      | some v => exact absurd (by rw [ahi hjl', e]) (aad (σ := τ) (v := v) hj)
    · rw [if_neg hjl]
      exact List.getElem?_eq_none (by rw [wipe_length, hτ]; omega)
   rw [key σ2 hl, key σ rfl]
 · rw [wipe_out hj, hk j fun z => hj (hi j z), wipe_out hj]
def GB (X : Cx) (scope : Scope) (tg : Expr) : TG := fun v σ H Q => ∀ (s : Shared) (H0 : Hp) (C : Addr) (cl : List (Str × Addr)) (fp : List Addr), WG (X.blk s H0 scope (compEnvC scope cl C X.env) fp) tg v σ H Q
def TB (X : Cx) (scope : Scope) (ifs : List Expr) : TT := fun σ H Q => ∀ (s : Shared) (H0 : Hp) (C : Addr) (cl : List (Str × Addr)) (fp : List Addr), Oz (X.blk s H0 scope (compEnvC scope cl C X.env) fp) ifs σ H Q
def EB (X : Cx) (scope : Scope) (e : Expr) : TE := fun σ H Q => ∀ (s : Shared) (H0 : Hp) (C : Addr) (cl : List (Str × Addr)) (fp : List Addr), WE (X.blk s H0 scope (compEnvC scope cl C X.env) fp) e σ H Q
theorem QM {B : Bs} {w : Wd} {σ : L2.St} {H : Hp} {fr : Fr} {h : Hh} {Q : VK} (si : DQ X T W tg iter li) (hi : ∀ i ∈ is, i ∈ own.map (·.2))
 (sg : ∀ (s : Shared) (H0 : Hp) (C : Addr) (cl : List (Str × Addr)) (fp : List Addr), Be (X.blk s H0 scope (compEnvC scope cl C X.env) fp) T is tg g)
 (st : ∀ (s : Shared) (H0 : Hp) (C : Addr) (cl : List (Str × Addr)) (fp : List Addr), gj (Oz (X.blk s H0 scope (compEnvC scope cl C X.env) fp) ifs) X.K T WF vB t)
 (se : ∀ (s : Shared) (H0 : Hp) (C : Addr) (cl : List (Str × Addr)) (fp : List Addr), aR (X.blk s H0 scope (compEnvC scope cl C X.env) fp) T WF elt me)
 (R : Rel X.K T B w σ H fr h) (p : aJ X.K T B W (vE X.K T B σ) w σ (uN (own.map (·.2)) li g t me fr h) Q) : tLc (WI X tg iter) (GB X scope tg) (TB X scope ifs) (EB X scope elt) (own.map (·.2)) σ H Q := by
 refine si B w σ H fr h _ R (aJ.bind (VR := vJ X.K T B σ) p fun ds fr0 h0 w1 H1 J e1 l1 r0 vj p0 => ?_)
 generalize hvs : own.map (·.2) = vs at hi p0 ⊢
 intro A0 nD
 have p1 : aJ X.K T B W (vE X.K T B σ) w1 σ ((if ds.length ≤ big then (lL vs g t me ds).bind fun r => M.ret (.nl r) else M.opt none) (dW fr0 vs) h0) Q := p0
 by_cases hb : ds.length ≤ big
 · rw [if_pos hb] at p1
   have rD := r0.temp (o := .lst []) nD
   have OD : Own B w1 A0 := r0.own_new nD
   refine ⟨fun i m H => m = ds.length - i ∧ i ≤ ds.length ∧ ∃ w' fr' h' acc vs', w1.le w' ∧ az X.K T w' vs' acc ∧ acc.length ≤ i ∧ Rel X.K T (B.pr A0 (.lst vs')) w' (wipe σ vs) H fr' h' ∧ (∀ j ∈ vs, ∀ d, fr'[j]? ≠ some (some d)) ∧
    aJ X.K T B W (vE X.K T B σ) w' σ (((lL vs g t me (ds.drop i)).bind fun r => M.ret (D.nl (acc ++ r))) fr' h') Q, ⟨ds.length, by simp, Nat.zero_le _, w1, dW fr0 vs, h0, [], [], Wd.le_refl _, .nil, Nat.zero_le _,
     (rD.wipe vs).protect OD (fun i ⟨z1, dd, z2, z3⟩ => r0.loose_new nD i (by
      by_cases hj : i ∈ vs
      · exact absurd z2 (wQ hj)
      · rw [GF hj] at z2
        rw [wipe_out hj] at z1
        exact ⟨z1, dd, z2, z3⟩)) upd_same, fun j hj d => wQ hj, p1⟩, ?_⟩
   rintro i m H2 ⟨rfl, hil, w2, fr2, h2, acc, us, l2, ra, la, r2, hw2, p2⟩
   have hP := OD.p
   obtain ⟨js, jg⟩ := vj i w2 H2 l2 r2.sub
   by_cases hlt : i < ds.length
   · obtain ⟨go, y⟩ := jg ds[i] (ahi hlt)
     have ed : ds.drop i = ds[i] :: ds.drop (i + 1) := List.drop_eq_getElem_cons hlt
     rw [ed] at p2
     refine .inr ⟨go, fun H' => ∃ w' fr' h' acc vs', w1.le w' ∧ az X.K T w' vs' acc ∧ acc.length ≤ i + 1 ∧ Rel X.K T (B.pr A0 (.lst vs')) w' (wipe σ vs) H' fr' h' ∧ (∀ j ∈ vs, ∀ d, fr'[j]? ≠ some (some d)) ∧
      aJ X.K T B W (vE X.K T B σ) w' σ (((lL vs g t me (ds.drop (i + 1))).bind fun r => M.ret (D.nl (acc ++ r))) fr' h') Q, fun H' q => ⟨ds.length - (i + 1), by omega, rfl, hlt, q⟩, fun x H3 yx => ?_⟩
     obtain ⟨w3, l3, r3, rx⟩ := y x H3 yx (B.pr A0 (.lst us)) (wipe σ vs) fr2 h2 r2
     have turn : ∃ o fr' h', lB vs g t me ds[i] fr2 h2 = .ok o fr' h' ∧ aJ X.K T B W (vE X.K T B σ) w2 σ (((lL vs g t me (ds.drop (i + 1))).bind fun r => M.ret (D.nl (acc ++ MT o r))) fr' h') Q := by
      have p2' : aJ X.K T B W (vE X.K T B σ) w2 σ (((lB vs g t me ds[i]).bind fun o => (lL vs g t me (ds.drop (i + 1))).bind fun r => M.ret (D.nl (acc ++ MT o r))) fr2 h2) Q := by
       have ee : ((lL vs g t me (ds[i] :: ds.drop (i + 1))).bind fun r => M.ret (D.nl (acc ++ r))) fr2 h2 = ((lB vs g t me ds[i]).bind fun o => (lL vs g t me (ds.drop (i + 1))).bind fun r => M.ret (D.nl (acc ++ MT o r))) fr2 h2 := by
        show M.bind (M.bind _ _) _ fr2 h2 = _
        unfold M.bind
        cases lB vs g t me ds[i] fr2 h2 with
        | ok o fr' h' => dsimp only; cases lL vs g t me (ds.drop (i + 1)) fr' h' <;> rfl
        | exc _ _ _ => rfl
        | err => rfl
       rw [← ee]
       exact p2
      cases q : lB vs g t me ds[i] fr2 h2 with
      | ok o fr' h' =>
        rw [M.bind_ok q] at p2'
        exact ⟨o, fr', h', rfl, p2'⟩
      | exc y fr' h' =>
        exfalso
        unfold lB at q
        split at q
        · split at q
          · split at q <;> cases q
          · cases q
          · cases q
        · cases q
      | err =>
        rw [M.bind_err q] at p2'
        exact p2'.elim
     obtain ⟨o, fro, ho, qt, p3⟩ := turn
     have upw : ∀ {u2 : L2.St} {w' : Wd} {H' : Hp} {fr' : Fr} {h' : Hh} {B' : Bs}, wipe u2 vs = wipe σ vs → Rel X.K T B' w' u2 H' fr' h' → Rel X.K T B' w' (wipe σ vs) H' (dW fr' vs) h' := fun {u2 w' H' fr' h' B'} e R' => by
      rw [← e]
      exact R'.wipe vs
     intro s0 H0 C cl fp
     refine sg s0 H0 C cl fp (B.pr A0 (.lst us)) w3 (wipe σ vs) H3 fr2 h2 x ds[i] _ r3 rx ?_
     unfold lB at qt
     cases q1 : g ds[i] fr2 h2 with
     | exc _ _ _ => rw [q1] at qt; cases qt
     | err => rw [q1] at qt; cases qt
     | ok _ fr3 h3 =>
       rw [q1] at qt
       dsimp only at qt
       intro w4 σ4 H4 l4 r4 k4
       have ew : wipe σ4 vs = wipe σ vs := XR (k4.1.trans (wipe_length σ vs)) hi k4.2
       refine ⟨ew, fun s0 H0 C cl fp => st s0 H0 C cl fp (B.pr A0 (.lst us)) w4 σ4 H4 fr3 h3 _ r4 ?_⟩
       cases q2 : t fr3 h3 with
       | exc _ _ _ => rw [q2] at qt; cases qt
       | err => rw [q2] at qt; cases qt
       | ok b fr4 h4 =>
         rw [q2] at qt
         intro w5 H5 v l5 r5 rv
         have rv' : v = b := rv
         subst rv'
         cases v with
         | false =>
           dsimp only at qt
           cases qt
           simp only [Bool.false_eq_true, if_false]
           exact ⟨w5, _, _, acc, us, Wd.le_trans l2 (Wd.le_trans l3 (Wd.le_trans l4 l5)), ra.mono (Wd.le_trans l3 (Wd.le_trans l4 l5)), Nat.le_succ_of_le la, upw ew r5, fun j hj d => wQ hj, p3.le (Wd.le_trans l3 (Wd.le_trans l4 l5))⟩
         | true =>
           dsimp only at qt
           simp only [if_true]
           intro s0 H0 C cl fp
           refine se s0 H0 C cl fp (B.pr A0 (.lst us)) w5 σ4 H5 fr4 h4 _ r5 ?_
           cases q3 : me fr4 h4 with
           | exc _ _ _ => rw [q3] at qt; cases qt
           | err => rw [q3] at qt; cases qt
           | ok yd fr5 h5 =>
             rw [q3] at qt
             cases qt
             intro w6 H6 yv l6 r6 ry
             have hD6 : H6 A0 = some (.lst us) := (r6.prot (A0, .lst us) (aht)).1
             have lall : w2.le w6 := Wd.le_trans l3 (Wd.le_trans l4 (Wd.le_trans l5 l6))
             refine ⟨us, hD6, ?_, w6, _, _, acc ++ [yd], us ++ [yv], Wd.le_trans l2 lall, (ra.mono lall).append (.cons ry .nil), ?_, (upw ew r6).repr OD.e OD.p, fun j hj d => wQ hj, ?_⟩
             · rw [ra.length]
               have : big < sizeLine := by decide
               omega
             · rw [ahj]
               show acc.length + 1 ≤ i + 1
               omega
             · have e9 : ∀ r : List _, acc ++ MT (some yd) r = acc ++ [yd] ++ r := fun r => by
                show acc ++ yd :: r = _
                rw [List.append_assoc]
                rfl
               simp only [e9] at p3
               exact p3.le lall
   · have e : i = ds.length := by omega
     subst e
     rw [List.drop_length] at p2
     obtain ⟨r3, O3, lo3, eD⟩ := r2.unprotect OD.e OD.p
     refine .inl ⟨js (Nat.le_refl _), ?_⟩
     have p3 : aJ X.K T B W (vE X.K T B σ) w2 σ (.ok (D.nl (acc ++ [])) fr2 h2) Q := p2
     rw [ahe] at p3
     have r4 : Rel X.K T B w2 σ H2 fr2 h2 := r3.refr (by rw [← wipe_length σ vs]; exact r3.fl) fun j d ej => ⟨ej, by
      by_cases hj : j ∈ vs
      · exact absurd ej (hw2 j hj d)
      · exact (wipe_out hj).symm⟩
     refine p3 w2 H2 (.ref A0) (Wd.le_refl _) r4 (.inr ⟨A0, _, rfl, O3, fun j ⟨z1, dd, z2, z3⟩ => lo3 j ⟨?_, dd, z2, z3⟩, eD, .lst ra⟩)
     by_cases hj : j ∈ vs
     · exact absurd z2 (hw2 j hj dd)
     · rw [wipe_out hj]
       exact z1
 · rw [if_neg hb] at p1
   exact p1.elim
theorem Qh (C : Cq X T W k) (own : List (Str × Nat)) (si : DQ X T W tg iter li) (hi : ∀ i ∈ is, i ∈ own.map (·.2))
 (sg : ∀ (s : Shared) (H0 : Hp) (C : Addr) (cl : List (Str × Addr)) (fp : List Addr), Be (X.blk s H0 scope (compEnvC scope cl C X.env) fp) T is tg g)
 (st : ∀ (s : Shared) (H0 : Hp) (C : Addr) (cl : List (Str × Addr)) (fp : List Addr), gj (Oz (X.blk s H0 scope (compEnvC scope cl C X.env) fp) ifs) X.K T WF vB t)
 (se : ∀ (s : Shared) (H0 : Hp) (C : Addr) (cl : List (Str × Addr)) (fp : List Addr), aR (X.blk s H0 scope (compEnvC scope cl C X.env) fp) T WF elt me)
 (ok : BlkOk X.N X.env.scope scope own) (hs : ∀ x, foldedSetIterable iter X.env x = pure x := by intro _; rfl) : mH X T W (.ListComp elt [⟨tg, iter, ifs, 0⟩] scope pos) (uN (own.map (·.2)) li g t me) := fun B w σ H fr h Q R p =>
 cY (pe_lc C.calm C.nd Gx ok (fun s H C cl fp => ⟨fun pins s' σ H v u Q I r hh => hh s _ C cl fp pins s' u I r⟩) (fun s H C cl fp => ⟨fun pins s' σ H Q I hh => hh s _ C cl fp pins s' I⟩) (fun s H C cl fp => ⟨fun pins s' σ H Q I hh => (hh s _ C cl fp).go pins s' I⟩) hs) (QM si hi sg st se R p)
theorem Ub (C : Cq X T W k) (j : Nat) {y : Str} {py spos : Pos} (own : List (Str × Nat)) (si : DQ X T W tg iter li) (hi : ∀ i ∈ is, i ∈ own.map (·.2))
 (sg : ∀ (s : Shared) (H0 : Hp) (C : Addr) (cl : List (Str × Addr)) (fp : List Addr), Be (X.blk s H0 scope (compEnvC scope cl C X.env) fp) T is tg g)
 (st : ∀ (s : Shared) (H0 : Hp) (C : Addr) (cl : List (Str × Addr)) (fp : List Addr), gj (Oz (X.blk s H0 scope (compEnvC scope cl C X.env) fp) ifs) X.K T WF vB t)
 (se : ∀ (s : Shared) (H0 : Hp) (C : Addr) (cl : List (Str × Addr)) (fp : List Addr), aR (X.blk s H0 scope (compEnvC scope cl C X.env) fp) T WF elt me)
 (ok : BlkOk X.N X.env.scope scope own) (hsw : swapsWith (.ListComp elt [⟨tg, iter, ifs, 0⟩] scope pos) (some (.Name y py)) spos.line X.env = pure true) (hy : X.N[j]? = some y := by rfl) (j0 : j ≠ 0 := by decide) (hyl : X.env.scope.names.lookup y = some .local := by rfl)
 (hs : ∀ x, foldedSetIterable iter X.env x = pure x := by intro _; rfl) : qu X T W (.Assign [.Name y py] (.ListComp elt [⟨tg, iter, ifs, 0⟩] scope pos) spos) (bh j (uN (own.map (·.2)) li g t me)) := fun B w σ H fr h D R p =>
 oZ (ps_setLc C.calm C.nd hy hyl hsw Gx ok (fun s H C cl fp => ⟨fun pins s' σ H v u Q I r hh => hh s _ C cl fp pins s' u I r⟩) (fun s H C cl fp => ⟨fun pins s' σ H Q I hh => hh s _ C cl fp pins s' I⟩) (fun s H C cl fp => ⟨fun pins s' σ H Q I hh => (hh s _ C cl fp).go pins s' I⟩) hs)
  (QM si hi sg st se R (cC.bind (VR := vE X.K T B σ) p fun d fr1 h1 w1 H1 v e1 l1 r1 rx p1 => p1 w1 _ H1 (Wd.le_refl _) (r1.put j j0 rx)))
theorem M3 : gj (Oz X []) X.K T W vB (M.ret true) := fun B w σ H fr h Q R p => T8 pts_nil (p w H true (Wd.le_refl _) R rfl)
theorem Ik (s : vL X T W c t) : gj (Oz X [c]) X.K T W vB t := fun B w σ H fr h Q R p => T8 (pts_one xT) (s B w σ H fr h Q R p)
theorem Cq.blk (C : Cq X T W k) {s : Shared} {H0 : Hp} {A0 : Addr} {cl : List (Str × Addr)} {fp : List Addr} : Cq (X.blk s H0 scope (compEnvC scope cl A0 X.env) fp) T WF k :=
 ⟨C.calm, C.nd, C.room, fun u s' ⟨_, _, _, _, _, _, _, _, _, _, _, _, _, _, _, _, w⟩ => w.elim, fun _ _ z => z.elim⟩
end
def bG (i : Nat) (f : List D → Option (List D)) : M Unit := fun fr h => match fr[i]? with
 | some (some (.nl l)) => match f l with
   | some l' => .ok () (fr.set i (some (.nl l'))) h
   | none => .err
 | some (some (.ref n)) => match h[n]? with
   | some (.nl l) => match f l with
     | some l' => .ok () fr (h.set n (.nl l'))
     | none => .err
   | _ => .err
 | _ => .err
def KC (d : D) (f : List D → Option (List D)) : M Unit := fun fr h => match d with
 | .ref n => match h[n]? with
   | some (.nl l) => match f l with
     | some l' => .ok () fr (h.set n (.nl l'))
     | none => .err
   | _ => .err
 | _ => .err
def jG (l : List D) : Option (List D) := some l
def tD (d : D) (l : List D) : Option (List D) := if l.length < big then some (l ++ [d]) else none
def zf (j : D) (d : D) (l : List D) : Option (List D) := match j with
 | .int j => (ixN l.length j).map fun n => l.set n d
 | _ => none
def abv (_ : List D) : Option (List D) := some []
def DW (K : PySem.W.Frag) (T : Tb) (B : Bs) (w : Wd) (σ : L2.St) (H : Hp) (v : V) (f : List D → Option (List D)) (fr' : Fr) (h' : Hh) : Prop :=
 ∃ p vs l l', v = .ref p ∧ H p = some (.lst vs) ∧ az K T w vs l ∧ f l = some l' ∧ ∀ vs', az K T w vs' l' → Rel K T B w σ (upd H p (.lst vs')) fr' h'
section
variable {K : PySem.W.Frag} {T : Tb} {B : Bs} {w : Wd} {σ : L2.St} {H : Hp} {fr : Fr} {h : Hh}
theorem QQ (R : Rel K T B w σ H fr h) {n : Nat} {v : V} (rv : bD K T w v (.ref n)) {f : List D → Option (List D)} {l l' : List D} (e : h[n]? = some (.nl l)) (ef : f l = some l') : DW K T B w σ H v f fr (h.set n (.nl l')) := by
 cases rv with
 | @ref a n s =>
   obtain ⟨o, q, rr⟩ := R.cel n a _ s e
   cases rr with
   | lst r => exact ⟨a, _, l, l', rfl, q, r, ef, fun vs' rs => R.change_cell s e (.lst rs)⟩
theorem QR {α β : Type} {VR : Wd → Hp → Fr → β → α → Prop} {W : WX} {i : Nat} {v : V} {f : List D → Option (List D)} {m : M α} {Q : β → Hp → Prop} (R : Rel K T B w σ H fr h) (ev : σ[i]? = some (some v)) (p : aJ K T B W VR w σ ((bG i f).bind (fun _ => m) fr h) Q) :
 ∃ fr' h', DW K T B w σ H v f fr' h' ∧ aJ K T B W VR w σ (m fr' h') Q := by
 cases q : bG i f fr h with
 | ok u fr' h' =>
   rw [M.bind_ok q] at p
   refine ⟨fr', h', ?_, p⟩
   unfold bG at q
   split at q
   · rename_i l e1
     split at q
     · rename_i l' ef
       cases q
       obtain ⟨v', e2, z⟩ := gq R e1
       rw [ev] at e2
       cases e2
       cases z with
       | val r => cases r
       | own O eH r =>
         cases r with
         | lst r => exact ⟨_, _, l, l', rfl, eH, r, ef, fun vs' rs => R.change_slot ev e1 O eH rfl (.lst rs)⟩
     · cases q
   · rename_i n e1
     split at q
     · split at q
       · cases q
         obtain ⟨v', e2, z⟩ := gq R e1
         rw [ev] at e2
         cases e2
         cases z with
         | val r => exact QQ R r (by assumption) (by assumption)
         | own O eH r => cases r
       · cases q
     · cases q
   · cases q
 | exc y fr' h' =>
   exfalso
   unfold bG at q
   split at q
   · split at q <;> cases q
   · split at q
     · split at q <;> cases q
     · cases q
   · cases q
 | err =>
   rw [M.bind_err q] at p
   exact p.elim
end
def jZ (i : Nat) (m : M D) : M D := (bG i jG).bind fun _ => m.bind fun d => (bG i (tD d)).bind fun _ => M.ret .non
def afn (i : Nat) : M D := (bG i abv).bind fun _ => M.ret .non
def afo (mo m : M D) : M D := mo.bind fun o => (KC o jG).bind fun _ => m.bind fun d => (KC o (tD d)).bind fun _ => M.ret .non
def afp (mo : M D) : M D := mo.bind fun o => (KC o abv).bind fun _ => M.ret .non
section
variable {X : Cx} {T : Tb} {W : WX} {k : Nat} {apos cpos px : Pos} {e o : Expr} {m mo : M D}
theorem abw {K : PySem.W.Frag} {B : Bs} {w : Wd} {σ : L2.St} {H : Hp} {v : V} {f : List D → Option (List D)} {fr' : Fr} {h' : Hh} (z : DW K T B w σ H v f fr' h') : tyV K "list" v H := by
 obtain ⟨p, vs, l, l', rfl, e, _⟩ := z
 exact .inl ⟨rfl, vs, SqL.of e⟩
theorem XS {K : PySem.W.Frag} {B : Bs} {w : Wd} {σ : L2.St} {H : Hp} {v : V} {fr' : Fr} {h' : Hh} (z : DW K T B w σ H v jG fr' h') : Rel K T B w σ H fr' h' := by
 obtain ⟨p, vs, l, l', rfl, e, r, ef, k⟩ := z
 have e1 : l = l' := Option.some.inj ef
 subst e1
 have z := k vs r
 have : upd H p (.lst vs) = H := by
  funext a
  unfold upd
  split
  · rename_i h
    rw [h, e]
  · rfl
 rw [this] at z
 exact z
theorem aae {K : PySem.W.Frag} {B : Bs} {w : Wd} {σ : L2.St} {H : Hp} {v y : V} {d : D} {fr' : Fr} {h' : Hh} {Q : VK} (z : DW K T B w σ H v (tD d) fr' h') (ry : bD K T w y d) (q : ∀ H', Rel K T B w σ H' fr' h' → Q .non H') : rAppend v [y] H Q := by
 obtain ⟨p, vs, l, l', rfl, e, r, ef, k⟩ := z
 unfold tD at ef
 by_cases hl : l.length < big
 · rw [if_pos hl] at ef
   cases ef
   exact ⟨p, vs, y, rfl, rfl, e, by rw [r.length]; exact Nat.lt_of_lt_of_le hl (by decide), q _ (k _ (r.append (.cons ry .nil)))⟩
 · rw [if_neg hl] at ef
   cases ef
theorem wR (i : Nat) {x : Str} (s : aR X T W e m) (hN : X.N[i]? = some x := by rfl) (hv : Vis X.env.scope x := by first | exact Or.inl rfl | exact Or.inr (Or.inl rfl) | exact Or.inr (Or.inr rfl)) (hd : (x == ("__debug__" : Str)) = false := by decide)
 (hcd : (x == ("__classdict__" : Str)) = false := by decide)
 (hbase : attributeBase (.Name x px) "append" X.env (eval (.Name x px) X.env) = eval (.Name x px) X.env := by rfl)
 (hfew : ((backTo cpos (starEach (e :: []) X.env)).all (fun x => !x.1) && (backToKw cpos (keywordEach [] X.env)).all (fun x => x.1.isSome)
  && decide ((e :: []).length + ([] : List Keyword).length + (if ([] : List Keyword).isEmpty then 0 else 1) < 30)) = true := by rfl)
 (hline : (apos.endLine == cpos.line) = true := by rfl) (hs : starEach (e :: []) X.env = (false, eval e X.env) :: starEach [] X.env := by exact cJ rfl) (hplain : (backTo cpos (starEach [] X.env)).any (·.1) = false := by rfl) :
 aR X T W (.Call (.Attribute (.Name x px) "append" apos) [e] [] cpos) (jZ i m) := fun B w σ H fr h Q R p => by
 have hh : ∃ v, σ[i]? = some (some v) := by
  cases e1 : fr[i]? with
  | none =>
    have q : bG i jG fr h = .err := by unfold bG; rw [e1]
    have p' : aJ X.K T B W (vV X.K T B σ) w σ ((bG i jG).bind _ fr h) Q := p
    rw [M.bind_err q] at p'
    exact p'.elim
  | some o =>
    cases o with
    | none =>
      have q : bG i jG fr h = .err := by unfold bG; rw [e1]
      have p' : aJ X.K T B W (vV X.K T B σ) w σ ((bG i jG).bind _ fr h) Q := p
      rw [M.bind_err q] at p'
      exact p'.elim
    | some d =>
      obtain ⟨v, e2, _⟩ := gq R e1
      exact ⟨v, e2⟩
 obtain ⟨v, ev⟩ := hh
 obtain ⟨fr1, h1, z1, p1⟩ := QR (VR := vV X.K T B σ) R ev p
 have R1 := XS z1
 refine cY (pe_bm PySem.F.plainAttrs_list PySem.F.slot_list_append PySem.F.type_list_append mt_append (pe_var hN hv hd hcd) (pa_cons aV pa_nil hs) hbase hfew hline hs hplain) ⟨v, ev, abw z1, s B w σ H fr1 h1 _ R1 (aJ.bind (VR := vV X.K T B σ) p1 fun d fr2 h2 w2 H2 y e2 l2 r2 ry p2 => ?_)⟩
 obtain ⟨fr3, h3, z3, p3⟩ := QR (VR := vV X.K T B σ) r2 ev p2
 exact aae z3 ry fun H' R' => p3 w2 H' .non (Wd.le_refl _) R' .non
def DY (i : Nat) (m mi : M D) : M Fl := m.bind fun d => (fX i).bind fun _ => mi.bind fun j => (bG i (zf j d)).bind fun _ => M.ret .nx
def afq (mo m mi : M D) : M Fl := m.bind fun d => mo.bind fun o => mi.bind fun j => (KC o (zf j d)).bind fun _ => M.ret .nx
end
end Pk
namespace Pk
open PySem PySem.Spec L2
section
variable {K : PySem.W.Frag} {T : Tb} {B : Bs} {w : Wd} {σ : L2.St} {H : Hp} {fr : Fr} {h : Hh}
theorem Wu {i : Nat} {v : V} {f : List D → Option (List D)} (R : Rel K T B w σ H fr h) (ev : σ[i]? = some (some v)) : bG i f fr h = .err ∨ ∃ fr' h', bG i f fr h = .ok () fr' h' ∧ DW K T B w σ H v f fr' h' := by
 cases q : bG i f fr h with
 | ok u fr' h' =>
   right
   refine ⟨fr', h', rfl, ?_⟩
   unfold bG at q
   split at q
   · rename_i l e1
     split at q
     · rename_i l' ef
       cases q
       obtain ⟨v', e2, z⟩ := gq R e1
       rw [ev] at e2
       cases e2
       cases z with
       | val r => cases r
       | own O eH r =>
         cases r with
         | lst r => exact ⟨_, _, l, l', rfl, eH, r, ef, fun vs' rs => R.change_slot ev e1 O eH rfl (.lst rs)⟩
     · cases q
   · rename_i n e1
     split at q
     · split at q
       · cases q
         obtain ⟨v', e2, z⟩ := gq R e1
         rw [ev] at e2
         cases e2
         cases z with
         | val r => exact QQ R r (by assumption) (by assumption)
         | own O eH r => cases r
       · cases q
     · cases q
   · cases q
 | exc y fr' h' =>
   exfalso
   unfold bG at q
   split at q
   · split at q <;> cases q
   · split at q
     · split at q <;> cases q
     · cases q
   · cases q
 | err => exact .inl rfl
end
section
variable {X : Cx} {T : Tb} {W : WX} {k : Nat} {pos px tpos : Pos} {e o j : Expr} {m mo mj : M D}
theorem abx {K : PySem.W.Frag} {B : Bs} {w : Wd} {σ : L2.St} {H : Hp} {v y u : V} {d jd : D} {fr' : Fr} {h' : Hh} {Q : Hp → Prop} (z : DW K T B w σ H v (zf jd d) fr' h') (ry : bD K T w y d) (rj : bD K T w u jd) (q : ∀ H', Rel K T B w σ H' fr' h' → Q H') : rSetL v u y H Q := by
 obtain ⟨p, vs, l, l', rfl, e, r, ef, k⟩ := z
 unfold zf at ef
 split at ef
 · rename_i i
   obtain ⟨n, en, rfl⟩ := Option.map_eq_some_iff.mp ef
   rw [iy rj]
   exact ⟨p, vs, i, n, rfl, rfl, e, by rw [r.length]; exact en, q _ (k _ (r.set n ry))⟩
 · cases ef
theorem Wv (i : Nat) {x : Str} (s : aR X T W e m) (sj : aR X T W j mj) (hN : X.N[i]? = some x := by rfl) (hv : Vis X.env.scope x := by first | exact Or.inl rfl | exact Or.inr (Or.inl rfl) | exact Or.inr (Or.inr rfl)) (hd : (x == ("__debug__" : Str)) = false := by decide)
 (hcd : (x == ("__classdict__" : Str)) = false := by decide)
 (ha : ∀ v, assign (.Subscript (.Name x px) j tpos) X.env v = (do
  let ov ← holding [v] (eval (.Name x px) X.env)
  let iv ← holding [v, ov] (eval j X.env)
  standAt tpos
  holding [v, ov, iv] (setItem ov iv v)
  release [v, ov, iv] []) := by intro _; rfl)
 (hs : swapsWithSole [.Subscript (.Name x px) j tpos] e pos.line X.env = pure false := by rfl) (hw : swappedStores [.Subscript (.Name x px) j tpos] e X.env = pure none := by rfl)
 (h1 : (assignEach [.Subscript (.Name x px) j tpos] X.env).map (·.2) = [assign (.Subscript (.Name x px) j tpos) X.env] := by rfl) : qu X T W (.Assign [.Subscript (.Name x px) j tpos] e pos) (DY i m mj) := fun B w σ H fr h D R p =>
 oZ (ps_asg aV (pg_sub (pe_var hN hv hd hcd) aV set_list ha) hs hw h1) (s B w σ H fr h _ R (cC.bind (VR := vV X.K T B σ) p fun d fr1 h1 w1 H1 v e1 l1 r1 rx p1 => by
  have p1' : cC X.K T B W w1 ((fX i).bind (fun _ => mj.bind fun j => (bG i (zf j d)).bind fun _ => M.ret .nx) fr1 h1) D := p1
  cases es : fr1[i]? with
  | none =>
    have q : fX i fr1 h1 = .err := by unfold fX; rw [es]
    rw [M.bind_err q] at p1'
    exact p1'.elim
  | some os =>
    cases os with
    | none =>
      have q : fX i fr1 h1 = .err := by unfold fX; rw [es]
      rw [M.bind_err q] at p1'
      exact p1'.elim
    | some ds =>
      have q : fX i fr1 h1 = .ok () fr1 h1 := by unfold fX; rw [es]
      rw [M.bind_ok q] at p1'
      obtain ⟨ov, ev, _⟩ := gq r1 es
      refine ⟨ov, ev, sj B w1 σ H1 fr1 h1 _ r1 (cC.bind (VR := vV X.K T B σ) p1' fun jd fr2 h2 w2 H2 jv e2 l2 r2 rj p2 => ?_)⟩
      have p2' : cC X.K T B W w2 ((bG i (zf jd d)).bind (fun _ => M.ret .nx) fr2 h2) D := p2
      rcases Wu (f := zf jd d) r2 ev with q | ⟨fr3, h3, q, z⟩
      · rw [M.bind_err q] at p2'
        exact p2'.elim
      · rw [M.bind_ok q] at p2'
        exact abx z (rx.mono l2) rj fun H' R' => p2' w2 σ H' (Wd.le_refl _) R'))
def vU (m : M D) : M D := m.bind fun d fr h => if d.own then .ok (.ref h.length) fr (h ++ [d]) else .err
theorem aaf (s : mH X T W e m) : aR X T W e (vU m) := fun B w σ H fr h Q R p => s B w σ H fr h Q R (aJ.bind (VR := vE X.K T B σ) p fun d fr1 h1 w1 H1 v e1 l1 r1 rx p1 => by
 rcases rx with rx | ⟨q, o, rfl, O, lo, eH, rd⟩
 · have p1' : aJ X.K T B W (vV X.K T B σ) w1 σ (if d.own then .ok (.ref h1.length) fr1 (h1 ++ [d]) else .err) Q := p1
   rw [wM rx] at p1'
   exact (show False from p1').elim
 · have p1' : aJ X.K T B W (vV X.K T B σ) w1 σ (if d.own then .ok (.ref h1.length) fr1 (h1 ++ [d]) else .err) Q := p1
   rw [rd.own] at p1'
   have R2 := r1.to_cell O lo eH rd
   exact p1' ⟨w1.F, w1.I ++ [q]⟩ H1 (.ref q) ⟨fun _ _ z => z, [q], rfl⟩ R2 (.ref (by
    rw [← r1.len]
    show (w1.I ++ [q])[w1.I.length]? = some q
    rw [ahz (Nat.le_refl _), Nat.sub_self]
    rfl)))
theorem KD {α : Type} {f : Str} : ∀ {fs : List Str} {vs : List α} {i : Nat}, fs.Nodup → fs[i]? = some f → (fs.zip vs).lookup f = vs[i]?
 | [], _, _, _, e => by simp at e
 | g :: fs, [], i, _, _ => by simp
 | g :: fs, v :: vs, 0, _, e => by
   simp at e
   subst e
   simp [ahm]
 | g :: fs, v :: vs, i + 1, n, e => by
   have hf : f ∈ fs := ahq (by simpa using e)
   have hne : (f == g) = false := by
    rw [beq_eq_false_iff_ne]
    rintro rfl
    exact (List.nodup_cons.mp n).1 hf
   show ahm f ((g, v) :: fs.zip vs) = (v :: vs)[i + 1]?
   rw [List.lookup_cons, hne]
   show (fs.zip vs).lookup f = _
   rw [KD (List.nodup_cons.mp n).2 (by simpa using e)]
   simp
theorem QS {f : Str} {y : V} : ∀ {fs : List Str} {vs : List V} {i : Nat}, fs.Nodup → fs[i]? = some f → i ≤ vs.length → putF f y (fs.zip vs) = fs.zip (if i < vs.length then vs.set i y else vs ++ [y])
 | [], _, _, _, e, _ => by simp at e
 | g :: fs, [], i, _, e, hl => by
   have h0 : i = 0 := by simpa using hl
   subst h0
   simp at e
   subst e
   simp [putF]
 | g :: fs, v :: vs, 0, _, e, _ => by
   simp at e
   subst e
   show putF g y ((g, v) :: fs.zip vs) = _
   unfold putF
   rw [if_pos rfl, if_pos (show 0 < (v :: vs).length from Nat.succ_pos _)]
   rfl
 | g :: fs, v :: vs, i + 1, n, e, hl => by
   have hf : f ∈ fs := ahq (by simpa using e)
   have hne : ¬ g = f := by
    rintro rfl
    exact (List.nodup_cons.mp n).1 hf
   show putF f y ((g, v) :: fs.zip vs) = _
   unfold putF
   rw [if_neg hne, QS (List.nodup_cons.mp n).2 (i := i) (by simpa using e) (by simpa using hl)]
   by_cases h : i < vs.length
   · rw [if_pos h, if_pos (by simpa using h)]
     rfl
   · rw [if_neg h, if_neg (by simpa using h)]
     rfl
structure Ea (X : Cx) (T : Tb) (f : Str) (ix : Nat → Option Nat) : Prop where
 cls : ∀ c i, ix c = some i → Cls X.K (T.cad c)
 na : ∀ c i, ix c = some i → NoAttr X.K (T.cad c) f
 nd : ∀ c i, ix c = some i → (T.fld c).Nodup ∧ (T.fld c).length < 1000
 at_ : ∀ c i, ix c = some i → (T.fld c)[i]? = some f
def D.ins (h : Hh) (d : D) : Option (Nat × List D) := match d.der h with
 | .obj c fs => some (c, fs)
 | .no c fs => some (c, fs)
 | _ => none
def bR (ix : Nat → Option Nat) (h : Hh) (d : D) : Option D := match d.ins h with
 | some (c, fs) => match ix c with
   | some i => fs[i]?
   | none => none
 | none => none
theorem wU {K : PySem.W.Frag} {B : Bs} {w : Wd} {σ : L2.St} {H : Hp} {fr : Fr} {h : Hh} {v : V} {d : D} {c : Nat} {fs : List D} (R : Rel K T B w σ H fr h) (z : vO K T B σ w H fr v d) (e : d.ins h = some (c, fs)) :
 ∃ a dx vs, v = .ref a ∧ H a = some (.ins (T.cad c) dx ((T.fld c).zip vs)) ∧ az K T w vs fs := by
 rcases z with z | ⟨p, o, rfl, eH, z⟩
 · cases z with
   | obj s r =>
     cases e
     exact ⟨_, _, _, rfl, R.sub _ _ s, r⟩
   | @ref a n s =>
     have ln : n < h.length := by
      rw [← R.len]
      exact (List.getElem?_eq_some_iff.mp s).1
     obtain ⟨o, q, rr⟩ := R.cel n a h[n] s (ahi ln)
     have e0 : D.der h (.ref n) = h[n] := by
      unfold D.der
      dsimp only
      rw [ahi ln]
      rfl
     unfold D.ins at e
     rw [e0] at e
     generalize h[n] = cc at rr e
     cases rr with
     | lst r => cases e
     | dct _ r => cases e
     | dkt _ r => cases e
     | so0 _ => cases e
     | so1 _ _ => cases e
     | hid0 => cases e
     | hid1 => cases e
     | obj r =>
       cases e
       exact ⟨_, _, _, rfl, q, r⟩
   | _ => cases e
 · cases z with
   | lst r => cases e
   | obj r =>
     cases e
     exact ⟨_, _, _, rfl, eH, r⟩
theorem dX {f : Str} {ix : Nat → Option Nat} (F : Ea X T f ix) (s : Gk X T W o mo) (hb : attributeBase o f X.env (eval o X.env) = eval o X.env := by rfl) : aR X T W (.Attribute o f pos) (aF (bR ix) mo) := fun B w σ H fr h Q R p =>
 cY (pe_fld aV hb) (s B w σ H fr h _ R (aJ.bind (VR := vO X.K T B σ) p fun d fr1 h1 w1 H1 v e1 l1 r1 rx p1 => by
  have p1' : aJ X.K T B W (vV X.K T B σ) w1 σ (M.opt (bR ix h1 d) fr1 h1) Q := p1
  cases q : bR ix h1 d with
  | none => rw [q] at p1'; exact p1'.elim
  | some z =>
    rw [q] at p1'
    unfold bR at q
    split at q
    · rename_i c fs ei
      split at q
      · rename_i i ec
        obtain ⟨a, dx, vs, rfl, eH, rs⟩ := wU r1 rx ei
        obtain ⟨v, ev, rv⟩ := rs.get q
        exact ⟨a, _, dx, _, v, rfl, eH, F.cls c i ec, F.na c i ec, by rw [KD (F.nd c i ec).1 (F.at_ c i ec)]; exact ev, p1' w1 H1 v (Wd.le_refl _) r1 rv⟩
      · cases q
    · cases q))
def nZ (i : Nat) (d : D) (fs : List D) : Option (List D) := if i ≤ fs.length then some (if i < fs.length then fs.set i d else fs ++ [d]) else none
def tE (j : Nat) (ix : Nat → Option Nat) (d : D) : M Unit := fun fr h => match fr[j]? with
 | some (some (.no c fs)) => match ix c with
   | some i => match nZ i d fs with
     | some fs' => .ok () (fr.set j (some (.no c fs'))) h
     | none => .err
   | none => .err
 | some (some (.ref n)) => match h[n]? with
   | some (.no c fs) => match ix c with
     | some i => match nZ i d fs with
       | some fs' => .ok () fr (h.set n (.no c fs'))
       | none => .err
     | none => .err
   | _ => .err
 | _ => .err
def jO (j : Nat) (ix : Nat → Option Nat) (m : M D) : M Fl := m.bind fun d => (tE j ix d).bind fun _ => M.ret .nx
theorem Ww {K : PySem.W.Frag} {w : Wd} {f : Str} {c i : Nat} {fs fs' : List D} {vs : List V} {y : V} {d : D} (nd : (T.fld c).Nodup) (at_ : (T.fld c)[i]? = some f) (rs : az K T w vs fs) (ry : bD K T w y d) (e : nZ i d fs = some fs') :
 ∃ vs', putF f y ((T.fld c).zip vs) = (T.fld c).zip vs' ∧ az K T w vs' fs' := by
 unfold nZ at e
 by_cases hi : i ≤ fs.length
 · rw [if_pos hi] at e
   cases e
   refine ⟨_, QS nd at_ (by rw [rs.length]; exact hi), ?_⟩
   rw [rs.length]
   by_cases hl : i < fs.length
   · rw [if_pos hl, if_pos hl]
     exact rs.set i ry
   · rw [if_neg hl, if_neg hl]
     exact rs.append (.cons ry .nil)
 · rw [if_neg hi] at e
   cases e
theorem tG (j : Nat) {x f : Str} {ix : Nat → Option Nat} (F : Ea X T f ix) (s : aR X T W e m) (hs : swapsWith e (some (.Attribute (.Name x px) f tpos)) pos.line X.env = pure false := by rfl)
 (hN : X.N[j]? = some x := by rfl) (hv : Vis X.env.scope x := by first | exact Or.inl rfl | exact Or.inr (Or.inl rfl) | exact Or.inr (Or.inr rfl)) (hd : (x == ("__debug__" : Str)) = false := by decide)
 (hcd : (x == ("__classdict__" : Str)) = false := by decide) : qu X T W (.Assign [.Attribute (.Name x px) f tpos] e pos) (jO j ix m) := fun B w σ H fr h D R p =>
 oZ (ps_fld (pe_var hN hv hd hcd) aV hs) (s B w σ H fr h _ R (cC.bind (VR := vV X.K T B σ) p fun d fr1 h1 w1 H1 y e1 l1 r1 ry p1 => by
  have p1' : cC X.K T B W w1 ((tE j ix d).bind (fun _ => M.ret .nx) fr1 h1) D := p1
  have fin : ∀ {c i : Nat} {a dx : Addr} {vs : List V} {fs fs' : List Pk.D}, ix c = some i → H1 a = some (.ins (T.cad c) dx ((T.fld c).zip vs)) → az X.K T w1 vs fs → nZ i d fs = some fs' → (∀ vs', az X.K T w1 vs' fs' → D.nx σ (upd H1 a (.ins (T.cad c) dx ((T.fld c).zip vs')))) → σ[j]? = some (some (.ref a)) →
   ∃ v, σ[j]? = some (some v) ∧ ∃ a C dx fs, v = .ref a ∧ H1 a = some (.ins C dx fs) ∧ Cls X.K C ∧ NoAttr X.K C f ∧ fs.length < 1000 ∧ D.nx σ (upd H1 a (.ins C dx (putF f y fs))) := fun {c i a dx vs fs fs'} ec eH rs ep kk es => by
   obtain ⟨vs', e1, rs'⟩ := Ww (F.nd c i ec).1 (F.at_ c i ec) rs ry ep
   refine ⟨_, es, a, _, dx, _, rfl, eH, F.cls c i ec, F.na c i ec, ?_, ?_⟩
   · rw [List.length_zip]
     have := (F.nd c i ec).2
     omega
   · rw [e1]
     exact kk vs' rs'
  cases q : tE j ix d fr1 h1 with
  | err => rw [M.bind_err q] at p1'; exact p1'.elim
  | exc z fr2 h2 =>
    exfalso
    unfold tE at q
    repeat' (first | (split at q) | (cases q))
  | ok u fr2 h2 =>
    rw [M.bind_ok q] at p1'
    have p2 : ∀ w' σ' H', w1.le w' → Rel X.K T B w' σ' H' fr2 h2 → D.nx σ' H' := p1'
    unfold tE at q
    split at q
    · rename_i c fs es
      split at q
      · rename_i i ec
        split at q
        · rename_i fs' ep
          cases q
          obtain ⟨v, e2, z⟩ := gq r1 es
          cases z with
          | val r => cases r
          | own O eH r =>
            cases r with
            | obj r => exact fin ec eH r ep (fun vs' rs' => p2 w1 σ _ (Wd.le_refl _) (r1.change_slot e2 es O eH rfl (.obj rs'))) e2
        · cases q
      · cases q
    · rename_i n es
      split at q
      · rename_i c fs en
        split at q
        · rename_i i ec
          split at q
          · rename_i fs' ep
            cases q
            obtain ⟨v, e2, z⟩ := gq r1 es
            cases z with
            | val r =>
              cases r with
              | ref sI =>
                obtain ⟨o, qo, rr⟩ := r1.cel n _ _ sI en
                cases rr with
                | obj r => exact fin ec qo r ep (fun vs' rs' => p2 w1 σ _ (Wd.le_refl _) (r1.change_cell sI en (.obj rs'))) e2
            | own O eH r => cases r
          · cases q
        · cases q
      · cases q
    · cases q))
end
end Pk
namespace Pk
open PySem PySem.Spec L2
abbrev Fn := List D → Hh → R D
def startF (n : Nat) (ds : List D) : Fr := ds.map some ++ List.replicate (n - ds.length) none
def bK (n : Nat) (m : M Fl) : Fn := fun ds h => match m (startF n ds) h with
 | .ok (.rt d) _ h => .ok d [] h
 | .ok .nx _ h => .ok .non [] h
 | .ok _ _ _ => .err
 | .exc x _ h => .exc x [] h
 | .err => .err
def runI (c n : Nat) (m : M Fl) : Fn := fun ds h => match m (startF n (.no c [] :: ds)) h with
 | .ok .nx fr h => match (fr : Fr)[0]? with
   | some (some (D.no c' fs)) => if c' = c then .ok (.no c fs) [] h else .err
   | _ => .err
 | .ok _ _ _ => .err
 | .exc x _ h => .exc x [] h
 | .err => .err
def spF (K : PySem.W.Frag) (T : Tb) (n : Nat) (F : Fn) : Sp := fun vs H Q E => ∃ w h ds, Rel K T (Bs.of w H) w [] H [] h ∧ az K T w vs ds ∧ ds.length = n ∧ aJ K T (Bs.of w H) (fun c d _ H' => E c d H') (vE K T (Bs.of w H) []) w [] (F ds h) Q
def vN (K : PySem.W.Frag) (T : Tb) (w : Wd) (G : Hp) (x : Addr) (w' : Wd) (H' : Hp) (_ : Fr) (v : V) (d : D) : Prop := v = .non ∧ Own (Bs.of w G) w' x ∧ ∃ o, H' x = some o ∧ mX K T w' o d
def spI (K : PySem.W.Frag) (T : Tb) (c n : Nat) (F : Fn) : Sp := fun vs H Q E => ∃ w h ds G x dx us, vs = .ref x :: us ∧ G x = none ∧ H = upd G x (.ins (T.cad c) dx []) ∧ Rel K T (Bs.of w G) w [] G [] h ∧ az K T w us ds ∧ ds.length + 1 = n ∧
 aJ K T (Bs.of w G) (fun c d _ H' => E c d H') (vN K T w G x) w [] (F ds h) Q
section
variable {K : PySem.W.Frag} {T : Tb} {B : Bs} {w w' : Wd} {σ : L2.St} {H H' : Hp} {fr : Fr} {h : Hh}
theorem Fe {n : Nat} {ds : List D} (hl : ds.length ≤ n) : (startF n ds).length = n := by
 unfold startF
 rw [ahj, ahk, List.length_replicate]
 omega
theorem xV {n i : Nat} {ds : List D} {d : D} (e : (startF n ds)[i]? = some (some d)) : ds[i]? = some d := by
 unfold startF at e
 by_cases hi : i < ds.length
 · rw [ahB (by simpa using hi), ahy] at e
   cases q : ds[i]? with
   | none => rw [q] at e; cases e
   | some a => rw [q] at e; cases e; rfl
 · rw [ahz (by simpa using hi), List.getElem?_replicate] at e
   split at e <;> cases e
theorem QT {N : List Str} {vs : List V} {i : Nat} {v : V} (e : vs[i]? = some v) : (L2.start N vs)[i]? = some (some v) := by
 unfold L2.start
 have hi : i < vs.length := (List.getElem?_eq_some_iff.mp e).1
 rw [ahB (by simpa using hi), ahy, e]
 rfl
theorem OJ {N : List Str} {vs : List V} (hl : vs.length ≤ N.length) : (L2.start N vs).length = N.length := by
 unfold L2.start
 rw [ahj, ahk, List.length_replicate]
 omega
theorem Rel.start (R : Rel K T B w [] H [] h) {N : List Str} {vs : List V} {ds : List D} (rs : az K T w vs ds) (hl : ds.length ≤ N.length) : Rel K T B w (L2.start N vs) H (startF N.length ds) h :=
 { R with
   me := fun x d bx e od => by
    obtain ⟨v, ev, rv⟩ := rs.get (xV e)
    exact (rA od rv).elim
   fl := by rw [Fe hl, OJ (by rw [rs.length]; exact hl)]
   sl := fun i s d e1 e2 => by
    cases d with
    | none => exact .none
    | some d =>
      obtain ⟨v, ev, rv⟩ := rs.get (xV e2)
      rw [QT ev] at e1
      cases e1
      exact .val rv
   sep := fun i j p hij ⟨_, d, e, od⟩ _ => by
    obtain ⟨v, ev, rv⟩ := rs.get (xV e)
    exact rA od rv }
theorem Rel.startI (R : Rel K T B w [] H [] h) {N : List Str} {x dx : Addr} {c : Nat} {vs : List V} {ds : List D} (hB : B.me = some x) (nx : H x = none) (rs : az K T w vs ds) (hl : ds.length + 1 ≤ N.length) :
 Rel K T B w (L2.start N (.ref x :: vs)) (upd H x (.ins (T.cad c) dx [])) (startF N.length (.no c [] :: ds)) h := by
 have R1 : Rel K T B w [] (upd H x (.ins (T.cad c) dx [])) [] h := R.temp nx
 have O : Own B w x := R.own_new nx
 have sl : ∀ (i : Nat) s d, (L2.start N (.ref x :: vs))[i]? = some s → (startF N.length (.no c [] :: ds))[i]? = some d → Dy K T B w (upd H x (.ins (T.cad c) dx [])) s d := fun i s d e1 e2 => by
  cases d with
  | none => exact .none
  | some d =>
    have q := xV e2
    cases i with
    | zero =>
      cases q
      cases e1
      exact .own O upd_same (by
       have z : mX K T w (.ins (T.cad c) dx ((T.fld c).zip [])) (.no c []) := .obj .nil
       rw [List.zip_nil_right] at z
       exact z)
    | succ i =>
      obtain ⟨v, ev, rv⟩ := rs.get (show ds[i]? = some d from q)
      have e3 : (L2.start N (.ref x :: vs))[i + 1]? = some (some v) := QT (show (V.ref x :: vs)[i + 1]? = some v from ev)
      rw [e3] at e1
      cases e1
      exact .val rv
 have hown : ∀ (i : Nat) d, (startF N.length (.no c [] :: ds))[i]? = some (some d) → d.own = true → i = 0 := fun i d e od => by
  cases i with
  | zero => rfl
  | succ i =>
    have q := xV e
    obtain ⟨v, ev, rv⟩ := rs.get (show ds[i]? = some d from q)
    exact (rA od rv).elim
 refine { R1 with fl := ?_, sl := sl, sep := fun i j p hij ⟨_, d, e, od⟩ ⟨_, d', e', od'⟩ => hij ((hown i d e od).trans (hown j d' e' od').symm), me := fun y d bx e od => ?_ }
 · rw [Fe (by simpa using hl), OJ (by rw [ag9, rs.length]; exact hl)]
 · have bx' : some x = some y := hB.symm.trans bx
   cases bx'
   rfl
theorem Rel.unme {m : Option Addr} {w0 : Wd} {G : Hp} (R : Rel K T ⟨w0, G, [], m⟩ w [] H [] h) : Rel K T (Bs.of w0 G) w [] H [] h := { R with me := (fun _ _ _ q _ => by simp at q), sl := fun _ _ _ q => by simp at q }
theorem Rel.ofme {x : Addr} {w0 : Wd} {G : Hp} (R : Rel K T (Bs.of w0 G) w [] H [] h) : Rel K T ⟨w0, G, [], some x⟩ w [] H [] h := { R with me := (fun _ _ _ q _ => by simp at q), sl := fun _ _ _ q => by simp at q }
end
section
variable {P : Program} {w : World} {K : PySem.W.Frag} {mg : Str → Option Value} {base : Heap} {T : Tb} {k : Nat} {x qual : Str} {params : Arguments} {body : List Stmt} {scope : Scope} {dvs : List V} {kws : List (Str × V)} {f : Addr} {fd : FuncData} {N ps : List Str}
abbrev QV (P : Program) (w : World) (K : PySem.W.Frag) (mg : Str → Option Value) (base : Heap) (N : List Str) (qual : Str) (scope : Scope) (f : Addr) (cdv : Value) (A : Around) (outer : List Env) (s : Shared) (H : Hp) (E : XK) : Cx := cxOf (L2.CX P w) P w K mg base N qual scope f cdv A outer s H E
def WX.up (E : XK) : WX := fun c d _ H' => E c d H'
def Does (P : Program) (w : World) (K : PySem.W.Frag) (mg : Str → Option Value) (base : Heap) (T : Tb) (k : Nat) (N : List Str) (qual : Str) (scope : Scope) (body : List Stmt) (m : M Fl) : Prop :=
 ∀ (f : Addr) (cdv : Value) (A : Around) (outer : List Env) (s : Shared) (H : Hp) (E : XK), Cq (QV P w K mg base N qual scope f cdv A outer s H E) T (WX.up E) k → uX (QV P w K mg base N qual scope f cdv A outer s H E) T (WX.up E) body m
theorem Qi (S : FnScope N ps scope) {cdv : Value} {A : Around} {outer : List Env} {s : Shared} {H : Hp} {E : XK} (hr : Room k (A.deeper (PyProof.Rows.envOfC qual scope s.heap.objs.size f cdv))) : Cq (QV P w K mg base N qual scope f cdv A outer s H E) T (WX.up E) k :=
 ⟨rfl, S.nd, hr, takes_of rfl rfl rfl rfl, passes_of rfl⟩
theorem gG (F : FunD K x qual params body scope dvs kws f fd) (S : FnScope N ps scope) {m : M Fl} (dm : Does P w K mg base T k N qual scope body m) : FnOk P w K mg base (L2.CX P w) (k + 1) f fd ps (spF K T ps.length (bK N.length m)) := by
 refine F.ok S (fun vs H Q E ⟨w, h, ds, _, rs, hl, _⟩ => rs.length.trans hl) fun cdv A outer s H vs Q E hr ⟨w, h, ds, R, rs, hl, post⟩ => ⟨Jm _ body, ug, ?_⟩
 have hpl : ps.length ≤ N.length := by
  have := congrArg List.length S.pre
  rw [List.length_take] at this
  omega
 refine dm f cdv A outer s H E (Qi S hr) (Bs.of w H) w _ H (startF N.length ds) h _ (R.start rs (by rw [hl]; exact hpl)) ?_
 unfold bK at post
 cases e : m (startF N.length ds) h with
 | ok fl fr h' =>
   rw [e] at post
   cases fl with
   | nx => exact fun w' σ' H' l R' => post w' H' .non l R'.unframe (.inl .non)
   | rt d => exact fun w' σ' H' v l R' rv => post w' H' v l R'.unframe (by
    rcases rv with rv | ⟨p, o, rfl, O, lo, eH, rd⟩
    · exact .inl rv
    · exact .inr ⟨p, o, rfl, O, fun i => Gj, eH, rd⟩)
   | brk => exact post.elim
   | ct => exact post.elim
 | exc y fr h' =>
   rw [e] at post
   exact fun w' σ' H' c dd l R' z => post w' H' c dd l R'.unframe z
 | err => rw [e] at post; exact post
theorem aag (c : Nat) (F : FunD K x qual params body scope dvs kws f fd) (S : FnScope N ps scope) {m : M Fl} (dm : Does P w K mg base T k N qual scope body m) : FnOk P w K mg base (L2.CX P w) (k + 1) f fd ps (spI K T c ps.length (runI c N.length m)) := by
 refine F.ok S (fun vs H Q E ⟨w, h, ds, G, x, dx, us, ev, _, _, _, rs, hl, _⟩ => by rw [ev, ag9, rs.length]; exact hl) fun cdv A outer s H vs Q E hr ⟨w, h, ds, G, x, dx, us, ev, nx, eH, R, rs, hl, post⟩ => ⟨Jm _ body, ug, ?_⟩
 have hpl : ps.length ≤ N.length := by
  have := congrArg List.length S.pre
  rw [List.length_take] at this
  omega
 subst ev eH
 refine dm f cdv A outer s _ E (Qi S hr) ⟨w, G, [], some x⟩ w _ _ (startF N.length (.no c [] :: ds)) h _ (R.ofme.startI rfl nx rs (by rw [hl]; exact hpl)) ?_
 unfold runI at post
 cases e : m (startF N.length (.no c [] :: ds)) h with
 | ok fl fr h' =>
   rw [e] at post
   cases fl with
   | nx =>
     intro w' σ' H' l R'
     dsimp only at post
     cases e0 : (fr : Fr)[0]? with
     | none => rw [e0] at post; exact post.elim
     | some od =>
       rw [e0] at post
       cases od with
       | none => exact post.elim
       | some d =>
         cases d with
         | no c' fs =>
           dsimp only at post
           by_cases hc : c' = c
           · rw [if_pos hc] at post
             subst hc
             have s0 := R'.me x _ rfl e0 rfl
             obtain ⟨v, ev, z⟩ := gq R' e0
             rw [s0] at ev
             cases ev
             cases z with
             | val r => cases r
             | own O eH r => exact post w' H' .non l R'.unframe.unme ⟨rfl, ⟨O.f, O.i, O.e, fun q hq => by cases hq⟩, _, eH, r⟩
           · rw [if_neg hc] at post
             exact post.elim
         | _ => exact post.elim
   | rt d => exact post.elim
   | brk => exact post.elim
   | ct => exact post.elim
 | exc y fr h' =>
   rw [e] at post
   exact fun w' σ' H' c dd l R' z => post w' H' c dd l R'.unframe.unme z
 | err => rw [e] at post; exact post
end
end Pk
namespace Pk
open PySem PySem.Spec L2
structure WKw (X : Cx) (kws : List Keyword) (σ : L2.St) (H : Hp) (Q : List V → Hp → Prop) : Prop where
 go : ∀ pos pins s, Inv X pins σ H s → wpAny (model X.prog X.w) X.A (evalAll ((backToKw pos (keywordEach kws X.env)).map (·.2))) (AP X pins σ Q) X.xe s
theorem abz {X : Cx} {kws : List Keyword} : PK X kws (WKw X kws) := ⟨fun pos pins s σ H Q I h => h.go pos pins s I⟩
theorem Zw {X : Cx} {kws : List Keyword} {t : TA} (p : PK X kws t) {σ : L2.St} {H : Hp} {Q : List V → Hp → Prop} (h : t σ H Q) : WKw X kws σ H Q := ⟨fun pos pins s I => p.run pos pins s σ H Q I h⟩
abbrev JG (X : Cx) (T : Tb) (W : WX) (kws : List Keyword) (m : M (List D)) : Prop := gj (WKw X kws) X.K T W vA m
section
variable {X : Cx} {T : Tb} {W : WX} {e : Expr} {kws : List Keyword} {m : M D} {ms : List (M D)} {nm : Option Str} {kpos : Pos}
theorem Ck : JG X T W [] (aj []) := fun B w σ H fr h Q r1 p => Zw pk_nil (p w H _ (Wd.le_refl _) r1 .nil)
theorem rB (s : aR X T W e m) (t : JG X T W kws (aj ms)) : JG X T W (⟨nm, e, kpos⟩ :: kws) (aj (m :: ms)) := fun B w σ H fr h Q r1 p =>
 Zw (pk_cons aV abz) (s B w σ H fr h _ r1 (aJ.bind (VR := vV X.K T B σ) p fun d fr1 h1 w1 H1 x e1 l1 r1 rx p1 =>
  t B w1 σ H1 fr1 h1 _ r1 (aJ.bind (VR := vA X.K T B σ) p1 fun ds fr2 h2 w2 H2 vs e2 l2 r2 rs p2 => p2 w2 H2 _ (Wd.le_refl _) r2 (.cons (rx.mono l2) rs))))
end
def bu (fr : Fr) : R D → R D
 | .ok d _ h => .ok d fr h
 | .exc x _ h => .exc x fr h
 | .err => .err
theorem aah {K : PySem.W.Frag} {T : Tb} {B : Bs} {W : WX} {w : Wd} {σ : L2.St} {H : Hp} {fr : Fr} {h : Hh} {n : Nat} {F : Fn} {vs : List V} {ds : List D} {Q : VK} (R : Rel K T B w σ H fr h) (rs : az K T w vs ds) (hl : ds.length = n)
 (p : aJ K T B W (vE K T B σ) w σ (bu fr (F ds h)) Q) : spF K T n F vs H Q (fun c d H' => W c d σ H') := by
 refine ⟨w, h, ds, R.enter, rs, hl, ?_⟩
 cases e : F ds h with
 | ok d fr' h' =>
   rw [e] at p
   intro w' H' v l R' rv
   have ef : fr' = [] := by
    have := R'.fl
    exact List.length_eq_zero_iff.mp this
   subst ef
   have R2 := R.back l R'
   refine p w' H' v l R2 ?_
   rcases rv with rv | ⟨q, o, rfl, O, lo, eH, rd⟩
   · exact .inl rv
   · have nq : H q = none := O.e
     refine .inr ⟨q, o, rfl, ⟨O.f, O.i, (R.own_new nq).e, (R.own_new nq).p⟩, fun i z => R.loose_new nq i z, eH, rd⟩
 | exc y fr' h' =>
   rw [e] at p
   intro w' H' c dd l R' z
   have ef : fr' = [] := by
    have := R'.fl
    exact List.length_eq_zero_iff.mp this
   subst ef
   exact p w' H' c dd l (R.back l R') z
 | err => rw [e] at p; exact p
theorem QW {K : PySem.W.Frag} {T : Tb} {B : Bs} {W : WX} {w : Wd} {σ : L2.St} {H : Hp} {fr : Fr} {h : Hh} {n c : Nat} {F : Fn} {vs : List V} {ds : List D} {Q : VK} {x dx : Addr} (R : Rel K T B w σ H fr h) (rs : az K T w vs ds) (hl : ds.length + 1 = n)
 (nx : H x = none) (nd : H dx = none) (ne : dx ≠ x)
 (p : aJ K T B W (vE K T B σ) w σ (bu fr (F ds h)) Q) : spI K T c n F (.ref x :: vs) (upd (upd H dx (.own x)) x (.ins (T.cad c) dx [])) (fun v H2 => v = .non ∧ Q (.ref x) H2) (fun c d H' => W c d σ H') := by
 have R1 : Rel K T B w σ (upd H dx (.own x)) fr h := R.temp nd
 have nx1 : (upd H dx (.own x)) x = none := by rw [upd_ne (Ne.symm ne)]; exact nx
 refine ⟨w, h, ds, upd H dx (.own x), x, dx, vs, rfl, nx1, rfl, R1.enter, rs, hl, ?_⟩
 cases e : F ds h with
 | ok d fr' h' =>
   rw [e] at p
   intro w' H' v l R' ⟨ev, O, o, eH, rd⟩
   have ef : fr' = [] := by
    have := R'.fl
    exact List.length_eq_zero_iff.mp this
   subst ef
   exact ⟨ev, p w' H' (.ref x) l (R1.back l R') (.inr ⟨x, o, rfl, ⟨O.f, O.i, (R1.own_new nx1).e, (R1.own_new nx1).p⟩, fun i z => R1.loose_new nx1 i z, eH, rd⟩)⟩
 | exc y fr' h' =>
   rw [e] at p
   intro w' H' c dd l R' z
   have ef : fr' = [] := by
    have := R'.fl
    exact List.length_eq_zero_iff.mp this
   subst ef
   exact p w' H' c dd l (R1.back l R') z
 | err => rw [e] at p; exact p
structure Bn (K : PySem.W.Frag) (T : Tb) (fd : FuncData) (ps : List Str) (n : Nat) (ks : List Str) (gD : List D → List D → List D) : Prop where
 ex : ∃ (g : List Value → List Value → List Value) (gV : List V → List V → List V), KBn K fd ps n ks g gV ∧
  ∀ (w : Wd) (vs zs : List V) (ds es : List D), az K T w vs ds → az K T w zs es → ds.length = n → es.length = ks.length → az K T w (gV vs zs) (gD ds es) ∧ (gD ds es).length = ps.length
def aq (dfl : List D) (ds _ : List D) : List D := ds ++ dfl
structure jM (P : Program) (w : World) (K : PySem.W.Frag) (mg : Str → Option Value) (base : Heap) (T : Tb) (k : Nat) (f : Addr) (fd : FuncData) (ps : List Str) (F : Fn) : Prop where
 ok : FnOk P w K mg base (L2.CX P w) k f fd ps (spF K T ps.length F)
 kp : PySem.W.keepIn K (.ref f) = true
structure FnI (P : Program) (w : World) (K : PySem.W.Frag) (mg : Str → Option Value) (base : Heap) (T : Tb) (k c : Nat) (f : Addr) (fd : FuncData) (ps : List Str) (F : Fn) : Prop where
 ok : FnOk P w K mg base (L2.CX P w) k f fd ps (spI K T c ps.length F)
 made : Mk K (T.cad c) f
def au (n m : Nat) (F : Fn) (gD : List D → List D → List D) (ma mk : M (List D)) : M D := ma.bind fun ds => mk.bind fun es fr h => if ds.length = n ∧ es.length = m then bu fr (F (gD ds es) h) else .err
theorem fB {K : PySem.W.Frag} {T : Tb} {fd : FuncData} {ps : List Str} (h : Binds K fd ps []) : Bn K T fd ps ps.length [] (aq []) :=
 ⟨fun us _ => us, fun vs _ => vs, ⟨fun s us ws X l1 _ => by
  have b := h s us X (by rw [ahe]; exact l1)
  rw [ahe] at b
  exact b, fun r _ => r⟩, fun w vs zs ds es rs _ hl _ => ⟨by
   show az K T w vs (ds ++ [])
   rw [ahe]
   exact rs, by
   show (ds ++ []).length = _
   rw [ahe]
   exact hl⟩⟩
section
variable {X : Cx} {T : Tb} {W : WX} {k kk n : Nat} {f C : Addr} {fd : FuncData} {ps ks : List Str} {F : Fn} {x m : Str} {p pos apos : Pos} {e o : Expr} {es : List Expr} {kws : List Keyword} {mo : M D} {ma mk : M (List D)} {gD : List D → List D → List D}
theorem M4 {pins : List (Addr × Obj)} {σ : L2.St} {H : Hp} {s : Shared} {Q : VK} {us ws : List Value} {vs zs : List V} {g : List Value → List Value → List Value} {gV : List V → List V → List V} {sp : Sp} (F : FnOk X.prog X.w X.K X.mg X.base (L2.CX X.prog X.w) kk f fd ps sp) (hr : Room kk X.A) (hb : KBn X.K fd ps n ks g gV) (tk : Takes X W)
 (I : Inv X pins σ H s) (r : Vals vs us) (rz : Vals zs ws) (l1 : vs.length = n) (l2 : zs.length = ks.length) (h : sp (gV vs zs) H Q (fun c d H' => W c d σ H')) : wpAny (model X.prog X.w) X.A (call (.ref f) us (ks.zip ws)) (EP X pins σ Q) X.xe s := by
 have r2 := hb.rel r rz
 refine wpAny_call (codeAny_mono (F.run X.A X.stack s H ⟨us, ks.zip ws⟩ (g us ws) (gV vs zs) Q _ hr I.env0 (hb.to s us ws I.kIn (r.length.symm.trans l1) (rz.length.symm.trans l2)) r2 h) fun r s' hq => ?_)
 cases r with
 | error e => exact passAt tk σ pins H s e s' I hq
 | ok fl =>
   cases fl with
   | ret u => exact I.after hq
   | next => exact False.elim hq
   | brk => exact False.elim hq
   | cont => exact False.elim hq
theorem run_mk {pins : List (Addr × Obj)} {σ : L2.St} {H : Hp} {s : Shared} {Q : VK} {us ws : List Value} {vs zs : List V} {g : List Value → List Value → List Value} {gV : List V → List V → List V} {sp : Sp} (M : Mk X.K C f) (F : FnOk X.prog X.w X.K X.mg X.base (L2.CX X.prog X.w) kk f fd ps sp) (hr : Room (kk + 1) X.A) (hb : KBn X.K fd ps (n + 1) ks g gV) (tk : Takes X W)
 (I : Inv X pins σ H s) (r : Vals vs us) (rz : Vals zs ws) (l1 : vs.length = n) (l2 : zs.length = ks.length)
 (h : ∀ x dx, H x = none → H dx = none → dx ≠ x → sp (gV (.ref x :: vs) zs) (upd (upd H dx (.own x)) x (.ins C dx [])) (fun v H2 => v = .non ∧ Q (.ref x) H2) (fun c d H' => W c d σ H')) :
 wpAny (model X.prog X.w) X.A (call (.ref C) us (ks.zip ws)) (EP X pins σ Q) X.xe s := by
 have hq := h (s.heap.objs.size + 1) s.heap.objs.size (I.hok.fresh (Nat.le_succ _)) (I.hok.fresh (Nat.le_refl _)) (Nat.ne_of_lt (Nat.lt_succ_self _))
 have I2 := Inv.made (C := C) I
 have r1 : Vals (V.ref (s.heap.objs.size + 1) :: vs) (Value.ref (s.heap.objs.size + 1) :: us) := .cons rfl r
 have r2 := hb.rel r1 rz
 have n1 : (Value.ref (s.heap.objs.size + 1) :: us).length = n + 1 := by
  rw [ag9, ← r.length, l1]
 refine wpAny_call (make_map (f := f) I.kIn M.makes M.init (beq_iff_eq.mp M.fn) (codeAny_mono (F.run _ X.stack _ _ ⟨Value.ref (s.heap.objs.size + 1) :: us, ks.zip ws⟩ (g (Value.ref (s.heap.objs.size + 1) :: us) ws) _ _ _ (hr.make C us (ks.zip ws))
  (I2.env0.make C us (ks.zip ws)) (hb.to _ (Value.ref (s.heap.objs.size + 1) :: us) ws I2.kIn n1 (rz.length.symm.trans l2)) r2 hq) fun r s' hq' => ?_))
 cases r with
 | error e => exact passAt tk σ pins _ _ e s' I2 hq'
 | ok fl =>
   cases fl with
   | ret u =>
     obtain ⟨v, H', I3, rv, ev, q3⟩ := I2.after hq'
     subst ev
     exact ⟨rv, ⟨V.ref (s.heap.objs.size + 1), H', I3, rfl, q3⟩⟩
   | next => exact False.elim hq'
   | brk => exact False.elim hq'
   | cont => exact False.elim hq'
theorem zg {B : Bs} {w : Wd} {σ : L2.St} {H : Hp} {fr : Fr} {h : Hh} {m : Nat} {vs zs : List V} {ds es : List D} {Q : VK} {gV : List V → List V → List V} (hg : ∀ (w : Wd) (vs zs : List V) (ds es : List D), az X.K T w vs ds → az X.K T w zs es → ds.length = n → es.length = m → az X.K T w (gV vs zs) (gD ds es) ∧ (gD ds es).length = ps.length)
 (R : Rel X.K T B w σ H fr h) (rs : az X.K T w vs ds) (rz : az X.K T w zs es) (p : aJ X.K T B W (vE X.K T B σ) w σ (if ds.length = n ∧ es.length = m then bu fr (F (gD ds es) h) else .err) Q) :
 vs.length = n ∧ zs.length = m ∧ spF X.K T ps.length F (gV vs zs) H Q (fun c d H' => W c d σ H') := by
 by_cases hl : ds.length = n ∧ es.length = m
 · rw [if_pos hl] at p
   obtain ⟨r2, l2⟩ := hg w vs zs ds es rs rz hl.1 hl.2
   exact ⟨rs.length.trans hl.1, rz.length.trans hl.2, aah R r2 l2 p⟩
 · rw [if_neg hl] at p
   exact p.elim
theorem aZ (C : Cq X T W k) (F0 : jM X.prog X.w X.K X.mg X.base T kk f fd ps F) (hk : kk ≤ k) (bn : Bn X.K T fd ps n [] gD) (hm : X.mg x = some (.ref f)) (sa : yR X T W (e :: es) ma) (hg : Gl X x := by rfl) (hdb : (x == ("__debug__" : Str)) = false := by decide)
 (he : starEach (e :: es) X.env = (false, eval e X.env) :: starEach es X.env := by exact cJ rfl) (hpl : (backTo pos (starEach es X.env)).any (·.1) = false := by rfl) : mH X T W (.Call (.Name x p) (e :: es) [] pos) (au n 0 F gD ma (aj [])) := fun B w σ H fr h Q R pp => WE.mk <| fun pins s I => by
 obtain ⟨g, gV, hb, hgD⟩ := bn.ex
 refine wpAny_Call_Name_kw (ld_glob I hg hm ?_ hdb)
 refine PySem.W.callWith_K (h₀ := X.base) I.ok.mod.kin F0.kp (thn ((sa B w σ H fr h _ R (aJ.bind (VR := vA X.K T B σ) pp fun ds fr1 h1 w1 H1 vs e1 l1 r1 rs p1 => zg hgD r1 rs .nil p1)).go pos pins s I) fun us s1 ⟨vs, H1, I1, r, q⟩ => ⟨I1.kIn, ?_⟩) he hpl
 exact M4 (ws := []) F0.ok (C.room.mono hk) hb C.takes I1 r .nil q.1 rfl q.2.2
end
end Pk
namespace Pk
open PySem PySem.Spec L2
structure BnI (K : PySem.W.Frag) (T : Tb) (fd : FuncData) (ps : List Str) (n : Nat) (ks : List Str) (gD : List D → List D → List D) : Prop where
 ex : ∃ (g : List Value → List Value → List Value) (gV gW : List V → List V → List V), KBn K fd ps (n + 1) ks g gV ∧ (∀ x vs zs, vs.length = n → zs.length = ks.length → gV (x :: vs) zs = x :: gW vs zs) ∧
  ∀ (w : Wd) (vs zs : List V) (ds es : List D), az K T w vs ds → az K T w zs es → ds.length = n → es.length = ks.length → az K T w (gW vs zs) (gD ds es) ∧ (gD ds es).length + 1 = ps.length
section
variable {X : Cx} {T : Tb} {W : WX} {k kk n c : Nat} {f : Addr} {fd : FuncData} {ps ks : List Str} {F : Fn} {x m : Str} {p pos apos : Pos} {e o : Expr} {es : List Expr} {kws : List Keyword} {mo : M D} {ma mk : M (List D)} {gD : List D → List D → List D}
theorem XX {B : Bs} {w : Wd} {σ : L2.St} {H : Hp} {fr : Fr} {h : Hh} {m : Nat} {vs zs : List V} {ds es : List D} {Q : VK} {gV gW : List V → List V → List V} (hv : ∀ x vs zs, vs.length = n → zs.length = m → gV (x :: vs) zs = x :: gW vs zs)
 (hg : ∀ (w : Wd) (vs zs : List V) (ds es : List D), az X.K T w vs ds → az X.K T w zs es → ds.length = n → es.length = m → az X.K T w (gW vs zs) (gD ds es) ∧ (gD ds es).length + 1 = ps.length)
 (R : Rel X.K T B w σ H fr h) (rs : az X.K T w vs ds) (rz : az X.K T w zs es) (p : aJ X.K T B W (vE X.K T B σ) w σ (if ds.length = n ∧ es.length = m then bu fr (F (gD ds es) h) else .err) Q) :
 vs.length = n ∧ zs.length = m ∧ ∀ x dx, H x = none → H dx = none → dx ≠ x → spI X.K T c ps.length F (gV (.ref x :: vs) zs) (upd (upd H dx (.own x)) x (.ins (T.cad c) dx [])) (fun v H2 => v = .non ∧ Q (.ref x) H2) (fun c d H' => W c d σ H') := by
 by_cases hl : ds.length = n ∧ es.length = m
 · rw [if_pos hl] at p
   obtain ⟨r2, l2⟩ := hg w vs zs ds es rs rz hl.1 hl.2
   refine ⟨rs.length.trans hl.1, rz.length.trans hl.2, fun x dx nx nd ne => ?_⟩
   rw [hv _ _ _ (rs.length.trans hl.1) (rz.length.trans hl.2)]
   exact QW R r2 l2 nx nd ne p
 · rw [if_neg hl] at p
   exact p.elim
theorem X3 (C : Cq X T W k) (F0 : FnI X.prog X.w X.K X.mg X.base T kk c f fd ps F) (hk : kk + 1 ≤ k) (bn : BnI X.K T fd ps n ks gD) (hm : X.mg x = some (.ref (T.cad c))) (sa : yR X T W (e :: es) ma) (sk : JG X T W kws mk) (hg : Gl X x := by rfl) (hdb : (x == ("__debug__" : Str)) = false := by decide)
 (hall : (backToKw pos (keywordEach kws X.env)).all (·.1.isSome) = true := by rfl) (hks : (backToKw pos (keywordEach kws X.env)).filterMap (·.1) = ks := by rfl)
 (he : starEach (e :: es) X.env = (false, eval e X.env) :: starEach es X.env := by exact cJ rfl) (hpl : ((backTo pos (starEach (e :: es) X.env)).any (·.1) || (backToKw pos (keywordEach kws X.env)).any (·.1.isNone)) = false := by rfl) :
 mH X T W (.Call (.Name x p) (e :: es) kws pos) (au n ks.length F gD ma mk) := fun B w σ H fr h Q R pp => WE.mk <| fun pins s I => by
 obtain ⟨g, gV, gW, hb, hv, hgD⟩ := bn.ex
 refine wpAny_Call_Name_kw (ld_glob I hg hm ?_ hdb)
 refine PySem.W.callWith_KW (h₀ := X.base) I.ok.mod.kin F0.made.kp hall (thn ((sa B w σ H fr h _ R (aJ.bind (VR := vA X.K T B σ) pp fun ds fr1 h1 w1 H1 vs e1 l1 r1 rs p1 =>
  sk B w1 σ H1 fr1 h1 _ r1 (aJ.bind (VR := vA X.K T B σ) p1 fun es fr2 h2 w2 H2 zs e2 l2 r2 rz p2 => XX (c := c) hv hgD r2 (rs.mono l2) rz p2))).go pos pins s I) fun us s1 ⟨vs, H1, I1, r, q⟩ => ?_) hpl he
 refine thn (q.go pos pins s1 I1) fun ws s2 ⟨zs, H2, I2, rz, q2⟩ => ⟨I2.kIn, ?_⟩
 rw [hks]
 exact run_mk F0.made F0.ok (C.room.mono hk) hb C.takes I2 r rz q2.1 q2.2.1 q2.2.2
theorem Ag {α : Type} {f : Str} : ∀ {fs : List Str} {vs : List α}, f ∉ fs → (fs.zip vs).lookup f = none
 | [], _, _ => rfl
 | g :: fs, [], _ => by simp
 | g :: fs, v :: vs, h => by
   rw [ahA, not_or] at h
   show ahm f ((g, v) :: fs.zip vs) = none
   rw [List.lookup_cons, beq_eq_false_iff_ne.mpr h.1]
   exact Ag h.2
structure ph (X : Cx) (T : Tb) (k : Nat) (m : Str) (mt : Nat → Option Fn) (n : Nat) (ks : List Str) (gD : List D → List D → List D) : Prop where
 ex : ∀ c F, mt c = some F → ∃ (kk : Nat) (f : Addr) (fd : FuncData) (ps : List Str), Cls X.K (T.cad c) ∧ Meth X.K (T.cad c) m f ∧ jM X.prog X.w X.K X.mg X.base T kk f fd ps F ∧ Bn X.K T fd ps (n + 1) ks gD ∧ m ∉ T.fld c ∧ kk ≤ k
def fnOf (mt : Nat → Option Fn) (h : Hh) (o : D) : Option Fn := match o.ins h with
 | some (c, _) => mt c
 | none => none
def uZ (n m : Nat) (mt : Nat → Option Fn) (gD : List D → List D → List D) (mo : M D) (ma mk : M (List D)) : M D := mo.bind fun o fr h => match fnOf mt h o with
 | some F => (au (n + 1) m F gD (ma.bind fun ds => M.ret (o :: ds)) mk) fr h
 | none => .err
theorem O4 {B : Bs} {w : Wd} {σ : L2.St} {H : Hp} {fr : Fr} {h : Hh} {mt : Nat → Option Fn} {v : V} {d : D} {G : Fn} (M : ph X T k m mt n ks gD) (R : Rel X.K T B w σ H fr h) (rv : bD X.K T w v d) (e : fnOf mt h d = some G) :
 ∃ (kk : Nat) (f : Addr) (fd : FuncData) (ps : List Str) (a C dx : Addr) (fs : List (Str × V)), v = .ref a ∧ H a = some (.ins C dx fs) ∧ fs.lookup m = none ∧ Cls X.K C ∧ Meth X.K C m f ∧ jM X.prog X.w X.K X.mg X.base T kk f fd ps G ∧ Bn X.K T fd ps (n + 1) ks gD ∧ kk ≤ k := by
 unfold fnOf at e
 split at e
 · rename_i c fs ei
   obtain ⟨kk, f, fd, ps, c1, c2, c3, c4, c5, c6⟩ := M.ex c G e
   obtain ⟨a, dx, vs, rfl, eH, rs⟩ := wU R (.inl rv) ei
   exact ⟨kk, f, fd, ps, a, T.cad c, dx, _, rfl, eH, Ag c5, c1, c2, c3, c4, c6⟩
 · cases e
theorem Il {pl : Sem Bool} {mt : Nat → Option Fn} (C : Cq X T W k) (Mf : ph X T k m mt n [] gD) (so : aR X T W o mo) (sa : yR X T W (e :: es) ma)
 (hst : starEach (e :: es) X.env = (false, eval e X.env) :: starEach es X.env := by exact cJ rfl) (hpl : (backTo pos (starEach es X.env)).any (·.1) = false := by rfl)
 (ht : eval (.Call (.Attribute o m apos) (e :: es) [] pos) X.env = (do
  let ov ← eval o X.env
  standAt apos.atName
  let (f, first) ← holding [ov] (getMethod ov m pl)
  callWith pos f first (backTo pos (starEach (e :: es) X.env)) (backToKw pos (keywordEach [] X.env))) := by rfl) :
 mH X T W (.Call (.Attribute o m apos) (e :: es) [] pos) (uZ n 0 mt gD mo ma (aj [])) := fun B w σ H fr h Q R pp => WE.mk <| fun pins s I => by
 refine PySem.W.methodCall_KW (pl := pl) (thn ((so B w σ H fr h (fun v H1 => ∃ (kk : Nat) (f : Addr) (fd : FuncData) (ps : List Str) (a C dx : Addr) (fs : List (Str × V)) (G : Fn), v = .ref a ∧ H1 a = some (.ins C dx fs) ∧ fs.lookup m = none ∧ Cls X.K C ∧ Meth X.K C m f ∧ jM X.prog X.w X.K X.mg X.base T kk f fd ps G ∧ Bn X.K T fd ps (n + 1) [] gD ∧ kk ≤ k ∧
  ∀ g gV, KBn X.K fd ps (n + 1) [] g gV → (∀ (w : Wd) (vs zs : List V) (ds es : List D), az X.K T w vs ds → az X.K T w zs es → ds.length = n + 1 → es.length = ([] : List Str).length → az X.K T w (gV vs zs) (gD ds es) ∧ (gD ds es).length = ps.length) →
    WA X (e :: es) σ H1 fun vs H2 => (.ref a :: vs).length = n + 1 ∧ spF X.K T ps.length G (gV (.ref a :: vs) []) H2 Q (fun c d H' => W c d σ H')) R (aJ.bind (VR := vV X.K T B σ) pp fun d fr1 h1 w1 H1 v e1 l1 r1 rv p1 => ?_)).go pins s I) fun u s1 ⟨x, H1, I1, rx, kk, f, fd, ps, a, Cl, dx, fs, G, ex, ea, l, c1, c2, c3, c4, c5, q⟩ => ?_) ht
 · have p1' : aJ X.K T B W (vE X.K T B σ) w1 σ (match fnOf mt h1 d with | some F => (au (n + 1) 0 F gD (ma.bind fun ds => M.ret (d :: ds)) (aj [])) fr1 h1 | none => .err) Q := p1
   cases ef : fnOf mt h1 d with
   | none => rw [ef] at p1'; exact p1'.elim
   | some G =>
     rw [ef] at p1'
     obtain ⟨kk, f, fd, ps, a, Cl, dx, fs, rfl, eH, l, c1, c2, c3, c4, c5⟩ := O4 Mf r1 rv ef
     refine ⟨kk, f, fd, ps, a, Cl, dx, fs, G, rfl, eH, l, c1, c2, c3, c4, c5, fun g gV hb hgD => ?_⟩
     have p2 : aJ X.K T B W (vE X.K T B σ) w1 σ ((ma.bind fun ds fr h => if (d :: ds).length = n + 1 ∧ ([] : List D).length = 0 then bu fr (G (gD (d :: ds) []) h) else .err) fr1 h1) Q := by
      have ee : (au (n + 1) 0 G gD (ma.bind fun ds => M.ret (d :: ds)) (aj [])) fr1 h1 = (ma.bind fun ds fr h => if (d :: ds).length = n + 1 ∧ ([] : List D).length = 0 then bu fr (G (gD (d :: ds) []) h) else .err) fr1 h1 := by
       unfold au M.bind
       cases ma fr1 h1 <;> rfl
      rw [← ee]
      exact p1'
     refine sa B w1 σ H1 fr1 h1 _ r1 (aJ.bind (VR := vA X.K T B σ) p2 fun ds fr2 h2 w2 H2 vs e2 l2 r2 rs p3 => ?_)
     have q := zg (n := n + 1) (m := 0) (zs := []) (es := []) hgD r2 (.cons (rv.mono l2) rs) .nil p3
     exact ⟨q.1, q.2.2⟩
 · subst ex
   obtain rfl : u = Value.ref a := rx
   obtain ⟨g, gV, hb, hgD⟩ := c4.ex
   refine getmeth_ok I1 ea c1 c2 l ?_
   refine PySem.W.callWith_K (first := [.ref a]) (h₀ := X.base) I.ok.mod.kin c2.kp (thn ((q g gV hb hgD).go pos pins s1 I1) fun us s2 ⟨vs, H2, I2, r, q2⟩ => ⟨I2.kIn, ?_⟩) hst hpl
   exact M4 (us := .ref a :: us) (ws := []) (vs := .ref a :: vs) c3.ok (C.room.mono c5) hb C.takes I2 (.cons rfl r) .nil q2.1 rfl q2.2
structure afr (X : Cx) (T : Tb) (k : Nat) (m : Str) (mt : Nat → Option Fn) : Prop where
 ex : ∀ c F, mt c = some F → ∃ (kk : Nat) (pa f : Addr) (fd : FuncData) (ps : List Str), Cls X.K (T.cad c) ∧ PropOf X.K (T.cad c) m pa f ∧ jM X.prog X.w X.K X.mg X.base T kk f fd ps F ∧ Binds X.K fd ps [] ∧ ps.length = 1 ∧ kk + 1 ≤ k
def afs (mt : Nat → Option Fn) (mo : M D) : M D := mo.bind fun o fr h => match fnOf mt h o with
 | some F => match F [o] h with
   | .ok d _ h => .ok d fr h
   | _ => .err
 | none => .err
end
end Pk
namespace Pk
open PySem PySem.Spec L2
section
variable {X : Cx} {T : Tb} {W : WX} {k c : Nat} {x : Str} {pos : Pos}
theorem QX (hm : X.mg x = some (.ref (T.cad c))) (hg : Gl X x := by rfl) (hd : (x == ("__debug__" : Str)) = false := by decide) : aR X T W (.Name x pos) (mC (.cls c)) := fun B w σ H fr h Q r p =>
 cY (pe_glob (v := .ref (T.cad c)) hg hm rfl hd) (p w H _ (Wd.le_refl _) r (.cls c))
theorem vW {t : String} (hm : X.mg x = none) (hg : Gl X x := by rfl) (hv : bootBuiltins x = some (.type t) := by decide +kernel) (hn : x ≠ "__name__" := by decide) (hd : (x == ("__debug__" : Str)) = false := by decide) : aR X T W (.Name x pos) (mC (.ty t)) := fun B w σ H fr h Q r p =>
 cY (pe_bltn (v := .ty t) hg hm hv rfl hn hd) (p w H _ (Wd.le_refl _) r (.ty t))
structure agd (X : Cx) (T : Tb) (x : Str) (d : D) : Prop where
 ex : ∃ (u : Value) (v : V), X.mg x = some u ∧ RelV v u ∧ bD X.K T ⟨fun _ => none, []⟩ v d
end
inductive Tg where
 | b (t : String) | o (c : Nat)
 deriving DecidableEq
def Tg.v (T : Tb) : Tg → Value
 | .b t => .type t
 | .o c => .ref (T.cad c)
def D.tag (h : Hh) (d : D) : Option Tg := match d.der h with
 | .non => some (.b "NoneType")
 | .bl _ => some (.b "bool")
 | .int _ => some (.b "int")
 | .str _ => some (.b "str")
 | .tup _ => some (.b "tuple")
 | .fl _ => some (.b "list")
 | .nl _ => some (.b "list")
 | .kl _ => some (.b "list")
 | .obj c _ => some (.o c)
 | .no c _ => some (.o c)
 | _ => none
def D.ctag : D → Option Tg
 | .ty t => some (.b t)
 | .cls c => some (.o c)
 | _ => none
structure Vs (K : PySem.W.Frag) (C : Addr) : Prop where
 cls : Cls K C
 ha : PySem.W.findIn K (.ref C) "__class__" = some (some (.builtin "object.__class__"))
 hn : PySem.W.specialIn K (.builtin "object.__class__") "__get__" = some (some (.builtin "getset_descriptor.__get__"))
 htk : PySem.W.takesIn K (.builtin "object.__class__") = some true
 hm : PySem.W.mroIn K C (.type "object") = some true
structure M5 (K : PySem.W.Frag) (T : Tb) (tab : Tg → Tg → Option Bool) : Prop where
 kit : ∀ t u b, tab t u = some b → PySem.W.kitOne K (t.v T) (u.v T) = some b
 ins : ∀ c u b, tab (.o c) u = some b → Vs K (T.cad c)
def ym : List String := ["NoneType", "bool", "int", "str", "tuple", "list"]
def QZ (a b : String) : Option Bool := if ym.contains a && ym.contains b then some (a == b || (a == "bool" && b == "int")) else none
theorem aai : ∀ a b r, QZ a b = some r → kitB a b = some r := by
 have key : ∀ a ∈ ym, ∀ b ∈ ym, kitB a b = QZ a b := by decide +kernel
 intro a b r h
 unfold QZ at h
 split at h
 · rename_i hh
   obtain ⟨h1, h2⟩ := Bool.and_eq_true_iff.mp hh
   rw [key a (List.contains_iff_mem.mp h1) b (List.contains_iff_mem.mp h2)]
   unfold QZ
   rw [if_pos hh]
   exact h
 · cases h
def Ah : List D → Option (List Tg)
 | [] => some []
 | d :: ds => match d.ctag, Ah ds with
   | some u, some us => some (u :: us)
   | _, _ => none
def vX (tab : Tg → Tg → Option Bool) (t : Tg) : List Tg → Option Bool
 | [] => some false
 | u :: us => match tab t u with
   | some true => some true
   | some false => vX tab t us
   | none => none
def j9 (tab : Tg → Tg → Option Bool) (h : Hh) (d c : D) : Option D := match d.tag h with
 | some t => match c with
   | .tup l => match Ah l with
     | some (u :: us) => (vX tab t (u :: us)).map .bl
     | _ => none
   | c => match c.ctag with
     | some u => (tab t u).map .bl
     | none => none
 | none => none
section
variable {X : Cx} {T : Tb} {W : WX} {k : Nat} {pos pf : Pos} {a b : Expr} {ma mb : M D} {tab : Tg → Tg → Option Bool}
theorem Eb {K : PySem.W.Frag} {w : Wd} {v : V} {d : D} {u : Tg} (r : bD K T w v d) (e : d.ctag = some u) : ClsV v (u.v T) := by
 cases r <;> cases e
 · exact .own _
 · exact .ty _
theorem Cm {K : PySem.W.Frag} {B : Bs} {w : Wd} {σ : L2.St} {H : Hp} {fr : Fr} {h : Hh} {v : V} {d : D} {t u : Tg} {bb : Bool} (F : M5 K T tab) (R : Rel K T B w σ H fr h) (rv : vO K T B σ w H fr v d) (e : d.tag h = some t) (e2 : tab t u = some bb) : TyX K H v (t.v T) := by
 have sqT : ∀ {a : Addr} {vs : List V}, SqT K H a vs → TyX K H (.ref a) (.type "tuple") := fun {a vs} q => by
  rcases q with (q | ⟨o, q⟩) | ⟨o, its, n, q1, q2, _⟩
  · exact .base (.tup q)
  · exact .fTuple q
  · exact .kTuple q1 q2
 have sqL : ∀ {a : Addr} {vs : List V}, SqL K H a vs → TyX K H (.ref a) (.type "list") := fun {a vs} q => by
  rcases q with (q | ⟨o, q⟩) | ⟨o, its, n, q1, q2, _⟩
  · exact .base (.lst q)
  · exact .base (.frz q)
  · exact .kList q1 q2
 have ins : ∀ {c : Nat} {a dx : Addr} {fs : List (Str × V)}, tab (.o c) u = some bb → H a = some (.ins (T.cad c) dx fs) → TyX K H (.ref a) (.ref (T.cad c)) := fun {c a dx fs} q eH => by
  have i := F.ins c u bb q
  exact .base (.ins eH i.cls i.ha i.hn i.htk i.hm)
 rcases rv with rv | ⟨p, o, rfl, eH, rv⟩
 · cases rv with
   | non => cases e; exact .base .non
   | bl b => cases e; exact .base (.bl b)
   | int i => cases e; exact .base (.int i)
   | str s => cases e; exact .base (.str s)
   | tup s r => cases e; exact sqT (eG R.sub s)
   | fl s r => cases e; exact .base (.lst (R.sub _ _ s))
   | kl s r => cases e; exact sqL (jK R.sub s)
   | obj s r => cases e; exact ins e2 (R.sub _ _ s)
   | @ref a n s =>
     have ln : n < h.length := by
      rw [← R.len]
      exact (List.getElem?_eq_some_iff.mp s).1
     obtain ⟨o, q, rr⟩ := R.cel n a h[n] s (ahi ln)
     have e0 : D.der h (.ref n) = h[n] := by
      unfold D.der
      dsimp only
      rw [ahi ln]
      rfl
     unfold D.tag at e
     rw [e0] at e
     generalize h[n] = cc at rr e
     cases rr with
     | lst r => cases e; exact .base (.lst q)
     | obj r => cases e; exact ins e2 q
     | dct _ r => cases e
     | dkt _ r => cases e
     | so0 _ => cases e
     | so1 _ _ => cases e
     | hid0 => cases e
     | hid1 => cases e
   | cls _ => cases e
   | ty _ => cases e
   | sl _ => cases e
   | tp _ _ => cases e
 · cases rv with
   | lst r => cases e; exact .base (.lst eH)
   | obj r => cases e; exact ins e2 eH
theorem Ai {K : PySem.W.Frag} {w : Wd} : ∀ {vs : List V} {ds : List D} {us : List Tg}, az K T w vs ds → Ah ds = some us → Paired ClsV vs (us.map (Tg.v T))
 | _, _, _, .nil, e => by cases e; exact .nil
 | _, _, _, @az.cons _ _ _ v d vs ds r rr, e => by
   unfold Ah at e
   cases e1 : d.ctag with
   | none => rw [e1] at e; cases e
   | some u =>
     cases e2 : Ah ds with
     | none => rw [e1, e2] at e; cases e
     | some us =>
       rw [e1, e2] at e
       cases e
       exact .cons (Eb r e1) (Ai rr e2)
theorem Ec {K : PySem.W.Frag} {t : Tg} {bb : Bool} (F : M5 K T tab) : ∀ {us : List Tg}, vX tab t us = some bb → PySem.W.kitAny K (t.v T) (us.map (Tg.v T)) = some bb
 | [], e => by cases e; exact kitAny_nil
 | u :: us, e => by
   unfold vX at e
   cases et : tab t u with
   | none => rw [et] at e; cases e
   | some b1 =>
     rw [et] at e
     cases b1 with
     | false => exact kitAny_cons (F.kit t u false et) (fun _ => Ec F e) (fun z => by cases z)
     | true =>
       cases e
       exact kitAny_cons (F.kit t u true et) (fun z => by cases z) (fun _ => rfl)
theorem Bf {t : Tg} {bb : Bool} {us : List Tg} (e : vX tab t us = some bb) : us = [] ∨ ∃ u b, tab t u = some b := by
 cases us with
 | nil => exact .inl rfl
 | cons u us =>
   right
   unfold vX at e
   cases et : tab t u with
   | none => rw [et] at e; cases e
   | some b => exact ⟨u, b, et⟩
theorem O5 : CallR X (.builtin "isinstance") (fun xs H Q => ∃ (x : V) (tp : Addr) (cs : List V) (t : Value) (us : List Value) (b : Bool), xs = [x, .ref tp] ∧ SqT X.K H tp cs ∧ Paired ClsV cs us ∧ TyX X.K H x t ∧ PySem.W.kitAny X.K t us = some b ∧ Q (.bl b) H) := by
 intro pins s σ H xs us Q I r h
 obtain ⟨x, tp, cs, t, ws, b, rfl, hT, k, ty, e, q⟩ := h
 obtain ⟨u1, u2, rfl, r1, r2⟩ := vals2 r
 cases (show u2 = Value.ref tp from r2)
 obtain ⟨P, Z, p, hx⟩ := kit_of I r1 ty
 obtain ⟨its, rv, pl, _⟩ := I.tuple hT
 obtain ⟨o, h1, h2, n, h3⟩ := pl
 have e3 := ClsV.all k rv
 subst e3
 obtain ⟨oc, od, dt, sl⟩ := o
 simp only at h2 h3
 subst h2 h3
 exact PySem.W.kia_tup Z I.kIn p h1 e hx fun tk => ⟨.bl b, H, I.tok tk, rfl, q⟩
theorem xW (F : M5 X.K T tab) (sa : aR X T W a ma) (sb : aR X T W b mb) (hm : X.mg "isinstance" = none) (hg : Gl X "isinstance" := by rfl) (he : starEach (a :: b :: []) X.env = (false, eval a X.env) :: starEach (b :: []) X.env := by exact cJ rfl) (he2 : starEach (b :: []) X.env = (false, eval b X.env) :: starEach [] X.env := by exact cJ rfl)
 (hpl : (backTo pos (starEach (b :: []) X.env)).any (·.1) = false := by rfl) : aR X T W (.Call (.Name "isinstance" pf) [a, b] [] pos) (aD (j9 tab) ma mb) :=
 XQ (id := "isinstance") sa sb (fun B w σ H fr h x y d e z Q R rx ry q kk => by
  have ry : bD X.K T w y e := ry
  unfold j9 at q
  cases et : d.tag h with
  | none => rw [et] at q; cases q
  | some t =>
    rw [et] at q
    have one : ∀ u, e.ctag = some u → (tab t u).map D.bl = some z → cM X (.builtin "isinstance") [x, y] H Q := fun u ec eq => by
     obtain ⟨bb, eb, rfl⟩ := Option.map_eq_some_iff.mp eq
     exact gR call_isi ⟨x, y, t.v T, u.v T, bb, rfl, Eb ry ec, Cm F R (.inl rx) et eb, F.kit t u bb eb, kk w H _ (Wd.le_refl _) R (.bl bb)⟩
    cases e with
    | tup l =>
      dsimp only at q
      cases ec : Ah l with
      | none => rw [ec] at q; cases q
      | some us =>
        rw [ec] at q
        cases us with
        | nil => cases q
        | cons u us =>
          obtain ⟨bb, eb, rfl⟩ := Option.map_eq_some_iff.mp q
          obtain ⟨p, vs, rfl, sq, rs⟩ := vC ry
          have ty : TyX X.K H x (t.v T) := by
           rcases Bf eb with z | ⟨u', b', z⟩
           · cases z
           · exact Cm F R (.inl rx) et z
          exact gR O5 ⟨x, p, vs, t.v T, (u :: us).map (Tg.v T), bb, rfl, eG R.sub sq, Ai rs ec, ty, Ec F eb, kk w H _ (Wd.le_refl _) R (.bl bb)⟩
    | cls c => exact one _ rfl q
    | ty t => exact one _ rfl q
    | _ => cases q) hm hg (by decide +kernel) (by decide) (by decide) he he2 hpl
end
end Pk
namespace Pk
open PySem PySem.Spec L2
structure PD where
 adr : PySem.W.Frag → Addr
 name : Str
 qual : Str
 params : Arguments
 body : List Stmt
 scope : Scope
 dfl : List He.Dv
 kwd : List (Str × He.Dv)
 /-- an __init__ that says super() -/
 clo : Bool
def fnWa (K : PySem.W.Frag) (a : Addr) : He.FnW := match K.lookup a with
 | some ⟨_, _, .func fd, _⟩ => some (fd.name, fd.qualname, fd.params, fd.body, fd.scope, fd.globals, fd.closure.map (fun q => (q.1, 0)), fd.builtins)
 | _ => none
def PD.val (d : PD) : He.FnW := some (d.name, d.qual, d.params, .stmts d.body, d.scope, mainGlobals, if d.clo then [("__class__", 0)] else [], builtinsNs)
def PD.dvs (K : PySem.W.Frag) (d : PD) : List V := d.dfl.map (He.Dv.v K)
def PD.kws (K : PySem.W.Frag) (d : PD) : List (Str × V) := d.kwd.map fun q => (q.1, q.2.v K)
def PD.ok (K : PySem.W.Frag) (d : PD) : Bool := PySem.W.keepIn K (.ref (d.adr K)) && (match K.lookup (d.adr K) with
 | some ⟨_, _, .func fd, _⟩ => PySem.W.codeIn K fd.code d.qual && (He.dflB K fd.defaults (d.dvs K) && He.kwdB K fd.kwdefaults (d.kws K))
 | _ => false)
theorem PD.funD {K : PySem.W.Frag} {d : PD} (hc : d.clo = false) (e : fnWa K (d.adr K) = d.val) (c : d.ok K = true) : ∃ fd, FunD K d.name d.qual d.params d.body d.scope (d.dvs K) (d.kws K) (d.adr K) fd := by
 obtain ⟨kp, c2⟩ := He.ba c
 unfold fnWa at e
 cases q : K.lookup (d.adr K) with
 | none =>
   rw [q] at c2
   cases c2
 | some o =>
   obtain ⟨oc, od, dt, osl⟩ := o
   rw [q] at c2 e
   cases dt with
   | func fd =>
     obtain ⟨n1, n2, n3, n4, n5, n6, n7, n8, n9, n10, n11, n12, n13, n14, n15⟩ := fd
     unfold PD.val at e
     rw [hc] at e
     have e2 : (some (n1, n2, n3, n4, n5, n6, n7.map (fun q => (q.1, 0)), n15) : He.FnW) = some (d.name, d.qual, d.params, .stmts d.body, d.scope, mainGlobals, [], builtinsNs) := e
     simp only [Option.some.injEq, Prod.mk.injEq, List.map_eq_nil_iff] at e2
     obtain ⟨h1, h2, h3, h4, h5, h6, h7, h8⟩ := e2
     subst h1 h2 h3 h4 h5 h6 h7 h8
     have c3 : (PySem.W.codeIn K n13 d.qual && (He.dflB K n8 (d.dvs K) && He.kwdB K n9 (d.kws K))) = true := c2
     obtain ⟨k1, k2⟩ := He.ba c3
     obtain ⟨k3, k4⟩ := He.ba k2
     exact ⟨_, ⟨oc, od, n8, n9, n10, n11, n12, n13, n14, osl, rfl, q, k1, He.dflB_ok k3, He.kwdB_ok k4⟩, kp⟩
   | _ => cases c2
def pgA (K : PySem.W.Frag) (C : Addr) (f : Str) : Addr := match PySem.W.findIn K (.ref C) f with
 | some (some (.ref p)) => (match PySem.W.recIn K p "property" with
   | some (.ref g :: _) => g
   | _ => 0)
 | _ => 0
def Uc (a : PySem.W.Frag → Addr) (x : Str) (K : PySem.W.Frag) : Addr := match K.lookup (a K) with
 | some ⟨_, _, .func fd, _⟩ => (match fd.kwdefaults with
   | .ref d => (match PySem.W.nsIn K d x with
     | some (some (.ref b)) => b
     | _ => 0)
   | _ => 0)
 | _ => 0
def dfA (a : PySem.W.Frag → Addr) (i : Nat) (K : PySem.W.Frag) : Addr := match K.lookup (a K) with
 | some ⟨_, _, .func fd, _⟩ => (match fd.defaults with
   | .ref T => (match K.lookup T with
     | some ⟨_, _, .seq its _, _⟩ => (match its.toList[i]? with
       | some (.ref b) => b
       | _ => 0)
     | _ => 0)
   | _ => 0)
 | _ => 0
def abA (K : PySem.W.Frag) (a : Addr) (vs : List He.Dv) : Bool := match K.lookup a with
 | some ⟨.type c, _, .seq its _, _⟩ => decide (c = "tuple") && (decide (its.size ≤ sizeLine) && He.relAll (vs.map (He.Dv.v K)) its.toList)
 | _ => false
inductive Fx where
 | he (f : He.Fa)
 | prop (x f : Str)
 | ins (x : Str)
 | kit (t u : Tg) (b : Bool)
 | tup (a : PySem.W.Frag → Addr) (vs : List He.Dv)
 | slf (x : Str)
 /-- an own error class whose __init__ says super(): its fields, the file -/
 | own (x file : Str) (fs : List Str)
 /-- an error class as isinstance wants it -/
 | exi (x : Str)
 /-- a class that is no kind of number -/
 | nsb (x : Str)
 /-- anything else that is to be seen -/
 | raw (p : PySem.W.Frag → Bool)
def Wx (cn : Nat → Str) (fld : Nat → List Str) (K : PySem.W.Frag) : Tb := ⟨fun c => He.ga K (cn c), fld, []⟩
def clsX (K : PySem.W.Frag) (C : Addr) : Bool := match K.lookup C with
 | some ⟨.type "type", _, .cls cd, sl⟩ => (match cd.mro, sl.toList with
   | .ref C' :: bm, [_, _, _, _, some (.builtin n), _] => C' == C && (n == "ValueError.__new__" && (!cd.hasDel && (cd.hasDict && (PySem.HandSPX.refsVE bm && He.eqO (PySem.W.alongIn K "__init__" bm) (some (some (.builtin "ValueError.__init__")))))))
   | _, _ => false)
 | _ => false
def iniX (K : PySem.W.Frag) (C f : Addr) (file : Str) : Bool := match K.lookup f with
 | some ⟨_, _, .func fd, _⟩ => (match fd.closure, fd.defaults, fd.code with
   | [(_, cc)], .none, .ref cda => (match K.lookup cc with
       | some ⟨_, _, .cell (some (.ref a)), _⟩ => decide (a = C)
       | _ => false) && (PySem.W.codeIn K (.ref cda) fd.qualname && (match K.lookup cda with
       | some ⟨_, _, Data.fields vs, _⟩ => (match (vs[2]? : Option Value) with
         | some (.str fi _) => decide (fi = file)
         | _ => false)
       | _ => false))
   | _, _, _ => false)
 | _ => false
def X4 (K : PySem.W.Frag) (C f : Addr) (file : Str) (fs : List Str) : Bool :=
 clsX K C && (He.eqO (PySem.W.findIn K (.ref C) "__setattr__") (some (some (.builtin "object.__setattr__"))) && (He.eqO (PySem.W.findIn K (.ref C) "__init__") (some (some (.ref f))) && (decide (PySem.W.typeIn K (.ref f) = some (.type "function")) &&
  (decide (PySem.W.subIn K (.ref C) (.type "ValueError") = some true) && (decide (PySem.W.mroIn K C (.ref C) = some true) && (He.eqO (PySem.W.nsIn K cStatics "thirdparty.any") (some none) && (iniX K C f file && (fs.all (fun y => He.eqO (PySem.W.findIn K (.ref C) y) (some none)) &&
  (PySem.W.keepIn K (.ref C) && (decide (PySem.W.subIn K (.ref C) (.type "BaseException") = some true) && (decide (PySem.W.typeIn K (.ref C) = some (.type "type")) && (He.eqO (PySem.W.findIn K (.ref C) "__getattribute__") (some (some (.builtin "BaseException.__getattribute__"))) &&
  (He.eqO (PySem.W.findIn K (.ref C) "__getattr__") (some none) && PySem.W.hasDictIn K C)))))))))))))
def abB (K : PySem.W.Frag) (C : Addr) : Bool :=
 He.eqO (PySem.W.findIn K (.ref C) "__getattribute__") (some (some (.builtin "BaseException.__getattribute__"))) && (He.eqO (PySem.W.findIn K (.ref C) "__getattr__") (some none) && (decide (PySem.W.subIn K (.ref C) (.type "BaseException") = some true) && (PySem.W.hasDictIn K C &&
  (He.eqO (PySem.W.findIn K (.ref C) "__class__") (some (some (.builtin "object.__class__"))) && (He.eqO (PySem.W.specialIn K (.builtin "object.__class__") "__get__") (some (some (.builtin "getset_descriptor.__get__"))) && (decide (PySem.W.takesIn K (.builtin "object.__class__") = some true) && decide (PySem.W.mroIn K C (.type "object") = some true)))))))
theorem Ud {K : PySem.W.Frag} {C : Addr} (h : abB K C = true) : L2.ExcC K C := by
 obtain ⟨c1, h⟩ := He.ba h
 obtain ⟨c2, h⟩ := He.ba h
 obtain ⟨c3, h⟩ := He.ba h
 obtain ⟨c4, h⟩ := He.ba h
 obtain ⟨c5, h⟩ := He.ba h
 obtain ⟨c6, h⟩ := He.ba h
 obtain ⟨c7, c8⟩ := He.ba h
 exact ⟨He.eqO_ok c1, He.eqO_ok c2, of_decide_eq_true c3, c4, He.eqO_ok c5, He.eqO_ok c6, of_decide_eq_true c7, of_decide_eq_true c8⟩
def Fx.ok (cn : Nat → Str) (K : PySem.W.Frag) : Fx → Bool
 | .he f => f.ok K
 | .prop x f => He.eqO (PySem.W.findIn K (.ref (He.ga K x)) f) (some (some (.ref (He.ma K (He.ga K x) f)))) && (He.eqO (PySem.W.specialIn K (.ref (He.ma K (He.ga K x) f)) "__get__") (some (some (.builtin "property.__get__"))) &&
  (decide (PySem.W.takesIn K (.ref (He.ma K (He.ga K x) f)) = some true) && (match PySem.W.recIn K (He.ma K (He.ga K x) f) "property" with
   | some (.ref g :: _) => decide (g = pgA K (He.ga K x) f)
   | _ => false)))
 | .ins x => (He.Fa.cls x).ok K && (He.eqO (PySem.W.findIn K (.ref (He.ga K x)) "__class__") (some (some (.builtin "object.__class__"))) && (He.eqO (PySem.W.specialIn K (.builtin "object.__class__") "__get__") (some (some (.builtin "getset_descriptor.__get__"))) &&
  (decide (PySem.W.takesIn K (.builtin "object.__class__") = some true) && decide (PySem.W.mroIn K (He.ga K x) (.type "object") = some true))))
 | .kit t u b => decide (PySem.W.kitOne K (t.v (Wx cn (fun _ => []) K)) (u.v (Wx cn (fun _ => []) K)) = some b)
 | .tup a vs => abA K (a K) vs
 | .slf x => PySem.W.selfFirst K (He.ga K x)
 | .nsb x => decide (PySem.W.subIn K (.ref (He.ga K x)) (.type "int") = some false) && decide (PySem.W.subIn K (.ref (He.ga K x)) (.type "bool") = some false)
 | .exi x => abB K (He.ga K x)
 | .raw p => p K
 | .own x file fs => X4 K (He.ga K x) (He.ma K (He.ga K x) "__init__") file fs
section
variable {K : PySem.W.Frag} {cn : Nat → Str} {fld : Nat → List Str}
theorem Wy {p : PySem.W.Frag → Bool} (c : (Fx.raw p).ok cn K = true) : p K = true := c
theorem qT {x : Str} (c : (Fx.ins x).ok cn K = true) : Vs K (He.ga K x) := by
 obtain ⟨c1, c⟩ := He.ba c
 obtain ⟨c2, c⟩ := He.ba c
 obtain ⟨c3, c⟩ := He.ba c
 obtain ⟨c4, c5⟩ := He.ba c
 exact ⟨He.cls_ok c1, He.eqO_ok c2, He.eqO_ok c3, of_decide_eq_true c4, of_decide_eq_true c5⟩
theorem je {t u : Tg} {b : Bool} (c : (Fx.kit t u b).ok cn K = true) : PySem.W.kitOne K (t.v (Wx cn fld K)) (u.v (Wx cn fld K)) = some b := by
 have h := of_decide_eq_true c
 cases t <;> cases u <;> exact h
end
abbrev AlP : Type := Bool × List He.FnW
def abC (cn : Nat → Str) (fa : List Fx) (fn : List PD) (K : PySem.W.Frag) : AlP := ((fa.all fun f => f.ok cn K) && fn.all fun d => d.ok K, fn.map fun d => fnWa K (d.adr K))
def abD (fn : List PD) : AlP := (true, fn.map PD.val)
def Aj (cn : Nat → Str) (fa : List Fx) (fn : List PD) (K : PySem.W.Frag) : Prop := abC cn fa fn K = abD fn
def adg (o : Obj) : List Addr := (match o.dict with
 | some d => [d]
 | none => []) ++ match o.data with
 | .seq its _ => its.toList.flatMap He.refV
 | .dict es _ => es.toList.flatMap fun e => He.refV e.val
 | .func fd => He.refV fd.code ++ (He.refV fd.defaults ++ (He.refV fd.kwdefaults ++ fd.closure.map (·.2)))
 | .cls cd => cd.ns :: (cd.mro.drop 1).flatMap He.refV
 | .fields vs => vs.toList.flatMap He.refV
 | .cell (some v) => He.refV v
 | _ => []
def asF (g : Addr → Option Obj) : Nat → List Addr → List Addr
 | 0, l => l
 | n + 1, l => l ++ asF g n (l.flatMap fun a => match g a with
   | some o => adg o
   | none => [])
def asP (g : Addr → Option Obj) (n : Nat) : List Addr := asF g n [mainGlobals] ++ [cStatics]
def obsPG (n : Nat) (cn : Nat → Str) (fa : List Fx) (fn : List PD) (g : Addr → Option Obj) : AlP := abC cn fa fn (He.frG g (asP g n))
def hookP (n : Nat) (cn : Nat → Str) (fa : List Fx) (fn : List PD) : PySem.W.Hook where
 α := AlP
 obs := fun s => obsPG n cn fa fn s.heap.get?
 val := fun _ => abD fn
 says := fun _ h => ∃ K : PySem.W.Frag, K.In h ∧ Aj cn fa fn K
 of := fun _ _ e => ⟨_, He.frG_in, e⟩
 keeps := fun _ _ _ ⟨K, hK, c⟩ k => ⟨K, PySem.W.Frag.In.keeps hK k, c⟩
theorem obsPG_eq {n : Nat} {cn : Nat → Str} {fa : List Fx} {fn : List PD} {g : Addr → Option Obj} {s : Shared} (h : ∀ a, g a = s.heap.get? a) : obsPG n cn fa fn g = (hookP n cn fa fn).obs s := by
 have e : g = s.heap.get? := funext h
 rw [e] <;> rfl
section
variable {cn : Nat → Str} {fa : List Fx} {fn : List PD} {K : PySem.W.Frag}
theorem Aj.fact (c : Aj cn fa fn K) (i : Nat) {f : Fx} (h : fa[i]? = some f := by rfl) : f.ok cn K = true := by
 have c1 := (He.ba (show ((fa.all fun f => f.ok cn K) && fn.all fun d => d.ok K) = true from congrArg (fun z : AlP => z.1) c)).1
 exact List.all_eq_true.mp c1 f (ahq h)
theorem Aj.def_ (c : Aj cn fa fn K) (i : Nat) {d : PD} (h : fn[i]? = some d := by rfl) (hc : d.clo = false := by rfl) : ∃ fd, FunD K d.name d.qual d.params d.body d.scope (d.dvs K) (d.kws K) (d.adr K) fd := by
 have c2 := (He.ba (show ((fa.all fun f => f.ok cn K) && fn.all fun d => d.ok K) = true from congrArg (fun z : AlP => z.1) c)).2
 have e : fn.map (fun d => fnWa K (d.adr K)) = fn.map PD.val := congrArg (fun z : AlP => z.2) c
 have e2 : (fn.map fun d => fnWa K (d.adr K))[i]? = (fn.map PD.val)[i]? := by rw [e]
 rw [ahy, ahy, h] at e2
 exact PD.funD hc (Option.some.inj e2) (List.all_eq_true.mp c2 d (ahq h))
theorem Aj.wrote (c : Aj cn fa fn K) (i : Nat) {d : PD} (h : fn[i]? = some d := by rfl) : fnWa K (d.adr K) = d.val := by
 have e : fn.map (fun d => fnWa K (d.adr K)) = fn.map PD.val := congrArg (fun z : AlP => z.2) c
 have e2 : (fn.map fun d => fnWa K (d.adr K))[i]? = (fn.map PD.val)[i]? := by rw [e]
 rw [ahy, ahy, h] at e2
 exact Option.some.inj e2
end
theorem KH {K : PySem.W.Frag} {T : Tb} {w : Wd} : ∀ ns : List Int, az K T w (ns.map V.int) (ns.map D.int)
 | [] => .nil
 | i :: r => .cons (.int i) (KH r)
theorem law_sp {K : PySem.W.Frag} {T : Tb} {F : Fn} {H : Hp} {a : Addr} {ns : List Int} (hq : SqL K H a (ns.map V.int)) {fr : Fr} {h : Hh} (e : F [.kl (ns.map D.int)] [] = .ok (.bl true) fr h) (hT : T.tabs = [] := by rfl) : spF K T 1 F [.ref a] H (fun v _ => v = .bl true) (fun _ _ _ => False) := by
 refine ⟨⟨H, []⟩, [], [.kl (ns.map D.int)], ⟨Wd.le_refl _, fun _ q => .inl q, fun _ q => (by cases q), fun _ _ q _ => .inl q, fun _ q => (by cases q), fun _ _ q => q, rfl, List.nodup_nil, fun _ q => (by cases q), fun _ _ _ q => (by simp at q), rfl, fun _ _ _ q => (by simp at q), fun _ _ _ _ q => (Gj q).elim, fun _ _ _ q _ => (by simp at q), fun _ q => (by cases q), fun q hq => absurd (hT ▸ hq : q ∈ ([] : List (Addr × Str))) (by simp), fun q hq => absurd (hT ▸ hq : q ∈ ([] : List (Addr × Str))) (by simp)⟩, .cons (.kl hq (KH ns)) .nil, rfl, ?_⟩
 rw [e]
 intro w' H' v l R rv
 rcases rv with rv | ⟨p, o, _, _, _, _, r⟩
 · cases rv
   rfl
 · cases r
def pick {α : Type} (is : List Nat) (l : List α) : List α := is.filterMap fun i => l[i]?
theorem GJ : ∀ (is : List Nat) {vs : List V} {us : List Value}, Vals vs us → Vals (pick is vs) (pick is us)
 | [], _, _, _ => .nil
 | i :: is, vs, us, r => by
   unfold pick
   rw [List.filterMap_cons, List.filterMap_cons]
   cases e : vs[i]? with
   | none =>
     have e2 : us[i]? = none := by
      rw [List.getElem?_eq_none_iff] at e ⊢
      rw [← r.length]
      exact e
     rw [e2]
     exact GJ is r
   | some v =>
     obtain ⟨u, hu, ru⟩ := r.get e
     rw [hu]
     exact .cons ru (GJ is r)
theorem JH {K : PySem.W.Frag} {T : Tb} {w : Wd} : ∀ (is : List Nat) {vs : List V} {ds : List D}, az K T w vs ds → az K T w (pick is vs) (pick is ds)
 | [], _, _, _ => .nil
 | i :: is, vs, ds, r => by
   unfold pick
   rw [List.filterMap_cons, List.filterMap_cons]
   cases e : ds[i]? with
   | none =>
     have e2 : vs[i]? = none := by
      rw [List.getElem?_eq_none_iff] at e ⊢
      rw [r.length]
      exact e
     rw [e2]
     exact JH is r
   | some d =>
     obtain ⟨v, hv, rv⟩ := r.get e
     rw [hv]
     exact .cons rv (JH is r)
def Zx {α : Type} (is : List Nat) (us mv ws : List α) : List α := us ++ pick is (ws ++ mv)
end Pk
namespace PySem
namespace EnT
abbrev Q3 (l : Addr) : Obj := { cls := .type "tuple_iterator", data := .fields #[.ref l, .int 0 0] }
abbrev Wz (it : Addr) : Obj := { cls := .type "enumerate", data := .fields #[.none, .bool false, .ref it, rawInt 0, .none, .none] }
theorem wN (l : Addr) (items : Array Value) (n : Nat) (dct : Option Addr) (sl : Array (Option Value)) :
 Meets (Builtin.«enumerate.__new__» ⟨[.type "enumerate", .ref l], []⟩) (fun _ R s => s.heap.get? l = some { cls := .type "tuple", dict := dct, data := .seq items n, slots := sl } ∧
  R (.ok (.ret (.ref (s.heap.push (Q3 l)).objs.size))) { s with heap := (s.heap.push (Q3 l)).push (Wz s.heap.objs.size) }) := by
 refine .of_wp fun prog w A R s h => ?_
 obtain ⟨hp, g, d, tk, os⟩ := s
 obtain ⟨hl, h⟩ := h
 have hsub := sub_enumerate
 have hT : Heap.IsTuple (Shared.heap ⟨hp, g, d, tk, os⟩) l items := ⟨_, hl, rfl, n, rfl⟩
 wp_walk using AutoSeq1.wpAny_loadPart' hl
 refine wpAny_stack_any fun st => wpAny_pure ?_
 split
 · rename_i c _ _ _ _ _
   cases (c == Value.type "enumerate") <;> (wp_walk using AutoSeq1.wpAny_loadPart' hl, wpAny_pyIter_tuple hT; exact ⟨_, rfl, h⟩)
 · wp_walk using AutoSeq1.wpAny_loadPart' hl, wpAny_pyIter_tuple hT
   exact ⟨_, rfl, h⟩
section
variable {prog : Program} {w : World} {A : Around} {E : Value → Shared → Prop} {s : Shared}
theorem call_tup {l : Addr} {items : Array Value} {Q : Value → Shared → Prop} (hT : s.heap.IsTuple l items)
 (h : ∀ h', IsEnum h' (s.heap.objs.size + 1) s.heap.objs.size 0 .none → h'.IsTupleIter s.heap.objs.size l 0 → (∀ b o, s.heap.get? b = some o → h'.get? b = some o) → Q (.ref (s.heap.objs.size + 1)) { s with heap := h' }) :
 wpAny (model prog w) A (call (.type "enumerate") [.ref l]) Q E s := by
 obtain ⟨⟨c, dct, dt, sl⟩, hl, hc, n, hd⟩ := hT
 obtain rfl : c = .type "tuple" := hc
 obtain rfl : dt = .seq items n := hd
 have hz : (s.heap.push (Q3 l)).objs.size = s.heap.objs.size + 1 := Heap.size_push ..
 have he : ((s.heap.push (Q3 l)).push (Wz s.heap.objs.size)).get? (s.heap.objs.size + 1) = some (Wz s.heap.objs.size) := by
  have z := Heap.get?_push_size (s.heap.push (Q3 l)) (o := Wz s.heap.objs.size) rfl
  rw [hz] at z
  exact z
 have hi : ((s.heap.push (Q3 l)).push (Wz s.heap.objs.size)).get? s.heap.objs.size = some (Q3 l) := Heap.get?_push_of_some _ (Heap.get?_push_size _ rfl)
 refine callType_new F.called_enumerate (by decide) (F.typeCall_enumerate_1 _) (F.newCall_enumerate_1 _) (fun obj => F.args_object_init_2 obj _) F.entry_enumerate_new (wN l items n dct sl) ⟨hl, ?_⟩
 show _ ∧ _
 rw [hz]
 exact ⟨⟨_, he, rfl⟩, h _ he ⟨_, hi, rfl, rfl⟩ fun b o x => Heap.get?_push_of_some _ (Heap.get?_push_of_some _ x)⟩
end
end EnT
end PySem
namespace L2
open PySem PySem.Spec PyProof.Rows
def ItE (K : PySem.W.Frag) (a : Addr) : It :=
 ⟨fun i H => ∃ (xs : List V) (x : V), SqT K H a xs ∧ xs[i]? = some x, fun i H v H' => ∃ T x, v = .ref T ∧ H T = none ∧ H' = upd H T (.tup [.int (i : Nat), x]) ∧ ∀ xs, SqT K H a xs → xs[i]? = some x, fun i H => ∃ xs : List V, SqT K H a xs ∧ xs.length ≤ i⟩
theorem M6 {h : Heap} {a b : Addr} {its : Array Value} {n : String} {o : Obj} (p : h.IsTuple a its) (e : h.get? b = some o) (c : o.cls = .type n) (hn : n ≠ "tuple") : a ≠ b := fun z => by
 obtain ⟨oa, ea, ca, _⟩ := p
 rw [z, e] at ea
 cases ea
 rw [c] at ca
 exact hn (by injection ca)
theorem X5 {P : Program} {w : World} {K : PySem.W.Frag} {elts : List Expr} {kk : Nat} {tpos : Pos} (a e it : Addr) :
 Turn P w K (.Tuple elts kk tpos) (ItE K a) [e, it] e (fun i h => (∃ old, IsEnum h e it ((i : Nat) : Int) old) ∧ h.IsTupleIter it a i ∧ e ≠ it) where
 mem := by simp
 obj := fun i h st b hb => by
  obtain ⟨⟨old, he⟩, ⟨o, ho, _, hd⟩, _⟩ := st
  rcases (show b = e ∨ b = it by simpa using hb) with rfl | rfl
  · exact ⟨_, he, fun v q => nomatch q⟩
  · exact ⟨o, ho, fun v q => by rw [hd] at q; cases q⟩
 keep := fun i h h' st k => by
  obtain ⟨⟨old, he⟩, hi, hne⟩ := st
  exact ⟨⟨old, k e (by simp) _ he⟩, hi.at fun o q => k it (by simp) o q, hne⟩
 item := by
  intro X hP hw hK hc i pins s σ H E I hf st hg
  subst hP hw hK
  obtain ⟨⟨old, he⟩, hit, hne⟩ := st
  obtain ⟨xs, x, hq, hx⟩ := hg
  obtain ⟨its, rv, p, _⟩ := I.tuple hq
  obtain ⟨u, hu, ru⟩ := rv.get hx
  have pt : s.heap.IsTuple a its.toArray := p
  have hai : a ≠ it := by
   obtain ⟨o, ho, c, _⟩ := id hit
   exact M6 pt ho c (by decide)
  have hae : a ≠ e := M6 pt he rfl (by decide)
  have hlt : i < its.toArray.size := by
   have := (List.getElem?_eq_some_iff.mp hu).1
   simpa using this
  have hel : e < s.heap.objs.size := Heap.lt_size he
  have hil : it < s.heap.objs.size := by
   obtain ⟨_, q, _⟩ := hit
   exact Heap.lt_size q
  refine wpAny_pyNext_enum_itemD (Draws.tuple (show X.A.in1.handled = none from I.ok.hd hc) it a hai its.toArray) he ⟨hit, pt⟩ hlt hne (by simp [hne, Ne.symm hae]) fun y h' tk hy ho hst hT hsz hk => ?_
  obtain rfl : u = y := by
   have e1 : its[i]? = some y := by simpa using hy
   rw [hu] at e1
   exact Option.some.inj e1
  refine ⟨_, rfl, wpAny_letOwnedTupleGo_enum (s := { s with heap := h', toks := tk + 1 }) ho fun h'' he' sb => ?_⟩
  have ne : s.heap.objs.size ≠ e := Nat.ne_of_gt hel
  have new : ObjOk X.prog X.w (upd H s.heap.objs.size (.tup [.int (i : Nat), x])) h'' s.heap.objs.size (.tup [.int (i : Nat), x]) :=
   ⟨by show 2 ≤ sizeLine; decide, [.int i tk, u], .cons ⟨_, rfl⟩ (.cons ru .nil), ⟨_, (sb.2 _ ne).trans hT, rfl, _, rfl⟩⟩
  have I1 : Inv X pins σ (upd H s.heap.objs.size (.tup [.int (i : Nat), x])) { s with heap := h'', toks := tk + 1 } :=
   I.turnedNew (ch := [e, it]) (fun b ob hb q => (sb.2 b (fun z => hb (by simp [z]))).trans (hk b ob (fun z => hb (by simp [z])) (fun z => hb (by simp [z])) q)) hf (Nat.le_refl _) new
  refine ⟨.ref s.heap.objs.size, _, I1, rfl, ⟨_, x, rfl, I.hok.fresh (Nat.le_refl _), rfl, fun ys hy => by rw [I.tuple_inj hy hq]; exact hx⟩, ⟨⟨u, ?_⟩, hst.1.at fun o q => (sb.2 it (Ne.symm hne)).trans q, hne⟩, fun b hb => ?_⟩
  · rw [show ((i + 1 : Nat) : Int) = (i : Int) + 1 by omega]
    exact he'
  · have hb' : b < s.heap.objs.size := by
     rcases (show b = e ∨ b = it by simpa using hb) with rfl | rfl
     · exact hel
     · exact hil
    rw [upd_ne (Nat.ne_of_lt hb')]
    exact (hf b hb).1
 done := by
  intro X hP hw hK hc i pins s σ H E I hf st hg
  subst hP hw hK
  obtain ⟨⟨old, he⟩, hit, hne⟩ := st
  obtain ⟨xs, hq, hx⟩ := hg
  obtain ⟨its, rv, p, _⟩ := I.tuple hq
  have pt : s.heap.IsTuple a its.toArray := p
  obtain ⟨f0, f1, f2, f3, f4, f5⟩ := hf it (by simp)
  have hai : a ≠ it := by
   obtain ⟨o, ho, c, _⟩ := id hit
   exact M6 pt ho c (by decide)
  have hi : its.toArray[i]? = none := by
   have hl := rv.length
   simp
   omega
  have D : Draws X.prog X.w X.A.in1 it [it, a] i (fun _ _ => True) (fun j h => j = i ∧ h.IsTupleIter it a j ∧ h.IsTuple a its.toArray) :=
   { live := fun _ _ st => by
      obtain ⟨_, ⟨o, ho, _⟩, _⟩ := st
      exact ⟨o, ho⟩
     frame := fun _ _ _ st hk => ⟨st.1, st.2.1.at fun o e => hk it (by simp) o e, st.2.2.at fun o e => hk a (by simp) o e⟩
     item := fun j s Q E hj st _ => absurd st.1 (Nat.ne_of_lt hj)
     done := fun s Q E st hE => PySem.wpAny_nextOf_tuple_end (show X.A.in1.handled = none from I.ok.hd hc) st.2.1 st.2.2 hi hE }
  exact wpAny_pyNext_enum_endD D he ⟨rfl, hit, pt⟩ fun h' eb => ⟨rfl, I.turned (t' := s.toks) (fun b o hb q => eb b o hb q) f0 f1 f3 f4 f5⟩
 self := fun A i s Q E st h => by
  obtain ⟨⟨_, he⟩, _⟩ := st
  exact wpAny_pyIter_enum he h
def aef (K : PySem.W.Frag) (ta : TA) : TI := fun σ H R => ta σ H fun vs H1 => ∃ a xs, vs = [.ref a] ∧ ((SqL K H1 a xs ∧ R (Ite K a) H1) ∨ (SqT K H1 a xs ∧ R (ItE K a) H1))
theorem abE {X : Cx} {e : Expr} {ta : TA} {p pos tpos : Pos} {elts : List Expr} {kk : Nat} (hg : Gl X "enumerate") (hm : X.mg "enumerate" = none) (ha : PA X [e] ta) (hs : starEach [e] X.env = [(false, eval e X.env)] := by rfl) :
 PI X (.Tuple elts kk tpos) (.Call (.Name "enumerate" p) [e] [] pos) (aef X.K ta) := by
 refine ⟨fun pins s σ H R I h => ?_⟩
 refine Call_ (ld_blt I hg hm boot_enumerate (PyProof.Rows.callWith_type1 (thn (ha.run pos pins s σ H _ I h) fun us s1 hh => ?_) hs rfl))
 obtain ⟨vs, H1, I1, r1, a, xs, rfl, q⟩ := hh
 cases r1 with
 | cons r rr =>
   cases rr
   cases r
   have two : ∀ b ∈ [s1.heap.objs.size + 1, s1.heap.objs.size], FpOk X pins H1 b := fun b hb => by
    have hle : s1.heap.objs.size ≤ b := by
     rcases (show b = s1.heap.objs.size + 1 ∨ b = s1.heap.objs.size by simpa using hb) with rfl | rfl
     · exact Nat.le_succ _
     · exact Nat.le_refl _
    exact I1.fpOk hle (I1.hok.fresh hle)
   rcases q with ⟨hq, q⟩ | ⟨hq, q⟩
   · obtain ⟨its, rv, pl, _⟩ := I1.list hq
     refine call_enumerate_list pl.isList fun h' he hit _ hk => wpAny_pyIter_enum he ?_
     exact ⟨s1.heap.objs.size + 1, [s1.heap.objs.size + 1, s1.heap.objs.size], _, _, H1, rfl, I1.kept (t' := s1.toks) hk, turn_enum a (s1.heap.objs.size + 1) s1.heap.objs.size, ⟨⟨.none, he⟩, hit, Nat.succ_ne_self _⟩, two, q⟩
   · obtain ⟨its, rv, pl, _⟩ := I1.tuple hq
     refine PySem.EnT.call_tup (show s1.heap.IsTuple a its.toArray from pl) fun h' he hit hk => wpAny_pyIter_enum he ?_
     exact ⟨s1.heap.objs.size + 1, [s1.heap.objs.size + 1, s1.heap.objs.size], _, _, H1, rfl, I1.kept (t' := s1.toks) hk, X5 a (s1.heap.objs.size + 1) s1.heap.objs.size, ⟨⟨.none, he⟩, hit, Nat.succ_ne_self _⟩, two, q⟩
end L2
namespace Pk
open PySem PySem.Spec L2
def uh : Nat → List D → List D
 | _, [] => []
 | i, d :: ds => .tup [.int (i : Int), d] :: uh (i + 1) ds
theorem zj : ∀ (i : Nat) (l : List D), (uh i l).length = l.length
 | _, [] => rfl
 | i, _ :: l => congrArg Nat.succ (zj (i + 1) l)
theorem GP : ∀ (i : Nat) (l : List D) (j : Nat) (z : D), (uh i l)[j]? = some z → ∃ d, l[j]? = some d ∧ z = .tup [.int ((i + j : Nat) : Int), d]
 | _, [], j, z, e => by simp [uh] at e
 | i, d :: l, 0, z, e => by
   simp [uh] at e
   exact ⟨d, rfl, e.symm⟩
 | i, d :: l, j + 1, z, e => by
   obtain ⟨d', h1, h2⟩ := GP (i + 1) l j z (by simpa [uh] using e)
   exact ⟨d', by simpa using h1, by rw [h2]; congr 3; omega⟩
def D.lst : D → Option (List D)
 | .fl l => some l
 | .kl l => some l
 | .tup l => some l
 | _ => none
def Vt (m : M D) : M (List D) := m.bind fun d => M.opt (d.lst.map (uh 0))
section
variable {X : Cx} {T : Tb} {W : WX} {k kk : Nat} {pos p tpos : Pos} {elts : List Expr} {a : Expr} {ma : M D}
theorem aaj {K : PySem.W.Frag} {B : Bs} {σ : L2.St} {w : Wd} {H : Hp} {fr : Fr} {a : Addr} {vs : List V} {l : List D} (sq : SqL K w.F a vs) (rl : az K T w vs l) : vJ K T B σ w H fr (Ite K a) (uh 0 l) := fun i w2 H2 l2 hs => ⟨fun hi => ⟨vs, jK hs (jK l2.1 sq), by rw [rl.length, ← zj 0 l]; exact hi⟩, fun d' hd => by
 obtain ⟨d, hd1, rfl⟩ := GP 0 l i d' hd
 obtain ⟨v, hv, rv⟩ := rl.get hd1
 have sq2 : SqL K H2 a vs := jK hs (jK l2.1 sq)
 refine ⟨⟨vs, v, sq2, hv⟩, fun y H3 hy B' σ' fr' h' R' => ?_⟩
 obtain ⟨Tp, x, rfl, nT, rfl, hx⟩ := hy
 have z := hx vs sq2
 rw [hv] at z
 cases z
 have nf : w2.F Tp = none := (R'.nP nT).1
 have lw := Wd.le_add (o := .tup [.int (i : Nat), v]) nf
 rw [Nat.zero_add]
 exact ⟨w2.add Tp (.tup [.int (i : Nat), v]), lw, R'.laid nT, .tup (SqT.of (by show upd w2.F Tp _ Tp = _; rw [upd_same])) (.cons (.int _) (.cons ((rv.mono l2).mono lw) .nil))⟩⟩
theorem abF {K : PySem.W.Frag} {B : Bs} {σ : L2.St} {w : Wd} {H : Hp} {fr : Fr} {a : Addr} {vs : List V} {l : List D} (sq : SqT K w.F a vs) (rl : az K T w vs l) : vJ K T B σ w H fr (ItE K a) (uh 0 l) := fun i w2 H2 l2 hs => ⟨fun hi => ⟨vs, eG hs (eG l2.1 sq), by rw [rl.length, ← zj 0 l]; exact hi⟩, fun d' hd => by
 obtain ⟨d, hd1, rfl⟩ := GP 0 l i d' hd
 obtain ⟨v, hv, rv⟩ := rl.get hd1
 have sq2 : SqT K H2 a vs := eG hs (eG l2.1 sq)
 refine ⟨⟨vs, v, sq2, hv⟩, fun y H3 hy B' σ' fr' h' R' => ?_⟩
 obtain ⟨Tp, x, rfl, nT, rfl, hx⟩ := hy
 have z := hx vs sq2
 rw [hv] at z
 cases z
 have lw := Wd.le_add (o := .tup [.int (i : Nat), v]) (R'.nP nT).1
 rw [Nat.zero_add]
 exact ⟨w2.add Tp (.tup [.int (i : Nat), v]), lw, R'.laid nT, .tup (SqT.of (by show upd w2.F Tp _ Tp = _; rw [upd_same])) (.cons (.int _) (.cons ((rv.mono l2).mono lw) .nil))⟩⟩
theorem abG {K : PySem.W.Frag} {w : Wd} {v : V} {d : D} {l : List D} (r : bD K T w v d) (e : d.lst = some l) : ∃ p vs, v = .ref p ∧ az K T w vs l ∧ (SqL K w.F p vs ∨ SqT K w.F p vs) := by
 cases r with
 | fl s r =>
   cases e
   exact ⟨_, _, rfl, r, .inl (SqL.of s)⟩
 | kl s r =>
   cases e
   exact ⟨_, _, rfl, r, .inl s⟩
 | tup s r =>
   cases e
   exact ⟨_, _, rfl, r, .inr s⟩
 | _ => cases e
theorem aak (s : aR X T W a ma) (hm : X.mg "enumerate" = none) (hg : Gl X "enumerate" := by rfl) (hs : starEach [a] X.env = [(false, eval a X.env)] := by rfl) : DQ X T W (.Tuple elts kk tpos) (.Call (.Name "enumerate" p) [a] [] pos) (Vt ma) := fun B w σ H fr h Q r p =>
 Ky (abE hg hm (pa_cons aV pa_nil (hs.trans (by rfl))) hs) (s B w σ H fr h _ r (aJ.bind (VR := vV X.K T B σ) p fun d fr1 h1 w1 H1 x e1 l1 r1 rx p1 => by
  cases q : d.lst with
  | none => rw [q] at p1; exact p1.elim
  | some l =>
    rw [q] at p1
    obtain ⟨a, vs, rfl, rl, sq | sq⟩ := abG rx q
    · exact ⟨a, vs, rfl, .inl ⟨jK r1.sub sq, p1 w1 H1 (Ite X.K a) (Wd.le_refl _) r1 (aaj sq rl)⟩⟩
    · exact ⟨a, vs, rfl, .inr ⟨eG r1.sub sq, p1 w1 H1 (ItE X.K a) (Wd.le_refl _) r1 (abF sq rl)⟩⟩))
end
end Pk
namespace Pk
open PySem PySem.Spec L2
inductive AllL {β : Type} (Q : Nat → β → Prop) : List (Nat × β) → Prop where
 | nil : AllL Q []
 | cons {a : Nat} {b : β} {l : List (Nat × β)} : Q a b → AllL Q l → AllL Q ((a, b) :: l)
theorem cA {β : Type} {Q : Nat → β → Prop} : ∀ {l : List (Nat × β)}, AllL Q l → ∀ c i, ahm c l = some i → Q c i
 | _, .nil, _, _, e => by cases e
 | _, @AllL.cons _ _ a b l q r, c, i, e => by
   rw [List.lookup_cons] at e
   cases h : c == a with
   | true =>
     rw [h] at e
     cases e
     rw [beq_iff_eq.mp h]
     exact q
   | false =>
     rw [h] at e
     exact cA r c i e
theorem abH {α : Type} {ms kws : List α} (idx : List Nat) (h : ms = pick idx kws) : ∀ q ∈ ms, q ∈ kws := fun q hq => by
 rw [h] at hq
 obtain ⟨i, _, e⟩ := List.mem_filterMap.mp hq
 exact ahq e
def Vu (rows : List ((Tg × Tg) × Bool)) (t u : Tg) : Option Bool := match t, u with
 | .b a, .b b => QZ a b
 | t, u => ahm (t, u) rows
inductive vY (K : PySem.W.Frag) (T : Tb) : List ((Tg × Tg) × Bool) → Prop where
 | nil : vY K T []
 | b {a : String} {c : Nat} {r : Bool} {l : List ((Tg × Tg) × Bool)} : PySem.W.kitOne K (Tg.v T (.b a)) (Tg.v T (.o c)) = some r → vY K T l → vY K T (((.b a, .o c), r) :: l)
 | o {c : Nat} {u : Tg} {r : Bool} {l : List ((Tg × Tg) × Bool)} : PySem.W.kitOne K (Tg.v T (.o c)) (u.v T) = some r → Vs K (T.cad c) → vY K T l → vY K T (((.o c, u), r) :: l)
theorem Cp {K : PySem.W.Frag} {T : Tb} : ∀ {l : List ((Tg × Tg) × Bool)}, vY K T l → ∀ t u b, ahm (t, u) l = some b → PySem.W.kitOne K (t.v T) (u.v T) = some b ∧ ∀ c, t = .o c → Vs K (T.cad c)
 | _, .nil, _, _, _, e => by cases e
 | _, @vY.b _ _ a c r l q rr, t, u, b, e => by
   rw [List.lookup_cons] at e
   cases h : (t, u) == (Tg.b a, Tg.o c) with
   | true =>
     rw [h] at e
     cases e
     cases beq_iff_eq.mp h
     exact ⟨q, fun c' z => by cases z⟩
   | false =>
     rw [h] at e
     exact Cp rr t u b e
 | _, @vY.o _ _ c u' r l q i rr, t, u, b, e => by
   rw [List.lookup_cons] at e
   cases h : (t, u) == (Tg.o c, u') with
   | true =>
     rw [h] at e
     cases e
     cases beq_iff_eq.mp h
     exact ⟨q, fun c' z => by cases z; exact i⟩
   | false =>
     rw [h] at e
     exact Cp rr t u b e
theorem WD {K : PySem.W.Frag} {T : Tb} {l : List ((Tg × Tg) × Bool)} (h : vY K T l) : M5 K T (Vu l) := by
 refine ⟨fun t u b e => ?_, fun c u b e => ?_⟩
 · cases t with
   | b a =>
     cases u with
     | b a' => exact kit_ty (aai _ _ _ e)
     | o c => exact (Cp h _ _ _ e).1
   | o c => exact (Cp h _ _ _ e).1
 · exact (Cp h _ _ _ e).2 c rfl
def GX (is : List Nat) (md : List D) (ds es : List D) : List D := ds ++ pick is (es ++ md)
theorem Q4 {α : Type} {l : List α} : ∀ {is : List Nat}, (is.all fun i => decide (i < l.length)) = true → (pick is l).length = is.length
 | [], _ => rfl
 | i :: is, h => by
   rw [List.all_cons, Bool.and_eq_true] at h
   have hi : i < l.length := of_decide_eq_true h.1
   unfold pick
   rw [List.filterMap_cons, ahi hi]
   exact congrArg Nat.succ (Q4 h.2)
theorem X6 {K : PySem.W.Frag} {T : Tb} {mv : List V} {md : List D} (is : List Nat) (hm : ∀ w, az K T w mv md) {n m : Nat} (h1 : (is.all fun i => decide (i < m + md.length)) = true) (w : Wd) (vs zs : List V) (ds es : List D) (r : az K T w vs ds) (z : az K T w zs es) (l1 : ds.length = n) (l2 : es.length = m) :
 az K T w (Zx is vs mv zs) (GX is md ds es) ∧ (GX is md ds es).length = n + is.length :=
 ⟨r.append (JH is (z.append (hm w))), by
  unfold GX
  rw [ahj, l1, Q4 (by rw [ahj, l2]; exact h1)]⟩
theorem aal {K : PySem.W.Frag} {T : Tb} {mv : List V} {md : List D} {ps ks : List Str} (is : List Nat) (hm : ∀ w, az K T w mv md) {n : Nat} (h1 : (is.all fun i => decide (i < ks.length + md.length)) = true) (h2 : n + is.length + 1 = ps.length) : ∀ (w : Wd) (vs zs : List V) (ds es : List D), az K T w vs ds → az K T w zs es → ds.length = n → es.length = ks.length →
 az K T w (Zx is vs mv zs) (GX is md ds es) ∧ (GX is md ds es).length + 1 = ps.length := fun w vs zs ds es r z l1 l2 => by
 obtain ⟨a, b⟩ := X6 is hm h1 w vs zs ds es r z l1 l2
 exact ⟨a, by rw [b]; exact h2⟩
end Pk
namespace Pk
open PySem PySem.Spec L2
section
variable {P : Program} {w : World} {K : PySem.W.Frag} {mg : Str → Option Value} {base : Heap} {T : Tb} {k : Nat} {x qual : Str} {params : Arguments} {body : List Stmt} {scope : Scope} {dvs : List V} {kws : List (Str × V)} {f : Addr} {fd : FuncData} {N ps : List Str}
theorem WK (c : Nat) (S : FnScope N ps scope) {m : M Fl} (dm : Does P w K mg base T k N qual scope body m) (cdv : Value) (A : Around) (outer : List Env) (s : Shared) (H : Hp) (vs : List V) (Q : VK) (E : XK)
 (hr : Room k (A.deeper (PyProof.Rows.envOfC qual scope s.heap.objs.size f cdv))) (sp : spI K T c ps.length (runI c N.length m) vs H Q E) :
 ∃ t, PSs (QV P w K mg base N qual scope f cdv A outer s H E) body t ∧ t { nx := fun _ H' => Q .non H', rt := Q } (L2.start N vs) H := by
 obtain ⟨w, h, ds, G, x, dx, us, ev, nx, eH, R, rs, hl, post⟩ := sp
 refine ⟨Jm _ body, ug, ?_⟩
 have hpl : ps.length ≤ N.length := by
  have := congrArg List.length S.pre
  rw [List.length_take] at this
  omega
 subst ev eH
 refine dm f cdv A outer s _ E (Qi S hr) ⟨w, G, [], some x⟩ w _ _ (startF N.length (.no c [] :: ds)) h _ (R.ofme.startI rfl nx rs (by rw [hl]; exact hpl)) ?_
 unfold runI at post
 cases e : m (startF N.length (.no c [] :: ds)) h with
 | ok fl fr h' =>
   rw [e] at post
   cases fl with
   | nx =>
     intro w' σ' H' l R'
     dsimp only at post
     cases e0 : (fr : Fr)[0]? with
     | none => rw [e0] at post; exact post.elim
     | some od =>
       rw [e0] at post
       cases od with
       | none => exact post.elim
       | some d =>
         cases d with
         | no c' fs =>
           dsimp only at post
           by_cases hc : c' = c
           · rw [if_pos hc] at post
             subst hc
             have s0 := R'.me x _ rfl e0 rfl
             obtain ⟨v, ev, z⟩ := gq R' e0
             rw [s0] at ev
             cases ev
             cases z with
             | val r => cases r
             | own O eH r => exact post w' H' .non l R'.unframe.unme ⟨rfl, ⟨O.f, O.i, O.e, fun q hq => by cases hq⟩, _, eH, r⟩
           · rw [if_neg hc] at post
             exact post.elim
         | _ => exact post.elim
   | rt d => exact post.elim
   | brk => exact post.elim
   | ct => exact post.elim
 | exc y fr h' =>
   rw [e] at post
   exact fun w' σ' H' c dd l R' z => post w' H' c dd l R'.unframe.unme z
 | err => rw [e] at post; exact post
end
structure Ue (P : Program) (w : World) (K : PySem.W.Frag) (mg : Str → Option Value) (base : Heap) (T : Tb) (k c : Nat) (f : Addr) (n : Nat) (ks : List Str) (F : Fn) : Prop where
 run : ∀ (A : Around) (outer : List Env) (s : Shared) (H : Hp) (u0 : Value) (ur ws : List Value) (v0 : V) (vr zs : List V) (Q : VK) (E : XK), Room k A → Env0 P w K mg base A outer s H → RelV v0 u0 → Vals vr ur → Vals zs ws → zs.length = ks.length → vr.length ≤ sizeLine →
  (∀ p, H p = none → spI K T c n F (v0 :: (zs ++ [.ref p])) (upd H p (.tup vr)) Q E) → codeAny (model P w) A (.call (.ref f) ⟨u0 :: ur, ks.zip ws⟩) (CR (L2.CX P w) outer P w H s Q E) s
 made : Mk K (T.cad c) f
section
variable {P : Program} {w : World} {K : PySem.W.Frag} {mg : Str → Option Value} {base : Heap} {T : Tb} {k : Nat} {x qual : Str} {params : Arguments} {body : List Stmt} {scope : Scope} {f : Addr} {fd : FuncData} {N : List Str} {p0 pv : Str} {ks : List Str}
theorem aam (c : Nat) (F : FunD K x qual params body scope [] [] f fd) (Mf : Mk K (T.cad c) f) (S : FnScope N (p0 :: ks ++ [pv]) scope) {m : M Fl} (dm : Does P w K mg base T k N qual scope body m)
 (hb : ∀ (kV doc pm : Value) (an : Option Addr) (cdv ct u0 : Value) (ur ws : List Value), ws.length = ks.length → bindArgs (PySem.W.fnOf x qual params body scope .none kV doc pm an cdv ct) ⟨u0 :: ur, ks.zip ws⟩ = (newTuple ur >>= fun t => pure ((p0 :: ks).zip (u0 :: ws) ++ [(pv, t)]))) :
 Ue P w K mg base T (k + 1) c f (p0 :: ks ++ [pv]).length ks (runI c N.length m) := by
 refine ⟨fun A outer s H u0 ur ws v0 vr zs Q E hr e0 r0 rr rz hz hbig hq => ?_, Mf⟩
 obtain ⟨oc, od, dV, kV, doc, pm, an, cdv, ct, osl, rfl, lk, hcd, hD, hK⟩ := F.ex
 have edV : dV = .none := by
  rcases hD with ⟨_, e⟩ | ⟨e, _⟩
  · exact e
  · exact absurd rfl e
 subst edV
 have hn : H s.heap.objs.size = none := e0.hok.fresh (Nat.le_refl _)
 have hl2 : ur.length ≤ sizeLine := by rw [← rr.length]; exact hbig
 have hws : ws.length = ks.length := by rw [← rz.length]; exact hz
 refine StX.run_bnd lk hcd S hr e0 (G := fun xs H2 => ∃ p, H p = none ∧ xs = v0 :: (zs ++ [V.ref p]) ∧ H2 = upd H p (.tup vr)) (fun A' Ex Q' h => ?_) fun s2 H2 xs ⟨p, hp, ex, eH⟩ hr' => ?_
 · rw [hb kV doc pm an cdv ct u0 ur ws hws]
   refine wpAny_bind (wpAny_newTuple (wpAny_pure ?_) hl2)
   have new : ObjOk P w (upd H s.heap.objs.size (.tup vr)) (s.heap.push ({ cls := .type "tuple", data := .seq ur.toArray } : Obj)) s.heap.objs.size (.tup vr) := ⟨hbig, ur, rr, ⟨_, Heap.get?_push_size _ rfl, rfl, _, rfl⟩⟩
   have un := StX.un_laid (fs := frs outer) (s := s) (o := ({ cls := .type "tuple", data := .seq ur.toArray } : Obj)) (u := .tup vr) hn
   have z := h _ _ (v0 :: (zs ++ [V.ref s.heap.objs.size])) (u0 :: (ws ++ [Value.ref s.heap.objs.size])) (StX.env0_laid e0 new) un rfl (fun e s' => StX.cxUp outer s H _ _ E e s' un (fun b o q => Heap.get?_push_of_some _ q) rfl) (.cons r0 (rz.append (.cons rfl .nil)))
    (by simp [hz]) ⟨_, hn, rfl, rfl⟩
   have ez : (p0 :: ks ++ [pv]).zip (u0 :: (ws ++ [Value.ref s.heap.objs.size])) = (p0 :: ks).zip (u0 :: ws) ++ [(pv, Value.ref s.heap.objs.size)] := by
    show ((p0 :: ks) ++ [pv]).zip ((u0 :: ws) ++ [Value.ref s.heap.objs.size]) = _
    rw [List.zip_append (by simp [hws])]
    rfl
   rw [ez] at z
   exact z
 · subst ex eH
   exact WK c S dm _ A outer s2 _ _ Q E hr' (hq p hp)
end
def lN (ds es : List D) : List D := es ++ [.tup ds]
def Ak (m : Nat) (F : Fn) (ma : M D) (mk : M (List D)) : M D := ma.bind fun d => mk.bind fun es fr h => match d.its [] with
 | some ds => if ds.length ≤ big ∧ es.length = m then bu fr (F (lN ds es) h) else .err
 | none => .err
section
variable {X : Cx} {T : Tb} {W : WX} {k kk n c : Nat} {f : Addr} {ks : List Str} {F : Fn} {x : Str} {p pos apos : Pos} {e : Expr} {es : List Expr} {kws : List Keyword} {ma : M (List D)} {mo : M D} {mk : M (List D)}
theorem GZ {B : Bs} {w : Wd} {σ : L2.St} {H : Hp} {fr : Fr} {h : Hh} {vs zs : List V} {ds es : List D} {Q : VK} (hn : n = ks.length + 2)
 (R : Rel X.K T B w σ H fr h) (rs : az X.K T w vs ds) (rz : az X.K T w zs es) (hb : ds.length ≤ big) (hm : es.length = ks.length) (pp : aJ X.K T B W (vE X.K T B σ) w σ (bu fr (F (lN ds es) h)) Q) :
 zs.length = ks.length ∧ vs.length ≤ sizeLine ∧ ∀ x dx, H x = none → H dx = none → dx ≠ x → ∀ p, (upd (upd H dx (.own x)) x (.ins (T.cad c) dx [])) p = none →
  spI X.K T c n F (.ref x :: (zs ++ [.ref p])) (upd (upd (upd H dx (.own x)) x (.ins (T.cad c) dx [])) p (.tup vs)) (fun v H2 => v = .non ∧ Q (.ref x) H2) (fun c d H' => W c d σ H') := by
 refine ⟨rz.length.trans hm, by rw [rs.length]; exact lK hb, fun x dx nx nd ne p np => ?_⟩
 have px : p ≠ x := fun z => by rw [z, upd_same] at np; cases np
 rw [upd_ne px] at np
 have pd : p ≠ dx := fun z => by rw [z, upd_same] at np; cases np
 rw [upd_ne pd] at np
 have R1 := R.laid (o := .tup vs) np
 have le := Wd.le_add (p := p) (o := .tup vs) (R.nP np).1
 have eH : upd (upd (upd H dx (.own x)) x (.ins (T.cad c) dx [])) p (.tup vs) = upd (upd (upd H p (.tup vs)) dx (.own x)) x (.ins (T.cad c) dx []) := by
  funext b
  by_cases hp : b = p
  · subst hp
    rw [upd_same, upd_ne px, upd_ne pd, upd_same]
  · rw [upd_ne hp]
    by_cases hx : b = x
    · subst hx; rw [upd_same, upd_same]
    · rw [upd_ne hx, upd_ne hx]
      by_cases hd : b = dx
      · subst hd; rw [upd_same, upd_same]
      · rw [upd_ne hd, upd_ne hd, upd_ne hp]
 rw [eH]
 refine QW R1 (ds := lN ds es) ((rz.mono le).append (.cons (.tup (.inl (.inl (by show upd w.F p _ p = _; rw [upd_same]))) (rs.mono le)) .nil)) ?_ ?_ ?_ ne (pp.le le)
 · unfold lN
   rw [ahj, hm, ahl, hn]
 · rw [upd_ne (Ne.symm px)]; exact nx
 · rw [upd_ne (Ne.symm pd)]; exact nd
theorem M7 {pins : List (Addr × Obj)} {σ : L2.St} {H : Hp} {s : Shared} {Q : VK} {us ws : List Value} {vs zs : List V} (F0 : Ue X.prog X.w X.K X.mg X.base T kk c f n ks F) (hr : Room (kk + 1) X.A) (tk : Takes X W)
 (I : Inv X pins σ H s) (r : Vals vs us) (rz : Vals zs ws) (l2 : zs.length = ks.length) (lb : vs.length ≤ sizeLine)
 (h : ∀ x dx, H x = none → H dx = none → dx ≠ x → ∀ p, (upd (upd H dx (.own x)) x (.ins (T.cad c) dx [])) p = none →
  spI X.K T c n F (.ref x :: (zs ++ [.ref p])) (upd (upd (upd H dx (.own x)) x (.ins (T.cad c) dx [])) p (.tup vs)) (fun v H2 => v = .non ∧ Q (.ref x) H2) (fun c d H' => W c d σ H')) :
 wpAny (model X.prog X.w) X.A (call (.ref (T.cad c)) us (ks.zip ws)) (EP X pins σ Q) X.xe s := by
 have hq := h (s.heap.objs.size + 1) s.heap.objs.size (I.hok.fresh (Nat.le_succ _)) (I.hok.fresh (Nat.le_refl _)) (Nat.ne_of_lt (Nat.lt_succ_self _))
 have I2 := Inv.made (C := T.cad c) I
 refine wpAny_call (make_map (f := f) I.kIn F0.made.makes F0.made.init (beq_iff_eq.mp F0.made.fn) (codeAny_mono (F0.run _ X.stack _ _ (Value.ref (s.heap.objs.size + 1)) us ws (V.ref (s.heap.objs.size + 1)) vs zs _ _ (hr.make (T.cad c) us (ks.zip ws))
  (I2.env0.make (T.cad c) us (ks.zip ws)) rfl r rz l2 lb hq) fun r s' hq' => ?_))
 cases r with
 | error e => exact passAt tk σ pins _ _ e s' I2 hq'
 | ok fl =>
   cases fl with
   | ret u =>
     obtain ⟨v, H', I3, rv, ev, q3⟩ := I2.after hq'
     subst ev
     exact ⟨rv, ⟨V.ref (s.heap.objs.size + 1), H', I3, rfl, q3⟩⟩
   | next => exact False.elim hq'
   | brk => exact False.elim hq'
   | cont => exact False.elim hq'
theorem WL (C : Cq X T W k) (F0 : Ue X.prog X.w X.K X.mg X.base T kk c f n ks F) (hn : n = ks.length + 2) (hk : kk + 1 ≤ k) (hm : X.mg x = some (.ref (T.cad c))) (sk : JG X T W kws mk) (hg : Gl X x := by rfl) (hdb : (x == ("__debug__" : Str)) = false := by decide)
 (hall : (backToKw pos (keywordEach kws X.env)).all (·.1.isSome) = true := by rfl) (hks : (backToKw pos (keywordEach kws X.env)).filterMap (·.1) = ks := by rfl)
 (hpl : ((backTo pos (starEach [] X.env)).any (·.1) || (backToKw pos (keywordEach kws X.env)).any (·.1.isNone)) = false := by rfl) :
 mH X T W (.Call (.Name x p) [] kws pos) (au 0 ks.length F lN (aj []) mk) := fun B w σ H fr h Q R pp => WE.mk <| fun pins s I => by
 refine wpAny_Call_Name_kw (ld_glob I hg hm ?_ hdb)
 refine PySem.W.callWith_KW0 (h₀ := X.base) I.ok.mod.kin F0.made.kp hall ?_ hpl
 have fin : ∀ {w2 : Wd} {H2 : Hp} {fr2 : Fr} {h2 : Hh} {zs : List V} {es : List D}, Rel X.K T B w2 σ H2 fr2 h2 → az X.K T w2 zs es → aJ X.K T B W (vE X.K T B σ) w2 σ (if ([] : List D).length = 0 ∧ es.length = ks.length then bu fr2 (F (lN [] es) h2) else .err) Q →
  zs.length = ks.length ∧ ([] : List V).length ≤ sizeLine ∧ ∀ x dx, H2 x = none → H2 dx = none → dx ≠ x → ∀ p, (upd (upd H2 dx (.own x)) x (.ins (T.cad c) dx [])) p = none →
  spI X.K T c n F (.ref x :: (zs ++ [.ref p])) (upd (upd (upd H2 dx (.own x)) x (.ins (T.cad c) dx [])) p (.tup [])) (fun v H2 => v = .non ∧ Q (.ref x) H2) (fun c d H' => W c d σ H') := fun {w2 H2 fr2 h2 zs es} r2 rz p2 => by
  by_cases hl : es.length = ks.length
  · rw [if_pos ⟨rfl, hl⟩] at p2
    exact GZ hn r2 .nil rz (Nat.zero_le _) hl p2
  · rw [if_neg fun z => hl z.2] at p2
    exact p2.elim
 refine thn ((sk B w σ H fr h _ R (aJ.bind (VR := vA X.K T B σ) pp fun es fr2 h2 w2 H2 zs e2 l2 r2 rz p2 => fin r2 rz p2)).go pos pins s I) fun ws s2 ⟨zs, H2, I2, rz, q2⟩ => ⟨I2.kIn, ?_⟩
 rw [hks]
 exact M7 (us := []) F0 (C.room.mono hk) C.takes I2 .nil rz q2.1 q2.2.1 q2.2.2
theorem O6 (C : Cq X T W k) (F0 : Ue X.prog X.w X.K X.mg X.base T kk c f n ks F) (hn : n = ks.length + 2) (hk : kk + 1 ≤ k) {j : Nat} (hj : j ≤ big) (hm : X.mg x = some (.ref (T.cad c))) (sa : yR X T W (e :: es) ma) (sk : JG X T W kws mk) (hg : Gl X x := by rfl) (hdb : (x == ("__debug__" : Str)) = false := by decide)
 (hall : (backToKw pos (keywordEach kws X.env)).all (·.1.isSome) = true := by rfl) (hks : (backToKw pos (keywordEach kws X.env)).filterMap (·.1) = ks := by rfl)
 (he : starEach (e :: es) X.env = (false, eval e X.env) :: starEach es X.env := by exact cJ rfl) (hpl : ((backTo pos (starEach (e :: es) X.env)).any (·.1) || (backToKw pos (keywordEach kws X.env)).any (·.1.isNone)) = false := by rfl) :
 mH X T W (.Call (.Name x p) (e :: es) kws pos) (au j ks.length F lN ma mk) := fun B w σ H fr h Q R pp => WE.mk <| fun pins s I => by
 refine wpAny_Call_Name_kw (ld_glob I hg hm ?_ hdb)
 have fin : ∀ {w2 : Wd} {H2 : Hp} {fr2 : Fr} {h2 : Hh} {vs zs : List V} {ds es : List D}, Rel X.K T B w2 σ H2 fr2 h2 → az X.K T w2 vs ds → az X.K T w2 zs es → aJ X.K T B W (vE X.K T B σ) w2 σ (if ds.length = j ∧ es.length = ks.length then bu fr2 (F (lN ds es) h2) else .err) Q →
  zs.length = ks.length ∧ vs.length ≤ sizeLine ∧ ∀ x dx, H2 x = none → H2 dx = none → dx ≠ x → ∀ p, (upd (upd H2 dx (.own x)) x (.ins (T.cad c) dx [])) p = none →
  spI X.K T c n F (.ref x :: (zs ++ [.ref p])) (upd (upd (upd H2 dx (.own x)) x (.ins (T.cad c) dx [])) p (.tup vs)) (fun v H2 => v = .non ∧ Q (.ref x) H2) (fun c d H' => W c d σ H') := fun {w2 H2 fr2 h2 vs zs ds es} r2 rs rz p2 => by
  by_cases hl : ds.length = j ∧ es.length = ks.length
  · rw [if_pos hl] at p2
    exact GZ hn r2 rs rz (by rw [hl.1]; exact hj) hl.2 p2
  · rw [if_neg hl] at p2
    exact p2.elim
 refine PySem.W.callWith_KW (h₀ := X.base) I.ok.mod.kin F0.made.kp hall (thn ((sa B w σ H fr h _ R (aJ.bind (VR := vA X.K T B σ) pp fun ds fr1 h1 w1 H1 vs e1 l1 r1 rs p1 =>
  sk B w1 σ H1 fr1 h1 _ r1 (aJ.bind (VR := vA X.K T B σ) p1 fun es fr2 h2 w2 H2 zs e2 l2 r2 rz p2 => fin r2 (rs.mono l2) rz p2))).go pos pins s I) fun us s1 ⟨vs, H1, I1, r, q⟩ => ?_) hpl he
 refine thn (q.go pos pins s1 I1) fun ws s2 ⟨zs, H2, I2, rz, q2⟩ => ⟨I2.kIn, ?_⟩
 rw [hks]
 exact M7 F0 (C.room.mono hk) C.takes I2 r rz q2.1 q2.2.1 q2.2.2
end
section
open PySem.W
variable {M' : Model} {A : Around} {E : Value → Shared → Prop} {s : Shared}
theorem aan {f : Value} {x : Sem Value} {pos : Pos} {keywords : List (Option Str × Sem Value)} {Q : Args → Shared → Prop} (hall : keywords.all (·.1.isSome) = true)
 (h : wpAny M' A x (fun v s₁ => wpAny M' A (evalAll (keywords.map (·.2))) (fun ks s₂ => StarOf M' A E v (fun vs s₃ => Q ⟨vs, (keywords.filterMap (·.1)).zip ks⟩ s₃) s₂) E s₁) E s) :
 wpAny M' A (evalArgs f true [(true, (do let v ← x; standAt pos; pure v))] keywords) Q E s := by
 unfold evalArgs
 refine wpAny_bind (wpAny_bind (wpAny_mono h (fun v s₁ h₁ => wpAny_bind (wpAny_standAt (wpAny_pure ?_))) fun _ _ x => x))
 refine wpAny_holding ?_
 simp only [hall, if_true]
 refine wpAny_bind (wpAny_mono h₁ (fun ks s₂ h₂ => ?_) fun _ _ x => x)
 unfold StarOf at h₂
 refine wpAny_bind (wpAny_bind (wpAny_mono h₂ (fun b s₃ h₃ => ?_) fun _ _ x => x))
 obtain ⟨rfl, h₃⟩ := h₃
 simp only [Bool.false_eq_true, if_false]
 exact wpAny_holding (wpAny_mono h₃ (fun vs s₄ h₄ => wpAny_pure h₄) fun _ _ x => x)
theorem Vv {f : Value} {first : List Value} {pos : Pos} {Q : Value → Shared → Prop} {P : Heap → Prop} {args : List (Bool × Sem Value)} {keywords : List (Option Str × Sem Value)} (hst : args.any (·.1) = true)
 (hk : ∀ h, P h → ∃ k, (k = Keeper.frame ∨ k = Keeper.machine ∨ k = Keeper.boundFrame) ∧ Looks M' h (keeperOf f) k)
 (h : wpAny M' A (evalArgs f true args keywords) (fun a s₁ => P s₁.heap ∧ wpAny M' A (call f (first ++ a.pos) a.kw) Q E s₁) E s) : wpAny M' A (callWith pos f first args keywords) Q E s := by
 unfold callWith
 refine wpAny_bind (wpAny_holding (wpAny_mono h (fun a s₁ h₁ => wpAny_bind (wpAny_standAt ?_)) fun _ _ x => x))
 obtain ⟨k, hk', L⟩ := hk _ h₁.1
 simp only [hst, Bool.true_or]
 refine wpAny_bind (L.here ?_)
 have tail : ∀ {t : Sem Value}, wpAny M' A t Q E s₁ → wpAny M' A (t >>= fun r => holding [r] point >>= fun _ => pure r) Q E s₁ :=
  fun ht => wpAny_bind (wpAny_mono ht (fun r s₂ hr => wpAny_bind (wpAny_holding (wpAny_point (wpAny_pure hr)))) fun _ _ x => x)
 have marked (mk : Value) : wpAny M' A (callMarked mk f (first ++ a.pos) a.kw) Q E s₁ := by unfold callMarked; exact Calls.wpAny_keep h₁.2
 rcases hk' with rfl | rfl | rfl <;> dsimp only <;> first | exact tail (marked _) | exact tail (wpAny_operating h₁.2)
end
theorem aao {d : D} {ds : List D} (e : d.its [] = some ds) (h : Hh) : d.its h = some ds := by
 cases d <;> first | exact e | (unfold D.its D.der at e; simp at e)
section
variable {X : Cx} {T : Tb} {W : WX} {k kk n c : Nat} {f : Addr} {ks : List Str} {F : Fn} {x : Str} {p sp_ pos apos : Pos} {e : Expr} {kws : List Keyword} {mo : M D} {mk : M (List D)}
theorem Jp (C : Cq X T W k) (F0 : Ue X.prog X.w X.K X.mg X.base T kk c f n ks F) (hn : n = ks.length + 2) (hk : kk + 1 ≤ k) (hm : X.mg x = some (.ref (T.cad c))) (so : aR X T W e mo) (sk : JG X T W kws mk) (hg : Gl X x := by rfl) (hdb : (x == ("__debug__" : Str)) = false := by decide)
 (hall : (backToKw pos (keywordEach kws X.env)).all (·.1.isSome) = true := by rfl) (hks : (backToKw pos (keywordEach kws X.env)).filterMap (·.1) = ks := by rfl)
 (hst : starEach [.Starred e sp_] X.env = [(true, eval e X.env)] := by rfl) :
 mH X T W (.Call (.Name x p) [.Starred e sp_] kws pos) (Ak ks.length F mo mk) := fun B w σ H fr h Q R pp => WE.mk <| fun pins s I => by
 refine wpAny_Call_Name_kw (ld_glob I hg hm ?_ hdb)
 rw [hst]
 refine Vv rfl (PySem.W.keeps_K F0.made.kp) (aan hall ?_)
 have fin : ∀ {w2 : Wd} {H2 : Hp} {fr2 : Fr} {h2 : Hh} {y : V} {zs : List V} {d : D} {es : List D}, Rel X.K T B w2 σ H2 fr2 h2 → bD X.K T w2 y d → az X.K T w2 zs es → aJ X.K T B W (vE X.K T B σ) w2 σ (match d.its [] with
  | some ds => if ds.length ≤ big ∧ es.length = ks.length then bu fr2 (F (lN ds es) h2) else .err
  | none => .err) Q →
  ∃ a vs, y = .ref a ∧ (SqT X.K H2 a vs ∨ SqL X.K H2 a vs) ∧ zs.length = ks.length ∧ vs.length ≤ sizeLine ∧ ∀ x dx, H2 x = none → H2 dx = none → dx ≠ x → ∀ p, (upd (upd H2 dx (.own x)) x (.ins (T.cad c) dx [])) p = none →
  spI X.K T c n F (.ref x :: (zs ++ [.ref p])) (upd (upd (upd H2 dx (.own x)) x (.ins (T.cad c) dx [])) p (.tup vs)) (fun v H2 => v = .non ∧ Q (.ref x) H2) (fun c d H' => W c d σ H') := fun {w2 H2 fr2 h2 y zs d es} r2 rd rz p2 => by
  cases ed : d.its [] with
  | none => rw [ed] at p2; exact p2.elim
  | some ds =>
    rw [ed] at p2
    dsimp only at p2
    obtain ⟨a, vs, ey, rs, sq⟩ := yM (h := h2) r2 (.inl rd) (aao ed h2)
    by_cases hl : ds.length ≤ big ∧ es.length = ks.length
    · rw [if_pos hl] at p2
      exact ⟨a, vs, ey, sq.symm, GZ hn r2 rs rz hl.1 hl.2 p2⟩
    · rw [if_neg hl] at p2
      exact p2.elim
 refine thn ((so B w σ H fr h _ R (aJ.bind (VR := vV X.K T B σ) pp fun d fr1 h1 w1 H1 y e1 l1 r1 rd p1 =>
  sk B w1 σ H1 fr1 h1 _ r1 (aJ.bind (VR := vA X.K T B σ) p1 fun es fr2 h2 w2 H2 zs e2 l2 r2 rz p2 => fin r2 (rd.mono l2) rz p2))).go pins s I) fun v s1 ⟨y, H1, I1, ry, q⟩ => ?_
 refine thn (q.go pos pins s1 I1) fun ws s2 ⟨zs, H2, I2, rz, a, vs, ey, sq, hz, hb, q2⟩ => ?_
 subst ey
 obtain rfl : v = Value.ref a := ry
 refine StX.star_any I2 sq fun us s3 I3 rv => ⟨I3.kIn, ?_⟩
 rw [hks]
 exact M7 F0 (C.room.mono hk) C.takes I3 rv rz hz hb q2
end
end Pk
namespace Pk
open PySem PySem.Spec L2
structure abI (X : Cx) (T : Tb) (k : Nat) (op : Operator) (mt : Nat → Option Fn) : Prop where
 ex : ∀ c F, mt c = some F → ∃ (kk : Nat) (f : Addr) (fd : FuncData) (ps : List Str), Cls X.K (T.cad c) ∧ Meth X.K (T.cad c) (PySem.dunder op.info.2) f ∧ PySem.W.selfFirst X.K (T.cad c) = true ∧ jM X.prog X.w X.K X.mg X.base T kk f fd ps F ∧ Bn X.K T fd ps 2 [] (aq []) ∧ kk ≤ k
def ou (h : Hh) (x y : D) : Option Nat := match x.ins h, y.ins h with
 | some (c, _), some (c', _) => if c = c' then some c else none
 | _, _ => none
def yK (mt : Nat → Option Fn) (h : Hh) (x y : D) : Option Fn := match ou h x y with
 | some c => mt c
 | none => none
def M8 (mt : Nat → Option Fn) (ma mb : M D) : M D := ma.bind fun x => mb.bind fun y fr h => match yK mt h x y with
 | some F => bu fr (F [x, y] h)
 | none => .err
section
variable {X : Cx} {T : Tb} {W : WX} {k : Nat} {a b : Expr} {ma mb : M D} {pos : Pos} {op : Operator}
theorem KJ {pins : List (Addr × Obj)} {σ : L2.St} {Q : VK} {v : Value} {s : Shared} (h : EP X pins σ Q v s) : PySem.W.CmpBack (EP X pins σ Q) v s := by
 obtain ⟨y, H', I', r, q⟩ := id h
 cases y <;> first | (obtain rfl := (r : v = _); exact h) | (obtain ⟨t, rfl⟩ := r; exact h)
theorem Q5 {h : Hh} {x y : D} {c : Nat} (e : ou h x y = some c) : (∃ fs, x.ins h = some (c, fs)) ∧ ∃ gs, y.ins h = some (c, gs) := by
 unfold ou at e
 split at e
 · rename_i c1 fs c2 gs e1 e2
   by_cases hc : c1 = c2
   · rw [if_pos hc] at e
     cases e
     subst hc
     exact ⟨⟨fs, e1⟩, gs, e2⟩
   · rw [if_neg hc] at e
     cases e
 · cases e
theorem abJ {mt : Nat → Option Fn} (C : Cq X T W k) (Mf : abI X T k op mt) (sa : aR X T W a ma) (sb : aR X T W b mb) : mH X T W (.BinOp a op b pos) (M8 mt ma mb) := fun B w σ H fr h Q R pp => WE.mk <| fun pins s I => by
 refine wpAny_BinOp (binT (R := fun x y H2 => ∃ (kk : Nat) (f : Addr) (fd : FuncData) (ps : List Str) (p1 p2 C dx dy : Addr) (fs gs : List (Str × V)) (G : Fn), x = .ref p1 ∧ y = .ref p2 ∧ H2 p1 = some (.ins C dx fs) ∧ H2 p2 = some (.ins C dy gs) ∧ Meth X.K C (PySem.dunder op.info.2) f ∧ PySem.W.selfFirst X.K C = true ∧
  jM X.prog X.w X.K X.mg X.base T kk f fd ps G ∧ Bn X.K T fd ps 2 [] (aq []) ∧ kk ≤ k ∧
  ∀ g gV, KBn X.K fd ps 2 [] g gV → (∀ (w : Wd) (vs zs : List V) (ds es : List D), az X.K T w vs ds → az X.K T w zs es → ds.length = 2 → es.length = ([] : List Str).length → az X.K T w (gV vs zs) (aq [] ds es) ∧ (aq [] ds es).length = ps.length) →
    spF X.K T ps.length G (gV [.ref p1, .ref p2] []) H2 Q (fun c d H' => W c d σ H')) aV aV I (sa B w σ H fr h _ R (aJ.bind (VR := vV X.K T B σ) pp fun d fr1 h1 w1 H1 v e1 l1 r1 rd p1 =>
  sb B w1 σ H1 fr1 h1 _ r1 (aJ.bind (VR := vV X.K T B σ) p1 fun e fr2 h2 w2 H2 u e2 l2 r2 re p2 => ?_))) fun v u s2 x y H2 I2 rx ry ⟨kk, f, fd, ps, p1, p2, Cl, dx, dy, fs, gs, G, ex, ey, ea, eb, c2, c3, c4, c5, c6, q⟩ => ?_)
 · have p3 : aJ X.K T B W (vE X.K T B σ) w2 σ (match yK mt h2 d e with | some F => bu fr2 (F [d, e] h2) | none => .err) Q := p2
   cases ef : yK mt h2 d e with
   | none => rw [ef] at p3; exact p3.elim
   | some G =>
     rw [ef] at p3
     dsimp only at p3
     have : ∃ c, ou h2 d e = some c ∧ mt c = some G := by
      unfold yK at ef
      split at ef
      · rename_i c ec
        exact ⟨c, ec, ef⟩
      · cases ef
     obtain ⟨c, ec, em⟩ := this
     obtain ⟨⟨fs, i1⟩, gs, i2⟩ := Q5 ec
     obtain ⟨kk, f, fd, ps, c1, c2, c3, c4, c5, c6⟩ := Mf.ex c G em
     obtain ⟨p1', dx, vs, rfl, eH, rs⟩ := wU r2 (.inl (rd.mono l2)) i1
     obtain ⟨p2', dy, us, rfl, eH2, rs2⟩ := wU r2 (.inl re) i2
     refine ⟨kk, f, fd, ps, p1', p2', T.cad c, dx, dy, _, _, G, rfl, rfl, eH, eH2, c2, c3, c4, c5, c6, fun g gV hb hgD => ?_⟩
     have p4 : aJ X.K T B W (vE X.K T B σ) w2 σ (if ([d, e] : List D).length = 2 ∧ ([] : List D).length = 0 then bu fr2 (G (aq [] [d, e] []) h2) else .err) Q := by
      rw [if_pos ⟨rfl, rfl⟩]
      exact p3
     exact (zg (n := 2) (m := 0) (zs := []) (es := []) (ds := [d, e]) hgD r2 (.cons (rd.mono l2) (.cons re .nil)) .nil p4).2.2
 · subst ex ey
   obtain rfl : v = Value.ref p1 := rx
   obtain rfl : u = Value.ref p2 := ry
   obtain ⟨mA, J, _⟩ := ins_get I2.hok ea
   obtain ⟨mB, J', _⟩ := ins_get I2.hok eb
   obtain ⟨od, J, _⟩ := J.look
   obtain ⟨od', J', _⟩ := J'.look
   obtain ⟨m, hF⟩ := I2.fr
   refine PySem.W.binop_K hF I2.ok.mod.kin J J'.type c3 c2.at_ c2.fn (wpAny_mono (Q := EP X pins σ Q) ?_ (fun _ _ z => KJ z) fun _ _ z => z)
   obtain ⟨g, gV, hb, hgD⟩ := c5.ex
   exact M4 (us := [.ref p1, .ref p2]) (ws := []) (vs := [.ref p1, .ref p2]) c4.ok (C.room.mono c6) hb C.takes I2 (.cons rfl (.cons rfl .nil)) .nil rfl rfl (q g gV hb hgD)
end
end Pk
namespace PySem
namespace ExS
open PySem.W PySem.Calls PyProof.Rows PySem.HandSPX
abbrev asg (f : Str) (q1 q2 q3 q4 : Pos) : Stmt := .Assign [.Attribute (.Name "self" q1) f q2] (.Name f q3) q4
abbrev sup (e : Expr) (p0 p1 p2 p3 p4 : Pos) : Stmt := .Expr (.Call (.Attribute (.Call (.Name "super" p0) [] [] p1) "__init__" p2) [e] [] p3) p4
structure Im (prog : Program) (K : Frag) (C fI : Addr) (params : Arguments) (body : List Stmt) (scope : Scope) (qual : Str) : Prop where
 cls : ∃ nm q N bs bm sn sub ab col dd k0 k1 k2 k3 k5, K.lookup C = some (excClassObj nm q C N bs bm true sn sub ab col dd k0 k1 k2 k3 k5 "ValueError.__new__") ∧ refsVE bm = true ∧ alongIn K "__init__" bm = some (some (.builtin "ValueError.__init__"))
 sa : findIn K (.ref C) "__setattr__" = some (some (.builtin "object.__setattr__"))
 iC : findIn K (.ref C) "__init__" = some (some (.ref fI))
 tC : typeIn K (.ref fI) = some (.type "function")
 subB : subIn K (.ref C) (.type "ValueError") = some true
 subC : mroIn K C (.ref C) = some true
 opq : nsIn K cStatics "thirdparty.any" = some none
 top : (prog.main.scope.names.lookup ("super" : Str)).isSome = false
 fn : ∃ (oc : Value) (od : Option Addr) (kV doc pm : Value) (an : Option Addr) (cda : Addr) (ct : Value) (osl : Array (Option Value)) (cc : Addr),
  K.lookup fI = some ⟨oc, od, .func (ksFn "__init__" qual params body scope .none kV doc pm an (.ref cda) ct cc), osl⟩ ∧ codeIn K (.ref cda) qual = true ∧
  (∃ (ccl : Value) (cdd : Option Addr) (vs : Array Value) (ccs : Array (Option Value)) (file : Str) (tf : Tok), K.lookup cda = some ⟨ccl, cdd, .fields vs, ccs⟩ ∧ vs[2]? = some (.str file tf) ∧ ((prog.main.file : Str) == file) = true) ∧
  ∃ (cl : Value) (cld : Option Addr) (csl : Array (Option Value)), K.lookup cc = some ⟨cl, cld, .cell (some (.ref C)), csl⟩
section
variable {prog : Program} {w : World} {M : Model} {A : Around} {E : Value → Shared → Prop} {s : Shared}
theorem X7 {t : Sem Value} {Q : List Value → Shared → Prop} (h : wpAny M A t (fun v s => Q [v] s) E s) : wpAny M A (spliced [(false, t)]) Q E s := by
 unfold spliced
 refine wpAny_bind (wpAny_mono h (fun v s' h' => ?_) fun _ _ x => x)
 refine wpAny_bind (wpAny_pure ?_)
 refine wpAny_bind (wpAny_holding ?_)
 exact Calls.spliced_nil (wpAny_pure h')
theorem aap {h : Heap} {g : Array GenState} {d : Drawn} {t : Nat} {os : OsState} {nm q : Str} {C N : Addr} {bs bm : List Value} {hdct : Bool} {sn : List Str} {sub : List Value} {ab : Bool} {col : Option Bool} {dd : Option Addr} {k0 k1 k2 k3 k5 : Option Value} {u x t0 : Addr} {rest : List Value} {Q : Value → Shared → Prop}
 (hC : h.get? C = some (excClassObj nm q C N bs bm hdct sn sub ab col dd k0 k1 k2 k3 k5 "ValueError.__new__")) (he : h.get? x = some (excO C t0)) (hu : h.get? u = some (kxs_mw "ValueError.__init__" x)) (hz : rest.length ≤ sizeLine)
 (hq : ∀ h' t1, (∀ b o, b ≠ x → h.get? b = some o → h'.get? b = some o) → h'.get? x = some (excO C t1) → Q .none ⟨h', g, d, t, os⟩) :
 wpAny (model prog w) A (call (.ref u) rest) Q E ⟨h, g, d, t, os⟩ := by
 refine wpAny_call (codeAny_of_tree ?_)
 show wpAny _ A.in1 (callAny (.ref u) ⟨rest, []⟩) _ _ _
 simp only [callAny]
 refine wpAny_bind (wpAny_load hu ?_)
 simp only [kxs_mw, show (Value.type "method-wrapper" == Value.type "method" || Value.type "method-wrapper" == Value.type "builtin_function_or_method" || Value.type "method-wrapper" == Value.type "method-wrapper") = true by decide, if_true]
 refine KFB.if_so (by decide) ?_
 refine wpAny_bind (check_bound_init F.excBase_ValueError.toExcCallFacts hC he rfl ?_)
 refine wpAny_bind (wpAny_pure (wpAny_pure ?_))
 refine ⟨plainId_quiet F.excBase_ValueError.init.plain _, codeAny_builtin F.excBase_ValueError.initEntry ?_⟩
 exact exc_init_tree (cls := .ref C) (t0 := t0) (dv := none) (c2 := .none) (c3 := .none) (b4 := .bool false) he hz fun h' k e' _ => hq h' _ k e'
end
theorem aaq {K : Frag} {h : Heap} {b : Addr} (X : K.In h) (hb : h.objs.size ≤ b) : K.lookup b = none := by
 cases e : K.lookup b with
 | none => rfl
 | some o => exact absurd (Heap.lt_size (X _ _ e)) (Nat.not_lt.mpr hb)
theorem Q6 {K : Frag} {h h' : Heap} {x : Addr} (X : K.In h) (hx : K.lookup x = none) (k : ∀ b o, b ≠ x → h.get? b = some o → h'.get? b = some o) : K.In h' := fun a o e =>
 k a o (fun z => by rw [z, hx] at e; cases e) (X a o e)
section
variable {prog : Program} {w : World} {A : Around} {R : Result → Shared → Prop} {s : Shared} {K : Frag} {C fI : Addr} {params : Arguments} {scope : Scope} {qual : Str} {ex : Expr} {p0 p1 p2 p3 p4 : Pos} {rest : List Stmt} {mg mb : Str → Option Value}
theorem enter (T : Im prog K C fI params (sup ex p0 p1 p2 p3 p4 :: rest) scope qual) {x t0 : Addr} {us : List Value} {binds : List (Str × Value)} (X : K.In s.heap) (hlim : s.heap.NoLimit) (hx : s.heap.get? x = some (excO C t0)) (hnx : K.lookup x = none) (hroom : A.depth < recursionLimit)
 (hG : s.heap.Ns mainGlobals mg) (hg : mg "super" = none) (hB : s.heap.Ns builtinsNs mb) (hb : mb "super" = some (.type "super"))
 (hbind : ∀ (kV doc pm : Value) (an : Option Addr) (cdv ct : Value) (cc : Addr), bindArgs (ksFn "__init__" qual params (sup ex p0 p1 p2 p3 p4 :: rest) scope .none kV doc pm an cdv ct cc) ⟨.ref x :: us, []⟩ = pure binds)
 (hself : binds.reverse.lookup ("self" : Str) = some (.ref x)) (hloc : ∀ y ∈ binds, scope.names.lookup y.1 = some .local)
 (hcell : ∀ y ∈ scope.names, y.2 ≠ .cell) (hp : ∃ ar : Arg, (params.posonlyargs ++ params.args).head? = some ar ∧ ar.arg = "self") (hks : scope.names.lookup ("super" : Str) = some .globalImplicit) (hkc : scope.names.lookup ("__class__" : Str) = some .free) (hka : scope.names.lookup ("self" : Str) = some .local)
 (hco : scope.isCoroutine = false) (hgen : scope.isGenerator = false) (hk : scope.kind = .function)
 (hE : ∀ (cda cc : Addr) (L : Addr) (A' : Around) (h : Heap) (g : Array GenState) (d : Drawn) (t : Nat) (os : OsState) (E' : Value → Shared → Prop) (Q : Value → Shared → Prop), (∀ b o, s.heap.get? b = some o → h.get? b = some o) → h.Ns L (fun y => binds.reverse.lookup y) → (∀ v t', Q v ⟨h, g, d, t', os⟩) → wpAny (model prog w) A' (eval ex (ksEnv qual scope L fI (.ref cda) cc)) Q E' ⟨h, g, d, t, os⟩)
 (hin : ∀ (cda cc L : Addr), interactive (ksEnv qual scope L fI (.ref cda) cc) = false)
 (hev : ∀ (cda cc L : Addr), ∃ pl : Sem Bool, eval (.Call (.Attribute (.Call (.Name "super" p0) [] [] p1) "__init__" p2) [ex] [] p3) (ksEnv qual scope L fI (.ref cda) cc) = (do
  let ov ← attributeBase (.Call (.Name "super" p0) [] [] p1) "__init__" (ksEnv qual scope L fI (.ref cda) cc) (eval (.Call (.Name "super" p0) [] [] p1) (ksEnv qual scope L fI (.ref cda) cc))
  standAt p2.atName
  let (f, first) ← holding [ov] (getMethod ov "__init__" pl)
  callWith p3 f first (backTo p3 (starEach [ex] (ksEnv qual scope L fI (.ref cda) cc))) []))
 (hsw : ∀ (cda cc L : Addr), swapsWith (.Call (.Attribute (.Call (.Name "super" p0) [] [] p1) "__init__" p2) [ex] [] p3) none p4.line (ksEnv qual scope L fI (.ref cda) cc) = pure false)
 (hst : ∀ env : Env, starEach [ex] env = [(false, eval ex env)])
 (hq : ∀ (cda cc : Addr) h' tk t1, (∀ b o, b ≠ x → s.heap.get? b = some o → h'.get? b = some o) → h'.get? x = some (excO C t1) → h'.Ns s.heap.objs.size (fun y => binds.reverse.lookup y) →
  wpAny (model prog w) (A.deeper (ksEnv qual scope s.heap.objs.size fI (.ref cda) cc)) (execs rest (ksEnv qual scope s.heap.objs.size fI (.ref cda) cc)) (fun f s' => R (.ok (.ret (match f with | .ret v => v | _ => .none))) s')
   (fun _ _ => False) { s with heap := h', toks := tk }) : codeAny (model prog w) A (.call (.ref fI) ⟨.ref x :: us, []⟩) R s := by
 obtain ⟨oc, od, kV, doc, pm, an, cda, ct, osl, cc, ho, hcd, ⟨ccl, cdd, vs, ccs, file, tf, hcode, hvs, hfile⟩, cl, cld, csl, hcel⟩ := T.fn
 obtain ⟨nm, q, N, bs, bm, sn, sub, ab, col, dd, k0, k1, k2, k3, k5, hC, hbm, hal⟩ := T.cls
 obtain ⟨ar, hp, har⟩ := hp
 have hcl : clsIn K C = some { name := nm, bases := bs, mro := .ref C :: bm, ns := N, qualname := q, hasDict := true, slotNames := sn, subclasses := sub, abstract := ab, collection := col, hasDel := false } := by unfold clsIn; rw [hC] <;> rfl
 refine ks_codeAny_call_defAt (fd := ksFn "__init__" qual params (sup ex p0 p1 p2 p3 p4 :: rest) scope .none kV doc pm an (.ref cda) ct cc) (body := sup ex p0 p1 p2 p3 p4 :: rest) (binds := binds) hroom (X _ _ ho) rfl hlim (codeRec_of X hcd) rfl (BindsTo.of_eq (hbind kV doc pm an (.ref cda) ct cc)) hcell hloc (fun h₁ hns hk₁ => ?_) hco hgen hk
 obtain ⟨hp0, g, d, t, os⟩ := s
 show wpAt (model prog w) (A.deeper (ksEnv qual scope hp0.objs.size fI (.ref cda) cc)) (.func (sup ex p0 p1 p2 p3 p4 :: rest) (ksEnv qual scope hp0.objs.size fI (.ref cda) cc)) (execs (sup ex p0 p1 p2 p3 p4 :: rest) (ksEnv qual scope hp0.objs.size fI (.ref cda) cc)) _ _ _
 have X₁ : K.In h₁ := X.keeps hk₁
 have hx₁ := hk₁ _ _ hx
 have hC₁ := X₁ _ _ hC
 have hxC : x ≠ C := fun z => by
  rw [z, hC₁] at hx₁
  cases hx₁
 obtain ⟨pl, hev⟩ := hev cda cc hp0.objs.size
 refine ks_wpAt_execs_cons (ks_wpAt_Expr_any (ks_wpAt_MethodCall (pl := pl) ?_ hev) (hin _ _ _) (hsw _ _ _))
 refine ks_wpAt_super_base (fd := ksFn "__init__" qual params (sup ex p0 p1 p2 p3 p4 :: rest) scope .none kV doc pm an (.ref cda) ct cc) hks hkc (by decide) rfl (X₁ _ _ ho) rfl hp rfl (X₁ _ _ hcode) rfl hvs hfile T.top ?_
 refine ks_loadName_global hk hks (Calls.loadGlobal_builtin (hG.keeps hk₁) hg (hB.keeps hk₁) hb ⟨rfl, ?_⟩)
 refine wpAny_loadName_free hk hkc rfl ⟨_, X₁ _ _ hcel, rfl⟩ ?_
 rw [har]
 refine wpAny_loadName_local hk hka hns hself ?_
 refine ks_wpAny_isType_cls hC₁ rfl ⟨rfl, ?_⟩
 refine ks_wpAny_call_super hC₁ rfl hx₁ rfl (fun c e => by cases e) (looks_mroIn X₁ T.subC) (fun h₂ hso k₂ => ?_)
 have X₂ : K.In h₂ := X₁.keeps k₂
 have hx₂ := k₂ _ _ hx₁
 have I₂ : InstAt h₂ x (excO C t0) C none := ⟨hx₂, rfl, rfl, trivial⟩
 refine kxs_getMethod kxs_ValueError hso (looks_opaque X₂ T.opq) (l₀ := .ref C :: bm) ((looks_clsIn X₂ hcl).andThen .now) (by simp [List.dropWhile_cons]) X₂ hal (I₂.type.andThen (looks_subIn X₂ T.subB)) hxC rfl ?_
 have k₃ : ∀ b o, h₂.get? b = some o → (h₂.push (kxs_mw "ValueError.__init__" x)).get? b = some o := fun b o e => Heap.get?_push_of_some _ e
 have hu : (h₂.push (kxs_mw "ValueError.__init__" x)).get? h₂.objs.size = some (kxs_mw "ValueError.__init__" x) := Heap.get?_push_at rfl rfl
 refine kxs_callWith (i := "ValueError.__init__") (x := x) (by rw [hst]; rfl) ?_
 rw [hst]
 refine evalArgs_plain ?_
 show wpAny _ _ (spliced [(false, eval ex (ksEnv qual scope hp0.objs.size fI (.ref cda) cc))]) _ _ _
 refine X7 (hE cda cc hp0.objs.size _ _ _ _ _ _ _ _ (fun b o e => k₃ _ _ (k₂ _ _ (hk₁ _ _ e))) ((hns.keeps k₂).keeps k₃) fun v t' => ⟨hu, ?_⟩)
 refine aap (k₃ _ _ (k₂ _ _ hC₁)) (k₃ _ _ hx₂) hu (by show 1 ≤ sizeLine; decide) fun h₄ t1 k₄ hx₄ => ?_
 have hxL : hp0.objs.size ≠ x := Nat.ne_of_gt (Heap.lt_size hx)
 refine wpAt_of_wpAny (wpAny_mono (hq cda cc h₄ _ t1 (fun b o hb e => k₄ b o hb (k₃ _ _ (k₂ _ _ (hk₁ _ _ e)))) hx₄ ?_) (fun _ _ z => z) fun _ _ z => z.elim)
 obtain ⟨o, es, ep, eo, r⟩ := (hns.keeps k₂).keeps k₃
 exact ⟨o, es, ep, k₄ _ _ hxL eo, r⟩
end
abbrev Asg : Type := Str × Pos × Pos × Pos × Pos
abbrev asgs (gs : List Asg) : List Stmt := gs.map fun g => asg g.1 g.2.1 g.2.2.1 g.2.2.2.1 g.2.2.2.2
theorem look_put {α : Type} (f g : Str) (y : α) (fs : List (Str × α)) : ((f, y) :: fs).lookup g = if g = f then some y else fs.lookup g := by
 by_cases h : g = f
 · subst h
   simp [ahm]
 · have e : (g == f) = false := by simpa using h
   rw [if_neg h]
   simp [ahm, e]
theorem JK {α : Type} {y : Str} : ∀ {l : List (Str × α)} {v : α}, l.lookup y = some v → y ∈ l.map (·.1)
 | [], v, h => by cases h
 | (f, z) :: l, v, h => by
   rw [look_put] at h
   by_cases e : y = f
   · rw [e]; exact aht ..
   · rw [if_neg e] at h
     exact ahx _ (JK h)
theorem Q7 {α : Type} {y : Str} : ∀ (l r : List (Str × α)), (l ++ r).lookup y = match l.lookup y with | some v => some v | none => r.lookup y
 | [], r => rfl
 | (f, z) :: l, r => by
   rw [ahr, look_put, look_put]
   by_cases e : y = f
   · rw [if_pos e, if_pos e]
   · rw [if_neg e, if_neg e]; exact Q7 l r
theorem look_none {α : Type} {y : Str} {l : List (Str × α)} (h : y ∉ l.map (·.1)) : l.lookup y = none := by
 cases e : l.lookup y with
 | none => rfl
 | some v => exact absurd (JK e) h
theorem look_rev {α : Type} {y : Str} : ∀ {l : List (Str × α)}, (l.map (·.1)).Nodup → l.reverse.lookup y = l.lookup y
 | [], _ => rfl
 | (f, z) :: l, h => by
   rw [ahb, List.nodup_cons] at h
   have e1 : ((f, z) :: l).lookup y = if y = f then some z else l.lookup y := look_put f y z l
   have e2 : [(f, z)].lookup y = if y = f then some z else none := look_put f y z []
   rw [List.reverse_cons, Q7, look_rev h.2, e1, e2]
   by_cases e : y = f
   · subst e
     rw [look_none h.1, if_pos rfl]
   · rw [if_neg e, if_neg e]
     cases l.lookup y <;> rfl
structure StX (h0 h : Heap) (x C : Addr) (done : List (Str × Value)) : Prop where
 keep : ∀ b o, b ≠ x → h0.get? b = some o → h.get? b = some o
 big : h0.objs.size ≤ h.objs.size
 at_ : ∃ (t1 : Addr) (dv : Option Addr), h.get? x = some { cls := .ref C, dict := dv, data := .fields #[.ref t1, .none, .none, .none, .bool false, .none] } ∧
  ((done = [] ∧ dv = none) ∨ ∃ (dx : Addr) (m : Str → Option Value), dv = some dx ∧ h0.objs.size ≤ dx ∧ dx ≠ x ∧ h.Ns1 dx m ∧ ∀ y, m y = done.lookup y)
section
variable {prog : Program} {w : World} {A : Around} {E : Value → Shared → Prop} {K : Frag} {C fI L x : Addr} {scope : Scope} {qual : Str} {cda cc : Addr} {m : Str → Option Value} {h0 : Heap} {g : Array GenState} {d : Drawn} {os : OsState} {Q : Flow → Shared → Prop} {cd : ClassData}
theorem stores (X0 : K.In h0) (hnx : K.lookup x = none) (hLx : L ≠ x) (hL0 : L < h0.objs.size) (hcl : clsIn K C = some cd) (hm : refsVE cd.mro = true) (hh : cd.hasDict = true) (sa : findIn K (.ref C) "__setattr__" = some (some (.builtin "object.__setattr__"))) (hk : scope.kind = .function) (hself : m "self" = some (.ref x)) (ls : scope.names.lookup ("self" : Str) = some .local)
 (hsw : ∀ g : Asg, swapsWith (.Name g.1 g.2.2.2.1) (some (.Attribute (.Name "self" g.2.1) g.1 g.2.2.1)) g.2.2.2.2.line (ksEnv qual scope L fI (.ref cda) cc) = pure false) (hns0 : h0.Ns L m) :
 ∀ (gs : List Asg) (vs : List Value) (done : List (Str × Value)) (h : Heap) (t : Nat), (∀ g ∈ gs, (g.1 == ("__debug__" : Str)) = false ∧ scope.names.lookup g.1 = some .local ∧ findIn K (.ref C) g.1 = some none) → gs.length = vs.length → (∀ (i : Nat) (f : Str) (v : Value), (gs.map (·.1))[i]? = some f → vs[i]? = some v → m f = some v) → done.length + gs.length ≤ 500 → StX h0 h x C done →
   (∀ h' t', StX h0 h' x C (((gs.map (·.1)).zip vs).reverse ++ done) → Q .next ⟨h', g, d, t', os⟩) → wpAny (model prog w) A (execs (asgs gs) (ksEnv qual scope L fI (.ref cda) cc)) Q E ⟨h, g, d, t, os⟩
 | [], vs, done, h, t, _, hl, _, _, S, hq => by
   cases vs with
   | nil => exact wpAny_execs_nil (hq h t S)
   | cons v vs => cases hl
 | a :: gs, vs, done, h, t, hg, hl, hv, Oo, S, hq => by
   cases vs with
   | nil => cases hl
   | cons v vs =>
     obtain ⟨n1, n2, n3⟩ := hg a aht
     have hva : m a.1 = some v := hv 0 a.1 v rfl rfl
     obtain ⟨t1, dv, hx, hd⟩ := S.at_
     have X : K.In h := Q6 X0 hnx S.keep
     have hns : h.Ns L m := by
      obtain ⟨o, es, ep, eo, r⟩ := hns0
      exact ⟨o, es, ep, S.keep _ _ hLx eo, r⟩
     have go : ∀ h' t', StX h0 h' x C ((a.1, v) :: done) → wpAny (model prog w) A (execs (asgs gs) (ksEnv qual scope L fI (.ref cda) cc)) Q E ⟨h', g, d, t', os⟩ := fun h' t' S' => by
      refine stores X0 hnx hLx hL0 hcl hm hh sa hk hself ls hsw hns0 gs vs ((a.1, v) :: done) h' t' (fun b hb => hg b (ahx _ hb)) (Nat.succ.inj hl) (fun i f u e1 e2 => hv (i + 1) f u e1 e2) (by simp only [ag9] at Oo ⊢; omega) S' fun h2 t2 S2 => hq h2 t2 ?_
      have e : ((List.map (·.1) (a :: gs)).zip (v :: vs)).reverse ++ done = ((gs.map (·.1)).zip vs).reverse ++ (a.1, v) :: done := by
       simp
      rw [e]
      exact S2
     refine wpAny_execs_cons (plainObj_wpAny_Assign_Attribute ?_ (hsw a))
     refine wpAny_Name (wpAny_loadName_local hk (show (ksEnv qual scope L fI (.ref cda) cc).kindOf a.1 = some .local from n2) hns hva ?_) n1
     refine wpAny_Name (wpAny_loadName_local hk (show (ksEnv qual scope L fI (.ref cda) cc).kindOf "self" = some .local from ls) hns hself ?_) (by decide)
     rcases hd with ⟨rfl, rfl⟩ | ⟨dx, m0, rfl, dn, dne, hn1, hmm⟩
     · refine set_plain X (ox := { cls := .ref C, dict := none, data := .fields #[.ref t1, .none, .none, .none, .bool false, .none] }) (od := none) ⟨hx, rfl, rfl, trivial⟩ sa ?_
       refine exc_osa X hx hcl hm hh n3 (fun h₃ tk₃ dx k₃ dn dne hx₃ hn₃ => ?_)
       have zz : dx < h₃.objs.size := by
        obtain ⟨o, es, ep, eo, _⟩ := hn₃
        exact Heap.lt_size eo
       refine go h₃ _ ⟨fun b o hb e => k₃ b o hb (S.keep b o hb e), Nat.le_of_lt (Nat.lt_of_le_of_lt (Nat.le_trans S.big dn) zz), t1, some dx, hx₃, .inr ⟨dx, _, rfl, Nat.le_trans S.big dn, dne, hn₃, fun y => ?_⟩⟩
       · rw [look_put]
         rfl
     · obtain ⟨oD, es, ep, hoD, r⟩ := id hn1
       have hw : Within m0 (done.map (·.1)) := fun y hy => by
        rw [hmm y] at hy
        cases e : done.lookup y with
        | none => exact absurd e hy
        | some u => exact JK e
       refine set_plain X (ox := { cls := .ref C, dict := some dx, data := .fields #[.ref t1, .none, .none, .none, .bool false, .none] }) (od := some oD) ⟨hx, rfl, rfl, hoD⟩ sa ?_
       refine OEX.osa_old X hx hn1 hw (by rw [ahk]; omega) hcl hm hh n3 (fun h₃ tk₃ k₃ hn₃ => ?_)
       have zz : dx < h₃.objs.size := by
        obtain ⟨o, es, ep, eo, _⟩ := hn₃
        exact Heap.lt_size eo
       refine go h₃ _ ⟨fun b o hb e => k₃ b o (fun z => ?_) (S.keep b o hb e), Nat.le_of_lt (Nat.lt_of_le_of_lt dn zz), t1, some dx, k₃ _ _ (Ne.symm dne) hx, .inr ⟨dx, _, rfl, dn, dne, hn₃, fun y => ?_⟩⟩
       · rw [z] at e
         exact absurd (Heap.lt_size e) (Nat.not_lt.mpr dn)
       · rw [look_put, hmm y]
end
structure ExSt (K : Frag) (params : Arguments) (scope : Scope) (qual : Str) (ex : Expr) (p0 p1 p2 p3 p4 : Pos) (gs : List Asg) (Ok : L2.Hp → List L2.V → Prop) : Prop where
 bind : ∀ (kV doc pm : Value) (an : Option Addr) (cdv ct : Value) (cc x : Addr) (us : List Value), us.length = gs.length → bindArgs (ksFn "__init__" qual params (sup ex p0 p1 p2 p3 p4 :: asgs gs) scope .none kV doc pm an cdv ct cc) ⟨.ref x :: us, []⟩ = pure ((("self" : Str) :: gs.map (·.1)).zip (.ref x :: us))
 nd : (("self" : Str) :: gs.map (·.1)).Nodup
 len : gs.length ≤ 100
 loc : ∀ y ∈ ("self" : Str) :: gs.map (·.1), scope.names.lookup y = some .local
 dbg : ∀ g ∈ gs, (g.1 == ("__debug__" : Str)) = false
 cell : ∀ y ∈ scope.names, y.2 ≠ .cell
 hp : ∃ ar : Arg, (params.posonlyargs ++ params.args).head? = some ar ∧ ar.arg = "self"
 ks : scope.names.lookup ("super" : Str) = some .globalImplicit
 kc : scope.names.lookup ("__class__" : Str) = some .free
 co : scope.isCoroutine = false
 gen : scope.isGenerator = false
 k : scope.kind = .function
 hE : ∀ (H0 : L2.Hp) (vs : List L2.V) (us : List Value), Ok H0 vs → L2.Vals vs us → vs.length = gs.length → ∀ (cda cc L x fI : Addr) (prog : Program) (w : World) (A' : Around) (h0 h : Heap) (g : Array GenState) (d : Drawn) (t : Nat) (os : OsState) (E' : Value → Shared → Prop) (Q : Value → Shared → Prop), K.In h → L2.HOk prog w H0 h0 → (∀ b o, h0.get? b = some o → h.get? b = some o) →
  h.Ns L (fun y => ((("self" : Str) :: gs.map (·.1)).zip (Value.ref x :: us)).reverse.lookup y) → (∀ v t', Q v ⟨h, g, d, t', os⟩) → wpAny (model prog w) A' (eval ex (ksEnv qual scope L fI (.ref cda) cc)) Q E' ⟨h, g, d, t, os⟩
 hin : ∀ (fI cda cc L : Addr), interactive (ksEnv qual scope L fI (.ref cda) cc) = false
 hev : ∀ (fI cda cc L : Addr), ∃ pl : Sem Bool, eval (.Call (.Attribute (.Call (.Name "super" p0) [] [] p1) "__init__" p2) [ex] [] p3) (ksEnv qual scope L fI (.ref cda) cc) = (do
     let ov ← attributeBase (.Call (.Name "super" p0) [] [] p1) "__init__" (ksEnv qual scope L fI (.ref cda) cc) (eval (.Call (.Name "super" p0) [] [] p1) (ksEnv qual scope L fI (.ref cda) cc))
     standAt p2.atName
     let (f, first) ← holding [ov] (getMethod ov "__init__" pl)
     callWith p3 f first (backTo p3 (starEach [ex] (ksEnv qual scope L fI (.ref cda) cc))) [])
 hsw : ∀ (fI cda cc L : Addr), swapsWith (.Call (.Attribute (.Call (.Name "super" p0) [] [] p1) "__init__" p2) [ex] [] p3) none p4.line (ksEnv qual scope L fI (.ref cda) cc) = pure false
 hst : ∀ env : Env, starEach [ex] env = [(false, eval ex env)]
 hsw2 : ∀ (fI cda cc L : Addr) (g : Asg), swapsWith (.Name g.1 g.2.2.2.1) (some (.Attribute (.Name "self" g.2.1) g.1 g.2.2.1)) g.2.2.2.2.line (ksEnv qual scope L fI (.ref cda) cc) = pure false
theorem zip_get {α : Type} : ∀ {ps : List Str} {us : List α} {i : Nat} {f : Str} {v : α}, ps.Nodup → ps[i]? = some f → us[i]? = some v → (ps.zip us).lookup f = some v
 | [], _, i, f, v, _, e, _ => by simp at e
 | _ :: _, [], i, f, v, _, _, e => by simp at e
 | p :: ps, u :: us, 0, f, v, _, e1, e2 => by
   simp at e1 e2
   subst e1 e2
   simp [ahm]
 | p :: ps, u :: us, i + 1, f, v, nd, e1, e2 => by
   rw [List.nodup_cons] at nd
   have e1' : ps[i]? = some f := by simpa using e1
   have e2' : us[i]? = some v := by simpa using e2
   rw [List.zip_cons_cons, look_put, if_neg (fun z => nd.1 (by rw [← z]; exact ahq e1'))]
   exact zip_get nd.2 e1' e2'
theorem zip_keys {α : Type} {ps : List Str} {us : List α} (hl : ps.length = us.length) : (ps.zip us).map (·.1) = ps := by
 rw [List.map_fst_zip]
 omega
section
variable {prog : Program} {w : World} {A : Around} {R : Result → Shared → Prop} {s : Shared} {K : Frag} {C fI : Addr} {params : Arguments} {scope : Scope} {qual : Str} {ex : Expr} {p0 p1 p2 p3 p4 : Pos} {gs : List Asg} {Ok : L2.Hp → List L2.V → Prop} {H0 : L2.Hp} {h00 : Heap} {mg mb : Str → Option Value}
theorem X8 (T : Im prog K C fI params (sup ex p0 p1 p2 p3 p4 :: asgs gs) scope qual) (S : ExSt K params scope qual ex p0 p1 p2 p3 p4 gs Ok) (hno : ∀ g ∈ gs, findIn K (.ref C) g.1 = some none) {x t0 : Addr} {vs : List L2.V} {us : List Value} (X : K.In s.heap) (hlim : s.heap.NoLimit) (hx : s.heap.get? x = some (excO C t0)) (hnx : K.lookup x = none) (hroom : A.depth < recursionLimit)
 (hG : s.heap.Ns mainGlobals mg) (hg : mg "super" = none) (hB : s.heap.Ns builtinsNs mb) (hb : mb "super" = some (.type "super")) (hH : L2.HOk prog w H0 h00) (kp0 : ∀ b o, h00.get? b = some o → s.heap.get? b = some o) (ok : Ok H0 vs) (rv : L2.Vals vs us) (hl : vs.length = gs.length)
 (hq : ∀ h' tk, StX s.heap h' x C ((gs.map (·.1)).zip us).reverse → R (.ok (.ret .none)) { s with heap := h', toks := tk }) : codeAny (model prog w) A (.call (.ref fI) ⟨.ref x :: us, []⟩) R s := by
 have hlu : us.length = gs.length := by rw [← rv.length]; exact hl
 have keys : (((("self" : Str) :: gs.map (·.1)).zip (Value.ref x :: us)).map (·.1)) = ("self" : Str) :: gs.map (·.1) := zip_keys (by simp [hlu])
 have hrev : ∀ y, ((("self" : Str) :: gs.map (·.1)).zip (Value.ref x :: us)).reverse.lookup y = ((("self" : Str) :: gs.map (·.1)).zip (Value.ref x :: us)).lookup y := fun y => look_rev (by rw [keys]; exact S.nd)
 have hself : ((("self" : Str) :: gs.map (·.1)).zip (Value.ref x :: us)).reverse.lookup ("self" : Str) = some (.ref x) := by
  rw [hrev]
  exact zip_get S.nd (i := 0) rfl rfl
 refine enter T (mg := mg) (mb := mb) (binds := (("self" : Str) :: gs.map (·.1)).zip (.ref x :: us)) X hlim hx hnx hroom hG hg hB hb (fun kV doc pm an cdv ct cc => S.bind kV doc pm an cdv ct cc x us hlu) hself (fun y hy => S.loc y.1 (List.of_mem_zip hy).1) S.cell S.hp S.ks S.kc (S.loc _ aht) S.co S.gen S.k
  (fun cda cc L A' h g d t os E' Q hk hn hq' => S.hE H0 vs us ok rv hl cda cc L x fI prog w A' h00 h g d t os E' Q (X.keeps hk) hH (fun b o e => hk b o (kp0 b o e)) hn hq') (S.hin fI) (S.hev fI) (S.hsw fI) S.hst fun cda cc h' tk t1 k hx' hns => ?_
 obtain ⟨nm, q, N, bs, bm, sn, sub, ab, col, dd, k0, k1, k2, k3, k5, hC, hbm, hal⟩ := T.cls
 have hcl : clsIn K C = some { name := nm, bases := bs, mro := .ref C :: bm, ns := N, qualname := q, hasDict := true, slotNames := sn, subclasses := sub, abstract := ab, collection := col, hasDel := false } := by unfold clsIn; rw [hC] <;> rfl
 have X' : K.In h' := Q6 X hnx k
 have hsz : s.heap.objs.size < h'.objs.size := by
  obtain ⟨o, es, ep, eo, _⟩ := hns
  exact Heap.lt_size eo
 obtain ⟨hp0, g, d, t, os⟩ := s
 refine stores (C := C) (x := x) (L := hp0.objs.size) (h0 := h') (m := fun y => ((("self" : Str) :: gs.map (·.1)).zip (Value.ref x :: us)).reverse.lookup y) X' hnx (Nat.ne_of_gt (Heap.lt_size hx)) hsz hcl (show refsVE (.ref C :: bm) = true from hbm) rfl T.sa S.k hself (S.loc _ aht) (S.hsw2 fI cda cc _) hns gs us [] h' tk
  (fun b hb' => ⟨S.dbg b hb', S.loc b.1 (ahx _ (List.mem_map_of_mem hb')), hno b hb'⟩) hlu.symm (fun i f v e1 e2 => by
   show ahm f _ = _
   rw [hrev]
   exact zip_get S.nd (i := i + 1) (by simpa using e1) (by simpa using e2)) (by have := S.len; simp only [ahd]; omega) ⟨fun b o hb' e => e, Nat.le_refl _, t1, none, hx', .inl ⟨rfl, rfl⟩⟩ fun h2 t2 S2 => ?_
 rw [ahe] at S2
 refine hq h2 t2 ⟨fun b o hb' e => S2.keep b o hb' (k b o hb' e), Nat.le_trans (Nat.le_of_lt hsz) S2.big, ?_⟩
 obtain ⟨t3, dv, e1, e2⟩ := S2.at_
 refine ⟨t3, dv, e1, ?_⟩
 rcases e2 with e2 | ⟨dx, m, q1, q2, q3, q4, q5⟩
 · exact .inl e2
 · exact .inr ⟨dx, m, q1, Nat.le_trans (Nat.le_of_lt hsz) q2, q3, q4, q5⟩
end
end ExS
end PySem
namespace PySem
namespace ExS
open PySem.W PySem.Calls PyProof.Rows PySem.HandSPX
structure MadeX (h h' : Heap) (e C : Addr) (fs : List (Str × Value)) : Prop where
 keep : ∀ b o, h.get? b = some o → h'.get? b = some o
 new : h.objs.size ≤ e
 at_ : ∃ (t1 : Addr) (dv : Option Addr), h'.get? e = some { cls := .ref C, dict := dv, data := .fields #[.ref t1, .none, .none, .none, .bool false, .none] } ∧
  ((fs = [] ∧ dv = none) ∨ ∃ (dx : Addr) (m : Str → Option Value), dv = some dx ∧ h.objs.size ≤ dx ∧ dx ≠ e ∧ h'.Ns1 dx m ∧ ∀ y, m y = fs.lookup y)
section
variable {prog : Program} {w : World} {A : Around} {R : Result → Shared → Prop} {s : Shared} {K : Frag} {C fI : Addr} {params : Arguments} {scope : Scope} {qual : Str} {ex : Expr} {p0 p1 p2 p3 p4 : Pos} {gs : List Asg} {Ok : L2.Hp → List L2.V → Prop} {H0 : L2.Hp} {mg mb : Str → Option Value}
theorem small {l : List Value} {n : Nat} (e : l.length = n) (h : n ≤ 100) : l.length ≤ sizeLine := by
 have : (100 : Nat) ≤ sizeLine := by decide
 omega
theorem made (T : Im prog K C fI params (sup ex p0 p1 p2 p3 p4 :: asgs gs) scope qual) (S : ExSt K params scope qual ex p0 p1 p2 p3 p4 gs Ok) (hno : ∀ g ∈ gs, findIn K (.ref C) g.1 = some none) {vs : List L2.V} {us : List Value} (X : K.In s.heap) (hlim : s.heap.NoLimit) (hroom : A.depth + 1 < recursionLimit)
 (hG : s.heap.Ns mainGlobals mg) (hg : mg "super" = none) (hB : s.heap.Ns builtinsNs mb) (hb : mb "super" = some (.type "super")) (hH : L2.HOk prog w H0 s.heap) (ok : Ok H0 vs) (rv : L2.Vals vs us) (hl : vs.length = gs.length)
 (hq : ∀ h' tk e, MadeX s.heap h' e C ((gs.map (·.1)).zip us).reverse → R (.ok (.ret (.ref e))) { s with heap := h', toks := tk }) : codeAny (model prog w) A (.call (.ref C) ⟨us, []⟩) R s := by
 have hlu : us.length = gs.length := by rw [← rv.length]; exact hl
 obtain ⟨nm, q, N, bs, bm, sn, sub, ab, col, dd, k0, k1, k2, k3, k5, hC, hbm, hal⟩ := T.cls
 obtain ⟨hp, g, dr, tk, os⟩ := s
 have k : ∀ b o, hp.get? b = some o → ((hp.push (kdv_tup us)).push (excO C hp.objs.size)).get? b = some o := fun b o e => Heap.get?_push_of_some _ (Heap.get?_push_of_some _ e)
 have Ot : ((hp.push (kdv_tup us)).push (excO C hp.objs.size)).get? (hp.objs.size + 1) = some (excO C hp.objs.size) := by heap_get
 have hnx : K.lookup (hp.objs.size + 1) = none := aaq X (Nat.le_succ _)
 refine call_own F.excBase_ValueError (fun X => refsVE_contains X bm hbm) (X _ _ hC) (looks_findIn X T.iC) (fun self => bind_fn X self T.tC) (small hlu S.len) ?_
 refine X8 (s := ⟨(hp.push (kdv_tup us)).push (excO C hp.objs.size), g, dr, tk, os⟩) T S hno (X.keeps k) (hlim.keeps k) Ot hnx ?_ (hG.keeps k) hg (hB.keeps k) hb hH k ok rv hl fun h' tk' S' => ?_
 · show A.depth + 1 < recursionLimit
   exact hroom
 · have old : ∀ b o, hp.get? b = some o → h'.get? b = some o := fun b o e => S'.keep b o (Nat.ne_of_lt (Nat.lt_succ_of_lt (Heap.lt_size e))) (k b o e)
   refine ⟨rfl, hq h' tk' (hp.objs.size + 1) ⟨old, Nat.le_succ _, ?_⟩⟩
   obtain ⟨t1, dv, e1, e2⟩ := S'.at_
   refine ⟨t1, dv, e1, ?_⟩
   rcases e2 with ⟨e2, e3⟩ | ⟨dx, m, q1, q2, q3, q4, q5⟩
   · exact .inl ⟨e2, e3⟩
   · refine .inr ⟨dx, m, q1, ?_, q3, q4, q5⟩
     have z : hp.objs.size + 1 + 1 ≤ dx := by
      first
       | (simpa only [Heap.size_push] using q2)
       | exact q2
       | (have q := q2; rw [Heap.size_push, Heap.size_push] at q; exact q)
     exact Nat.le_trans (Nat.le_trans (Nat.le_succ _) (Nat.le_succ _)) z
end
end ExS
end PySem
namespace Pk
open PySem PySem.Spec PyProof.Rows L2
open PySem.ExS (Im ExSt sup asgs Asg)
structure ExC (P : Program) (K : PySem.W.Frag) (T : Tb) (c : Nat) (Ok : Hp → List V → Prop) : Prop where
 tx : ∃ (fI : Addr) (params : Arguments) (scope : Scope) (qual : Str) (ex : Expr) (p0 p1 p2 p3 p4 : Pos) (gs : List Asg),
  Im P K (T.cad c) fI params (sup ex p0 p1 p2 p3 p4 :: asgs gs) scope qual ∧ ExSt K params scope qual ex p0 p1 p2 p3 p4 gs Ok ∧ (∀ g ∈ gs, PySem.W.findIn K (.ref (T.cad c)) g.1 = some none) ∧ T.fld c = gs.map (·.1) ∧ (T.fld c).Nodup
 kC : PySem.W.keepIn K (.ref (T.cad c)) = true
 exC : PySem.W.subIn K (.ref (T.cad c)) (.type "BaseException") = some true
 tyC : PySem.W.typeIn K (.ref (T.cad c)) = some (.type "type")
section
variable {X : Cx} {T : Tb} {W : WX} {k c : Nat} {x : Str} {a : Expr} {es : List Expr} {ma : M (List D)} {p pos pos2 : Pos} {Ok : Hp → List V → Prop}
theorem Q8 {f : Str} : ∀ {ns : List Str} {vs : List V} {us : List Value}, Vals vs us → RelO ((ns.zip vs).lookup f) ((ns.zip us).lookup f)
 | [], _, _, _ => trivial
 | _ :: _, _, _, .nil => trivial
 | n :: ns, v :: vs, u :: us, .cons rv r => by
   rw [List.zip_cons_cons, List.zip_cons_cons, PySem.ExS.look_put, PySem.ExS.look_put]
   by_cases e : f = n
   · rw [if_pos e, if_pos e]
     exact rv
   · rw [if_neg e, if_neg e]
     exact Q8 r
def aeg (T : Tb) (c : Nat) (Ok : Hp → List V → Prop) (ta : TA) : L2.St → Hp → XK → Prop := fun σ H Q => ta σ H fun vs H1 => Ok H1 vs ∧ vs.length = (T.fld c).length ∧
 (T.fld c = [] → Q (.ref (T.cad c)) none H1) ∧ (∀ d, H1 d = none → Q (.ref (T.cad c)) (some d) (upd H1 d (.xd ((T.fld c).zip vs))))
theorem mk_end {pins : List (Addr × Obj)} {σ : L2.St} {H1 : Hp} {Q : XK} {s1 : Shared} {vs : List V} {us : List Value} (E : ExC X.prog X.K T c Ok) (hr : Room k X.A) (I1 : Inv X pins σ H1 s1) (hsg : X.mg "super" = none) (rv : Vals vs us) (ok : Ok H1 vs) (hl : vs.length = (T.fld c).length)
 (q1 : T.fld c = [] → Q (.ref (T.cad c)) none H1) (q2 : ∀ d, H1 d = none → Q (.ref (T.cad c)) (some d) (upd H1 d (.xd ((T.fld c).zip vs)))) :
 wpAny (model X.prog X.w) X.A (call (.ref (T.cad c)) us) (MkP X pins σ Q) X.xe s1 := by
 obtain ⟨fI, params, scope, qual, ex, p0, p1, p2, p3, p4, gs, TX, S, hno, hf, nd⟩ := E.tx
 have hl' : vs.length = gs.length := by rw [hl, hf, ahk]
 have hlu : us.length = gs.length := by rw [← rv.length]; exact hl'
 have hlim := I1.nolimit
 have X1 := I1.kIn
 obtain ⟨mb, hB, hmb⟩ := I1.mod.blt
 have hB' : s1.heap.Ns builtinsNs mb := hB.keeps I1.bk
 have hG' : s1.heap.Ns mainGlobals X.mg := I1.mod.glob.keeps I1.bk
 have hsu : mb "super" = some (.type "super") := (hmb "super" (by decide)).trans (by first | rfl | decide | with_unfolding_all rfl)
 have hok := I1.hok
 obtain ⟨hp, g, dr, tk, os⟩ := s1
 refine wpAny_call (PySem.ExS.made TX S hno X1 hlim (by have := hr.dp; omega) hG' hsg hB' hsu hok ok rv hl' fun h' tk' e M => ?_)
 show MkP X pins σ Q (.ref e) ⟨h', g, dr, tk', os⟩
 obtain ⟨t1, dv, he, hd⟩ := M.at_
 obtain ⟨G', g1, g2⟩ := restrict h' fun b => decide (b ≠ e)
 have gk : ∀ b, b ≠ e → G'.get? b = h'.get? b := fun b hb => g1 b (decide_eq_true hb)
 have ge : G'.get? e = none := g2 e (by simp)
 have old : ∀ b o, hp.get? b = some o → G'.get? b = some o := fun b o q => (gk b (Nat.ne_of_lt (Nat.lt_of_lt_of_le (Heap.lt_size q) M.new))).trans (M.keep b o q)
 have back : ∀ b o, G'.get? b = some o → h'.get? b = some o := fun b o q => by
  by_cases hb : b = e
  · rw [hb, ge] at q; cases q
  · exact (gk b hb).symm.trans q
 have kz : (gs.map (·.1)).zip us = [] ↔ gs = [] := by
  cases gs with
  | nil => simp
  | cons a l => cases us with
    | nil => cases hlu
    | cons u l => simp
 rcases hd with ⟨hz, rfl⟩ | ⟨dx, m, rfl, dn, dne, hns, hm⟩
 · have hg0 : gs = [] := kz.mp (by simpa using hz)
   have hf0 : T.fld c = [] := by rw [hf, hg0]; rfl
   exact ⟨e, _, _, ⟨G', g, dr, tk', os⟩, H1, _, none, rfl, I1.kept (t' := tk') old, back, ge, he, ⟨rfl, rfl⟩, rfl, rfl, I1.hok.fresh M.new, rfl, I1.bare, raises_own E.exC E.tyC, q1 hf0⟩
 · have ob : ObjOk X.prog X.w (upd H1 dx (.xd ((T.fld c).zip vs))) G' dx (.xd ((T.fld c).zip vs)) :=
    ⟨m, hns.at (fun o q => (gk dx dne).trans q), fun f => by
      rw [hm f, ← hf, PySem.ExS.look_rev (by rw [PySem.ExS.zip_keys (by rw [hf, ahk, hlu])]; exact nd)]
      exact Q8 rv⟩
   have J : Inv X pins σ (upd H1 dx (.xd ((T.fld c).zip vs))) ⟨G', g, dr, tk', os⟩ := I1.laid (t' := tk') old dn ob
   exact ⟨e, _, _, ⟨G', g, dr, tk', os⟩, _, _, some dx, rfl, J, back, ge, he, ⟨rfl, rfl⟩, rfl, rfl, by rw [upd_ne (Ne.symm dne)]; exact I1.hok.fresh M.new, rfl, I1.bare, raises_own E.exC E.tyC, q2 dx (I1.hok.fresh dn)⟩
theorem aeh {ta : TA} (E : ExC X.prog X.K T c Ok) (hr : Room k X.A) (hsg : X.mg "super" = none) (hm : X.mg x = some (.ref (T.cad c))) (ha : PA X (a :: es) ta) (hg : Gl X x := by rfl) (hdb : (x == ("__debug__" : Str)) = false := by decide)
 (he : starEach (a :: es) X.env = (false, eval a X.env) :: starEach es X.env := by exact cJ rfl) (hpl : (backTo pos (starEach es X.env)).any (·.1) = false := by rfl) :
 PMk X (.Call (.Name x p) (a :: es) [] pos) (aeg T c Ok ta) := by
 intro pins s σ H Q I h
 refine wpAny_Call_Name_kw (ld_glob I hg hm ?_ hdb)
 refine PySem.W.callWith_K (h₀ := X.base) I.ok.mod.kin E.kC (thn (ha.run pos pins s σ H _ I h) fun us s1 hh => ?_) he hpl
 obtain ⟨vs, H1, I1, r1, ok, hl, q1, q2⟩ := hh
 exact ⟨I1.kIn, mk_end E hr I1 hsg r1 ok hl q1 q2⟩
end
end Pk
namespace PySem
namespace ExS
open PySem.W PySem.Calls PyProof.Rows PySem.HandSPX
theorem clsX_ok {K : Frag} {C : Addr} (h : Pk.clsX K C = true) : ∃ nm q N bs bm sn sub ab col dd k0 k1 k2 k3 k5, K.lookup C = some (excClassObj nm q C N bs bm true sn sub ab col dd k0 k1 k2 k3 k5 "ValueError.__new__") ∧ refsVE bm = true ∧ alongIn K "__init__" bm = some (some (.builtin "ValueError.__init__")) := by
 unfold Pk.clsX at h
 split at h
 · rename_i dd cd sl ho
   split at h
   · rename_i C' bm k0 k1 k2 k3 n k5 hm hs
     obtain ⟨c1, h⟩ := He.ba h
     obtain ⟨c2, h⟩ := He.ba h
     obtain ⟨c3, h⟩ := He.ba h
     obtain ⟨c4, h⟩ := He.ba h
     obtain ⟨c5, c6⟩ := He.ba h
     obtain ⟨nm, bs, mro, ns, qn, hd, sn, sub, ab, col, del⟩ := cd
     have e1 : C' = C := beq_iff_eq.mp c1
     have e2 : n = "ValueError.__new__" := beq_iff_eq.mp c2
     have e3 : del = false := by simpa using c3
     have e4 : hd = true := c4
     have em : mro = .ref C' :: bm := hm
     subst e1 e2 e3 e4 em
     have hsl : sl = #[k0, k1, k2, k3, some (.builtin "ValueError.__new__"), k5] := by
      obtain ⟨l⟩ := sl
      have z : l = [k0, k1, k2, k3, some (.builtin "ValueError.__new__"), k5] := hs
      rw [z]
     subst hsl
     exact ⟨nm, qn, ns, bs, bm, sn, sub, ab, col, dd, k0, k1, k2, k3, k5, ho, c5, He.eqO_ok c6⟩
   · cases h
 · cases h
theorem iniX_ok {K : Frag} {C f : Addr} {file name qual : Str} {params : Arguments} {body : List Stmt} {scope : Scope} (h : Pk.iniX K C f file = true) (e : Pk.fnWa K f = some (name, qual, params, FuncBody.stmts body, scope, mainGlobals, [(("__class__" : Str), (0 : Addr))], builtinsNs)) :
 ∃ (oc : Value) (od : Option Addr) (kV doc pm : Value) (an : Option Addr) (cda : Addr) (ct : Value) (osl : Array (Option Value)) (cc : Addr),
 K.lookup f = some ⟨oc, od, .func (ksFn name qual params body scope .none kV doc pm an (.ref cda) ct cc), osl⟩ ∧ codeIn K (.ref cda) qual = true ∧
 (∃ (ccl : Value) (cdd : Option Addr) (vs : Array Value) (ccs : Array (Option Value)) (fi : Str) (tf : Tok), K.lookup cda = some ⟨ccl, cdd, .fields vs, ccs⟩ ∧ vs[2]? = some (.str fi tf) ∧ fi = file) ∧
 ∃ (cl : Value) (cld : Option Addr) (csl : Array (Option Value)), K.lookup cc = some ⟨cl, cld, .cell (some (.ref C)), csl⟩ := by
 unfold Pk.iniX at h
 unfold Pk.fnWa at e
 cases q : K.lookup f with
 | none => rw [q] at h; cases h
 | some o =>
   obtain ⟨oc, od, dt, osl⟩ := o
   rw [q] at h e
   cases dt with
   | func fd =>
     obtain ⟨n1, n2, n3, n4, n5, n6, n7, n8, n9, n10, n11, n12, n13, n14, n15⟩ := fd
     have e2 : (some (n1, n2, n3, n4, n5, n6, n7.map (fun q => (q.1, 0)), n15) : He.FnW) = some (name, qual, params, FuncBody.stmts body, scope, mainGlobals, [(("__class__" : Str), (0 : Addr))], builtinsNs) := e
     simp only [Option.some.injEq, Prod.mk.injEq] at e2
     obtain ⟨h1, h2, h3, h4, h5, h6, h7, h8⟩ := e2
     subst h1 h2 h3 h4 h5 h6 h8
     dsimp only at h
     split at h
     · rename_i nm cc cda
       obtain ⟨c1, h⟩ := He.ba h
       obtain ⟨c2, c3⟩ := He.ba h
       have en : nm = "__class__" := by
        simp only [ahb, ahf, List.cons.injEq, Prod.mk.injEq, and_true] at h7
        exact h7
       subst en
       refine ⟨oc, od, n9, n10, n11, n12, cda, n14, osl, cc, rfl, c2, ?_, ?_⟩
       · split at c3
         · rename_i ccl cdd vs ccs e3
           split at c3
           · rename_i fi tf e4
             exact ⟨ccl, cdd, vs, ccs, fi, tf, e3, e4, of_decide_eq_true c3⟩
           · cases c3
         · cases c3
       · split at c1
         · rename_i cl cld a csl e3
           have ea : a = C := of_decide_eq_true c1
           subst ea
           exact ⟨cl, cld, csl, e3⟩
         · cases c1
     · cases h
   | _ => cases h
end ExS
end PySem
namespace Pk
open PySem PySem.Spec PyProof.Rows L2
open PySem.ExS (Im ExSt sup asgs Asg)
theorem abK {P : Program} {K : PySem.W.Frag} {T : Tb} {c : Nat} {x file : Str} {fs : List Str} {d : PD} {ex : Expr} {p0 p1 p2 p3 p4 : Pos} {gs : List Asg} {Ok : Hp → List V → Prop} {cn : Nat → Str} (own : (Fx.own x file fs).ok cn K = true) (hx : T.cad c = He.ga K x) (ha : d.adr K = He.ma K (He.ga K x) "__init__")
 (wr : fnWa K (d.adr K) = d.val) (hc : d.clo = true) (hn : d.name = "__init__") (hb : d.body = sup ex p0 p1 p2 p3 p4 :: asgs gs) (S : ExSt K d.params d.scope d.qual ex p0 p1 p2 p3 p4 gs Ok) (hfs : fs = gs.map (·.1)) (hT : T.fld c = fs) (nd : fs.Nodup) (hfile : ((P.main.file : Str) == file) = true)
 (htop : (P.main.scope.names.lookup ("super" : Str)).isSome = false) : ExC P K T c Ok := by
 obtain ⟨o1, q⟩ := He.ba (show X4 K (He.ga K x) (He.ma K (He.ga K x) "__init__") file fs = true from own)
 obtain ⟨o2, q⟩ := He.ba q
 obtain ⟨o3, q⟩ := He.ba q
 obtain ⟨o4, q⟩ := He.ba q
 obtain ⟨o5, q⟩ := He.ba q
 obtain ⟨o6, q⟩ := He.ba q
 obtain ⟨o7, q⟩ := He.ba q
 obtain ⟨o8, q⟩ := He.ba q
 obtain ⟨o9, q⟩ := He.ba q
 obtain ⟨o10, q⟩ := He.ba q
 obtain ⟨o11, q⟩ := He.ba q
 obtain ⟨o12, q⟩ := He.ba q
 have wr2 : fnWa K (He.ma K (He.ga K x) "__init__") = some (("__init__" : Str), d.qual, d.params, FuncBody.stmts (sup ex p0 p1 p2 p3 p4 :: asgs gs), d.scope, mainGlobals, [(("__class__" : Str), (0 : Addr))], builtinsNs) := by
  rw [← ha, wr]
  unfold PD.val
  rw [hc, hn, hb]
  rfl
 obtain ⟨oc, od, kV, doc, pm, an, cda, ct, osl, cc, e1, e2, ⟨ccl, cdd, vs, ccs, fi, tf, e3, e4, e5⟩, e6⟩ := PySem.ExS.iniX_ok o8 wr2
 subst e5
 rw [← hx] at o1 o2 o3 o4 o5 o6 o9 o10 o11 o12 e1 e6
 refine ⟨⟨_, d.params, d.scope, d.qual, ex, p0, p1, p2, p3, p4, gs, ⟨PySem.ExS.clsX_ok o1, He.eqO_ok o2, He.eqO_ok o3, of_decide_eq_true o4, of_decide_eq_true o5, of_decide_eq_true o6, He.eqO_ok o7, htop, ⟨oc, od, kV, doc, pm, an, cda, ct, osl, cc, e1, e2, ⟨ccl, cdd, vs, ccs, fi, tf, e3, e4, hfile⟩, e6⟩⟩, S, ?_, by rw [hT, hfs], by rw [hT]; exact nd⟩, o10, of_decide_eq_true o11, of_decide_eq_true o12⟩
 intro g hg
 have z := List.all_eq_true.mp o9 g.1 (by rw [hfs]; exact List.mem_map_of_mem hg)
 exact He.eqO_ok z
section
variable {params : Arguments} {scope : Scope} {qual : Str}
theorem abL {z : Str} {j : Nat} {pos : Pos} {env : Env} {prog : Program} {w : World} {A' : Around} {h : Heap} {g : Array GenState} {d : Drawn} {t : Nat} {os : OsState} {E' : Value → Shared → Prop} {Q : Value → Shared → Prop} (hq : ∀ v t', Q v ⟨h, g, d, t', os⟩) :
 wpAny (model prog w) A' (eval (.Constant (.str z) j pos) env) Q E' ⟨h, g, d, t, os⟩ := wpAny_Constant_str (hq _ _)
end
section
variable {X : Cx} {T : Tb} {W : WX} {k c n : Nat} {x : Str} {a : Expr} {es : List Expr} {ma : M (List D)} {p pos pos2 : Pos} {Ok : Hp → List V → Prop} {chk : List D → Bool}
def Cr (c n : Nat) (chk : List D → Bool) (ma : M (List D)) : M Fl := ma.bind fun ds fr h => if ds.length = n ∧ chk ds = true then .exc ⟨c, ds⟩ fr h else .err
theorem WN {B : Bs} {w1 : Wd} {σ : L2.St} {H1 : Hp} {fr1 : Fr} {h1 : Hh} {D : Ends} {vs : List V} {ds : List Pk.D} (hn : (T.fld c).length = n) (hok : chk ds = true → Ok H1 vs) (r1 : Rel X.K T B w1 σ H1 fr1 h1) (rs : az X.K T w1 vs ds)
 (p1 : cC X.K T B W w1 (if ds.length = n ∧ chk ds = true then .exc ⟨c, ds⟩ fr1 h1 else .err) D) : Ok H1 vs ∧ vs.length = (T.fld c).length ∧ (T.fld c = [] → W (.ref (T.cad c)) none σ H1) ∧ (∀ d, H1 d = none → W (.ref (T.cad c)) (some d) σ (upd H1 d (.xd ((T.fld c).zip vs)))) := by
 by_cases hl : ds.length = n ∧ chk ds = true
 · rw [if_pos hl] at p1
   have e0 : vs.length = (T.fld c).length := rs.length.trans (hl.1.trans hn.symm)
   refine ⟨hok hl.2, e0, fun hf => p1 w1 σ H1 _ _ (Wd.le_refl _) r1 ⟨rfl, .inl ⟨?_, rfl⟩⟩, fun d nd => p1 (w1.add d (.xd ((T.fld c).zip vs))) σ _ _ _ (Wd.le_add (r1.nP nd).1) (r1.laid nd) ⟨rfl, .inr ⟨d, vs, rfl, by show upd w1.F d _ d = _; rw [upd_same], rs.mono (Wd.le_add (r1.nP nd).1)⟩⟩⟩
   rw [hf] at hn
   have z : ds.length = 0 := hl.1.trans hn.symm
   exact List.length_eq_zero_iff.mp z
 · rw [if_neg hl] at p1
   exact p1.elim
theorem aar (C : Cq X T W k) (E : ExC X.prog X.K T c Ok) (hn : (T.fld c).length = n) (hok : ∀ w H vs ds, (∀ a o, w.F a = some o → H a = some o) → az X.K T w vs ds → chk ds = true → Ok H vs) (hsg : X.mg "super" = none) (hm : X.mg x = some (.ref (T.cad c))) (sa : yR X T W (a :: es) ma) (hg : Gl X x := by rfl) (hdb : (x == ("__debug__" : Str)) = false := by decide)
 (he : starEach (a :: es) X.env = (false, eval a X.env) :: starEach es X.env := by exact cJ rfl) (hpl : (backTo pos (starEach es X.env)).any (·.1) = false := by rfl) : qu X T W (.Raise (some (.Call (.Name x p) (a :: es) [] pos)) none pos2) (Cr c n chk ma) := fun B w σ H fr h D R pp =>
 oZ (ps_raise C.calm C.takes (aeh E C.room hsg hm vK hg hdb he hpl)) (sa B w σ H fr h _ R (cC.bind (VR := vA X.K T B σ) pp fun ds fr1 h1 w1 H1 vs e1 l1 r1 rs p1 => WN hn (hok _ _ _ _ r1.sub rs) r1 rs p1))
end
end Pk
namespace Pk
open PySem PySem.Spec L2
def M9 {α β : Type} (P : Wd → L2.St → Prop) (run : L2.St → Hp → (β → Hp → Prop) → Prop) (K : PySem.W.Frag) (T : Tb) (W : WX) (VR : iw β α) (m : M α) : Prop :=
 ∀ (B : Bs) (w : Wd) (σ : L2.St) (H : Hp) (fr : Fr) (h : Hh) (Q : β → Hp → Prop), P w σ → Rel K T B w σ H fr h → aJ K T B W (VR K T B σ) w σ (m fr h) Q → run σ H Q
def Q9 (P : Wd → L2.St → Prop) : Prop := ∀ w w' σ, w.le w' → P w σ → P w' σ
abbrev SqE (P : Wd → L2.St → Prop) (X : Cx) (T : Tb) (W : WX) (e : Expr) (m : M D) : Prop := M9 P (WE X e) X.K T W vE m
abbrev Cu (P : Wd → L2.St → Prop) (X : Cx) (T : Tb) (W : WX) (e : Expr) (m : M D) : Prop := M9 P (WE X e) X.K T W vV m
abbrev age (P : Wd → L2.St → Prop) (X : Cx) (T : Tb) (W : WX) (e : Expr) (m : M Bool) : Prop := M9 P (WT X e) X.K T W vB m
abbrev SqW (P : Wd → L2.St → Prop) (X : Cx) (T : Tb) (W : WX) (e : Expr) (m : M Bool) : Prop := M9 P (WW X e) X.K T W vB m
abbrev Zy (P : Wd → L2.St → Prop) (X : Cx) (T : Tb) (W : WX) (es : List Expr) (m : M (List D)) : Prop := M9 P (WA X es) X.K T W vA m
section
variable {P : Wd → L2.St → Prop} {X : Cx} {T : Tb} {W : WX} {a b c e : Expr} {es rest : List Expr} {m ma mb : M D} {n ta tb tc : M Bool} {ms : List (M D)} {pos : Pos}
theorem Yb {α β : Type} {run : L2.St → Hp → (β → Hp → Prop) → Prop} {K : PySem.W.Frag} {VR : iw β α} {m : M α} (s : gj run K T W VR m) : M9 P run K T W VR m := fun B w σ H fr h Q _ r p => s B w σ H fr h Q r p
theorem adh (s : Cu P X T W e m) : SqE P X T W e m := fun B w σ H fr h Q z r p => s B w σ H fr h Q z r (by
 cases q : m fr h with
 | ok d fr1 h1 => rw [q] at p; exact fun w1 H1 v x r1 z => p w1 H1 v x r1 (.inl z)
 | exc y fr1 h1 => rw [q] at p; exact p
 | err => rw [q] at p; exact p)
theorem abM {op : BoolOp} (s : Cu P X T W a ma) : Cu P X T W (.BoolOp op [a] pos) ma := fun B w σ H fr h Q z r1 p => cY (pe_one aV) (s B w σ H fr h Q z r1 p)
theorem abN (s : Cu P X T W a ma) : Cu P X T W (.UnaryOp .Not a pos) (xM ma) := fun B w σ H fr h Q z r1 p =>
 cY (pe_not aV) (s B w σ H fr h _ z r1 (aJ.bind (VR := vV X.K T B σ) p fun d fr1 h1 w1 H1 x e1 l1 r1 rx p1 => by
  cases q : d.tb with
  | none => rw [q] at p1; exact p1.elim
  | some c =>
    rw [q] at p1
    exact ⟨c, Gq (fr := fr1) (B := B) (σ := σ) (H := H1) (.inl rx) q, p1 w1 H1 _ (Wd.le_refl _) r1 (.bl _)⟩))
theorem abO (hP : Q9 P) (s : Cu P X T W a ma) (t : Cu P X T W (.BoolOp .And (b :: rest) pos) mb) : Cu P X T W (.BoolOp .And (a :: b :: rest) pos) (dU ma mb) := fun B w σ H fr h Q z r1 p =>
 cY (pe_and aV aV) (s B w σ H fr h _ z r1 (aJ.bind (VR := vV X.K T B σ) p fun d fr1 h1 w1 H1 x e1 l1 r1 rx p1 => by
  cases q : d.tb with
  | none => rw [q] at p1; exact p1.elim
  | some c =>
    rw [q] at p1
    refine ⟨c, Gq (fr := fr1) (B := B) (σ := σ) (H := H1) (.inl rx) q, ?_⟩
    cases c with
    | true => exact t B w1 σ H1 fr1 h1 Q (hP _ _ _ l1 z) r1 p1
    | false => exact p1 w1 H1 _ (Wd.le_refl _) r1 (.bl _)))
theorem abP : Zy P X T W [] (aj []) := Yb aH
theorem Ug (hP : Q9 P) (s : Cu P X T W e m) (t : Zy P X T W es (aj ms)) (hs : starEach (e :: es) X.env = (false, eval e X.env) :: starEach es X.env := by exact cJ rfl) : Zy P X T W (e :: es) (aj (m :: ms)) := fun B w σ H fr h Q z r1 p =>
 Kr (pa_cons aV vK hs) (s B w σ H fr h _ z r1 (aJ.bind (VR := vV X.K T B σ) p fun d fr1 h1 w1 H1 x e1 l1 r1 rx p1 =>
  t B w1 σ H1 fr1 h1 _ (hP _ _ _ l1 z) r1 (aJ.bind (VR := vA X.K T B σ) p1 fun ds fr2 h2 w2 H2 vs e2 l2 r2 rs p2 => p2 w2 H2 _ (Wd.le_refl _) r2 (.cons (rx.mono l2) rs))))
theorem abQ {x1 : Nat} (s : Zy P X T W es (aj ms)) : Cu P X T W (.Tuple es x1 pos) (gA ms) := fun B w σ H fr h Q z r1 p =>
 cY (pe_tup vK) (s B w σ H fr h _ z r1 (aJ.bind (VR := vA X.K T B σ) p fun ds fr1 h1 w1 H1 vs e1 l1 r1 rs p1 => by
  by_cases hl : ds.length ≤ big
  · rw [if_pos hl] at p1
    exact ⟨by rw [az.length rs]; exact lK hl, fun q nq => wN r1 rs nq p1⟩
  · rw [if_neg hl] at p1
    exact p1.elim))
end
def vZ (P : Wd → L2.St → Prop) (K : PySem.W.Frag) (T : Tb) (B : Bs) (W : WX) (w : Wd) (r : R Fl) (D : Ends) : Prop :=
 match r with
 | .ok .nx fr h => ∀ w' σ' H', w.le w' → P w' σ' → Rel K T B w' σ' H' fr h → D.nx σ' H'
 | r => cC K T B W w r D
def SqS (P : Wd → L2.St → Prop) (X : Cx) (T : Tb) (W : WX) (st : Stmt) (m : M Fl) : Prop := ∀ (B : Bs) (w : Wd) (σ : L2.St) (H : Hp) (fr : Fr) (h : Hh) (D : Ends), P w σ → Rel X.K T B w σ H fr h → vZ P X.K T B W w (m fr h) D → WS X st D σ H
def Nb (P : Wd → L2.St → Prop) (X : Cx) (T : Tb) (W : WX) (sts : List Stmt) (m : M Fl) : Prop := ∀ (B : Bs) (w : Wd) (σ : L2.St) (H : Hp) (fr : Fr) (h : Hh) (D : Ends), P w σ → Rel X.K T B w σ H fr h → vZ P X.K T B W w (m fr h) D → Jm X sts D σ H
section
variable {P : Wd → L2.St → Prop} {K : PySem.W.Frag} {T : Tb} {B : Bs} {W : WX} {w w' : Wd} {σ : L2.St} {H : Hp}
theorem vZ.of {r : R Fl} {D : Ends} (p : cC K T B W w r D) : vZ P K T B W w r D := by
 cases r with
 | ok f fr h =>
   cases f with
   | nx => exact fun w' σ' H' l _ r => p w' σ' H' l r
   | _ => exact p
 | exc e fr h => exact p
 | err => exact p
theorem vZ.le {r : R Fl} {D : Ends} (x : w.le w') (p : vZ P K T B W w r D) : vZ P K T B W w' r D := by
 cases r with
 | ok f fr h =>
   cases f with
   | nx => exact fun w2 σ2 H2 y => p w2 σ2 H2 (Wd.le_trans x y)
   | brk => exact cC.le x (show cC K T B W w (.ok .brk fr h) D from p)
   | ct => exact cC.le x (show cC K T B W w (.ok .ct fr h) D from p)
   | rt d => exact cC.le x (show cC K T B W w (.ok (.rt d) fr h) D from p)
 | exc e fr h => exact cC.le (D := D) (r := .exc e fr h) x p
 | err => exact p
theorem vZ.bind {α β : Type} {VR : Wd → Hp → Fr → β → α → Prop} {m : M α} {f : α → M Fl} {fr : Fr} {h : Hh} {D : Ends} {Q : β → Hp → Prop} (p : vZ P K T B W w (m.bind f fr h) D)
 (k : ∀ d fr1 h1 w1 H1 v, m fr h = .ok d fr1 h1 → w.le w1 → Rel K T B w1 σ H1 fr1 h1 → VR w1 H1 fr1 v d → vZ P K T B W w1 (f d fr1 h1) D → Q v H1) : aJ K T B W VR w σ (m fr h) Q := by
 cases e : m fr h with
 | ok d fr1 h1 =>
   rw [M.bind_ok e] at p
   exact fun w1 H1 v x r z => k d fr1 h1 w1 H1 v e x r z (p.le x)
 | exc y fr1 h1 =>
   rw [M.bind_exc e] at p
   exact fun w1 H1 c dd x r z => p w1 σ H1 c dd x r z
 | err =>
   rw [M.bind_err e] at p
   exact p.elim
end
section
variable {P : Wd → L2.St → Prop} {X : Cx} {T : Tb} {W : WX} {k : Nat} {pos pos' p2 : Pos} {e a b c : Expr} {st : Stmt} {sts as bs : List Stmt} {m : M D} {s n : M Fl} {t : M Bool}
theorem aas (s1 : SqS P X T W st s) : Nb P X T W [st] s := fun B w σ H fr h D z R p => HY (pss_one Qt) (s1 B w σ H fr h D z R p)
theorem abR {N : List Str} (hP : Q9 P) (nd : N.Nodup) (i : Nat) {x : Str} (hS : ∀ w σ v, P w σ → P w (σ.set i v)) (s : SqE P X T W e m) (hs : swapsWith e (some (.Name x pos')) pos.line X.env = pure false := by rfl) (hi : X.N[i]? = some x := by rfl) (hx : Loc X.env.scope x := by first | exact Or.inl rfl | exact Or.inr rfl)
 (hf : X.fn x = true ∨ X.env.scope.names.lookup x = some .local := by first | exact .inl rfl | exact .inr rfl) (h0 : i ≠ 0 := by decide) (hN : X.N = N := by rfl) : SqS P X T W (.Assign [.Name x pos'] e pos) (bh i m) := fun B w σ H fr h D z R p =>
 oZ (ps_set (by rw [hN]; exact nd) hi hx aV hs hf) (s B w σ H fr h _ z R (vZ.bind (VR := vE X.K T B σ) p fun d fr1 h1 w1 H1 v e1 l1 r1 rx p1 => p1 w1 _ H1 (Wd.le_refl _) (hS _ _ _ (hP _ _ _ l1 z)) (r1.put i h0 rx)))
end
def PX (K : PySem.W.Frag) (T : Tb) (i : Nat) (a : Addr) (x : aW) (cls : Value) (dd : Option Addr) : Wd → L2.St → Prop := fun w σ => σ[i]? = some (some (.ref a)) ∧ JB K T w x cls dd
theorem JB.mono {K : PySem.W.Frag} {T : Tb} {w w' : Wd} {x : aW} {cls : Value} {dd : Option Addr} (l : w.le w') (h : JB K T w x cls dd) : JB K T w' x cls dd :=
 ⟨h.1, h.2.imp id fun ⟨d, vs, e1, e2, e3⟩ => ⟨d, vs, e1, l.1 _ _ e2, e3.mono l⟩⟩
section
variable {K : PySem.W.Frag} {T : Tb} {i j : Nat} {a : Addr} {x : aW} {cls : Value} {dd : Option Addr}
theorem abS : Q9 (PX K T i a x cls dd) := fun _ _ _ l h => ⟨h.1, h.2.mono l⟩
theorem abT (h : j ≠ i := by decide) : ∀ w σ v, PX K T i a x cls dd w σ → PX K T i a x cls dd w (σ.set j v) := fun w σ v h' => ⟨by rw [ahs h]; exact h'.1, h'.2⟩
end
structure Su (X : Cx) (T : Tb) (i : Nat) (a : Addr) (oe : Obj) (cls : Value) (dd : Option Addr) (pn : List (Addr × Obj)) (y : aW) : Prop where
 hz : Zc cls dd oe
 hf : ∃ vs, oe.data = .fields vs
theorem Su.mon {X : Cx} {T : Tb} {i : Nat} {a : Addr} {oe : Obj} {cls : Value} {dd : Option Addr} {pn : List (Addr × Obj)} {y : aW} (_ : Su X T i a oe cls dd pn y) : Q9 (PX X.K T i a y cls dd) := abS
theorem Su.st {X : Cx} {T : Tb} {i j : Nat} {a : Addr} {oe : Obj} {cls : Value} {dd : Option Addr} {pn : List (Addr × Obj)} {y : aW} (_ : Su X T i a oe cls dd pn y) (h : j ≠ i := by decide) : ∀ w σ v, PX X.K T i a y cls dd w σ → PX X.K T i a y cls dd w (σ.set j v) := abT h
structure Vw (K : PySem.W.Frag) (T : Tb) (tab : Tg → Tg → Option Bool) : Prop where
 kit : ∀ t u b, tab t u = some b → PySem.W.kitOne K (t.v T) (u.v T) = some b
 exc : ∀ c u b, tab (.o c) u = some b → L2.ExcC K (T.cad c)
theorem WP {K : PySem.W.Frag} {T : Tb} {tab : Tg → Tg → Option Bool} {t : Tg} {bb : Bool} (F : Vw K T tab) : ∀ {us : List Tg}, vX tab t us = some bb → PySem.W.kitAny K (t.v T) (us.map (Tg.v T)) = some bb
 | [], e => by cases e; exact kitAny_nil
 | u :: us, e => by
   unfold vX at e
   cases et : tab t u with
   | none => rw [et] at e; cases e
   | some b1 =>
     rw [et] at e
     cases b1 with
     | false => exact kitAny_cons (F.kit t u false et) (fun _ => WP F e) (fun z => by cases z)
     | true =>
       cases e
       exact kitAny_cons (F.kit t u true et) (fun z => by cases z) (fun _ => rfl)
def JL (tab : Tg → Tg → Option Bool) (c : Nat) (d : D) : Option Bool := match d with
 | .tup l => match Ah l with
   | some (u :: us) => vX tab (.o c) (u :: us)
   | _ => none
 | d => match d.ctag with
   | some u => tab (.o c) u
   | none => none
def G3 (tab : Tg → Tg → Option Bool) (c : Nat) (mb : M D) : M D := mb.bind fun d => M.opt ((JL tab c d).map .bl)
def DkX (H : Hp) (dd : Option Addr) : Prop := dd = none ∨ ∃ d0 fs, dd = some d0 ∧ H d0 = some (.xd fs)
def Yc (K : PySem.W.Frag) (C a : Addr) (dd : Option Addr) : List V → Hp → VK → Prop := fun xs H Q => ∃ (y : V) (b : Bool), xs = [.ref a, y] ∧ L2.ExcC K C ∧ DkX H dd ∧
 ((∃ cv, ClsV y cv ∧ PySem.W.kitOne K (.ref C) cv = some b) ∨ ∃ tp cs us, y = .ref tp ∧ L2.SqT K H tp cs ∧ Paired ClsV cs us ∧ PySem.W.kitAny K (.ref C) us = some b) ∧ Q (.bl b) H
theorem Yd {X : Cx} {a C : Addr} {dd : Option Addr} {oe : Obj} {pn : List (Addr × Obj)} (hz : Zc (.ref C) dd oe) (hf : ∃ vs, oe.data = .fields vs) : CallR (X.suite a ((a, oe) :: pn)) (.builtin "isinstance") (Yc X.K C a dd) := by
 intro pins s σ H xs us Q I r h
 obtain ⟨y, b, rfl, F, dk, ans, q⟩ := h
 obtain ⟨u1, u2, rfl, r1, r2⟩ := vals2 r
 cases (show u1 = Value.ref a from r1)
 obtain ⟨Ot, _⟩ := I.pin (a, oe) (List.mem_append.mpr (.inl aht))
 obtain ⟨vs, hv⟩ := hf
 have J : ∃ od, PySem.W.InstAt s.heap a oe C od := by
  obtain ⟨oc, oda, odt, osl⟩ := oe
  obtain ⟨h1, h2⟩ := hz
  dsimp only at h1 h2 hv
  subst h1 h2 hv
  rcases dk with rfl | ⟨d0, fs, rfl, e⟩
  · exact ⟨none, Ot, rfl, rfl, trivial⟩
  · have hx : ObjOk X.prog X.w H s.heap d0 (.xd fs) := I.hok d0 _ e
    obtain ⟨mA, hns, hr⟩ := hx
    obtain ⟨od, ho, hl⟩ := lookIn_ns hns
    exact ⟨some od, Ot, rfl, rfl, ho⟩
 obtain ⟨od, J⟩ := J
 have hcl : (PySem.W.clsIn X.K C).isSome = true := by
  have z := F.hd
  unfold PySem.W.hasDictIn at z
  cases e : PySem.W.clsIn X.K C with
  | none => rw [e] at z; cases z
  | some cd => rfl
 have Z := PySem.W.kitx_exc (x := a) (ox := oe) (od := od) hcl F.hg F.hk F.hs F.ha F.hn F.ht F.hm
 rcases ans with ⟨cv, k, e⟩ | ⟨tp, cs, ws, rfl, hT, k, e⟩
 · cases (k.eq r2)
   exact PySem.W.kia_one Z I.kIn J e (fun z => nomatch z) fun tk => ⟨.bl b, H, I.tok tk, rfl, q⟩
 · cases (show u2 = Value.ref tp from r2)
   obtain ⟨its, rv, pl, _⟩ := I.tuple hT
   obtain ⟨o, h1, h2, n, h3⟩ := pl
   have e3 := ClsV.all k rv
   subst e3
   obtain ⟨oc, od2, dt, sl⟩ := o
   simp only at h2 h3
   subst h2 h3
   exact PySem.W.kia_tup Z I.kIn J h1 e (fun z => nomatch z) fun tk => ⟨.bl b, H, I.tok tk, rfl, q⟩
section
variable {X : Cx} {T : Tb} {W : WX} {k i : Nat} {a : Addr} {oe : Obj} {cls : Value} {dd : Option Addr} {x : aW} {pn : List (Addr × Obj)} {tab : Tg → Tg → Option Bool} {b : Expr} {mb : M D} {n : Str} {np pf pos : Pos}
theorem abU {K : PySem.W.Frag} {B : Bs} {w : Wd} {σ : L2.St} {H : Hp} {fr : Fr} {h : Hh} (R : Rel K T B w σ H fr h) (e : JB K T w x cls dd) : DkX H dd := by
 rcases e.2 with ⟨_, e⟩ | ⟨d, vs, e1, e2, _⟩
 · exact .inl e
 · exact .inr ⟨d, _, e1, R.sub _ _ e2⟩
theorem WQ (S : Su X T i a oe cls dd pn x) (F : Vw X.K T tab) (sb : Cu (PX X.K T i a x cls dd) (X.suite a ((a, oe) :: pn)) T W b mb) (hm : X.mg "isinstance" = none) (hi : X.N[i]? = some n := by rfl) (hv : Vis X.env.scope n := by first | exact Or.inl rfl | exact Or.inr (Or.inl rfl) | exact Or.inr (Or.inr rfl)) (hg : Gl X "isinstance" := by rfl)
 (hd : (n == ("__debug__" : Str)) = false := by decide) (hcd : (n == ("__classdict__" : Str)) = false := by decide)
 (he : starEach (.Name n np :: b :: []) X.env = (false, eval (.Name n np) X.env) :: starEach (b :: []) X.env := by exact cJ rfl) (he2 : starEach (b :: []) X.env = (false, eval b X.env) :: starEach [] X.env := by exact cJ rfl) (hpl : (backTo pos (starEach (b :: []) X.env)).any (·.1) = false := by rfl) :
 Cu (PX X.K T i a x cls dd) (X.suite a ((a, oe) :: pn)) T W (.Call (.Name "isinstance" pf) [.Name n np, b] [] pos) (G3 tab x.c mb) := fun B w σ H fr h Q z R p => by
 have ec : cls = .ref (T.cad x.c) := z.2.1
 subst ec
 refine cY (pe_callB (X := X.suite a ((a, oe) :: pn)) (Yd S.hz S.hf) hg hm (by decide +kernel) (pa_cons (pe_var hi hv hd hcd) (pa_cons aV pa_nil he2) he) (by decide) (by decide) he hpl) ⟨.ref a, z.1, ?_⟩
 refine sb B w σ H fr h _ z R (aJ.bind (VR := vV X.K T B σ) p fun d fr1 h1 w1 H1 y e1 l1 r1 ry p1 => ?_)
 have ry : bD X.K T w1 y d := ry
 cases eb : JL tab x.c d with
 | none => rw [eb] at p1; exact p1.elim
 | some bb =>
   rw [eb] at p1
   have fin : Q (.bl bb) H1 := p1 w1 H1 _ (Wd.le_refl _) r1 (.bl bb)
   have dk := abU r1 (z.2.mono l1)
   have one : ∀ u, d.ctag = some u → tab (.o x.c) u = some bb → Yc X.K (T.cad x.c) a dd [.ref a, y] H1 Q := fun u ec et => ⟨y, bb, rfl, F.exc _ _ _ et, dk, .inl ⟨_, Eb ry ec, F.kit _ _ _ et⟩, fin⟩
   show Yc X.K (T.cad x.c) a dd [.ref a, y] H1 Q
   unfold JL at eb
   split at eb
   · rename_i l
     split at eb
     · rename_i u us ec
       obtain ⟨p', vs, rfl, sq, rs⟩ := vC ry
       have ex : L2.ExcC X.K (T.cad x.c) := by
        rcases Bf eb with q | ⟨u', b', q⟩
        · cases q
        · exact F.exc _ _ _ q
       exact ⟨_, bb, rfl, ex, dk, .inr ⟨p', vs, _, rfl, eG r1.sub sq, Ai rs ec, WP F eb⟩, fin⟩
     · cases eb
   · split at eb
     · rename_i u ec
       exact one u ec eb
     · cases eb
def WR (j : Nat) (x : aW) : M D := fun fr h => match x.fs[j]? with
 | some d => .ok d fr h
 | none => .err
structure XfF (K : PySem.W.Frag) (T : Tb) (f : Str) (ix : Nat → Option Nat) : Prop where
 at_ : ∀ c j, ix c = some j → (T.fld c)[j]? = some f ∧ (T.fld c).Nodup ∧ XfC K (T.cad c) ∧ PySem.W.findIn K (.ref (T.cad c)) f = some none
def Ra (ix : Nat → Option Nat) (x : aW) : M D := match ix x.c with
 | some j => WR j x
 | none => fun _ _ => .err
theorem adi {f : Str} {ix : Nat → Option Nat} (S : Su X T i a oe cls dd pn x) (F : XfF X.K T f ix) (hi : X.N[i]? = some n := by rfl) (hv : Vis X.env.scope n := by first | exact Or.inl rfl | exact Or.inr (Or.inl rfl) | exact Or.inr (Or.inr rfl))
 (hd : (n == ("__debug__" : Str)) = false := by decide) (hcd : (n == ("__classdict__" : Str)) = false := by decide) (hb : attributeBase (.Name n np) f X.env (eval (.Name n np) X.env) = eval (.Name n np) X.env := by rfl) :
 Cu (PX X.K T i a x cls dd) (X.suite a ((a, oe) :: pn)) T W (.Attribute (.Name n np) f pos) (Ra ix x) := fun B w σ H fr h Q z R p => by
 have ec : cls = .ref (T.cad x.c) := z.2.1
 subst ec
 unfold Ra at p
 cases ej : ix x.c with
 | none => rw [ej] at p; exact p.elim
 | some j =>
   rw [ej] at p
   have p : aJ X.K T B W (vV X.K T B σ) w σ (WR j x fr h) Q := p
   obtain ⟨a1, a2, a3, a4⟩ := F.at_ _ _ ej
   unfold WR at p
   cases ed : x.fs[j]? with
   | none => rw [ed] at p; exact p.elim
   | some d =>
     rw [ed] at p
     rcases z.2.2 with ⟨e, _⟩ | ⟨d0, vs, e1, e2, e3⟩
     · rw [e] at ed
       simp at ed
     · obtain ⟨v, hv1, hv2⟩ := e3.get ed
       exact cY (pe_xf a3 a4 S.hz S.hf (pe_var (X := X.suite a ((a, oe) :: pn)) hi hv hd hcd) hb) ⟨.ref a, z.1, rfl, rfl, d0, _, v, e1, R.sub _ _ e2, PySem.ExS.zip_get a2 a1 hv1, p w H v (Wd.le_refl _) R hv2⟩
end
def Vx (i : Nat) (r : R Fl) : R Fl := match r with
 | .ok .nx fr h => .ok .nx (fr.set i none) h
 | .ok .brk fr h => .ok .brk (fr.set i none) h
 | .ok .ct fr h => .ok .ct (fr.set i none) h
 | r => r
def Ed (i : Nat) (cond : Nat → Option Bool) (mb : M Fl) (ms : aW → M Fl) : M Fl := fun fr h => match mb fr h with
 | .exc x fr1 h1 => match cond x.c with
   | some true => if i < fr1.length then Vx i (ms x (fr1.set i none) h1) else .err
   | some false => .exc x fr1 h1
   | none => .err
 | r => r
def aft (cond : Nat → Option Bool) (mb : M Fl) (ms : aW → M Fl) : M Fl := fun fr h => match mb fr h with
 | .exc x fr1 h1 => match cond x.c with
   | some true => ms x fr1 h1
   | some false => .exc x fr1 h1
   | none => .err
 | r => r
section
variable {X : Cx} {T : Tb} {W : WX} {k : Nat} {x n : Str} {c : Value} {cond : Nat → Option Bool} {body suite : List Stmt} {b₀ : Stmt} {np pos pos' : Pos} {mb : M Fl} {ms : aW → M Fl}
theorem abV (C : Cq X T W k) (i : Nat) (hs : X.stack = X.env :: X.outer) (hf : X.env.frame = some X.env.locals) (hi : X.N[i]? = some n) (hln : X.env.kindOf n = some .local) (hc : Names X x c) (hcond : ∀ cc b, cond cc = some b → PySem.W.exmOne X.K (.ref (T.cad cc)) c = some b)
 (hb : ∀ (W' : WX) (pn : List (Addr × Obj)) (xe : Value → Shared → Prop), Cq (X.tr pn xe) T W' k → uX (X.tr pn xe) T W' body mb)
 (hsu : ∀ (a : Addr) (oe : Obj) (cls : Value) (d : Option Addr) (pn : List (Addr × Obj)) (y : aW), Su X T i a oe cls d pn y → Nb (PX X.K T i a y cls d) (X.suite a ((a, oe) :: pn)) T W (b₀ :: suite) (ms y)) :
 qu X T W (.Try body [.ExceptHandler (some (.Name x np)) (some n) (b₀ :: suite) pos'] [] [] pos) (Ed i cond mb ms) := fun B w σ H fr h D R p => by
 refine oZ (ps_try_as (tb := fun W' D σ H => ∀ pn xe, Takes (X.tr pn xe) W' → PassesOwn (model X.prog X.w) X.A X.env xe → Jm (X.tr pn xe) body D σ H)
  (ts := fun a cls d D σ H => ∀ oe pn, Zc cls d oe → (∃ vs, oe.data = .fields vs) → Jm (X.suite a ((a, oe) :: pn)) (b₀ :: suite) D σ H) (Wout := W) hs hf C.nd hi hln hc C.takes
  (fun W' pn xe tk po => ⟨fun pins s σ H D I hh => (hh pn xe tk po).go pins s I⟩) (fun a oe cls d pn hz hd => ⟨fun pins s σ H D I hh => (hh oe pn hz hd).go pins s I⟩)) ?_
 refine fun pn xe tk po => hb _ pn xe ⟨C.calm, C.nd, C.room, tk, po⟩ B w σ H fr h D R ?_
 unfold Ed at p
 cases e : mb fr h with
 | err => rw [e] at p; exact p
 | ok f fr1 h1 =>
   rw [e] at p
   cases f <;> exact p
 | exc y fr1 h1 =>
   rw [e] at p
   dsimp only at p
   intro w1 σ1 H1 cls dd l1 r1 ex
   cases ec : cond y.c with
   | none => rw [ec] at p; exact p.elim
   | some bb =>
     rw [ec] at p
     refine ⟨bb, by rw [ex.1]; exact hcond _ _ ec, fun eb a na oe pn' hz hd => ?_, fun eb => ?_⟩
     · subst eb
       dsimp only at p
       by_cases hl : i < fr1.length
       · rw [if_pos hl] at p
         have hl2 : i < σ1.length := by rw [← r1.fl]; exact hl
         refine hsu a oe cls dd pn' y ⟨hz, hd⟩ B w1 (σ1.set i (some (.ref a))) H1 (fr1.set i none) h1 _ ⟨by rw [ahp hl2], ex⟩ (r1.set_slot .none (fun _ _ _ q => by cases q) fun _ _ q => by cases q) ?_
         have p2 : cC X.K T B W w1 (Vx i (ms y (fr1.set i none) h1)) D := cC.le l1 p
         cases e2 : ms y (fr1.set i none) h1 with
         | err => rw [e2] at p2; exact p2
         | exc y2 fr2 h2 => rw [e2] at p2; exact p2
         | ok f fr2 h2 =>
           rw [e2] at p2
           cases f with
           | nx => exact fun w2 σ2 H2 l2 _ r2 => p2 w2 _ H2 l2 (r2.set_slot .none (fun _ _ _ q => by cases q) fun _ _ q => by cases q)
           | brk => exact fun w2 σ2 H2 l2 r2 => p2 w2 _ H2 l2 (r2.set_slot .none (fun _ _ _ q => by cases q) fun _ _ q => by cases q)
           | ct => exact fun w2 σ2 H2 l2 r2 => p2 w2 _ H2 l2 (r2.set_slot .none (fun _ _ _ q => by cases q) fun _ _ q => by cases q)
           | rt d => exact p2
       · rw [if_neg hl] at p
         exact p.elim
     · subst eb
       exact p w1 σ1 H1 cls dd l1 r1 ex
end
end Pk
namespace PySem
namespace OwO
open PySem.W PySem.Calls PyProof.Rows
section
variable {prog : Program} {w : World} {A : Around} {E : Value → Shared → Prop} {s : Shared} {K : Frag} {x C L f : Addr} {h₀ : Heap} {m : Str → Option Value} {ox : Obj} {od : Option Obj} {t : String} {b : Value} {op : Operator} {Q : Value → Shared → Prop}
def agf (Q : Option Value → Shared → Prop) (v : Value) (s : Shared) : Prop := v ≠ .notImplemented ∧ Q (some v) s
end
section
variable {prog : Program} {w : World} {A : Around} {E : Value → Shared → Prop} {s : Shared} {x C dx : Addr}
end
end OwO
end PySem
namespace Pk
open PySem PySem.Spec L2
structure agg (X : Cx) (T : Tb) (k : Nat) (mt : Nat → Option Fn) : Prop where
 ex : ∀ c F, mt c = some F → ∃ (kk : Nat) (f : Addr) (fd : FuncData) (ps : List Str), Cls X.K (T.cad c) ∧ Meth X.K (T.cad c) (PySem.dunder "mul") f ∧ PySem.W.selfFirst X.K (T.cad c) = true ∧ jM X.prog X.w X.K X.mg X.base T kk f fd ps F ∧ Bn X.K T fd ps 2 [] (aq []) ∧ kk ≤ k ∧
  ∃ g, PySem.W.findIn X.K (.ref (T.cad c)) (PySem.dunderR "mul") = some (some (.ref g))
structure afu (X : Cx) (T : Tb) (k : Nat) (mt : Nat → Option Fn) : Prop where
 ex : ∀ c F, mt c = some F → ∃ (kk : Nat) (f : Addr) (fd : FuncData) (ps : List Str), Cls X.K (T.cad c) ∧ Meth X.K (T.cad c) (PySem.dunderR "mul") f ∧ PySem.W.selfFirst X.K (T.cad c) = true ∧ jM X.prog X.w X.K X.mg X.base T kk f fd ps F ∧ Bn X.K T fd ps 2 [] (aq []) ∧ kk ≤ k ∧
  (∃ g, PySem.W.findIn X.K (.ref (T.cad c)) (PySem.dunder "mul") = some (some (.ref g))) ∧ PySem.W.subIn X.K (.ref (T.cad c)) (.type "int") = some false ∧ PySem.W.subIn X.K (.ref (T.cad c)) (.type "bool") = some false
def D.bty (h : Hh) (d : D) : Option String := match d.tag h with
 | some (.b t) => some t
 | _ => none
def afv (mt : Nat → Option Fn) (ma mb : M D) : M D := ma.bind fun x => mb.bind fun y fr h => match fnOf mt h x, y.bty h with
 | some F, some _ => bu fr (F [x, y] h)
 | _, _ => .err
def D.smp : D → Bool
 | .non => true
 | .bl _ => true
 | .int _ => true
 | _ => false
def afw (mt : Nat → Option Fn) (ma mb : M D) : M D := ma.bind fun x => mb.bind fun y fr h => match fnOf mt h y, x.smp with
 | some F, true => bu fr (F [y, x] h)
 | _, _ => .err
section
variable {X : Cx} {T : Tb} {W : WX} {k : Nat} {a b : Expr} {ma mb : M D} {pos : Pos}
theorem aat {K : PySem.W.Frag} {B : Bs} {w : Wd} {σ : L2.St} {H : Hp} {fr : Fr} {h : Hh} {v : V} {d : D} {t : String} (R : Rel K T B w σ H fr h) (rv : bD K T w v d) (e : d.bty h = some t) : TyX K H v (.type t) ∧ t ∈ ym := by
 unfold D.bty at e
 split at e
 · rename_i t' et
   cases e
   have mem : t ∈ ym := by
    unfold D.tag at et
    split at et <;> first | (cases et; decide) | cases et
   have e2 : Vu [] (.b t) (.b t) = some true := by
    have : ∀ t ∈ ym, Vu [] (.b t) (.b t) = some true := by decide +kernel
    exact this t mem
   exact ⟨Cm (u := .b t) (bb := true) (WD (K := K) (T := T) (l := []) .nil) R (.inl rv) et e2, mem⟩
 · cases e
end
end Pk
namespace Pk
open PySem PySem.Spec L2
def Vy (l : List ((Tg × Tg) × Bool)) : Tg → Tg → Option Bool := fun t u => ahm (t, u) l
inductive Io (K : PySem.W.Frag) (T : Tb) : List ((Tg × Tg) × Bool) → Prop where
 | nil : Io K T []
 | cons {c : Nat} {u : Tg} {b : Bool} {l : List ((Tg × Tg) × Bool)} (q : PySem.W.kitOne K (.ref (T.cad c)) (u.v T) = some b) (i : L2.ExcC K (T.cad c)) (r : Io K T l) : Io K T (((.o c, u), b) :: l)
theorem JM {K : PySem.W.Frag} {T : Tb} : ∀ {l : List ((Tg × Tg) × Bool)}, Io K T l → ∀ t u b, Vy l t u = some b → ∃ c, t = .o c ∧ PySem.W.kitOne K (.ref (T.cad c)) (u.v T) = some b ∧ L2.ExcC K (T.cad c)
 | _, .nil, _, _, _, e => by cases e
 | _, @Io.cons _ _ c u' r l q i rr, t, u, b, e => by
   unfold Vy at e
   rw [List.lookup_cons] at e
   cases h : (t, u) == (Tg.o c, u') with
   | true =>
     rw [h] at e
     cases e
     cases beq_iff_eq.mp h
     exact ⟨c, rfl, q, i⟩
   | false =>
     rw [h] at e
     exact JM rr t u b e
theorem abW {K : PySem.W.Frag} {T : Tb} {l : List ((Tg × Tg) × Bool)} (h : Io K T l) : Vw K T (Vy l) :=
 ⟨fun t u b e => by
  obtain ⟨c, rfl, q, _⟩ := JM h t u b e
  exact q, fun c u b e => by
  obtain ⟨c', e', _, i⟩ := JM h _ u b e
  cases e'
  exact i⟩
theorem WY {K : PySem.W.Frag} {cn : Nat → Str} {x file f : Str} {fs : List Str} (own : (Fx.own x file fs).ok cn K = true) (hf : f ∈ fs) : XfC K (He.ga K x) ∧ PySem.W.findIn K (.ref (He.ga K x)) f = some none := by
 obtain ⟨o1, q⟩ := He.ba (show X4 K (He.ga K x) (He.ma K (He.ga K x) "__init__") file fs = true from own)
 obtain ⟨o2, q⟩ := He.ba q
 obtain ⟨o3, q⟩ := He.ba q
 obtain ⟨o4, q⟩ := He.ba q
 obtain ⟨o5, q⟩ := He.ba q
 obtain ⟨o6, q⟩ := He.ba q
 obtain ⟨o7, q⟩ := He.ba q
 obtain ⟨o8, q⟩ := He.ba q
 obtain ⟨o9, q⟩ := He.ba q
 obtain ⟨o10, q⟩ := He.ba q
 obtain ⟨o11, q⟩ := He.ba q
 obtain ⟨o12, q⟩ := He.ba q
 obtain ⟨o13, q⟩ := He.ba q
 obtain ⟨o14, o15⟩ := He.ba q
 exact ⟨⟨He.eqO_ok o13, He.eqO_ok o14, of_decide_eq_true o11, o15⟩, He.eqO_ok (List.all_eq_true.mp o9 f hf)⟩
end Pk
namespace Pk
open PySem PySem.Spec L2
def rR (mt : Nat → Option Fn) (o : D) (as : List D) : M D := fun fr h => match fnOf mt h o with
 | some F => match F (o :: as) h with
   | .ok d _ h => .ok d fr h
   | _ => .err
 | none => .err
def Eh (mt : Nat → Option Fn) (o : D) (as : List D) : M D := fun fr h => match fnOf mt h o with
 | some F => bu fr (F (o :: as) h)
 | none => .err
theorem aau {K : PySem.W.Frag} {f : Addr} (h1 : PySem.W.isFn K (.ref f) = true) (h2 : PySem.W.keepIn K (.ref f) = true) : PySem.W.fnIn K f = true := by
 have h1' : PySem.W.typeIn K (.ref f) = some (.type "function") := beq_iff_eq.mp h1
 unfold PySem.W.fnIn
 unfold PySem.W.keepIn at h2
 dsimp only at h2
 have sp : PySem.W.specialIn K (.ref f) "__call__" = PySem.W.findIn K (.type "function") "__call__" := by
  unfold PySem.W.specialIn
  rw [h1']
  rfl
 have no : (PySem.W.findIn K (.type "function") "__call__" == some (some (.builtin "type.__call__"))) = false := by kernel_rfl
 cases e : K.lookup f with
 | none => rw [e] at h2; cases h2
 | some o =>
   obtain ⟨c, d, dt, sl⟩ := o
   rw [e] at h2
   cases dt with
   | func fd => rfl
   | cls cd =>
     dsimp only at h2
     rw [sp, no] at h2
     cases h2
   | _ => cases h2
section
variable {X : Cx} {T : Tb} {W : WX} {k kk j n : Nat} {f C : Addr} {fd : FuncData} {ps ks : List Str} {F : Fn} {m : Str} {pos pf : Pos} {a b : Expr} {ma mb : M D}
theorem Cv {A : Around} {pins : List (Addr × Obj)} {σ : L2.St} {H : Hp} {s : Shared} {Q : VK} {us : List Value} {vs : List V} {g : List Value → List Value → List Value} {gV : List V → List V → List V} {sp : Sp} {E : XK} (F : FnOk X.prog X.w X.K X.mg X.base (L2.CX X.prog X.w) kk f fd ps sp) (hr : Room kk A) (e0 : Env0 X.prog X.w X.K X.mg X.base A X.stack s H) (hb : KBn X.K fd ps n [] g gV)
 (hx : ∀ e s', L2.CX X.prog X.w X.stack H s E e s' → X.xe e s') (I : Inv X pins σ H s) (r : Vals vs us) (l1 : vs.length = n) (h : sp (gV vs []) H Q E) : wpAny (model X.prog X.w) A (call (.ref f) us) (EP X pins σ Q) X.xe s := by
 have r2 := hb.rel r (.nil : Vals [] [])
 refine wpAny_call (codeAny_mono (F.run A X.stack s H ⟨us, []⟩ (g us []) (gV vs []) Q _ hr e0 (hb.to s us [] I.kIn (r.length.symm.trans l1) rfl) r2 h) fun r s' hq => ?_)
 cases r with
 | error e => exact hx e s' hq
 | ok fl =>
   cases fl with
   | ret u => exact I.after hq
   | next => exact False.elim hq
   | brk => exact False.elim hq
   | cont => exact False.elim hq
theorem Cy {H : Hp} {s : Shared} (e : Value) (s' : Shared) : L2.CX X.prog X.w X.stack H s (fun _ _ _ => False) e s' → X.xe e s' := fun c => by
 obtain ⟨a, B, H', cls, d, rfl, fl, hok, ub, na, os, ag, hE⟩ := c
 exact hE.elim
structure OwnRun (X : Cx) (T : Tb) (k n : Nat) (m : Str) (v : V) (H : Hp) (vs : List V) (Q : VK) (E : XK) : Prop where
 ex : ∃ (kk : Nat) (f : Addr) (fd : FuncData) (ps : List Str) (a C dx : Addr) (fs : List (Str × V)) (G : Fn), v = .ref a ∧ H a = some (.ins C dx fs) ∧ Cls X.K C ∧ Meth X.K C m f ∧ jM X.prog X.w X.K X.mg X.base T kk f fd ps G ∧ kk ≤ k ∧
  ∃ g gV, KBn X.K fd ps (n + 1) [] g gV ∧ spF X.K T ps.length G (gV (.ref a :: vs) []) H Q E
theorem Uh {mt : Nat → Option Fn} {B : Bs} {w : Wd} {σ : L2.St} {H : Hp} {fr : Fr} {h : Hh} {v : V} {d : D} {vs : List V} {as : List D} {Q : VK} (Mf : ph X T j m mt n [] (aq [])) (R : Rel X.K T B w σ H fr h) (rv : bD X.K T w v d) (rs : az X.K T w vs as) (hl : as.length = n)
 (p : aJ X.K T B W (vE X.K T B σ) w σ (Eh mt d as fr h) Q) : OwnRun X T j n m v H vs Q (fun c d H' => W c d σ H') := by
 unfold Eh at p
 cases ef : fnOf mt h d with
 | none => rw [ef] at p; exact p.elim
 | some G =>
   rw [ef] at p
   obtain ⟨kk, f, fd, ps, a, Cl, dx, fs, rfl, eH, l, c1, c2, c3, c4, c5⟩ := O4 Mf R rv ef
   obtain ⟨g, gV, hb, hgD⟩ := c4.ex
   refine ⟨kk, f, fd, ps, a, Cl, dx, fs, G, rfl, eH, c1, c2, c3, c5, g, gV, hb, ?_⟩
   have p4 : aJ X.K T B W (vE X.K T B σ) w σ (if (d :: as).length = n + 1 ∧ ([] : List D).length = 0 then bu fr (G (aq [] (d :: as) []) h) else .err) Q := by
    rw [if_pos ⟨by rw [ag9, hl], rfl⟩]
    show aJ X.K T B W (vE X.K T B σ) w σ (bu fr (G (d :: as ++ []) h)) Q
    rw [ahe]
    exact p
   exact (zg (n := n + 1) (m := 0) (zs := []) (es := []) (ds := d :: as) hgD R (.cons rv rs) .nil p4).2.2
theorem G4 {mt : Nat → Option Fn} {B : Bs} {w : Wd} {σ : L2.St} {H : Hp} {fr : Fr} {h : Hh} {v : V} {d : D} {vs : List V} {as : List D} {Q : VK} (Mf : ph X T j m mt n [] (aq [])) (R : Rel X.K T B w σ H fr h) (rv : bD X.K T w v d) (rs : az X.K T w vs as) (hl : as.length = n)
 (p : aJ X.K T B W (vE X.K T B σ) w σ (rR mt d as fr h) Q) : OwnRun X T j n m v H vs Q (fun _ _ _ => False) := by
 refine Uh (W := WF) Mf R rv rs hl ?_
 unfold rR at p
 unfold Eh
 cases ef : fnOf mt h d with
 | none => rw [ef] at p; exact p.elim
 | some G =>
   rw [ef] at p
   dsimp only at p ⊢
   cases e : G (d :: as) h with
   | ok d' fr' h' => rw [e] at p; exact p
   | exc _ _ _ => rw [e] at p; exact p.elim
   | err => rw [e] at p; exact p.elim
def zm (d : D) : M D := fun fr h => match d with
 | .int i => if 0 ≤ i ∧ i < 2 ^ 60 then .ok (.int i) fr h else .err
 | _ => .err
def Ip (mt : Nat → Option Fn) (ma : M D) : M D := ma.bind fun o => (rR mt o []).bind zm
theorem W0 {K : PySem.W.Frag} {B : Bs} {σ : L2.St} {w : Wd} {H : Hp} {fr : Fr} {v : V} {i : Int} (r : vE K T B σ w H fr v (.int i)) : v = .int i := by
 rcases r with r | ⟨_, _, _, _, _, _, r⟩
 · exact iy r
 · cases r
theorem adk {K : PySem.W.Frag} {B : Bs} {σ : L2.St} {w : Wd} {H : Hp} {fr : Fr} {v : V} {i : Bool} (r : vE K T B σ w H fr v (.bl i)) : v = .bl i := by
 rcases r with r | ⟨_, _, _, _, _, _, r⟩
 · exact Gm r
 · cases r
theorem aav {mt : Nat → Option Fn} (C : Cq X T W k) (hk : j + 1 ≤ k) (Mf : ph X T j "__len__" mt 0 [] (aq [])) (sa : aR X T W a ma) (hm : X.mg "len" = none) (hg : Gl X "len" := by rfl) (he : starEach (a :: []) X.env = (false, eval a X.env) :: starEach [] X.env := by exact cJ rfl)
 (hpl : (backTo pos (starEach [] X.env)).any (·.1) = false := by rfl) : aR X T W (.Call (.Name "len" pf) [a] [] pos) (Ip mt ma) := fun B w σ H fr h Q r1 p =>
 cY (pe_callB (id := "len") yQ hg hm (by decide +kernel) (pa_cons aV pa_nil he) (by decide) (by decide) he hpl) (sa B w σ H fr h (fun x H1 => cM X (.builtin "len") [x] H1 Q) r1 (aJ.bind (VR := vV X.K T B σ) p fun d fr1 h1 w1 H1 v e1 l1 r1 rv p1 => by
  have p2 : aJ X.K T B W (vE X.K T B σ) w1 σ (rR mt d [] fr1 h1) (fun v H' => ∃ i : Int, v = .int i ∧ (0 ≤ i ∧ i < 2 ^ 60) ∧ Q (.int i) H') := aJ.bind p1 fun d fr2 h2 w2 H2 v e2 l2 r2 rv2 p3 => by
   unfold zm at p3
   split at p3
   · rename_i i
     split at p3
     · rename_i hi
       exact ⟨i, W0 rv2, hi, p3 w2 H2 _ (Wd.le_refl _) r2 (.int i)⟩
     · exact p3.elim
   · exact p3.elim
  obtain ⟨kk, f, fd, ps, a, Cl, dx, fs, G, rfl, eH, c1, c2, c3, c5, g, gV, hb, q⟩ := (G4 Mf r1 rv .nil rfl p2).ex
  intro pins s σ' us I rus
  obtain ⟨u, rfl, ru⟩ := rus.one
  obtain rfl : u = Value.ref a := ru
  obtain ⟨mA, J, _⟩ := ins_get I.hok eH
  obtain ⟨od, J, _⟩ := J.look
  obtain ⟨m, hF⟩ := I.fr
  refine PySem.W.len_K hF I.ok.mod.kin J c2.at_ c2.fn (wpAny_mono (Cv (n := 0 + 1) (us := [.ref a]) (vs := [.ref a]) c3.ok ((C.room.mono hk).in1.mono c5) I.env0.in1 hb Cy I (.cons rfl .nil) rfl q) (fun v s' z => ?_) fun _ _ z => z)
  obtain ⟨z', H', I', rz, i, ei, hi, qz⟩ := z
  subst ei
  obtain ⟨t, rfl⟩ := (show ∃ t, v = Value.int i t from rz)
  exact ⟨⟨hi.1, Int.lt_trans hi.2 (by decide)⟩, .int i, H', I'.tok (s'.toks + 1), ⟨_, rfl⟩, qz⟩))
def xO (mt : Nat → Option Fn) (ma mb : M D) : M D := ma.bind fun o => mb.bind fun i => Eh mt o [i]
theorem Nh {mt : Nat → Option Fn} (C : Cq X T W k) (hk : j + 1 ≤ k) (Mf : ph X T j "__getitem__" mt 1 [] (aq [])) (sa : aR X T W a ma) (sb : aR X T W b mb)
 (hs : ∀ o i, subscripted b true o i = runValue (.builtin "lifetime.subscript" ⟨[o, i], []⟩) := by intro _ _; with_unfolding_all rfl) : mH X T W (.Subscript a b pos) (xO mt ma mb) := fun B w σ H fr h Q R pp => WE.mk <| fun pins s I => by
 refine PyProof.Rows.Subscript_ (binT (R := fun x y H2 => OwnRun X T j 1 "__getitem__" x H2 [y] Q (fun c d H' => W c d σ H')) aV aV I (sa B w σ H fr h _ R (aJ.bind (VR := vV X.K T B σ) pp fun d fr1 h1 w1 H1 v e1 l1 r1 rd p1 =>
  sb B w1 σ H1 fr1 h1 _ r1 (aJ.bind (VR := vV X.K T B σ) p1 fun e fr2 h2 w2 H2 u e2 l2 r2 re p2 => Uh Mf r2 (rd.mono l2) (.cons re .nil) rfl p2))) fun v u s2 x y H2 I2 rx ry q => ?_)
 obtain ⟨kk, f, fd, ps, a', Cl, dx, fs, G, rfl, eH, c1, c2, c3, c5, g, gV, hb, q⟩ := q.ex
 obtain rfl : v = Value.ref a' := rx
 obtain ⟨mA, J, _⟩ := ins_get I2.hok eH
 obtain ⟨od, J, _⟩ := J.look
 obtain ⟨m, hF⟩ := I2.fr
 have cx : ∀ e s', L2.CX X.prog X.w X.stack H2 s2 (fun c d H' => W c d σ H') e s' → X.xe e s' := fun e s' z => passAt C.takes σ pins H2 s2 e s' I2 z
 refine PySem.W.sub_K hF I2.ok.mod.kin J c2.at_ (aau c2.fn c2.kp) c2.fn ?_ (hs _ _)
 exact Cv (n := 1 + 1) (us := [.ref a', u]) (vs := [.ref a', y]) c3.ok ((C.room.mono hk).in1.mono c5) I2.env0.in1 hb cx I2 (.cons rfl (.cons ry .nil)) rfl q
def Rb (X : Cx) (T : Tb) (W : WX) (VR2 : iw V D) (op : CmpOp) (g : D → D → M Bool) : Prop :=
 ∀ B w σ H fr h x y d e Q, Rel X.K T B w σ H fr h → bD X.K T w x d → VR2 X.K T B σ w H fr y e → aJ X.K T B W (vB X.K T B σ) w σ (g d e fr h) Q → rM X (compareOp op) x y H (fun z H' => ∃ c, z = .bl c ∧ Q c H')
def rW {α : Type} (g : D → D → M α) (ma mb : M D) : M α := ma.bind fun x => mb.bind fun y => g x y
theorem Ir {op : CmpOp} {VR2 : iw V D} {g : D → D → M Bool} (o : Rb X T W VR2 op g) (sa : aR X T W a ma) (sb : gj (WE X b) X.K T W VR2 mb) (hm : behindInMarks op b = false := by with_unfolding_all rfl) :
 vL X T W (.Compare a [op] [b] pos) (rW g ma mb) := fun B w σ H fr h Q r1 p =>
 HW (pt_cmpR xU aV aV hm) (sa B w σ H fr h (fun x H1 => WE X b σ H1 fun y H2 => rM X (compareOp op) x y H2 fun z H' => ∃ k, z = .bl k ∧ Q k H') r1 (aJ.bind (VR := vV X.K T B σ) p fun d fr1 h1 w1 H1 x e1 l1 r1 rx p1 =>
  sb B w1 σ H1 fr1 h1 _ r1 (aJ.bind (VR := VR2 X.K T B σ) p1 fun e fr2 h2 w2 H2 y e2 l2 r2 ry p2 => o B w2 σ H2 fr2 h2 x y d e Q r2 (rx.mono l2) ry p2)))
theorem Ui {op : CmpOp} {VR2 : iw V D} {g : D → D → M Bool} (o : Rb X T W VR2 op g) (sa : aR X T W a ma) (sb : gj (WE X b) X.K T W VR2 mb) (hm : behindInMarks op b = false := by with_unfolding_all rfl) :
 aR X T W (.Compare a [op] [b] pos) (Ow (rW g ma mb)) := fun B w σ H fr h Q r1 p => by
 have p0 : aJ X.K T B W (vB X.K T B σ) w σ (rW g ma mb fr h) (fun b H => Q (.bl b) H) := aJ.bind p fun d fr1 h1 w1 H1 v e x r1 z p1 => by
  have z' : v = d := z
  subst z'
  exact p1 w1 H1 _ (Wd.le_refl _) r1 (.bl _)
 refine cY (pe_cmpR xU aV aV hm) (sa B w σ H fr h (fun x H1 => WE X b σ H1 fun y H2 => rM X (compareOp op) x y H2 Q) r1 (aJ.bind (VR := vV X.K T B σ) p0 fun d fr1 h1 w1 H1 x e1 l1 r1 rx p1 =>
  sb B w1 σ H1 fr1 h1 _ r1 (aJ.bind (VR := VR2 X.K T B σ) p1 fun e fr2 h2 w2 H2 y e2 l2 r2 ry p2 => ?_)))
 intro pins s σ' v u I rx' ry'
 refine thn (o B w2 σ H2 fr2 h2 x y d e _ r2 (rx.mono l2) ry p2 pins s σ' v u I rx' ry') fun v s' z => ?_
 obtain ⟨z', H', I', rz, c, ec, q⟩ := z
 subst ec
 exact ⟨_, H', I', rz, q⟩
def Rc (d : D) : M Bool := M.opt d.tb
theorem Nk {B : Bs} {w : Wd} {σ : L2.St} {m : M D} {fr : Fr} {h : Hh} {Q : Bool → Hp → Prop} {c : Bool → Bool} (p : aJ X.K T B W (vB X.K T B σ) w σ ((m.bind fun d => (Rc d).bind fun b => M.ret (c b)) fr h) Q) : aJ X.K T B W (vE X.K T B σ) w σ (m fr h) (fun v H' => ∃ b, v = .bl b ∧ Q (c b) H') :=
 aJ.bind p fun d fr2 h2 w2 H2 v e2 l2 r2 rv2 p3 => by
  unfold Rc M.bind at p3
  cases d with
  | bl b => exact ⟨b, adk rv2, p3 w2 H2 _ (Wd.le_refl _) r2 rfl⟩
  | _ => exact p3.elim
def G5 (mt : Nat → Option Fn) (c : Bool → Bool) (x o : D) : M Bool := (rR mt o [x]).bind fun d => (Rc d).bind fun b => M.ret (c b)
theorem Uj {mt : Nat → Option Fn} (C : Cq X T W k) (hk : j ≤ k) (Mf : ph X T j "__contains__" mt 1 [] (aq [])) : Rb X T W vV .In (G5 mt fun b => b) := fun B w σ H fr h x y d e Q R rx ry p => by
 obtain ⟨kk, f, fd, ps, a', Cl, dx, fs, G, rfl, eH, c1, c2, c3, c5, g, gV, hb, q⟩ := (G4 Mf R ry (.cons rx .nil) rfl (Nk p)).ex
 intro pins s σ' v u I rv ru
 obtain rfl : u = Value.ref a' := ru
 obtain ⟨mA, J, _⟩ := ins_get I.hok eH
 obtain ⟨od, J, _⟩ := J.look
 obtain ⟨m, hF⟩ := I.fr
 refine PySem.W.in_K hF I.ok.mod.kin J c2.at_ c2.fn (wpAny_mono (Cv (n := 1 + 1) (us := [.ref a', v]) (vs := [.ref a', x]) c3.ok ((C.room.mono hk).mono c5) I.env0 hb Cy I (.cons rfl (.cons rv .nil)) rfl q) (fun r s' z => ?_) fun _ _ z => z)
 obtain ⟨z', H', I', rz, b, eb, qz⟩ := z
 subst eb
 obtain rfl : r = Value.bool b := rz
 exact wpAny_truthy_bool ⟨.bl b, H', I', rfl, b, rfl, qz⟩
theorem Ye {mt : Nat → Option Fn} (C : Cq X T W k) (hk : j ≤ k) (Mf : ph X T j "__contains__" mt 1 [] (aq [])) : Rb X T W vV .NotIn (G5 mt fun b => !b) := fun B w σ H fr h x y d e Q R rx ry p => by
 obtain ⟨kk, f, fd, ps, a', Cl, dx, fs, G, rfl, eH, c1, c2, c3, c5, g, gV, hb, q⟩ := (G4 Mf R ry (.cons rx .nil) rfl (Nk p)).ex
 intro pins s σ' v u I rv ru
 obtain rfl : u = Value.ref a' := ru
 obtain ⟨mA, J, _⟩ := ins_get I.hok eH
 obtain ⟨od, J, _⟩ := J.look
 obtain ⟨m, hF⟩ := I.fr
 refine PySem.W.notIn_K hF I.ok.mod.kin J c2.at_ c2.fn (wpAny_mono (Cv (n := 1 + 1) (us := [.ref a', v]) (vs := [.ref a', x]) c3.ok ((C.room.mono hk).mono c5) I.env0 hb Cy I (.cons rfl (.cons rv .nil)) rfl q) (fun r s' z => ?_) fun _ _ z => z)
 obtain ⟨z', H', I', rz, b, eb, qz⟩ := z
 subst eb
 obtain rfl : r = Value.bool b := rz
 exact wpAny_truthy_bool ⟨.bl (!b), H', I', rfl, !b, rfl, qz⟩
end
end Pk
namespace PySem
namespace OwE
open PySem.W PySem.Calls PyProof.Rows
section
variable {prog : Program} {w : World} {M : Model} {A : Around} {E : Value → Shared → Prop} {s : Shared} {K : Frag} {x C f : Addr} {ox : Obj} {od : Option Obj} {b tb : Value}
end
end OwE
end PySem
namespace Pk
open PySem PySem.Spec L2
def eqX (K : PySem.W.Frag) (C : Addr) : Bool := He.eqO (PySem.W.findIn K (.ref C) "__ne__") (some (some (.builtin "object.__ne__"))) && (decide (PySem.W.mroIn K C (.type "object") = some true) && (ym.all (fun t => PySem.W.notFirst K C (.type t)) && ym.all fun t => decide (PySem.W.subIn K (.ref C) (.type t) = some false)))
structure EqX (K : PySem.W.Frag) (C : Addr) : Prop where
 ne : PySem.W.findIn K (.ref C) "__ne__" = some (some (.builtin "object.__ne__"))
 ob : PySem.W.mroIn K C (.type "object") = some true
 nf : ∀ t ∈ ym, PySem.W.notFirst K C (.type t) = true
 nb : ∀ t ∈ ym, PySem.W.subIn K (.ref C) (.type t) = some false
theorem abZ {K : PySem.W.Frag} {C : Addr} (h : eqX K C = true) : EqX K C := by
 obtain ⟨c1, h⟩ := He.ba h
 obtain ⟨c2, h⟩ := He.ba h
 obtain ⟨c3, c4⟩ := He.ba h
 exact ⟨He.eqO_ok c1, of_decide_eq_true c2, fun t ht => List.all_eq_true.mp c3 t ht, fun t ht => of_decide_eq_true (List.all_eq_true.mp c4 t ht)⟩
structure EqF (K : PySem.W.Frag) (T : Tb) (mt : Nat → Option Fn) : Prop where
 ex : ∀ c F, mt c = some F → EqX K (T.cad c)
def Cz (mt : Nat → Option Fn) (c : Bool → Bool) (x y : D) : M Bool := fun fr h => if (y.bty h).isSome || (ou h x y).isSome then ((rR mt x [y]).bind fun d => (Rc d).bind fun b => M.ret (c b)) fr h else .err
section
variable {X : Cx} {T : Tb} {W : WX} {k j : Nat}
theorem Rg {mt : Nat → Option Fn} {h : Hh} {d : D} {G : Fn} (e : fnOf mt h d = some G) : ∃ c fs, d.ins h = some (c, fs) ∧ mt c = some G := by
 unfold fnOf at e
 split at e
 · rename_i c fs ei
   exact ⟨c, fs, ei, e⟩
 · cases e
theorem Yg {mt : Nat → Option Fn} {B : Bs} {w : Wd} {σ σ' : L2.St} {H : Hp} {fr : Fr} {h : Hh} {x y : V} {d e : D} {u : Value} {pins : List (Addr × Obj)} {s : Shared} {a' Cl dx : Addr} {fs : List (Str × V)} (Ef : EqF X.K T mt) (R : Rel X.K T B w σ H fr h) (rx : bD X.K T w x d) (ry : bD X.K T w y e)
 (hc : ((e.bty h).isSome || (ou h d e).isSome) = true) (hG : fnOf mt h d ≠ none) (I : Inv X pins σ' H s) (ru : RelV y u) (ex : x = .ref a') (eH : H a' = some (.ins Cl dx fs)) : EqX X.K Cl ∧ ∃ tb, PySem.W.Looks (model X.prog X.w) s.heap (typeOf u) tb ∧ PySem.W.notFirst X.K Cl tb = true := by
 obtain ⟨c, gs, ei, em⟩ : ∃ c gs, d.ins h = some (c, gs) ∧ ∃ G, mt c = some G := by
  cases q : fnOf mt h d with
  | none => exact absurd q hG
  | some G =>
    obtain ⟨c, gs, e1, e2⟩ := Rg q
    exact ⟨c, gs, e1, G, e2⟩
 obtain ⟨G, em⟩ := em
 obtain ⟨p1, dx1, vs1, e1, eH1, _⟩ := wU R (.inl rx) ei
 have ep : p1 = a' := V.ref.inj (e1.symm.trans ex)
 subst ep
 have eo := Option.some.inj (eH1.symm.trans eH)
 injection eo with eC _ _
 subst eC
 have Eq := Ef.ex c G em
 refine ⟨Eq, ?_⟩
 rcases Bool.or_eq_true_iff.mp hc with z | z
 · obtain ⟨t, et⟩ := Option.isSome_iff_exists.mp z
   obtain ⟨ty, ht⟩ := aat R ry et
   obtain ⟨P, Z, p, _⟩ := kit_of I ru ty
   exact ⟨.type t, Z.ty (model X.prog X.w) s.heap I.kIn p, Eq.nf t ht⟩
 · obtain ⟨c', ec⟩ := Option.isSome_iff_exists.mp z
   obtain ⟨⟨fs1, i1⟩, gs2, i2⟩ := Q5 ec
   have : c' = c := by
    rw [ei] at i1
    cases i1
    rfl
   subst this
   obtain ⟨p2, dy, vs2, rfl, eH2, _⟩ := wU R (.inl ry) i2
   obtain rfl : u = Value.ref p2 := ru
   obtain ⟨mB, J', _⟩ := ins_get I.hok eH2
   obtain ⟨od', J', _⟩ := J'.look
   exact ⟨_, J'.type, by unfold PySem.W.notFirst; simp⟩
theorem Yh {mt : Nat → Option Fn} {c : Bool → Bool} {B : Bs} {w : Wd} {σ : L2.St} {fr : Fr} {h : Hh} {d e : D} {Q : Bool → Hp → Prop} (p : aJ X.K T B W (vB X.K T B σ) w σ (Cz mt c d e fr h) Q) :
 ((e.bty h).isSome || (ou h d e).isSome) = true ∧ fnOf mt h d ≠ none ∧ aJ X.K T B W (vE X.K T B σ) w σ (rR mt d [e] fr h) (fun v H' => ∃ b, v = .bl b ∧ Q (c b) H') := by
 unfold Cz at p
 cases hc : ((e.bty h).isSome || (ou h d e).isSome) with
 | false => rw [hc] at p; exact p.elim
 | true =>
   rw [hc, if_pos rfl] at p
   have p' := Nk p
   refine ⟨rfl, fun z => ?_, p'⟩
   have q : rR mt d [e] fr h = .err := by unfold rR; rw [z]
   rw [q] at p'
   exact p'
theorem Nm {mt : Nat → Option Fn} (C : Cq X T W k) (hk : j + 1 ≤ k) (Mf : ph X T j "__eq__" mt 1 [] (aq [])) (Ef : EqF X.K T mt) : Rb X T W vV .Eq (Cz mt fun b => b) := fun B w σ H fr h x y d e Q R rx ry p => by
 obtain ⟨hc, hG, p'⟩ := Yh p
 obtain ⟨kk, f, fd, ps, a', Cl, dx, fs, G, ex, eH, c1, c2, c3, c5, g, gV, hb, q⟩ := (G4 Mf R rx (.cons ry .nil) rfl p').ex
 intro pins s σ' v u I rv ru
 obtain ⟨Eq, tb, lk, nf⟩ := Yg Ef R rx ry hc hG I ru ex eH
 subst ex
 obtain rfl : v = Value.ref a' := rv
 obtain ⟨mA, J, _⟩ := ins_get I.hok eH
 obtain ⟨od, J, _⟩ := J.look
 obtain ⟨m, hF⟩ := I.fr
 show wpAny _ _ (richCompare .Eq _ _) _ _ _
 have hu : X.A.units < cLine := by
  have := C.u
  omega
 refine PySem.W.cmp_K (op := .Eq) hu hF I.ok.mod.kin J lk nf c2.at_ c2.fn (wpAny_mono (Cv (n := 1 + 1) (us := [.ref a', u]) (vs := [.ref a', y]) c3.ok (C.room.mono (Nat.le_trans c5 (Nat.le_of_succ_le hk))) I.env0 hb Cy I (.cons rfl (.cons ru .nil)) rfl q) (fun r s' z => ?_) fun _ _ z => z)
 obtain ⟨z', H', I', rz, b, eb, qz⟩ := z
 subst eb
 exact KJ ⟨.bl b, H', I', rz, b, rfl, qz⟩
end
end Pk
namespace Pk
open PySem PySem.Spec L2
def Rh (K : PySem.W.Frag) (C : Addr) : Bool := PySem.W.readsIn K C (.type "type") && He.eqO (PySem.W.specialIn K (.ref C) "__getattribute__") (some (some (.builtin "type.__getattribute__")))
def ccA (K : PySem.W.Frag) (C : Addr) (f : Str) : Addr := match PySem.W.findCls K (.ref C) (.type "type") f with
 | some (.val (.ref a)) => a
 | _ => 0
def afx (K : PySem.W.Frag) (C : Addr) (f : Str) (vs : List He.Dv) : Bool := Rh K C && ((match PySem.W.findCls K (.ref C) (.type "type") f with
 | some (.val (.ref a)) => decide (a = ccA K C f)
 | _ => false) && abA K (ccA K C f) vs)
structure afy (X : Cx) (T : Tb) (c : Nat) (f : Str) (d : D) : Prop where
 ex : ∃ (u : Value) (v : V), ClX.CRead X.K (T.cad c) (.type "type") ∧ ClX.CVal X.K (T.cad c) (.type "type") f v u ∧ bD X.K T ⟨fun _ => none, []⟩ v d
section
variable {X : Cx} {T : Tb} {W : WX} {k c : Nat} {x f : Str} {p pos : Pos} {d : D}
end
end Pk
namespace PySem
namespace OwB
open PySem.W PySem.Calls PyProof.Rows
section
variable {prog : Program} {w : World} {A : Around} {E : Value → Shared → Prop} {s : Shared} {K : Frag} {x C f : Addr} {ox : Obj} {od : Option Obj}
def Uk (Q : Bool → Shared → Prop) (v : Value) (s' : Shared) : Prop := match v with
 | .int n _ => (0 ≤ n ∧ n < 2 ^ 63) ∧ Q (n != 0) { s' with toks := s'.toks + 1 }
 | _ => False
theorem Vz {Q : Bool → Shared → Prop} (X : K.In s.heap) (I : InstAt s.heap x ox C od) (hb : findIn K (.ref C) "__bool__" = some none) (hl : findIn K (.ref C) "__len__" = some (some (.ref f))) (hf : isFn K (.ref f) = true)
 (h : wpAny (model prog w) A.in1 (call (.ref f) [.ref x]) (Uk Q) E s) : wpAny (model prog w) A (truthy (.ref x)) Q E s := by
 have key : wpAny (model prog w) A (runValue (.builtin "len" ⟨[.ref x], []⟩)) (fun r s' => ∃ n u, r = .int n u ∧ Q (n != 0) s') E s := by
  refine wpAny_runValue (codeAny_builtin entry_len ?_)
  rw [Around.under_plainId plain_len _]
  unfold Builtin.«len»
  refine wpAny_bind (m := oneArg "len" _) (wpAny_pure ?_)
  refine wpAny_bind (m := callSpecial? (.ref x) (Str.ofString "__len__")) (special_fn X I hl (beq_iff_eq.mp hf) (wpAny_mono h (fun r s' hr => ?_) fun _ _ y => y))
  cases r <;> first | exact hr.elim | skip
  rename_i n u
  obtain ⟨⟨h0, h1⟩, hq⟩ := hr
  refine wpAny_bind (wpAny_holding (wpAny_pure ?_))
  refine wpAny_bind (wpAny_letGo ?_)
  show wpAny _ _ (if n < 0 then _ else _) _ _ _
  rw [if_neg (by omega)]
  show wpAny _ _ (if n ≥ 2 ^ 63 then _ else _) _ _ _
  rw [if_neg (by omega)]
  exact wpAny_bind (wpAny_mkInt (wpAny_pure ⟨_, _, rfl, hq⟩))
 unfold truthy
 refine wpAny_bind (m := callSpecial? (.ref x) (Str.ofString "__bool__")) (wpAny_bind (wpAny_bind (I.type.here ((looks_findIn X hb).here (wpAny_pure ?_)))))
 refine wpAny_bind (wpAny_bind (I.type.here ((looks_findIn X hl).here ?_)))
 refine wpAny_bind (wpAny_mono key (fun r s' z => ?_) fun _ _ y => y)
 obtain ⟨n, u, rfl, q⟩ := z
 exact wpAny_pure q
theorem bool_own {Q : Value → Shared → Prop} (X : K.In s.heap) (I : InstAt s.heap x ox C od) (hb : findIn K (.ref C) "__bool__" = some none) (hl : findIn K (.ref C) "__len__" = some (some (.ref f))) (hf : isFn K (.ref f) = true)
 (h : wpAny (model prog w) A.in1.in1.in1 (call (.ref f) [.ref x]) (Uk fun c s' => Q (.bool c) s') E s) : wpAny (model prog w) A (call (.type "bool") [.ref x]) Q E s := by
 refine callType_codes (T := "bool") (Bi := Builtin.«object.__init__») (Q₁ := fun r s₁ => ∃ c, r = Value.bool c ∧ Q r s₁) PySem.F.called_bool (PySem.F.typeCall_bool_1 _) PySem.F.entry_object_init ?_ ?_
 · refine codeAny_of_tree ?_
   show wpAny _ A.in1.in1 (do checkBuiltinCall "bool.__new__" ⟨[.type "bool", .ref x], []⟩; again (.builtin "bool.__new__" ⟨[.type "bool", .ref x], []⟩)) _ _ s
   refine wpAny_bind (wpAny_of_eq (PySem.F.newCall_bool_1 _) (wpAny_pure ⟨plainId_quiet (by decide +kernel) _, codeAny_builtin PySem.F.entry_bool_new ?_⟩))
   rw [Around.under_plainId (by decide +kernel) _]
   have f1 := F.conv_sub_bool
   unfold Builtin.«bool.__new__»
   repeat (first | (with_reducible refine Vz X I hb hl hf (wpAny_mono h (fun v s' z => ?_) fun _ _ y => y)) | wp_step)
   cases v <;> first | exact z.elim | skip
   obtain ⟨z1, z2⟩ := z
   refine ⟨z1, ?_⟩
   first
    | exact wpAny_pure ⟨_, rfl, z2⟩
    | exact wpAny_pure (wpAny_pure ⟨_, rfl, z2⟩)
 · rintro obj s₁ ⟨c, rfl, hq⟩
   exact ⟨typeIs_bool' _ _, PySem.F.args_object_init_2 _ _, object_init_meets PySem.F.called_bool.init.lookup PySem.F.called_bool.made (by decide) prog w A.in1 _ s₁ ⟨typeIs_bool' _ _, rfl, hq⟩⟩
end
end OwB
end PySem
namespace Pk
open PySem PySem.Spec L2
section
variable {X : Cx} {T : Tb} {W : WX} {k kk j n c : Nat} {pos pf px apos cpos p : Pos} {a b e : Expr} {es : List Expr} {ma mb m : M D} {m1 : M (List D)} {x f : Str}
structure NoB (K : PySem.W.Frag) (T : Tb) (mt : Nat → Option Fn) : Prop where
 ex : ∀ c F, mt c = some F → PySem.W.findIn K (.ref (T.cad c)) "__bool__" = some none
def Yi (K : PySem.W.Frag) (C : Addr) : Bool := He.eqO (PySem.W.findIn K (.ref C) "__bool__") (some none)
theorem aaw {K : PySem.W.Frag} {C : Addr} (h : Yi K C = true) : PySem.W.findIn K (.ref C) "__bool__" = some none := He.eqO_ok h
def CG (mt : Nat → Option Fn) (ma : M D) : M D := ma.bind fun o => (rR mt o []).bind fun d => (zm d).bind fun d => M.opt (match d with
 | .int i => some (.bl (i != 0))
 | _ => none)
theorem Yj {mt : Nat → Option Fn} (C : Cq X T W k) (hk : j + 3 ≤ k) (Mf : ph X T j "__len__" mt 0 [] (aq [])) (Nf : NoB X.K T mt) (sa : aR X T W a ma) (hm : X.mg "bool" = none) (hg : Gl X "bool" := by rfl) (he : starEach (a :: []) X.env = (false, eval a X.env) :: starEach [] X.env := by exact cJ rfl)
 (hpl : (backTo pos (starEach [] X.env)).any (·.1) = false := by rfl) : aR X T W (.Call (.Name "bool" pf) [a] [] pos) (CG mt ma) := fun B w σ H fr h Q r1 p =>
 cY (pe_callTy (T := "bool") yQ hg hm (by decide +kernel) (pa_cons aV pa_nil he) (by decide) (by decide) he hpl) (sa B w σ H fr h (fun x H1 => cM X (.type "bool") [x] H1 Q) r1 (aJ.bind (VR := vV X.K T B σ) p fun d fr1 h1 w1 H1 v e1 l1 r1 rv p1 => by
  have hG : ∃ c fs, d.ins h1 = some (c, fs) ∧ ∃ G, mt c = some G := by
   cases q : fnOf mt h1 d with
   | none =>
     have z : rR mt d [] fr1 h1 = .err := by unfold rR; rw [q]
     have p1' : aJ X.K T B W (vV X.K T B σ) w1 σ ((rR mt d []).bind _ fr1 h1) Q := p1
     rw [M.bind_err z] at p1'
     exact p1'.elim
   | some G =>
     obtain ⟨c, fs, e1, e2⟩ := Rg q
     exact ⟨c, fs, e1, G, e2⟩
  obtain ⟨c, gs, ei, G0, em⟩ := hG
  have p2 : aJ X.K T B W (vE X.K T B σ) w1 σ (rR mt d [] fr1 h1) (fun v H' => ∃ i : Int, v = .int i ∧ (0 ≤ i ∧ i < 2 ^ 60) ∧ Q (.bl (i != 0)) H') := aJ.bind p1 fun d fr2 h2 w2 H2 v e2 l2 r2 rv2 p3 => by
   have p3' : aJ X.K T B W (vV X.K T B σ) w2 σ ((zm d).bind (fun d => M.opt (match d with | .int i => some (.bl (i != 0)) | _ => none)) fr2 h2) Q := p3
   cases d with
   | int i =>
     by_cases hi : 0 ≤ i ∧ i < 2 ^ 60
     · have z : zm (.int i) fr2 h2 = .ok (.int i) fr2 h2 := by unfold zm; dsimp only; rw [if_pos hi]
       rw [M.bind_ok z] at p3'
       exact ⟨i, W0 rv2, hi, p3' w2 H2 _ (Wd.le_refl _) r2 (.bl _)⟩
     · have z : zm (.int i) fr2 h2 = .err := by unfold zm; dsimp only; rw [if_neg hi]
       rw [M.bind_err z] at p3'
       exact p3'.elim
   | _ =>
     rw [M.bind_err (show zm _ fr2 h2 = .err from rfl)] at p3'
     exact p3'.elim
  obtain ⟨p1', dx1, vs1, ev1, eH1, _⟩ := wU r1 (.inl rv) ei
  obtain ⟨kk, f, fd, ps, a, Cl, dx, fs, G, ev, eH, c1, c2, c3, c5, g, gV, hb, q⟩ := (G4 Mf r1 rv .nil rfl p2).ex
  have ep : p1' = a := V.ref.inj (ev1.symm.trans ev)
  subst ep
  have eo := Option.some.inj (eH1.symm.trans eH)
  injection eo with eC _ _
  subst eC
  subst ev
  intro pins s σ' us I rus
  obtain ⟨u, rfl, ru⟩ := rus.one
  obtain rfl : u = Value.ref p1' := ru
  obtain ⟨mA, J, _⟩ := ins_get I.hok eH
  obtain ⟨od, J, _⟩ := J.look
  refine PySem.OwB.bool_own I.kIn J (Nf.ex c G0 em) c2.at_ c2.fn (wpAny_mono (Cv (n := 0 + 1) (us := [.ref p1']) (vs := [.ref p1']) c3.ok ((C.room.mono hk).in1.in1.in1.mono c5) I.env0.in1.in1.in1 hb Cy I (.cons rfl .nil) rfl q) (fun v s' z => ?_) fun _ _ z => z)
  obtain ⟨z', H', I', rz, i, ei, hi, qz⟩ := z
  subst ei
  obtain ⟨t, rfl⟩ := (show ∃ t, v = Value.int i t from rz)
  exact ⟨⟨hi.1, Int.lt_trans hi.2 (by decide)⟩, .bl (i != 0), H', I'.tok (s'.toks + 1), rfl, qz⟩))
theorem az.eraseIdx {K : PySem.W.Frag} {w : Wd} : ∀ {vs : List V} {ds : List D} (n : Nat), az K T w vs ds → az K T w (vs.eraseIdx n) (ds.eraseIdx n)
 | _, _, _, .nil => .nil
 | _, _, 0, .cons _ t => t
 | _, _, n + 1, .cons h t => .cons h (az.eraseIdx n t)
def aax (i : Nat) (d : D) : M D := fun fr h => match fr[i]?, d with
 | some (some (.nl l)), .int j => if -(2 ^ 63) ≤ j ∧ j < 2 ^ 63 then (match seqIndex? j l.length with
   | some q => (match l[q]? with
     | some y => .ok y (fr.set i (some (.nl (l.eraseIdx q)))) h
     | none => .err)
   | none => .err) else .err
 | _, _ => .err
def afz (i : Nat) (m : M D) : M D := (bG i jG).bind fun _ => m.bind fun d => aax i d
structure CmF (X : Cx) (T : Tb) (k c : Nat) (m : Str) (n : Nat) (F : Fn) : Prop where
 ex : ∃ (kk : Nat) (p f : Addr) (fd : FuncData) (ps : List Str), ClX.CRead X.K (T.cad c) (.type "type") ∧ ClX.CMet X.K (T.cad c) (.type "type") m p f ∧ jM X.prog X.w X.K X.mg X.base T kk f fd ps F ∧ Bn X.K T fd ps (n + 1) [] (aq []) ∧ kk ≤ k
def cmA (K : PySem.W.Frag) (C : Addr) (m : Str) : Addr := match PySem.W.findCls K (.ref C) (.type "type") m with
 | some (.get _ (.ref p) _ _) => (match PySem.W.recIn K p "classmethod" with
   | some (.ref g :: _) => g
   | _ => 0)
 | _ => 0
def cmX (K : PySem.W.Frag) (C : Addr) (m : Str) : Bool := Rh K C && (match PySem.W.findCls K (.ref C) (.type "type") m with
 | some (.get (.builtin i) (.ref p) .none (.ref C')) => decide (i = "classmethod.__get__") && (decide (C' = C) && ((match PySem.W.recIn K p "classmethod" with
   | some (.ref g :: _) => decide (g = cmA K C m)
   | _ => false) && PySem.W.fnIn K (cmA K C m)))
 | _ => false)
def mCm (n c : Nat) (F : Fn) (ma : M (List D)) : M D := ma.bind fun ds fr h => if ds.length = n then bu fr (F (.cls c :: ds) h) else .err
end
end Pk
namespace L
open PySem PySem.Spec L2 Pk
def cn : Nat → Str
 | 0 => "Instance"
 | 1 => "History"
 | 2 => "NoInstance"
 | 3 => "CountError"
 | 4 => "Unlike"
 | _ => "?"
def lY : List D → Bool := fun _ => true
def top (i : Nat) : Stmt := PySem.Challenge.pw_countrestarts_k08_histories_as_sequences.main.body.getD i (.Pass ⟨0, 0, 0, 0⟩)
abbrev nH : Stmt := top 19
abbrev Ff : List Str := ["_law_script", "_law_at", "_law_cell", "_law_large"]
abbrev yo : List Str := ["_law_script", "_law_at"]
theorem Np : FnScope Ff yo (defScope nH) := ⟨rfl, rfl, rfl, by decide +kernel, rfl, by decide +kernel, by decide +kernel⟩
def yq : PD := ⟨fun K => He.ga K "_law_source", "_law_source", "_law_source", defArgs nH, defBody nH, defScope nH, [], [], false⟩
abbrev iz : Stmt := inClass (top 17) 0
abbrev wH : List Str := ["self", "readings", "instances", "instance"]
abbrev Fv : List Str := ["self", "readings", "instances"]
theorem Ei : FnScope wH Fv (defScope iz) := ⟨rfl, rfl, rfl, by decide +kernel, rfl, by decide +kernel, by decide +kernel⟩
def rY : PD := ⟨fun K => He.ma K (He.ga K "History") "__init__", "__init__", "History.__init__", defArgs iz, defBody iz, defScope iz, [], [], false⟩
abbrev jf : Stmt := inClass (top 17) 11
abbrev xX : List Str := ["self", "other", "found"]
abbrev tH : List Str := ["self", "other"]
theorem Fw : FnScope xX tH (defScope jf) := ⟨rfl, rfl, rfl, by decide +kernel, rfl, by decide +kernel, by decide +kernel⟩
def tK : PD := ⟨fun K => He.ma K (He.ga K "History") "__add__", "__add__", "History.__add__", defArgs jf, defBody jf, defScope jf, [], [], false⟩
abbrev eX : Stmt := top 13
abbrev uw : List Str := ["counts", "start", "restarts", "at"]
abbrev mY : List Str := ["counts", "start", "restarts"]
theorem zp : FnScope uw mY (defScope eX) := ⟨rfl, rfl, rfl, by decide +kernel, rfl, by decide +kernel, by decide +kernel⟩
def mZ : PD := ⟨fun K => He.ga K "falls_without_restart", "falls_without_restart", "falls_without_restart", defArgs eX, defBody eX, defScope eX, [], [], false⟩
abbrev pJ : Stmt := top 8
abbrev G6 : List Str := ["value"]
abbrev zq : List Str := ["value"]
theorem Pn : FnScope G6 zq (defScope pJ) := ⟨rfl, rfl, rfl, by decide +kernel, rfl, by decide +kernel, by decide +kernel⟩
def zr : PD := ⟨fun K => He.ga K "is_integer", "is_integer", "is_integer", defArgs pJ, defBody pJ, defScope pJ, [], [], false⟩
abbrev pK : Stmt := top 11
abbrev G7 : List Str := ["values", "most", "value"]
abbrev zu : List Str := ["values", "most"]
theorem Pq : FnScope G7 zu (defScope pK) := ⟨rfl, rfl, rfl, by decide +kernel, rfl, by decide +kernel, by decide +kernel⟩
def zA : PD := ⟨fun K => He.ga K "are_counts", "are_counts", "are_counts", defArgs pK, defBody pK, defScope pK, [], [], false⟩
abbrev lZ : Stmt := top 9
abbrev CJ : List Str := ["values", "at", "value"]
abbrev wV : List Str := ["values"]
theorem KN : FnScope CJ wV (defScope lZ) := ⟨rfl, rfl, rfl, by decide +kernel, rfl, by decide +kernel, by decide +kernel⟩
def wW : PD := ⟨fun K => He.ga K "is_ascending", "is_ascending", "is_ascending", defArgs lZ, defBody lZ, defScope lZ, [], [], false⟩
abbrev rC : Stmt := top 10
abbrev Jq : List Str := ["values", "low", "high"]
abbrev Bg : List Str := ["values", "low", "high"]
theorem Ri : FnScope Jq Bg (defScope rC) := ⟨rfl, rfl, rfl, by decide +kernel, rfl, by decide +kernel, by decide +kernel⟩
def Bh : PD := ⟨fun K => He.ga K "is_inside", "is_inside", "is_inside", defArgs rC, defBody rC, defScope rC, [], [], false⟩
abbrev rE : Stmt := top 12
abbrev Jr : List Str := ["tails", "gaps", "pair", "found", "gap"]
abbrev Bj : List Str := ["tails", "gaps"]
theorem Rj : FnScope Jr Bj (defScope rE) := ⟨rfl, rfl, rfl, by decide +kernel, rfl, by decide +kernel, by decide +kernel⟩
def Bl : PD := ⟨fun K => He.ga K "are_tails", "are_tails", "are_tails", defArgs rE, defBody rE, defScope rE, [], [], false⟩
abbrev nJ : Stmt := top 14
abbrev Fg : List Str := ["counts", "readings", "start", "restarts", "tails", "lost", "end", "gaps"]
abbrev yr : List Str := ["counts", "readings", "start", "restarts", "tails", "lost"]
theorem Nr : FnScope Fg yr (defScope nJ) := ⟨rfl, rfl, rfl, by decide +kernel, rfl, by decide +kernel, by decide +kernel⟩
def yt : PD := ⟨fun K => He.ga K "first_fault", "first_fault", "first_fault", defArgs nJ, defBody nJ, defScope nJ, [], [], false⟩
abbrev gY : Stmt := inClass (top 15) 0
abbrev v4 : List Str := ["self", "counts", "readings", "start", "restarts", "tails", "lost", "what", "gap", "many"]
abbrev lO : List Str := ["self", "counts", "readings", "start", "restarts", "tails", "lost"]
theorem CK : FnScope v4 lO (defScope gY) := ⟨rfl, rfl, rfl, by decide +kernel, rfl, by decide +kernel, by decide +kernel⟩
def qw : PD := ⟨fun K => He.ma K (He.ga K "Instance") "__init__", "__init__", "Instance.__init__", defArgs gY, defBody gY, defScope gY, [], [("start", .int 0), ("restarts", .adr (Uc (fun K => He.ma K (He.ga K "Instance") "__init__") "restarts")), ("tails", .adr (Uc (fun K => He.ma K (He.ga K "Instance") "__init__") "tails")), ("lost", .adr (Uc (fun K => He.ma K (He.ga K "Instance") "__init__") "lost"))], false⟩
abbrev rF : Stmt := top 24
abbrev Jt : List Str := ["_law_life_here", "_law_size"]
abbrev Bm : List Str := ["_law_life_here", "_law_size"]
theorem Rk : FnScope Jt Bm (defScope rF) := ⟨rfl, rfl, rfl, by decide +kernel, rfl, by decide +kernel, by decide +kernel⟩
def Bo : PD := ⟨fun K => He.ga K "_law_made", "_law_made", "_law_made", defArgs rF, defBody rF, defScope rF, [], [], false⟩
abbrev mD : Stmt := top 26
abbrev CN : List Str := ["_law_lives", "_law_size", "_law_found", "_law_life_here"]
abbrev wX : List Str := ["_law_lives", "_law_size"]
theorem KQ : FnScope CN wX (defScope mD) := ⟨rfl, rfl, rfl, by decide +kernel, rfl, by decide +kernel, by decide +kernel⟩
def wY : PD := ⟨fun K => He.ga K "_law_history", "_law_history", "_law_history", defArgs mD, defBody mD, defScope mD, [], [], false⟩
abbrev rG : Stmt := top 20
abbrev Ju : List Str := ["_law_source_here", "_law_many_here", "_law_digit", "_law_mixed"]
abbrev Bp : List Str := ["_law_source_here", "_law_many_here"]
theorem Rm : FnScope Ju Bp (defScope rG) := ⟨rfl, rfl, rfl, by decide +kernel, rfl, by decide +kernel, by decide +kernel⟩
def Br : PD := ⟨fun K => He.ga K "_law_draw", "_law_draw", "_law_draw", defArgs rG, defBody rG, defScope rG, [], [], false⟩
abbrev vD : Stmt := top 21
abbrev O7 : List Str := ["_law_source_here", "_law_some"]
abbrev G8 : List Str := ["_law_source_here", "_law_some"]
theorem VB : FnScope O7 G8 (defScope vD) := ⟨rfl, rfl, rfl, by decide +kernel, rfl, by decide +kernel, by decide +kernel⟩
def G9 : PD := ⟨fun K => He.ga K "_law_of", "_law_of", "_law_of", defArgs vD, defBody vD, defScope vD, [], [], false⟩
abbrev nM : Stmt := top 22
abbrev Fj : List Str := ["_law_source_here"]
abbrev yu : List Str := ["_law_source_here"]
theorem Nt : FnScope Fj yu (defScope nM) := ⟨rfl, rfl, rfl, by decide +kernel, rfl, by decide +kernel, by decide +kernel⟩
def yw : PD := ⟨fun K => He.ga K "_law_number", "_law_number", "_law_number", defArgs nM, defBody nM, defScope nM, [], [], false⟩
abbrev rH : Stmt := top 23
abbrev Jv : List Str := ["_law_source_here", "_law_size", "_law_born", "_law_many_here", "_law_cuts", "_law_ends", "_law_gone", "_law_counts", "_law_at", "_law_gaps", "_law_gap"]
abbrev Bt : List Str := ["_law_source_here", "_law_size"]
theorem Ro : FnScope Jv Bt (defScope rH) := ⟨rfl, rfl, rfl, by decide +kernel, rfl, by decide +kernel, by decide +kernel⟩
def Bu : PD := ⟨fun K => He.ga K "_law_life", "_law_life", "_law_life", defArgs rH, defBody rH, defScope rH, [], [], false⟩
abbrev jh : Stmt := inClass (top 17) 1
abbrev xY : List Str := ["self"]
abbrev tL : List Str := ["self"]
theorem Fy : FnScope xY tL (defScope jh) := ⟨rfl, rfl, rfl, by decide +kernel, rfl, by decide +kernel, by decide +kernel⟩
def tM : PD := ⟨fun K => He.ma K (He.ga K "History") "__len__", "__len__", "History.__len__", defArgs jh, defBody jh, defScope jh, [], [], false⟩
abbrev ji : Stmt := inClass (top 15) 8
abbrev xZ : List Str := ["self", "other", "same"]
abbrev tO : List Str := ["self", "other"]
theorem FJ : FnScope xZ tO (defScope ji) := ⟨rfl, rfl, rfl, by decide +kernel, rfl, by decide +kernel, by decide +kernel⟩
def tQ : PD := ⟨fun K => He.ma K (He.ga K "Instance") "__eq__", "__eq__", "Instance.__eq__", defArgs ji, defBody ji, defScope ji, [], [], false⟩
abbrev lC : Stmt := top 27
abbrev Am : List Str := ["_law_history_here", "_law_lives", "_law_size", "_law_wrong", "_law_at"]
abbrev v5 : List Str := ["_law_history_here", "_law_lives", "_law_size"]
theorem JN : FnScope Am v5 (defScope lC) := ⟨rfl, rfl, rfl, by decide +kernel, rfl, by decide +kernel, by decide +kernel⟩
def v7 : PD := ⟨fun K => He.ga K "_law_as_lives", "_law_as_lives", "_law_as_lives", defArgs lC, defBody lC, defScope lC, [], [], false⟩
abbrev eY : Stmt := inClass (top 17) 3
abbrev ux : List Str := ["self", "x", "instance"]
abbrev m7 : List Str := ["self", "x"]
theorem zB : FnScope ux m7 (defScope eY) := ⟨rfl, rfl, rfl, by decide +kernel, rfl, by decide +kernel, by decide +kernel⟩
def m9 : PD := ⟨fun K => He.ma K (He.ga K "History") "__contains__", "__contains__", "History.__contains__", defArgs eY, defBody eY, defScope eY, [], [], false⟩
abbrev jP : Stmt := inClass (top 17) 4
abbrev zE : List Str := ["self", "at"]
abbrev vm : List Str := ["self", "at"]
theorem Jf : FnScope zE vm (defScope jP) := ⟨rfl, rfl, rfl, by decide +kernel, rfl, by decide +kernel, by decide +kernel⟩
def vo : PD := ⟨fun K => He.ma K (He.ga K "History") "place", "place", "History.place", defArgs jP, defBody jP, defScope jP, [], [], false⟩
abbrev jk : Stmt := inClass (top 17) 6
abbrev yc : List Str := ["self", "at", "place", "rest"]
abbrev tR : List Str := ["self", "at"]
theorem FP : FnScope yc tR (defScope jk) := ⟨rfl, rfl, rfl, by decide +kernel, rfl, by decide +kernel, by decide +kernel⟩
def tU : PD := ⟨fun K => He.ma K (He.ga K "History") "without", "without", "History.without", defArgs jk, defBody jk, defScope jk, [], [], false⟩
abbrev fO : Stmt := inClass (top 17) 5
abbrev uO : List Str := ["self", "at"]
abbrev oO : List Str := ["self", "at"]
theorem Ac : FnScope uO oO (defScope fO) := ⟨rfl, rfl, rfl, by decide +kernel, rfl, by decide +kernel, by decide +kernel⟩
def oR : PD := ⟨fun K => He.ma K (He.ga K "History") "__getitem__", "__getitem__", "History.__getitem__", defArgs fO, defBody fO, defScope fO, [], [], false⟩
abbrev mF : Stmt := top 28
abbrev CP : List Str := ["_law_history_here", "_law_odd", "_law_is_index", "_law_found", "_law_told", "e"]
abbrev wZ : List Str := ["_law_history_here", "_law_odd", "_law_is_index"]
theorem KR : FnScope CP wZ (defScope mF) := ⟨rfl, rfl, rfl, by decide +kernel, rfl, by decide +kernel, by decide +kernel⟩
def xf : PD := ⟨fun K => He.ga K "_law_refused", "_law_refused", "_law_refused", defArgs mF, defBody mF, defScope mF, [], [], false⟩
abbrev rJ : Stmt := top 25
abbrev Jw : List Str := ["_law_source_here"]
abbrev Bv : List Str := ["_law_source_here"]
theorem Rp : FnScope Jw Bv (defScope rJ) := ⟨rfl, rfl, rfl, by decide +kernel, rfl, by decide +kernel, by decide +kernel⟩
def Bw : PD := ⟨fun K => He.ga K "_law_many", "_law_many", "_law_many", defArgs rJ, defBody rJ, defScope rJ, [], [], false⟩
abbrev pM : Stmt := top 29
abbrev Hf : List Str := ["_law_source_here", "_law_size", "_law_lives", "_law_history_here", "_law_other", "_law_odd", "_law_at", "_law_rest", "_law_first", "_law_last", "_law_turn"]
abbrev zF : List Str := ["_law_source_here", "_law_size"]
theorem Pr : FnScope Hf zF (defScope pM) := ⟨rfl, rfl, rfl, by decide +kernel, rfl, by decide +kernel, by decide +kernel⟩
def zG : PD := ⟨fun K => He.ga K "_law_right", "_law_right", "_law_right", defArgs pM, defBody pM, defScope pM, [], [], false⟩
abbrev Iu : Stmt := top 30
abbrev Zz : List Str := ["_law_script", "_law_at", "_law_source_here"]
abbrev adl : List Str := ["_law_script"]
theorem ab1 : FnScope Zz adl (defScope Iu) := ⟨rfl, rfl, rfl, by decide +kernel, rfl, by decide +kernel, by decide +kernel⟩
def ZC : PD := ⟨fun K => He.ga K "law", "law", "law", defArgs Iu, defBody Iu, defScope Iu, [], [], false⟩
abbrev iG : Stmt := inClass (top 6) 0
def oU : PD := ⟨fun K => He.ma K (He.ga K "NoInstance") "__init__", "__init__", "NoInstance.__init__", defArgs iG, defBody iG, defScope iG, [], [], true⟩
abbrev Fo : List PySem.ExS.Asg := [("at", ⟨24, 8, 24, 12⟩, ⟨24, 8, 24, 15⟩, ⟨24, 18, 24, 20⟩, ⟨24, 8, 24, 20⟩)]
def yz (K : PySem.W.Frag) (H : Hp) (vs : List V) : Prop := True
theorem Nu {K : PySem.W.Frag} {T : Tb} : ∀ (w : Wd) (H : Hp) (vs : List V) (ds : List D), (∀ a o, w.F a = some o → H a = some o) → az K T w vs ds → lY ds = true → yz K H vs := fun _ _ _ _ _ _ _ => trivial
theorem Pu {K : PySem.W.Frag} : PySem.ExS.ExSt K (defArgs iG) (defScope iG) "NoInstance.__init__" (.Constant (.str "there is no instance with this index") 0 ⟨23, 25, 23, 63⟩) ⟨23, 8, 23, 13⟩ ⟨23, 8, 23, 15⟩ ⟨23, 8, 23, 24⟩ ⟨23, 8, 23, 64⟩ ⟨23, 8, 23, 64⟩ Fo (yz K) where
 bind := fun _ _ _ _ _ _ _ _ us hl => match us, hl with | [_], _ => (by kernel_rfl)
 nd := by decide +kernel
 len := by decide
 loc := by decide +kernel
 dbg := by decide +kernel
 cell := by decide +kernel
 hp := ⟨_, rfl, rfl⟩
 ks := rfl
 kc := rfl
 co := rfl
 gen := rfl
 k := rfl
 hE := fun _ _ _ _ _ _ _ _ _ _ _ _ _ _ _ _ _ _ _ _ _ _ _ _ _ _ hq => abL hq
 hin := fun _ _ _ _ => rfl
 hev := fun _ _ _ _ => ⟨_, rfl⟩
 hsw := fun _ _ _ _ => rfl
 hst := fun _ => rfl
 hsw2 := fun _ _ _ _ _ => rfl
theorem Px : (oU).body = PySem.ExS.sup (.Constant (.str "there is no instance with this index") 0 ⟨23, 25, 23, 63⟩) ⟨23, 8, 23, 13⟩ ⟨23, 8, 23, 15⟩ ⟨23, 8, 23, 24⟩ ⟨23, 8, 23, 64⟩ ⟨23, 8, 23, 64⟩ :: PySem.ExS.asgs Fo := rfl
def fa : List Fx := [.tup (Uc (fun K => He.ma K (He.ga K "Instance") "__init__") "restarts") [],
 .tup (Uc (fun K => He.ma K (He.ga K "Instance") "__init__") "tails") [],
 .tup (Uc (fun K => He.ma K (He.ga K "Instance") "__init__") "lost") [],
 .he (.free "len"),
 .he (.free "abs"),
 .he (.free "int"),
 .he (.free "tuple"),
 .he (.glo "History"),
 .he (.free "range"),
 .he (.free "isinstance"),
 .he (.free "bool"),
 .he (.free "list"),
 .he (.glo "is_integer"),
 .he (.free "enumerate"),
 .he (.glo "is_ascending"),
 .he (.glo "are_counts"),
 .he (.glo "is_inside"),
 .he (.glo "falls_without_restart"),
 .he (.glo "are_tails"),
 .he (.glo "first_fault"),
 .he (.glo "Instance"),
 .he (.glo "_law_made"),
 .he (.glo "_law_draw"),
 .he (.glo "_law_of"),
 .he (.glo "_law_number"),
 .he (.free "super"),
 .he (.glo "NoInstance"),
 .he (.glo "CountError"),
 .he (.glo "Unlike"),
 .he (.free "repr"),
 .he (.glo "_law_many"),
 .he (.glo "_law_life"),
 .he (.glo "_law_history"),
 .he (.glo "_law_as_lives"),
 .he (.glo "_law_refused"),
 .he (.free "min"),
 .he (.free "max"),
 .he (.glo "_law_source"),
 .he (.glo "_law_right"),
 .he (.cls "Instance"),
 .he (.noat "Instance" "readings"),
 .he (.cls "History"),
 .he (.noat "History" "readings"),
 .he (.noat "History" "instances"),
 .he (.noat "Instance" "start"),
 .he (.noat "Instance" "counts"),
 .he (.noat "Instance" "restarts"),
 .he (.noat "Instance" "tails"),
 .he (.noat "Instance" "lost"),
 .he (.meth "History" "__len__"),
 .he (.meth "Instance" "__eq__"),
 .he (.meth "History" "place"),
 .he (.meth "History" "__getitem__"),
 .he (.meth "History" "without"),
 .he (.meth "History" "__contains__"),
 .he (.meth "History" "__add__"),
 .slf "History",
 .own "NoInstance" (PySem.Str.ofString "/claim/cut.py") ["at"],
 .kit (.o 2) (.o 3) true,
 .exi "NoInstance",
 .kit (.o 2) (.o 4) false,
 .he (.exm "NoInstance" "NoInstance" true),
 .raw (fun K => Yi K (He.ga K "History")),
 .raw (fun K => eqX K (He.ga K "Instance")),
 .he (.mkr "History"),
 .he (.mkr "Instance"),
 .ins "Instance",
 .ins "History",
 .kit (.b "NoneType") (.o 0) false,
 .kit (.b "bool") (.o 0) false,
 .kit (.b "int") (.o 0) false,
 .kit (.b "str") (.o 0) false,
 .kit (.b "tuple") (.o 0) false,
 .kit (.b "list") (.o 0) false,
 .kit (.o 0) (.b "bool") false,
 .kit (.o 0) (.b "int") false,
 .kit (.o 0) (.b "str") false,
 .kit (.o 0) (.b "tuple") false,
 .kit (.o 0) (.b "list") false,
 .kit (.o 0) (.o 0) true,
 .kit (.o 1) (.b "bool") false,
 .kit (.o 1) (.b "int") false,
 .kit (.o 1) (.b "str") false,
 .kit (.o 1) (.b "tuple") false,
 .kit (.o 1) (.b "list") false,
 .kit (.o 1) (.o 0) false,
 .he (.glo "law")]
def fn : List PD := [oU, yq, rY, tK, mZ, zr, zA, wW, Bh, Bl, yt, qw, Bo, wY, Br, G9, yw, Bu, tM, tQ, v7, m9, vo, tU, oR, xf, Bw, zG, ZC]
class PF (P : Program) : Prop where
 f : ((P.main.file : Str) == (PySem.Str.ofString "/claim/cut.py")) = true
 t : (P.main.scope.names.lookup ("super" : Str)).isSome = false
abbrev aP (K : PySem.W.Frag) : Prop := Aj cn fa fn K
section
open PySem PySem.Spec PyProof.Rows L2
abbrev Rw : PySem.W.OpenRow := PySem.W.OpenLaw.row PySem.Challenge.rw_countrestarts_k08_histories_as_sequences
abbrev hk : PySem.W.Hook := Pk.hookP 7 cn fa fn
def ob (s : PySem.W.SharedT) : Pk.AlP := Pk.obsPG 7 cn fa fn (HandSHeadRun.getT s)
theorem ob_eq (s : PySem.W.SharedT) : ob s = hk.obs s.abs := Pk.obsPG_eq (HandSHeadRun.getT_eq s)
def names : List PySem.Str := "_wall" :: "CountError" :: "BadInstance" :: "Unlike" :: "BadFactor" :: "NoInstance" :: "is_integer" :: "is_ascending" :: "is_inside" :: "are_counts" :: "are_tails" :: "falls_without_restart" :: "first_fault" :: "Instance" :: "History" :: "_law_source" :: "_law_draw" :: "_law_of" :: "_law_number" :: "_law_life" :: "_law_made" :: "_law_many" :: "_law_history" :: "_law_as_lives" :: "_law_refused" :: "_law_right" :: []
theorem aei {α β γ δ : Type} {o : Option α} {f : α → β} {g : α → γ} {k : α → δ} {a : β} {b : γ} {c : δ} (h1 : o.map f = some a) (h2 : o.map g = some b) (h3 : o.map k = some c) : o.map (fun s => (f s, g s, k s)) = some (a, b, c) := by
 cases o with
 | none => cases h1
 | some s =>
   cases h1
   cases h2
   cases h3
   rfl
abbrev vw : Program := PySem.W.view Rw.prog [30]
noncomputable abbrev ends (w : World) (os : PySem.OsState) : Option PySem.W.SharedT := HandSHeadRun.endF (HandSHeadRun.stepQ (HandSHeadRun.denQ HandSHeadRun.tabQ) Rw.prog w) 20000 Rw.prog w os
open PySem.W PySem.Calls HandSHeadRun in
set_option maxHeartbeats 0 in
theorem adm (w : World) (os : PySem.OsState) : (ends w os).map (fun s => looksF Rw.prog (boot_heap w.params) s.abs) = some true := by
 kernel_rfl
open PySem.W PySem.Calls HandSHeadRun in
set_option maxHeartbeats 0 in
theorem adn (w : World) (os : PySem.OsState) : (ends w os).map (fun s => seenQ vw names (importedModules Rw.prog.main.body) (fun s => xlAt vw [] s && recOk Rw.toRowW.records s) s.abs) = some (openGood vw names) := by
 kernel_rfl
abbrev fr0 (s : PySem.W.SharedT) : PySem.W.Frag := He.frG (HandSHeadRun.getT s) (Pk.asP (HandSHeadRun.getT s) 7)
abbrev nh : Nat := fn.length / 2
set_option maxHeartbeats 0 in
theorem ab2 (w : World) (os : PySem.OsState) : (ends w os).map (fun s => fa.all fun f => f.ok cn (fr0 s)) = some true := by
 kernel_rfl
set_option maxHeartbeats 0 in
theorem ab3 (w : World) (os : PySem.OsState) : (ends w os).map (fun s => (fn.take nh).all fun d => d.ok (fr0 s)) = some true := by
 kernel_rfl
set_option maxHeartbeats 0 in
theorem ab4 (w : World) (os : PySem.OsState) : (ends w os).map (fun s => (fn.drop nh).all fun d => d.ok (fr0 s)) = some true := by
 kernel_rfl
theorem all2 {α : Type} {l : List α} {p : α → Bool} {m : Nat} (h1 : (l.take m).all p = true) (h2 : (l.drop m).all p = true) : l.all p = true := by
 rw [← List.take_append_drop m l, List.all_append, h1, h2]
 rfl
theorem aej {α : Type} {o : Option α} {f g k b : α → Bool} (h1 : o.map f = some true) (h2 : o.map g = some true) (h3 : o.map k = some true) (h : ∀ s, f s = true → g s = true → k s = true → b s = true) : o.map b = some true := by
 cases o with
 | none => cases h1
 | some s => exact congrArg some (h s (Option.some.inj h1) (Option.some.inj h2) (Option.some.inj h3))
theorem ado (w : World) (os : PySem.OsState) : (ends w os).map (fun s => (ob s).1) = some true :=
 aej (ab2 w os) (ab3 w os) (ab4 w os) fun s h1 h2 h3 => (show ((fa.all fun f => f.ok cn (fr0 s)) && fn.all fun d => d.ok (fr0 s)) = true by rw [h1, all2 h2 h3]; rfl)
abbrev nq : Nat := fn.length / 3
set_option maxHeartbeats 0 in
theorem ab5 (w : World) (os : PySem.OsState) : (ends w os).map (fun s => (ob s).2.take nq) = some ((fn.map Pk.PD.val).take nq) := by
 kernel_rfl
set_option maxHeartbeats 0 in
theorem ab6 (w : World) (os : PySem.OsState) : (ends w os).map (fun s => ((ob s).2.drop nq).take nq) = some (((fn.map Pk.PD.val).drop nq).take nq) := by
 kernel_rfl
set_option maxHeartbeats 0 in
theorem ab7 (w : World) (os : PySem.OsState) : (ends w os).map (fun s => ((ob s).2.drop nq).drop nq) = some (((fn.map Pk.PD.val).drop nq).drop nq) := by
 kernel_rfl
theorem ab8 {α : Type} {l x : List α} {m : Nat} (h1 : l.take m = x.take m) (h2 : l.drop m = x.drop m) : l = x := by
 rw [← List.take_append_drop m l, h1, h2, List.take_append_drop]
theorem aek {α β : Type} {o : Option α} {f : α → List β} {x : List β} {m : Nat} (h1 : o.map (fun s => (f s).take m) = some (x.take m)) (h2 : o.map (fun s => ((f s).drop m).take m) = some ((x.drop m).take m)) (h3 : o.map (fun s => ((f s).drop m).drop m) = some ((x.drop m).drop m)) : o.map f = some x := by
 cases o with
 | none => cases h1
 | some s => exact congrArg some (ab8 (Option.some.inj h1) (ab8 (Option.some.inj h2) (Option.some.inj h3)))
theorem adp (w : World) (os : PySem.OsState) : (ends w os).map (fun s => (ob s).2) = some (fn.map Pk.PD.val) := aek (ab5 w os) (ab6 w os) (ab7 w os)
theorem ael {α β γ : Type} {o : Option α} {f : α → β × γ} {a : β} {b : γ} (h1 : o.map (fun s => (f s).1) = some a) (h2 : o.map (fun s => (f s).2) = some b) : o.map f = some (a, b) := by
 cases o with
 | none => cases h1
 | some s =>
   have e1 := Option.some.inj h1
   have e2 := Option.some.inj h2
   exact congrArg some (Prod.ext e1 e2)
theorem run (w : World) : HandSHeadRun.RunEq Rw vw hk ob 20000 names w := fun os => aei (adm w os) (adn w os) (ael (ado w os) (adp w os))
end
end L
namespace Pk
open PySem PySem.Spec L2
section
variable {X : Cx} {T : Tb} {W : WX} {k : Nat} {b : Expr} {mb : M D} {pos px : Pos}
def afA (X : Cx) (T : Tb) (op : CmpOp) (f : Hh → D → D → Option Bool) : Prop :=
 ∀ B w σ H fr h x y d e c Q, Rel X.K T B w σ H fr h → vO X.K T B σ w H fr x d → vO X.K T B σ w H fr y e → f h d e = some c → Q (.bl c) H → rM X (compareOp op) x y H Q
def aeM (i : Nat) (f : Hh → D → D → Option Bool) (mb : M D) : M Bool := (fX i).bind fun _ => mb.bind fun y => (aG i).bind fun d fr h => M.opt (f h d y) fr h
end
end Pk
namespace PySem
namespace OwR
open PySem.W PySem.Calls PyProof.Rows
open PySem.AutoSeq1 (wpAny_loadPart')
section
variable {K : Frag} {x C : Addr} {ox : Obj} {od : Option Obj}
end
section
variable {prog : Program} {w : World} {A : Around} {E : Value → Shared → Prop} {s : Shared} {K : Frag} {x C f : Addr} {ox : Obj} {od : Option Obj} {a : Value} {t : String}
def Yk (prog : Program) (w : World) (A : Around) (E : Value → Shared → Prop) (s : Shared) (a : Value) (nm : Str) (x : Addr) : Prop := ∀ P' : Option Value → Shared → Prop, P' none s → wpAny (model prog w) A (tryCompare a nm (.ref x)) P' E s
theorem right (op : CmpOp) {Q : Value → Shared → Prop} (hu : A.units < cLine) (X : K.In s.heap) (I : InstAt s.heap x ox C od) (h1 : oneThing? op a (.ref x) = none) (ha : Looks (model prog w) s.heap (typeOf a) (.type t)) (hn : subIn K (.ref C) (.type t) = some false)
 (hd : Yk prog w A E s a (cmpInfo op).2.1 x) (h : wpAny (model prog w) A (tryCompare (.ref x) (cmpInfo op).2.2 a) (fun r s' => ∃ v, r = some v ∧ Q v s') E s) : wpAny (model prog w) A (richCompare op a (.ref x)) Q E s := by
 unfold richCompare
 simp only [h1]
 refine wpAny_holding (wpAny_bind (wpAny_cRoomFor hu ?_))
 refine wpAny_bind (ha.here (wpAny_bind (I.type.here ?_)))
 rw [if_pos (show ((Value.type t != Value.ref C) = true) from rfl)]
 refine wpAny_bind ((looks_subIn X hn).here ?_)
 simp only [Bool.false_eq_true, if_false]
 refine wpAny_bind (hd _ ?_)
 simp only [Bool.not_false, if_true]
 refine wpAny_bind (wpAny_mono h (fun r s' z => ?_) fun _ _ e => e)
 obtain ⟨v, rfl, q⟩ := z
 exact wpAny_pure q
end
end OwR
end PySem
namespace Pk
open PySem PySem.Spec L2
def agh (mt : Nat → Option Fn) (c : Bool → Bool) (x y : D) : M Bool := fun fr h => match fnOf mt h x with
 | some _ => Cz mt c x y fr h
 | none => if (x.bty h).isSome then ((rR mt y [x]).bind fun d => (Rc d).bind fun b => M.ret (c b)) fr h else .err
section
variable {X : Cx} {T : Tb} {W : WX} {k j : Nat}
end
end Pk
namespace Pk
open PySem PySem.Spec L2
def agi (_ : Hh) : D → D → Option Bool
 | .bl a, .bl b => some (decide (a = b))
 | _, _ => none
def KY (_ : Hh) : D → D → Option Bool
 | .bl a, .bl b => some (!decide (a = b))
 | _, _ => none
section
variable {X : Cx} {T : Tb}
theorem Yl : mW X T vV .IsNot KY := fun B w σ H fr h x y d e c Q R rx ry q kk => by
 unfold KY at q
 split at q
 · cases q
   rw [Gm rx, Gm ry]
   exact nU op_notBl ⟨_, _, rfl, rfl, kk⟩
 · cases q
end
end Pk
namespace PySem
namespace OwT
open PySem.W PySem.Calls PyProof.Rows PySem.SeqAt
open PySem.AutoSeq1 (wpAny_loadPart')
section
variable {prog : Program} {w : World} {A : Around} {R : Result → Shared → Prop}
end
end OwT
end PySem
namespace Pk
open PySem PySem.Spec L2
mutual
def D.sim : D → D → Bool
 | .int i, .int j => i == j
 | .bl a, .bl b => a == b
 | .str a, .str b => a == b
 | .tup l, .tup m => D.sims l m
 | _, _ => true
def D.sims : List D → List D → Bool
 | d :: ds, e :: es => D.sim d e && D.sims ds es
 | [], [] => true
 | _, _ => false
end
section
variable {X : Cx} {T : Tb} {W : WX} {k j : Nat} {w : Wd} {pins : List (Addr × Obj)} {σ : L2.St} {H : Hp} {s : Shared}
mutual
theorem aay (I : Inv X pins σ H s) (sub : ∀ a o, w.F a = some o → H a = some o) : ∀ {v : V} {d : D}, bD X.K T w v d → ∀ {e : D}, bD X.K T w v e → D.sim d e = true
 | _, _, .tup h1 t1, _, r2 => by
   cases r2 with
   | tup h2 t2 =>
     have := I.tuple_inj (eG sub h1) (eG sub h2)
     subst this
     exact Rr I sub t1 t2
   | _ => rfl
 | _, _, .int i, _, r2 => by cases r2; simp [D.sim]
 | _, _, .bl b, _, r2 => by cases r2; simp [D.sim]
 | _, _, .str z, _, r2 => by cases r2; simp [D.sim]
 | _, _, .non, _, _ => rfl
 | _, _, .fl _ _, _, _ => rfl
 | _, _, .kl _ _, _, _ => rfl
 | _, _, .obj _ _, _, _ => rfl
 | _, _, .ref _, _, _ => rfl
 | _, _, .cls _, _, _ => rfl
 | _, _, .ty _, _, _ => rfl
 | _, _, .sl _, _, _ => rfl
 | _, _, .tp _ _, _, _ => rfl
theorem Rr (I : Inv X pins σ H s) (sub : ∀ a o, w.F a = some o → H a = some o) : ∀ {vs : List V} {ds : List D}, az X.K T w vs ds → ∀ {es : List D}, az X.K T w vs es → D.sims ds es = true
 | _, _, .nil, _, r2 => by cases r2; rfl
 | _, _, .cons h t, _, r2 => by
   cases r2 with
   | cons h2 t2 =>
     show (_ && _) = true
     rw [aay I sub h h2, Rr I sub t t2]
     rfl
end
noncomputable def pPair (mt : Nat → Option Fn) (nf : Nat → Nat) (h : Hh) : D → D → Option Bool
 | .obj c l, .obj c' m => if c = c' ∧ l.length = nf c ∧ m.length = nf c then match mt c with
  | some F => match F [.obj c l, .obj c m] h with
    | .ok (.bl b) _ h' => open Classical in if h' = h ∧ (b = true ∨ D.sims l m = false) then some b else none
    | _ => none
  | none => none
  else none
 | _, _ => none
noncomputable def ab9 (mt : Nat → Option Fn) (nf : Nat → Nat) (h : Hh) : List D → List D → Option Bool
 | d :: ds, e :: es => (pPair mt nf h d e).bind fun b => if b then ab9 mt nf h ds es else some false
 | [], [] => some true
 | _, _ => some false
noncomputable def aem (mt : Nat → Option Fn) (nf : Nat → Nat) (h : Hh) : D → D → Option Bool
 | .tup l, .tup m => ab9 mt nf h l m
 | _, _ => none
noncomputable def agj (mt : Nat → Option Fn) (nf : Nat → Nat) (x y : D) : M Bool := fun fr h => M.opt (aem mt nf h x y) fr h
structure NfF (T : Tb) (mt : Nat → Option Fn) (nf : Nat → Nat) : Prop where
 ex : ∀ c F, mt c = some F → (T.fld c).length = nf c
end
end Pk
namespace L2
open PySem PySem.Spec PyProof.Rows
def endsAt (oi : Option Nat) (D : Ends) : Ends := match oi with
 | none => D
 | some i => { nx := fun σ' H' => D.nx (σ'.set i none) H', rt := D.rt, bk := fun σ' H' => D.bk (σ'.set i none) H', ct := fun σ' H' => D.ct (σ'.set i none) H' }
def Ul (oi : Option Nat) (σ : St) (a : Addr) : St := match oi with
 | none => σ
 | some i => σ.set i (some (.ref a))
abbrev KZ := Value × Option Nat × (Addr → Value → Option Addr → TS)
def aen (K : PySem.W.Frag) (Wout : WX) (D : Ends) : List KZ → WX
 | [] => Wout
 | (c, oi, ts) :: r => fun cls d σ H => ∃ b, PySem.W.exmOne K cls c = some b ∧ (b = true → ∀ a, H a = none → ts a cls d (endsAt oi D) (Ul oi σ a) H) ∧ (b = false → aen K Wout D r cls d σ H)
inductive K6 (X : Cx) : Option Str → Option Nat → Prop
 | no : K6 X none none
 | at_ {n : Str} {i : Nat} (hi : X.N[i]? = some n) (hln : X.env.kindOf n = some .local) : K6 X (some n) (some i)
inductive Hg (X : Cx) : List ExceptHandler → List KZ → Prop
 | nil : Hg X [] []
 | cons {x : Str} {c : Value} {ts : Addr → Value → Option Addr → TS} {b₀ : Stmt} {suite : List Stmt} {np pos' : Pos} {nm : Option Str} {oi : Option Nat} {hds : List ExceptHandler} {l : List KZ} (hc : Names X x c) (hn : K6 X nm oi)
  (hsu : ∀ (a : Addr) (oe : Obj) (cls : Value) (d : Option Addr) (pn : List (Addr × Obj)), Zc cls d oe → (∃ vs, oe.data = .fields vs) → PSs (X.suite a ((a, oe) :: pn)) (b₀ :: suite) (ts a cls d)) (r : Hg X hds l) :
  Hg X (.ExceptHandler (some (.Name x np)) nm (b₀ :: suite) pos' :: hds) ((c, oi, ts) :: l)
section
variable {X : Cx} {body : List Stmt} {h₀ : ExceptHandler} {hds : List ExceptHandler} {l : List KZ} {pos : Pos} {tb : WX → TS} {Wout : WX}
end
end L2
namespace Pk
open PySem PySem.Spec L2
abbrev Hd := Option Nat × (Nat → Option Bool) × (aW → M Fl)
def ZD : List Hd → aW → M Fl
 | [], x => fun fr h => .exc x fr h
 | (oi, cond, ms) :: r, x => fun fr h => match cond x.c with
   | some true => match oi with
     | some i => if i < fr.length then Vx i (ms x (fr.set i none) h) else .err
     | none => ms x fr h
   | some false => ZD r x fr h
   | none => .err
def afB (cs : List Hd) (mb : M Fl) : M Fl := fun fr h => match mb fr h with
 | .exc x fr1 h1 => ZD cs x fr1 h1
 | r => r
section
variable {X : Cx} {T : Tb} {W : WX} {k : Nat} {body : List Stmt} {h₀ : ExceptHandler} {hds : List ExceptHandler} {pos : Pos} {mb : M Fl} {cs : List Hd}
inductive Hi (X : Cx) (T : Tb) (W : WX) : List ExceptHandler → List Hd → Prop
 | nil : Hi X T W [] []
 | named {x n : Str} {c : Value} {cond : Nat → Option Bool} {b₀ : Stmt} {suite : List Stmt} {np pos' : Pos} {i : Nat} {ms : aW → M Fl} {hds : List ExceptHandler} {l : List Hd} (hi : X.N[i]? = some n) (hln : X.env.kindOf n = some .local) (hc : Names X x c)
  (hcond : ∀ cc b, cond cc = some b → PySem.W.exmOne X.K (.ref (T.cad cc)) c = some b)
  (hsu : ∀ (a : Addr) (oe : Obj) (cls : Value) (d : Option Addr) (pn : List (Addr × Obj)) (y : aW), Su X T i a oe cls d pn y → Nb (PX X.K T i a y cls d) (X.suite a ((a, oe) :: pn)) T W (b₀ :: suite) (ms y))
  (r : Hi X T W hds l) : Hi X T W (.ExceptHandler (some (.Name x np)) (some n) (b₀ :: suite) pos' :: hds) ((some i, cond, ms) :: l)
 | only {x : Str} {c : Value} {cond : Nat → Option Bool} {b₀ : Stmt} {suite : List Stmt} {np pos' : Pos} {ms : aW → M Fl} {hds : List ExceptHandler} {l : List Hd} (hc : Names X x c)
  (hcond : ∀ cc b, cond cc = some b → PySem.W.exmOne X.K (.ref (T.cad cc)) c = some b)
  (hsu : ∀ (a : Addr) (oe : Obj) (pn : List (Addr × Obj)) (y : aW), Nb (fun _ _ => True) (X.suite a ((a, oe) :: pn)) T W (b₀ :: suite) (ms y))
  (r : Hi X T W hds l) : Hi X T W (.ExceptHandler (some (.Name x np)) none (b₀ :: suite) pos' :: hds) ((none, cond, ms) :: l)
end
end Pk
namespace Pk
open PySem PySem.Spec L2
section
variable {P : Wd → L2.St → Prop} {X : Cx} {T : Tb} {W : WX} {a b : Expr} {ma mb : M D} {pos pf : Pos} {x : Str} {tab : Tg → Tg → Option Bool}
end
end Pk
namespace Pk
open PySem PySem.Spec L2
def afC (_ : Hh) : D → Option D
 | .bl b => some (.str (if b then "True" else "False"))
 | _ => none
def uP (_ : Hh) : D → Option D
 | .bl b => some (.bl b)
 | .int i => some (.bl (i != 0))
 | _ => none
section
variable {X : Cx} {T : Tb} {W : WX} {a : Expr} {ma : M D} {pos pf : Pos}
theorem JQ (sa : aR X T W a ma) (hm : X.mg "bool" = none) (hg : Gl X "bool" := by rfl) (he : starEach (a :: []) X.env = (false, eval a X.env) :: starEach [] X.env := by exact cJ rfl) : aR X T W (.Call (.Name "bool" pf) [a] [] pos) (aF uP ma) :=
 Vq (id := "bool") sa (fun B w σ H fr h x d z Q R rx q k => by
  unfold uP at q
  split at q
  · cases q
    rw [Gm rx]
    exact gR call_bool1 (.inr ⟨_, rfl, k w H _ (Wd.le_refl _) R (.bl _)⟩)
  · cases q
    rw [iy rx]
    exact gR call_bool1 (.inl ⟨_, rfl, k w H _ (Wd.le_refl _) R (.bl _)⟩)
  · cases q) hm hg (by decide +kernel) (by decide) (by decide) he
end
end Pk
namespace Pk
open PySem PySem.Spec PyProof.Rows L2
def afD : List Stmt → Expr
 | .Expr (.Call _ [e] _ _) _ :: _ => e
 | _ => .Name "" ⟨0, 0, 0, 0⟩
def ZF : List D → Option (List Str)
 | [] => some []
 | .str s :: r => (ZF r).map (s :: ·)
 | _ => none
def aeD (K : PySem.W.Frag) (H : Hp) (vs : List V) : Prop := ∃ (a : Addr) (ss : List Str), vs = [.ref a] ∧ SqT K H a (ss.map V.str) ∧ (ss.map (·.length)).sum + ss.length ≤ 1000
def aeo (ds : List D) : Bool := match ds with
 | [.tup l] => match ZF l with
   | some ss => decide ((ss.map (·.length)).sum + ss.length ≤ 1000)
   | none => false
 | _ => false
inductive JP (scope : Scope) (m : Str → Option Value) : List Expr → List Str → Prop
 | nil : JP scope m [] []
 | con {z : Str} {j : Nat} {pos : Pos} {es : List Expr} {ys : List Str} (hz : z.length ≤ 2000) (r : JP scope m es ys) : JP scope m (.Constant (.str z) j pos :: es) (z :: ys)
 | int {f : Str} {i : Int} {t : Tok} {pos pos2 : Pos} {es : List Expr} {ys : List Str} (hl : scope.names.lookup f = some .local) (hd : (f == ("__debug__" : Str)) = false) (hm : m f = some (.int i t)) (hi : i.natAbs.log2 < 1920) (r : JP scope m es ys) : JP scope m (.FormattedValue (.Name f pos) (-1) none pos2 :: es) (toString i :: ys)
 | str {f y : Str} {t : Tok} {pos pos2 : Pos} {es : List Expr} {ys : List Str} (hl : scope.names.lookup f = some .local) (hd : (f == ("__debug__" : Str)) = false) (hm : m f = some (.str y t)) (hy : y.length ≤ 2000) (r : JP scope m es ys) : JP scope m (.FormattedValue (.Name f pos) (-1) none pos2 :: es) (y :: ys)
section
variable {scope : Scope} {qual : Str} {m : Str → Option Value} {L fI cda cc : Addr} {prog : Program} {w : World} {A' : Around} {h : Heap} {g : Array GenState} {d : Drawn} {os : OsState} {E' : Value → Shared → Prop}
end
end Pk
namespace L2
open PySem PySem.Spec PyProof.Rows
def Ru (X : Cx) (te : Expr) (tst : Value → Option Bool) : Prop :=
 ∀ (a : Addr) (oe : Obj) (pn pins : List (Addr × Obj)) (σ : St) (H : Hp) (s : Shared) (cls : Value) (b : Bool) (Q : Bool → Shared → Prop) (E : Value → Shared → Prop), Inv (X.suite a ((a, oe) :: pn)) pins σ H s → PySem.W.Looks (model X.prog X.w) s.heap (typeOf (.ref a)) cls → tst cls = some b →
   (∀ h', (∀ q o, s.heap.get? q = some o → h'.get? q = some o) → Q b { s with heap := h' }) →
   wpAny (model X.prog X.w) (X.A.mark (some (.ref a))) (eval te X.env) (fun c s1 => wpAny (model X.prog X.w) (X.A.mark (some (.ref a))) (excMatches (.ref a) c) Q E s1) E s
abbrev Iv := (Value → Option Bool) × Option Nat × (Addr → Value → Option Addr → TS)
def adq (Wout : WX) (D : Ends) : List Iv → WX
 | [] => Wout
 | (c, oi, ts) :: r => fun cls d σ H => ∃ b, c cls = some b ∧ (b = true → ∀ a, H a = none → ts a cls d (endsAt oi D) (Ul oi σ a) H) ∧ (b = false → adq Wout D r cls d σ H)
inductive JR (X : Cx) : List ExceptHandler → List Iv → Prop
 | nil : JR X [] []
 | cons {te : Expr} {c : Value → Option Bool} {ts : Addr → Value → Option Addr → TS} {b₀ : Stmt} {suite : List Stmt} {pos' : Pos} {nm : Option Str} {oi : Option Nat} {hds : List ExceptHandler} {l : List Iv} (hc : Ru X te c) (hn : K6 X nm oi)
  (hsu : ∀ (a : Addr) (oe : Obj) (cls : Value) (d : Option Addr) (pn : List (Addr × Obj)), Zc cls d oe → (∃ vs, oe.data = .fields vs) → PSs (X.suite a ((a, oe) :: pn)) (b₀ :: suite) (ts a cls d)) (r : JR X hds l) :
  JR X (.ExceptHandler (some te) nm (b₀ :: suite) pos' :: hds) ((c, oi, ts) :: l)
section
variable {X : Cx} {body : List Stmt} {h₀ : ExceptHandler} {hds : List ExceptHandler} {l : List Iv} {pos : Pos} {tb : WX → TS} {Wout : WX}
end
end L2
namespace Pk
open PySem PySem.Spec L2
section
variable {X : Cx} {T : Tb} {W : WX} {k : Nat} {body : List Stmt} {h₀ : ExceptHandler} {hds : List ExceptHandler} {pos : Pos} {mb : M Fl} {cs : List Hd}
inductive Hj (X : Cx) (T : Tb) (W : WX) : List ExceptHandler → List Hd → Prop
 | nil : Hj X T W [] []
 | named {te : Expr} {n : Str} {tst : Value → Option Bool} {cond : Nat → Option Bool} {b₀ : Stmt} {suite : List Stmt} {pos' : Pos} {i : Nat} {ms : aW → M Fl} {hds : List ExceptHandler} {l : List Hd} (hi : X.N[i]? = some n) (hln : X.env.kindOf n = some .local) (hc : Ru X te tst)
  (hcond : ∀ cc b, cond cc = some b → tst (.ref (T.cad cc)) = some b)
  (hsu : ∀ (a : Addr) (oe : Obj) (cls : Value) (d : Option Addr) (pn : List (Addr × Obj)) (y : aW), Su X T i a oe cls d pn y → Nb (PX X.K T i a y cls d) (X.suite a ((a, oe) :: pn)) T W (b₀ :: suite) (ms y))
  (r : Hj X T W hds l) : Hj X T W (.ExceptHandler (some te) (some n) (b₀ :: suite) pos' :: hds) ((some i, cond, ms) :: l)
 | only {te : Expr} {tst : Value → Option Bool} {cond : Nat → Option Bool} {b₀ : Stmt} {suite : List Stmt} {pos' : Pos} {ms : aW → M Fl} {hds : List ExceptHandler} {l : List Hd} (hc : Ru X te tst)
  (hcond : ∀ cc b, cond cc = some b → tst (.ref (T.cad cc)) = some b)
  (hsu : ∀ (a : Addr) (oe : Obj) (pn : List (Addr × Obj)) (y : aW), Nb (fun _ _ => True) (X.suite a ((a, oe) :: pn)) T W (b₀ :: suite) (ms y))
  (r : Hj X T W hds l) : Hj X T W (.ExceptHandler (some te) none (b₀ :: suite) pos' :: hds) ((none, cond, ms) :: l)
def agk (K : PySem.W.Frag) (C : Addr) : Bool := PySem.W.excIn K C [.type "ValueError", .type "Exception", .type "BaseException", .type "object"] "ValueError.__new__" && (PySem.W.keepIn K (.ref C) && (decide (PySem.W.subIn K (.ref C) (.type "BaseException") = some true) && decide (PySem.W.typeIn K (.ref C) = some (.type "type"))))
structure ExB (K : PySem.W.Frag) (C : Addr) : Prop where
 q : PySem.W.excIn K C [.type "ValueError", .type "Exception", .type "BaseException", .type "object"] "ValueError.__new__" = true
 kC : PySem.W.keepIn K (.ref C) = true
 exC : PySem.W.subIn K (.ref C) (.type "BaseException") = some true
 tyC : PySem.W.typeIn K (.ref C) = some (.type "type")
def aeE (c : Nat) (ma : M D) : M Fl := ma.bind fun _ fr h => .exc ⟨c, []⟩ fr h
end
section
variable {P : Wd → L2.St → Prop} {X : Cx} {T : Tb} {W : WX} {a b e : Expr} {m ma mb : M D} {pos : Pos}
end
end Pk
namespace Pk
open PySem PySem.Spec L2
def Ek : List D → List D → List D
 | a :: as, b :: bs => .tup [a, b] :: Ek as bs
 | _, _ => []
def aep : D → D → Option (List D)
 | .tup l, .tup m => some (Ek l m)
 | .fl l, .fl m => some (Ek l m)
 | .fl l, .kl m => some (Ek l m)
 | .kl l, .fl m => some (Ek l m)
 | .kl l, .kl m => some (Ek l m)
 | _, _ => none
def agl (ma mb : M D) : M (List D) := ma.bind fun x => mb.bind fun y => M.opt (aep x y)
section
variable {X : Cx} {T : Tb} {W : WX} {k kk : Nat} {pos p tpos : Pos} {elts : List Expr} {a b : Expr} {ma mb : M D}
end
section
variable {P : Wd → L2.St → Prop} {X : Cx} {T : Tb} {W : WX} {k : Nat} {a b e : Expr} {m ma mb : M D} {pos : Pos}
end
def agm (n : Nat) (gs : List D → M Unit) (d : D) : M Unit := match d with
 | .tup l => if l.length = n then gs l else M.opt none
 | .fl l => if l.length = n then gs l else M.opt none
 | _ => M.opt none
def agn (_ : Hh) : D → D → Option D
 | .fl l, .int k => if 0 ≤ k ∧ k < 1000 ∧ l.length ≤ 100 then some (.nl (List.replicate k.toNat l).flatten) else none
 | _, _ => none
section
variable {X : Cx} {T : Tb} {W : WX} {k kk n : Nat} {is : List Nat} {tgs : List Expr} {gs : List D → M Unit} {pos : Pos} {a b : Expr} {ma mb : M D}
end
def putS : List Nat → List V → L2.St → L2.St
 | i :: is, v :: vs, σ => putS is vs (σ.set i (some v))
 | _, _, σ => σ
section
variable {X : Cx} {T : Tb} {W : WX} {k : Nat} {a b c : Expr} {pos : Pos}
end
end Pk
namespace Pk
open PySem PySem.Spec PyProof.Rows L2
section
variable {prog : Program} {w : World} {A : Around} {E : Value → Shared → Prop} {s : Shared} {l : Addr} {its : List Value} {ns : List Int} {Q : Value → Shared → Prop}
end
def afE (K : PySem.W.Frag) : List V → Hp → VK → Prop := fun vs H Q => ∃ (a : Addr) (ns : List Int), vs = [V.ref a] ∧ SqT K H a (ns.map V.int) ∧ 0 < ns.length ∧ ∀ m, m ∈ ns → (∀ y, y ∈ ns → y ≤ m) → Q (.int m) H
section
variable {X : Cx} {T : Tb} {W : WX} {k : Nat} {e a b c : Expr} {es : List Expr} {m ma mb mc : M D} {pos pf : Pos}
def afF (h : Hh) (d : D) : Option D := match d with
 | .tup l => match D.ints l with
   | some (a :: r) => some (.int (Vr a r))
   | _ => none
 | _ => adf h d
end
end Pk
namespace Pk
open PySem PySem.Spec PyProof.Rows L2
section
variable {P : Program} {w : World} {A : Around} {E : Value → Shared → Prop} {s : Shared} {env : Env} {x : Str} {pe pt px p0 pc pos : Pos} {iter : Expr} {scope : Scope} {cl : List (Str × Addr)} {c : Int} {k0 : Nat} {Q : Value → Shared → Prop}
def aeq (ns : List Int) (c : Int) (i : Nat) (k : Int) : Bool := decide (k ∈ (ns.take i).filter fun k => decide (k > c))
end
def aca (a : Int) : List Int → List Int
 | [] => [a]
 | b :: l => if a < b then a :: b :: l else if a = b then b :: l else b :: aca a l
def ZG : List Int → List Int
 | [] => []
 | a :: l => aca a (ZG l)
section
variable {X : L2.Cx} {T : Tb} {W : WX} {k : Nat} {a iter : Expr} {ma : M D} {pf pos pe pt px p0 pc pos2 : Pos} {x : Str} {scope : Scope} {cl : List (Str × Addr)} {c : Int} {k0 : Nat}
def vSt (w0 : World) (c : Int) : iw V D := fun _ _ _ _ _ H _ v d => ∃ p is n, v = .ref p ∧ d = .fl (is.map .int) ∧ H p = some (SetO w0 p (aeq is c is.length) n) ∧ n ≤ is.length ∧ is.length ≤ 50
def bTI : D → Option D
 | .tup l => match D.ints l with
   | some is => if is.length ≤ 50 then some (.fl (is.map .int)) else none
   | none => none
 | _ => none
def aeN (c : Int) (_ : Hh) (d : D) : Option D := match d with
 | .fl l => match D.ints l with
   | some is => some (.nl ((ZG (is.filter fun k => decide (k > c))).map .int))
   | none => none
 | _ => none
def acb (a : Int) : List Int → List Int
 | [] => [a]
 | b :: l => if a ≤ b then a :: b :: l else b :: acb a l
def ZJ : List Int → List Int
 | [] => []
 | a :: l => acb a (ZJ l)
def aeF (h : Hh) (d : D) : Option D := match d.lints h with
 | some is => if is.length < 64 then some (.nl ((ZJ is).map .int)) else none
 | none => none
end
end Pk
namespace Pk
open PySem PySem.Spec L2
def vJC : iw It (Nat × List D × List D) := fun K T B _ w _ _ J x => ∀ i w1 σ1 H1 fr1 h1, w.le w1 → Rel K T B w1 σ1 H1 fr1 h1 → h1[x.1]? = some (.nl x.2.1) →
 (x.2.2.length ≤ i → J.stop i H1) ∧ ∀ d, x.2.2[i]? = some d → J.go i H1 ∧ ∀ y H2, J.yld i H1 y H2 → ∃ w2, w1.le w2 ∧ Rel K T B w2 σ1 H2 fr1 h1 ∧ bD K T w2 y d
open Classical in
noncomputable def pq (n : Nat) (l : List D) (g : D → M Unit) (b : M Fl) : List D → M Fl
 | [] => fun fr h => if h[n]? = some (.nl l) then .ok .nx fr h else .err
 | d :: ds => fun fr h => if h[n]? = some (.nl l) then (match g d fr h with
   | .ok _ fr h => match b fr h with
     | .ok .nx fr h => pq n l g b ds fr h
     | .ok .ct fr h => pq n l g b ds fr h
     | .ok .brk fr h => .ok .nx fr h
     | .ok (.rt d) fr h => .ok (.rt d) fr h
     | .exc x fr h => .exc x fr h
     | .err => .err
   | _ => .err) else .err
noncomputable def zH (li : M (Nat × List D × List D)) (g : D → M Unit) (b : M Fl) : M Fl := li.bind fun x => pq x.1 x.2.1 g b x.2.2
def u5 (h : Hh) (d : D) : Option (Nat × List D) := match d with
 | .ref n => match h[n]? with
   | some (.nl l) => some (n, l)
   | _ => none
 | _ => none
theorem VD {h : Hh} {d : D} {n : Nat} {l : List D} (e : u5 h d = some (n, l)) : d = .ref n ∧ h[n]? = some (.nl l) := by
 unfold u5 at e
 split at e
 · split at e
   · rename_i q; cases e; exact ⟨rfl, q⟩
   · cases e
 · cases e
def Nv (m : M D) : M (Nat × List D × List D) := m.bind fun d fr h => M.opt ((u5 h d).map fun x => (x.1, x.2, x.2)) fr h
def aer (h : Hh) (d e : D) : Option (Nat × List D × List D) := match u5 h d, e with
 | some (n, l), .fl m => some (n, l, Ek l m)
 | _, _ => none
def afG (ma mb : M D) : M (Nat × List D × List D) := ma.bind fun d => mb.bind fun e fr h => M.opt (aer h d e) fr h
section
variable {X : Cx} {T : Tb} {W : WX} {k kk : Nat} {pos p tpos : Pos} {tg iter a c : Expr} {elts : List Expr} {body : List Stmt} {g : D → M Unit} {b : M Fl} {is : List Nat} {li : M (Nat × List D × List D)} {ma mb : M D}
theorem ace (C : Cq X T W k) (si : gj (WI X tg iter) X.K T W vJC li) (sg : Be X T is tg g) (sb : uX X T W body b) (hs : ∀ x, foldedSetIterable iter X.env x = pure x := by intro _; rfl) : qu X T W (.For tg iter body [] pos) (zH li g b) := fun B w σ H fr h D R p =>
 oZ (ps_for C.po C.calm Gx QJ ug hs) (si B w σ H fr h _ R (cC.bind (VR := vJC X.K T B σ) p fun x fr1 h1 w1 H1 J e1 l1 r1 vj p1 => by
  obtain ⟨n, l, ds⟩ := x
  refine ⟨fun i m σ H => m = ds.length - i ∧ i ≤ ds.length ∧ ∃ w' fr' h', w1.le w' ∧ Rel X.K T B w' σ H fr' h' ∧ cC X.K T B W w' (pq n l g b (ds.drop i) fr' h') D, ⟨ds.length, by simp, Nat.zero_le _, w1, fr1, h1, Wd.le_refl _, r1, p1⟩, ?_⟩
  rintro i m σ2 H2 ⟨rfl, hi, w2, fr2, h2, l2, r2, p2⟩
  by_cases hlt : i < ds.length
  · have ed : ds.drop i = ds[i] :: ds.drop (i + 1) := List.drop_eq_getElem_cons hlt
    rw [ed] at p2
    unfold pq at p2
    by_cases hc : h2[n]? = some (.nl l)
    · rw [if_pos hc] at p2
      obtain ⟨js, jg⟩ := vj i w2 σ2 H2 fr2 h2 l2 r2 hc
      obtain ⟨go, y⟩ := jg ds[i] (ahi hlt)
      refine .inr ⟨go, fun σ' H' => ∃ w' fr' h', w1.le w' ∧ Rel X.K T B w' σ' H' fr' h' ∧ cC X.K T B W w' (pq n l g b (ds.drop (i + 1)) fr' h') D, fun σ' H' q => ⟨ds.length - (i + 1), by omega, rfl, hlt, q⟩, fun x H3 yx => ?_⟩
      obtain ⟨w3, l3, r3, rx⟩ := y x H3 yx
      refine sg B w3 σ2 H3 fr2 h2 x ds[i] _ r3 rx ?_
      cases e2 : g ds[i] fr2 h2 with
      | ok u fr3 h3 =>
        rw [e2] at p2
        intro w4 σ4 H4 l4 r4 _
        refine sb B w4 σ4 H4 fr3 h3 _ r4 ?_
        have l34 : w1.le w4 := Wd.le_trans l2 (Wd.le_trans l3 l4)
        dsimp only at p2
        cases e3 : b fr3 h3 with
        | ok f fr4 h4 =>
          rw [e3] at p2
          cases f with
          | nx => exact fun w5 σ5 H5 l5 r5 => ⟨w5, fr4, h4, Wd.le_trans l34 l5, r5, p2.le (Wd.le_trans (Wd.le_trans l3 l4) l5)⟩
          | ct => exact fun w5 σ5 H5 l5 r5 => ⟨w5, fr4, h4, Wd.le_trans l34 l5, r5, p2.le (Wd.le_trans (Wd.le_trans l3 l4) l5)⟩
          | brk => exact fun w5 σ5 H5 l5 r5 => p2 w5 σ5 H5 (Wd.le_trans (Wd.le_trans l3 l4) l5) r5
          | rt d => exact fun w5 σ5 H5 v l5 r5 rv => p2 w5 σ5 H5 v (Wd.le_trans (Wd.le_trans l3 l4) l5) r5 rv
        | exc y fr4 h4 =>
          rw [e3] at p2
          exact fun w5 σ5 H5 cc dd l5 r5 z => p2 w5 σ5 H5 cc dd (Wd.le_trans (Wd.le_trans l3 l4) l5) r5 z
        | err => rw [e3] at p2; exact p2
      | exc y fr3 h3 => rw [e2] at p2; exact p2
      | err => rw [e2] at p2; exact p2
    · rw [if_neg hc] at p2
      exact p2.elim
  · have e : i = ds.length := by omega
    subst e
    rw [List.drop_length] at p2
    unfold pq at p2
    by_cases hc : h2[n]? = some (.nl l)
    · rw [if_pos hc] at p2
      exact .inl ⟨(vj _ w2 σ2 H2 fr2 h2 l2 r2 hc).1 (Nat.le_refl _), p2 w2 σ2 H2 (Wd.le_refl _) r2⟩
    · rw [if_neg hc] at p2
      exact p2.elim))
theorem Rv {K : PySem.W.Frag} {B : Bs} {w : Wd} {σ : L2.St} {H : Hp} {fr : Fr} {h : Hh} {q : Addr} {n : Nat} {l : List D} (R : Rel K T B w σ H fr h) (hq : w.I[n]? = some q) (hc : h[n]? = some (.nl l)) : ∃ vs, SqL K H q vs ∧ az K T w vs l := by
 obtain ⟨o, eH, ro⟩ := R.cel n q _ hq hc
 cases ro with
 | lst r => exact ⟨_, SqL.of eH, r⟩
theorem adt {w w' : Wd} {n : Nat} {q : Addr} (l : w.le w') (h : w.I[n]? = some q) : w'.I[n]? = some q := by
 obtain ⟨r, e⟩ := l.2
 rw [e, ahB (List.getElem?_eq_some_iff.mp h).1]
 exact h
end
end Pk
namespace PySem
namespace SlK
open Sem (wp)
open PySem.W PySem.Calls PyProof.Rows
section
variable {prog : Program} {w : World} {A : Around} {E : Value → Shared → Prop} {h : Heap} {g : Array GenState} {d : Drawn} {t : Nat} {os : OsState} {a : Addr} {o : Obj}
end
section
variable {prog : Program} {w : World} {A : Around} {E : Value → Shared → Prop} {s : Shared} {K : Frag} {x C L f : Addr} {h₀ : Heap} {m : Str → Option Value} {ox : Obj} {od : Option Obj}
end
end SlK
end PySem
namespace Pk
open PySem PySem.Spec L2
def ago (K : PySem.W.Frag) (C : Addr) : Bool := PySem.W.noSeq K C
structure agp (K : PySem.W.Frag) (T : Tb) (mt : Nat → Option Fn) : Prop where
 ex : ∀ c F, mt c = some F → PySem.W.noSeq K (T.cad c) = true
section
variable {X : Cx} {T : Tb} {W : WX} {k kk j n c : Nat} {pos pf px p2 : Pos} {a b e : Expr} {es : List Expr} {lo hi : Option Expr} {ma mb m : M D} {ml mh : M (Option Int)} {x : Str}
def aeO (mt : Nat → Option Fn) (ma : M D) (ml mh : M (Option Int)) : M D := ma.bind fun o => ml.bind fun l => mh.bind fun u => Eh mt o [.sl l u]
def aes (t : String) : Bool := ["int", "bool", "str", "tuple", "list"].contains t
def afH (tab : Tg → Tg → Option Bool) (h : Hh) (d c : D) : Option D := match d with
 | .sl _ _ => match c with
   | .ty t => if aes t then some (.bl false) else none
   | _ => none
 | d => j9 tab h d c
theorem v8 {tab : Tg → Tg → Option Bool} (F : M5 X.K T tab) {B : Bs} {w : Wd} {σ : L2.St} {H : Hp} {fr : Fr} {h : Hh} {x y : V} {d e z : D} {Q : VK} (R : Rel X.K T B w σ H fr h) (rx : bD X.K T w x d) (ry : bD X.K T w y e) (q : j9 tab h d e = some z)
 (kk : ∀ w' H' v, w.le w' → Rel X.K T B w' σ H' fr h → vV X.K T B σ w' H' fr v z → Q v H') : cM X (.builtin "isinstance") [x, y] H Q := by
 unfold j9 at q
 cases et : d.tag h with
 | none => rw [et] at q; cases q
 | some t =>
   rw [et] at q
   have one : ∀ u, e.ctag = some u → (tab t u).map D.bl = some z → cM X (.builtin "isinstance") [x, y] H Q := fun u ec eq => by
    obtain ⟨bb, eb, rfl⟩ := Option.map_eq_some_iff.mp eq
    exact gR call_isi ⟨x, y, t.v T, u.v T, bb, rfl, Eb ry ec, Cm F R (.inl rx) et eb, F.kit t u bb eb, kk w H _ (Wd.le_refl _) R (.bl bb)⟩
   cases e with
   | tup l =>
     dsimp only at q
     cases ec : Ah l with
     | none => rw [ec] at q; cases q
     | some us =>
       rw [ec] at q
       cases us with
       | nil => cases q
       | cons u us =>
         obtain ⟨bb, eb, rfl⟩ := Option.map_eq_some_iff.mp q
         obtain ⟨p, vs, rfl, sq, rs⟩ := vC ry
         have ty : TyX X.K H x (t.v T) := by
          rcases Bf eb with z | ⟨u', b', z⟩
          · cases z
          · exact Cm F R (.inl rx) et z
         exact gR O5 ⟨x, p, vs, t.v T, (u :: us).map (Tg.v T), bb, rfl, eG R.sub sq, Ai rs ec, ty, Ec F eb, kk w H _ (Wd.le_refl _) R (.bl bb)⟩
   | cls c => exact one _ rfl q
   | ty t => exact one _ rfl q
   | _ => cases q
def afI (h : Hh) (d i : D) : Option D := match i with
 | .sl lo hi => match d.der h with
   | .fl l => some (.nl (cutD l lo hi))
   | .nl l => some (.nl (cutD l lo hi))
   | .kl l => some (.nl (cutD l lo hi))
   | _ => none
 | i => bF h d i
end
end Pk
namespace Pk
open PySem PySem.Spec L2
section
variable {X : Cx} {T : Tb} {W : WX} {k kk j n c : Nat} {pos pf px p2 p pr : Pos} {a b e : Expr} {es : List Expr} {ma mb m : M D} {ms : List (M D)} {x : Str}
def aet (a b : Int) : Bool := decide (-(2 ^ 62) ≤ a) && decide (a < 2 ^ 62) && decide (-(2 ^ 62) ≤ b) && decide (b < 2 ^ 62) && decide ((b - a).toNat ≤ 2 ^ 24)
def rgD (a b : Int) : List D := (List.range (b - a).toNat).map fun i => D.int (a + (i : Nat))
def bRg (x y : D) : Option D := match x, y with
 | .int a, .int b => if aet a b then some (.nl (rgD a b)) else none
 | _, _ => none
def aeQ (ma : M D) : M D := ma.bind fun n => M.opt (bRg (.int 0) n)
def aeR (ma mb : M D) : M D := ma.bind fun a => mb.bind fun b => M.opt (bRg a b)
def agq (i : Nat) (f : Int → Int → Int) (m : M D) : M Fl := fun fr h => match fr[i]? with
 | some (some (.int a)) => (m.bind fun d fr h => match d with
   | .int b => .ok .nx (fr.set i (some (.int (f a b)))) h
   | _ => .err) fr h
 | _ => .err
def aeu (d : D) : Option D := match d with
 | .str y => if y.length ≤ big then some (.str y) else none
 | .int i => if i.natAbs.log2 < 1920 then some (.str (toString i)) else none
 | _ => none
def agr (m : M D) : M D := m.bind fun d => M.opt (aeu d)
def vS : iw Str Str := fun _ _ _ _ _ _ _ b c => b = c
def mJs : List (M D) → Str → M Str
 | [], acc => M.ret acc
 | m :: ms, acc => m.bind fun d => match d with
   | .str y => if (acc ++ y).length ≤ big then mJs ms (acc ++ y) else M.opt none
   | _ => M.opt none
def ags (X : Cx) (T : Tb) (W : WX) (es : List Expr) (ms : List (M D)) : Prop := ∀ acc, gj (fun σ H Q => tJs (es.map fun e => (WE X e : TE)) acc σ H Q) X.K T W vS (mJs ms acc)
def afJ (ms : List (M D)) : M D := (mJs ms Str.empty).bind fun s => M.ret (.str s)
end
structure WM (X : Cx) (cs : List MatchCase) (z : Str) (D : Ends) (σ : L2.St) (H : Hp) : Prop where
 go : ∀ pins s t first, Inv X pins σ H s → wpAny (model X.prog X.w) X.A (matchCases cs X.env (.str z t) first) (SP X pins D) X.xe s
structure agt (X : Cx) (p : Pattern) (ss : List Str) : Prop where
 go : ∀ (z : Str) pins (σ : L2.St) (H : Hp) s t (R : Option (List (Str × Value)) → Shared → Prop), Inv X pins σ H s → (∀ s', Inv X pins σ H s' → R (if ss.contains z then some [] else none) s') → wpAny (model X.prog X.w) X.A (matchPattern p X.env (.str z t)) R X.xe s
structure afK (X : Cx) (ps : List Pattern) (ss : List Str) : Prop where
 go : ∀ (z : Str) pins (σ : L2.St) (H : Hp) s t (R : Option (List (Str × Value)) → Shared → Prop), Inv X pins σ H s → (∀ s', Inv X pins σ H s' → R (if ss.contains z then some [] else none) s') → wpAny (model X.prog X.w) X.A (matchFirst ps X.env (.str z t)) R X.xe s
section
variable {X : Cx} {T : Tb} {W : WX} {pos p2 : Pos} {e : Expr} {m : M D} {cs : List MatchCase} {ms : List (List Str × M Fl)} {body : List Stmt} {mb : M Fl} {pt : Pattern} {pts : List Pattern} {ss ts : List Str} {y : Str} {jj : Nat}
def agu (X : Cx) (T : Tb) (W : WX) (cs : List MatchCase) (m : Str → M Fl) : Prop := ∀ z, ∀ (B : Bs) (w : Wd) (σ : L2.St) (H : Hp) (fr : Fr) (h : Hh) (D : Ends), Rel X.K T B w σ H fr h → cC X.K T B W w (m z fr h) D → WM X cs z D σ H
def acg : List (List Str × M Fl) → Str → M Fl
 | [], _ => M.ret .nx
 | (ss, b) :: r, z => if ss.contains z then b else acg r z
def aeS (m : M D) (f : Str → M Fl) : M Fl := m.bind fun d => match d with
 | .str z => f z
 | _ => fun _ _ => .err
end
end Pk
namespace Pk
open PySem PySem.Spec L2
section
variable {X : Cx} {T : Tb} {W : WX} {k : Nat} {pos pf : Pos} {a : Expr} {ma : M D}
def afL (_ : Hh) (d : D) : Option D := match d with
 | .int i => if i.natAbs.log2 < 1920 then some (.str (toString i)) else none
 | .str z => some (.str z)
 | _ => none
end
end Pk
namespace Pk
open PySem PySem.Spec L2
section
variable {X : Cx} {T : Tb} {W : WX} {k j : Nat} {pos : Pos} {a b : Expr} {ma mb : M D}
end
end Pk
namespace Pk
open PySem PySem.Spec PyProof.Rows L2
section
variable {prog : Program} {w : World} {A : Around} {E : Value → Shared → Prop} {s : Shared} {l : Addr} {its : List Value} {ns : List Int} {Q : Value → Shared → Prop}
end
def afM (K : PySem.W.Frag) : List V → Hp → VK → Prop := fun vs H Q => ∃ (a : Addr) (ns : List Int), vs = [V.ref a] ∧ SqT K H a (ns.map V.int) ∧ Q (.int ns.sum) H
section
variable {X : Cx} {T : Tb} {W : WX} {k : Nat} {e a b c : Expr} {es : List Expr} {m ma mb mc : M D} {pos pf : Pos}
def afN (h : Hh) (d : D) : Option D := match d with
 | .tup l => (D.ints l).map fun l => .int l.sum
 | _ => aed h d
end
end Pk
namespace PySem
namespace OwA
open PySem.W PySem.Calls PyProof.Rows
section
variable {prog : Program} {w : World} {A : Around} {E : Value → Shared → Prop} {s : Shared} {K : Frag} {x C L f : Addr} {h₀ : Heap} {m : Str → Option Value} {ox : Obj} {od : Option Obj}
end
end OwA
end PySem
namespace Pk
open PySem PySem.Spec L2
section
variable {X : Cx} {T : Tb} {W : WX} {k j : Nat} {pos pf : Pos} {a b : Expr} {ma mb : M D}
def agv (mt : Nat → Option Fn) (ma : M D) : M D := ma.bind fun o => rR mt o []
def afO (K : PySem.W.Frag) (C : Addr) (f : Str) (i : Int) : Bool := Rh K C && (match PySem.W.findCls K (.ref C) (.type "type") f with
 | some (.val (.int j _)) => decide (j = i)
 | _ => false)
end
end Pk
namespace PySem
namespace OwO
open PySem.W PySem.Calls PyProof.Rows
section
variable {prog : Program} {w : World} {A : Around} {E : Value → Shared → Prop} {s : Shared} {x C dx : Addr}
end
structure NmOk (nm : String) : Prop where
 n0 : fillsNumberSlot (.type "NoneType") nm = pure false
 n1 : fillsNumberSlot (.type "str") nm = pure false
 n2 : fillsNumberSlot (.type "list") nm = pure false
 n3 : fillsNumberSlot (.type "tuple") nm = pure false
 i0 : fillsNumberSlot (.type "int") nm = pure true
 b0 : fillsNumberSlot (.type "bool") nm = pure true
 i1 : numberSlotInPython (.type "int") nm = pure false
 b1 : numberSlotInPython (.type "bool") nm = pure false
 i2 : ∃ tk, typeLookup (.type "int") (dunderR nm) = pure tk
 b2 : ∃ tk, typeLookup (.type "bool") (dunderR nm) = pure tk
 ti : ∀ (prog : Program) (w : World) (A : Around) (E : Value → Shared → Prop) (s : Shared) (x C dx : Addr) (a : Int) (t : Tok), s.heap.get? x = some (instObj C dx) → ∀ P' : Option Value → Shared → Prop, P' none s → wpAny (model prog w) A (tryMethod (.int a t) (PySem.dunder nm) (.ref x)) P' E s
 tb : ∀ (prog : Program) (w : World) (A : Around) (E : Value → Shared → Prop) (s : Shared) (x C dx : Addr) (a : Bool), s.heap.get? x = some (instObj C dx) → ∀ P' : Option Value → Shared → Prop, P' none s → wpAny (model prog w) A (tryMethod (.bool a) (PySem.dunder nm) (.ref x)) P' E s
end OwO
end PySem
namespace Pk
open PySem PySem.Spec L2
structure OpF (X : Cx) (T : Tb) (k : Nat) (nm : String) (mt : Nat → Option Fn) : Prop where
 ok : PySem.OwO.NmOk nm
 ex : ∀ c F, mt c = some F → ∃ (kk : Nat) (f : Addr) (fd : FuncData) (ps : List Str), Cls X.K (T.cad c) ∧ Meth X.K (T.cad c) (PySem.dunder nm) f ∧ PySem.W.selfFirst X.K (T.cad c) = true ∧ jM X.prog X.w X.K X.mg X.base T kk f fd ps F ∧ Bn X.K T fd ps 2 [] (aq []) ∧ kk ≤ k ∧
  ∃ g, PySem.W.findIn X.K (.ref (T.cad c)) (PySem.dunderR nm) = some (some (.ref g))
structure agw (X : Cx) (T : Tb) (k : Nat) (nm : String) (mt : Nat → Option Fn) : Prop where
 ex : ∀ c F, mt c = some F → ∃ (kk : Nat) (f : Addr) (fd : FuncData) (ps : List Str), Cls X.K (T.cad c) ∧ Meth X.K (T.cad c) (PySem.dunderR nm) f ∧ PySem.W.selfFirst X.K (T.cad c) = true ∧ jM X.prog X.w X.K X.mg X.base T kk f fd ps F ∧ Bn X.K T fd ps 2 [] (aq []) ∧ kk ≤ k ∧
  (∃ g, PySem.W.findIn X.K (.ref (T.cad c)) (PySem.dunder nm) = some (some (.ref g))) ∧ PySem.W.subIn X.K (.ref (T.cad c)) (.type "int") = some false ∧ PySem.W.subIn X.K (.ref (T.cad c)) (.type "bool") = some false
def adu (mtl mtr : Nat → Option Fn) (h : Hh) (x y : D) : Option (Fn × Bool) := match ou h x y with
 | some c => (mtl c).map fun F => (F, false)
 | none => match fnOf mtl h x, y.bty h with
   | some F, some _ => some (F, false)
   | _, _ => match fnOf mtr h y, x.smp with
     | some F, true => some (F, true)
     | _, _ => none
def agx (mtl mtr : Nat → Option Fn) (ma mb : M D) : M D := ma.bind fun x => mb.bind fun y fr h => match adu mtl mtr h x y with
 | some (F, false) => bu fr (F [x, y] h)
 | some (F, true) => bu fr (F [y, x] h)
 | none => .err
section
variable {X : Cx} {T : Tb} {W : WX} {k : Nat} {a b : Expr} {ma mb : M D} {pos : Pos} {op : Operator}
def Rx (X : Cx) (T : Tb) (W : WX) (k : Nat) (σ : L2.St) (f : Addr) (x y : V) (H2 : Hp) (Q : VK) : Prop :=
 ∃ (kk : Nat) (fd : FuncData) (ps : List Str) (G : Fn), jM X.prog X.w X.K X.mg X.base T kk f fd ps G ∧ Bn X.K T fd ps 2 [] (aq []) ∧ kk ≤ k ∧
   ∀ g gV, KBn X.K fd ps 2 [] g gV → (∀ (w : Wd) (vs zs : List V) (ds es : List D), az X.K T w vs ds → az X.K T w zs es → ds.length = 2 → es.length = ([] : List Str).length → az X.K T w (gV vs zs) (aq [] ds es) ∧ (aq [] ds es).length = ps.length) →
     spF X.K T ps.length G (gV [x, y] []) H2 Q (fun c d H' => W c d σ H')
def aeT (X : Cx) (T : Tb) (W : WX) (k : Nat) (op : Operator) (σ : L2.St) (x y : V) (H2 : Hp) (Q : VK) : Prop :=
 (∃ (p1 p2 C dx dy f : Addr) (fs gs : List (Str × V)), x = .ref p1 ∧ y = .ref p2 ∧ H2 p1 = some (.ins C dx fs) ∧ H2 p2 = some (.ins C dy gs) ∧ Meth X.K C (PySem.dunder op.info.2) f ∧ PySem.W.selfFirst X.K C = true ∧ Rx X T W k σ f x y H2 Q) ∨
 (∃ (p1 C dx f g : Addr) (fs : List (Str × V)) (t : String), x = .ref p1 ∧ H2 p1 = some (.ins C dx fs) ∧ TyX X.K H2 y (.type t) ∧ t ∈ ym ∧ Meth X.K C (PySem.dunder op.info.2) f ∧ PySem.W.selfFirst X.K C = true ∧ PySem.W.findIn X.K (.ref C) (PySem.dunderR op.info.2) = some (some (.ref g)) ∧ Rx X T W k σ f x y H2 Q) ∨
 (∃ (p1 C dx f g : Addr) (fs : List (Str × V)), y = .ref p1 ∧ H2 p1 = some (.ins C dx fs) ∧ (x = .non ∨ (∃ bb, x = .bl bb) ∨ ∃ i, x = .int i) ∧ Meth X.K C (PySem.dunderR op.info.2) f ∧ PySem.W.selfFirst X.K C = true ∧ PySem.W.findIn X.K (.ref C) (PySem.dunder op.info.2) = some (some (.ref g)) ∧ PySem.W.subIn X.K (.ref C) (.type "int") = some false ∧ PySem.W.subIn X.K (.ref C) (.type "bool") = some false ∧ Rx X T W k σ f y x H2 Q)
end
end Pk
namespace Pk
open PySem PySem.Spec L2
def D.lstP (h : Hh) (d : D) : Option (List PyData) := match d.der h with
 | .fl l => D.toPs l
 | .nl l => D.toPs l
 | .kl l => D.toPs l
 | _ => none
section
variable {K : PySem.W.Frag} {T : Tb} {B : Bs} {w : Wd} {σ : L2.St} {H : Hp} {fr : Fr} {h : Hh} {v : V} {d : D} {ps : List PyData}
theorem Ry (R : Rel K T B w σ H fr h) (z : vO K T B σ w H fr v d) (e : d.lstP h = some ps) : ∃ (a : Addr) (vs : List V), v = .ref a ∧ SqL K H a vs ∧ DpAll K H vs ps := by
 rcases z with z | ⟨p, o, rfl, eH, z⟩
 · cases z with
   | fl s r => exact ⟨_, _, rfl, SqL.of (R.sub _ _ s), uG R.sub r e⟩
   | kl s r => exact ⟨_, _, rfl, jK R.sub s, uG R.sub r e⟩
   | @ref a n s =>
     have ln : n < h.length := by
      rw [← R.len]
      exact (List.getElem?_eq_some_iff.mp s).1
     obtain ⟨o, q, rr⟩ := R.cel n a h[n] s (ahi ln)
     have e0 : D.der h (.ref n) = h[n] := by
      unfold D.der
      dsimp only
      rw [ahi ln]
      rfl
     unfold D.lstP at e
     rw [e0] at e
     generalize h[n] = cc at rr e
     cases rr with
     | lst r => exact ⟨_, _, rfl, SqL.of q, uG R.sub r e⟩
     | obj r => cases e
     | dct _ r => cases e
     | dkt _ r => cases e
     | so0 _ => cases e
     | so1 _ _ => cases e
     | hid0 => cases e
     | hid1 => cases e
   | non => cases e
   | bl _ => cases e
   | int _ => cases e
   | str _ => cases e
   | tup _ _ => cases e
   | obj _ _ => cases e
   | cls _ => cases e
   | ty _ => cases e
   | sl _ => cases e
   | tp _ _ => cases e
 · cases z with
   | lst r => exact ⟨_, _, rfl, SqL.of eH, uG R.sub r e⟩
   | obj r => cases e
end
section
variable {X : Cx} {T : Tb} {W : WX} {k : Nat}
def Hk (h : Hh) (x y : D) : Option Bool := match x.toP, y.lstP h with
 | some p, some ps => if SeqAt.shaped p && SeqAt.shaped (.list ps) then some (ps.any fun z => PyData.eqv z p) else none
 | _, _ => none
def afP (h : Hh) (x y : D) : Option Bool := (Hk h x y).map (!·)
theorem W3 {h : Hh} {x y : D} {c : Bool} (q : Hk h x y = some c) : ∃ p ps, x.toP = some p ∧ y.lstP h = some ps ∧ SeqAt.shaped p = true ∧ SeqAt.shaped (.list ps) = true ∧ c = ps.any fun z => PyData.eqv z p := by
 unfold Hk at q
 split at q
 · rename_i p ps e1 e2
   split at q
   · rename_i hs
     obtain ⟨h1, h2⟩ := Bool.and_eq_true_iff.mp hs
     cases q
     exact ⟨p, ps, e1, e2, h1, h2, rfl⟩
   · cases q
 · cases q
theorem aaz (C : Cq X T W k) : mW X T vO .In Hk := fun B w σ H fr h x y d e c Q R rx ry q kk => by
 obtain ⟨p, ps, e1, e2, s1, s2, rfl⟩ := W3 q
 obtain ⟨a, vs, rfl, sq, dp⟩ := Ry R ry e2
 exact nU (op_inD (by have := C.u; omega)) ⟨p, ps, Dz R.sub rx e1, .lst sq dp, s1, s2, kk⟩
def Um (h : Hh) (o x : D) : Option D := match x.toP, o.lstP h with
 | some p, some ps => if SeqAt.shaped p && SeqAt.shaped (.list ps) then (ps.findIdx? fun z => PyData.eqv z p).map (fun j => .int (j : Nat)) else none
 | _, _ => none
def aeU (mo m : M D) : M D := mo.bind fun o fr h => if (o.lstP h).isSome then m.bind (fun x fr h => M.opt (Um h o x) fr h) fr h else .err
variable {e o : Expr} {m mo : M D} {cpos apos : Pos}
end
end Pk
namespace Pk
open PySem PySem.Spec L2
theorem M.bind_assoc {α β γ : Type} {m : M α} {f : α → M β} {g : β → M γ} : (m.bind f).bind g = m.bind fun a => (f a).bind g := by
 funext fr h
 unfold M.bind
 cases m fr h <;> rfl
def agy (ix : Nat → Option Nat) (x : D) : M D := fun fr h => M.opt (bR ix h x) fr h
section
variable {X : Cx} {T : Tb} {W : WX} {k j : Nat} {apos pos : Pos} {o b : Expr} {mo mb : M D} {f : Str} {ix : Nat → Option Nat}
end
end Pk
namespace Pk
open PySem PySem.Spec L2
def vJD : iw It (Nat × List D × List D) := fun K T _ _ w _ _ J x => ∀ i w1 B1 σ1 H1 fr1 h1, w.le w1 → Rel K T B1 w1 σ1 H1 fr1 h1 → h1[x.1]? = some (.nl x.2.1) →
 (x.2.2.length ≤ i → J.stop i H1) ∧ ∀ d, x.2.2[i]? = some d → J.go i H1 ∧ ∀ y H2, J.yld i H1 y H2 → ∃ w2, w1.le w2 ∧ Rel K T B1 w2 σ1 H2 fr1 h1 ∧ bD K T w2 y d
open Classical in
noncomputable def ZK (n : Nat) (l : List D) (vs : List Nat) (g : D → M Unit) (t : M Bool) (e : M D) : List D → M (List D)
 | [] => fun fr h => if h[n]? = some (.nl l) then .ok [] fr h else .err
 | d :: ds => fun fr h => if h[n]? = some (.nl l) then ((lB vs g t e d).bind fun o => (ZK n l vs g t e ds).bind fun r => M.ret (MT o r)) fr h else .err
noncomputable def agz (vs : List Nat) (l : M (Nat × List D × List D)) (g : D → M Unit) (t : M Bool) (e : M D) : M D := l.bind fun x => (DR vs).bind fun _ => if x.2.2.length ≤ big then (ZK x.1 x.2.1 vs g t e x.2.2).bind fun r => M.ret (.nl r) else M.opt none
section
variable {X : Cx} {T : Tb} {W : WX} {k : Nat} {pos pos' : Pos} {tg iter elt c e : Expr} {ifs : List Expr} {li : M (Nat × List D × List D)} {g : D → M Unit} {b : M Fl} {is : List Nat} {t : M Bool} {m me : M D} {scope : Scope} {own : List (Str × Nat)} {body : List Stmt}
theorem aci (s : aR X T W e m) : gj (WI X tg e) X.K T W vJD (Nv m) := fun B w σ H fr h Q r p => Ky (Wr aV) (s B w σ H fr h _ r (aJ.bind (VR := vV X.K T B σ) p fun d fr1 h1 w1 H1 x e1 l1 r1 rx p1 => by
 cases q : u5 h1 d with
 | none => rw [q] at p1; exact p1.elim
 | some z =>
   obtain ⟨n, l⟩ := z
   rw [q] at p1
   obtain ⟨rfl, hc⟩ := VD q
   cases rx with
   | @ref a n1 s1 =>
     obtain ⟨vs, sq, rv⟩ := Rv r1 s1 hc
     refine ⟨a, rfl, .inr ⟨⟨vs, sq⟩, p1 w1 H1 (Itl X.K a) (Wd.le_refl _) r1 fun i w3 B3 σ3 H3 fr3 h3 l3 r3 hc3 => ?_⟩⟩
     obtain ⟨vs3, sq3, rv3⟩ := Rv r3 (adt l3 s1) hc3
     refine ⟨fun hi => ⟨vs3, sq3, by rw [rv3.length]; exact hi⟩, fun d' hd => ?_⟩
     obtain ⟨v, hv, rv⟩ := rv3.get hd
     refine ⟨⟨vs3, v, sq3, hv⟩, fun y H4 hy => ?_⟩
     obtain ⟨rfl, hy⟩ := hy
     have z := hy vs3 sq3
     rw [hv] at z
     cases z
     exact ⟨w3, Wd.le_refl _, r3, rv⟩))
theorem adw (s : gj (WI X tg iter) X.K T W vJD li) : gj (WI X tg iter) X.K T W vJC li := fun B w σ H fr h Q r p => s B w σ H fr h Q r (by
 revert p
 cases li fr h with
 | ok x fr1 h1 => exact fun p w1 H1 J l1 r1 vj => p w1 H1 J l1 r1 fun i w2 σ2 H2 fr2 h2 l2 r2 hc => vj i w2 B σ2 H2 fr2 h2 l2 r2 hc
 | exc x fr1 h1 => exact fun p => p
 | err => exact fun p => p)
theorem acj (C : Cq X T W k) (si : gj (WI X tg iter) X.K T W vJD li) (sg : Be X T is tg g) (sb : uX X T W body b) (hs : ∀ x, foldedSetIterable iter X.env x = pure x := by intro _; rfl) : qu X T W (.For tg iter body [] pos) (zH li g b) := ace C (adw si) sg sb hs
end
section
variable {X : Cx} {T : Tb} {W : WX} {k : Nat} {pos : Pos} {tg iter elt : Expr} {ifs : List Expr} {lj : M (List D)} {g : D → M Unit} {is : List Nat} {t : M Bool} {me : M D} {scope : Scope} {own : List (Str × Nat)}
theorem Ym {B : Bs} {w : Wd} {σ : L2.St} {j : Nat} {D0 : Ends} {m : M D} {fr : Fr} {h : Hh} (p : cC X.K T B W w (bh j (vU m) fr h) D0) : aJ X.K T B W (vE X.K T B σ) w σ (m fr h) fun v H => D0.nx (σ.set j (some v)) H := by
 have p' : cC X.K T B W w (m.bind (fun d => M.bind (fun fr h => if d.own then .ok (.ref h.length) fr (h ++ [d]) else .err) fun d fr h => .ok .nx (fr.set j (some d)) h) fr h) D0 := by
  rw [← M.bind_assoc]
  exact p
 refine cC.bind (VR := vE X.K T B σ) p' fun d fr1 h1 w1 H1 v e1 l1 r1 rx p1 => ?_
 rcases rx with rx | ⟨q, o, rfl, O, lo, eH, rd⟩
 · unfold M.bind at p1
   dsimp only at p1
   rw [wM rx] at p1
   exact (show False from p1).elim
 · unfold M.bind at p1
   dsimp only at p1
   rw [rd.own] at p1
   have R2 := r1.to_cell O lo eH rd
   exact p1 ⟨w1.F, w1.I ++ [q]⟩ _ H1 ⟨fun _ _ z => z, [q], rfl⟩ (R2.putV j (.ref (by
    rw [← r1.len]
    show (w1.I ++ [q])[w1.I.length]? = some q
    rw [ahz (Nat.le_refl _), Nat.sub_self]
    rfl)))
theorem Yn (C : Cq X T W k) (j : Nat) {y : Str} {py spos : Pos} (own : List (Str × Nat)) (si : DQ X T W tg iter lj) (hi : ∀ i ∈ is, i ∈ own.map (·.2))
 (sg : ∀ (s : Shared) (H0 : Hp) (C : Addr) (cl : List (Str × Addr)) (fp : List Addr), Be (X.blk s H0 scope (compEnvC scope cl C X.env) fp) T is tg g)
 (st : ∀ (s : Shared) (H0 : Hp) (C : Addr) (cl : List (Str × Addr)) (fp : List Addr), gj (Oz (X.blk s H0 scope (compEnvC scope cl C X.env) fp) ifs) X.K T WF vB t)
 (se : ∀ (s : Shared) (H0 : Hp) (C : Addr) (cl : List (Str × Addr)) (fp : List Addr), aR (X.blk s H0 scope (compEnvC scope cl C X.env) fp) T WF elt me)
 (ok : BlkOk X.N X.env.scope scope own) (hsw : swapsWith (.ListComp elt [⟨tg, iter, ifs, 0⟩] scope pos) (some (.Name y py)) spos.line X.env = pure true) (hy : X.N[j]? = some y := by rfl) (hyl : X.env.scope.names.lookup y = some .local := by rfl)
 (hs : ∀ x, foldedSetIterable iter X.env x = pure x := by intro _; rfl) : qu X T W (.Assign [.Name y py] (.ListComp elt [⟨tg, iter, ifs, 0⟩] scope pos) spos) (bh j (vU (uN (own.map (·.2)) lj g t me))) := fun B w σ H fr h D R p =>
 oZ (ps_setLc C.calm C.nd hy hyl hsw Gx ok (fun s H C cl fp => ⟨fun pins s' σ H v u Q I r hh => hh s _ C cl fp pins s' u I r⟩) (fun s H C cl fp => ⟨fun pins s' σ H Q I hh => hh s _ C cl fp pins s' I⟩) (fun s H C cl fp => ⟨fun pins s' σ H Q I hh => (hh s _ C cl fp).go pins s' I⟩) hs)
  (QM si hi sg st se R (Ym p))
end
end Pk
namespace Pk
open PySem PySem.Spec L2
def keyD : D → Option Key
 | .int i => some (.inl i)
 | .str s => some (.inr s)
 | _ => none
def ZL : List D → Option (List Key)
 | [] => some []
 | d :: ds => (keyD d).bind fun k => (ZL ds).map fun ks => k :: ks
def valD : List (List Key) → List D → List Key → Option D
 | k' :: ks, d :: ds, k => if k' = k then some d else valD ks ds k
 | _, _, _ => none
def ack (ks : List (List Key)) (k : List Key) : Bool := ks.any fun k' => decide (k' = k)
def adx (ks : List (List Key)) (k : List Key) : List (List Key) := if ack ks k = true then ks else ks ++ [k]
def ady {α : Type} (ks : List (List Key)) (ds : List α) (k : List Key) (v : α) : List α := if ack ks k = true then List.zipWith (fun k' d => if k' = k then v else d) ks ds else ds ++ [v]
def ZM (ds : List D) : Option (List Key) := if ds.length ≤ big then ZL ds else none
def W4 (h : Hh) (d : D) : Option (Nat × List (List Key) × List D) := match d with
 | .ref n => match h[n]? with
   | some (.dc ks ds) => some (n, ks, ds)
   | _ => none
 | _ => none
def adz (h : Hh) (o : D) (ks : List D) : Option D := (W4 h o).bind fun x => (ZM ks).bind fun k => valD x.2.1 x.2.2 k
def adA (h : Hh) (o : D) (ks : List D) (d : D) : Option Hh := (W4 h o).bind fun x => (ZM ks).bind fun k => if x.2.1.length ≤ big then some (h.set x.1 (.dc (adx x.2.1 k) (ady x.2.1 x.2.2 k d))) else none
def afQ : M D := fun fr h => .ok (.ref h.length) fr (h ++ [.dc [] []])
def afR (mo : M D) (ms : List (M D)) : M D := mo.bind fun o => (aj ms).bind fun ks fr h => M.opt (adz h o ks) fr h
def afS (mo : M D) (ms : List (M D)) (mv : M D) : M Fl := mv.bind fun d => mo.bind fun o => (aj ms).bind fun ks fr h => match adA h o ks d with
 | some h' => .ok .nx fr h'
 | none => .err
section
variable {X : Cx} {T : Tb} {W : WX} {k x1 : Nat} {pos tpos pos' : Pos} {o e : Expr} {es : List Expr} {mo m : M D} {ms : List (M D)}
end
end Pk
namespace Pk
open PySem PySem.Spec L2
def agA (K : PySem.W.Frag) (ta : TE) (f : Str) : TG := fun v σ H Q => ta σ H fun x H1 => ∃ a C dx fs, x = .ref a ∧ H1 a = some (.ins C dx fs) ∧ Cls K C ∧ NoAttr K C f ∧ fs.length < 1000 ∧ Q σ (upd H1 a (.ins C dx (putF f v fs)))
section
variable {X : Cx} {o : Expr} {f : Str} {pos : Pos} {ta : TE}
end
def afT (j : Nat) (ix : Nat → Option Nat) (d : D) : M Unit := fun fr h => match fr[j]? with
 | some (some (.ref n)) => match h[n]? with
   | some (.no c fs) => match ix c with
     | some i => match nZ i d fs with
       | some fs' => .ok () fr (h.set n (.no c fs'))
       | none => .err
     | none => .err
   | _ => .err
 | _ => .err
section
variable {X : Cx} {T : Tb} {W : WX} {k kk n c : Nat} {px tpos p pos : Pos} {f : Addr} {fd : FuncData} {ps : List Str} {F : Fn} {x : Str} {e : Expr} {es : List Expr} {ma mk : M (List D)} {gD : List D → List D → List D}
structure FnC (P : Program) (w : World) (K : PySem.W.Frag) (mg : Str → Option Value) (base : Heap) (T : Tb) (k c : Nat) (f : Addr) (fd : FuncData) (ps : List Str) (F : Fn) : Prop where
 ok : FnOk P w K mg base (L2.CX P w) k f fd ps (spF K T ps.length F)
 made : Mk K (T.cad c) f
def adB (fr : Fr) (n : Nat) : R D → R D
 | .ok .non _ h => .ok (.ref n) fr h
 | .ok _ _ _ => .err
 | .exc x _ h => .exc x fr h
 | .err => .err
def aeV (c n m : Nat) (F : Fn) (gD : List D → List D → List D) (ma mk : M (List D)) : M D := ma.bind fun ds => mk.bind fun es fr h => if ds.length = n ∧ es.length = m then adB fr h.length (F (.ref h.length :: gD ds es) (h ++ [.no c []])) else .err
end
def afU (h : Hh) (d e : D) : Option D := match d, e with
 | .fl a, .ref n => match h[n]? with
   | some (.nl b) => if a.length + b.length ≤ big then some (.nl (a ++ b)) else none
   | _ => none
 | _, _ => none
section
variable {X : Cx} {T : Tb} {W : WX} {pos : Pos} {a b : Expr} {ma mb : M D}
end
end Pk
namespace Pk
open PySem PySem.Spec L2
def aeW (m : M D) : M (Nat × List D × List D) := m.bind fun d fr h => M.opt ((u5 h d).map fun x => (x.1, x.2, uh 0 x.2)) fr h
section
variable {X : Cx} {T : Tb} {W : WX} {p pos tpos : Pos} {kk : Nat} {elts : List Expr} {a : Expr} {ma : M D}
end
end Pk
namespace Pk
open PySem PySem.Spec L2
def aeG (j : Nat) (ix : Nat → Option Nat) (f : Int → Int → Int) (m : M D) : M Fl := fun fr h => match fr[j]? with
 | some (some (.ref n)) => match h[n]? with
   | some (.no c fs) => match ix c with
     | some i => match fs[i]? with
       | some (.int a) => (m.bind fun d fr h => match d with
         | .int b => match h[n]? with
           | some (.no c' fs') => if c' = c then match nZ i (.int (f a b)) fs' with
            | some fs'' => .ok .nx fr (h.set n (.no c fs''))
            | none => .err
            else .err
           | _ => .err
         | _ => .err) fr h
       | _ => .err
     | none => .err
   | _ => .err
 | _ => .err
section
variable {X : Cx} {T : Tb} {W : WX} {k : Nat} {px pos tpos apos cpos : Pos} {e o : Expr} {m mo : M D}
def aev (d : D) (l : List D) : Option (List D) := match d with
 | .fl r => if l.length + r.length ≤ big then some (l ++ r) else none
 | _ => none
def afV (i : Nat) (m : M D) : M D := (bG i jG).bind fun _ => m.bind fun d => (bG i (aev d)).bind fun _ => M.ret .non
end
def Uo (i : Nat) (f : Hh → D → D → Option Bool) (m mt : M D) (b : M Fl) : Nat → M Fl
 | 0 => fun _ _ => .err
 | n + 1 => m.bind fun d fr h => (mt.bind fun t fr h => match f h d t with
   | some true => (match b fr h with
     | .ok .nx fr h => Uo i f m mt b n fr h
     | .ok .ct fr h => Uo i f m mt b n fr h
     | .ok .brk fr h => .ok .nx fr h
     | .ok (.rt d) fr h => .ok (.rt d) fr h
     | .exc x fr h => .exc x fr h
     | .err => .err)
   | some false => .ok .nx fr h
   | none => .err) (fr.set i (some d)) h
section
variable {X : Cx} {T : Tb} {W : WX} {k : Nat} {pos px npos cpos : Pos} {e t : Expr} {m mt : M D} {body : List Stmt} {b : M Fl} {x : Str}
end
end Pk
namespace Pk
open PySem PySem.Spec L2
section
variable {P : Program} {w : World} {K : PySem.W.Frag} {mg : Str → Option Value} {base : Heap} {T : Tb} {k : Nat} {x qual : Str} {params : Arguments} {body : List Stmt} {scope : Scope} {dvs : List V} {kws : List (Str × V)} {f : Addr} {fd : FuncData} {N ps : List Str} {p0 pv : Str}
end
def spM (K : PySem.W.Frag) (T : Tb) (F : Fn) : Sp := fun vs H Q E => ∃ ws rest, vs = ws ++ rest ∧ ws.length = 1 ∧ rest.length ≤ sizeLine ∧ ∀ p, H p = Option.none → spF K T 2 F (ws ++ [V.ref p]) (upd H p (.tup rest)) Q E
structure FnM (P : Program) (w : World) (K : PySem.W.Frag) (mg : Str → Option Value) (base : Heap) (T : Tb) (k : Nat) (f : Addr) (F : Fn) : Prop where
 run : FnR P w K mg base (L2.CX P w) k f (spM K T F)
section
variable {P : Program} {w : World} {K : PySem.W.Frag} {mg : Str → Option Value} {base : Heap} {T : Tb} {k : Nat} {x qual : Str} {params : Arguments} {body : List Stmt} {scope : Scope} {f : Addr} {fd : FuncData} {N : List Str} {p0 pv : Str}
end
def aeZ (mt : Nat → Option Fn) (mo : M D) (ma : M (List D)) : M D := mo.bind fun o fr h => match fnOf mt h o with
 | some F => (ma.bind fun ds fr h => if ds.length ≤ big then bu fr (F [o, .tup ds] h) else .err) fr h
 | none => .err
def agB (m : M D) (ma : M (List D)) : M (List D) := m.bind fun d fr h => match d.its h with
 | some l => (ma.bind fun r => M.ret (l ++ r)) fr h
 | none => .err
def afW (m : M D) (ma : M (List D)) : M (List D) := m.bind fun d => ma.bind fun r => M.ret (d :: r)
structure ae0 (X : Cx) (T : Tb) (k : Nat) (m : Str) (mt : Nat → Option Fn) : Prop where
 ex : ∀ c F, mt c = some F → ∃ (kk : Nat) (f : Addr), Cls X.K (T.cad c) ∧ BMeth X.K (T.cad c) m f ∧ FnM X.prog X.w X.K X.mg X.base T kk f F ∧ m ∉ T.fld c ∧ kk ≤ k
section
variable {X : Cx} {T : Tb} {W : WX} {k kk : Nat} {f : Addr} {F : Fn} {m : Str} {p sp_ pos apos : Pos} {e o : Expr} {es : List Expr} {mo me : M D} {ma : M (List D)} {mt : Nat → Option Fn}
end
def bmX (K : PySem.W.Frag) (C : Addr) (m : Str) : Bool := He.eqO (PySem.W.specialIn K (.ref (He.ma K C m)) "__get__") (some (some (.builtin "function.__get__"))) && (decide (PySem.W.takesIn K (.ref (He.ma K C m)) = some false) && (decide (PySem.W.copiedNames.contains m = false) && PySem.W.fnIn K (He.ma K C m)))
end Pk
namespace Pk
open PySem PySem.Spec PyProof.Rows L2 GenW
section
variable {prog : Program} {w : World} {A : Around} {R : GenEnd} {Y : Protocol} {n : Nat} {s₀ : Shared} {c : Code} {fs : List Frame} {s : Shared} {env : Env} {K : Flow → Sem PySem.Fin} {J : Value → Sem PySem.Fin} {gd : Bool → Bool} {lv : List Value → List Value}
abbrev afX (env : Env) (e : Value) : Sem PySem.Fin := (do noteFrame e env; theTreesLotGoes e : Sem Unit).wrap (fun _ => .raise e) .raise id id
abbrev turned (target : Expr) (it : Value) (body : List Stmt) (env : Env) : Flow → Sem PySem.Fin := fun f => match f with
 | .next | .cont => .pure (.again (.forLoop target it body [] env))
 | .brk => .pure (.done .next)
 | .ret v => .pure (.done (.ret v))
end
end Pk
namespace Pk
open PySem PySem.Spec PyProof.Rows L2 GenW
section
variable {M : Model} {A : Around} {R : GenEnd} {Y : Protocol} {n : Nat} {s₀ : Shared} {c : Code} {fs : List Frame} {s : Shared} {env : Env} {K : Flow → Sem PySem.Fin} {J : Value → Sem PySem.Fin} {gd : Bool → Bool} {lv : List Value → List Value}
end
section
variable {X : Cx} {tg : Expr}
def afY (wi : TI) (g : TG) (tb : TGn) : TGn := fun D ys σ H => wi σ H fun J H1 => ∃ W : Nat → Nat → List V → L2.St → Hp → Prop, (∃ m, W 0 m ys σ H1) ∧ ∀ i m ys σ H, W i m ys σ H →
 (J.stop i H ∧ D.nx ys σ H) ∨ (J.go i H ∧ ∃ N : List V → L2.St → Hp → Prop, (∀ ys' σ' H', N ys' σ' H' → ∃ m', m' < m ∧ W (i + 1) m' ys' σ' H') ∧ ∀ x H', J.yld i H x H' → g x σ H' fun σ2 H2 => tb { D with nx := N, ct := N, bk := D.nx } ys σ2 H2)
end
end Pk
namespace Pk
open PySem PySem.Spec PyProof.Rows L2
def afZ (ma : M (List D)) : M D := ma.bind fun ds => M.opt (if ds.length ≤ big then some (.tup ds) else none)
section
variable {X : Cx} {T : Tb} {W : WX} {es : List Expr} {ma : M (List D)} {pos : Pos}
end
def acl (vs vs1 : List Nat) (g : D → M Unit) (t : M Bool) (l1 : M (List D)) (g1 : D → M Unit) (t1 : M Bool) (e : M D) (acc : List D) (d : D) : M (List D) := fun fr h => match g d fr h with
 | .ok _ fr h => match t fr h with
   | .ok true fr h => match l1 fr h with
     | .ok ds1 fr h => if acc.length + ds1.length ≤ big then (match lL vs1 g1 t1 e ds1 (dW fr vs1) h with
       | .ok r fr h => .ok (acc ++ r) (dW fr vs) h
       | _ => .err) else .err
     | _ => .err
   | .ok false fr h => .ok acc (dW fr vs) h
   | _ => .err
 | _ => .err
def ZP (vs vs1 : List Nat) (g : D → M Unit) (t : M Bool) (l1 : M (List D)) (g1 : D → M Unit) (t1 : M Bool) (e : M D) : List D → List D → M (List D)
 | acc, [] => M.ret acc
 | acc, d :: ds => (acl vs vs1 g t l1 g1 t1 e acc d).bind fun acc' => ZP vs vs1 g t l1 g1 t1 e acc' ds
def agC (vs vs1 : List Nat) (l : M (List D)) (g : D → M Unit) (t : M Bool) (l1 : M (List D)) (g1 : D → M Unit) (t1 : M Bool) (e : M D) : M D := l.bind fun ds => (DR vs).bind fun _ => (ZP vs vs1 g t l1 g1 t1 e [] ds).bind fun r => M.ret (.nl r)
section
variable {X : Cx} {T : Tb} {W : WX} {k : Nat} {pos pos' : Pos} {tg iter elt tg1 iter1 : Expr} {ifs ifs1 : List Expr} {li l1 : M (List D)} {g g1 : D → M Unit} {is is1 vs1 : List Nat} {t t1 : M Bool} {me : M D} {scope : Scope} {own : List (Str × Nat)}
def IB (X : Cx) (scope : Scope) (tg iter : Expr) : TI := fun σ H R => ∀ (s : Shared) (H0 : Hp) (C : Addr) (cl : List (Str × Addr)) (fp : List Addr), WI (X.blk s H0 scope (compEnvC scope cl C X.env) fp) tg iter σ H R
end
end Pk
namespace Pk
open PySem PySem.Spec PyProof.Rows L2 GenW
structure WGS (X : Cx) (st : Stmt) (D : GEnds) (ys : List V) (σ : L2.St) (H : Hp) : Prop where
 go : ∀ (A : Around) (S : Addr) (ip : List (Addr × Obj)) (R : GenEnd) (n : Nat) (s₀ : Shared) (c : Code) (fs : List Frame) (K : Flow → Sem PySem.Fin) (J : Value → Sem PySem.Fin) (gd : Bool → Bool) (lv : List Value → List Value) (s : Shared),
  GC X S ip A c fs gd → n + ys.length = sizeLine → GK X S ip A R c fs K J D → GI X S ip ys σ H s →
  Seg (model X.prog X.w) A R (GY X S) n s₀ c ((exec st X.env).wrap K J gd lv) fs s
structure aew (X : Cx) (st : List Stmt) (D : GEnds) (ys : List V) (σ : L2.St) (H : Hp) : Prop where
 go : ∀ (A : Around) (S : Addr) (ip : List (Addr × Obj)) (R : GenEnd) (n : Nat) (s₀ : Shared) (c : Code) (fs : List Frame) (K : Flow → Sem PySem.Fin) (J : Value → Sem PySem.Fin) (gd : Bool → Bool) (lv : List Value → List Value) (s : Shared),
  GC X S ip A c fs gd → n + ys.length = sizeLine → GK X S ip A R c fs K J D → GI X S ip ys σ H s →
  Seg (model X.prog X.w) A R (GY X S) n s₀ c ((execs st X.env).wrap K J gd lv) fs s
section
variable {X : Cx} {st : Stmt} {sts : List Stmt} {D : GEnds} {ys : List V} {σ : L2.St} {H : Hp}
end
def K7 (K : PySem.W.Frag) (T : Tb) (B : Bs) (w : Wd) (r : R (List D)) (E : GEnds) : Prop := match r with
 | .ok ds fr h => ∀ w' σ' H' vs, w.le w' → Rel K T B w' σ' H' fr h → az K T w' vs ds → E.nx vs σ' H'
 | _ => False
def af0 (X : Cx) (T : Tb) (st : Stmt) (m : List D → M (List D)) : Prop := ∀ (B : Bs) (w : Wd) (σ : L2.St) (H : Hp) (fr : Fr) (h : Hh) (E : GEnds) (vs : List V) (ds : List D), Rel X.K T B w σ H fr h → az X.K T w vs ds → K7 X.K T B w (m ds fr h) E → WGS X st E vs σ H
def acn (X : Cx) (T : Tb) (sts : List Stmt) (m : List D → M (List D)) : Prop := ∀ (B : Bs) (w : Wd) (σ : L2.St) (H : Hp) (fr : Fr) (h : Hh) (E : GEnds) (vs : List V) (ds : List D), Rel X.K T B w σ H fr h → az X.K T w vs ds → K7 X.K T B w (m ds fr h) E → aew X sts E vs σ H
def ae2 (m : M Fl) (ds : List D) : M (List D) := fun fr h => match m fr h with
 | .ok .nx fr h => .ok ds fr h
 | _ => .err
def gNil (ds : List D) : M (List D) := M.ret ds
def af1 (m n : List D → M (List D)) (ds : List D) : M (List D) := (m ds).bind n
def ae3 (me : M D) (ds : List D) : M (List D) := me.bind fun d => if ds.length < big then M.ret (ds ++ [d]) else fun _ _ => .err
def aco (g : D → M Unit) (b : List D → M (List D)) : List D → List D → M (List D)
 | [], out => M.ret out
 | d :: ds, out => (g d).bind fun _ => (b out).bind fun out' => aco g b ds out'
def af2 (l : M (List D)) (g : D → M Unit) (b : List D → M (List D)) (out : List D) : M (List D) := l.bind fun ds => aco g b ds out
section
variable {X : Cx} {T : Tb} {W : WX} {k : Nat} {st : Stmt} {sts body : List Stmt} {m n : List D → M (List D)} {b : List D → M (List D)} {pos yp : Pos} {e tg iter : Expr} {me : M D} {li : M (List D)} {g : D → M Unit} {is : List Nat}
theorem K7.le {K : PySem.W.Frag} {T : Tb} {B : Bs} {w w' : Wd} {r : R (List D)} {E : GEnds} (l : w.le w') (p : K7 K T B w r E) : K7 K T B w' r E := by
 cases r with
 | ok ds fr h => exact fun w2 σ' H' vs l2 r rs => p w2 σ' H' vs (Wd.le_trans l l2) r rs
 | exc _ _ _ => exact p
 | err => exact p
end
end Pk
namespace Pk
open PySem PySem.Spec PyProof.Rows L2 GenW
abbrev Rz := List D → Hh → R (List D)
def agD (n : Nat) (m : List D → M (List D)) : Rz := fun ds h => match m [] (startF n ds) h with
 | .ok ys _ h => .ok ys [] h
 | _ => .err
def aex (K : PySem.W.Frag) (T : Tb) (n : Nat) (F : Rz) : SpG := fun vs H Q _ => ∃ w h ds, Rel K T (Bs.of w H) w [] H [] h ∧ az K T w vs ds ∧ ds.length = n ∧ match F ds h with
 | .ok ys _ h' => ∀ w' H' vs', w.le w' → Rel K T (Bs.of w H) w' [] H' [] h' → az K T w' vs' ys → Q vs' H'
 | _ => False
def af3 (P : Program) (w : World) (K : PySem.W.Frag) (mg : Str → Option Value) (base : Heap) (T : Tb) (k : Nat) (N : List Str) (qual : Str) (scope : Scope) (body : List Stmt) (m : List D → M (List D)) : Prop :=
 ∀ (f : Addr) (cdv : Value) (A : Around) (outer : List Env) (s : Shared) (H : Hp) (E : XK) (pn : List (Addr × Obj)), Cq (gcxOf P w K mg base N qual scope f cdv A outer s H E pn) T (WX.up E) k → acn (gcxOf P w K mg base N qual scope f cdv A outer s H E pn) T body m
section
variable {P : Program} {w : World} {K : PySem.W.Frag} {mg : Str → Option Value} {base : Heap} {T : Tb} {k : Nat} {name qual : Str} {params : Arguments} {body : List Stmt} {scope : Scope} {f : Addr} {N ps : List Str} {dV kV doc pm cdv ct oc : Value} {an od : Option Addr} {osl : Array (Option Value)}
end
end Pk
namespace Pk
open PySem PySem.Spec PyProof.Rows L2 GenW
def adC (mt : Nat → Option Rz) (h : Hh) (o : D) : Option Rz := match o.ins h with
 | some (c, _) => mt c
 | none => none
def ae4 (mt : Nat → Option Rz) (mo : M D) : M D := mo.bind fun o fr h => match adC mt h o with
 | some F => match F [o] h with
   | .ok ys _ h => .ok (.nl ys) fr h
   | _ => .err
 | none => .err
structure ae5 (X : Cx) (T : Tb) (kk : Nat) (m : Str) (mt : Nat → Option Rz) : Prop where
 ex : ∀ c F, mt c = some F → ∃ (f : Addr) (fd : FuncData) (ps : List Str), Cls X.K (T.cad c) ∧ Meth X.K (T.cad c) m f ∧ GFn X.prog X.w X.K X.mg X.base kk f fd ps (aex X.K T 1 F) ∧ Binds X.K fd ps [] ∧ m ∉ T.fld c
def WPG (X : Cx) (k : Nat) (e : Expr) (E : XK) : TGen := fun σ H cont => ∀ pins s, Inv X pins σ H s → wpAny (model X.prog X.w) X.A (eval e X.env)
    (fun u s' => ∃ H1 sc ex, Inv X pins σ H1 sc ∧ ExOk X pins ex ∧ GMade X.prog X.w k X.stack H1 sc ex cont E u s') X.xe s
section
variable {X : Cx} {T : Tb} {W : WX} {k kk : Nat} {m nm : Str} {p pos pos' apos : Pos} {o e : Expr} {mo : M D} {mt : Nat → Option Rz} {E : XK}
end
section
variable {P : Program} {w : World} {K : PySem.W.Frag} {mg : Str → Option Value} {base : Heap} {T : Tb} {k : Nat} {x qual : Str} {params : Arguments} {body : List Stmt} {scope : Scope} {f : Addr} {fd : FuncData} {N ps : List Str} {dvs : List V} {kws : List (Str × V)}
end
end Pk
namespace L2
open PySem PySem.Spec PyProof.Rows
def O8 (K : PySem.W.Frag) : Bool → Hp → Addr → List V → Prop
 | true, H, a, xs => SqT K H a xs
 | false, H, a, xs => SqL K H a xs
def agE : Bool → Heap → Addr → Addr → Nat → Prop
 | true, h, it, a, i => h.IsTupleIter it a i
 | false, h, it, a, i => h.IsListIter it a i
def Isk : Bool → Heap → Addr → Array Value → Prop
 | true, h, a, xs => h.IsTuple a xs
 | false, h, a, xs => h.IsList a xs
def itOb : Bool → Addr → Obj
 | true, t => { cls := .type "tuple_iterator", data := .fields #[.ref t, .int 0 0] }
 | false, t => { cls := .type "list_iterator", data := .fields #[.ref t, .int 0 0] }
def aey (K : PySem.W.Frag) (k1 k2 : Bool) (a b : Addr) : It :=
 ⟨fun i H => ∃ xs ys x y, O8 K k1 H a xs ∧ O8 K k2 H b ys ∧ xs[i]? = some x ∧ ys[i]? = some y,
  fun i H v H' => ∃ T x y, v = V.ref T ∧ H T = none ∧ H' = upd H T (.tup [x, y]) ∧ (∀ xs, O8 K k1 H a xs → xs[i]? = some x) ∧ ∀ ys, O8 K k2 H b ys → ys[i]? = some y,
  fun i H => ∃ xs ys, O8 K k1 H a xs ∧ O8 K k2 H b ys ∧ (xs.length ≤ i ∨ ys.length ≤ i)⟩
def af4 (K : PySem.W.Frag) (ta : TA) : TI := fun σ H R => ta σ H fun vs H1 => ∃ k1 k2 a b xs ys, vs = [.ref a, .ref b] ∧ O8 K k1 H1 a xs ∧ O8 K k2 H1 b ys ∧ R (aey K k1 k2 a b) H1
end L2
namespace Pk
open PySem PySem.Spec L2
def adD (h : Hh) (d e : D) : Option (Nat × List D × List D) := match u5 h d, e with
 | some (n, l), .fl m => some (n, l, Ek l m)
 | some (n, l), .tup m => some (n, l, Ek l m)
 | _, _ => none
def ae6 (ma mb : M D) : M (Nat × List D × List D) := ma.bind fun d => mb.bind fun e fr h => M.opt (adD h d e) fr h
section
variable {X : Cx} {T : Tb} {W : WX} {k kk : Nat} {pos p tpos : Pos} {tg iter a c : Expr} {elts : List Expr} {body : List Stmt} {g : D → M Unit} {b : M Fl} {is : List Nat} {li : M (Nat × List D × List D)} {ma mb : M D}
end
end Pk
namespace GenP
open PySem PySem.Spec
def noG : Frame → Bool
 | .gen .. => false
 | .ret .. => true
def Ql : Frame → Frame
 | .gen _ _ _ c p => .ret (fun _ => .unsupported "") none false [] c p []
 | f => f
theorem Tr (f : Frame) : (Ql f).where_ = f.where_ := by cases f <;> rfl
def Qm : GenState → GenState
 | .suspended _ l c p fs cl => .suspended (fun _ => .unsupported "") l c p (fs.map Ql) cl
 | st => st
def Hl : GenState → Bool
 | .fresh _ => false
 | _ => true
def clean : GenState → Bool
 | .suspended _ _ _ _ fs _ => fs.all noG
 | _ => true
theorem W6 (st : GenState) : (Qm st).seen = st.seen := by
 cases st with
 | suspended k l c p fs cl =>
   show (_, some ((c, p) :: List.map Frame.where_ (fs.map Ql))) = (_, some ((c, p) :: List.map Frame.where_ fs))
   rw [List.map_map, show Frame.where_ ∘ Ql = Frame.where_ from funext Tr]
 | _ => rfl
theorem W7 (st : GenState) : (Qm st).bare = st.bare := by cases st <;> rfl
structure PS (D : Nat → Prop) (s t : Shared) : Prop where
 heap : s.heap = t.heap
 drawn : s.drawn = t.drawn
 toks : s.toks = t.toks
 os : s.os = t.os
 size : s.gens.size = t.gens.size
 dead : ∀ i, D i → ∃ st, t.gens[i]? = some st ∧ Hl st = true ∧ s.gens[i]? = some (Qm st)
 live : ∀ i, ¬ D i → s.gens[i]? = t.gens[i]? ∧ ∀ st, t.gens[i]? = some st → clean st = true
theorem PS.seen {D : Nat → Prop} {s t : Shared} (P : PS D s t) {g : Nat} {st : GenState} (h : s.gens[g]? = some st) : ∃ st', t.gens[g]? = some st' ∧ st'.seen = st.seen := by
 by_cases hd : D g
 · obtain ⟨st', e1, e2, e3⟩ := P.dead g hd
   rw [h] at e3
   cases e3
   exact ⟨st', e1, (W6 st').symm⟩
 · exact ⟨st, (P.live g hd).1.symm.trans h, rfl⟩
theorem PS.same {D : Nat → Prop} {s t : Shared} (P : PS D s t) {g : Nat} {st : GenState} (h : s.gens[g]? = some st) (ns : ∀ k l c p fs cl, st ≠ .suspended k l c p fs cl) : t.gens[g]? = some st := by
 by_cases hd : D g
 · obtain ⟨st', e1, e2, e3⟩ := P.dead g hd
   rw [h] at e3
   cases st' with
   | suspended k l c p fs cl => exact absurd (Option.some.inj e3) (ns _ _ _ _ _ _)
   | _ => rw [e1]; exact e3.symm
 · exact (P.live g hd).1.symm.trans h
theorem PS.set {D : Nat → Prop} {s t : Shared} (P : PS D s t) {g : Nat} (hd : ¬ D g) {st : GenState} (hc : clean st = true) : PS D (s.setGen g st) (t.setGen g st) where
 heap := P.heap
 drawn := P.drawn
 toks := P.toks
 os := P.os
 size := by show (s.gens.setIfInBounds g st).size = (t.gens.setIfInBounds g st).size; simp [P.size]
 dead := fun i hi => by
  have ne : g ≠ i := fun e => hd (e ▸ hi)
  obtain ⟨st', e1, e2, e3⟩ := P.dead i hi
  exact ⟨st', by show (t.gens.setIfInBounds g st)[i]? = _; rw [Array.getElem?_setIfInBounds_ne ne]; exact e1, e2, by show (s.gens.setIfInBounds g st)[i]? = _; rw [Array.getElem?_setIfInBounds_ne ne]; exact e3⟩
 live := fun i hi => by
  obtain ⟨e1, e2⟩ := P.live i hi
  show (s.gens.setIfInBounds g st)[i]? = (t.gens.setIfInBounds g st)[i]? ∧ ∀ x, (t.gens.setIfInBounds g st)[i]? = some x → _
  by_cases ne : g = i
  · subst ne
    rw [Array.getElem?_setIfInBounds_self, Array.getElem?_setIfInBounds_self, P.size]
    refine ⟨rfl, fun x hx => ?_⟩
    split at hx
    · cases hx; exact hc
    · cases hx
  · rw [Array.getElem?_setIfInBounds_ne ne, Array.getElem?_setIfInBounds_ne ne]
    exact ⟨e1, e2⟩
theorem PS.push {D : Nat → Prop} {s t : Shared} (P : PS D s t) (c : Code) : PS D { s with gens := s.gens.push (.fresh c) } { t with gens := t.gens.push (.fresh c) } where
 heap := P.heap
 drawn := P.drawn
 toks := P.toks
 os := P.os
 size := by simp [P.size]
 dead := fun i hi => by
  obtain ⟨st', e1, e2, e3⟩ := P.dead i hi
  have l1 := (Array.getElem?_eq_some_iff.mp e1).1
  refine ⟨st', ?_, e2, ?_⟩
  · show (t.gens.push _)[i]? = _
    rw [Array.getElem?_push_lt l1, ← e1, Array.getElem?_eq_getElem l1]
  · have l2 := (Array.getElem?_eq_some_iff.mp e3).1
    show (s.gens.push _)[i]? = _
    rw [Array.getElem?_push_lt l2, ← e3, Array.getElem?_eq_getElem l2]
 live := fun i hi => by
  obtain ⟨e1, e2⟩ := P.live i hi
  show (s.gens.push _)[i]? = (t.gens.push _)[i]? ∧ ∀ st, (t.gens.push _)[i]? = some st → _
  rw [Array.getElem?_push, Array.getElem?_push, P.size, e1]
  refine ⟨rfl, fun st hst => ?_⟩
  split at hst
  · cases hst; rfl
  · exact e2 st hst
def Kept (D : Nat → Prop) (t t' : Shared) : Prop := (∀ i, D i → t'.gens[i]? = t.gens[i]?) ∧ t.gens.size ≤ t'.gens.size
theorem Kept.refl {D : Nat → Prop} {t : Shared} : Kept D t t := ⟨fun _ _ => rfl, Nat.le_refl _⟩
theorem Kept.trans {D : Nat → Prop} {t t' t2 : Shared} (a : Kept D t t') (b : Kept D t' t2) : Kept D t t2 := ⟨fun i hi => (b.1 i hi).trans (a.1 i hi), Nat.le_trans a.2 b.2⟩
theorem Kept.set {D : Nat → Prop} {t : Shared} {g : Nat} (hd : ¬ D g) (st : GenState) : Kept D t (t.setGen g st) := ⟨fun i hi => Array.getElem?_setIfInBounds_ne fun e => hd (by rw [e]; exact hi), by show t.gens.size ≤ (t.gens.setIfInBounds g st).size; simp⟩
theorem Kept.gens {D : Nat → Prop} {t t' : Shared} (h : t'.gens = t.gens) : Kept D t t' := ⟨fun i _ => by rw [h], by rw [h]; exact Nat.le_refl _⟩
def ae7 : End → Bool
 | .ret _ => true
 | .susp _ _ _ _ _ _ fs => fs.all noG
def Yo (u : Shared) : Nat → Prop := fun i => ∃ st, u.gens[i]? = some st ∧ Hl st = true
def ad7 (u : Shared) : Shared := { u with gens := u.gens.map Qm }
theorem PS.bare {D : Nat → Prop} {s u : Shared} (P : PS D s u) (h : PyProof.Rows.AllBare s.gens) : PyProof.Rows.AllBare u.gens := fun y hy => by
 obtain ⟨i, hi, e⟩ := Array.mem_iff_getElem.mp hy
 have e : u.gens[i]? = some y := by rw [Array.getElem?_eq_getElem hi, e]
 by_cases hd : D i
 · obtain ⟨st, e1, _, e3⟩ := P.dead i hd
   rw [e] at e1
   cases e1
   rw [← W7]
   exact h _ (Array.mem_of_getElem? e3)
 · exact h _ (Array.mem_of_getElem? ((P.live i hd).1.trans e))
end GenP
namespace GenP
open PySem PySem.Spec PyProof.Rows L2 GenW
section
variable {D : Nat → Prop} {s u : Shared} {X : Cx} {pins : List (Addr × Obj)} {σ : L2.St} {H : Hp}
end
abbrev SL := List (Nat × GenState)
def Sl (sl : SL) (s : Shared) : Prop := ∀ p ∈ sl, s.gens[p.1]? = some p.2 ∧ Hl p.2 = true
theorem Sl.keep {sl : SL} {u u' : Shared} (h : Sl sl u) (k : Kept (Yo u) u u') : Sl sl u' := fun p hp => by
 obtain ⟨e, hs⟩ := h p hp
 exact ⟨(k.1 p.1 ⟨_, e, hs⟩).trans e, hs⟩
def cutS (n : Nat) (s : Shared) : Shared := { s with heap := { s.heap with objs := s.heap.objs.extract 0 n } }
theorem Yp {n : Nat} {s : Shared} (h : n ≤ s.heap.objs.size) : (cutS n s).heap.objs.size = n := by
 show (s.heap.objs.extract 0 n).size = n
 rw [Array.size_extract]
 omega
section
variable {X : Cx} {pins : List (Addr × Obj)} {σ : L2.St} {H H1 : Hp} {s s1 : Shared} {n : Nat}
structure Low (X : Cx) (pins : List (Addr × Obj)) (n : Nat) : Prop where
 loc : X.env.locals < n
 cel : ∀ (x : Str) (c : Addr), ahm x X.env.cells = some c → c < n
 pin : ∀ p ∈ X.pn ++ pins, p.1 < n
end
abbrev E0g : XK := fun _ _ _ => False
structure GD where
 P : Program
 w : World
 K : PySem.W.Frag
 mg : Str → Option Value
 base : Heap
 N : List Str
 qual : Str
 scope : Scope
 f : Addr
 cdv : Value
 A : Around
 outer : List Env
 n : Nat
 g : Nat
 pn : List (Addr × Obj)
def GD.cx (G : GD) (s : Shared) (H : Hp) : Cx := gcxOf G.P G.w G.K G.mg G.base G.N G.qual G.scope G.f G.cdv G.A G.outer s H E0g G.pn
def GD.env (G : GD) : Env := envOfC G.qual G.scope G.n G.f G.cdv
variable {G : GD} {s s0 s1 s2 : Shared} {H H0 H1 H2 : Hp} {pins : List (Addr × Obj)} {σ : L2.St}
end GenP
namespace GenP
open PySem PySem.Spec PyProof.Rows L2 GenW Pk
inductive GSt where
 | go (a : Fr) (h : Hh)
 | out (f : Fl) (a : Fr) (h : Hh)
 | err
inductive GR where
 | go (n : Nat) (a fr : Fr) (h : Hh)
 | out (f : Fl) (a : Fr) (h : Hh)
 | err
abbrev Step := D → Fr → Hh → GSt
abbrev wI := Step → Nat → Fr → Fr → Hh → GR
def GR.bind (r : GR) (k : Nat → Fr → Fr → Hh → GR) : GR := match r with
 | .go n a fr h => k n a fr h
 | .out f a h => .out f a h
 | .err => .err
def adE : wI := fun _ n a fr h => .go n a fr h
def afa (b c : wI) : wI := fun st n a fr h => (b st n a fr h).bind (c st)
def aeH (ms : M Fl) : wI := fun _ n a fr h => match ms fr h with
 | .ok .nx fr h => .go n a fr h
 | _ => .err
def frozen (fr : Fr) : Bool := fr.all fun o => match o with
 | some d => !d.own
 | none => true
def aeI (m : M D) : wI := fun st n a fr h => match n with
 | 0 => .err
 | n + 1 => match m fr h with
   | .ok d fr h => if frozen fr then (match st d a h with
     | .go a h => .go n a fr h
     | .out f a h => .out f a h
     | .err => .err) else .err
   | _ => .err
def W8 (g : D → M Unit) (b : wI) : List D → wI
 | [] => adE
 | d :: ds => fun st n a fr h => match g d fr h with
   | .ok _ fr h => (b st n a fr h).bind (W8 g b ds st)
   | _ => .err
def af5 (li : M (List D)) (g : D → M Unit) (b : wI) : wI := fun st n a fr h => match li fr h with
 | .ok ds fr h => W8 g b ds st n a fr h
 | _ => .err
def agF (t : M Bool) (b c : wI) : wI := fun st n a fr h => match t fr h with
 | .ok true fr h => b st n a fr h
 | .ok false fr h => c st n a fr h
 | _ => .err
def At (G : GD) (T : Tb) (Tok : Fr → Shared → Wd → Hp → Hh → Prop) (sl : SL) (X : Cx) (a : Fr) (w : Wd) (σ : L2.St) (H : Hp) (fr : Fr) (h : Hh) (s : Shared) (pins : List (Addr × Obj)) : Prop :=
 ∃ sw ww Hw hw, Tok a sw ww Hw hw ∧ G.n ≤ sw.heap.objs.size ∧ X = G.cx (cutS G.n sw) Hw ∧ L2.Inv X pins σ H s ∧ Rel G.K T (Bs.of ww Hw) w σ H fr h ∧ Sl ((G.g, .running) :: sl) s ∧ ∀ p ∈ pins, G.n ≤ p.1
def Fam (G : GD) (X : Cx) : Prop := ∃ s H, s.heap.objs.size = G.n ∧ X = G.cx s H
structure RB (G : GD) (T : Tb) where
 Tok : Fr → Shared → Wd → Hp → Hh → Prop
 R : GenEnd
 Y : Protocol
 step : Step
 Fin : Fl → Fr → Hh → Prop
 yld : ∀ {sl : SL} {X : Cx} {n : Nat} {s₀ : Shared} {kap : Resume → Shared → Prop} {x : V} {u : Value} {d : D} {a : Fr} {w : Wd} {σ : L2.St} {H : Hp} {fr : Fr} {h : Hh} {s : Shared} {pins : List (Addr × Obj)},
  At G T Tok sl X a w σ H fr h s pins → frozen fr = true → RelV x u → bD G.K T w x d →
  match step d a h with
  | .go a' h' => (∀ {X' : Cx} {w' : Wd} {H' : Hp} {s' : Shared}, w.le w' → At G T Tok sl X' a' w' σ H' fr h' s' pins → kap (.send .none) s' ∧ kap (.send (.bool true)) s') → Y n s₀ u s kap
  | .out f a' h' => Fin f a' h' → Y n s₀ u s kap
  | .err => True
structure acp (G : GD) (A : Around) (c : Code) (fs : List Frame) (gd : Bool → Bool) : Prop where
 over : A.over c fs = G.A.deeper G.env
 split : splitAtGen fs = none
 guard : fs.any Frame.guarded = false
 gd : gd false = false
section
variable {G : GD} {T : Tb}
def Exc (C : RB G T) (A : Around) (c : Code) (fs : List Frame) (J : Value → Sem PySem.Fin) : Prop := ∀ n s₀ X e s, Fam G X → X.xe e s → Seg (model G.P G.w) A C.R C.Y n s₀ c (J e) fs s
def RD (C : RB G T) (sl : SL) (A : Around) (c : Code) (fs : List Frame) (t : Sem PySem.Fin) (w : Wd) (pins : List (Addr × Obj)) (r : GR) : Prop := match r with
 | .go n a fr h => ∀ {X : Cx} {w' : Wd} {σ : L2.St} {H : Hp} {s s₀ : Shared}, w.le w' → At G T C.Tok sl X a w' σ H fr h s pins → Seg (model G.P G.w) A C.R C.Y n s₀ c t fs s
 | .out f a h => C.Fin f a h
 | .err => False
theorem RD.le {C : RB G T} {sl : SL} {A : Around} {c : Code} {fs : List Frame} {t : Sem PySem.Fin} {w w' : Wd} {pins : List (Addr × Obj)} {r : GR} (l : w.le w') (z : RD C sl A c fs t w pins r) : RD C sl A c fs t w' pins r := by
 cases r with
 | go n a fr h => exact fun l2 => z (Wd.le_trans l l2)
 | out f a h => exact z
 | err => exact z
def GA (G : GD) (T : Tb) (st : Stmt) (m : wI) : Prop := ∀ (C : RB G T) (sl : SL) (A : Around) (c : Code) (fs : List Frame) (Kf : Flow → Sem PySem.Fin) (J : Value → Sem PySem.Fin) (gd : Bool → Bool) (lv : List Value → List Value) (n : Nat) (s₀ : Shared) (X : Cx) (a : Fr) (w : Wd) (σ : L2.St) (H : Hp) (fr : Fr) (h : Hh) (s : Shared) (pins : List (Addr × Obj)),
 acp G A c fs gd → Exc C A c fs J → At G T C.Tok sl X a w σ H fr h s pins → RD C sl A c fs (Kf .next) w pins (m C.step n a fr h) →
 Seg (model G.P G.w) A C.R C.Y n s₀ c ((exec st G.env).wrap Kf J gd lv) fs s
def GAs (G : GD) (T : Tb) (sts : List Stmt) (m : wI) : Prop := ∀ (C : RB G T) (sl : SL) (A : Around) (c : Code) (fs : List Frame) (Kf : Flow → Sem PySem.Fin) (J : Value → Sem PySem.Fin) (gd : Bool → Bool) (lv : List Value → List Value) (n : Nat) (s₀ : Shared) (X : Cx) (a : Fr) (w : Wd) (σ : L2.St) (H : Hp) (fr : Fr) (h : Hh) (s : Shared) (pins : List (Addr × Obj)),
 acp G A c fs gd → Exc C A c fs J → At G T C.Tok sl X a w σ H fr h s pins → RD C sl A c fs (Kf .next) w pins (m C.step n a fr h) →
 Seg (model G.P G.w) A C.R C.Y n s₀ c ((execs sts G.env).wrap Kf J gd lv) fs s
theorem At.next {Tok : Fr → Shared → Wd → Hp → Hh → Prop} {sl : SL} {X : Cx} {a : Fr} {w w' : Wd} {σ σ' : L2.St} {H H' : Hp} {fr fr' : Fr} {h h' : Hh} {s s' : Shared} {pins : List (Addr × Obj)} (z : At G T Tok sl X a w σ H fr h s pins) (I : L2.Inv X pins σ' H' s')
 (r : ∀ B, Rel G.K T B w σ H fr h → Rel G.K T B w' σ' H' fr' h') (k : Sl ((G.g, .running) :: sl) s → Sl ((G.g, .running) :: sl) s') : At G T Tok sl X a w' σ' H' fr' h' s' pins := by
 obtain ⟨sw, ww, Hw, hw, t, hn, e, _, R, S, hp⟩ := z
 exact ⟨sw, ww, Hw, hw, t, hn, e, I, r _ R, k S, hp⟩
structure GOk (G : GD) (T : Tb) (k : Nat) : Prop where
 cq : ∀ s H, s.heap.objs.size = G.n → Cq (G.cx s H) T (WX.up E0g) k
theorem At.x {Tok : Fr → Shared → Wd → Hp → Hh → Prop} {sl : SL} {X : Cx} {a : Fr} {w : Wd} {σ : L2.St} {H : Hp} {fr : Fr} {h : Hh} {s : Shared} {pins : List (Addr × Obj)} (z : At G T Tok sl X a w σ H fr h s pins) :
 ∃ s' H', s'.heap.objs.size = G.n ∧ X = G.cx s' H' ∧ L2.Inv X pins σ H s ∧ (∃ B, Rel G.K T B w σ H fr h) ∧ Sl ((G.g, .running) :: sl) s := by
 obtain ⟨sw, ww, Hw, hw, _, hn, e, I, R, S, _⟩ := z
 exact ⟨_, _, Yp hn, e, I, ⟨_, R⟩, S⟩
end
end GenP
namespace GenP
open PySem PySem.Spec PyProof.Rows L2 GenW Pk
section
variable {G : GD} {T : Tb}
end
end GenP
namespace GenP
open PySem PySem.Spec PyProof.Rows L2 GenW Pk
def ZQ (P : Program) (w : World) (K : PySem.W.Frag) (mg : Str → Option Value) (base : Heap) (N : List Str) (qual : Str) (scope : Scope) (body : List Stmt) (f : Addr) (cdv : Value) (outer : List Env) (H : Hp) (vs : List V) (s : Shared) (u : Value) (s' : Shared) : Prop :=
 ∃ a g go, u = .ref a ∧ s.heap.objs.size < a ∧ s'.heap.get? a = some go ∧ (∀ h : Heap, h.get? a = some go → h.IsGen a g) ∧ (∀ v, go.data ≠ .cell v) ∧ s'.gens[g]? = some (.fresh (.func body (envOfC qual scope s.heap.objs.size f cdv))) ∧
   s'.os = s.os ∧ AllBare s'.gens ∧ (∀ b o, s.heap.get? b = some o → s'.heap.get? b = some o) ∧
   ∀ A : Around, A.handled = none → A.frames = some outer → L2.Inv (GD.cx ⟨P, w, K, mg, base, N, qual, scope, f, cdv, A, outer, s.heap.objs.size, g, [(a, go)]⟩ s H) [] (L2.start N vs) H s'
structure aez (P : Program) (w : World) (K : PySem.W.Frag) (mg : Str → Option Value) (base : Heap) (f : Addr) (fd : FuncData) (ps N : List Str) (qual : Str) (scope : Scope) (body : List Stmt) : Prop where
 ex : ∃ cdv, ∀ (A : Around) (outer : List Env) (s : Shared) (H : Hp) (args : Args) (us : List Value) (vs : List V), A.depth < recursionLimit → A.handled = none → Env0 P w K mg base A outer s H → BindsTo s fd args (ps.zip us) → Vals vs us → vs.length = ps.length →
  codeAny (model P w) A (.call (.ref f) args) (fun r s' => match r with
   | .ok (.ret u) => ZQ P w K mg base N qual scope body f cdv outer H vs s u s'
   | _ => False) s
section
variable {P : Program} {w : World} {K : PySem.W.Frag} {mg : Str → Option Value} {base : Heap} {x qual : Str} {params : Arguments} {body : List Stmt} {scope : Scope} {f : Addr} {fd : FuncData} {N ps : List Str} {dvs : List V} {kws : List (Str × V)}
end
section
variable {X : Cx} {T : Tb} {W : WX} {k : Nat}
def Yf (X : Cx) (pins : List (Addr × Obj)) (tg : Expr) (body : List Stmt) (a : Addr) (g : Nat) (D : Ends) : Protocol := fun _ _ v s kap => ∀ gs' : GenState, gs'.bare = true →
 wpAny (model X.prog X.w) X.A (assign tg X.env v) (fun _ s2 => wpAny (model X.prog X.w) X.A (execs body X.env) (fun f s3 => match f with
  | .next => (Hl gs' = true → s3.gens[g]? = some gs') ∧ s3.heap.IsGen a g ∧ s3.heap.NoLimit ∧ kap (.send .none) (s3.setGen g .running) ∧ kap (.send (.bool true)) (s3.setGen g .running)
  | .cont => (Hl gs' = true → s3.gens[g]? = some gs') ∧ s3.heap.IsGen a g ∧ s3.heap.NoLimit ∧ kap (.send .none) (s3.setGen g .running) ∧ kap (.send (.bool true)) (s3.setGen g .running)
  | .brk => ∃ σ' H', L2.Inv X pins σ' H' s3 ∧ D.nx σ' H'
  | .ret u => ∃ x σ' H', L2.Inv X pins σ' H' s3 ∧ RelV x u ∧ D.rt x H') X.xe s2) X.xe (s.setGen g gs')
def Rf (X : Cx) (pins : List (Addr × Obj)) (D : Ends) : GenEnd := fun _ _ r s => (r = .ok (.ret .none) ∨ r = .ok .next) ∧ (∃ σ' H', L2.Inv X pins σ' H' s ∧ D.nx σ' H') ∨ ∃ e, r = .error e ∧ False
def stepF (g : D → M Unit) (b : M Fl) : Step := fun d a h => match g d a h with
 | .ok _ a h => match b a h with
   | .ok .nx a h => .go a h
   | .ok .ct a h => .go a h
   | .ok .brk a h => .out .nx a h
   | .ok (.rt d) a h => .out (.rt d) a h
   | _ => .err
 | _ => .err
def agG (X : Cx) (T : Tb) (B : Bs) (w0 : Wd) (pins : List (Addr × Obj)) : Fr → Shared → Wd → Hp → Hh → Prop := fun a sw ww Hw hw => ∃ σ, L2.Inv X pins σ Hw sw ∧ Rel X.K T B ww σ Hw a hw ∧ w0.le ww
def agH (X : Cx) (T : Tb) (B : Bs) (W : WX) (w0 : Wd) (D : Ends) : Fl → Fr → Hh → Prop := fun f a h => cC X.K T B W w0 (.ok f a h) D
end
end GenP
namespace GenP
open PySem PySem.Spec PyProof.Rows L2 GenW Pk
abbrev Gc (X : Cx) (N : List Str) (qual : Str) (scope : Scope) (f : Addr) (cdv : Value) (n g : Nat) (a : Addr) (go : Obj) : GD := ⟨X.prog, X.w, X.K, X.mg, X.base, N, qual, scope, f, cdv, X.A.in1, X.stack, n, g, [(a, go)]⟩
section
variable {X : Cx} {T : Tb} {W : WX} {k : Nat} {pins : List (Addr × Obj)} {tg : Expr} {body : List Stmt} {gm : D → M Unit} {bm : M Fl} {is : List Nat} {B : Bs} {w0 : Wd} {Dn : Ends}
 {N : List Str} {qual : Str} {scope : Scope} {f : Addr} {cdv : Value} {n g : Nat} {a : Addr} {go : Obj}
structure agI (X : Cx) (pins : List (Addr × Obj)) (N : List Str) (qual : Str) (scope : Scope) (f : Addr) (cdv : Value) (n g : Nat) (a : Addr) (go : Obj) : Prop where
 low : Low X pins n
 cel : (Gc X N qual scope f cdv n g a go).env.cells = []
 na : n < a
 gen : ∀ h : Heap, h.get? a = some go → h.IsGen a g
 dat : ∀ v, go.data ≠ .cell v
 fr : ∀ b ∈ frs X.stack, b < n
end
end GenP
namespace GenP
open PySem PySem.Spec PyProof.Rows L2 GenW Pk
def afe (P : Program) (w : World) (K : PySem.W.Frag) (mg : Str → Option Value) (base : Heap) (T : Tb) (k : Nat) (N : List Str) (qual : Str) (scope : Scope) (body : List Stmt) (m : wI) : Prop :=
 ∀ (f : Addr) (cdv : Value) (A : Around) (outer : List Env) (n g : Nat) (pn : List (Addr × Obj)), GOk ⟨P, w, K, mg, base, N, qual, scope, f, cdv, A, outer, n, g, pn⟩ T k → GAs ⟨P, w, K, mg, base, N, qual, scope, f, cdv, A, outer, n, g, pn⟩ T body m
structure WCG (X : Cx) (e : Expr) (N : List Str) (qual : Str) (scope : Scope) (body : List Stmt) (σ : L2.St) (H : Hp) (Q : List V → Hp → Prop) : Prop where
 go : ∀ pins s, L2.Inv X pins σ H s → wpAny (model X.prog X.w) X.A (eval e X.env) (fun u s' => ∃ f cdv vs H1 s1, L2.Inv X pins σ H1 s1 ∧ Q vs H1 ∧ ZQ X.prog X.w X.K X.mg X.base N qual scope body f cdv X.stack H1 vs s1 u s') X.xe s
abbrev af6 (X : Cx) (T : Tb) (W : WX) (e : Expr) (N : List Str) (qual : Str) (scope : Scope) (body : List Stmt) (m : M (List D)) : Prop := gj (WCG X e N qual scope body) X.K T W vA m
def adF (nN : Nat) (b : wI) (st : Step) : List D → Fr → Hh → R Fl := fun ds a h => match b st big a (startF nN ds) h with
 | .go _ a _ h => .ok .nx a h
 | .out f a h => .ok f a h
 | .err => .err
def af7 (mc : M (List D)) (nN : Nat) (b : wI) (g : D → M Unit) (bm : M Fl) : M Fl := fun fr h => match mc fr h with
 | .ok ds fr h => adF nN b (stepF g bm) ds fr h
 | .exc x fr h => .exc x fr h
 | .err => .err
section
variable {X : Cx} {T : Tb} {W : WX} {k kk : Nat} {x : Str} {tp pos : Pos} {iter : Expr} {body gbody : List Stmt} {gm : D → M Unit} {bm : M Fl} {is : List Nat} {N ps : List Str} {qual : Str} {scope : Scope} {gb : wI} {mc : M (List D)}
end
end GenP
namespace GenP
open PySem PySem.Spec PyProof.Rows L2 GenW Pk
def af8 (c : Nat) (mo : M D) : M (List D) := mo.bind fun o fr h => match o.ins h with
 | some (c', _) => if c' = c then .ok [o] fr h else .err
 | none => .err
structure afh (X : Cx) (T : Tb) (m : Str) (c : Nat) (ps N : List Str) (qual : Str) (scope : Scope) (body : List Stmt) : Prop where
 ex : ∃ (f : Addr) (fd : FuncData), Cls X.K (T.cad c) ∧ Meth X.K (T.cad c) m f ∧ aez X.prog X.w X.K X.mg X.base f fd ps N qual scope body ∧ Binds X.K fd ps [] ∧ m ∉ T.fld c
 one : ps.length = 1
section
variable {X : Cx} {T : Tb} {W : WX} {k c : Nat} {m nm : Str} {p pos pos' apos : Pos} {o e : Expr} {mo : M D} {ps N : List Str} {qual : Str} {scope : Scope} {body : List Stmt}
end
end GenP
namespace Pk
open PySem PySem.Spec L2
def D.enc (d : D) : PyData := d.toP.getD .none
def leD (a b : D) : Bool := PySem.W.dataLe false D.enc a b
def acq (a : D) : List D → List D
 | [] => [a]
 | b :: l => if leD a b then a :: b :: l else b :: acq a l
def VF : List D → List D
 | [] => []
 | a :: l => acq a (VF l)
def Uq : List D → Bool
 | [] => true
 | a :: l => l.all (fun b => !leD b a) && Uq l
theorem pw_or {α : Type} {R : α → α → Prop} : ∀ {l : List α}, l.Pairwise R → ∀ a ∈ l, ∀ b ∈ l, a = b ∨ R a b ∨ R b a
 | x :: l, h, a, ha, b, hb => by
   obtain ⟨h1, h2⟩ := List.pairwise_cons.mp h
   rcases List.mem_cons.mp ha with ea | ha
   · rcases List.mem_cons.mp hb with eb | hb
     · exact .inl (ea.trans eb.symm)
     · exact .inr (.inl (ea ▸ h1 b hb))
   · rcases List.mem_cons.mp hb with eb | hb
     · exact .inr (.inr (eb ▸ h1 a ha))
     · exact pw_or h2 a ha b hb
def acr : PyData → Bool
 | .tuple (_ :: _) => true
 | _ => false
def adG : PyData → Bool
 | .none => false
 | .tuple _ => false
 | _ => true
def D.lds (h : Hh) (d : D) : Option (List D) := match d.der h with
 | .fl l => some l
 | .nl l => some l
 | .kl l => some l
 | _ => none
def afi (h : Hh) (d : D) : Option D := match d.lds h with
 | some l => if l.all (fun d => d.toP.isSome && decide (d.enc.depth ≤ 8)) && (l.all fun a => l.all fun b => PySem.W.alike a.enc b.enc) && (l.all (fun d => acr d.enc) || l.all (fun d => adG d.enc)) && decide (l.length ≤ big) && Uq (VF l) then some (.nl (VF l)) else none
 | none => none
section
variable {X : Cx} {T : Tb} {W : WX} {k : Nat} {a : Expr} {ma : M D} {pf pos : Pos}
end
end Pk
namespace Pk
open PySem PySem.Spec PyProof.Rows L2
def keyB : Key → D
 | .inl i => .int i
 | .inr s => .str s
def valE : List Key → List D → Key → Option D
 | k' :: ks, d :: ds, k => if k' = k then some d else valE ks ds k
 | _, _, _ => none
def acs (ks : List Key) (k : Key) : Bool := ks.any fun k' => decide (k' = k)
def adH (ks : List Key) (k : Key) : List Key := if acs ks k = true then ks else ks ++ [k]
def adI {α : Type} (ks : List Key) (ds : List α) (k : Key) (v : α) : List α := if acs ks k = true then List.zipWith (fun k' d => if k' = k then v else d) ks ds else ds ++ [v]
def cellE (h : Hh) (d : D) : Option (Nat × List Key × List D) := match d with
 | .ref n => match h[n]? with
   | some (.dk ks ds) => some (n, ks, ds)
   | _ => none
 | _ => none
def adJ (h : Hh) (o k : D) : Option D := (cellE h o).bind fun x => (keyD k).bind fun k => valE x.2.1 x.2.2 k
def acu (h : Hh) (o k z : D) : Option D := (cellE h o).bind fun x => (keyD k).bind fun k => some ((valE x.2.1 x.2.2 k).getD z)
def adK (h : Hh) (o k d : D) : Option Hh := (cellE h o).bind fun x => (keyD k).bind fun k => if x.2.1.length ≤ big then some (h.set x.1 (.dk (adH x.2.1 k) (adI x.2.1 x.2.2 k d))) else none
def acv (h : Hh) (o : D) : Option D := (cellE h o).bind fun x => some (.nl (x.2.1.map keyB))
def af9 : M D := fun fr h => .ok (.ref h.length) fr (h ++ [.dk [] []])
def aga (mo mk : M D) : M D := mo.bind fun o => mk.bind fun k fr h => M.opt (adJ h o k) fr h
def afj (mo mk mz : M D) : M D := mo.bind fun o fr h => if (cellE h o).isSome = true then (mk.bind fun k => mz.bind fun z fr h => M.opt (acu h o k z) fr h) fr h else .err
def agb (mo mk mv : M D) : M Fl := mv.bind fun d => mo.bind fun o => mk.bind fun k fr h => match adK h o k d with
 | some h' => .ok .nx fr h'
 | none => .err
def afk (mo : M D) : M D := mo.bind fun o fr h => M.opt (acv h o) fr h
section
variable {X : Cx} {e : Expr} {td : TE} {apos cpos p pos : Pos}
def aeA (td : TE) : TE := fun σ H Q => td σ H fun x H1 => ∃ d kvs, x = .ref d ∧ H1 d = some (.dK kvs) ∧ ∀ q, H1 q = none → Q (.ref q) (upd H1 q (.lst (kvs.map fun kv => kV kv.1)))
end
section
variable {X : Cx} {T : Tb} {W : WX} {k : Nat} {pos pos' cpos apos p : Pos} {o e f : Expr} {mo mk mz m : M D}
def aeJ (i : Nat) (m : M D) : M D := (aG i).bind fun o fr h => if (o.lstP h).isSome = true then (m.bind fun x => (aG i).bind fun o fr h => M.opt (Um h o x) fr h) fr h else .err
end
end Pk
namespace Pk
open PySem PySem.Spec PyProof.Rows L2
def D.toPd (h : Hh) (d : D) : Option PyData := match d with
 | .ref n => (D.lstP h (.ref n)).map .list
 | d => d.toP
def zJ (h : Hh) (d e : D) : Option Bool := match d.toPd h, e.toP with
 | some p, some q => if SeqAt.shaped p && SeqAt.shaped q then some (PyData.eqv p q) else none
 | _, _ => none
def BJ (h : Hh) (d e : D) : Option Bool := (zJ h d e).map (!·)
theorem O9 {h : Hh} {d e : D} {c : Bool} (q : zJ h d e = some c) : ∃ p p', d.toPd h = some p ∧ e.toP = some p' ∧ SeqAt.shaped p = true ∧ SeqAt.shaped p' = true ∧ c = PyData.eqv p p' := by
 unfold zJ at q
 split at q
 · rename_i p p' e1 e2
   split at q
   · rename_i hs
     obtain ⟨h1, h2⟩ := Bool.and_eq_true_iff.mp hs
     cases q
     exact ⟨p, p', e1, e2, h1, h2, rfl⟩
   · cases q
 · cases q
section
variable {X : Cx} {T : Tb} {W : WX} {k : Nat}
theorem Ur {B : Bs} {w : Wd} {σ : L2.St} {H : Hp} {fr : Fr} {h : Hh} {v : V} {d : D} {p : PyData} (R : Rel X.K T B w σ H fr h) (r : bD X.K T w v d) (e : d.toPd h = some p) : Dp X.K H v p := by
 cases d with
 | ref n =>
   have e : (D.lstP h (.ref n)).map PyData.list = some p := e
   obtain ⟨ps, e1, rfl⟩ := Option.map_eq_some_iff.mp e
   obtain ⟨a, vs, rfl, sq, dp⟩ := Ry R (.inl r) e1
   exact .lst sq dp
 | _ => exact Dz R.sub r e
theorem aaA (C : Cq X T W k) : mW X T vO .Eq zJ := fun B w σ H fr h x y d e c Q R rx ry q kk => by
 obtain ⟨p, p', e1, e2, s1, s2, rfl⟩ := O9 q
 exact nU (op_eqD (by have := C.u; omega)) ⟨p, p', Ur R rx e1, Ks R ry e2, s1, s2, kk⟩
theorem Us (C : Cq X T W k) : mW X T vO .NotEq BJ := fun B w σ H fr h x y d e c Q R rx ry q kk => by
 obtain ⟨c', q', rfl⟩ := Option.map_eq_some_iff.mp q
 obtain ⟨p, p', e1, e2, s1, s2, rfl⟩ := O9 q'
 exact nU (op_neD (by have := C.u; omega)) ⟨p, p', Ur R rx e1, Ks R ry e2, s1, s2, kk⟩
end
end Pk
namespace Pk
open PySem PySem.Spec PyProof.Rows L2
structure FnZ (P : Program) (w : World) (K : PySem.W.Frag) (mg : Str → Option Value) (base : Heap) (CX : CXT) (k : Nat) (f : Addr) (fd : FuncData) (ps : List Str) (sp : Sp) : Prop where
 len : ∀ vs H Q E, sp vs H Q E → vs.length = ps.length
 go : ∀ (A : Around) (outer : List Env) (s : Shared) (H : Hp) (args : Args) (us : List Value) (vs : List V) (Q : VK) (E : XK), A.guards = some [] → Room k A → Env0 P w K mg base A outer s H → BindsTo s fd args (ps.zip us) → Vals vs us → sp vs H Q E →
  codeAny (model P w) A (.call (.ref f) args) (CR CX outer P w H s Q E) s
section
variable {P : Program} {w : World} {K : PySem.W.Frag} {mg : Str → Option Value} {base : Heap} {T : Tb} {k : Nat} {x qual : Str} {params : Arguments} {body : List Stmt} {scope : Scope} {dvs : List V} {kws : List (Str × V)} {f : Addr} {fd : FuncData} {N ps : List Str}
theorem acw {CX : CXT} {cdv : Value} {sp : Sp} {name : Str} {dV kV doc pm ct oc : Value} {an od : Option Addr} {osl : Array (Option Value)} (lk : K.lookup f = some ⟨oc, od, .func (PySem.W.fnOf name qual params body scope dV kV doc pm an cdv ct), osl⟩) (hcd : PySem.W.codeIn K cdv qual = true) (S : FnScope N ps scope)
 (len : ∀ vs H Q E, sp vs H Q E → vs.length = ps.length)
 (hb : ∀ (A : Around) (outer : List Env) (s : Shared) (H : Hp) (vs : List V) (Q : VK) (E : XK), A.guards = some [] → Room k (A.deeper (envOfC qual scope s.heap.objs.size f cdv)) → sp vs H Q E →
  ∃ t, PSs (cxOf CX P w K mg base N qual scope f cdv A outer s H E) body t ∧ t { nx := fun _ H' => Q .non H', rt := Q } (start N vs) H) :
 FnZ P w K mg base CX (k + 1) f (PySem.W.fnOf name qual params body scope dV kV doc pm an cdv ct) ps sp :=
 ⟨len, fun A outer s H args us vs Q E hg hr e0 hbi r hsp => by
  obtain ⟨t, ht, hq⟩ := hb A outer s H vs Q E hg (hr.deeper _) hsp
  have KX : K.In s.heap := e0.mod.kin.keeps fun b o e => (e0.bs b o e).1
  refine codeAny_call_function hr.depth (KX _ _ lk) rfl S.co S.gen rfl (PySem.W.codeRec_of KX hcd) (hbi _ _ _ _ (wpAny_newFunctionEnv_cells S.kind (fun ⟨n, v⟩ hy => (S.par n (List.of_mem_zip hy).1).imp id fun q => ⟨q, PySem.W.cellsFrom_some _ _ _ (.inl q)⟩) fun env he s1 x => ?_))
  cases he
  refine ⟨(e0.mod.nolimit.keeps fun b o e => (e0.bs b o e).1).keeps x.toInCall.keep, codeAny_func (wpAny_mono (ht.run [] s1 _ H _ (inv_start S hr.hd e0 (len _ _ _ _ hsp) r x) hq) (fun fl s' hs => ?_) fun e s' hs => hs)⟩
  match fl, hs with
  | .ret u, ⟨v, σ', H', J, rv, q⟩ => exact ⟨v, H', J.os, J.bare, J.base, J.hok, rv, q⟩
  | .next, ⟨σ', H', J, q⟩ => exact ⟨V.non, H', J.os, J.bare, J.base, J.hok, rfl, q⟩
  | .brk, ⟨_, _, _, q⟩ => exact q.elim
  | .cont, ⟨_, _, _, q⟩ => exact q.elim⟩
def Qn (P : Program) (w : World) (K : PySem.W.Frag) (mg : Str → Option Value) (base : Heap) (T : Tb) (k : Nat) (N : List Str) (qual : Str) (scope : Scope) (body : List Stmt) (m : M Fl) : Prop :=
 ∀ (f : Addr) (cdv : Value) (A : Around) (outer : List Env) (s : Shared) (H : Hp) (E : XK), (QV P w K mg base N qual scope f cdv A outer s H E).A.guards = some [] → Cq (QV P w K mg base N qual scope f cdv A outer s H E) T (WX.up E) k → uX (QV P w K mg base N qual scope f cdv A outer s H E) T (WX.up E) body m
theorem fn_simZ (F : FunD K x qual params body scope dvs kws f fd) (S : FnScope N ps scope) {m : M Fl} (dm : Qn P w K mg base T k N qual scope body m) : FnZ P w K mg base (L2.CX P w) (k + 1) f fd ps (spF K T ps.length (bK N.length m)) := by
 obtain ⟨oc, od, dV, kV, doc, pm, an, cdv, ct, osl, rfl, lk, hcd, _, _⟩ := F.ex
 refine acw lk hcd S (fun vs H Q E ⟨w, h, ds, _, rs, hl, _⟩ => rs.length.trans hl) fun A outer s H vs Q E hg hr ⟨w1, h, ds, R, rs, hl, post⟩ => ⟨Jm _ body, ug, ?_⟩
 have hpl : ps.length ≤ N.length := by
  have := congrArg List.length S.pre
  rw [List.length_take] at this
  omega
 refine dm f cdv A outer s H E hg (Qi S hr) (Bs.of w1 H) w1 _ H (startF N.length ds) h _ (R.start rs (by rw [hl]; exact hpl)) ?_
 unfold bK at post
 cases e : m (startF N.length ds) h with
 | ok fl fr h' =>
   rw [e] at post
   cases fl with
   | nx => exact fun w' σ' H' l R' => post w' H' .non l R'.unframe (.inl .non)
   | rt d => exact fun w' σ' H' v l R' rv => post w' H' v l R'.unframe (by
    rcases rv with rv | ⟨p, o, rfl, O, lo, eH, rd⟩
    · exact .inl rv
    · exact .inr ⟨p, o, rfl, O, fun i => Gj, eH, rd⟩)
   | brk => exact post.elim
   | ct => exact post.elim
 | exc y fr h' =>
   rw [e] at post
   exact fun w' σ' H' c dd l R' z => post w' H' c dd l R'.unframe z
 | err => rw [e] at post; exact post
end
structure Yq (P : Program) (w : World) (K : PySem.W.Frag) (mg : Str → Option Value) (base : Heap) (T : Tb) (k : Nat) (f : Addr) (fd : FuncData) (ps : List Str) (F : Fn) : Prop where
 ok : FnZ P w K mg base (L2.CX P w) k f fd ps (spF K T ps.length F)
 kp : PySem.W.keepIn K (.ref f) = true
section
variable {X : Cx} {T : Tb} {W : WX} {k kk n : Nat} {f C : Addr} {fd : FuncData} {ps ks : List Str} {F : Fn} {x m : Str} {p pos apos pf : Pos} {e a : Expr} {es : List Expr} {mo : M D} {ma mk : M (List D)} {gD : List D → List D → List D}
theorem adL {pins : List (Addr × Obj)} {σ : L2.St} {H : Hp} {s : Shared} {Q : VK} {us ws : List Value} {vs zs : List V} {g : List Value → List Value → List Value} {gV : List V → List V → List V} {sp : Sp} (hgu : X.A.guards = some []) (F : FnZ X.prog X.w X.K X.mg X.base (L2.CX X.prog X.w) kk f fd ps sp) (hr : Room kk X.A) (hb : KBn X.K fd ps n ks g gV) (tk : Takes X W)
 (I : Inv X pins σ H s) (r : Vals vs us) (rz : Vals zs ws) (l1 : vs.length = n) (l2 : zs.length = ks.length) (h : sp (gV vs zs) H Q (fun c d H' => W c d σ H')) : wpAny (model X.prog X.w) X.A (call (.ref f) us (ks.zip ws)) (EP X pins σ Q) X.xe s := by
 refine wpAny_call (codeAny_mono (F.go X.A X.stack s H ⟨us, ks.zip ws⟩ (g us ws) (gV vs zs) Q _ hgu hr I.env0 (hb.to s us ws I.kIn (r.length.symm.trans l1) (rz.length.symm.trans l2)) (hb.rel r rz) h) fun r s' hq => ?_)
 match r, hq with
 | .error e, hq => exact passAt tk σ pins H s e s' I hq
 | .ok (.ret u), hq => exact I.after hq
 | .ok .next, hq => exact hq.elim
 | .ok .brk, hq => exact hq.elim
 | .ok .cont, hq => exact hq.elim
theorem zK (hgu : X.A.guards = some []) (C : Cq X T W k) (F0 : Yq X.prog X.w X.K X.mg X.base T kk f fd ps F) (hk : kk ≤ k) (bn : Bn X.K T fd ps n [] gD) (hm : X.mg x = some (.ref f)) (sa : yR X T W (e :: es) ma) (hg : Gl X x := by rfl) (hdb : (x == ("__debug__" : Str)) = false := by decide)
 (he : starEach (e :: es) X.env = (false, eval e X.env) :: starEach es X.env := by exact cJ rfl) (hpl : (backTo pos (starEach es X.env)).any (·.1) = false := by rfl) : mH X T W (.Call (.Name x p) (e :: es) [] pos) (au n 0 F gD ma (aj [])) := fun B w σ H fr h Q R pp => WE.mk <| fun pins s I => by
 obtain ⟨g, gV, hb, hgD⟩ := bn.ex
 refine wpAny_Call_Name_kw (ld_glob I hg hm ?_ hdb)
 refine PySem.W.callWith_K (h₀ := X.base) I.ok.mod.kin F0.kp (thn ((sa B w σ H fr h _ R (aJ.bind (VR := vA X.K T B σ) pp fun ds fr1 h1 w1 H1 vs e1 l1 r1 rs p1 => zg hgD r1 rs .nil p1)).go pos pins s I) fun us s1 ⟨vs, H1, I1, r, q⟩ => ⟨I1.kIn, ?_⟩) he hpl
 exact adL hgu (ws := []) F0.ok (C.room.mono hk) hb C.takes I1 r .nil q.1 rfl q.2.2
def ye (_ : Hh) (d : D) : Option D := match d.toP with
 | some p => if (p.showable && (!p.hasDict && (decide (p.depth ≤ 8) && decide (p.shown.length ≤ sizeLine)))) = true then some (.str p.shown) else none
 | none => none
theorem VG (hgu : X.A.guards = some []) (hu : X.A.units + 20 < cLine) : CallR X (.builtin "repr") (fun xs H Q => ∃ v p, xs = [v] ∧ Dp X.K H v p ∧ p.showable = true ∧ p.hasDict = false ∧ p.depth ≤ 8 ∧ p.shown.length ≤ sizeLine ∧ Q (.str p.shown) H) := by
 intro pins s σ H xs us Q I r h
 obtain ⟨v, p, rfl, dp, h1, h2, h3, h4, q⟩ := h
 obtain ⟨u, rfl, r1⟩ := vals1 r
 obtain ⟨as, rd⟩ := Dp.reads I p v u dp r1
 have big : ∀ a, u = .ref a → wpAny (model X.prog X.w) X.A (call (.builtin "repr") [u]) (EP X pins σ Q) X.xe s := fun a e => by
  subst e
  exact PySem.repr_of_reads' rd h1 (fun z => by rw [h2] at z; cases z) hgu (by omega) (fun _ _ e => e) (fun h' u tk hk => ⟨.str p.shown, H, I.kept hk, ⟨_, rfl⟩, q⟩) h4
 cases rd with
 | none => exact P.repr_of_none ⟨.str "None", H, I.tok _, ⟨_, rfl⟩, q⟩
 | bool b => exact P.repr_of_bool ⟨.str (if b then "True" else "False"), H, I.tok _, ⟨_, rfl⟩, q⟩
 | int i t => exact P.repr_of_int (of_decide_eq_true h1) ⟨.str (toString i), H, I.tok _, ⟨_, rfl⟩, q⟩
 | str x t => exact P.repr_of_str ⟨.str (reprText x), H, I.tok _, ⟨_, rfl⟩, q⟩ h4
 | list => exact big _ rfl
 | tuple => exact big _ rfl
 | dict => exact big _ rfl
theorem RG (hgu : X.A.guards = some []) (C : Cq X T W k) (sa : aR X T W a mo) (hm : X.mg "repr" = none) (hg : Gl X "repr" := by rfl) (he : starEach (a :: []) X.env = (false, eval a X.env) :: starEach [] X.env := by exact cJ rfl) : aR X T W (.Call (.Name "repr" pf) [a] [] pos) (aF ye mo) :=
 XN (id := "repr") sa (fun B w σ H fr h x d z Q R rx q k => by
  unfold ye at q
  cases e : d.toP with
  | none => rw [e] at q; cases q
  | some p =>
    rw [e] at q
    dsimp only at q
    split at q
    · rename_i c
      cases q
      obtain ⟨c1, c2⟩ := Bool.and_eq_true_iff.mp c
      obtain ⟨c2, c3⟩ := Bool.and_eq_true_iff.mp c2
      obtain ⟨c3, c4⟩ := Bool.and_eq_true_iff.mp c3
      exact gR (VG hgu (by have := C.room.un; omega)) ⟨x, p, rfl, Dz R.sub rx e, c1, by simpa using c2, of_decide_eq_true c3, of_decide_eq_true c4, k w H _ (Wd.le_refl _) R (.str _)⟩
    · cases q) hm hg (by decide +kernel) (by decide) (by decide) he
end
theorem W9 {P : Program} {w : World} {K : PySem.W.Frag} {mg mb : Str → Option Value} {CX : CXT} {k : Nat} {fa a : Addr} {fd : FuncData} {x : Str} {sp : Sp} {s₁ : Shared} {vs : List Value} {ns : List Int}
 (KX : K.In s₁.heap) (hns : s₁.heap.Ns mainGlobals mg) (hb : s₁.heap.Ns builtinsNs mb) (hbb : ∀ x : Str, x ≠ "__name__" → mb x = bootBuiltins x) (hlim : s₁.heap.NoLimit) (hg : s₁.gens = #[])
 (ha : s₁.heap.get? a = some { cls := .type "list", data := .seq vs.toArray }) (hi : IntsAre vs ns) (hl : ns.length ≤ sizeLine) (hr : Room k callerA)
 (F : ∀ base : Heap, K.In base → base.Ns mainGlobals mg → FnZ P w K mg base CX k fa fd [x] sp) (hbind : ∀ (s : Shared) (u : Value), BindsTo s fd ⟨[u], []⟩ [(x, u)])
 (hsp : ∀ H : Hp, Only H → SqL K H a (ns.map V.int) → sp [.ref a] H (fun v _ => v = .bl true) fun _ _ _ => False)
 (hCX : ∀ H e s', CX [] H s₁ (fun _ _ _ => False) e s' → False) :
 codeAny (model P w) callerA (.call (.ref fa) ⟨[.ref a], []⟩) (fun r s' => r = .ok (.ret (.bool true)) ∧ OldK s₁.heap s'.heap ∧ s'.os = s₁.os ∧ AllBare s'.gens) s₁ := by
 have run : ∀ H : Hp, Only H → SqL K H a (ns.map V.int) → HOk P w H s₁.heap → (∀ b, b ≠ a → H b = none) → (H a ≠ none → K.lookup a = none) →
  codeAny (model P w) callerA (.call (.ref fa) ⟨[.ref a], []⟩) (fun r s' => r = .ok (.ret (.bool true)) ∧ OldK s₁.heap s'.heap ∧ s'.os = s₁.os ∧ AllBare s'.gens) s₁ := by
  intro H O sq ok one un
  have keep : ∀ {b : Addr} {o : Obj} {es : Array DictEntry} {ep : Nat}, s₁.heap.get? b = some o → o.data = .dict es ep → (hidT s₁.heap H).get? b = some o := fun {b o es ep} e d => hidT_get e (one b fun z => by
   subst z
   rw [ha] at e
   cases e
   cases (show Data.seq vs.toArray _ = Data.dict es ep from d))
  have nsK : ∀ {b : Addr} {m : Str → Option Value}, s₁.heap.Ns b m → (hidT s₁.heap H).Ns b m := fun {b m} ⟨o, es, ep, e, d, r⟩ => ⟨o, es, ep, keep e d, d, r⟩
  have inK : K.In (hidT s₁.heap H) := fun b o e => hidT_get (KX b o e) (by
   by_cases z : b = a
   · subst z
     cases q : H b with
     | none => rfl
     | some u =>
       rw [un (by rw [q]; simp)] at e
       cases e
   · exact one b z)
  obtain ⟨mc, l1, l2⟩ := hlim
  have e0 : Env0 P w K mg (hidT s₁.heap H) callerA [] s₁ H := ⟨rfl, ⟨inK, nsK hns, ⟨mb, nsK hb, hbb⟩, ⟨mc, nsK l1, l2⟩⟩, fun b o e => of_hidT e, Nat.le_of_eq (hidT_size _ _), trivial, (fun b hb => by cases hb), ok, .of_eq hg⟩
  refine codeAny_mono ((F _ inK (nsK hns)).go callerA [] s₁ H ⟨[.ref a], []⟩ [.ref a] [.ref a] _ _ rfl hr e0 (hbind s₁ (.ref a)) (.cons rfl .nil) (hsp H O sq)) fun r s' h => ?_
  match r, h with
  | .error e, h => exact (hCX H e s' h).elim
  | .ok .next, h => exact h.elim
  | .ok .brk, h => exact h.elim
  | .ok .cont, h => exact h.elim
  | .ok (.ret u), ⟨v, H', os, bare, ud, ok', r', q⟩ =>
    cases (show v = .bl true from q)
    cases (show u = Value.bool true from r')
    refine ⟨rfl, OldK.of_keep fun b o e => ?_, os, bare⟩
    rcases O b with z | ⟨ob, xs, z⟩
    · exact ud.keep b o e z (fun y => by cases y) (by simp)
    · obtain ⟨e1, _⟩ := ok b _ z
      obtain ⟨e2, _⟩ := ok' b _ (ud.frzs b ob _ z)
      rw [e] at e1
      cases e1
      exact e2
 have rv := vals_ints hi
 cases hk : K.lookup a with
 | some o =>
   have e := KX a o hk
   rw [ha] at e
   cases e
   exact run (fun _ => none) (fun _ => .inl rfl) (.inr ⟨_, vs.toArray, _, hk, rfl, rfl, rfl, by rw [List.size_toArray, hi.length]; exact hl, by simpa using rv⟩) (fun b u z => by cases (show (none : Option HO) = some u from z)) (fun _ _ => rfl) fun z => (z rfl).elim
 | none =>
   refine run (fun b => if b = a then some (.frz { cls := .type "list", data := .seq vs.toArray } (.lst (ns.map V.int))) else none) (fun b => ?_) (.inl (.inr ⟨_, if_pos rfl⟩)) (fun b u z => ?_) (fun b z => if_neg z) fun _ => hk
   · by_cases z : b = a
     · exact .inr ⟨_, _, if_pos z⟩
     · exact .inl (if_neg z)
   · by_cases y : b = a
     · subst y
       cases (if_pos rfl).symm.trans z
       exact ⟨ha, by rw [ahk]; exact hl, vs, _, rv, ha⟩
     · cases (if_neg y).symm.trans z
theorem fn_cx0Z {P : Program} {w : World} {K : PySem.W.Frag} {mg : Str → Option Value} {base : Heap} {k : Nat} {f : Addr} {fd : FuncData} {ps : List Str} {sp : Sp} (F : FnZ P w K mg base (L2.CX P w) k f fd ps sp) :
 FnZ P w K mg base CX0 k f fd ps (fun vs H Q _ => sp vs H Q fun _ _ _ => False) := by
 refine ⟨fun vs H Q _ q => F.len vs H Q _ q, fun A outer s H args us vs Q E hg hr e0 hb r hsp => codeAny_mono (F.go A outer s H args us vs Q _ hg hr e0 hb r hsp) fun r s' hq => ?_⟩
 match r, hq with
 | .error e, hq =>
   obtain ⟨a, B, H', cls, d, rfl, fl, hok, ub, na, os, ag, hE⟩ := (show L2.CX P w outer H s (fun _ _ _ => False) e s' from hq)
   exact hE.elim
 | .ok (.ret u), hq => exact hq
 | .ok .next, hq => exact hq
 | .ok .brk, hq => exact hq
 | .ok .cont, hq => exact hq
theorem walk_Z {l : PySem.W.OpenLaw} {n k : Nat} {q : Program} {loose : List Str} {XP : (Str → Option Value) → Heap → Prop} {YP : World → Heap → Prop} {d : DefRec} {CX : CXT} {x : Str}
 (hn : l.most = some n) (hn2 : n ≤ sizeLine) (hdf : d.params.defaults = []) (hr : Room k callerA)
 (F : ∀ (w : World) (mg : Str → Option Value) (fa : Addr) (h : Heap), YP w h → h.Ns mainGlobals mg → mg d.name = some (.ref fa) →
  ∃ (K : PySem.W.Frag) (fd : FuncData) (sp : Sp), K.In h ∧ (∀ (s : Shared) (u : Value), BindsTo s fd ⟨[u], []⟩ [(x, u)]) ∧
    (∀ (H : Hp) (a : Addr) (ns : List Int), ns.length ≤ n → Only H → SqL K H a (ns.map V.int) → sp [.ref a] H (fun v _ => v = .bl true) fun _ _ _ => False) ∧
    ∀ base : Heap, K.In base → base.Ns mainGlobals mg → FnZ l.prog w K mg base CX k fa fd [x] sp)
 (hCX : ∀ (H : Hp) (s : Shared) (e : Value) (s' : Shared), CX [] H s (fun _ _ _ => False) e s' → False) :
 PySem.W.WalkO q loose XP YP l.row.toRowW d [] (fun f vs => PySem.call f vs) := by
 refine Att.attach_call hn hdf fun w s₀ s₁ mg mb fa o pm cd doc a vs ns G Y ho hd hcd hmg hobj hints Oo hg => ?_
 obtain ⟨K, fd, sp, KX, hb, hsp, hF⟩ := F w mg fa _ Y G.T.g hmg
 exact W9 KX G.T.g G.T.b G.T.builtins G.T.nolimit hg hobj hints (Nat.le_trans Oo hn2) hr hF hb (fun H hO hS => hsp H a ns Oo hO hS) fun H e s' => hCX H s₁ e s'
end Pk
namespace Pk
open PySem PySem.Spec L2
def Wq {α : Type} (r : R α) (Q : α → Fr → Hh → Prop) (E : aW → Fr → Hh → Prop) : Prop := match r with
 | .ok a fr h => Q a fr h
 | .exc x fr h => E x fr h
 | .err => False
def RJ (d : D) : Option (List D) := match d with
 | .int j => if jc j then some (fj 0 j.toNat) else none
 | _ => none
def rgB (x y : D) : Option (List D) := match x, y with
 | .int i, .int j => if jc i && jc j then some (fj i (j - i).toNat) else none
 | _, _ => none
def iU (_ : aW) (_ : Fr) (_ : Hh) : Prop := False
def Oq {α : Type} (o : Option α) (K : α → Prop) : Prop := match o with
 | some a => K a
 | none => False
def Sq (s : Option (Option D)) (K : D → Prop) : Prop := match s with
 | some (some d) => K d
 | _ => False
def CQ (b : Bool) (A B : Prop) : Prop := if b then A else B
def Bq (fr : Fr) (K : Fr → Prop) : Prop := K fr
def Fq (f : Fl) (A B : Prop) : Prop := match f with
 | .nx => A
 | _ => B
def Rq (f : Fl) (K : D → Prop) : Prop := match f with
 | .rt d => K d
 | .nx => K .non
 | _ => False
section
variable {α β : Type} {Q : α → Fr → Hh → Prop} {E : aW → Fr → Hh → Prop} {fr : Fr} {h : Hh}
theorem qU {a : α} : Wq (.ok a fr h) Q E = Q a fr h := by unfold Wq; rfl
theorem Iw {x : aW} : Wq (.exc x fr h : R α) Q E = E x fr h := by unfold Wq; rfl
theorem eZ : Wq (.err : R α) Q E = False := by unfold Wq; rfl
theorem d7 {a : α} {K : α → Prop} : Oq (some a) K = K a := by unfold Oq; rfl
theorem gH {K : α → Prop} : Oq none K = False := by unfold Oq; rfl
theorem Ut {o : Option α} {f : α → β} {K : β → Prop} : Oq (o.map f) K = Oq o fun a => K (f a) := by cases o <;> (unfold Oq; rfl)
theorem Iz {c : Prop} [Decidable c] {a : α} {K : α → Prop} : Oq (if c then some a else none) K = (c ∧ K a) := by
 by_cases hc : c
 · rw [if_pos hc, d7]; simp [hc]
 · rw [if_neg hc, gH]; simp [hc]
theorem aaB {c : Bool} {a : α} {K : α → Prop} : Oq (if c then some a else none) K = (c = true ∧ K a) := Iz
theorem El {d : D} {K : D → Prop} : Sq (some (some d)) K = K d := by unfold Sq; rfl
theorem K8 {A B : Prop} : CQ true A B = A := by unfold CQ; exact if_pos rfl
theorem K9 {A B : Prop} : CQ false A B = B := by unfold CQ; exact if_neg (fun z => by cases z)
theorem Yr {a : Option D} {l : Fr} {K : Fr → Prop} : Bq (a :: l) K = K (a :: l) := by unfold Bq; rfl
theorem Ny {A B : Prop} : Fq .nx A B = A := by unfold Fq; rfl
theorem Uu {A B : Prop} {d : D} : Fq (.rt d) A B = B := by unfold Fq; rfl
theorem Ys {A B : Prop} : Fq .brk A B = B := by unfold Fq; rfl
theorem aaC {A B : Prop} : Fq .ct A B = B := by unfold Fq; rfl
theorem aaD {K : D → Prop} {d : D} : Rq (.rt d) K = K d := by unfold Rq; rfl
theorem Wq.mono {r : R α} {Q Q' : α → Fr → Hh → Prop} {E : aW → Fr → Hh → Prop} (w : Wq r Q E) (hq : ∀ a fr h, Q a fr h → Q' a fr h) : Wq r Q' E := by
 cases r with
 | ok a fr h => exact hq _ _ _ w
 | exc x fr h => exact w
 | err => exact w
theorem Wq.ex {r : R α} {Q : α → Fr → Hh → Prop} (w : Wq r Q iU) : ∃ a fr h, r = .ok a fr h ∧ Q a fr h := by
 cases r with
 | ok a fr h => exact ⟨a, fr, h, rfl, w⟩
 | exc x fr h => exact w.elim
 | err => exact w.elim
theorem Wq.eq {a : α} {r : R α} {fr : Fr} {h : Hh} (w : Wq r (fun b fr1 h1 => b = a ∧ fr1 = fr ∧ h1 = h) iU) : r = .ok a fr h := by
 obtain ⟨b, fr1, h1, e, e1, e2, e3⟩ := w.ex
 rw [e, e1, e2, e3]
theorem Wq.of_eq {r : R α} {a : α} {fr : Fr} {h : Hh} (e : r = .ok a fr h) (q : Q a fr h) : Wq r Q E := by
 rw [e]; exact q
theorem fP {a : α} : Wq (M.ret a fr h) Q E = Q a fr h := by unfold M.ret; exact qU
theorem aQ {m : M β} {f : β → M α} : Wq (M.bind m f fr h) Q E = Wq (m fr h) (fun a fr h => Wq (f a fr h) Q E) E := by
 unfold M.bind
 cases m fr h <;> (unfold Wq; rfl)
theorem jm {o : Option α} : Wq (M.opt o fr h) Q E = Oq o fun a => Q a fr h := by
 cases o <;> (unfold Wq Oq M.opt; rfl)
end
section
variable {α : Type} {Q : D → Fr → Hh → Prop} {P : Bool → Fr → Hh → Prop} {S : α → Fr → Hh → Prop} {U : Unit → Fr → Hh → Prop} {G : List D → Fr → Hh → Prop} {L : Fl → Fr → Hh → Prop} {I : Option Int → Fr → Hh → Prop} {E : aW → Fr → Hh → Prop} {fr : Fr} {h : Hh} {m ma mb mc : M D} {i : Nat}
theorem adM {d : D} : Wq (mC d fr h) Q E = Q d fr h := fP
theorem acx : Wq (aM m fr h) Q E = Wq (m fr h) (fun d fr h => Q d.fz fr h) E := by
 unfold aM; rw [aQ]; simp only [fP]
theorem aaE : Wq (aa i fr h) Q E = Sq fr[i]? fun d => CQ d.own (Bq (fr.set i (some d.fz)) fun fr => Q d.fz fr h) (Q d fr h) := by
 unfold aa
 cases fr[i]? with
 | none => rfl
 | some o => cases o with
   | none => rfl
   | some d =>
     rw [El]
     dsimp only
     cases d.own <;> rfl
theorem Yt : Wq (su i fr h) Q E = Sq fr[i]? fun d => Bq (fr.set i none) fun fr => Q d fr h := by
 unfold su
 cases fr[i]? with
 | none => rfl
 | some o => cases o <;> rfl
theorem Uv : Wq (aG i fr h) Q E = Sq fr[i]? fun d => Q d fr h := by
 unfold aG
 cases fr[i]? with
 | none => rfl
 | some o => cases o <;> rfl
theorem aaF : Wq (fX i fr h) U E = Sq fr[i]? fun _ => U () fr h := by
 unfold fX
 cases fr[i]? with
 | none => rfl
 | some o => cases o <;> rfl
theorem acy {f : Hh → D → D → Option α} : Wq (aD f ma mb fr h) S E = Wq (ma fr h) (fun x fr h => Wq (mb fr h) (fun y fr h => Oq (f h x y) fun z => S z fr h) E) E := by
 unfold aD; simp only [aQ, jm]
theorem acz {f : Hh → D → Option α} : Wq (aF f ma fr h) S E = Wq (ma fr h) (fun x fr h => Oq (f h x) fun z => S z fr h) E := by
 unfold aF; simp only [aQ, jm]
theorem acA {t : M Bool} : Wq (Ow t fr h) Q E = Wq (t fr h) (fun b fr h => Q (.bl b) fr h) E := by
 unfold Ow; simp only [aQ, fP]
theorem aaG {t : M Bool} : Wq (bV t fr h) P E = Wq (t fr h) (fun b fr h => P (!b) fr h) E := by
 unfold bV; simp only [aQ, fP]
theorem JS {β : Type} {b : Bool} {m n : M β} {Q : β → Fr → Hh → Prop} : Wq ((if b then m else n) fr h) Q E = CQ b (Wq (m fr h) Q E) (Wq (n fr h) Q E) := by
 cases b
 · rw [K9]; rfl
 · rw [K8]; rfl
theorem aaH {t u : M Bool} : Wq (yj t u fr h) P E = Wq (t fr h) (fun b fr h => CQ b (Wq (u fr h) P E) (P false fr h)) E := by
 unfold yj; simp only [aQ, JS, fP]
theorem acB {t u : M Bool} : Wq (iD t u fr h) P E = Wq (t fr h) (fun b fr h => CQ b (P true fr h) (Wq (u fr h) P E)) E := by
 unfold iD; simp only [aQ, JS, fP]
theorem Yu : Wq (xM m fr h) Q E = Wq (m fr h) (fun d fr h => Oq d.tb fun b => Q (.bl (!b)) fr h) E := by
 unfold xM; simp only [aQ, jm, Ut]
theorem Yv {n : M D} : Wq (dU m n fr h) Q E = Wq (m fr h) (fun d fr h => Oq d.tb fun b => CQ b (Wq (n fr h) Q E) (Q (.bl false) fr h)) E := by
 unfold dU; rw [aQ]
 congr 1
 funext d fr h
 cases d.tb with
 | none => dsimp only; rw [jm, gH, gH]
 | some b =>
   rw [d7]
   cases b
   · rw [K9]; exact fP
   · rw [K8]
theorem Xa {f g : Hh → D → D → Option Bool} : Wq (ig f g ma mb mc fr h) P E = Wq (ma fr h) (fun x fr h => Wq (mb fr h) (fun y fr h => Oq (f h x y) fun b => CQ b (Wq (mc fr h) (fun z fr h => Oq (g h y z) fun c => P c fr h) E) (P false fr h)) E) E := by
 unfold ig; simp only [aQ]
 congr 1
 funext x fr h
 congr 1
 funext y fr h
 cases f h x y with
 | none => rw [gH]; exact eZ
 | some b =>
   rw [d7]
   cases b
   · rw [K9]; exact qU
   · rw [K8]; dsimp only; simp only [aQ, jm]
theorem Xb : Wq (aj [] fr h) G E = G [] fr h := fP
theorem Xc {ms : List (M D)} : Wq (aj (m :: ms) fr h) G E = Wq (m fr h) (fun d fr h => Wq (aj ms fr h) (fun ds fr h => G (d :: ds) fr h) E) E := by
 rw [aj]; simp only [aQ, fP]
theorem aaI {ms : List (M D)} : Wq (gA ms fr h) Q E = Wq (aj ms fr h) (fun ds fr h => ds.length ≤ big ∧ Q (.tup ds) fr h) E := by
 unfold gA; simp only [aQ, jm, Iz]
theorem aaJ {ms : List (M D)} : Wq (dC ms fr h) Q E = Wq (aj ms fr h) (fun ds fr h => ds.length ≤ big ∧ Q (.nl ds) fr h) E := by
 unfold dC; simp only [aQ, jm, Iz]
theorem Yw {β : Type} {m : M β} {f : Hh → D → β → Option D} : Wq (bj i m f fr h) Q E = Sq fr[i]? fun _ => Wq (m fr h) (fun y fr h => Sq fr[i]? fun d => Oq (f h d y) fun z => Q z fr h) E := by
 unfold bj; simp only [aQ, aaF, Uv, jm]
theorem acC : Wq (Gu fr h) I E = I none fr h := fP
theorem acD : Wq (Ci m fr h) I E = Wq (m fr h) (fun d fr h => Oq (match d with | .int i => some i | _ => none) fun i => I (some i) fr h) E := by
 unfold Ci; rw [aQ]
 congr 1
 funext d fr h
 cases d <;> (rw [jm]; first | rw [gH, gH] | rw [d7, d7])
theorem Yx {ml mh : M (Option Int)} {J : Option Int × Option Int → Fr → Hh → Prop} : Wq (xN ml mh fr h) J E = Wq (ml fr h) (fun l fr h => Wq (mh fr h) (fun u fr h => J (l, u) fr h) E) E := by
 unfold xN; simp only [aQ, fP]
theorem aaK {ml mh : M (Option Int)} : Wq (Gv m ml mh fr h) Q E = Wq (m fr h) (fun d fr h => Wq (ml fr h) (fun l fr h => Wq (mh fr h) (fun u fr h => Oq (oN h d (l, u)) fun z => Q z fr h) E) E) E := by
 unfold Gv; simp only [aQ, jm]
theorem acE : Wq (sY m fr h) G E = Wq (m fr h) (fun d fr h => Oq (d.its []) fun l => G l fr h) E := by
 unfold sY; simp only [aQ, jm]
theorem Yy : Wq (sG m fr h) G E = Wq (m fr h) (fun d fr h => Oq (RJ d) fun l => G l fr h) E := by
 unfold sG; simp only [aQ, jm]; rfl
theorem aaL {s n : M Fl} : Wq (aC s n fr h) L E = Wq (s fr h) (fun f fr h => Fq f (Wq (n fr h) L E) (L f fr h)) E := by
 unfold aC; rw [aQ]
 congr 1
 funext f fr h
 cases f with
 | nx => rw [Ny]
 | brk => rw [Ys]; exact fP
 | ct => rw [aaC]; exact fP
 | rt d => rw [Uu]; exact fP
theorem aaM {t : M Bool} {s n : M Fl} : Wq (aU t s n fr h) L E = Wq (t fr h) (fun b fr h => CQ b (Wq (s fr h) L E) (Wq (n fr h) L E)) E := by
 unfold aU; simp only [aQ, JS]
theorem Yz {m : M α} : Wq (iK m fr h) L E = Wq (m fr h) (fun _ fr h => L .nx fr h) E := by
 unfold iK; simp only [aQ, fP]
theorem aaN : Wq (aO m fr h) L E = Wq (m fr h) (fun d fr h => L (.rt d) fr h) E := by
 unfold aO; simp only [aQ, fP]
theorem aaO : Wq (bh i m fr h) L E = Wq (m fr h) (fun d fr h => Bq (fr.set i (some d)) fun fr => L .nx fr h) E := by
 unfold bh Bq; rw [aQ]
 congr 1
theorem YB {is : List Nat} {ms : M (List D)} : Wq (uY is ms fr h) L E = Wq (ms fr h) (fun ds fr h => Oq (nW is ds fr) fun fr' => ds.length ≤ big ∧ Bq fr' fun fr' => L .nx fr' h) E := by
 unfold uY Bq; rw [aQ]
 congr 1
 funext ds fr h
 cases nW is ds fr with
 | none => exact eZ.trans gH.symm
 | some f =>
   rw [d7]
   dsimp only
   split
   · rename_i hb; rw [qU]; simp only [hb, true_and]
   · rename_i hb; rw [eZ]; simp only [hb, false_and]
theorem YC {l : M (List D)} {g : D → M Unit} {b : M Fl} : Wq (d9 l g b fr h) L E = Wq (l fr h) (fun ds fr h => Wq (dw g b ds fr h) L E) E := by
 unfold d9; rw [aQ]
theorem acF {vs : List Nat} {l : M (List D)} {g : D → M Unit} {t : M Bool} {e : M D} : Wq (uN vs l g t e fr h) Q E = Wq (l fr h) (fun ds fr h => ds.length ≤ big ∧ Bq (dW fr vs) fun fr => Wq (lL vs g t e ds fr h) (fun r fr h => Q (.nl r) fr h) E) E := by
 unfold uN DR Bq; rw [aQ]
 congr 1
 funext ds fr h
 rw [aQ, qU]
 split
 · rename_i hb; rw [aQ]; simp only [fP, hb, true_and]
 · rename_i hb; rw [jm, gH]; simp only [hb, false_and]
theorem YD {d : D} : Wq (bM i d fr h) U E = Bq (fr.set i (some d)) fun fr => U () fr h := by
 unfold bM Bq; exact qU
theorem aaP {f : List D → Option (List D)} : Wq (bG i f fr h) U E = Sq fr[i]? fun d => match d with
 | .nl l => Oq (f l) fun l' => Bq (fr.set i (some (.nl l'))) fun fr => U () fr h
 | .ref n => Oq h[n]? fun c => match c with
   | .nl l => Oq (f l) fun l' => U () fr (h.set n (.nl l'))
   | _ => False
 | _ => False := by
 unfold bG Bq
 cases e : fr[i]? with
 | none => unfold Wq Sq; rfl
 | some o =>
   cases o with
   | none => unfold Wq Sq; rfl
   | some d =>
     rw [El]
     cases d with
     | nl l => dsimp only; cases f l <;> (unfold Wq Oq; rfl)
     | ref n =>
       dsimp only
       cases h[n]? with
       | none => unfold Wq Oq; rfl
       | some c =>
         rw [d7]
         cases c with
         | nl l => dsimp only; cases f l <;> (unfold Wq Oq; rfl)
         | _ => unfold Wq; rfl
     | _ => unfold Wq; rfl
theorem YF : Wq (jZ i m fr h) Q E = Wq (bG i jG fr h) (fun _ fr h => Wq (m fr h) (fun d fr h => Wq (bG i (tD d) fr h) (fun _ fr h => Q .non fr h) E) E) E := by
 unfold jZ; simp only [aQ, fP]
theorem YG : Wq (vU m fr h) Q E = Wq (m fr h) (fun d fr h => d.own = true ∧ Q (.ref h.length) fr (h ++ [d])) E := by
 unfold vU; rw [aQ]
 congr 1
 funext d fr h
 split
 · rename_i hb; rw [qU]; simp only [hb, true_and]
 · rename_i hb; rw [eZ, eq_iff_iff]
   exact ⟨False.elim, fun z => hb z.1⟩
theorem VH {ix : Nat → Option Nat} : Wq (jO i ix m fr h) L E = Wq (m fr h) (fun d fr h => Wq (tE i ix d fr h) (fun _ fr h => L .nx fr h) E) E := by
 unfold jO; simp only [aQ, fP]
theorem YH {ix : Nat → Option Nat} {x : D} : Wq (tE i ix x fr h) U E = Sq fr[i]? fun d => match d with
 | .no c fs => Oq (ix c) fun k => Oq (nZ k x fs) fun fs' => Bq (fr.set i (some (.no c fs'))) fun fr => U () fr h
 | .ref n => Oq h[n]? fun c => match c with
   | .no c fs => Oq (ix c) fun k => Oq (nZ k x fs) fun fs' => U () fr (h.set n (.no c fs'))
   | _ => False
 | _ => False := by
 unfold tE Bq
 cases e : fr[i]? with
 | none => unfold Wq Sq; rfl
 | some o =>
   cases o with
   | none => unfold Wq Sq; rfl
   | some d =>
     rw [El]
     cases d with
     | no c fs =>
       dsimp only
       cases ix c with
       | none => unfold Wq Oq; rfl
       | some k => rw [d7]; dsimp only; cases nZ k x fs <;> (unfold Wq Oq; rfl)
     | ref n =>
       dsimp only
       cases h[n]? with
       | none => unfold Wq Oq; rfl
       | some c =>
         rw [d7]
         cases c with
         | no c fs =>
           dsimp only
           cases ix c with
           | none => unfold Wq Oq; rfl
           | some k => rw [d7]; dsimp only; cases nZ k x fs <;> (unfold Wq Oq; rfl)
         | _ => unfold Wq; rfl
     | _ => unfold Wq; rfl
theorem En {r : R D} {fr0 : Fr} : Wq (bu fr0 r) Q E = Wq r (fun d _ h => Q d fr0 h) (fun x _ h => E x fr0 h) := by
 cases r <;> (unfold Wq bu; rfl)
theorem RK {n k : Nat} {F : Fn} {gD : List D → List D → List D} {ma mk : M (List D)} : Wq (au n k F gD ma mk fr h) Q E = Wq (ma fr h) (fun ds fr h => Wq (mk fr h) (fun es fr h => ds.length = n ∧ es.length = k ∧ Wq (F (gD ds es) h) (fun d _ h => Q d fr h) (fun x _ h => E x fr h)) E) E := by
 unfold au; rw [aQ]
 congr 1
 funext ds fr h
 rw [aQ]
 congr 1
 funext es fr h
 split
 · rename_i hb; rw [En]; simp only [hb.1, hb.2, true_and]
 · rename_i hb
   rw [eZ, eq_iff_iff]
   exact ⟨False.elim, fun z => hb ⟨z.1, z.2.1⟩⟩
theorem YJ {n k : Nat} {mt : Nat → Option Fn} {gD : List D → List D → List D} {mo : M D} {ma mk : M (List D)} : Wq (uZ n k mt gD mo ma mk fr h) Q E = Wq (mo fr h) (fun o fr h => Oq (fnOf mt h o) fun F => Wq (ma fr h) (fun ds fr h => Wq (mk fr h) (fun es fr h => ds.length = n ∧ es.length = k ∧ Wq (F (gD (o :: ds) es) h) (fun d _ h => Q d fr h) (fun x _ h => E x fr h)) E) E) E := by
 unfold uZ; rw [aQ]
 congr 1
 funext o fr h
 cases fnOf mt h o with
 | none => exact eZ.trans gH.symm
 | some F =>
   rw [d7]
   dsimp only
   rw [RK]
   simp only [aQ, fP, ag9, Nat.add_right_cancel_iff]
theorem YK {n : Nat} {m : M Fl} {ds : List D} : Wq (bK n m ds h) Q E = Bq (startF n ds) fun fr => Wq (m fr h) (fun f _ h => Rq f fun d => Q d [] h) (fun x _ h => E x [] h) := by
 unfold bK Bq
 show _ = Wq (m (startF n ds) h) _ _
 generalize m (startF n ds) h = r
 cases r with
 | ok f fr h => cases f <;> rfl
 | exc x fr h => rfl
 | err => rfl
def Nq (c : Nat) (s : Option (Option D)) (K : D → Prop) : Prop := match s with
 | some (some (.no c' fs)) => c' = c ∧ K (.no c fs)
 | _ => False
theorem Pa {c c' : Nat} {fs : List D} {K : D → Prop} : Nq c (some (some (.no c' fs))) K = (c' = c ∧ K (.no c fs)) := by unfold Nq; rfl
theorem YL {c n : Nat} {m : M Fl} {ds : List D} : Wq (runI c n m ds h) Q E = Bq (startF n (.no c [] :: ds)) fun fr => Wq (m fr h) (fun f fr h => Fq f (Nq c fr[0]? fun d => Q d [] h) False) (fun x _ h => E x [] h) := by
 unfold runI Bq
 show _ = Wq (m (startF n (.no c [] :: ds)) h) _ _
 generalize m (startF n (.no c [] :: ds)) h = r
 cases r with
 | ok f fr h =>
   cases f with
   | nx =>
     rw [qU, Ny]
     dsimp only
     cases e : (fr : List (Option D))[0]? with
     | none => rfl
     | some o =>
       cases o with
       | none => rfl
       | some d =>
         cases d with
         | no c' fs =>
           rw [Pa]
           dsimp only
           split
           · rename_i hb; subst hb; rw [qU]; simp
           · rename_i hb; rw [eZ]; simp only [hb, false_and]
         | _ => rfl
   | _ => rfl
 | exc x fr h => rfl
 | err => rfl
end
structure Jx {β γ : Type} (_ : β) (_ : γ) : Type where
def Wp {α : Type} (r : R α) (Q : α → Fr → Hh → Prop) (E : aW → Fr → Hh → Prop) (_ : Jx Q E := ⟨⟩) : Prop := Wq r Q E
def Op {α : Type} (o : Option α) (K : α → Prop) (_ : Jx K K := ⟨⟩) : Prop := Oq o K
def Sl (s : Option (Option D)) (K : D → Prop) (_ : Jx K K := ⟨⟩) : Prop := Sq s K
def Cd (b : Bool) (A B : Prop) (_ : Jx A B := ⟨⟩) : Prop := CQ b A B
def Bx (fr : Fr) (K : Fr → Prop) (_ : Jx K K := ⟨⟩) : Prop := Bq fr K
def ZR (f : Fl) (A B : Prop) (_ : Jx A B := ⟨⟩) : Prop := Fq f A B
def RtK (f : Fl) (K : D → Prop) (_ : Jx K K := ⟨⟩) : Prop := Rq f K
def NoK (c : Nat) (s : Option (Option D)) (K : D → Prop) (_ : Jx K K := ⟨⟩) : Prop := Nq c s K
section
variable {α β : Type} {Q : α → Fr → Hh → Prop} {E : aW → Fr → Hh → Prop} {fr : Fr} {h : Hh}
theorem cD {a : α} : Wp (.ok a fr h) Q E = Q a fr h := qU
theorem La {x : aW} : Wp (.exc x fr h : R α) Q E = E x fr h := Iw
theorem aY {a : α} {K : α → Prop} : Op (some a) K = K a := d7
theorem Uw {K : α → Prop} : Op none K = False := gH
theorem acG {c : Prop} [Decidable c] {a : α} {K : α → Prop} : Op (if c then some a else none) K = (c ∧ K a) := Iz
theorem acH {c : Bool} {a : α} {K : α → Prop} : Op (if c then some a else none) K = (c = true ∧ K a) := aaB
theorem aX {d : D} {K : D → Prop} : Sl (some (some d)) K = K d := El
theorem kh {A B : Prop} : Cd true A B = A := K8
theorem cZ {A B : Prop} : Cd false A B = B := K9
theorem bB {a : Option D} {l : Fr} {K : Fr → Prop} : Bx (a :: l) K = K (a :: l) := Yr
theorem dh {A B : Prop} : ZR .nx A B = A := Ny
theorem Xd {A B : Prop} {d : D} : ZR (.rt d) A B = B := Uu
theorem fW {K : D → Prop} {d : D} : RtK (.rt d) K = K d := aaD
theorem Wp.mono {r : R α} {Q Q' : α → Fr → Hh → Prop} {E : aW → Fr → Hh → Prop} (w : Wp r Q E) (hq : ∀ a fr h, Q a fr h → Q' a fr h) : Wp r Q' E := Wq.mono w hq
theorem Wp.ex {r : R α} {Q : α → Fr → Hh → Prop} (w : Wp r Q iU) : ∃ a fr h, r = .ok a fr h ∧ Q a fr h := Wq.ex w
theorem Wp.eq {a : α} {r : R α} {fr : Fr} {h : Hh} (w : Wp r (fun b fr1 h1 => b = a ∧ fr1 = fr ∧ h1 = h) iU) : r = .ok a fr h := Wq.eq w
theorem Wp.of_eq {r : R α} {a : α} {fr : Fr} {h : Hh} (e : r = .ok a fr h) (q : Q a fr h) : Wp r Q E := Wq.of_eq e q
theorem fD {a : α} : Wp (M.ret a fr h) Q E = Q a fr h := fP
end
section
variable {α : Type} {Q : D → Fr → Hh → Prop} {P : Bool → Fr → Hh → Prop} {S : α → Fr → Hh → Prop} {U : Unit → Fr → Hh → Prop} {G : List D → Fr → Hh → Prop} {L : Fl → Fr → Hh → Prop} {I : Option Int → Fr → Hh → Prop} {E : aW → Fr → Hh → Prop} {fr : Fr} {h : Hh} {m ma mb mc : M D} {i : Nat}
theorem iV {d : D} : Wp (mC d fr h) Q E = Q d fr h := adM
theorem lD : Wp (aM m fr h) Q E = Wp (m fr h) (fun d fr h => Q d.fz fr h) E := acx
theorem bO : Wp (aa i fr h) Q E = Sl fr[i]? fun d => Cd d.own (Bx (fr.set i (some d.fz)) fun fr => Q d.fz fr h) (Q d fr h) := aaE
theorem Nz : Wp (su i fr h) Q E = Sl fr[i]? fun d => Bx (fr.set i none) fun fr => Q d fr h := Yt
theorem dJ : Wp (aG i fr h) Q E = Sl fr[i]? fun d => Q d fr h := Uv
theorem fu {f : Hh → D → D → Option α} : Wp (aD f ma mb fr h) S E = Wp (ma fr h) (fun x fr h => Wp (mb fr h) (fun y fr h => Op (f h x y) fun z => S z fr h) E) E := acy
theorem dM {f : Hh → D → Option α} : Wp (aF f ma fr h) S E = Wp (ma fr h) (fun x fr h => Op (f h x) fun z => S z fr h) E := acz
theorem VJ {t : M Bool} : Wp (Ow t fr h) Q E = Wp (t fr h) (fun b fr h => Q (.bl b) fr h) E := acA
theorem jn {t : M Bool} : Wp (bV t fr h) P E = Wp (t fr h) (fun b fr h => P (!b) fr h) E := aaG
theorem RL {t u : M Bool} : Wp (yj t u fr h) P E = Wp (t fr h) (fun b fr h => Cd b (Wp (u fr h) P E) (P false fr h)) E := aaH
theorem xP {t u : M Bool} : Wp (iD t u fr h) P E = Wp (t fr h) (fun b fr h => Cd b (P true fr h) (Wp (u fr h) P E)) E := acB
theorem NB : Wp (xM m fr h) Q E = Wp (m fr h) (fun d fr h => Op d.tb fun b => Q (.bl (!b)) fr h) E := Yu
theorem nO {n : M D} : Wp (dU m n fr h) Q E = Wp (m fr h) (fun d fr h => Op d.tb fun b => Cd b (Wp (n fr h) Q E) (Q (.bl false) fr h)) E := Yv
theorem Eo {f g : Hh → D → D → Option Bool} : Wp (ig f g ma mb mc fr h) P E = Wp (ma fr h) (fun x fr h => Wp (mb fr h) (fun y fr h => Op (f h x y) fun b => Cd b (Wp (mc fr h) (fun z fr h => Op (g h y z) fun c => P c fr h) E) (P false fr h)) E) E := Xa
theorem bT : Wp (aj [] fr h) G E = G [] fr h := Xb
theorem bZ {ms : List (M D)} : Wp (aj (m :: ms) fr h) G E = Wp (m fr h) (fun d fr h => Wp (aj ms fr h) (fun ds fr h => G (d :: ds) fr h) E) E := Xc
theorem Hm {ms : List (M D)} : Wp (gA ms fr h) Q E = Wp (aj ms fr h) (fun ds fr h => ds.length ≤ big ∧ Q (.tup ds) fr h) E := aaI
theorem uQ {ms : List (M D)} : Wp (dC ms fr h) Q E = Wp (aj ms fr h) (fun ds fr h => ds.length ≤ big ∧ Q (.nl ds) fr h) E := aaJ
theorem vG {β : Type} {m : M β} {f : Hh → D → β → Option D} : Wp (bj i m f fr h) Q E = Sl fr[i]? fun _ => Wp (m fr h) (fun y fr h => Sl fr[i]? fun d => Op (f h d y) fun z => Q z fr h) E := Yw
theorem ZS : Wp (Gu fr h) I E = I none fr h := acC
theorem adN : Wp (Ci m fr h) I E = Wp (m fr h) (fun d fr h => Op (match d with | .int i => some i | _ => none) fun i => I (some i) fr h) E := acD
theorem aaQ {ml mh : M (Option Int)} {J : Option Int × Option Int → Fr → Hh → Prop} : Wp (xN ml mh fr h) J E = Wp (ml fr h) (fun l fr h => Wp (mh fr h) (fun u fr h => J (l, u) fr h) E) E := Yx
theorem acI {ml mh : M (Option Int)} : Wp (Gv m ml mh fr h) Q E = Wp (m fr h) (fun d fr h => Wp (ml fr h) (fun l fr h => Wp (mh fr h) (fun u fr h => Op (oN h d (l, u)) fun z => Q z fr h) E) E) E := aaK
theorem Ld : Wp (sY m fr h) G E = Wp (m fr h) (fun d fr h => Op (d.its []) fun l => G l fr h) E := acE
theorem CT : Wp (sG m fr h) G E = Wp (m fr h) (fun d fr h => Op (RJ d) fun l => G l fr h) E := Yy
theorem cP {s n : M Fl} : Wp (aC s n fr h) L E = Wp (s fr h) (fun f fr h => ZR f (Wp (n fr h) L E) (L f fr h)) E := aaL
theorem dB {t : M Bool} {s n : M Fl} : Wp (aU t s n fr h) L E = Wp (t fr h) (fun b fr h => Cd b (Wp (s fr h) L E) (Wp (n fr h) L E)) E := aaM
theorem aaR {m : M α} : Wp (iK m fr h) L E = Wp (m fr h) (fun _ fr h => L .nx fr h) E := Yz
theorem eQ : Wp (aO m fr h) L E = Wp (m fr h) (fun d fr h => L (.rt d) fr h) E := aaN
theorem iH : Wp (bh i m fr h) L E = Wp (m fr h) (fun d fr h => Bx (fr.set i (some d)) fun fr => L .nx fr h) E := aaO
theorem aaS {is : List Nat} {ms : M (List D)} : Wp (uY is ms fr h) L E = Wp (ms fr h) (fun ds fr h => Op (nW is ds fr) fun fr' => ds.length ≤ big ∧ Bx fr' fun fr' => L .nx fr' h) E := YB
theorem yO {l : M (List D)} {g : D → M Unit} {b : M Fl} : Wp (d9 l g b fr h) L E = Wp (l fr h) (fun ds fr h => Wp (dw g b ds fr h) L E) E := YC
theorem Qo {vs : List Nat} {l : M (List D)} {g : D → M Unit} {t : M Bool} {e : M D} : Wp (uN vs l g t e fr h) Q E = Wp (l fr h) (fun ds fr h => ds.length ≤ big ∧ Bx (dW fr vs) fun fr => Wp (lL vs g t e ds fr h) (fun r fr h => Q (.nl r) fr h) E) E := acF
theorem ul {d : D} : Wp (bM i d fr h) U E = Bx (fr.set i (some d)) fun fr => U () fr h := YD
theorem acJ {f : List D → Option (List D)} : Wp (bG i f fr h) U E = Sl fr[i]? fun d => match d with
 | .nl l => Op (f l) fun l' => Bx (fr.set i (some (.nl l'))) fun fr => U () fr h
 | .ref n => Op h[n]? fun c => match c with
   | .nl l => Op (f l) fun l' => U () fr (h.set n (.nl l'))
   | _ => False
 | _ => False := aaP
theorem aaT : Wp (jZ i m fr h) Q E = Wp (bG i jG fr h) (fun _ fr h => Wp (m fr h) (fun d fr h => Wp (bG i (tD d) fr h) (fun _ fr h => Q .non fr h) E) E) E := YF
theorem Ux : Wp (vU m fr h) Q E = Wp (m fr h) (fun d fr h => d.own = true ∧ Q (.ref h.length) fr (h ++ [d])) E := YG
theorem Xe {ix : Nat → Option Nat} : Wp (jO i ix m fr h) L E = Wp (m fr h) (fun d fr h => Wp (tE i ix d fr h) (fun _ fr h => L .nx fr h) E) E := VH
theorem aaU {ix : Nat → Option Nat} {x : D} : Wp (tE i ix x fr h) U E = Sl fr[i]? fun d => match d with
 | .no c fs => Op (ix c) fun k => Op (nZ k x fs) fun fs' => Bx (fr.set i (some (.no c fs'))) fun fr => U () fr h
 | .ref n => Op h[n]? fun c => match c with
   | .no c fs => Op (ix c) fun k => Op (nZ k x fs) fun fs' => U () fr (h.set n (.no c fs'))
   | _ => False
 | _ => False := YH
theorem dI {n k : Nat} {F : Fn} {gD : List D → List D → List D} {ma mk : M (List D)} : Wp (au n k F gD ma mk fr h) Q E = Wp (ma fr h) (fun ds fr h => Wp (mk fr h) (fun es fr h => ds.length = n ∧ es.length = k ∧ Wp (F (gD ds es) h) (fun d _ h => Q d fr h) (fun x _ h => E x fr h)) E) E := RK
theorem yP {n k : Nat} {mt : Nat → Option Fn} {gD : List D → List D → List D} {mo : M D} {ma mk : M (List D)} : Wp (uZ n k mt gD mo ma mk fr h) Q E = Wp (mo fr h) (fun o fr h => Op (fnOf mt h o) fun F => Wp (ma fr h) (fun ds fr h => Wp (mk fr h) (fun es fr h => ds.length = n ∧ es.length = k ∧ Wp (F (gD (o :: ds) es) h) (fun d _ h => Q d fr h) (fun x _ h => E x fr h)) E) E) E := YJ
theorem cW {n : Nat} {m : M Fl} {ds : List D} : Wp (bK n m ds h) Q E = Bx (startF n ds) fun fr => Wp (m fr h) (fun f _ h => RtK f fun d => Q d [] h) (fun x _ h => E x [] h) := YK
theorem YM {c c' : Nat} {fs : List D} {K : D → Prop} : NoK c (some (some (.no c' fs))) K = (c' = c ∧ K (.no c fs)) := Pa
theorem aaV {c n : Nat} {m : M Fl} {ds : List D} : Wp (runI c n m ds h) Q E = Bx (startF n (.no c [] :: ds)) fun fr => Wp (m fr h) (fun f fr h => ZR f (NoK c fr[0]? fun d => Q d [] h) False) (fun x _ h => E x [] h) := YL
end
end Pk
namespace Pk
open PySem PySem.Spec L2
section
variable {h : Hh} {l l' ds fs : List D} {i j : Int} {a b : Bool} {s z : Str} {n c : Nat} {t : String}
theorem jo : (D.int i).own = false := by unfold D.own; rfl
theorem CV : (D.bl a).own = false := by unfold D.own; rfl
theorem Uy : D.non.own = false := by unfold D.own; rfl
theorem NK : (D.tup l).own = false := by unfold D.own; rfl
theorem acK : (D.kl l).own = false := by unfold D.own; rfl
theorem vH : (D.obj c l).own = false := by unfold D.own; rfl
theorem jD : (D.ref n).own = false := by unfold D.own; rfl
theorem Le : (D.nl l).own = true := by unfold D.own; rfl
theorem Lf : (D.no c l).own = true := by unfold D.own; rfl
theorem tV : (D.int i).fz = .int i := by unfold D.fz; rfl
theorem acL : (D.tup l).fz = .tup l := by unfold D.fz; rfl
theorem Ao : (D.nl l).fz = .fl l := by unfold D.fz; rfl
theorem Aq : (D.no c l).fz = .obj c l := by unfold D.fz; rfl
theorem ZV {d : D} (o : d.own = false) : d.fz = d := by
 cases d <;> first | rfl | (unfold D.own at o; cases o)
theorem rK : (D.tup l).its h = some l := by unfold D.its D.der; rfl
theorem acM : (D.fl l).its h = some l := by unfold D.its D.der; rfl
theorem acN : (D.kl l).its h = some l := by unfold D.its D.der; rfl
theorem aaW {x : D} (e : h[n]? = some x) : (D.ref n).der h = x := by
 unfold D.der; dsimp only; rw [e]; rfl
theorem NP (e : h[n]? = some (.nl l)) : (D.ref n).its h = some l := by
 unfold D.its; rw [aaW e]
theorem xg : bW h (.tup l) = some (.int l.length) := by unfold bW; dsimp only; rw [rK]; rfl
theorem aaX : bW h (.kl l) = some (.int l.length) := by unfold bW; dsimp only; rw [acN]; rfl
theorem JT : bF h (.tup l) (.int i) = atI l i := by unfold bF; dsimp only; rw [rK]
theorem JV (e : h[n]? = some (.nl l)) : bF h (.ref n) (.int i) = atI l i := by unfold bF; dsimp only; rw [NP e]
section
variable {α : Type} {xs : List α}
theorem zL {k : Nat} : atI xs (k : Int) = xs[k]? := by
 unfold atI ixN
 rw [if_pos (by omega)]
 by_cases hk : k < xs.length
 · rw [if_pos (by omega)]; simp
 · rw [if_neg (by omega)]; simp; omega
theorem acO {i : Int} (h0 : 0 ≤ i) : atI xs i = xs[i.toNat]? := by
 have e : i = (i.toNat : Int) := by omega
 rw [e, zL, Int.toNat_natCast]
theorem acP : atI xs 0 = xs[0]? := zL (k := 0)
theorem acQ : atI xs 1 = xs[1]? := zL (k := 1)
end
section
variable {C : Int → Int → Bool} {g : Int → Int → Int} {K : D → Prop}
theorem acR : Op (dH C g h (.int i) (.int j)) K = (C i j = true ∧ K (.int (g i j))) := by unfold dH; exact acH
theorem adP : jF i j = true := by unfold jF; rfl
theorem zM : bL h (.int i) (.int j) = some (.int (i + j)) := by unfold bL; rfl
theorem RM : bL h (.tup l) (.tup l') = if l.length + l'.length ≤ big then some (.tup (l ++ l')) else none := by unfold bL; rfl
theorem aaY : bL h (.fl l) (.fl l') = if l.length + l'.length ≤ big then some (.nl (l ++ l')) else none := by unfold bL; rfl
theorem JW : sX (.int i) = some (.int (-i)) := by unfold sX; rfl
theorem YQ {d : D} : gU h d = (d.its h).map .nl := by unfold gU; rfl
theorem Xf {d : D} : uI h d = (d.its h).map .tup := by unfold uI; rfl
theorem Ep {p : Int → Int → Bool} : cInt p h (.int i) (.int j) = some (p i j) := by unfold cInt; rfl
theorem oA : fY h (.int i) (.int j) = some (decide (i = j)) := by
 have : fY h (.int i) (.int j) = some (i == j) := by unfold fY; rfl
 rw [this]
 by_cases e : i = j
 · subst e; simp
 · simp [e]
theorem Lg : fY h (.bl a) (.bl b) = some (a == b) := by unfold fY; rfl
theorem CW {d e : D} : yW h d e = (fY h d e).map (!·) := by unfold yW; rfl
theorem Uz {d : D} : TY h d .non = some d.isNon := by unfold TY; rfl
theorem Pb : D.non.isNon = true := by unfold D.isNon; rfl
theorem lQ : (D.bl a).tb = some a := by unfold D.tb; rfl
theorem jr : (D.bl a).tru h = some a := by unfold D.tru; rfl
end
theorem nQ {ix : Nat → Option Nat} {K : D → Prop} : Op (bR ix h (.obj c fs)) K = Op (ix c) fun k => Op fs[k]? K := by
 unfold bR D.ins D.der; dsimp only
 cases ix c with
 | none => exact (Uw (K := K)).trans (Uw (α := Nat)).symm
 | some k => rw [aY]
theorem YS {mt : Nat → Option Fn} : fnOf mt h (.obj c fs) = mt c := by unfold fnOf D.ins D.der; rfl
theorem YT {fr : Fr} : nW [] [] fr = some fr := by unfold nW; rfl
theorem Xg {fr : Fr} {k : Nat} {ks : List Nat} {d : D} : nW (k :: ks) (d :: ds) fr = nW ks ds (fr.set k (some d)) := by rw [nW]
theorem tW {fr : Fr} : dW fr [] = fr := by unfold dW; rfl
theorem ql {fr : Fr} {k : Nat} {ks : List Nat} : dW fr (k :: ks) = (dW fr ks).set k none := by rw [dW]
theorem cX {dfl es : List D} : aq dfl ds es = ds ++ dfl := by unfold aq; rfl
theorem YW : jG l = some l := by unfold jG; rfl
theorem aaZ {d : D} : tD d l = if l.length < big then some (l ++ [d]) else none := by unfold tD; rfl
theorem Xh {k : Nat} {d : D} (e : k = fs.length) : nZ k d fs = some (fs ++ [d]) := by
 unfold nZ; rw [if_pos (by omega), if_neg (by omega)]
end
theorem km : big = 100000 := by unfold big; rfl
def CZ (f : Fl) (A : Prop) (B : Fl → Prop) (_ : Jx A B := ⟨⟩) : Prop := match f with
 | .nx => A
 | .ct => A
 | .brk => B .nx
 | .rt d => B (.rt d)
theorem v9 {A : Prop} {B : Fl → Prop} : CZ .nx A B = A := by unfold CZ; rfl
theorem Hn {A : Prop} {B : Fl → Prop} : CZ .ct A B = A := by unfold CZ; rfl
theorem IK {A : Prop} {B : Fl → Prop} : CZ .brk A B = B .nx := by unfold CZ; rfl
theorem Lh {d : D} {A : Prop} {B : Fl → Prop} : CZ (.rt d) A B = B (.rt d) := by unfold CZ; rfl
section
variable {L : Fl → Fr → Hh → Prop} {E : aW → Fr → Hh → Prop} {g : D → M Unit} {b : M Fl}
theorem UG {fr : Fr} {h : Hh} : Wp (dw g b [] fr h) L E = L .nx fr h := by unfold dw; exact fD
theorem UJ {d : D} {ds : List D} {fr : Fr} {h : Hh} : Wp (dw g b (d :: ds) fr h) L E = Wp (g d fr h) (fun _ fr h => Wp (b fr h) (fun f fr h => CZ f (Wp (dw g b ds fr h) L E) fun f => L f fr h) E) iU := by
 rw [dw]
 dsimp only
 cases g d fr h with
 | ok u fr h =>
   rw [cD]
   dsimp only
   cases b fr h with
   | ok f fr h =>
     rw [cD]
     cases f with
     | nx => rw [v9]
     | ct => rw [Hn]
     | brk => rw [IK]; exact cD
     | rt d => rw [Lh]; exact cD
   | exc x fr h => unfold Wp; rfl
   | err => unfold Wp; rfl
 | exc x fr h => unfold Wp iU; rfl
 | err => unfold Wp; rfl
theorem Xi {α : Type} {F : α → D} {xs : List α} (I : List α → Fr → Hh → Prop) {fr : Fr} {h : Hh} (i0 : I [] fr h)
 (st : ∀ pre a suf fr h, xs = pre ++ a :: suf → I pre fr h → Wp (g (F a) fr h) (fun _ fr h => Wp (b fr h) (fun f fr h => CZ f (I (pre ++ [a]) fr h) fun f => L f fr h) E) iU)
 (en : ∀ fr h, I xs fr h → L .nx fr h) : Wp (dw g b (xs.map F) fr h) L E := by
 have main : ∀ (suf pre : List α) (fr : Fr) (h : Hh), xs = pre ++ suf → I pre fr h → Wp (dw g b (suf.map F) fr h) L E := by
  intro suf
  induction suf with
  | nil =>
    intro pre fr h e i
    rw [ahf, UG]
    rw [ahe] at e
    subst e
    exact en fr h i
  | cons a suf ih =>
    intro pre fr h e i
    rw [ahb, UJ]
    refine (st pre a suf fr h e i).mono fun _ fr1 h1 w => w.mono fun f fr2 h2 z => ?_
    have e' : xs = (pre ++ [a]) ++ suf := by rw [e, List.append_assoc]; rfl
    cases f with
    | nx => rw [v9] at z ⊢; exact ih _ _ _ e' z
    | ct => rw [Hn] at z ⊢; exact ih _ _ _ e' z
    | brk => rw [IK] at z ⊢; exact z
    | rt d => rw [Lh] at z ⊢; exact z
 exact main xs [] fr h rfl i0
theorem UL {lo : Int} {n : Nat} (I : Int → Fr → Hh → Prop) {fr : Fr} {h : Hh} (i0 : I lo fr h)
 (st : ∀ j fr h, lo ≤ j → j < lo + n → I j fr h → Wp (g (.int j) fr h) (fun _ fr h => Wp (b fr h) (fun f fr h => CZ f (I (j + 1) fr h) fun f => L f fr h) E) iU)
 (en : ∀ fr h, I (lo + n) fr h → L .nx fr h) : Wp (dw g b (fj lo n) fr h) L E := by
 have e : fj lo n = ((List.range n).map fun (k : Nat) => lo + (k : Int)).map D.int := by unfold fj; rw [List.map_map]; rfl
 rw [e]
 refine Xi (fun pre fr h => I (lo + pre.length) fr h) (by simpa using i0) (fun pre a suf fr h ex i => ?_) (fun fr h i => en fr h ?_)
 · have hl : pre.length < n := by
    have := congrArg List.length ex
    simp only [ahk, List.length_range, ahj, ag9] at this
    omega
   have ha : a = lo + pre.length := by
    have := congrArg (fun l => l[pre.length]?) ex
    simp only [ahy, List.getElem?_range hl, Option.map_some, ahz (Nat.le_refl _), Nat.sub_self, aha, Option.some.injEq] at this
    exact this.symm
   subst ha
   have z := st (lo + pre.length) fr h (by omega) (by omega) i
   rw [ahj, ahl, Int.natCast_add, ← Int.add_assoc]
   exact z
 · simpa using i
end
section
variable {vs : List Nat} {g : D → M Unit} {t : M Bool} {e : M D}
theorem IV {d : D} {Q : Option D → Fr → Hh → Prop} {E : aW → Fr → Hh → Prop} {fr : Fr} {h : Hh} : Wp (lB vs g t e d fr h) Q E = Wp (g d fr h) (fun _ fr h => Wp (t fr h) (fun b fr h => Cd b (Wp (e fr h) (fun y fr h => Bx (dW fr vs) fun fr => Q (some y) fr h) iU) (Bx (dW fr vs) fun fr => Q none fr h)) iU) iU := by
 unfold lB Bx
 cases g d fr h with
 | ok u fr h =>
   rw [cD]
   dsimp only
   cases t fr h with
   | ok b fr h =>
     rw [cD]
     cases b with
     | true =>
       rw [kh]
       dsimp only
       cases e fr h with
       | ok y fr h => rw [cD]; exact cD (E := iU)
       | exc x fr h => unfold Wp iU; rfl
       | err => unfold Wp; rfl
     | false => rw [cZ]; exact cD
   | exc x fr h => unfold Wp iU; rfl
   | err => unfold Wp; rfl
 | exc x fr h => unfold Wp iU; rfl
 | err => unfold Wp; rfl
theorem UT {fr : Fr} {h : Hh} : lL vs g t e [] fr h = .ok [] fr h := by unfold lL; rfl
theorem Es {α : Type} {F G : α → D} {p : α → Bool} {fr : Fr} {h : Hh} : ∀ {xs : List α}, (∀ a ∈ xs, Wp (lB vs g t e (F a) fr h) (fun o fr1 h1 => (o = if p a then some (G a) else none) ∧ fr1 = fr ∧ h1 = h) iU) → lL vs g t e (xs.map F) fr h = .ok ((xs.filter p).map G) fr h
 | [], _ => UT
 | a :: xs, hh => by
   rw [ahb]
   unfold lL
   rw [M.bind_ok ((hh a aht).eq), M.bind_ok (Es fun x hx => hh x (ahx _ hx)), List.filter_cons]
   cases p a <;> rfl
theorem YX {α : Type} {F : α → D} {fr : Fr} {h : Hh} {xs : List α} (hh : ∀ a ∈ xs, Wp (lB vs g t e (F a) fr h) (fun o fr1 h1 => o = none ∧ fr1 = fr ∧ h1 = h) iU) : lL vs g t e (xs.map F) fr h = .ok [] fr h := by
 have := Es (p := fun _ => false) (F := F) (G := F) (xs := xs) (vs := vs) (g := g) (t := t) (e := e) (fr := fr) (h := h) (fun a ha => (hh a ha).mono fun o fr1 h1 z => by simpa using z)
 rw [this, List.filter_eq_nil_iff.mpr (fun _ _ => by simp)]; rfl
end
end Pk
namespace Pk
open PySem PySem.Spec L2
structure Em (α : Type) [DecidableEq α] where
 f : α → PyData
 n : Nat
 ok : α → Prop
 lay : ∀ a, ok a → (f a).canLay0 = true
 dep : ∀ a, (f a).depth ≤ n
 eq : ∀ a b, PyData.eqv (f a) (f b) = decide (a = b)
theorem aa0 (a b : Int) : (a == b) = decide (a = b) := by
 by_cases e : a = b
 · subst e; simp
 · simp [e]
def Em.int : Em Int where
 f := .int
 n := 0
 ok := fun _ => True
 lay := fun _ _ => rfl
 dep := fun _ => Nat.le_refl 0
 eq := fun a b => by
  show (a == b) = _
  exact aa0 a b
def NQ (s : Str) : Bool := (PyData.str s).canLay0
def Em.str : Em Str where
 f := .str
 n := 0
 ok := fun s => NQ s = true
 lay := fun _ h => h
 dep := fun _ => Nat.le_refl 0
 eq := fun a b => by
  show (a == b) = _
  by_cases e : a = b
  · subst e; simp
  · simp [e]
section
variable {α β : Type} [DecidableEq α] [DecidableEq β]
theorem Em.all_lay (A : Em α) : ∀ {l : List α}, (∀ a ∈ l, A.ok a) → PyData.canLayAll0 (l.map A.f) = true
 | [], _ => rfl
 | a :: l, h => by
   rw [ahb, PyData.canLayAll0, A.lay a (h a aht), A.all_lay fun x hx => h x (ahx _ hx)]
   rfl
theorem Em.all_dep (A : Em α) : ∀ l : List α, PyData.depthAll (l.map A.f) ≤ A.n
 | [] => Nat.zero_le _
 | a :: l => by
   rw [ahb, PyData.depthAll]
   exact Nat.max_le.mpr ⟨A.dep a, A.all_dep l⟩
theorem Em.all_eq (A : Em α) : ∀ l m : List α, PyData.eqvAll (l.map A.f) (m.map A.f) = decide (l = m)
 | [], [] => rfl
 | [], b :: m => by simp [PyData.eqvAll]
 | a :: l, [] => by simp [PyData.eqvAll]
 | a :: l, b :: m => by
   rw [ahb, ahb, PyData.eqvAll, A.eq, A.all_eq l m]
   by_cases e : a = b <;> by_cases e2 : l = m <;> simp [e, e2]
def Em.list (A : Em α) : Em (List α) where
 f := fun l => .list (l.map A.f)
 n := A.n + 1
 ok := fun l => ∀ a ∈ l, A.ok a
 lay := fun l h => by rw [PyData.canLay0]; exact A.all_lay h
 dep := fun l => by rw [PyData.depth]; exact Nat.succ_le_succ (A.all_dep l)
 eq := fun l m => by rw [PyData.eqv]; exact A.all_eq l m
def Em.tup (A : Em α) : Em (List α) where
 f := fun l => .tuple (l.map A.f)
 n := A.n + 1
 ok := fun l => ∀ a ∈ l, A.ok a
 lay := fun l h => by rw [PyData.canLay0]; exact A.all_lay h
 dep := fun l => by rw [PyData.depth]; exact Nat.succ_le_succ (A.all_dep l)
 eq := fun l m => by rw [PyData.eqv]; exact A.all_eq l m
def Em.pair (A : Em α) (B : Em β) : Em (α × β) where
 f := fun p => .tuple [A.f p.1, B.f p.2]
 n := max A.n B.n + 1
 ok := fun p => A.ok p.1 ∧ B.ok p.2
 lay := fun p h => by
  rw [PyData.canLay0, PyData.canLayAll0, PyData.canLayAll0, PyData.canLayAll0, A.lay _ h.1, B.lay _ h.2]; rfl
 dep := fun p => by
  rw [PyData.depth, PyData.depthAll, PyData.depthAll, PyData.depthAll]
  have := A.dep p.1
  have := B.dep p.2
  omega
 eq := fun p q => by
  rw [PyData.eqv, PyData.eqvAll, PyData.eqvAll, PyData.eqvAll, A.eq, B.eq]
  obtain ⟨a, b⟩ := p
  obtain ⟨c, d⟩ := q
  by_cases e : a = c <;> by_cases e2 : b = d <;> simp [e, e2]
def Em.opt (A : Em α) (hn : ∀ a, PyData.eqv .none (A.f a) = false ∧ PyData.eqv (A.f a) .none = false) : Em (Option α) where
 f := fun o => match o with
   | some a => A.f a
   | none => .none
 n := A.n
 ok := fun o => ∀ a, o = some a → A.ok a
 lay := fun o h => by
  cases o with
  | none => rfl
  | some a => exact A.lay a (h a rfl)
 dep := fun o => by
  cases o with
  | none => exact Nat.zero_le _
  | some a => exact A.dep a
 eq := fun o p => by
  cases o with
  | none => cases p with
    | none => rfl
    | some b => simp only [(hn b).1]; simp
  | some a => cases p with
    | none => simp only [(hn a).2]; simp
    | some b => simp only [A.eq]; simp
theorem Em.shaped (A : Em α) {a : α} (h : A.ok a) (hn : A.n ≤ 64) : SeqAt.shaped (A.f a) = true := by
 unfold SeqAt.shaped
 rw [A.lay a h, decide_eq_true (Nat.le_trans (A.dep a) hn)]
 rfl
theorem RN (A : Em α) {h : Hh} {d e : D} {a b : α} (hd : d.toP = some (A.f a)) (he : e.toP = some (A.f b)) (oa : A.ok a) (ob : A.ok b) (hn : A.n ≤ 64) : fY h d e = some (decide (a = b)) := by
 unfold fY
 rw [hd, he]
 dsimp only
 rw [A.shaped oa hn, A.shaped ob hn, ← A.eq]
 rfl
theorem xj (A : Em α) {g : α → D} (hg : ∀ a, (g a).toP = some (A.f a)) : ∀ l : List α, D.toPs (l.map g) = some (l.map A.f)
 | [] => by rw [ahf, D.toPs]; rfl
 | a :: l => by
   rw [ahb, D.toPs, hg a, xj A hg l]
   rfl
theorem RP (A : Em α) {g : α → D} (hg : ∀ a, (g a).toP = some (A.f a)) (l : List α) : (D.fl (l.map g)).toP = some (A.list.f l) := by
 rw [D.toP, xj A hg]; rfl
theorem acS (A : Em α) {g : α → D} (hg : ∀ a, (g a).toP = some (A.f a)) (l : List α) : (D.nl (l.map g)).toP = some (A.list.f l) := by
 rw [D.toP, xj A hg]; rfl
theorem IW (A : Em α) {g : α → D} (hg : ∀ a, (g a).toP = some (A.f a)) (l : List α) : (D.tup (l.map g)).toP = some (A.tup.f l) := by
 rw [D.toP, xj A hg]; rfl
theorem Ja (i : Int) : (D.int i).toP = some (Em.int.f i) := by unfold D.toP; rfl
theorem UV (s : Str) : (D.str s).toP = some (Em.str.f s) := by unfold D.toP; rfl
end
section
variable {h : Hh} {l m : List Int} {v : Int}
theorem aa1 : fY h (.tup (l.map .int)) (.tup (m.map .int)) = some (decide (l = m)) := RN Em.int.tup (IW Em.int Ja l) (IW Em.int Ja m) (fun _ _ => trivial) (fun _ _ => trivial) (by decide)
end
def psI (d : D) : Option Int := match d with
 | .int i => some i
 | _ => none
theorem UW {i : Int} : psI (.int i) = some i := by unfold psI; rfl
theorem Xj {m : M D} {I : Option Int → Fr → Hh → Prop} {E : aW → Fr → Hh → Prop} {fr : Fr} {h : Hh} : Wp (Ci m fr h) I E = Wp (m fr h) (fun d fr h => Op (psI d) fun i => I (some i) fr h) E := by
 rw [adN]
 congr 1
theorem YZ {α : Type} {l : List α} {k : Nat} : l.take (min k l.length) = l.take k := by
 by_cases hk : k ≤ l.length
 · rw [Nat.min_eq_left hk]
 · rw [Nat.min_eq_right (by omega), List.take_length, List.take_of_length_le (by omega)]
theorem Xk {α : Type} {l : List α} {k : Int} (h0 : 0 ≤ k) : cutD l none (some k) = l.take k.toNat := by
 unfold cutD HT.sIx
 dsimp only
 rw [if_neg (by omega), List.drop_zero, Nat.sub_zero, YZ]
theorem Xl {α : Type} {l : List α} {k : Int} (h0 : 0 ≤ k) : cutD l (some k) none = l.drop k.toNat := by
 unfold cutD HT.sIx
 dsimp only
 rw [if_neg (by omega)]
 by_cases hk : k.toNat ≤ l.length
 · rw [Nat.min_eq_left hk, List.take_of_length_le (by rw [List.length_drop]; omega)]
 · rw [Nat.min_eq_right (by omega), List.drop_of_length_le (Nat.le_refl _), List.drop_of_length_le (by omega), List.take_nil]
theorem Y0 {h : Hh} {l : List D} {p : Option Int × Option Int} : oN h (.tup l) p = some (.tup (cutD l p.1 p.2)) := by unfold oN; rfl
theorem acU {h : Hh} {a b : Str} (ha : NQ a = true) (hb : NQ b = true) : fY h (.str a) (.str b) = some (decide (a = b)) := RN Em.str (UV a) (UV b) ha hb (by decide)
theorem Lj {i : Int} (h1 : -100000 ≤ i) (h2 : i ≤ 100000) : jc i = true := by
 unfold jc
 rw [decide_eq_true (show -(2 ^ 62) ≤ i by omega), decide_eq_true (show i < 2 ^ 62 by omega)]
 rfl
theorem aa2 {n : Nat} {N : Int} {b : M Fl} {ns : List Int} (hn : 2 ≤ n) (h1 : 1 ≤ N) (hN : N ≤ 63)
 (hb : ∀ (k : Nat) (xs : Fr) (h : Hh), (k : Int) < N → xs.length = n - 2 → Wp (b (some (.kl (ns.map .int)) :: some (.int k) :: xs) h) (fun f fr _ => (f = .nx ∨ f = .ct) ∧ ∃ x1 ys, fr = some (.kl (ns.map .int)) :: x1 :: ys ∧ ys.length = n - 2) iU) :
 ∃ fr h, bK n (aC (d9 (sG (aD Kv (mC (.int 1)) (aD Kw (mC (.int N)) (aF bW (aG 0))))) (bM 1) b) (aO (mC (.bl true)))) [.kl (ns.map .int)] [] = .ok (.bl true) fr h := by
 have w : Wp (bK n (aC (d9 (sG (aD Kv (mC (.int 1)) (aD Kw (mC (.int N)) (aF bW (aG 0))))) (bM 1) b) (aO (mC (.bl true)))) [.kl (ns.map .int)] []) (fun d _ _ => d = .bl true) iU := by
  have es : startF n [.kl (ns.map .int)] = some (.kl (ns.map .int)) :: none :: List.replicate (n - 2) none := by
   unfold startF
   obtain ⟨m, rfl⟩ : ∃ m, n = m + 2 := ⟨n - 2, by omega⟩
   simp [ahu]
  simp only [cW, es, bB, ↓cP, ↓yO, ↓CT, ↓fu, ↓iV, ↓dM, ↓dJ, aha, aX, aaX, aY, acR, adP, true_and, RJ, ahk]
  generalize hz : (if (if (ns.length : Int) < N then (ns.length : Int) else N) > 1 then (if (ns.length : Int) < N then (ns.length : Int) else N) else 1) = z
  have z1 : 1 ≤ z := by rw [← hz]; split <;> omega
  have z2 : z ≤ N := by rw [← hz]; split <;> split at * <;> omega
  rw [Lj (by omega) (by omega)]
  simp only [↓reduceIte, aY]
  refine UL (fun _ fr _ => ∃ x1 ys, fr = some (.kl (ns.map .int)) :: x1 :: ys ∧ ys.length = n - 2) ⟨none, _, rfl, by simp⟩ ?_ ?_
  · rintro j fr h j0 j1 ⟨x1, ys, rfl, hy⟩
    simp only [↓ul, ahg, ahc, bB]
    have ej : ((j.toNat : Nat) : Int) = j := by omega
    have := hb j.toNat ys h (by omega) hy
    rw [ej] at this
    refine this.mono ?_
    rintro f fr h ⟨rfl | rfl, q⟩
    · rw [v9]; exact q
    · rw [Hn]; exact q
  · rintro fr h ⟨x1, ys, rfl, hy⟩
    simp only [dh, ↓eQ, ↓iV, fW]
 obtain ⟨d, fr, h, e, rfl⟩ := w.ex
 exact ⟨fr, h, e⟩
end Pk
namespace Pk
open PySem PySem.Spec L2
section
variable {Q : D → Fr → Hh → Prop} {E : aW → Fr → Hh → Prop} {fr : Fr} {h : Hh} {ma mb : M D} {mk : M (List D)} {F : Fn} {m : Nat} {mt : Nat → Option Fn}
theorem Y4 : Wq (Ak m F ma mk fr h) Q E = Wq (ma fr h) (fun d fr h => Wq (mk fr h) (fun es fr h => Oq (d.its []) fun ds => ds.length ≤ big ∧ es.length = m ∧ Wq (F (lN ds es) h) (fun d _ h => Q d fr h) (fun x _ h => E x fr h)) E) E := by
 unfold Ak
 rw [aQ]
 congr 1
 funext d fr h
 rw [aQ]
 congr 1
 funext es fr h
 cases d.its [] with
 | none => exact (eZ (Q := Q) (E := E)).trans (gH (α := List D)).symm
 | some ds =>
   rw [d7]
   dsimp only
   split
   · rename_i hb; rw [En]; simp only [hb.1, hb.2, true_and]
   · rename_i hb
     rw [eZ, eq_iff_iff]
     exact ⟨False.elim, fun z => hb ⟨z.1, z.2.1⟩⟩
theorem U0 : Wp (Ak m F ma mk fr h) Q E = Wp (ma fr h) (fun d fr h => Wp (mk fr h) (fun es fr h => Op (d.its []) fun ds => ds.length ≤ big ∧ es.length = m ∧ Wp (F (lN ds es) h) (fun d _ h => Q d fr h) (fun x _ h => E x fr h)) E) E := Y4
theorem zN {ds es : List D} : lN ds es = es ++ [.tup ds] := by unfold lN; rfl
theorem aa3 : Wq (M8 mt ma mb fr h) Q E = Wq (ma fr h) (fun x fr h => Wq (mb fr h) (fun y fr h => Oq (yK mt h x y) fun F => Wq (F [x, y] h) (fun d _ h => Q d fr h) (fun x _ h => E x fr h)) E) E := by
 unfold M8
 rw [aQ]
 congr 1
 funext x fr h
 rw [aQ]
 congr 1
 funext y fr h
 cases yK mt h x y with
 | none => exact (eZ (Q := Q) (E := E)).trans (gH (α := Fn)).symm
 | some F => rw [d7]; exact En
theorem acV : Wp (M8 mt ma mb fr h) Q E = Wp (ma fr h) (fun x fr h => Wp (mb fr h) (fun y fr h => Op (yK mt h x y) fun F => Wp (F [x, y] h) (fun d _ h => Q d fr h) (fun x _ h => E x fr h)) E) E := aa3
theorem aa4 {c : Nat} {fs gs : List D} : yK mt h (.obj c fs) (.obj c gs) = mt c := by
 unfold yK ou D.ins D.der
 dsimp only
 rw [if_pos rfl]
end
section
variable {h : Hh} {l m : List Str} {w : Str}
end
section
variable {vs : List Nat} {g : D → M Unit} {t : M Bool} {e : M D}
end
end Pk
namespace Pk
open PySem PySem.Spec L2
def endF (i : Nat) (f : Fl) (fr : Fr) : Fr := match f with
 | .rt _ => fr
 | _ => fr.set i none
section
variable {Q : Fl → Fr → Hh → Prop} {S : D → Fr → Hh → Prop} {E : aW → Fr → Hh → Prop} {fr : Fr} {h : Hh} {i : Nat} {cond : Nat → Option Bool} {mb : M Fl} {ms : aW → M Fl} {ma mc : M D} {mt : Nat → Option Fn}
theorem U3 : endF i .nx fr = fr.set i none := rfl
theorem aa5 {r : R Fl} : Wq (Vx i r) Q E = Wq r (fun f fr h => Q f (endF i f fr) h) E := by
 cases r with
 | ok f fr h => cases f <;> rfl
 | exc x fr h => rfl
 | err => rfl
theorem U6 : Wp (Ed i cond mb ms fr h) Q E = Wp (mb fr h) Q (fun x fr1 h1 => Op (cond x.c) fun b => Cd b (i < fr1.length ∧ Bx (fr1.set i none) fun fr2 => Wp (ms x fr2 h1) (fun f fr3 h3 => Q f (endF i f fr3) h3) E) (E x fr1 h1)) := by
 show Wq (Ed i cond mb ms fr h) Q E = Wq (mb fr h) Q (fun x fr1 h1 => Oq (cond x.c) fun b => CQ b (i < fr1.length ∧ Bq (fr1.set i none) fun fr2 => Wq (ms x fr2 h1) (fun f fr3 h3 => Q f (endF i f fr3) h3) E) (E x fr1 h1))
 unfold Ed
 cases e : mb fr h with
 | err => rfl
 | ok f fr1 h1 => cases f <;> rfl
 | exc x fr1 h1 =>
   rw [Iw]
   dsimp only
   cases cond x.c with
   | none => rw [gH]; exact eZ
   | some b =>
     rw [d7]
     cases b with
     | false => rw [K9]; exact Iw
     | true =>
       rw [K8]
       dsimp only
       by_cases hl : i < fr1.length
       · rw [if_pos hl, aa5]
         unfold Bq
         simp only [hl, true_and]
       · rw [if_neg hl, eZ]
         simp only [hl, false_and]
theorem JX {c n : Nat} {chk : List D → Bool} {mas : M (List D)} : Wp (Cr c n chk mas fr h) Q E = Wp (mas fr h) (fun ds fr h => ds.length = n ∧ chk ds = true ∧ E ⟨c, ds⟩ fr h) E := by
 show Wq (Cr c n chk mas fr h) Q E = Wq (mas fr h) (fun ds fr h => ds.length = n ∧ chk ds = true ∧ E ⟨c, ds⟩ fr h) E
 unfold Cr
 rw [aQ]
 congr 1
 funext ds fr h
 by_cases hl : ds.length = n ∧ chk ds = true
 · rw [if_pos hl, Iw]
   simp only [hl.1, hl.2, true_and]
 · rw [if_neg hl, eZ]
   refine propext ⟨False.elim, fun z => hl ⟨z.1, z.2.1⟩⟩
theorem Xm {tab : Tg → Tg → Option Bool} {c : Nat} : Wp (G3 tab c mc fr h) S E = Wp (mc fr h) (fun d fr h => Op (JL tab c d) fun b => S (.bl b) fr h) E := by
 show Wq (G3 tab c mc fr h) S E = Wq (mc fr h) (fun d fr h => Oq (JL tab c d) fun b => S (.bl b) fr h) E
 unfold G3
 rw [aQ]
 congr 1
 funext d fr h
 rw [jm, Ut]
theorem ZW {ix : Nat → Option Nat} {x : aW} : Wp (Ra ix x fr h) S E = Op (ix x.c) fun j => Op (x.fs[j]?) fun d => S d fr h := by
 show Wq (Ra ix x fr h) S E = Oq (ix x.c) fun j => Oq (x.fs[j]?) fun d => S d fr h
 unfold Ra
 cases ix x.c with
 | none => exact eZ.trans gH.symm
 | some j =>
   rw [d7]
   show Wq (WR j x fr h) S E = _
   unfold WR
   cases x.fs[j]? with
   | none => exact eZ.trans gH.symm
   | some d => rw [d7]; exact qU
end
section
variable {h : Hh} {i : Int} {b : Bool} {z : Str} {l : List D}
end
end Pk
namespace Pk
open PySem PySem.Spec L2
def Ho (d : D) (K : Int → Prop) : Prop := match d with
 | .int i => 0 ≤ i ∧ i < 2 ^ 60 ∧ K i
 | _ => False
section
variable {Q : Bool → Fr → Hh → Prop} {S : D → Fr → Hh → Prop} {E : aW → Fr → Hh → Prop} {fr : Fr} {h : Hh} {ma mb : M D} {mt : Nat → Option Fn}
theorem RQ {i : Int} {K : Int → Prop} : Ho (.int i) K = (0 ≤ i ∧ i < 2 ^ 60 ∧ K i) := by unfold Ho; rfl
theorem Jb {o : D} {as : List D} : Wq (rR mt o as fr h) S E = Oq (fnOf mt h o) fun F => Wq (F (o :: as) h) (fun d _ h => S d fr h) iU := by
 unfold rR
 cases fnOf mt h o with
 | none => exact eZ.trans gH.symm
 | some F =>
   rw [d7]
   dsimp only
   cases F (o :: as) h <;> (unfold Wq; rfl)
theorem Y5 {o : D} {as : List D} : Wq (Eh mt o as fr h) S E = Oq (fnOf mt h o) fun F => Wq (F (o :: as) h) (fun d _ h => S d fr h) (fun x _ h => E x fr h) := by
 unfold Eh
 cases fnOf mt h o with
 | none => exact eZ.trans gH.symm
 | some F =>
   rw [d7]
   dsimp only
   exact En
theorem U7 : Wp (Ip mt ma fr h) S E = Wp (ma fr h) (fun o fr h => Op (fnOf mt h o) fun F => Wp (F [o] h) (fun d _ h => Ho d fun i => S (.int i) fr h) iU) E := by
 show Wq (Ip mt ma fr h) S E = Wq (ma fr h) (fun o fr h => Oq (fnOf mt h o) fun F => Wq (F [o] h) (fun d _ h => Ho d fun i => S (.int i) fr h) iU) E
 unfold Ip
 rw [aQ]
 congr 1
 funext o fr h
 rw [aQ, Jb]
 congr 1
 funext F
 congr 1
 funext d fr1 h1
 unfold zm Ho
 cases d with
 | int i =>
   dsimp only
   by_cases hi : 0 ≤ i ∧ i < 2 ^ 60
   · rw [if_pos hi, qU]
     exact propext ⟨fun z => ⟨hi.1, hi.2, z⟩, fun z => z.2.2⟩
   · rw [if_neg hi, eZ]
     exact propext ⟨False.elim, fun z => hi ⟨z.1, z.2.1⟩⟩
 | _ => exact eZ
theorem U8 : Wp (xO mt ma mb fr h) S E = Wp (ma fr h) (fun o fr h => Wp (mb fr h) (fun i fr h => Op (fnOf mt h o) fun F => Wp (F [o, i] h) (fun d _ h => S d fr h) (fun x _ h => E x fr h)) E) E := by
 show Wq (xO mt ma mb fr h) S E = Wq (ma fr h) (fun o fr h => Wq (mb fr h) (fun i fr h => Oq (fnOf mt h o) fun F => Wq (F [o, i] h) (fun d _ h => S d fr h) (fun x _ h => E x fr h)) E) E
 unfold xO
 rw [aQ]
 congr 1
 funext o fr h
 rw [aQ]
 congr 1
 funext i fr h
 exact Y5
theorem zP {α : Type} {P : α → Fr → Hh → Prop} {g : D → D → M α} : Wp (rW g ma mb fr h) P E = Wp (ma fr h) (fun x fr h => Wp (mb fr h) (fun y fr h => Wp (g x y fr h) P E) E) E := by
 show Wq (rW g ma mb fr h) P E = Wq (ma fr h) (fun x fr h => Wq (mb fr h) (fun y fr h => Wq (g x y fr h) P E) E) E
 unfold rW
 simp only [aQ]
theorem Xn {d : D} {c : Bool → Bool} : Wq (((Rc d).bind fun b => M.ret (c b)) fr h) Q E = Oq d.tb fun b => Q (c b) fr h := by
 unfold Rc
 rw [aQ, jm]
 rfl
theorem Lk {c : Bool → Bool} {x o : D} : Wp (G5 mt c x o fr h) Q E = Op (fnOf mt h o) fun F => Wp (F [o, x] h) (fun d _ h => Op d.tb fun b => Q (c b) fr h) iU := by
 show Wq (G5 mt c x o fr h) Q E = Oq (fnOf mt h o) fun F => Wq (F [o, x] h) (fun d _ h => Oq d.tb fun b => Q (c b) fr h) iU
 unfold G5
 rw [aQ, Jb]
 congr 1
 funext F
 congr 1
 funext d fr1 h1
 exact Xn
end
end Pk
namespace Pk
open PySem PySem.Spec L2
section
variable {Q : Bool → Fr → Hh → Prop} {E : aW → Fr → Hh → Prop} {fr : Fr} {h : Hh} {mt : Nat → Option Fn} {n m : Nat} {fs gs : List D}
theorem Ln {c : Bool → Bool} {x y : D} : Wp (Cz mt c x y fr h) Q E = (((y.bty h).isSome || (ou h x y).isSome) = true ∧ Op (fnOf mt h x) fun F => Wp (F [x, y] h) (fun d _ h => Op d.tb fun b => Q (c b) fr h) iU) := by
 show Wq (Cz mt c x y fr h) Q E = (((y.bty h).isSome || (ou h x y).isSome) = true ∧ Oq (fnOf mt h x) fun F => Wq (F [x, y] h) (fun d _ h => Oq d.tb fun b => Q (c b) fr h) iU)
 unfold Cz
 cases hc : ((y.bty h).isSome || (ou h x y).isSome) with
 | false =>
   rw [if_neg (by simp), eZ]
   simp
 | true =>
   rw [if_pos rfl, aQ, Jb]
   simp only [true_and]
   congr 1
   funext F
   congr 1
   funext d fr1 h1
   exact Xn
theorem U9 : D.bty h (.obj n fs) = none := rfl
end
end Pk
namespace Pk
open PySem PySem.Spec L2
def aeB (l : List D) (d : D) : Option (D × List D) := match d with
 | .int j => if -(2 ^ 63) ≤ j ∧ j < 2 ^ 63 then (match seqIndex? j l.length with
   | some q => (match l[q]? with
     | some y => some (y, l.eraseIdx q)
     | none => none)
   | none => none) else none
 | _ => none
def agJ (x d : D) (K : D → List D → Prop) : Prop := match x with
 | .nl l => Oq (aeB l d) fun p => K p.1 p.2
 | _ => False
section
variable {S : D → Fr → Hh → Prop} {E : aW → Fr → Hh → Prop} {fr : Fr} {h : Hh} {ma : M D} {mas : M (List D)} {mt : Nat → Option Fn} {i n c : Nat} {d : D} {l : List D}
theorem RW : Wp (CG mt ma fr h) S E = Wp (ma fr h) (fun o fr h => Op (fnOf mt h o) fun F => Wp (F [o] h) (fun d _ h => Ho d fun i => S (.bl (i != 0)) fr h) iU) E := by
 show Wq (CG mt ma fr h) S E = Wq (ma fr h) (fun o fr h => Oq (fnOf mt h o) fun F => Wq (F [o] h) (fun d _ h => Ho d fun i => S (.bl (i != 0)) fr h) iU) E
 unfold CG
 rw [aQ]
 congr 1
 funext o fr h
 rw [aQ, Jb]
 congr 1
 funext F
 congr 1
 funext d fr1 h1
 rw [aQ]
 unfold zm Ho
 cases d with
 | int i =>
   dsimp only
   by_cases hi : 0 ≤ i ∧ i < 2 ^ 60
   · rw [if_pos hi, qU, jm, d7]
     exact propext ⟨fun z => ⟨hi.1, hi.2, z⟩, fun z => z.2.2⟩
   · rw [if_neg hi, eZ]
     exact propext ⟨False.elim, fun z => hi ⟨z.1, z.2.1⟩⟩
 | _ => exact eZ
end
end Pk
namespace Pk
open PySem PySem.Spec L2
section
variable {Q : Bool → Fr → Hh → Prop} {E : aW → Fr → Hh → Prop} {fr : Fr} {h : Hh} {mb : M D} {i : Nat}
end
end Pk
namespace Pk
open PySem PySem.Spec L2
def EqK {α : Type} (o : Option α) (A B : Prop) : Prop := match o with
 | some _ => A
 | none => B
section
variable {Q : Bool → Fr → Hh → Prop} {E : aW → Fr → Hh → Prop} {fr : Fr} {h : Hh} {mt : Nat → Option Fn} {i : Int} {b c : Bool} {z : Str} {l : List D}
theorem Y6 : KY h (.bl b) (.bl c) = some (!decide (b = c)) := rfl
end
end Pk
namespace Pk
open PySem PySem.Spec L2
section
variable {Q : Bool → Fr → Hh → Prop} {E : aW → Fr → Hh → Prop} {fr : Fr} {h : Hh} {mt : Nat → Option Fn} {nf : Nat → Nat}
end
end Pk
namespace Pk
open PySem PySem.Spec L2
section
variable {Q : Fl → Fr → Hh → Prop} {E : aW → Fr → Hh → Prop} {fr : Fr} {h : Hh} {i : Nat} {cond : Nat → Option Bool} {mb : M Fl} {ms : aW → M Fl} {x : aW} {cs : List Hd}
end
end Pk
namespace Pk
open PySem PySem.Spec L2
theorem Xo {h : Hh} {b : Bool} : uP h (.bl b) = some (.bl b) := rfl
theorem VL {h : Hh} {i : Int} : uP h (.int i) = some (.bl (i != 0)) := rfl
end Pk
namespace Pk
open PySem PySem.Spec L2
section
variable {Q : Fl → Fr → Hh → Prop} {E : aW → Fr → Hh → Prop} {fr : Fr} {h : Hh} {c : Nat} {ma : M D}
end
end Pk
namespace Pk
open PySem PySem.Spec L2
section
variable {G : List D → Fr → Hh → Prop} {E : aW → Fr → Hh → Prop} {fr : Fr} {h : Hh} {ma mb : M D} {a b : D} {l m : List D}
end
end Pk
namespace Pk
open PySem PySem.Spec L2
def agK : List Int → Int
 | a :: r => Vr a r
 | [] => 0
end Pk
namespace Pk
open PySem PySem.Spec L2
section
variable {L : Fl → Fr → Hh → Prop} {E : aW → Fr → Hh → Prop} {g : D → M Unit} {b : M Fl} {n : Nat} {l : List D} {fr : Fr} {h : Hh} {G : Nat × List D × List D → Fr → Hh → Prop} {li : M (Nat × List D × List D)} {ma mb : M D}
theorem Y7 : Wp (zH li g b fr h) L E = Wp (li fr h) (fun x fr h => Wp (pq x.1 x.2.1 g b x.2.2 fr h) L E) E := by
 show Wq (zH li g b fr h) L E = Wq (li fr h) (fun x fr h => Wq (pq x.1 x.2.1 g b x.2.2 fr h) L E) E
 unfold zH
 simp only [aQ]
theorem acW : Wp (Nv ma fr h) G E = Wp (ma fr h) (fun d fr h => Op ((u5 h d).map fun x => (x.1, x.2, x.2)) fun x => G x fr h) E := by
 show Wq (Nv ma fr h) G E = Wq (ma fr h) (fun d fr h => Oq ((u5 h d).map fun x => (x.1, x.2, x.2)) fun x => G x fr h) E
 unfold Nv
 simp only [aQ, jm]
theorem Xp (e : h[n]? = some (.nl l)) : u5 h (.ref n) = some (n, l) := by
 unfold u5
 dsimp only
 rw [e]
theorem Y8 (hc : h[n]? = some (.nl l)) : Wp (pq n l g b [] fr h) L E = L .nx fr h := by
 unfold pq
 rw [if_pos hc]
 exact cD
theorem Y9 {d : D} {ds : List D} (hc : h[n]? = some (.nl l)) : Wp (pq n l g b (d :: ds) fr h) L E = Wp (g d fr h) (fun _ fr h => Wp (b fr h) (fun f fr h => CZ f (Wp (pq n l g b ds fr h) L E) fun f => L f fr h) E) iU := by
 rw [pq]
 dsimp only
 rw [if_pos hc]
 cases g d fr h with
 | ok u fr h =>
   rw [cD]
   dsimp only
   cases b fr h with
   | ok f fr h =>
     rw [cD]
     cases f with
     | nx => rw [v9]
     | ct => rw [Hn]
     | brk => rw [IK]; exact cD
     | rt d => rw [Lh]; exact cD
   | exc x fr h => unfold Wp; rfl
   | err => unfold Wp; rfl
 | exc x fr h => unfold Wp iU; rfl
 | err => unfold Wp; rfl
theorem aa6 {α : Type} {F : α → D} {xs : List α} (I : List α → Fr → Hh → Prop) (cell : ∀ pre fr h, I pre fr h → h[n]? = some (.nl l)) (i0 : I [] fr h)
 (st : ∀ pre a suf fr h, xs = pre ++ a :: suf → I pre fr h → Wp (g (F a) fr h) (fun _ fr h => Wp (b fr h) (fun f fr h => CZ f (I (pre ++ [a]) fr h) fun f => L f fr h) E) iU)
 (en : ∀ fr h, I xs fr h → L .nx fr h) : Wp (pq n l g b (xs.map F) fr h) L E := by
 have main : ∀ (suf pre : List α) (fr : Fr) (h : Hh), xs = pre ++ suf → I pre fr h → Wp (pq n l g b (suf.map F) fr h) L E := by
  intro suf
  induction suf with
  | nil =>
    intro pre fr h e i
    rw [ahf, Y8 (cell pre fr h i)]
    rw [ahe] at e
    subst e
    exact en fr h i
  | cons a suf ih =>
    intro pre fr h e i
    rw [ahb, Y9 (cell pre fr h i)]
    refine (st pre a suf fr h e i).mono fun _ fr1 h1 w => w.mono fun f fr2 h2 z => ?_
    have e' : xs = (pre ++ [a]) ++ suf := by rw [e, List.append_assoc]; rfl
    cases f with
    | nx => rw [v9] at z ⊢; exact ih _ _ _ e' z
    | ct => rw [Hn] at z ⊢; exact ih _ _ _ e' z
    | brk => rw [IK] at z ⊢; exact z
    | rt d => rw [Lh] at z ⊢; exact z
 exact main xs [] fr h rfl i0
end
end Pk
namespace Pk
open PySem PySem.Spec L2
def JnK (d : D) (K : Str → Prop) : Prop := match d with
 | .str y => K y
 | _ => False
def AgK (d : D) (K : Int → Prop) : Prop := match d with
 | .int y => K y
 | _ => False
section
variable {α : Type} {Q : α → Fr → Hh → Prop} {S : D → Fr → Hh → Prop} {L : Fl → Fr → Hh → Prop} {G : Str → Fr → Hh → Prop} {E : aW → Fr → Hh → Prop} {fr : Fr} {h : Hh} {m ma mb : M D} {ml mh : M (Option Int)} {mt : Nat → Option Fn} {i : Nat} {ms : List (M D)} {acc : Str}
theorem Wp.eqx {r : R α} {x : aW} {fr : Fr} {h : Hh} (w : Wp r (fun _ _ _ => False) (fun y fr1 h1 => y = x ∧ fr1 = fr ∧ h1 = h)) : r = .exc x fr h := by
 cases r with
 | ok a fr h => exact (show False from w).elim
 | exc y fr1 h1 =>
   obtain ⟨e1, e2, e3⟩ := (show y = x ∧ fr1 = fr ∧ h1 = h from w)
   rw [e1, e2, e3]
 | err => exact (show False from w).elim
end
end Pk
namespace Pk
open PySem PySem.Spec L2
end Pk
namespace Pk
open PySem PySem.Spec L2
section
variable {h : Hh}
theorem Wp.out {α : Type} {r : R α} {Q : α → Fr → Hh → Prop} (w : Wp r Q iU) : ∃ a fr h, r = .ok a fr h ∧ Q a fr h := by
 cases r with
 | ok a fr h => exact ⟨a, fr, h, rfl, w⟩
 | exc y fr1 h1 => exact (show False from w).elim
 | err => exact (show False from w).elim
end
end Pk
namespace Pk
open PySem PySem.Spec L2
section
variable {S : D → Fr → Hh → Prop} {E : aW → Fr → Hh → Prop} {fr : Fr} {h : Hh} {ma : M D} {mt : Nat → Option Fn}
end
end Pk
namespace Pk
open PySem PySem.Spec L2
def Oxq (o : Option (Fn × Bool)) (A B : Fn → Prop) : Prop := match o with
 | some (F, false) => A F
 | some (F, true) => B F
 | none => False
def OxK (o : Option (Fn × Bool)) (A B : Fn → Prop) (_ : Jx A B := ⟨⟩) : Prop := Oxq o A B
section
variable {S : D → Fr → Hh → Prop} {E : aW → Fr → Hh → Prop} {fr : Fr} {h : Hh} {ma mb : M D} {mtl mtr : Nat → Option Fn}
end
end Pk
namespace Pk
open PySem PySem.Spec L2
section
variable {S : D → Fr → Hh → Prop} {E : aW → Fr → Hh → Prop} {fr : Fr} {h : Hh} {mo ma : M D}
end
section
variable {α : Type} [DecidableEq α] {h : Hh} {x y : D} {a : α} {l : List α}
theorem RX {p : Nat} {g : α → D} (A : Em α) (e : h[p]? = some (.nl (l.map g))) (hg : ∀ a, (g a).toP = some (A.f a)) : (D.ref p).lstP h = some (l.map A.f) := by
 unfold D.lstP D.der
 dsimp only
 rw [e]
 exact xj A hg l
end
end Pk
namespace Pk
open PySem PySem.Spec L2
section
variable {Q : D → Fr → Hh → Prop} {S : List D → Fr → Hh → Prop} {E : aW → Fr → Hh → Prop} {fr : Fr} {h : Hh} {n : Nat} {l : List D} {vs : List Nat} {g : D → M Unit} {t : M Bool} {e : M D}
end
end Pk
namespace Pk
open PySem PySem.Spec L2
def agL (h : Hh) (ix : Nat → Option Nat) (o d : D) : Option Hh := match o with
 | .ref n => match h[n]? with
   | some (.no c fs) => match ix c with
     | some i => match nZ i d fs with
       | some fs' => some (h.set n (.no c fs'))
       | none => none
     | none => none
   | _ => none
 | _ => none
section
variable {Q : D → Fr → Hh → Prop} {L : Fl → Fr → Hh → Prop} {U : Unit → Fr → Hh → Prop} {E : aW → Fr → Hh → Prop} {fr : Fr} {h : Hh} {mo mv : M D} {ms : List (M D)}
end
end Pk
namespace Pk
open PySem PySem.Spec L2
section
variable {E : aW → Fr → Hh → Prop} {fr : Fr} {h : Hh} {G : Nat × List D × List D → Fr → Hh → Prop} {ma : M D}
end
end Pk
namespace Pk
open PySem PySem.Spec L2
def agM (d : D) (K : Nat → Prop) : Prop := match d with
 | .ref n => K n
 | _ => False
def agN (d : D) (K : Nat → List D → Prop) : Prop := match d with
 | .no c fs => K c fs
 | _ => False
section
variable {S : D → Fr → Hh → Prop} {L : Fl → Fr → Hh → Prop} {A : List D → Fr → Hh → Prop} {E : aW → Fr → Hh → Prop} {fr : Fr} {h : Hh} {m mo mt : M D} {ma : M (List D)} {t : M Bool} {b : M Fl} {i j n : Nat}
def WhK (f : Fl) (again : Prop) (out : Fl → Prop) : Prop := match f with
 | .nx => again
 | .ct => again
 | .brk => out .nx
 | .rt d => out (.rt d)
end
end Pk
namespace Pk
open PySem PySem.Spec L2
section
variable {S : D → Fr → Hh → Prop} {A : List D → Fr → Hh → Prop} {E : aW → Fr → Hh → Prop} {fr : Fr} {h : Hh} {m mo : M D} {ma li : M (List D)} {ms : M Fl} {ds out : List D} {g : D → M Unit} {b c : List D → M (List D)}
end
end Pk
namespace Pk
open PySem PySem.Spec L2
section
variable {G : Nat × List D × List D → Fr → Hh → Prop} {E : aW → Fr → Hh → Prop} {fr : Fr} {h : Hh} {ma mb : M D} {n : Nat} {l : List D}
end
end Pk
namespace Pk
open PySem PySem.Spec L2 GenP
section
variable {A : List D → Fr → Hh → Prop} {L : Fl → Fr → Hh → Prop} {E : aW → Fr → Hh → Prop} {fr : Fr} {h : Hh} {mo : M D} {mc : M (List D)} {c nN : Nat} {b : wI} {g : D → M Unit} {bm : M Fl}
end
end Pk
namespace Pk
open PySem PySem.Spec L2
section
variable {Q : D → Fr → Hh → Prop} {L : Fl → Fr → Hh → Prop} {E : aW → Fr → Hh → Prop} {fr : Fr} {h : Hh} {mo mk mv mz m : M D}
end
end Pk
namespace L
open PySem PySem.Spec L2 Pk GenP
noncomputable section
def fld : Nat → List Str
 | 0 => ["readings", "start", "counts", "restarts", "tails", "lost"]
 | 1 => ["readings", "instances"]
 | 2 => ["at"]
 | 3 => []
 | 4 => []
 | _ => []
abbrev T (K : PySem.W.Frag) : Tb := Wx cn fld K
def bH : Nat → Option Nat := fun c => ahm c [(0, 0), (1, 0)]
def bf : Nat → Option Nat := fun c => ahm c [(1, 1)]
def qC : Nat → Option Nat := fun c => ahm c [(0, 1)]
def oE : Nat → Option Nat := fun c => ahm c [(0, 2)]
def j5 : Nat → Option Nat := fun c => ahm c [(0, 3)]
def qD : Nat → Option Nat := fun c => ahm c [(0, 4)]
def uo : Nat → Option Nat := fun c => ahm c [(0, 5)]
def il : Tg → Tg → Option Bool := Vu [((.b "NoneType", .o 0), false), ((.b "bool", .o 0), false), ((.b "int", .o 0), false), ((.b "str", .o 0), false), ((.b "tuple", .o 0), false), ((.b "list", .o 0), false), ((.o 0, .b "bool"), false), ((.o 0, .b "int"), false), ((.o 0, .b "str"), false), ((.o 0, .b "tuple"), false), ((.o 0, .b "list"), false), ((.o 0, .o 0), true), ((.o 1, .b "bool"), false), ((.o 1, .b "int"), false), ((.o 1, .b "str"), false), ((.o 1, .b "tuple"), false), ((.o 1, .b "list"), false), ((.o 1, .o 0), false)]
def zQ : Tg → Tg → Option Bool := Vy [((.o 2, .o 3), true), ((.o 2, .o 4), false)]
def sJ : Nat → Option Bool := fun c => ahm c [(2, true)]
def Qp : Nat → Option Nat := fun c => ahm c [(2, 0)]
def qF : M Fl :=
    (aC (bh 3 (Gr (aD cGe (aF JF (aa 2)) (aD yh (mC (.int 10)) (mC (.int 18)))) (aF JF (aa 2)) (mC (.int 0))))
    (aO (dC [(aa 3), (aM (aD bL (aM (aD bL (aD MF (aF sE (aa 2)) (mC (.int 2147483629))) (aD Vm (mC (.int 15485863)) (aa 1)))) (mC (.int 7919)))), (mC (.int 0))])))
def qW : M Fl :=
    (aC (bh 2 (Gr (aD Jo (aa 1) (aF bW (aG 0))) (bj 0 (aa 1) bF) (mC (.int 0))))
    qF)
def jE : Fn := bK 4 qW
def j6 : M Fl :=
    (aU (aD yW (aF (bR bH) (aG 3)) (aG 1))
    (fun _ _ => .err)
    (M.ret .nx))
def j7 : M Fl :=
    (aC (jO 0 bH (aa 1))
    (jO 0 bf (aF uI (aG 2))))
def jN : M Fl :=
    (aC (d9 (sY (aa 2)) (bM 3) j6)
    j7)
def bQ : Fn := runI 1 4 jN
def lE : M Fl :=
    (aC (bh 2 (aD bL (aF (bR bf) (aG 0)) (aF (bR bf) (aG 1))))
    (aO (Ak 1 bQ (aa 2) (aj [(aF (bR bH) (aG 0))]))))
def kE : M Fl :=
    (aC (aU (aD yW (aF (bR bH) (aG 0)) (aF (bR bH) (aG 1)))
    (fun _ _ => .err)
    (M.ret .nx))
    lE)
def jt : Fn := bK 3 kE
def fG : M Fl :=
    (aU (yj (aD Jo (bj 0 (aa 3) bF) (bj 0 (aD yU (aa 3) (mC (.int 1))) bF)) (aD Qy (aD yU (aM (aD bL (aa 1) (aa 3))) (mC (.int 1))) (aG 2)))
    (aO (mC (.bl true)))
    (M.ret .nx))
def jH : M Fl :=
    (aC (d9 (sH (mC (.int 1)) (aF bW (aG 0))) (bM 3) fG)
    (aO (mC (.bl false))))
def jJ : Fn := bK 4 jH
def pN : M Fl :=
    (aO (dU (aD (j9 il) (aa 0) (mC (.ty "int"))) (xM (aD (j9 il) (aa 0) (mC (.ty "bool"))))))
def dN : Fn := bK 1 pN
def wg : D → M Unit :=
    (bM 2)
def wj : M Bool :=
    (iD (bV (aF D.tru (au 1 0 dN (aq []) (aj [(aa 2)]) (aj [])))) (aD Jo (aa 2) (mC (.int 0))))
def Ar : M D :=
    (aa 2)
def zR : M Fl :=
    (aC (aU (iD (bV (aF D.tru (aD (j9 il) (aa 0) (gA [(mC (.ty "list")), (mC (.ty "tuple"))])))) (bV (ig Gp Gp (mC (.int 1)) (aF bW (aG 0)) (aa 1))))
    (aO (mC (.bl false)))
    (M.ret .nx))
    (aO (aD (fun h x y => (fY h x y).map .bl) (aF bW (uN [2] (sY (aa 0)) wg wj Ar)) (mC (.int 0)))))
def wk : Fn := bK 3 zR
def pA : M Fl :=
    (aU (iD (bV (aF D.tru (au 1 0 dN (aq []) (aj [(aa 2)]) (aj [])))) (yj (aD TJ (aa 1) (mC (.int 0))) (aD Gp (aa 2) (bj 0 (aD yU (aa 1) (mC (.int 1))) bF))))
    (aO (mC (.bl false)))
    (M.ret .nx))
def yG : M Fl :=
    (aC (d9 (Vt (aa 0)) (DN 2 (uJ (bM 1) (uJ (bM 2) DK))) pA)
    (aO (mC (.bl true))))
def xm : M Fl :=
    (aC (aU (bV (aF D.tru (aD (j9 il) (aa 0) (gA [(mC (.ty "list")), (mC (.ty "tuple"))]))))
    (aO (mC (.bl false)))
    (M.ret .nx))
    yG)
def pO : Fn := bK 3 xm
def xQ : M Fl :=
    (aO (dU (aM (au 1 0 pO (aq []) (aj [(aa 0)]) (aj []))) (Vp (aD (fun h x y => (fY h x y).map .bl) (aF bW (aG 0)) (mC (.int 0))) (dU (aD (fun h x y => (Gp h x y).map .bl) (aa 1) (bj 0 (mC (.int 0)) bF)) (aD (fun h x y => (Gp h x y).map .bl) (bj 0 (aF (fun _ => sX) (mC (.int 1))) bF) (aa 2))))))
def rN : Fn := bK 3 xQ
def xq : M Fl :=
    (aU (iD (bV (aF D.tru (aD (j9 il) (aa 2) (gA [(mC (.ty "list")), (mC (.ty "tuple"))])))) (iD (aD yW (aF bW (aG 2)) (mC (.int 2))) (iD (bV (aF D.tru (au 1 0 dN (aq []) (aj [(bj 2 (mC (.int 1)) bF)]) (aj [])))) (aD Jo (bj 2 (mC (.int 1)) bF) (mC (.int 1))))))
    (aO (mC (.bl false)))
    (M.ret .nx))
def xr : D → M Unit :=
    (bM 2)
def xF : M Bool :=
    (M.ret true)
def xG : M D :=
    (bj 2 (mC (.int 0)) bF)
def xH : D → M Unit :=
    (bM 4)
def xJ : M Bool :=
    (aD Qy (aa 4) (aG 1))
def Dc : M D :=
    (aa 4)
def Dd : M Fl :=
    (aC (bh 3 (uN [2] (sY (aa 0)) xr xF xG))
    (aO (dU (aM (au 1 0 pO (aq []) (aj [(aa 3)]) (aj []))) (aD (fun h x y => (fY h x y).map .bl) (aF bW (uN [4] (sY (aa 3)) xH xJ Dc)) (mC (.int 0))))))
def De : M Fl :=
    (aC (d9 (sY (aa 0)) (bM 2) xq)
    Dd)
def BK : M Fl :=
    (aC (aU (bV (aF D.tru (aD (j9 il) (aa 0) (gA [(mC (.ty "list")), (mC (.ty "tuple"))]))))
    (aO (mC (.bl false)))
    (M.ret .nx))
    De)
def xR : Fn := bK 5 BK
def iW : M Fl :=
    (aC (aU (bV (aF D.tru (au 3 0 rN (aq []) (aj [(aa 5), (aa 2), (aa 6)]) (aj []))))
    (aO (mC (.str "lost")))
    (M.ret .nx))
    (aO (mC .non)))
def iY : M Fl :=
    (aC (aU (bV (aF D.tru (au 2 0 xR (aq []) (aj [(aa 4), (aa 7)]) (aj []))))
    (aO (mC (.str "tails")))
    (M.ret .nx))
    iW)
def jQ : M Fl :=
    (aC (aU (aD Jo (aa 6) (aD yU (aa 1) (mC (.int 1))))
    (iK (jZ 7 (aa 6)))
    (M.ret .nx))
    iY)
def qG : M Fl :=
    (aC (bh 7 (aF gU (aG 3)))
    jQ)
def vp : M Fl :=
    (aC (aU (aF D.tru (au 3 0 jJ (aq []) (aj [(aa 0), (aa 2), (aa 3)]) (aj [])))
    (aO (mC (.str "falls")))
    (M.ret .nx))
    qG)
def qH : M Fl :=
    (aC (aU (bV (aF D.tru (au 3 0 rN (aq []) (aj [(aa 3), (aa 2), (aD yU (aa 6) (mC (.int 1)))]) (aj []))))
    (aO (mC (.str "restarts")))
    (M.ret .nx))
    vp)
def qI : M Fl :=
    (aC (bh 6 (aD yU (aM (aD bL (aa 2) (aF bW (aG 0)))) (mC (.int 1))))
    qH)
def qJ : M Fl :=
    (aC (aU (bV (aF D.tru (au 2 0 wk (aq []) (aj [(aa 0), (aD yU (aa 1) (aa 2))]) (aj []))))
    (aO (mC (.str "counts")))
    (M.ret .nx))
    qI)
def qK : M Fl :=
    (aC (aU (iD (bV (aF D.tru (au 1 0 dN (aq []) (aj [(aa 2)]) (aj [])))) (bV (ig Gp Jo (mC (.int 0)) (aa 2) (aa 1))))
    (aO (mC (.str "start")))
    (M.ret .nx))
    qJ)
def u6 : M Fl :=
    (aC (aU (iD (bV (aF D.tru (au 1 0 dN (aq []) (aj [(aa 1)]) (aj [])))) (bV (ig Gp Gp (mC (.int 2)) (aa 1) (mC (.int 4)))))
    (aO (mC (.str "readings")))
    (M.ret .nx))
    qK)
def yC : Fn := bK 8 u6
def ni : D → M Unit :=
    (DN 2 (uJ (bM 8) (uJ (bM 9) DK)))
def nj : M Bool :=
    (M.ret true)
def nu : M D :=
    (gA [(aa 8), (aa 9)])
def uz : M Fl :=
    (aC (jO 0 qD (aF uI (uN [8, 9] (sY (aa 5)) ni nj nu)))
    (jO 0 uo (aF uI (aG 6))))
def uA : M Fl :=
    (aC (jO 0 j5 (aF uI (aG 4)))
    uz)
def uB : M Fl :=
    (aC (jO 0 oE (aF uI (aG 1)))
    uA)
def uC : M Fl :=
    (aC (jO 0 qC (aa 3))
    uB)
def uD : M Fl :=
    (aC (jO 0 bH (aa 2))
    uC)
def uE : M Fl :=
    (aC (aU (aD Vo (aa 7) (mC .non))
    (fun _ _ => .err)
    (M.ret .nx))
    uD)
def qL : M Fl :=
    (aC (bh 7 (au 6 0 yC (aq []) (aj [(aa 1), (aa 2), (aa 3), (aa 4), (aa 5), (aa 6)]) (aj [])))
    uE)
def lU : Fn := runI 0 10 qL
def BL : M Fl :=
    (aO (au 1 5 lU (GX [0, 1, 2, 3, 4] []) (aj [(aM (aF gU (bj 0 (mC (.int 1)) bF)))]) (aj [(aa 1), (bj 0 (mC (.int 0)) bF), (aM (aF gU (bj 0 (mC (.int 2)) bF))), (aM (aF gU (bj 0 (mC (.int 3)) bF))), (aM (aF gU (bj 0 (mC (.int 4)) bF)))])))
def dD : Fn := bK 2 BL
def wu : Nat → Option Fn := fun c => ahm c [(1, jt)]
def pB : M Fl :=
    (bh 2 (M8 wu (aa 2) (aM (au 1 1 bQ lN (aj [(aM (au 2 0 dD (aq []) (aj [(aa 3), (aa 1)]) (aj [])))]) (aj [(aa 1)])))))
def pC : M Fl :=
    (aC (zH (Nv (aa 0)) (bM 3) pB)
    (aO (su 2)))
def pP : M Fl :=
    (aC (bh 2 (au 0 1 bQ lN (aj []) (aj [(aa 1)])))
    pC)
def mG : Fn := bK 4 pP
def pQ : M Fl :=
    (aC (bh 3 (aD MF (aF sE (aD yh (aM (aD bL (aa 3) (aD Vm (mC (.int 49979687)) (bj 0 (mC (.int 2)) bF)))) (mC (.int 2)))) (mC (.int 2305843009213693951))))
    (aO (aD MF (aF sE (aD XM (aa 3) (mC (.int 4096)))) (aa 1))))
def pU : M Fl :=
    (aC (bh 3 (aD MF (aF sE (aD yh (aM (aD bL (bj 0 (mC (.int 1)) bF) (aD Vm (mC (.int 32452843)) (bj 0 (mC (.int 2)) bF)))) (mC (.int 3)))) (mC (.int 2305843009213693921))))
    pQ)
def pW : M Fl :=
    (aC (DY 0 (aM (aD bL (bj 0 (mC (.int 2)) bF) (mC (.int 1)))) (mC (.int 2)))
    pU)
def rO : M Fl :=
    (aC (aU (aD TJ (bj 0 (mC (.int 0)) bF) (mC (.int 0)))
    (aC (bh 2 (aD MF (aF sE (bj 0 (mC (.int 0)) bF)) (aa 1)))
    (aC (DY 0 (aD XM (bj 0 (mC (.int 0)) bF) (aa 1)) (mC (.int 0)))
    (aO (su 2))))
    (M.ret .nx))
    pW)
def bJ : Fn := bK 4 rO
def tX : M Fl :=
    (aO (bj 1 (aM (au 2 0 bJ (aq []) (aj [(aa 0), (aF bW (aG 1))]) (aj []))) bF))
def eU : Fn := bK 2 tX
def u9 : M Fl :=
    (aO (au 2 0 bJ (aq []) (aj [(aa 0), (aM (au 2 0 eU (aq []) (aj [(aa 0), (aM (dC [(mC (.int 2)), (mC (.int 2)), (mC (.int 3)), (mC (.int 3)), (mC (.int 5)), (mC (.int 100)), (aD yh (mC (.int 10)) (mC (.int 9))), (aD yh (mC (.int 10)) (mC (.int 30)))]))]) (aj [])))]) (aj [])))
def iQ : Fn := bK 1 u9
def jR : M Fl :=
    (aU (aD fY (aM (au 2 0 bJ (aq []) (aj [(aa 0), (mC (.int 3))]) (aj []))) (mC (.int 0)))
    (aC (iK (jZ 4 (aD yU (aM (aD bL (aa 2) (aa 8))) (mC (.int 1)))))
    (iK (jZ 7 (aM (au 1 0 iQ (aq []) (aj [(aa 0)]) (aj []))))))
    (iK (jZ 7 (aM (aD bL (bj 7 (aF (fun _ => sX) (mC (.int 1))) bF) (aM (au 1 0 iQ (aq []) (aj [(aa 0)]) (aj []))))))))
def jT : M Fl :=
    (aU (aD fY (aM (au 2 0 bJ (aq []) (aj [(aa 0), (mC (.int 2))]) (aj []))) (mC (.int 0)))
    (iK (jZ 5 (gA [(aa 10), (aM (aD bL (mC (.int 1)) (aM (au 1 0 iQ (aq []) (aj [(aa 0)]) (aj [])))))])))
    (M.ret .nx))
def jU : M Fl :=
    (aU (aD fY (aM (au 2 0 bJ (aq []) (aj [(aa 0), (mC (.int 4))]) (aj []))) (mC (.int 0)))
    (iK (jZ 6 (aa 8)))
    (M.ret .nx))
def jV : M Fl :=
    (aC (d9 (sH (aa 2) (aM (aD bL (aa 2) (aa 3)))) (bM 8) jU)
    (aO (gA [(aa 2), (aa 7), (aa 4), (aa 5), (aa 6)])))
def pX : M Fl :=
    (aC (d9 (sY (aa 9)) (bM 10) jT)
    jV)
def g8 : M Fl :=
    (aC (bh 9 (Gr (aD Jo (aM (aD bL (aa 2) (aa 3))) (aa 1)) (aD bL (aa 4) (aM (dC [(aD yU (aM (aD bL (aa 2) (aa 3))) (mC (.int 1)))]))) (aF gU (aG 4))))
    pX)
def jW : M Fl :=
    (aC (d9 (sH (mC (.int 1)) (aa 3)) (bM 8) jR)
    g8)
def jX : M Fl :=
    (aC (bh 7 (dC [(aM (au 1 0 iQ (aq []) (aj [(aa 0)]) (aj [])))]))
    jW)
def pY : M Fl :=
    (aC (aU (aD fY (aM (au 2 0 bJ (aq []) (aj [(aa 0), (mC (.int 2))]) (aj []))) (mC (.int 1)))
    (aC (bh 2 (au 2 0 bJ (aq []) (aj [(aa 0), (aa 1)]) (aj [])))
    (bh 3 (aD bL (mC (.int 1)) (aM (au 2 0 bJ (aq []) (aj [(aa 0), (aD yU (aa 1) (aa 2))]) (aj []))))))
    (M.ret .nx))
    jX)
def rP : M Fl :=
    (aC (uY [2, 3, 4, 5, 6] (aj [(mC (.int 0)), (aa 1), (dC []), (dC []), (dC [])]))
    pY)
def eE : Fn := bK 11 rP
def kJ : M Fl :=
    (aO (aF bW (aF (bR bf) (aG 0))))
def gJ : Fn := bK 1 kJ
def lF : M Fl :=
    (aC (bh 2 (dU (aD (fun h x y => (fY h x y).map .bl) (aF (bR bH) (aG 0)) (aF (bR bH) (aG 1))) (dU (aD (fun h x y => (fY h x y).map .bl) (aF (bR qC) (aG 0)) (aF (bR qC) (aG 1))) (aD (fun h x y => (fY h x y).map .bl) (aF (bR oE) (aG 0)) (aF (bR oE) (aG 1))))))
    (aO (dU (aa 2) (dU (aD (fun h x y => (fY h x y).map .bl) (aF (bR j5) (aG 0)) (aF (bR j5) (aG 1))) (dU (aD (fun h x y => (fY h x y).map .bl) (aF (bR qD) (aG 0)) (aF (bR qD) (aG 1))) (aD (fun h x y => (fY h x y).map .bl) (aF (bR uo) (aG 0)) (aF (bR uo) (aG 1))))))))
def kW : M Fl :=
    (aC (aU (bV (aF D.tru (aD (j9 il) (aa 1) (mC (.cls 0)))))
    (aO (mC (.bl false)))
    (M.ret .nx))
    lF)
def cI : Fn := bK 3 kW
def fU : Nat → Option Fn := fun c => ahm c [(1, gJ)]
def cQ : Nat → Option Fn := fun c => ahm c [(0, cI)]
def kY : D → M Unit :=
    (bM 4)
def kZ : M Bool :=
    (bV (rW (Cz cQ (fun b => b)) (aD bF (aF (bR bf) (aG 0)) (aa 4)) (aM (au 2 0 dD (aq []) (aj [(bj 1 (aa 4) bF), (aa 2)]) (aj [])))))
def tY : M D :=
    (aa 4)
def oF : M Fl :=
    (aC (bh 3 (uN [4] (sG (aF bW (aG 1))) kY kZ tY))
    (aO (dU (aD (fun h x y => (fY h x y).map .bl) (aa 3) (dC [])) (aD (fun h x y => (fY h x y).map .bl) (CG fU (aa 0)) (aD (fun h x y => (BJ h x y).map .bl) (aa 1) (dC []))))))
def oG : M Fl :=
    (aC (aU (iD (aD yW (aF (bR bH) (aG 0)) (aG 2)) (iD (bV (aF D.tru (aD (j9 il) (aF (bR bf) (aG 0)) (mC (.ty "tuple"))))) (aD yW (Ip fU (aa 0)) (aF bW (aG 1)))))
    (aO (mC (.bl false)))
    (M.ret .nx))
    oF)
def du : Fn := bK 5 oG
def fH : D → M Unit :=
    (bM 2)
def fJ : M Bool :=
    (rW (Cz cQ (fun b => b)) (aa 2) (aa 1))
def fK : M D :=
    (aa 2)
def ir : M Fl :=
    (aO (aF uP (aD (fun h x y => (TJ h x y).map .bl) (aF bW (uN [2] (sY (aF (bR bf) (aG 0))) fH fJ fK)) (mC (.int 0)))))
def bU : Fn := bK 3 ir
def mJ : M Fl :=
    (aC (aU (iD (bV (aF D.tru (au 1 0 dN (aq []) (aj [(aa 1)]) (aj [])))) (bV (ig Gp Jo (mC (.int 0)) (aa 1) (aF bW (aF (bR bf) (aG 0))))))
    (Cr 2 1 lY (aj [(aa 1)]))
    (M.ret .nx))
    (aO (su 1)))
def dO : Fn := bK 2 mJ
def oV : Nat → Option Fn := fun c => ahm c [(1, dO)]
def lG : M Fl :=
    (aC (bh 3 (aD bL (aM (Gv (aF (bR bf) (aG 0)) Gu (Ci (aa 2)))) (aM (Gv (aF (bR bf) (aG 0)) (Ci (aM (aD bL (aa 2) (mC (.int 1))))) Gu))))
    (aO (Ak 1 bQ (aa 3) (aj [(aF (bR bH) (aG 0))]))))
def lu : M Fl :=
    (aC (bh 2 (uZ 1 0 oV (aq []) (aa 0) (aj [(aa 1)]) (aj [])))
    lG)
def eV : Fn := bK 4 lu
def iI : M Fl :=
    (aO (aD bF (aF (bR bf) (aG 0)) (aM (uZ 1 0 oV (aq []) (aa 0) (aj [(aa 1)]) (aj [])))))
def cU : Fn := bK 2 iI
def cO : Nat → Option Fn := fun c => ahm c [(1, cU)]
def qM : Nat → Option Fn := fun c => ahm c [(1, eV)]
def pD : M Fl :=
    (aU (aF D.tru (aG 2))
    (bh 3 (xO cO (aa 0) (aa 1)))
    (bh 3 (uZ 1 0 qM (aq []) (aa 0) (aj [(aa 1)]) (aj []))))
def pF : M Fl :=
    (aC (Ed 5 sJ pD (fun y => (bh 4 (gA [(Ra Qp y), (dU (G3 zQ y.c (mC (.cls 3))) (xM (G3 zQ y.c (mC (.cls 4)))))]))))
    (aO (dU (aD (fun h x y => (TY h x y).map .bl) (aa 3) (mC .non)) (dU (aD (fun h x y => (fY h x y).map .bl) (aF bW (aG 4)) (mC (.int 2))) (dU (bj 4 (mC (.int 1)) bF) (aD (fun h x y => (fY h x y).map .bl) (aF ye (bj 4 (mC (.int 0)) bF)) (aF ye (aa 1))))))))
def pG : M Fl :=
    (aC (bh 4 (gA []))
    pF)
def pZ : M Fl :=
    (aC (bh 3 (mC .non))
    pG)
def di : Fn := bK 6 pZ
def uR : M Fl :=
    (aO (au 2 0 bJ (aq []) (aj [(aa 0), (aM (au 2 0 eU (aq []) (aj [(aa 0), (aM (dC [(mC (.int 2)), (mC (.int 4)), (mC (.int 4)), (mC (.int 4)), (mC (.int 7)), (mC (.int 7)), (mC (.int 7)), (mC (.int 31))]))]) (aj [])))]) (aj [])))
def oW : Fn := bK 1 uR
def bY : Nat → Option Fn := fun c => ahm c [(1, bU)]
def jy : D → M Unit :=
    (bM 10)
def jA : M Bool :=
    (M.ret true)
def jB : M D :=
    (aM (au 2 0 eE (aq []) (aj [(aa 0), (aa 1)]) (aj [])))
def sO : M Fl :=
    (aU (aD KY (Ow (rW (G5 bY fun b => b) (aa 5) (aa 3))) (mC (.bl false)))
    (aO (mC (.bl false)))
    (M.ret .nx))
def lH : M Fl :=
    (aU (iD (bV (rW (Cz cQ (fun b => b)) (aM (xO cO (aa 3) (aa 6))) (aM (au 2 0 dD (aq []) (aj [(bj 2 (aa 6) bF), (aa 1)]) (aj []))))) (rW (G5 bY fun b => !b) (aM (xO cO (aa 3) (aa 6))) (aa 3)))
    (aO (mC (.bl false)))
    (M.ret .nx))
def lJ : M Fl :=
    (aU (iD (bV (aF D.tru (au 3 0 di (aq []) (aj [(aa 3), (aa 5), (mC (.bl true))]) (aj [])))) (bV (aF D.tru (au 3 0 di (aq []) (aj [(aa 3), (aa 5), (mC (.bl false))]) (aj [])))))
    (aO (mC (.bl false)))
    (M.ret .nx))
def mK : M Fl :=
    (aC (uY [8, 9] (aj [(au 2 0 dD (aq []) (aj [(bj 2 (mC (.int 0)) bF), (aa 1)]) (aj [])), (au 2 0 dD (aq []) (aj [(bj 2 (aF (fun _ => sX) (mC (.int 1))) bF), (aa 1)]) (aj []))]))
    (aO (au 3 0 du (aq []) (aj [(aM (au 3 1 bQ lN (aj [(aa 9), (aa 8), (aa 9)]) (aj [(aa 1)]))), (aM (dC [(bj 2 (aF (fun _ => sX) (mC (.int 1))) bF), (bj 2 (mC (.int 0)) bF), (bj 2 (aF (fun _ => sX) (mC (.int 1))) bF)])), (aa 1)]) (aj []))))
def vq : M Fl :=
    (aC (aU (iD (bV (aF D.tru (au 3 0 di (aq []) (aj [(aa 3), (aF uP (aa 6)), (mC (.bl false))]) (aj [])))) (bV (aF D.tru (au 3 0 di (aq []) (aj [(aa 3), (aF uP (aa 6)), (mC (.bl true))]) (aj [])))))
    (aO (mC (.bl false)))
    (M.ret .nx))
    mK)
def qN : M Fl :=
    (aC (aU (iD (bV (aF D.tru (au 3 0 du (aq []) (aj [(aa 7), (aM (aD bL (aM (bj 2 (xN Gu (Ci (aa 6))) oN)) (aM (bj 2 (xN (Ci (aM (aD bL (aa 6) (mC (.int 1))))) Gu) oN)))), (aa 1)]) (aj [])))) (bV (aF D.tru (au 3 0 du (aq []) (aj [(aa 3), (aa 2), (aa 1)]) (aj [])))))
    (aO (mC (.bl false)))
    (M.ret .nx))
    vq)
def qO : M Fl :=
    (aC (bh 7 (uZ 1 0 qM (aq []) (aa 3) (aj [(aa 6)]) (aj [])))
    qN)
def mO : M Fl :=
    (aC (bh 6 (au 2 0 bJ (aq []) (aj [(aa 0), (aF bW (aG 2))]) (aj [])))
    qO)
def wy : M Fl :=
    (aC (aU (aD zJ (aa 2) (dC []))
    (aO (mC (.bl true)))
    (M.ret .nx))
    mO)
def sS : M Fl :=
    (aC (d9 (sY (gA [(aF bW (aG 2)), (aF (fun _ => sX) (mC (.int 1))), (aM (aD bL (aF bW (aG 2)) (aM (au 2 0 bJ (aq []) (aj [(aa 0), (aD yh (mC (.int 10)) (mC (.int 9)))]) (aj []))))), (mC .non), (mC (.bl true)), (mC (.bl false)), (mC (.str "0")), (gA [(mC (.int 0))]), (aM (dC [(mC (.int 0))])), (aD yh (mC (.int 10)) (mC (.int 30)))])) (bM 5) lJ)
    wy)
def sU : M Fl :=
    (aC (d9 (sG (aF bW (aG 2))) (bM 6) lH)
    sS)
def sV : M Fl :=
    (aC (d9 (sY (gA [(aM (au 2 0 eU (aq []) (aj [(aa 0), (aM (dC [(mC .non), (mC (.bl true)), (mC (.int 0)), (mC (.str "")), (aM (dC [])), (gA [])]))]) (aj []))), (aM (au 2 0 eU (aq []) (aj [(aa 0), (aM (dC [(aa 4), (aM (dC [(aa 4)])), (aM (aF gU (bj 4 (mC (.int 1)) bF)))]))]) (aj [])))])) (bM 5) sO)
    sU)
def wz : M Fl :=
    (aC (aU (aD yW (Ow (rW (G5 bY fun b => b) (aM (au 2 0 dD (aq []) (aj [(aa 4), (aa 1)]) (aj []))) (aa 3))) (aD (fun h x y => (Hk h x y).map .bl) (aa 4) (aG 2)))
    (aO (mC (.bl false)))
    (M.ret .nx))
    sV)
def oH : M Fl :=
    (aC (bh 4 (au 2 0 eE (aq []) (aj [(aa 0), (aa 1)]) (aj [])))
    wz)
def wA : M Fl :=
    (aC (aU (bV (aF D.tru (au 3 0 du (aq []) (aj [(aa 3), (aa 2), (aa 1)]) (aj []))))
    (aO (mC (.bl false)))
    (M.ret .nx))
    oH)
def oJ : M Fl :=
    (aC (bh 3 (au 2 0 mG (aq []) (aj [(aa 2), (aa 1)]) (aj [])))
    wA)
def oK : M Fl :=
    (aC (aU (yj (aD BJ (aa 2) (dC [])) (aD fY (aM (au 2 0 bJ (aq []) (aj [(aa 0), (mC (.int 2))]) (aj []))) (mC (.int 0))))
    (iK (jZ 2 (aM (au 2 0 eU (aq []) (aj [(aa 0), (aa 2)]) (aj [])))))
    (M.ret .nx))
    oJ)
def tZ : M Fl :=
    (aC (bh 2 (vU (uN [10] (sG (aM (au 1 0 oW (aq []) (aj [(aa 0)]) (aj [])))) jy jA jB)))
    oK)
def ue : Fn := bK 11 tZ
def Et : M Fl :=
    (aC (bh 2 (vU (au 2 0 jE (aq []) (aj [(aa 0), (aa 1)]) (aj []))))
    (aU (bV (aF D.tru (au 2 0 ue (aq []) (aj [(aa 2), (aM (aD bL (mC (.int 2)) (aM (au 2 0 bJ (aq []) (aj [(aa 2), (mC (.int 3))]) (aj [])))))]) (aj []))))
    (aO (mC (.bl false)))
    (M.ret .nx)))
def VM : M Fl :=
    (aC (d9 (sG (aD Kv (mC (.int 1)) (aD Kw (mC (.int 12)) (aF bW (aG 0))))) (bM 1) Et)
    (aO (mC (.bl true))))
def VN : Fn := bK 3 VM
end
end L
namespace L
open PySem PySem.Spec L2 Pk GenP
section
variable {P : Program} {w : World} {K : PySem.W.Frag} {mg : Str → Option Value} {base : Heap} [hp_ : PF P]
theorem wB (c : aP K) (Y : K.In base) (G : base.Ns mainGlobals mg) : mg "History" = some (.ref (He.ga K "History")) := He.glo_ok Y G (c.fact 7 (f := .he (.glo "History")) rfl)
theorem nR (c : aP K) (Y : K.In base) (G : base.Ns mainGlobals mg) : mg "is_integer" = some (.ref (He.ga K "is_integer")) := He.glo_ok Y G (c.fact 12 (f := .he (.glo "is_integer")) rfl)
theorem Av (c : aP K) (Y : K.In base) (G : base.Ns mainGlobals mg) : mg "is_ascending" = some (.ref (He.ga K "is_ascending")) := He.glo_ok Y G (c.fact 14 (f := .he (.glo "is_ascending")) rfl)
theorem Py (c : aP K) (Y : K.In base) (G : base.Ns mainGlobals mg) : mg "are_counts" = some (.ref (He.ga K "are_counts")) := He.glo_ok Y G (c.fact 15 (f := .he (.glo "are_counts")) rfl)
theorem Hq (c : aP K) (Y : K.In base) (G : base.Ns mainGlobals mg) : mg "is_inside" = some (.ref (He.ga K "is_inside")) := He.glo_ok Y G (c.fact 16 (f := .he (.glo "is_inside")) rfl)
theorem zU (c : aP K) (Y : K.In base) (G : base.Ns mainGlobals mg) : mg "falls_without_restart" = some (.ref (He.ga K "falls_without_restart")) := He.glo_ok Y G (c.fact 17 (f := .he (.glo "falls_without_restart")) rfl)
theorem R4 (c : aP K) (Y : K.In base) (G : base.Ns mainGlobals mg) : mg "are_tails" = some (.ref (He.ga K "are_tails")) := He.glo_ok Y G (c.fact 18 (f := .he (.glo "are_tails")) rfl)
theorem NT (c : aP K) (Y : K.In base) (G : base.Ns mainGlobals mg) : mg "first_fault" = some (.ref (He.ga K "first_fault")) := He.glo_ok Y G (c.fact 19 (f := .he (.glo "first_fault")) rfl)
theorem Jy (c : aP K) (Y : K.In base) (G : base.Ns mainGlobals mg) : mg "Instance" = some (.ref (He.ga K "Instance")) := He.glo_ok Y G (c.fact 20 (f := .he (.glo "Instance")) rfl)
theorem qb (c : aP K) (Y : K.In base) (G : base.Ns mainGlobals mg) : mg "_law_made" = some (.ref (He.ga K "_law_made")) := He.glo_ok Y G (c.fact 21 (f := .he (.glo "_law_made")) rfl)
theorem d8 (c : aP K) (Y : K.In base) (G : base.Ns mainGlobals mg) : mg "_law_draw" = some (.ref (He.ga K "_law_draw")) := He.glo_ok Y G (c.fact 22 (f := .he (.glo "_law_draw")) rfl)
theorem wC (c : aP K) (Y : K.In base) (G : base.Ns mainGlobals mg) : mg "_law_of" = some (.ref (He.ga K "_law_of")) := He.glo_ok Y G (c.fact 23 (f := .he (.glo "_law_of")) rfl)
theorem uv (c : aP K) (Y : K.In base) (G : base.Ns mainGlobals mg) : mg "_law_number" = some (.ref (He.ga K "_law_number")) := He.glo_ok Y G (c.fact 24 (f := .he (.glo "_law_number")) rfl)
theorem Fp (c : aP K) (Y : K.In base) (G : base.Ns mainGlobals mg) : mg "NoInstance" = some (.ref (He.ga K "NoInstance")) := He.glo_ok Y G (c.fact 26 (f := .he (.glo "NoInstance")) rfl)
theorem PB (c : aP K) (Y : K.In base) (G : base.Ns mainGlobals mg) : mg "CountError" = some (.ref (He.ga K "CountError")) := He.glo_ok Y G (c.fact 27 (f := .he (.glo "CountError")) rfl)
theorem Xq (c : aP K) (Y : K.In base) (G : base.Ns mainGlobals mg) : mg "Unlike" = some (.ref (He.ga K "Unlike")) := He.glo_ok Y G (c.fact 28 (f := .he (.glo "Unlike")) rfl)
theorem R5 (c : aP K) (Y : K.In base) (G : base.Ns mainGlobals mg) : mg "_law_many" = some (.ref (He.ga K "_law_many")) := He.glo_ok Y G (c.fact 30 (f := .he (.glo "_law_many")) rfl)
theorem Hr (c : aP K) (Y : K.In base) (G : base.Ns mainGlobals mg) : mg "_law_life" = some (.ref (He.ga K "_law_life")) := He.glo_ok Y G (c.fact 31 (f := .he (.glo "_law_life")) rfl)
theorem Lp (c : aP K) (Y : K.In base) (G : base.Ns mainGlobals mg) : mg "_law_history" = some (.ref (He.ga K "_law_history")) := He.glo_ok Y G (c.fact 32 (f := .he (.glo "_law_history")) rfl)
theorem qP (c : aP K) (Y : K.In base) (G : base.Ns mainGlobals mg) : mg "_law_as_lives" = some (.ref (He.ga K "_law_as_lives")) := He.glo_ok Y G (c.fact 33 (f := .he (.glo "_law_as_lives")) rfl)
theorem sW (c : aP K) (Y : K.In base) (G : base.Ns mainGlobals mg) : mg "_law_refused" = some (.ref (He.ga K "_law_refused")) := He.glo_ok Y G (c.fact 34 (f := .he (.glo "_law_refused")) rfl)
theorem NZ (c : aP K) (Y : K.In base) (G : base.Ns mainGlobals mg) : mg "_law_source" = some (.ref (He.ga K "_law_source")) := He.glo_ok Y G (c.fact 37 (f := .he (.glo "_law_source")) rfl)
theorem PL (c : aP K) (Y : K.In base) (G : base.Ns mainGlobals mg) : mg "_law_right" = some (.ref (He.ga K "_law_right")) := He.glo_ok Y G (c.fact 38 (f := .he (.glo "_law_right")) rfl)
theorem iJ (c : aP K) (Y : K.In base) (G : base.Ns mainGlobals mg) : mg "len" = none := He.free_ok Y G (c.fact 3 (f := .he (.free "len")) rfl)
theorem Xr (c : aP K) (Y : K.In base) (G : base.Ns mainGlobals mg) : mg "abs" = none := He.free_ok Y G (c.fact 4 (f := .he (.free "abs")) rfl)
theorem Df (c : aP K) (Y : K.In base) (G : base.Ns mainGlobals mg) : mg "int" = none := He.free_ok Y G (c.fact 5 (f := .he (.free "int")) rfl)
theorem oX (c : aP K) (Y : K.In base) (G : base.Ns mainGlobals mg) : mg "tuple" = none := He.free_ok Y G (c.fact 6 (f := .he (.free "tuple")) rfl)
theorem vz (c : aP K) (Y : K.In base) (G : base.Ns mainGlobals mg) : mg "range" = none := He.free_ok Y G (c.fact 8 (f := .he (.free "range")) rfl)
theorem gQ (c : aP K) (Y : K.In base) (G : base.Ns mainGlobals mg) : mg "isinstance" = none := He.free_ok Y G (c.fact 9 (f := .he (.free "isinstance")) rfl)
theorem Dg (c : aP K) (Y : K.In base) (G : base.Ns mainGlobals mg) : mg "bool" = none := He.free_ok Y G (c.fact 10 (f := .he (.free "bool")) rfl)
theorem qd (c : aP K) (Y : K.In base) (G : base.Ns mainGlobals mg) : mg "list" = none := He.free_ok Y G (c.fact 11 (f := .he (.free "list")) rfl)
theorem R6 (c : aP K) (Y : K.In base) (G : base.Ns mainGlobals mg) : mg "enumerate" = none := He.free_ok Y G (c.fact 13 (f := .he (.free "enumerate")) rfl)
theorem Za (c : aP K) (Y : K.In base) (G : base.Ns mainGlobals mg) : mg "super" = none := He.free_ok Y G (c.fact 25 (f := .he (.free "super")) rfl)
theorem Va (c : aP K) (Y : K.In base) (G : base.Ns mainGlobals mg) : mg "repr" = none := He.free_ok Y G (c.fact 29 (f := .he (.free "repr")) rfl)
theorem acX (c : aP K) (Y : K.In base) (G : base.Ns mainGlobals mg) : mg "min" = none := He.free_ok Y G (c.fact 35 (f := .he (.free "min")) rfl)
theorem acY (c : aP K) (Y : K.In base) (G : base.Ns mainGlobals mg) : mg "max" = none := He.free_ok Y G (c.fact 36 (f := .he (.free "max")) rfl)
theorem jw (c : aP K) {X : Cx} (hK : X.K = K) : Ea X (T K) "readings" bH := by
 subst hK
 exact ⟨cA (Q := fun c _ => Cls X.K ((T X.K).cad c)) (.cons (He.cls_ok (c.fact 39 (f := .he (.cls "Instance")) rfl)) (.cons (He.cls_ok (c.fact 41 (f := .he (.cls "History")) rfl)) .nil)),
  cA (Q := fun c _ => NoAttr X.K ((T X.K).cad c) "readings") (.cons (He.noat_ok (c.fact 40 (f := .he (.noat "Instance" "readings")) rfl)) (.cons (He.noat_ok (c.fact 42 (f := .he (.noat "History" "readings")) rfl)) .nil)),
  cA (Q := fun c _ => ((T X.K).fld c).Nodup ∧ ((T X.K).fld c).length < 1000) (.cons ⟨(by show (fld 0).Nodup; decide +kernel), (by show (fld 0).length < 1000; decide)⟩ (.cons ⟨(by show (fld 1).Nodup; decide +kernel), (by show (fld 1).length < 1000; decide)⟩ .nil)),
  cA (Q := fun (c i : Nat) => ((T X.K).fld c)[i]? = some (("readings" : Str))) (.cons rfl (.cons rfl .nil))⟩
theorem gK (c : aP K) {X : Cx} (hK : X.K = K) : Ea X (T K) "instances" bf := by
 subst hK
 exact ⟨cA (Q := fun c _ => Cls X.K ((T X.K).cad c)) (.cons (He.cls_ok (c.fact 41 (f := .he (.cls "History")) rfl)) .nil),
  cA (Q := fun c _ => NoAttr X.K ((T X.K).cad c) "instances") (.cons (He.noat_ok (c.fact 43 (f := .he (.noat "History" "instances")) rfl)) .nil),
  cA (Q := fun c _ => ((T X.K).fld c).Nodup ∧ ((T X.K).fld c).length < 1000) (.cons ⟨(by show (fld 1).Nodup; decide +kernel), (by show (fld 1).length < 1000; decide)⟩ .nil),
  cA (Q := fun (c i : Nat) => ((T X.K).fld c)[i]? = some (("instances" : Str))) (.cons rfl .nil)⟩
theorem JZ (c : aP K) {X : Cx} (hK : X.K = K) : Ea X (T K) "start" qC := by
 subst hK
 exact ⟨cA (Q := fun c _ => Cls X.K ((T X.K).cad c)) (.cons (He.cls_ok (c.fact 39 (f := .he (.cls "Instance")) rfl)) .nil),
  cA (Q := fun c _ => NoAttr X.K ((T X.K).cad c) "start") (.cons (He.noat_ok (c.fact 44 (f := .he (.noat "Instance" "start")) rfl)) .nil),
  cA (Q := fun c _ => ((T X.K).fld c).Nodup ∧ ((T X.K).fld c).length < 1000) (.cons ⟨(by show (fld 0).Nodup; decide +kernel), (by show (fld 0).length < 1000; decide)⟩ .nil),
  cA (Q := fun (c i : Nat) => ((T X.K).fld c)[i]? = some (("start" : Str))) (.cons rfl .nil)⟩
theorem Ht (c : aP K) {X : Cx} (hK : X.K = K) : Ea X (T K) "counts" oE := by
 subst hK
 exact ⟨cA (Q := fun c _ => Cls X.K ((T X.K).cad c)) (.cons (He.cls_ok (c.fact 39 (f := .he (.cls "Instance")) rfl)) .nil),
  cA (Q := fun c _ => NoAttr X.K ((T X.K).cad c) "counts") (.cons (He.noat_ok (c.fact 45 (f := .he (.noat "Instance" "counts")) rfl)) .nil),
  cA (Q := fun c _ => ((T X.K).fld c).Nodup ∧ ((T X.K).fld c).length < 1000) (.cons ⟨(by show (fld 0).Nodup; decide +kernel), (by show (fld 0).length < 1000; decide)⟩ .nil),
  cA (Q := fun (c i : Nat) => ((T X.K).fld c)[i]? = some (("counts" : Str))) (.cons rfl .nil)⟩
theorem BP (c : aP K) {X : Cx} (hK : X.K = K) : Ea X (T K) "restarts" j5 := by
 subst hK
 exact ⟨cA (Q := fun c _ => Cls X.K ((T X.K).cad c)) (.cons (He.cls_ok (c.fact 39 (f := .he (.cls "Instance")) rfl)) .nil),
  cA (Q := fun c _ => NoAttr X.K ((T X.K).cad c) "restarts") (.cons (He.noat_ok (c.fact 46 (f := .he (.noat "Instance" "restarts")) rfl)) .nil),
  cA (Q := fun c _ => ((T X.K).fld c).Nodup ∧ ((T X.K).fld c).length < 1000) (.cons ⟨(by show (fld 0).Nodup; decide +kernel), (by show (fld 0).length < 1000; decide)⟩ .nil),
  cA (Q := fun (c i : Nat) => ((T X.K).fld c)[i]? = some (("restarts" : Str))) (.cons rfl .nil)⟩
theorem J5 (c : aP K) {X : Cx} (hK : X.K = K) : Ea X (T K) "tails" qD := by
 subst hK
 exact ⟨cA (Q := fun c _ => Cls X.K ((T X.K).cad c)) (.cons (He.cls_ok (c.fact 39 (f := .he (.cls "Instance")) rfl)) .nil),
  cA (Q := fun c _ => NoAttr X.K ((T X.K).cad c) "tails") (.cons (He.noat_ok (c.fact 47 (f := .he (.noat "Instance" "tails")) rfl)) .nil),
  cA (Q := fun c _ => ((T X.K).fld c).Nodup ∧ ((T X.K).fld c).length < 1000) (.cons ⟨(by show (fld 0).Nodup; decide +kernel), (by show (fld 0).length < 1000; decide)⟩ .nil),
  cA (Q := fun (c i : Nat) => ((T X.K).fld c)[i]? = some (("tails" : Str))) (.cons rfl .nil)⟩
theorem N5 (c : aP K) {X : Cx} (hK : X.K = K) : Ea X (T K) "lost" uo := by
 subst hK
 exact ⟨cA (Q := fun c _ => Cls X.K ((T X.K).cad c)) (.cons (He.cls_ok (c.fact 39 (f := .he (.cls "Instance")) rfl)) .nil),
  cA (Q := fun c _ => NoAttr X.K ((T X.K).cad c) "lost") (.cons (He.noat_ok (c.fact 48 (f := .he (.noat "Instance" "lost")) rfl)) .nil),
  cA (Q := fun c _ => ((T X.K).fld c).Nodup ∧ ((T X.K).fld c).length < 1000) (.cons ⟨(by show (fld 0).Nodup; decide +kernel), (by show (fld 0).length < 1000; decide)⟩ .nil),
  cA (Q := fun (c i : Nat) => ((T X.K).fld c)[i]? = some (("lost" : Str))) (.cons rfl .nil)⟩
theorem v8 (c : aP K) : M5 K (T K) il := WD (.b (je (c.fact 68 (f := .kit (.b "NoneType") (.o 0) false) rfl)) (.b (je (c.fact 69 (f := .kit (.b "bool") (.o 0) false) rfl)) (.b (je (c.fact 70 (f := .kit (.b "int") (.o 0) false) rfl)) (.b (je (c.fact 71 (f := .kit (.b "str") (.o 0) false) rfl)) (.b (je (c.fact 72 (f := .kit (.b "tuple") (.o 0) false) rfl)) (.b (je (c.fact 73 (f := .kit (.b "list") (.o 0) false) rfl)) (.o (je (c.fact 74 (f := .kit (.o 0) (.b "bool") false) rfl)) (qT (c.fact 66 (f := .ins "Instance") rfl)) (.o (je (c.fact 75 (f := .kit (.o 0) (.b "int") false) rfl)) (qT (c.fact 66 (f := .ins "Instance") rfl)) (.o (je (c.fact 76 (f := .kit (.o 0) (.b "str") false) rfl)) (qT (c.fact 66 (f := .ins "Instance") rfl)) (.o (je (c.fact 77 (f := .kit (.o 0) (.b "tuple") false) rfl)) (qT (c.fact 66 (f := .ins "Instance") rfl)) (.o (je (c.fact 78 (f := .kit (.o 0) (.b "list") false) rfl)) (qT (c.fact 66 (f := .ins "Instance") rfl)) (.o (je (c.fact 79 (f := .kit (.o 0) (.o 0) true) rfl)) (qT (c.fact 66 (f := .ins "Instance") rfl)) (.o (je (c.fact 80 (f := .kit (.o 1) (.b "bool") false) rfl)) (qT (c.fact 67 (f := .ins "History") rfl)) (.o (je (c.fact 81 (f := .kit (.o 1) (.b "int") false) rfl)) (qT (c.fact 67 (f := .ins "History") rfl)) (.o (je (c.fact 82 (f := .kit (.o 1) (.b "str") false) rfl)) (qT (c.fact 67 (f := .ins "History") rfl)) (.o (je (c.fact 83 (f := .kit (.o 1) (.b "tuple") false) rfl)) (qT (c.fact 67 (f := .ins "History") rfl)) (.o (je (c.fact 84 (f := .kit (.o 1) (.b "list") false) rfl)) (qT (c.fact 67 (f := .ins "History") rfl)) (.o (je (c.fact 85 (f := .kit (.o 1) (.o 0) false) rfl)) (qT (c.fact 67 (f := .ins "History") rfl)) .nil))))))))))))))))))
theorem Eu (c : aP K) {X : Cx} (hK : X.K = K) : NoB X.K (T K) fU := by
 subst hK
 exact ⟨cA (Q := fun c _ => PySem.W.findIn X.K (.ref ((T X.K).cad c)) "__bool__" = some none) (.cons (aaw (Wy (c.fact 62 (f := .raw (fun K => Yi K (He.ga K "History"))) rfl))) .nil)⟩
theorem rZ (c : aP K) {X : Cx} (hK : X.K = K) : EqF X.K (T K) cQ := by
 subst hK
 exact ⟨cA (.cons (abZ (Wy (c.fact 63 (f := .raw (fun K => eqX K (He.ga K "Instance"))) rfl))) .nil)⟩
theorem PN (c : aP K) : Pk.ExC P K (T K) 2 (yz K) := abK (c.fact 57 (f := .own "NoInstance" (PySem.Str.ofString "/claim/cut.py") ["at"]) rfl) rfl rfl (c.wrote 0 (d := oU) rfl) rfl rfl Px Pu rfl rfl (by decide +kernel) hp_.f hp_.t
theorem Xu (c : aP K) : Vw K (T K) zQ := abW (.cons (je (c.fact 58 (f := .kit (.o 2) (.o 3) true) rfl)) (Ud (c.fact 59 (f := .exi "NoInstance") rfl)) (.cons (je (c.fact 60 (f := .kit (.o 2) (.o 4) false) rfl)) (Ud (c.fact 59 (f := .exi "NoInstance") rfl)) .nil))
theorem PP (c : aP K) {X : Cx} (hK : X.K = K) : ∀ cc b, sJ cc = some b → PySem.W.exmOne X.K (.ref ((T K).cad cc)) (.ref (He.ga K "NoInstance")) = some b := by
 subst hK
 exact cA (Q := fun cc b => PySem.W.exmOne X.K (.ref ((T X.K).cad cc)) (.ref (He.ga X.K "NoInstance")) = some b) (.cons (He.exm_ok (c.fact 61 (f := .he (.exm "NoInstance" "NoInstance" true)) rfl)) .nil)
theorem Zb (c : aP K) {X : Cx} (hK : X.K = K) : XfF X.K (T K) "at" Qp := by
 subst hK
 exact ⟨cA (.cons ⟨rfl, (by show (fld 2).Nodup; decide +kernel), (WY (f := PySem.Str.ofString "at") (c.fact 57 (f := .own "NoInstance" (PySem.Str.ofString "/claim/cut.py") ["at"]) rfl) (by decide)).1, (WY (f := PySem.Str.ofString "at") (c.fact 57 (f := .own "NoInstance" (PySem.Str.ofString "/claim/cut.py") ["at"]) rfl) (by decide)).2⟩ .nil)⟩
theorem J8 (c : aP K) (Y : K.In base) (G : base.Ns mainGlobals mg) : Does P w K mg base (T K) 0 Ff "_law_source" (defScope nH) (defBody nH) qW := by
 intro f cdv A outer s H E C
 exact (aK (uL C 2 (s_if (dZ cmp_lt (ao 1) (iZ (bA 0) (iJ c Y G))) (cH 0 (ao 1)) aA))
  (aK (uL C 3 (s_if (dZ cmp_ge (Wm (ao 2) (Xr c Y G)) (yV aA aA)) (Wm (ao 2) (Xr c Y G)) aA))
  (aN (s_ret (jL (ak (ao 3) (ak (bz (ie (bz (ie (Gn (Cj (ao 2) (Df c Y G)) aA) (Qv aA (ao 1)))) aA)) (ak aA aH))))))))
theorem N6 (c : aP K) (Y : K.In base) (G : base.Ns mainGlobals mg) : ∃ fd : FuncData, jM P w K mg base (T K) 1 (yq.adr K) fd yo jE ∧ Bn K (T K) fd yo 2 [] (aq []) := by
 obtain ⟨fd, F⟩ := c.def_ 1 (d := yq) rfl
 exact ⟨fd, ⟨gG F Np (J8 c Y G), F.kp⟩, (fB (FunD.bindsN F fun _ _ _ _ _ _ us hl => match us, hl with | [_, _], _ => (by kernel_rfl)))⟩
theorem BR (c : aP K) (Y : K.In base) (G : base.Ns mainGlobals mg) : Does P w K mg base (T K) 0 wH "History.__init__" (defScope iz) (defBody iz) jN := by
 intro f cdv A outer s H E C
 exact (aK (vR C (uK (ao 2)) (fM C 3)
  (aN (dG (dZ (Cg C) (dX (jw c rfl) (bA 3)) (bA 1))
  (aN MP)
  cV)))
  (aK (tG 0 (jw c rfl) (ao 1))
  (aN (tG 0 (gK c rfl) (yX (bA 2) (oX c Y G))))))
theorem lV (c : aP K) (Y : K.In base) (G : base.Ns mainGlobals mg) : ∃ fd : FuncData, Ue P w K mg base (T K) 1 1 (rY.adr K) 3 ["readings"] bQ := by
 obtain ⟨fd, F⟩ := c.def_ 2 (d := rY) rfl
 exact ⟨fd, aam (p0 := "self") (pv := "instances") (ks := ["readings"]) 1 F (He.mkr_ok (c.fact 64 (f := .he (.mkr "History")) rfl)) Ei (BR c Y G) (fun _ _ _ _ _ _ _ ur ws hl => match ur, ws, hl with | [], [_], _ => (by kernel_rfl) | _ :: _, [_], _ => (by kernel_rfl))⟩
theorem Dh (c : aP K) (Y : K.In base) (G : base.Ns mainGlobals mg) : Does P w K mg base (T K) 2 xX "History.__add__" (defScope jf) (defBody jf) kE := by
 obtain ⟨fd_History____init__, F_History____init__⟩ := lV (P := P) (w := w) c Y G
 intro f cdv A outer s H E C
 exact (aK (dG (dZ (Cg C) (dX (jw c rfl) (bA 0)) (dR (dX (jw c rfl) (bA 1))))
  (aN MP)
  cV)
  (aK (nY C 2 (ie (dX (gK c rfl) (bA 0)) (dX (gK c rfl) (bA 1))))
  (aN (s_ret (Jp C F_History____init__ rfl (by decide) (wB c Y G) (ao 2) (rB (dX (jw c rfl) (bA 0)) Ck))))))
theorem FQ (c : aP K) (Y : K.In base) (G : base.Ns mainGlobals mg) : ∃ fd : FuncData, jM P w K mg base (T K) 3 (tK.adr K) fd tH jt ∧ Bn K (T K) fd tH 2 [] (aq []) := by
 obtain ⟨fd, F⟩ := c.def_ 3 (d := tK) rfl
 exact ⟨fd, ⟨gG F Fw (Dh c Y G), F.kp⟩, (fB (FunD.bindsN F fun _ _ _ _ _ _ us hl => match us, hl with | [_, _], _ => (by kernel_rfl)))⟩
theorem yD (c : aP K) (Y : K.In base) (G : base.Ns mainGlobals mg) : Does P w K mg base (T K) 0 uw "falls_without_restart" (defScope eX) (defBody eX) jH := by
 intro f cdv A outer s H E C
 exact (aK (vR C (MN aA (iZ (bA 0) (iJ c Y G)) (vz c Y G)) (fM C 3)
  (aN (dG (qm (Qz (dZ cmp_lt (cH 0 (ao 3)) (cH 0 (uH (ao 3) aA))) (MJ (dZ (TV) (uH (bz (ie (ao 1) (ao 3))) aA) (bA 2)))))
  (aN (s_ret (cR gh)))
  cV)))
  (aN (s_ret (cR gh))))
theorem zV (c : aP K) (Y : K.In base) (G : base.Ns mainGlobals mg) : ∃ fd : FuncData, jM P w K mg base (T K) 1 (mZ.adr K) fd mY jJ ∧ Bn K (T K) fd mY 3 [] (aq []) := by
 obtain ⟨fd, F⟩ := c.def_ 4 (d := mZ) rfl
 exact ⟨fd, ⟨gG F zp (yD c Y G), F.kp⟩, (fB (FunD.bindsN F fun _ _ _ _ _ _ us hl => match us, hl with | [_, _, _], _ => (by kernel_rfl)))⟩
theorem Lq (c : aP K) (Y : K.In base) (G : base.Ns mainGlobals mg) : Does P w K mg base (T K) 0 G6 "is_integer" (defScope pJ) (defBody pJ) pN := by
 intro f cdv A outer s H E C
 exact (aN (s_ret (cR (pH (xW (v8 c) (ao 0) (vW (t := "int") (Df c Y G)) (gQ c Y G)) (vQ (abn (xW (v8 c) (ao 0) (vW (t := "bool") (Dg c Y G)) (gQ c Y G))))))))
theorem qX (c : aP K) (Y : K.In base) (G : base.Ns mainGlobals mg) : ∃ fd : FuncData, jM P w K mg base (T K) 1 (zr.adr K) fd zq dN ∧ Bn K (T K) fd zq 1 [] (aq []) := by
 obtain ⟨fd, F⟩ := c.def_ 5 (d := zr) rfl
 exact ⟨fd, ⟨gG F Pn (Lq c Y G), F.kp⟩, (fB (FunD.bindsN F fun _ _ _ _ _ _ us hl => match us, hl with | [_], _ => (by kernel_rfl)))⟩
theorem Lr (c : aP K) (Y : K.In base) (G : base.Ns mainGlobals mg) : Does P w K mg base (T K) 1 G7 "are_counts" (defScope pK) (defBody pK) zR := by
 obtain ⟨fd_is_integer, F_is_integer, B_is_integer_0⟩ := qX (P := P) (w := w) c Y G
 intro f cdv A outer s H E C
 exact (aK (dG (qm (qp (dF (eO (dR (xW (v8 c) (ao 0) (qR (ak (vW (t := "list") (qd c Y G)) (ak (vW (t := "tuple") (oX c Y G)) aH))) (gQ c Y G))))) (qQ (dF (DG cmp_le cmp_le aA (iZ (bA 0) (iJ c Y G)) (ao 1))))))
  (aN (s_ret (cR gh)))
  cV)
  (aN (s_ret (cR (jx (cmp_eq C) (iZ (dY (Qh C [("value", 2)] (uK (ao 0)) (by decide) (fun _ _ _ _ _ => (fM (Cq.blk C) 2)) (fun _ _ _ _ _ => (Ik (qm (qp (dF (eO (dY (aZ (Cq.blk C) F_is_integer (by decide) B_is_integer_0 (nR c Y G) (ak (ao 2) aH))))) (qQ (dZ cmp_lt (ao 2) aA)))))) (fun _ _ _ _ _ => (ao 2)) (blkOk_by rfl))) (iJ c Y G)) (dR aA))))))
theorem PQ (c : aP K) (Y : K.In base) (G : base.Ns mainGlobals mg) : ∃ fd : FuncData, jM P w K mg base (T K) 2 (zA.adr K) fd zu wk ∧ Bn K (T K) fd zu 2 [] (aq []) := by
 obtain ⟨fd, F⟩ := c.def_ 6 (d := zA) rfl
 exact ⟨fd, ⟨gG F Pq (Lr c Y G), F.kp⟩, (fB (FunD.bindsN F fun _ _ _ _ _ _ us hl => match us, hl with | [_, _], _ => (by kernel_rfl)))⟩
theorem Jg (c : aP K) (Y : K.In base) (G : base.Ns mainGlobals mg) : Does P w K mg base (T K) 1 CJ "is_ascending" (defScope lZ) (defBody lZ) xm := by
 obtain ⟨fd_is_integer, F_is_integer, B_is_integer_0⟩ := qX (P := P) (w := w) c Y G
 intro f cdv A outer s H E C
 exact (aK (dG (dF (eO (dR (xW (v8 c) (ao 0) (qR (ak (vW (t := "list") (qd c Y G)) (ak (vW (t := "tuple") (oX c Y G)) aH))) (gQ c Y G)))))
  (aN (s_ret (cR gh)))
  cV)
  (aK (vR C (aak (ao 0) (R6 c Y G)) (Wo C (DP (fM C 1) (DP (fM C 2) Ua)))
  (aN (dG (qm (qp (dF (eO (dY (aZ C F_is_integer (by decide) B_is_integer_0 (nR c Y G) (ak (ao 2) aH))))) (qQ (qm (Qz (dZ cmp_gt (ao 1) aA) (MJ (dZ cmp_le (ao 2) (cH 0 (uH (ao 1) aA)))))))))
  (aN (s_ret (cR gh)))
  cV)))
  (aN (s_ret (cR gh)))))
theorem Ax (c : aP K) (Y : K.In base) (G : base.Ns mainGlobals mg) : ∃ fd : FuncData, jM P w K mg base (T K) 2 (wW.adr K) fd wV pO ∧ Bn K (T K) fd wV 1 [] (aq []) := by
 obtain ⟨fd, F⟩ := c.def_ 7 (d := wW) rfl
 exact ⟨fd, ⟨gG F KN (Jg c Y G), F.kp⟩, (fB (FunD.bindsN F fun _ _ _ _ _ _ us hl => match us, hl with | [_], _ => (by kernel_rfl)))⟩
theorem N7 (c : aP K) (Y : K.In base) (G : base.Ns mainGlobals mg) : Does P w K mg base (T K) 2 Jq "is_inside" (defScope rC) (defBody rC) xQ := by
 obtain ⟨fd_is_ascending, F_is_ascending, B_is_ascending_0⟩ := Ax (P := P) (w := w) c Y G
 intro f cdv A outer s H E C
 exact (aN (s_ret (cR (pH (bz (aZ C F_is_ascending (by decide) B_is_ascending_0 (Av c Y G) (ak (ao 0) aH))) (vQ (adc (jx (cmp_eq C) (iZ (bA 0) (iJ c Y G)) (dR aA)) (vQ (pH (jx cmp_le (ao 1) (cH 0 aA)) (vQ (jx cmp_le (cH 0 (Ce aA)) (ao 2)))))))))))
theorem R7 (c : aP K) (Y : K.In base) (G : base.Ns mainGlobals mg) : ∃ fd : FuncData, jM P w K mg base (T K) 3 (Bh.adr K) fd Bg rN ∧ Bn K (T K) fd Bg 3 [] (aq []) := by
 obtain ⟨fd, F⟩ := c.def_ 8 (d := Bh) rfl
 exact ⟨fd, ⟨gG F Ri (N7 c Y G), F.kp⟩, (fB (FunD.bindsN F fun _ _ _ _ _ _ us hl => match us, hl with | [_, _, _], _ => (by kernel_rfl)))⟩
theorem N8 (c : aP K) (Y : K.In base) (G : base.Ns mainGlobals mg) : Does P w K mg base (T K) 2 Jr "are_tails" (defScope rE) (defBody rE) BK := by
 obtain ⟨fd_is_ascending, F_is_ascending, B_is_ascending_0⟩ := Ax (P := P) (w := w) c Y G
 obtain ⟨fd_is_integer, F_is_integer, B_is_integer_0⟩ := qX (P := P) (w := w) c Y G
 intro f cdv A outer s H E C
 exact (aK (dG (dF (eO (dR (xW (v8 c) (ao 0) (qR (ak (vW (t := "list") (qd c Y G)) (ak (vW (t := "tuple") (oX c Y G)) aH))) (gQ c Y G)))))
  (aN (s_ret (cR gh)))
  cV)
  (aK (vR C (uK (ao 0)) (fM C 2)
  (aN (dG (qm (qp (dF (eO (dR (xW (v8 c) (ao 2) (qR (ak (vW (t := "list") (qd c Y G)) (ak (vW (t := "tuple") (oX c Y G)) aH))) (gQ c Y G))))) (qp (dZ (Cg C) (iZ (bA 2) (iJ c Y G)) (dR aA)) (qp (dF (eO (dY (aZ C F_is_integer (by decide) B_is_integer_0 (nR c Y G) (ak (cH 2 aA) aH))))) (qQ (dZ cmp_lt (cH 2 aA) aA))))))
  (aN (s_ret (cR gh)))
  cV)))
  (aK (Ub C 3 [("pair", 2)] (uK (ao 0)) (by decide) (fun _ _ _ _ _ => (fM (Cq.blk C) 2)) (fun _ _ _ _ _ => M3) (fun _ _ _ _ _ => (cH 2 aA)) (blkOk_by rfl) (sw_true rfl rfl rfl rfl))
  (aN (s_ret (cR (pH (bz (aZ C F_is_ascending (by decide) B_is_ascending_0 (Av c Y G) (ak (ao 3) aH))) (vQ (jx (cmp_eq C) (iZ (dY (Qh C [("gap", 4)] (uK (ao 3)) (by decide) (fun _ _ _ _ _ => (fM (Cq.blk C) 4)) (fun _ _ _ _ _ => (Ik (dZ (TV) (ao 4) (bA 1)))) (fun _ _ _ _ _ => (ao 4)) (blkOk_by rfl))) (iJ c Y G)) (dR aA))))))))))
theorem R8 (c : aP K) (Y : K.In base) (G : base.Ns mainGlobals mg) : ∃ fd : FuncData, jM P w K mg base (T K) 3 (Bl.adr K) fd Bj xR ∧ Bn K (T K) fd Bj 2 [] (aq []) := by
 obtain ⟨fd, F⟩ := c.def_ 9 (d := Bl) rfl
 exact ⟨fd, ⟨gG F Rj (N8 c Y G), F.kp⟩, (fB (FunD.bindsN F fun _ _ _ _ _ _ us hl => match us, hl with | [_, _], _ => (by kernel_rfl)))⟩
theorem J9 (c : aP K) (Y : K.In base) (G : base.Ns mainGlobals mg) : Does P w K mg base (T K) 3 Fg "first_fault" (defScope nJ) (defBody nJ) u6 := by
 obtain ⟨fd_are_counts, F_are_counts, B_are_counts_0⟩ := PQ (P := P) (w := w) c Y G
 obtain ⟨fd_are_tails, F_are_tails, B_are_tails_0⟩ := R8 (P := P) (w := w) c Y G
 obtain ⟨fd_falls_without_restart, F_falls_without_restart, B_falls_without_restart_0⟩ := zV (P := P) (w := w) c Y G
 obtain ⟨fd_is_inside, F_is_inside, B_is_inside_0⟩ := R7 (P := P) (w := w) c Y G
 obtain ⟨fd_is_integer, F_is_integer, B_is_integer_0⟩ := qX (P := P) (w := w) c Y G
 intro f cdv A outer s H E C
 exact (aK (dG (qm (qp (dF (eO (dY (aZ C F_is_integer (by decide) B_is_integer_0 (nR c Y G) (ak (ao 1) aH))))) (qQ (dF (DG cmp_le cmp_le aA (ao 1) aA)))))
  (aN (s_ret (cR vM)))
  cV)
  (aK (dG (qm (qp (dF (eO (dY (aZ C F_is_integer (by decide) B_is_integer_0 (nR c Y G) (ak (ao 2) aH))))) (qQ (dF (DG cmp_le cmp_lt aA (ao 2) (ao 1))))))
  (aN (s_ret (cR vM)))
  cV)
  (aK (dG (dF (eO (dY (aZ C F_are_counts (by decide) B_are_counts_0 (Py c Y G) (ak (ao 0) (ak (uH (ao 1) (ao 2)) aH))))))
  (aN (s_ret (cR vM)))
  cV)
  (aK (uL C 6 (uH (bz (ie (ao 2) (iZ (bA 0) (iJ c Y G)))) aA))
  (aK (dG (dF (eO (dY (aZ C F_is_inside (by decide) B_is_inside_0 (Hq c Y G) (ak (ao 3) (ak (ao 2) (ak (uH (ao 6) aA) aH)))))))
  (aN (s_ret (cR vM)))
  cV)
  (aK (dG (eO (dY (aZ C F_falls_without_restart (by decide) B_falls_without_restart_0 (zU c Y G) (ak (ao 0) (ak (ao 2) (ak (ao 3) aH))))))
  (aN (s_ret (cR vM)))
  cV)
  (aK (nY C 7 (wO (bA 3) (qd c Y G)))
  (aK (dG (dZ cmp_lt (ao 6) (uH (ao 1) aA))
  (aN (za (wR 7 (ao 6))))
  cV)
  (aK (dG (dF (eO (dY (aZ C F_are_tails (by decide) B_are_tails_0 (R4 c Y G) (ak (ao 4) (ak (ao 7) aH))))))
  (aN (s_ret (cR vM)))
  cV)
  (aK (dG (dF (eO (dY (aZ C F_is_inside (by decide) B_is_inside_0 (Hq c Y G) (ak (ao 5) (ak (ao 2) (ak (ao 6) aH)))))))
  (aN (s_ret (cR vM)))
  cV)
  (aN (s_ret (cR Ca)))))))))))))
theorem Oa (c : aP K) (Y : K.In base) (G : base.Ns mainGlobals mg) : ∃ fd : FuncData, jM P w K mg base (T K) 4 (yt.adr K) fd yr yC ∧ Bn K (T K) fd yr 6 [] (aq []) := by
 obtain ⟨fd, F⟩ := c.def_ 10 (d := yt) rfl
 exact ⟨fd, ⟨gG F Nr (J9 c Y G), F.kp⟩, (fB (FunD.bindsN F fun _ _ _ _ _ _ us hl => match us, hl with | [_, _, _, _, _, _], _ => (by kernel_rfl)))⟩
theorem Ad (c : aP K) (Y : K.In base) (G : base.Ns mainGlobals mg) : Does P w K mg base (T K) 4 v4 "Instance.__init__" (defScope gY) (defBody gY) qL := by
 obtain ⟨fd_first_fault, F_first_fault, B_first_fault_0⟩ := Oa (P := P) (w := w) c Y G
 intro f cdv A outer s H E C
 exact (aK (nY C 7 (aZ C F_first_fault (by decide) B_first_fault_0 (NT c Y G) (ak (ao 1) (ak (ao 2) (ak (ao 3) (ak (ao 4) (ak (ao 5) (ak (ao 6) aH))))))))
  (aK (dG (dZ Z7 (ao 7) Ca)
  (aN MP)
  cV)
  (aK (tG 0 (jw c rfl) (ao 2))
  (aK (tG 0 (JZ c rfl) (ao 3))
  (aK (tG 0 (Ht c rfl) (yX (bA 1) (oX c Y G)))
  (aK (tG 0 (BP c rfl) (yX (bA 4) (oX c Y G)))
  (aK (tG 0 (J5 c rfl) (yX (dY (Qh C [("gap", 8), ("many", 9)] (uK (ao 5)) (by decide) (fun _ _ _ _ _ => (Wo (Cq.blk C) (DP (fM (Cq.blk C) 8) (DP (fM (Cq.blk C) 9) Ua)))) (fun _ _ _ _ _ => M3) (fun _ _ _ _ _ => (qR (ak (ao 8) (ak (ao 9) aH)))) (blkOk_by rfl))) (oX c Y G)))
  (aN (tG 0 (N5 c rfl) (yX (bA 6) (oX c Y G)))))))))))
theorem Di (c : aP K) (Y : K.In base) (G : base.Ns mainGlobals mg) : ∃ fd : FuncData, FnI P w K mg base (T K) 5 0 (qw.adr K) fd lO lU ∧ BnI K (T K) fd lO 1 ["readings", "start", "restarts", "tails", "lost"] (GX [0, 1, 2, 3, 4] []) := by
 obtain ⟨fd, F⟩ := c.def_ 11 (d := qw) rfl
 obtain ⟨mv0, kb0⟩ := FunD.kbinds0 F (ps := lO) 2 ["readings", "start", "restarts", "tails", "lost"] [] (fun us mv ws => Zx [0, 1, 2, 3, 4] us mv ws) (by exact List.cons_ne_nil _ _) (abH [] rfl) (fun r1 r2 r3 => r1.append (GJ _ (r3.append r2))) (by
  intro D doc pm an cdv ct us mv ws l1 l2 l3
  match us, mv, ws, l1, l2, l3 with
  | [u0, u1], [], [w0, w1, w2, w3, w4], _, _, _ => (show bindArgs _ _ = pure _; kernel_rfl))
 exact ⟨fd, ⟨aag 0 F CK (Ad c Y G), He.mkr_ok (c.fact 65 (f := .he (.mkr "Instance")) rfl)⟩, ⟨_, _, fun vs zs => Zx [0, 1, 2, 3, 4] vs (([] : List (Str × V)).map (·.2)) zs, kb0, fun _ _ _ _ _ => rfl, aal [0, 1, 2, 3, 4] (fun _ => .nil) (by decide) (by decide)⟩⟩
theorem Oc (c : aP K) (Y : K.In base) (G : base.Ns mainGlobals mg) : Does P w K mg base (T K) 6 Jt "_law_made" (defScope rF) (defBody rF) BL := by
 obtain ⟨fd_Instance____init__, F_Instance____init__, B_Instance____init___0⟩ := Di (P := P) (w := w) c Y G
 intro f cdv A outer s H E C
 exact (aN (s_ret (X3 C F_Instance____init__ (by decide) B_Instance____init___0 (Jy c Y G) (ak (bz (wO (dR (cH 0 aA)) (qd c Y G))) aH) (rB (ao 1) (rB (cH 0 aA) (rB (bz (wO (dR (cH 0 aA)) (qd c Y G))) (rB (bz (wO (dR (cH 0 aA)) (qd c Y G))) (rB (bz (wO (dR (cH 0 aA)) (qd c Y G))) Ck))))))))
theorem zW (c : aP K) (Y : K.In base) (G : base.Ns mainGlobals mg) : ∃ fd : FuncData, jM P w K mg base (T K) 7 (Bo.adr K) fd Bm dD ∧ Bn K (T K) fd Bm 2 [] (aq []) := by
 obtain ⟨fd, F⟩ := c.def_ 12 (d := Bo) rfl
 exact ⟨fd, ⟨gG F Rk (Oc c Y G), F.kp⟩, (fB (FunD.bindsN F fun _ _ _ _ _ _ us hl => match us, hl with | [_, _], _ => (by kernel_rfl)))⟩
theorem VP (c : aP K) (Y : K.In base) (G : base.Ns mainGlobals mg) {X : Cx} {k : Nat} (hk : 3 ≤ k) (hP : X.prog = P) (hw : X.w = w) (hK : X.K = K) (hm : X.mg = mg) (hb : X.base = base) : abI X (T K) k .Add wu := by
 subst hP hw hK hm hb
 exact ⟨cA (.cons (by
  obtain ⟨fd, F, B⟩ := FQ (P := X.prog) (w := X.w) c Y G
  exact ⟨_, _, fd, _, He.cls_ok (c.fact 41 (f := .he (.cls "History")) rfl), He.meth_ok (c.fact 55 (f := .he (.meth "History" "__add__")) rfl), (c.fact 56 (f := .slf "History") rfl), F, B, Nat.le_trans (by decide) hk⟩) .nil)⟩
theorem Jh (c : aP K) (Y : K.In base) (G : base.Ns mainGlobals mg) : Does P w K mg base (T K) 7 CN "_law_history" (defScope mD) (defBody mD) pP := by
 obtain ⟨fd_History____init__, F_History____init__⟩ := lV (P := P) (w := w) c Y G
 obtain ⟨fd__law_made, F__law_made, B__law_made_0⟩ := zW (P := P) (w := w) c Y G
 intro f cdv A outer s H E C
 exact (aK (nY C 2 (WL C F_History____init__ rfl (by decide) (wB c Y G) (rB (ao 1) Ck)))
  (aK (acj C (aci (ao 0)) (fM C 3)
  (aN (nY C 2 (abJ C (VP (P := P) c Y G (by decide) rfl rfl rfl rfl rfl) (ao 2) (bz (O6 C F_History____init__ rfl (by decide) (by decide) (wB c Y G) (ak (bz (aZ C F__law_made (by decide) B__law_made_0 (qb c Y G) (ak (ao 3) (ak (ao 1) aH)))) aH) (rB (ao 1) Ck)))))))
  (aN (s_ret (Mw 2)))))
theorem Ls (c : aP K) (Y : K.In base) (G : base.Ns mainGlobals mg) : ∃ fd : FuncData, jM P w K mg base (T K) 8 (wY.adr K) fd wX mG ∧ Bn K (T K) fd wX 2 [] (aq []) := by
 obtain ⟨fd, F⟩ := c.def_ 13 (d := wY) rfl
 exact ⟨fd, ⟨gG F KQ (Jh c Y G), F.kp⟩, (fB (FunD.bindsN F fun _ _ _ _ _ _ us hl => match us, hl with | [_, _], _ => (by kernel_rfl)))⟩
theorem Od (c : aP K) (Y : K.In base) (G : base.Ns mainGlobals mg) : Does P w K mg base (T K) 0 Ju "_law_draw" (defScope rG) (defBody rG) rO := by
 intro f cdv A outer s H E C
 exact (aK (dG (dZ cmp_gt (cH 0 aA) aA)
  (aK (uL C 2 (Gn (Cj (cH 0 aA) (Df c Y G)) (ao 1)))
  (aK (Wv 0 (Wc (cH 0 aA) (ao 1)) aA)
  (aN (s_ret (Mw 2)))))
  cV)
  (aK (Wv 0 (bz (ie (cH 0 aA) aA)) aA)
  (aK (uL C 3 (Gn (Cj (yV (bz (ie (cH 0 aA) (Qv aA (cH 0 aA)))) aA) (Df c Y G)) aA))
  (aK (uL C 3 (Gn (Cj (yV (bz (ie (ao 3) (Qv aA (cH 0 aA)))) aA) (Df c Y G)) aA))
  (aN (s_ret (cR (Gn (Cj (Wc (ao 3) aA) (Df c Y G)) (ao 1)))))))))
theorem qj (c : aP K) (Y : K.In base) (G : base.Ns mainGlobals mg) : ∃ fd : FuncData, jM P w K mg base (T K) 1 (Br.adr K) fd Bp bJ ∧ Bn K (T K) fd Bp 2 [] (aq []) := by
 obtain ⟨fd, F⟩ := c.def_ 14 (d := Br) rfl
 exact ⟨fd, ⟨gG F Rm (Od c Y G), F.kp⟩, (fB (FunD.bindsN F fun _ _ _ _ _ _ us hl => match us, hl with | [_, _], _ => (by kernel_rfl)))⟩
theorem R9 (c : aP K) (Y : K.In base) (G : base.Ns mainGlobals mg) : Does P w K mg base (T K) 1 O7 "_law_of" (defScope vD) (defBody vD) tX := by
 obtain ⟨fd__law_draw, F__law_draw, B__law_draw_0⟩ := qj (P := P) (w := w) c Y G
 intro f cdv A outer s H E C
 exact (aN (s_ret (cR (cH 1 (bz (aZ C F__law_draw (by decide) B__law_draw_0 (d8 c Y G) (ak (ao 0) (ak (iZ (bA 1) (iJ c Y G)) aH))))))))
theorem Ew (c : aP K) (Y : K.In base) (G : base.Ns mainGlobals mg) : ∃ fd : FuncData, jM P w K mg base (T K) 2 (G9.adr K) fd G8 eU ∧ Bn K (T K) fd G8 2 [] (aq []) := by
 obtain ⟨fd, F⟩ := c.def_ 15 (d := G9) rfl
 exact ⟨fd, ⟨gG F VB (R9 c Y G), F.kp⟩, (fB (FunD.bindsN F fun _ _ _ _ _ _ us hl => match us, hl with | [_, _], _ => (by kernel_rfl)))⟩
theorem Ka (c : aP K) (Y : K.In base) (G : base.Ns mainGlobals mg) : Does P w K mg base (T K) 2 Fj "_law_number" (defScope nM) (defBody nM) u9 := by
 obtain ⟨fd__law_draw, F__law_draw, B__law_draw_0⟩ := qj (P := P) (w := w) c Y G
 obtain ⟨fd__law_of, F__law_of, B__law_of_0⟩ := Ew (P := P) (w := w) c Y G
 intro f cdv A outer s H E C
 exact (aN (s_ret (aZ C F__law_draw (by decide) B__law_draw_0 (d8 c Y G) (ak (ao 0) (ak (bz (aZ C F__law_of (by decide) B__law_of_0 (wC c Y G) (ak (ao 0) (ak (bz (jL (ak aA (ak aA (ak aA (ak aA (ak aA (ak aA (ak (yV aA aA) (ak (yV aA aA) aH)))))))))) aH)))) aH)))))
theorem Oe (c : aP K) (Y : K.In base) (G : base.Ns mainGlobals mg) : ∃ fd : FuncData, jM P w K mg base (T K) 3 (yw.adr K) fd yu iQ ∧ Bn K (T K) fd yu 1 [] (aq []) := by
 obtain ⟨fd, F⟩ := c.def_ 16 (d := yw) rfl
 exact ⟨fd, ⟨gG F Nt (Ka c Y G), F.kp⟩, (fB (FunD.bindsN F fun _ _ _ _ _ _ us hl => match us, hl with | [_], _ => (by kernel_rfl)))⟩
theorem Og (c : aP K) (Y : K.In base) (G : base.Ns mainGlobals mg) : Does P w K mg base (T K) 3 Jv "_law_life" (defScope rH) (defBody rH) rP := by
 obtain ⟨fd__law_draw, F__law_draw, B__law_draw_0⟩ := qj (P := P) (w := w) c Y G
 obtain ⟨fd__law_number, F__law_number, B__law_number_0⟩ := Oe (P := P) (w := w) c Y G
 intro f cdv A outer s H E C
 exact (aK (abt C (vh (cR aA) (vh (cR (ao 1)) (vh (jL aH) (vh (jL aH) (vh (jL aH) T9))))) (yZ C 2 (yZ C 3 (yZ C 4 (yZ C 5 (yZ C 6 aab))))))
  (aK (dG (dZ (cmp_eq C) (bz (aZ C F__law_draw (by decide) B__law_draw_0 (d8 c Y G) (ak (ao 0) (ak aA aH)))) (dR aA))
  (aK (nY C 2 (aZ C F__law_draw (by decide) B__law_draw_0 (d8 c Y G) (ak (ao 0) (ak (ao 1) aH))))
  (aN (nY C 3 (ie aA (bz (aZ C F__law_draw (by decide) B__law_draw_0 (d8 c Y G) (ak (ao 0) (ak (uH (ao 1) (ao 2)) aH))))))))
  cV)
  (aK (nY C 7 (jL (ak (bz (aZ C F__law_number (by decide) B__law_number_0 (uv c Y G) (ak (ao 0) aH))) aH)))
  (aK (vR C (MN aA (ao 3) (vz c Y G)) (fM C 8)
  (aN (dG (dZ (cmp_eq C) (bz (aZ C F__law_draw (by decide) B__law_draw_0 (d8 c Y G) (ak (ao 0) (ak aA aH)))) (dR aA))
  (aK (za (wR 4 (uH (bz (ie (ao 2) (ao 8))) aA)))
  (aN (za (wR 7 (bz (aZ C F__law_number (by decide) B__law_number_0 (uv c Y G) (ak (ao 0) aH)))))))
  (aN (za (wR 7 (bz (ie (cH 7 (Ce aA)) (bz (aZ C F__law_number (by decide) B__law_number_0 (uv c Y G) (ak (ao 0) aH)))))))))))
  (aK (nY C 9 (s_if (dZ cmp_lt (bz (ie (ao 2) (ao 3))) (ao 1)) (ie (ao 4) (bz (jL (ak (uH (bz (ie (ao 2) (ao 3))) aA) aH)))) (wO (bA 4) (qd c Y G))))
  (aK (vR C (uK (ao 9)) (fM C 10)
  (aN (dG (dZ (cmp_eq C) (bz (aZ C F__law_draw (by decide) B__law_draw_0 (d8 c Y G) (ak (ao 0) (ak aA aH)))) (dR aA))
  (aN (za (wR 5 (qR (ak (ao 10) (ak (bz (ie aA (bz (aZ C F__law_number (by decide) B__law_number_0 (uv c Y G) (ak (ao 0) aH))))) aH))))))
  cV)))
  (aK (vR C (MN (ao 2) (bz (ie (ao 2) (ao 3))) (vz c Y G)) (fM C 8)
  (aN (dG (dZ (cmp_eq C) (bz (aZ C F__law_draw (by decide) B__law_draw_0 (d8 c Y G) (ak (ao 0) (ak aA aH)))) (dR aA))
  (aN (za (wR 6 (ao 8))))
  cV)))
  (aN (s_ret (cR (qR (ak (ao 2) (ak (ao 7) (ak (ao 4) (ak (ao 5) (ak (ao 6) aH))))))))))))))))
theorem Sd (c : aP K) (Y : K.In base) (G : base.Ns mainGlobals mg) : ∃ fd : FuncData, jM P w K mg base (T K) 4 (Bu.adr K) fd Bt eE ∧ Bn K (T K) fd Bt 2 [] (aq []) := by
 obtain ⟨fd, F⟩ := c.def_ 17 (d := Bu) rfl
 exact ⟨fd, ⟨gG F Ro (Og c Y G), F.kp⟩, (fB (FunD.bindsN F fun _ _ _ _ _ _ us hl => match us, hl with | [_, _], _ => (by kernel_rfl)))⟩
theorem Dj (c : aP K) (Y : K.In base) (G : base.Ns mainGlobals mg) : Does P w K mg base (T K) 0 xY "History.__len__" (defScope jh) (defBody jh) kJ := by
 intro f cdv A outer s H E C
 exact (aN (s_ret (cR (iZ (dR (dX (gK c rfl) (bA 0))) (iJ c Y G)))))
theorem FT (c : aP K) (Y : K.In base) (G : base.Ns mainGlobals mg) : ∃ fd : FuncData, jM P w K mg base (T K) 1 (tM.adr K) fd tL gJ ∧ Bn K (T K) fd tL 1 [] (aq []) := by
 obtain ⟨fd, F⟩ := c.def_ 18 (d := tM) rfl
 exact ⟨fd, ⟨gG F Fy (Dj c Y G), F.kp⟩, (fB (FunD.bindsN F fun _ _ _ _ _ _ us hl => match us, hl with | [_], _ => (by kernel_rfl)))⟩
theorem Dk (c : aP K) (Y : K.In base) (G : base.Ns mainGlobals mg) : Does P w K mg base (T K) 0 xZ "Instance.__eq__" (defScope ji) (defBody ji) kW := by
 intro f cdv A outer s H E C
 exact (aK (dG (dF (eO (dR (xW (v8 c) (ao 1) (QX (c := 0) (Jy c Y G)) (gQ c Y G)))))
  (aN (s_ret (cR gh)))
  cV)
  (aK (uL C 2 (pH (jx (cmp_eq C) (dX (jw c rfl) (bA 0)) (dR (dX (jw c rfl) (bA 1)))) (pH (jx (cmp_eq C) (dX (JZ c rfl) (bA 0)) (dR (dX (JZ c rfl) (bA 1)))) (vQ (jx (cmp_eq C) (dX (Ht c rfl) (bA 0)) (dR (dX (Ht c rfl) (bA 1))))))))
  (aN (s_ret (cR (pH (ao 2) (pH (jx (cmp_eq C) (dX (BP c rfl) (bA 0)) (dR (dX (BP c rfl) (bA 1)))) (pH (jx (cmp_eq C) (dX (J5 c rfl) (bA 0)) (dR (dX (J5 c rfl) (bA 1)))) (vQ (jx (cmp_eq C) (dX (N5 c rfl) (bA 0)) (dR (dX (N5 c rfl) (bA 1)))))))))))))
theorem FW (c : aP K) (Y : K.In base) (G : base.Ns mainGlobals mg) : ∃ fd : FuncData, jM P w K mg base (T K) 1 (tQ.adr K) fd tO cI ∧ Bn K (T K) fd tO 2 [] (aq []) := by
 obtain ⟨fd, F⟩ := c.def_ 19 (d := tQ) rfl
 exact ⟨fd, ⟨gG F FJ (Dk c Y G), F.kp⟩, (fB (FunD.bindsN F fun _ _ _ _ _ _ us hl => match us, hl with | [_, _], _ => (by kernel_rfl)))⟩
theorem wJ (c : aP K) (Y : K.In base) (G : base.Ns mainGlobals mg) {X : Cx} {k : Nat} (hk : 1 ≤ k) (hP : X.prog = P) (hw : X.w = w) (hK : X.K = K) (hm : X.mg = mg) (hb : X.base = base) : ph X (T K) k "__len__" fU 0 [] (aq []) := by
 subst hP hw hK hm hb
 exact ⟨cA (.cons (by
  obtain ⟨fd, F, B⟩ := FT (P := X.prog) (w := X.w) c Y G
  exact ⟨_, _, fd, _, He.cls_ok (c.fact 41 (f := .he (.cls "History")) rfl), He.meth_ok (c.fact 49 (f := .he (.meth "History" "__len__")) rfl), F, B, (by show _ ∉ fld 1; decide +kernel), Nat.le_trans (by decide) hk⟩) .nil)⟩
theorem sr (c : aP K) (Y : K.In base) (G : base.Ns mainGlobals mg) {X : Cx} {k : Nat} (hk : 1 ≤ k) (hP : X.prog = P) (hw : X.w = w) (hK : X.K = K) (hm : X.mg = mg) (hb : X.base = base) : ph X (T K) k "__eq__" cQ 1 [] (aq []) := by
 subst hP hw hK hm hb
 exact ⟨cA (.cons (by
  obtain ⟨fd, F, B⟩ := FW (P := X.prog) (w := X.w) c Y G
  exact ⟨_, _, fd, _, He.cls_ok (c.fact 39 (f := .he (.cls "Instance")) rfl), He.meth_ok (c.fact 50 (f := .he (.meth "Instance" "__eq__")) rfl), F, B, (by show _ ∉ fld 0; decide +kernel), Nat.le_trans (by decide) hk⟩) .nil)⟩
theorem Hu (c : aP K) (Y : K.In base) (G : base.Ns mainGlobals mg) : Does P w K mg base (T K) 7 Am "_law_as_lives" (defScope lC) (defBody lC) oG := by
 obtain ⟨fd__law_made, F__law_made, B__law_made_0⟩ := zW (P := P) (w := w) c Y G
 intro f cdv A outer s H E C
 exact (aK (dG (qm (qp (dZ (Cg C) (dX (jw c rfl) (bA 0)) (bA 2)) (qp (dF (eO (dR (xW (v8 c) (dX (gK c rfl) (bA 0)) (vW (t := "tuple") (oX c Y G)) (gQ c Y G))))) (qQ (dZ (Cg C) (aav (j := 1) C (by decide) (wJ (P := P) c Y G (by decide) rfl rfl rfl rfl rfl) (ao 0) (iJ c Y G)) (dR (iZ (bA 1) (iJ c Y G))))))))
  (aN (s_ret (cR gh)))
  cV)
  (aK (Ub C 3 [("_law_at", 4)] (Ij (iZ (bA 1) (iJ c Y G)) (vz c Y G)) (by decide) (fun _ _ _ _ _ => (fM (Cq.blk C) 4)) (fun _ _ _ _ _ => (Ik (dF (Ir (Nm (j := 1) (Cq.blk C) (by decide) (sr (P := P) c Y G (by decide) rfl rfl rfl rfl rfl) (rZ c rfl)) (Wh (dX (gK c rfl) (bA 0)) (ao 4)) (bz (aZ (Cq.blk C) F__law_made (by decide) B__law_made_0 (qb c Y G) (ak (cH 1 (ao 4)) (ak (ao 2) aH)))))))) (fun _ _ _ _ _ => (ao 4)) (blkOk_by rfl) (sw_true rfl rfl rfl rfl))
  (aN (s_ret (cR (pH (jx (cmp_eq C) (ao 3) (dY (jL aH))) (vQ (jx (cmp_eq C) (Yj (j := 1) C (by decide) (wJ (P := P) c Y G (by decide) rfl rfl rfl rfl rfl) (Eu c rfl) (ao 0) (Dg c Y G)) (dR (jx (Us C) (ao 1) (dY (jL aH))))))))))))
theorem Kc (c : aP K) (Y : K.In base) (G : base.Ns mainGlobals mg) : ∃ fd : FuncData, jM P w K mg base (T K) 8 (v7.adr K) fd v5 du ∧ Bn K (T K) fd v5 3 [] (aq []) := by
 obtain ⟨fd, F⟩ := c.def_ 20 (d := v7) rfl
 exact ⟨fd, ⟨gG F JN (Hu c Y G), F.kp⟩, (fB (FunD.bindsN F fun _ _ _ _ _ _ us hl => match us, hl with | [_, _, _], _ => (by kernel_rfl)))⟩
theorem yE (c : aP K) (Y : K.In base) (G : base.Ns mainGlobals mg) : Does P w K mg base (T K) 2 ux "History.__contains__" (defScope eY) (defBody eY) ir := by
 intro f cdv A outer s H E C
 exact (aN (s_ret (cR (JQ (jx cmp_gt (iZ (dY (Qh C [("instance", 2)] (uK (dX (gK c rfl) (bA 0))) (by decide) (fun _ _ _ _ _ => (fM (Cq.blk C) 2)) (fun _ _ _ _ _ => (Ik (Ir (Nm (j := 1) (Cq.blk C) (by decide) (sr (P := P) c Y G (by decide) rfl rfl rfl rfl rfl) (rZ c rfl)) (ao 2) (ao 1)))) (fun _ _ _ _ _ => (ao 2)) (blkOk_by rfl))) (iJ c Y G)) aA) (Dg c Y G)))))
theorem zX (c : aP K) (Y : K.In base) (G : base.Ns mainGlobals mg) : ∃ fd : FuncData, jM P w K mg base (T K) 3 (m9.adr K) fd m7 bU ∧ Bn K (T K) fd m7 2 [] (aq []) := by
 obtain ⟨fd, F⟩ := c.def_ 21 (d := m9) rfl
 exact ⟨fd, ⟨gG F zB (yE c Y G), F.kp⟩, (fB (FunD.bindsN F fun _ _ _ _ _ _ us hl => match us, hl with | [_, _], _ => (by kernel_rfl)))⟩
theorem FZ (c : aP K) (Y : K.In base) (G : base.Ns mainGlobals mg) : Does P w K mg base (T K) 1 zE "History.place" (defScope jP) (defBody jP) mJ := by
 obtain ⟨fd_is_integer, F_is_integer, B_is_integer_0⟩ := qX (P := P) (w := w) c Y G
 intro f cdv A outer s H E C
 exact (aK (dG (qm (qp (dF (eO (dY (aZ C F_is_integer (by decide) B_is_integer_0 (nR c Y G) (ak (ao 1) aH))))) (qQ (dF (DG cmp_le cmp_lt aA (ao 1) (iZ (dR (dX (gK c rfl) (bA 0))) (iJ c Y G)))))))
  (aN (aar C (PN (P := P) c) rfl Nu (Za c Y G) (Fp c Y G) (ak (ao 1) aH)))
  cV)
  (aN (s_ret (Mw 1))))
theorem Ji (c : aP K) (Y : K.In base) (G : base.Ns mainGlobals mg) : ∃ fd : FuncData, jM P w K mg base (T K) 2 (vo.adr K) fd vm dO ∧ Bn K (T K) fd vm 2 [] (aq []) := by
 obtain ⟨fd, F⟩ := c.def_ 22 (d := vo) rfl
 exact ⟨fd, ⟨gG F Jf (FZ c Y G), F.kp⟩, (fB (FunD.bindsN F fun _ _ _ _ _ _ us hl => match us, hl with | [_, _], _ => (by kernel_rfl)))⟩
theorem Sh (c : aP K) (Y : K.In base) (G : base.Ns mainGlobals mg) {X : Cx} {k : Nat} (hk : 2 ≤ k) (hP : X.prog = P) (hw : X.w = w) (hK : X.K = K) (hm : X.mg = mg) (hb : X.base = base) : ph X (T K) k "place" oV 1 [] (aq []) := by
 subst hP hw hK hm hb
 exact ⟨cA (.cons (by
  obtain ⟨fd, F, B⟩ := Ji (P := X.prog) (w := X.w) c Y G
  exact ⟨_, _, fd, _, He.cls_ok (c.fact 41 (f := .he (.cls "History")) rfl), He.meth_ok (c.fact 51 (f := .he (.meth "History" "place")) rfl), F, B, (by show _ ∉ fld 1; decide +kernel), Nat.le_trans (by decide) hk⟩) .nil)⟩
theorem Dm (c : aP K) (Y : K.In base) (G : base.Ns mainGlobals mg) : Does P w K mg base (T K) 2 yc "History.without" (defScope jk) (defBody jk) lu := by
 obtain ⟨fd_History____init__, F_History____init__⟩ := lV (P := P) (w := w) c Y G
 intro f cdv A outer s H E C
 exact (aK (nY C 2 (Il C (Sh (P := P) c Y G (by decide) rfl rfl rfl rfl rfl) (ao 0) (ak (ao 1) aH)))
  (aK (nY C 3 (ie (bz (Wl (dX (gK c rfl) (bA 0)) Ig (Ih (ao 2)))) (bz (Wl (dX (gK c rfl) (bA 0)) (Ih (bz (ie (ao 2) aA))) Ig))))
  (aN (s_ret (Jp C F_History____init__ rfl (by decide) (wB c Y G) (ao 3) (rB (dX (jw c rfl) (bA 0)) Ck))))))
theorem Ge (c : aP K) (Y : K.In base) (G : base.Ns mainGlobals mg) : ∃ fd : FuncData, jM P w K mg base (T K) 3 (tU.adr K) fd tR eV ∧ Bn K (T K) fd tR 2 [] (aq []) := by
 obtain ⟨fd, F⟩ := c.def_ 23 (d := tU) rfl
 exact ⟨fd, ⟨gG F FP (Dm c Y G), F.kp⟩, (fB (FunD.bindsN F fun _ _ _ _ _ _ us hl => match us, hl with | [_, _], _ => (by kernel_rfl)))⟩
theorem yL (c : aP K) (Y : K.In base) (G : base.Ns mainGlobals mg) : Does P w K mg base (T K) 2 uO "History.__getitem__" (defScope fO) (defBody fO) iI := by
 intro f cdv A outer s H E C
 exact (aN (s_ret (cR (Wh (dX (gK c rfl) (bA 0)) (bz (Il C (Sh (P := P) c Y G (by decide) rfl rfl rfl rfl rfl) (ao 0) (ak (ao 1) aH)))))))
theorem Ae (c : aP K) (Y : K.In base) (G : base.Ns mainGlobals mg) : ∃ fd : FuncData, jM P w K mg base (T K) 3 (oR.adr K) fd oO cU ∧ Bn K (T K) fd oO 2 [] (aq []) := by
 obtain ⟨fd, F⟩ := c.def_ 24 (d := oR) rfl
 exact ⟨fd, ⟨gG F Ac (yL c Y G), F.kp⟩, (fB (FunD.bindsN F fun _ _ _ _ _ _ us hl => match us, hl with | [_, _], _ => (by kernel_rfl)))⟩
theorem nA (c : aP K) (Y : K.In base) (G : base.Ns mainGlobals mg) {X : Cx} {k : Nat} (hk : 3 ≤ k) (hP : X.prog = P) (hw : X.w = w) (hK : X.K = K) (hm : X.mg = mg) (hb : X.base = base) : ph X (T K) k "__getitem__" cO 1 [] (aq []) := by
 subst hP hw hK hm hb
 exact ⟨cA (.cons (by
  obtain ⟨fd, F, B⟩ := Ae (P := X.prog) (w := X.w) c Y G
  exact ⟨_, _, fd, _, He.cls_ok (c.fact 41 (f := .he (.cls "History")) rfl), He.meth_ok (c.fact 52 (f := .he (.meth "History" "__getitem__")) rfl), F, B, (by show _ ∉ fld 1; decide +kernel), Nat.le_trans (by decide) hk⟩) .nil)⟩
theorem Lw (c : aP K) (Y : K.In base) (G : base.Ns mainGlobals mg) {X : Cx} {k : Nat} (hk : 3 ≤ k) (hP : X.prog = P) (hw : X.w = w) (hK : X.K = K) (hm : X.mg = mg) (hb : X.base = base) : ph X (T K) k "without" qM 1 [] (aq []) := by
 subst hP hw hK hm hb
 exact ⟨cA (.cons (by
  obtain ⟨fd, F, B⟩ := Ge (P := X.prog) (w := X.w) c Y G
  exact ⟨_, _, fd, _, He.cls_ok (c.fact 41 (f := .he (.cls "History")) rfl), He.meth_ok (c.fact 53 (f := .he (.meth "History" "without")) rfl), F, B, (by show _ ∉ fld 1; decide +kernel), Nat.le_trans (by decide) hk⟩) .nil)⟩
theorem Jj (c : aP K) (Y : K.In base) (G : base.Ns mainGlobals mg) : Qn P w K mg base (T K) 4 CP "_law_refused" (defScope mF) (defBody mF) pZ := by
 intro f cdv A outer s H E hgu C
 exact (aK (uL C 3 Ca)
  (aK (uL C 4 (qR aH))
  (aK (abV C 5 rfl rfl rfl rfl ⟨rfl, by decide, Or.inl (Fp c Y G)⟩ (PP c rfl) (fun W' pn xe C' => (aN (dG (eO (bA 2))
  (aN (nY C' 3 (Nh (j := 3) C' (by decide) (nA (P := P) c Y G (by decide) rfl rfl rfl rfl rfl) (ao 0) (ao 1))))
  (aN (nY C' 3 (Il C' (Lw (P := P) c Y G (by decide) rfl rfl rfl rfl rfl) (ao 0) (ak (ao 1) aH)))))))
  (fun a oe cls dd pn y S_ => (aas (abR S_.mon C.nd 4 S_.st (adh (abQ (Ug S_.mon (adi S_ (Zb c rfl)) (Ug S_.mon (abO S_.mon (WQ S_ (Xu c) (Yb (QX (c := 3) (PB c Y G))) (gQ c Y G)) (abM (abN (WQ S_ (Xu c) (Yb (QX (c := 4) (Xq c Y G))) (gQ c Y G))))) abP))))))))
  (aN (s_ret (cR (pH (jx abm (ao 3) Ca) (pH (jx (cmp_eq C) (iZ (bA 4) (iJ c Y G)) (dR aA)) (pH (cH 4 aA) (vQ (jx (cmp_eq C) (RG hgu C (cH 4 aA) (Va c Y G)) (dR (RG hgu C (ao 1) (Va c Y G))))))))))))))
theorem Ly (c : aP K) (Y : K.In base) (G : base.Ns mainGlobals mg) : ∃ fd : FuncData, Yq P w K mg base (T K) 5 (xf.adr K) fd wZ di ∧ Bn K (T K) fd wZ 3 [] (aq []) := by
 obtain ⟨fd, F⟩ := c.def_ 25 (d := xf) rfl
 exact ⟨fd, ⟨fn_simZ F KR (Jj c Y G), F.kp⟩, (fB (FunD.bindsN F fun _ _ _ _ _ _ us hl => match us, hl with | [_, _, _], _ => (by kernel_rfl)))⟩
theorem Oh (c : aP K) (Y : K.In base) (G : base.Ns mainGlobals mg) : Does P w K mg base (T K) 2 Jw "_law_many" (defScope rJ) (defBody rJ) uR := by
 obtain ⟨fd__law_draw, F__law_draw, B__law_draw_0⟩ := qj (P := P) (w := w) c Y G
 obtain ⟨fd__law_of, F__law_of, B__law_of_0⟩ := Ew (P := P) (w := w) c Y G
 intro f cdv A outer s H E C
 exact (aN (s_ret (aZ C F__law_draw (by decide) B__law_draw_0 (d8 c Y G) (ak (ao 0) (ak (bz (aZ C F__law_of (by decide) B__law_of_0 (wC c Y G) (ak (ao 0) (ak (bz (jL (ak aA (ak aA (ak aA (ak aA (ak aA (ak aA (ak aA (ak aA aH)))))))))) aH)))) aH)))))
theorem Ss (c : aP K) (Y : K.In base) (G : base.Ns mainGlobals mg) : ∃ fd : FuncData, jM P w K mg base (T K) 3 (Bw.adr K) fd Bv oW ∧ Bn K (T K) fd Bv 1 [] (aq []) := by
 obtain ⟨fd, F⟩ := c.def_ 26 (d := Bw) rfl
 exact ⟨fd, ⟨gG F Rp (Oh c Y G), F.kp⟩, (fB (FunD.bindsN F fun _ _ _ _ _ _ us hl => match us, hl with | [_], _ => (by kernel_rfl)))⟩
theorem mQ (c : aP K) (Y : K.In base) (G : base.Ns mainGlobals mg) {X : Cx} {k : Nat} (hk : 3 ≤ k) (hP : X.prog = P) (hw : X.w = w) (hK : X.K = K) (hm : X.mg = mg) (hb : X.base = base) : ph X (T K) k "__contains__" bY 1 [] (aq []) := by
 subst hP hw hK hm hb
 exact ⟨cA (.cons (by
  obtain ⟨fd, F, B⟩ := zX (P := X.prog) (w := X.w) c Y G
  exact ⟨_, _, fd, _, He.cls_ok (c.fact 41 (f := .he (.cls "History")) rfl), He.meth_ok (c.fact 54 (f := .he (.meth "History" "__contains__")) rfl), F, B, (by show _ ∉ fld 1; decide +kernel), Nat.le_trans (by decide) hk⟩) .nil)⟩
theorem Lz (c : aP K) (Y : K.In base) (G : base.Ns mainGlobals mg) : Qn P w K mg base (T K) 8 Hf "_law_right" (defScope pM) (defBody pM) tZ := by
 obtain ⟨fd_History____init__, F_History____init__⟩ := lV (P := P) (w := w) c Y G
 obtain ⟨fd__law_as_lives, F__law_as_lives, B__law_as_lives_0⟩ := Kc (P := P) (w := w) c Y G
 obtain ⟨fd__law_draw, F__law_draw, B__law_draw_0⟩ := qj (P := P) (w := w) c Y G
 obtain ⟨fd__law_history, F__law_history, B__law_history_0⟩ := Ls (P := P) (w := w) c Y G
 obtain ⟨fd__law_life, F__law_life, B__law_life_0⟩ := Sd (P := P) (w := w) c Y G
 obtain ⟨fd__law_made, F__law_made, B__law_made_0⟩ := zW (P := P) (w := w) c Y G
 obtain ⟨fd__law_many, F__law_many, B__law_many_0⟩ := Ss (P := P) (w := w) c Y G
 obtain ⟨fd__law_of, F__law_of, B__law_of_0⟩ := Ew (P := P) (w := w) c Y G
 obtain ⟨fd__law_refused, F__law_refused, B__law_refused_0⟩ := Ly (P := P) (w := w) c Y G
 intro f cdv A outer s H E hgu C
 exact (aK (Yn C 2 [("_law_turn", 10)] (Ij (bz (aZ C F__law_many (by decide) B__law_many_0 (R5 c Y G) (ak (ao 0) aH))) (vz c Y G)) (by decide) (fun _ _ _ _ _ => (fM (Cq.blk C) 10)) (fun _ _ _ _ _ => M3) (fun _ _ _ _ _ => (bz (aZ (Cq.blk C) F__law_life (by decide) B__law_life_0 (Hr c Y G) (ak (ao 0) (ak (ao 1) aH))))) (blkOk_by rfl) (sw_true rfl rfl rfl rfl))
  (aK (dG (qm (Qz (dZ (Us C) (ao 2) (dY (jL aH))) (MJ (dZ (cmp_eq C) (bz (aZ C F__law_draw (by decide) B__law_draw_0 (d8 c Y G) (ak (ao 0) (ak aA aH)))) (dR aA)))))
  (aN (za (wR 2 (bz (aZ C F__law_of (by decide) B__law_of_0 (wC c Y G) (ak (ao 0) (ak (ao 2) aH)))))))
  cV)
  (aK (nY C 3 (aZ C F__law_history (by decide) B__law_history_0 (Lp c Y G) (ak (ao 2) (ak (ao 1) aH))))
  (aK (dG (dF (eO (dY (aZ C F__law_as_lives (by decide) B__law_as_lives_0 (qP c Y G) (ak (ao 3) (ak (ao 2) (ak (ao 1) aH)))))))
  (aN (s_ret (cR gh)))
  cV)
  (aK (nY C 4 (aZ C F__law_life (by decide) B__law_life_0 (Hr c Y G) (ak (ao 0) (ak (ao 1) aH))))
  (aK (dG (dZ (Cg C) (Ui (Uj (j := 3) C (by decide) (mQ (P := P) c Y G (by decide) rfl rfl rfl rfl rfl)) (bz (aZ C F__law_made (by decide) B__law_made_0 (qb c Y G) (ak (ao 4) (ak (ao 1) aH)))) (ao 3)) (dR (jx (aaz C) (ao 4) (bA 2))))
  (aN (s_ret (cR gh)))
  cV)
  (aK (vR C (uK (qR (ak (bz (aZ C F__law_of (by decide) B__law_of_0 (wC c Y G) (ak (ao 0) (ak (bz (jL (ak Ca (ak gh (ak aA (ak vM (ak (bz (jL aH)) (ak (qR aH) aH)))))))) aH)))) (ak (bz (aZ C F__law_of (by decide) B__law_of_0 (wC c Y G) (ak (ao 0) (ak (bz (jL (ak (ao 4) (ak (bz (jL (ak (ao 4) aH))) (ak (bz (wO (dR (cH 4 aA)) (qd c Y G))) aH))))) aH)))) aH)))) (fM C 5)
  (aN (dG (dZ Yl (Ui (Uj (j := 3) C (by decide) (mQ (P := P) c Y G (by decide) rfl rfl rfl rfl rfl)) (ao 5) (ao 3)) gh)
  (aN (s_ret (cR gh)))
  cV)))
  (aK (vR C (Ij (iZ (bA 2) (iJ c Y G)) (vz c Y G)) (fM C 6)
  (aN (dG (qm (qp (dF (Ir (Nm (j := 1) C (by decide) (sr (P := P) c Y G (by decide) rfl rfl rfl rfl rfl) (rZ c rfl)) (bz (Nh (j := 3) C (by decide) (nA (P := P) c Y G (by decide) rfl rfl rfl rfl rfl) (ao 3) (ao 6))) (bz (aZ C F__law_made (by decide) B__law_made_0 (qb c Y G) (ak (cH 2 (ao 6)) (ak (ao 1) aH)))))) (qQ (Ir (Ye (j := 3) C (by decide) (mQ (P := P) c Y G (by decide) rfl rfl rfl rfl rfl)) (bz (Nh (j := 3) C (by decide) (nA (P := P) c Y G (by decide) rfl rfl rfl rfl rfl) (ao 3) (ao 6))) (ao 3)))))
  (aN (s_ret (cR gh)))
  cV)))
  (aK (vR C (uK (qR (ak (iZ (bA 2) (iJ c Y G)) (ak (Ce aA) (ak (bz (ie (iZ (bA 2) (iJ c Y G)) (bz (aZ C F__law_draw (by decide) B__law_draw_0 (d8 c Y G) (ak (ao 0) (ak (yV aA aA) aH)))))) (ak Ca (ak gh (ak gh (ak vM (ak (qR (ak aA aH)) (ak (bz (jL (ak aA aH))) (ak (yV aA aA) aH)))))))))))) (fM C 5)
  (aN (dG (qm (qp (dF (eO (dY (zK hgu C F__law_refused (by decide) B__law_refused_0 (sW c Y G) (ak (ao 3) (ak (ao 5) (ak gh aH))))))) (qQ (dF (eO (dY (zK hgu C F__law_refused (by decide) B__law_refused_0 (sW c Y G) (ak (ao 3) (ak (ao 5) (ak gh aH))))))))))
  (aN (s_ret (cR gh)))
  cV)))
  (aK (dG (dZ (aaA C) (ao 2) (dY (jL aH)))
  (aN (s_ret (cR gh)))
  cV)
  (aK (nY C 6 (aZ C F__law_draw (by decide) B__law_draw_0 (d8 c Y G) (ak (ao 0) (ak (iZ (bA 2) (iJ c Y G)) aH))))
  (aK (nY C 7 (Il C (Lw (P := P) c Y G (by decide) rfl rfl rfl rfl rfl) (ao 3) (ak (ao 6) aH)))
  (aK (dG (qm (qp (dF (eO (dY (aZ C F__law_as_lives (by decide) B__law_as_lives_0 (qP c Y G) (ak (ao 7) (ak (bz (ie (bz (T7 2 Ig (Ih (ao 6)))) (bz (T7 2 (Ih (bz (ie (ao 6) aA))) Ig)))) (ak (ao 1) aH))))))) (qQ (dF (eO (dY (aZ C F__law_as_lives (by decide) B__law_as_lives_0 (qP c Y G) (ak (ao 3) (ak (ao 2) (ak (ao 1) aH))))))))))
  (aN (s_ret (cR gh)))
  cV)
  (aK (dG (qm (qp (dF (eO (dY (zK hgu C F__law_refused (by decide) B__law_refused_0 (sW c Y G) (ak (ao 3) (ak (JQ (ao 6) (Dg c Y G)) (ak gh aH))))))) (qQ (dF (eO (dY (zK hgu C F__law_refused (by decide) B__law_refused_0 (sW c Y G) (ak (ao 3) (ak (JQ (ao 6) (Dg c Y G)) (ak gh aH))))))))))
  (aN (s_ret (cR gh)))
  cV)
  (aK (abu C 8 9 (vh (aZ C F__law_made (by decide) B__law_made_0 (qb c Y G) (ak (cH 2 aA) (ak (ao 1) aH))) (vh (aZ C F__law_made (by decide) B__law_made_0 (qb c Y G) (ak (cH 2 (Ce aA)) (ak (ao 1) aH))) T9)))
  (aN (s_ret (aZ C F__law_as_lives (by decide) B__law_as_lives_0 (qP c Y G) (ak (bz (O6 C F_History____init__ rfl (by decide) (by decide) (wB c Y G) (ak (ao 9) (ak (ao 8) (ak (ao 9) aH))) (rB (ao 1) Ck))) (ak (bz (jL (ak (cH 2 (Ce aA)) (ak (cH 2 aA) (ak (cH 2 (Ce aA)) aH))))) (ak (ao 1) aH)))))))))))))))))))))
theorem P0 (c : aP K) (Y : K.In base) (G : base.Ns mainGlobals mg) : ∃ fd : FuncData, Yq P w K mg base (T K) 9 (zG.adr K) fd zF ue ∧ Bn K (T K) fd zF 2 [] (aq []) := by
 obtain ⟨fd, F⟩ := c.def_ 27 (d := zG) rfl
 exact ⟨fd, ⟨fn_simZ F Pr (Lz c Y G), F.kp⟩, (fB (FunD.bindsN F fun _ _ _ _ _ _ us hl => match us, hl with | [_, _], _ => (by kernel_rfl)))⟩
theorem Zd (c : aP K) (Y : K.In base) (G : base.Ns mainGlobals mg) : Qn P w K mg base (T K) 9 Zz "law" (defScope Iu) (defBody Iu) VM := by
 obtain ⟨fd__law_draw, F__law_draw, B__law_draw_0⟩ := qj (P := P) (w := w) c Y G
 obtain ⟨fd__law_right, F__law_right, B__law_right_0⟩ := P0 (P := P) (w := w) c Y G
 obtain ⟨fd__law_source, F__law_source, B__law_source_0⟩ := N6 (P := P) (w := w) c Y G
 intro f cdv A outer s H E hgu C
 exact (aK (vR C (Ij (Z9 C aA (aaa C aA (iZ (bA 0) (iJ c Y G)) (acX c Y G)) (acY c Y G)) (vz c Y G)) (fM C 1)
  (aK (uL C 2 (aaf (aZ C F__law_source (by decide) B__law_source_0 (NZ c Y G) (ak (ao 0) (ak (ao 1) aH)))))
  (aN (dG (dF (eO (dY (zK hgu C F__law_right (by decide) B__law_right_0 (PL c Y G) (ak (ao 2) (ak (bz (ie aA (bz (aZ C F__law_draw (by decide) B__law_draw_0 (d8 c Y G) (ak (ao 2) (ak aA aH)))))) aH))))))
  (aN (s_ret (cR gh)))
  cV))))
  (aN (s_ret (cR gh))))
end
end L
namespace L
open PySem PySem.Spec L2 Pk GenP
theorem BV {fr : Fr} {h : Hh} {Q : Fl → Fr → Hh → Prop} {E : aW → Fr → Hh → Prop} : Wp (j6 fr h) Q E = Wp ((
 (aU (aD yW (aF (bR bH) (aG 3)) (aG 1))
 (fun _ _ => .err)
 (M.ret .nx))) fr h) Q E := congrArg (fun m => Wp (m fr h) Q E) j6.eq_1
theorem BW {fr : Fr} {h : Hh} {Q : Fl → Fr → Hh → Prop} {E : aW → Fr → Hh → Prop} : Wp (j7 fr h) Q E = Wp ((
 (aC (jO 0 bH (aa 1))
 (jO 0 bf (aF uI (aG 2))))) fr h) Q E := congrArg (fun m => Wp (m fr h) Q E) j7.eq_1
theorem Gf {fr : Fr} {h : Hh} {Q : Fl → Fr → Hh → Prop} {E : aW → Fr → Hh → Prop} : Wp (jN fr h) Q E = Wp ((
 (aC (d9 (sY (aa 2)) (bM 3) j6)
 j7)) fr h) Q E := congrArg (fun m => Wp (m fr h) Q E) jN.eq_1
theorem Do {fr : Fr} {h : Hh} {Q : Fl → Fr → Hh → Prop} {E : aW → Fr → Hh → Prop} : Wp (lE fr h) Q E = Wp ((
 (aC (bh 2 (aD bL (aF (bR bf) (aG 0)) (aF (bR bf) (aG 1))))
 (aO (Ak 1 bQ (aa 2) (aj [(aF (bR bH) (aG 0))]))))) fr h) Q E := congrArg (fun m => Wp (m fr h) Q E) lE.eq_1
theorem Hv {fr : Fr} {h : Hh} {Q : Fl → Fr → Hh → Prop} {E : aW → Fr → Hh → Prop} : Wp (kE fr h) Q E = Wp ((
 (aC (aU (aD yW (aF (bR bH) (aG 0)) (aF (bR bH) (aG 1)))
 (fun _ _ => .err)
 (M.ret .nx))
 lE)) fr h) Q E := congrArg (fun m => Wp (m fr h) Q E) kE.eq_1
theorem Hz {fr : Fr} {h : Hh} {Q : Fl → Fr → Hh → Prop} {E : aW → Fr → Hh → Prop} : Wp (pN fr h) Q E = Wp ((
 (aO (dU (aD (j9 il) (aa 0) (mC (.ty "int"))) (xM (aD (j9 il) (aa 0) (mC (.ty "bool"))))))) fr h) Q E := congrArg (fun m => Wp (m fr h) Q E) pN.eq_1
theorem Jk {fr : Fr} {h : Hh} {Q : Fl → Fr → Hh → Prop} {E : aW → Fr → Hh → Prop} : Wp (pB fr h) Q E = Wp ((
 (bh 2 (M8 wu (aa 2) (aM (au 1 1 bQ lN (aj [(aM (au 2 0 dD (aq []) (aj [(aa 3), (aa 1)]) (aj [])))]) (aj [(aa 1)])))))) fr h) Q E := congrArg (fun m => Wp (m fr h) Q E) pB.eq_1
theorem Jl {fr : Fr} {h : Hh} {Q : Fl → Fr → Hh → Prop} {E : aW → Fr → Hh → Prop} : Wp (pC fr h) Q E = Wp ((
 (aC (zH (Nv (aa 0)) (bM 3) pB)
 (aO (su 2)))) fr h) Q E := congrArg (fun m => Wp (m fr h) Q E) pC.eq_1
theorem Oi {fr : Fr} {h : Hh} {Q : Fl → Fr → Hh → Prop} {E : aW → Fr → Hh → Prop} : Wp (pP fr h) Q E = Wp ((
 (aC (bh 2 (au 0 1 bQ lN (aj []) (aj [(aa 1)])))
 pC)) fr h) Q E := congrArg (fun m => Wp (m fr h) Q E) pP.eq_1
theorem Xv {fr : Fr} {h : Hh} {Q : Fl → Fr → Hh → Prop} {E : aW → Fr → Hh → Prop} : Wp (tX fr h) Q E = Wp ((
 (aO (bj 1 (aM (au 2 0 bJ (aq []) (aj [(aa 0), (aF bW (aG 1))]) (aj []))) bF))) fr h) Q E := congrArg (fun m => Wp (m fr h) Q E) tX.eq_1
theorem HF {fr : Fr} {h : Hh} {Q : Fl → Fr → Hh → Prop} {E : aW → Fr → Hh → Prop} : Wp (kJ fr h) Q E = Wp ((
 (aO (aF bW (aF (bR bf) (aG 0))))) fr h) Q E := congrArg (fun m => Wp (m fr h) Q E) kJ.eq_1
theorem fZ {fr : Fr} {h : Hh} {Q : Fl → Fr → Hh → Prop} {E : aW → Fr → Hh → Prop} : Wp (lF fr h) Q E = Wp ((
 (aC (bh 2 (dU (aD (fun h x y => (fY h x y).map .bl) (aF (bR bH) (aG 0)) (aF (bR bH) (aG 1))) (dU (aD (fun h x y => (fY h x y).map .bl) (aF (bR qC) (aG 0)) (aF (bR qC) (aG 1))) (aD (fun h x y => (fY h x y).map .bl) (aF (bR oE) (aG 0)) (aF (bR oE) (aG 1))))))
 (aO (dU (aa 2) (dU (aD (fun h x y => (fY h x y).map .bl) (aF (bR j5) (aG 0)) (aF (bR j5) (aG 1))) (dU (aD (fun h x y => (fY h x y).map .bl) (aF (bR qD) (aG 0)) (aF (bR qD) (aG 1))) (aD (fun h x y => (fY h x y).map .bl) (aF (bR uo) (aG 0)) (aF (bR uo) (aG 1))))))))) fr h) Q E := congrArg (fun m => Wp (m fr h) Q E) lF.eq_1
theorem gM {fr : Fr} {h : Hh} {Q : Fl → Fr → Hh → Prop} {E : aW → Fr → Hh → Prop} : Wp (kW fr h) Q E = Wp ((
 (aC (aU (bV (aF D.tru (aD (j9 il) (aa 1) (mC (.cls 0)))))
 (aO (mC (.bl false)))
 (M.ret .nx))
 lF)) fr h) Q E := congrArg (fun m => Wp (m fr h) Q E) kW.eq_1
theorem HH {d : D} {fr : Fr} {h : Hh} {Q : Unit → Fr → Hh → Prop} {E : aW → Fr → Hh → Prop} : Wp (kY d fr h) Q E = Wp ((
 (bM 4)) d fr h) Q E := congrArg (fun m => Wp (m d fr h) Q E) kY.eq_1
theorem HJ {fr : Fr} {h : Hh} {Q : Bool → Fr → Hh → Prop} {E : aW → Fr → Hh → Prop} : Wp (kZ fr h) Q E = Wp ((
 (bV (rW (Cz cQ (fun b => b)) (aD bF (aF (bR bf) (aG 0)) (aa 4)) (aM (au 2 0 dD (aq []) (aj [(bj 1 (aa 4) bF), (aa 2)]) (aj [])))))) fr h) Q E := congrArg (fun m => Wp (m fr h) Q E) kZ.eq_1
theorem yf {fr : Fr} {h : Hh} {Q : Fl → Fr → Hh → Prop} {E : aW → Fr → Hh → Prop} : Wp (oF fr h) Q E = Wp ((
 (aC (bh 3 (uN [4] (sG (aF bW (aG 1))) kY kZ tY))
 (aO (dU (aD (fun h x y => (fY h x y).map .bl) (aa 3) (dC [])) (aD (fun h x y => (fY h x y).map .bl) (CG fU (aa 0)) (aD (fun h x y => (BJ h x y).map .bl) (aa 1) (dC []))))))) fr h) Q E := congrArg (fun m => Wp (m fr h) Q E) oF.eq_1
theorem Ay {fr : Fr} {h : Hh} {Q : Fl → Fr → Hh → Prop} {E : aW → Fr → Hh → Prop} : Wp (oG fr h) Q E = Wp ((
 (aC (aU (iD (aD yW (aF (bR bH) (aG 0)) (aG 2)) (iD (bV (aF D.tru (aD (j9 il) (aF (bR bf) (aG 0)) (mC (.ty "tuple"))))) (aD yW (Ip fU (aa 0)) (aF bW (aG 1)))))
 (aO (mC (.bl false)))
 (M.ret .nx))
 oF)) fr h) Q E := congrArg (fun m => Wp (m fr h) Q E) oG.eq_1
theorem qY {d : D} {fr : Fr} {h : Hh} {Q : Unit → Fr → Hh → Prop} {E : aW → Fr → Hh → Prop} : Wp (fH d fr h) Q E = Wp ((
 (bM 2)) d fr h) Q E := congrArg (fun m => Wp (m d fr h) Q E) fH.eq_1
theorem qZ {fr : Fr} {h : Hh} {Q : Bool → Fr → Hh → Prop} {E : aW → Fr → Hh → Prop} : Wp (fJ fr h) Q E = Wp ((
 (rW (Cz cQ (fun b => b)) (aa 2) (aa 1))) fr h) Q E := congrArg (fun m => Wp (m fr h) Q E) fJ.eq_1
theorem yF {fr : Fr} {h : Hh} {Q : D → Fr → Hh → Prop} {E : aW → Fr → Hh → Prop} : Wp (fK fr h) Q E = Wp ((
 (aa 2)) fr h) Q E := congrArg (fun m => Wp (m fr h) Q E) fK.eq_1
theorem Af {fr : Fr} {h : Hh} {Q : Fl → Fr → Hh → Prop} {E : aW → Fr → Hh → Prop} : Wp (ir fr h) Q E = Wp ((
 (aO (aF uP (aD (fun h x y => (TJ h x y).map .bl) (aF bW (uN [2] (sY (aF (bR bf) (aG 0))) fH fJ fK)) (mC (.int 0)))))) fr h) Q E := congrArg (fun m => Wp (m fr h) Q E) ir.eq_1
theorem mU {fr : Fr} {h : Hh} {Q : Fl → Fr → Hh → Prop} {E : aW → Fr → Hh → Prop} : Wp (mJ fr h) Q E = Wp ((
 (aC (aU (iD (bV (aF D.tru (au 1 0 dN (aq []) (aj [(aa 1)]) (aj [])))) (bV (ig Gp Jo (mC (.int 0)) (aa 1) (aF bW (aF (bR bf) (aG 0))))))
 (Cr 2 1 lY (aj [(aa 1)]))
 (M.ret .nx))
 (aO (su 1)))) fr h) Q E := congrArg (fun m => Wp (m fr h) Q E) mJ.eq_1
theorem Dq {fr : Fr} {h : Hh} {Q : Fl → Fr → Hh → Prop} {E : aW → Fr → Hh → Prop} : Wp (lG fr h) Q E = Wp ((
 (aC (bh 3 (aD bL (aM (Gv (aF (bR bf) (aG 0)) Gu (Ci (aa 2)))) (aM (Gv (aF (bR bf) (aG 0)) (Ci (aM (aD bL (aa 2) (mC (.int 1))))) Gu))))
 (aO (Ak 1 bQ (aa 3) (aj [(aF (bR bH) (aG 0))]))))) fr h) Q E := congrArg (fun m => Wp (m fr h) Q E) lG.eq_1
theorem yg {fr : Fr} {h : Hh} {Q : Fl → Fr → Hh → Prop} {E : aW → Fr → Hh → Prop} : Wp (lu fr h) Q E = Wp ((
 (aC (bh 2 (uZ 1 0 oV (aq []) (aa 0) (aj [(aa 1)]) (aj [])))
 lG)) fr h) Q E := congrArg (fun m => Wp (m fr h) Q E) lu.eq_1
theorem uU {fr : Fr} {h : Hh} {Q : Fl → Fr → Hh → Prop} {E : aW → Fr → Hh → Prop} : Wp (iI fr h) Q E = Wp ((
 (aO (aD bF (aF (bR bf) (aG 0)) (aM (uZ 1 0 oV (aq []) (aa 0) (aj [(aa 1)]) (aj [])))))) fr h) Q E := congrArg (fun m => Wp (m fr h) Q E) iI.eq_1
theorem yH {fr : Fr} {h : Hh} {Q : Fl → Fr → Hh → Prop} {E : aW → Fr → Hh → Prop} : Wp (pD fr h) Q E = Wp ((
 (aU (aF D.tru (aG 2))
 (bh 3 (xO cO (aa 0) (aa 1)))
 (bh 3 (uZ 1 0 qM (aq []) (aa 0) (aj [(aa 1)]) (aj []))))) fr h) Q E := congrArg (fun m => Wp (m fr h) Q E) pD.eq_1
theorem yI {fr : Fr} {h : Hh} {Q : Fl → Fr → Hh → Prop} {E : aW → Fr → Hh → Prop} : Wp (pF fr h) Q E = Wp ((
 (aC (Ed 5 sJ pD (fun y => (bh 4 (gA [(Ra Qp y), (dU (G3 zQ y.c (mC (.cls 3))) (xM (G3 zQ y.c (mC (.cls 4)))))]))))
 (aO (dU (aD (fun h x y => (TY h x y).map .bl) (aa 3) (mC .non)) (dU (aD (fun h x y => (fY h x y).map .bl) (aF bW (aG 4)) (mC (.int 2))) (dU (bj 4 (mC (.int 1)) bF) (aD (fun h x y => (fY h x y).map .bl) (aF ye (bj 4 (mC (.int 0)) bF)) (aF ye (aa 1))))))))) fr h) Q E := congrArg (fun m => Wp (m fr h) Q E) pF.eq_1
theorem yJ {fr : Fr} {h : Hh} {Q : Fl → Fr → Hh → Prop} {E : aW → Fr → Hh → Prop} : Wp (pG fr h) Q E = Wp ((
 (aC (bh 4 (gA []))
 pF)) fr h) Q E := congrArg (fun m => Wp (m fr h) Q E) pG.eq_1
theorem Dr {fr : Fr} {h : Hh} {Q : Fl → Fr → Hh → Prop} {E : aW → Fr → Hh → Prop} : Wp (pZ fr h) Q E = Wp ((
 (aC (bh 3 (mC .non))
 pG)) fr h) Q E := congrArg (fun m => Wp (m fr h) Q E) pZ.eq_1
theorem Tt {fr : Fr} {h : Hh} {Q : Fl → Fr → Hh → Prop} {E : aW → Fr → Hh → Prop} : Wp (uR fr h) Q E = Wp ((
 (aO (au 2 0 bJ (aq []) (aj [(aa 0), (aM (au 2 0 eU (aq []) (aj [(aa 0), (aM (dC [(mC (.int 2)), (mC (.int 4)), (mC (.int 4)), (mC (.int 4)), (mC (.int 7)), (mC (.int 7)), (mC (.int 7)), (mC (.int 31))]))]) (aj [])))]) (aj [])))) fr h) Q E := congrArg (fun m => Wp (m fr h) Q E) uR.eq_1
theorem LC {d : D} {fr : Fr} {h : Hh} {Q : Unit → Fr → Hh → Prop} {E : aW → Fr → Hh → Prop} : Wp (jy d fr h) Q E = Wp ((
 (bM 10)) d fr h) Q E := congrArg (fun m => Wp (m d fr h) Q E) jy.eq_1
theorem LK {fr : Fr} {h : Hh} {Q : Bool → Fr → Hh → Prop} {E : aW → Fr → Hh → Prop} : Wp (jA fr h) Q E = Wp ((
 (M.ret true)) fr h) Q E := congrArg (fun m => Wp (m fr h) Q E) jA.eq_1
theorem LQ {fr : Fr} {h : Hh} {Q : D → Fr → Hh → Prop} {E : aW → Fr → Hh → Prop} : Wp (jB fr h) Q E = Wp ((
 (aM (au 2 0 eE (aq []) (aj [(aa 0), (aa 1)]) (aj [])))) fr h) Q E := congrArg (fun m => Wp (m fr h) Q E) jB.eq_1
theorem LR {fr : Fr} {h : Hh} {Q : Fl → Fr → Hh → Prop} {E : aW → Fr → Hh → Prop} : Wp (sO fr h) Q E = Wp ((
 (aU (aD KY (Ow (rW (G5 bY fun b => b) (aa 5) (aa 3))) (mC (.bl false)))
 (aO (mC (.bl false)))
 (M.ret .nx))) fr h) Q E := congrArg (fun m => Wp (m fr h) Q E) sO.eq_1
theorem Ma {fr : Fr} {h : Hh} {Q : Fl → Fr → Hh → Prop} {E : aW → Fr → Hh → Prop} : Wp (lH fr h) Q E = Wp ((
 (aU (iD (bV (rW (Cz cQ (fun b => b)) (aM (xO cO (aa 3) (aa 6))) (aM (au 2 0 dD (aq []) (aj [(bj 2 (aa 6) bF), (aa 1)]) (aj []))))) (rW (G5 bY fun b => !b) (aM (xO cO (aa 3) (aa 6))) (aa 3)))
 (aO (mC (.bl false)))
 (M.ret .nx))) fr h) Q E := congrArg (fun m => Wp (m fr h) Q E) lH.eq_1
theorem Mg {fr : Fr} {h : Hh} {Q : Fl → Fr → Hh → Prop} {E : aW → Fr → Hh → Prop} : Wp (lJ fr h) Q E = Wp ((
 (aU (iD (bV (aF D.tru (au 3 0 di (aq []) (aj [(aa 3), (aa 5), (mC (.bl true))]) (aj [])))) (bV (aF D.tru (au 3 0 di (aq []) (aj [(aa 3), (aa 5), (mC (.bl false))]) (aj [])))))
 (aO (mC (.bl false)))
 (M.ret .nx))) fr h) Q E := congrArg (fun m => Wp (m fr h) Q E) lJ.eq_1
theorem Ke {fr : Fr} {h : Hh} {Q : Fl → Fr → Hh → Prop} {E : aW → Fr → Hh → Prop} : Wp (mK fr h) Q E = Wp ((
 (aC (uY [8, 9] (aj [(au 2 0 dD (aq []) (aj [(bj 2 (mC (.int 0)) bF), (aa 1)]) (aj [])), (au 2 0 dD (aq []) (aj [(bj 2 (aF (fun _ => sX) (mC (.int 1))) bF), (aa 1)]) (aj []))]))
 (aO (au 3 0 du (aq []) (aj [(aM (au 3 1 bQ lN (aj [(aa 9), (aa 8), (aa 9)]) (aj [(aa 1)]))), (aM (dC [(bj 2 (aF (fun _ => sX) (mC (.int 1))) bF), (bj 2 (mC (.int 0)) bF), (bj 2 (aF (fun _ => sX) (mC (.int 1))) bF)])), (aa 1)]) (aj []))))) fr h) Q E := congrArg (fun m => Wp (m fr h) Q E) mK.eq_1
theorem Kg {fr : Fr} {h : Hh} {Q : Fl → Fr → Hh → Prop} {E : aW → Fr → Hh → Prop} : Wp (qN fr h) Q E = Wp ((
 (aC (aU (iD (bV (aF D.tru (au 3 0 du (aq []) (aj [(aa 7), (aM (aD bL (aM (bj 2 (xN Gu (Ci (aa 6))) oN)) (aM (bj 2 (xN (Ci (aM (aD bL (aa 6) (mC (.int 1))))) Gu) oN)))), (aa 1)]) (aj [])))) (bV (aF D.tru (au 3 0 du (aq []) (aj [(aa 3), (aa 2), (aa 1)]) (aj [])))))
 (aO (mC (.bl false)))
 (M.ret .nx))
 vq)) fr h) Q E := congrArg (fun m => Wp (m fr h) Q E) qN.eq_1
theorem Kh {fr : Fr} {h : Hh} {Q : Fl → Fr → Hh → Prop} {E : aW → Fr → Hh → Prop} : Wp (qO fr h) Q E = Wp ((
 (aC (bh 7 (uZ 1 0 qM (aq []) (aa 3) (aj [(aa 6)]) (aj [])))
 qN)) fr h) Q E := congrArg (fun m => Wp (m fr h) Q E) qO.eq_1
theorem Kl {fr : Fr} {h : Hh} {Q : Fl → Fr → Hh → Prop} {E : aW → Fr → Hh → Prop} : Wp (mO fr h) Q E = Wp ((
 (aC (bh 6 (au 2 0 bJ (aq []) (aj [(aa 0), (aF bW (aG 2))]) (aj [])))
 qO)) fr h) Q E := congrArg (fun m => Wp (m fr h) Q E) mO.eq_1
theorem Az {fr : Fr} {h : Hh} {Q : Fl → Fr → Hh → Prop} {E : aW → Fr → Hh → Prop} : Wp (oH fr h) Q E = Wp ((
 (aC (bh 4 (au 2 0 eE (aq []) (aj [(aa 0), (aa 1)]) (aj [])))
 wz)) fr h) Q E := congrArg (fun m => Wp (m fr h) Q E) oH.eq_1
theorem Mh {fr : Fr} {h : Hh} {Q : Fl → Fr → Hh → Prop} {E : aW → Fr → Hh → Prop} : Wp (oJ fr h) Q E = Wp ((
 (aC (bh 3 (au 2 0 mG (aq []) (aj [(aa 2), (aa 1)]) (aj [])))
 wA)) fr h) Q E := congrArg (fun m => Wp (m fr h) Q E) oJ.eq_1
theorem Sv {fr : Fr} {h : Hh} {Q : Fl → Fr → Hh → Prop} {E : aW → Fr → Hh → Prop} : Wp (tZ fr h) Q E = Wp ((
 (aC (bh 2 (vU (uN [10] (sG (aM (au 1 0 oW (aq []) (aj [(aa 0)]) (aj [])))) jy jA jB)))
 oK)) fr h) Q E := congrArg (fun m => Wp (m fr h) Q E) tZ.eq_1
theorem Ze {fr : Fr} {h : Hh} {Q : Fl → Fr → Hh → Prop} {E : aW → Fr → Hh → Prop} : Wp (Et fr h) Q E = Wp ((
 (aC (bh 2 (vU (au 2 0 jE (aq []) (aj [(aa 0), (aa 1)]) (aj []))))
 (aU (bV (aF D.tru (au 2 0 ue (aq []) (aj [(aa 2), (aM (aD bL (mC (.int 2)) (aM (au 2 0 bJ (aq []) (aj [(aa 2), (mC (.int 3))]) (aj [])))))]) (aj []))))
 (aO (mC (.bl false)))
 (M.ret .nx)))) fr h) Q E := congrArg (fun m => Wp (m fr h) Q E) Et.eq_1
theorem Ey {ds : List D} {h : Hh} {Q : D → Fr → Hh → Prop} {E : aW → Fr → Hh → Prop} : Wp (bQ ds h) Q E = Wp (runI 1 4 jN ds h) Q E := congrArg (fun m => Wp (m ds h) Q E) bQ.eq_1
theorem Gg {ds : List D} {h : Hh} {Q : D → Fr → Hh → Prop} {E : aW → Fr → Hh → Prop} : Wp (jt ds h) Q E = Wp (bK 3 kE ds h) Q E := congrArg (fun m => Wp (m ds h) Q E) jt.eq_1
theorem Ft {ds : List D} {h : Hh} {Q : D → Fr → Hh → Prop} {E : aW → Fr → Hh → Prop} : Wp (dN ds h) Q E = Wp (bK 1 pN ds h) Q E := congrArg (fun m => Wp (m ds h) Q E) dN.eq_1
theorem Mi {ds : List D} {h : Hh} {Q : D → Fr → Hh → Prop} {E : aW → Fr → Hh → Prop} : Wp (mG ds h) Q E = Wp (bK 4 pP ds h) Q E := congrArg (fun m => Wp (m ds h) Q E) mG.eq_1
theorem V1 {ds : List D} {h : Hh} {Q : D → Fr → Hh → Prop} {E : aW → Fr → Hh → Prop} : Wp (eU ds h) Q E = Wp (bK 2 tX ds h) Q E := congrArg (fun m => Wp (m ds h) Q E) eU.eq_1
theorem Gh {ds : List D} {h : Hh} {Q : D → Fr → Hh → Prop} {E : aW → Fr → Hh → Prop} : Wp (gJ ds h) Q E = Wp (bK 1 kJ ds h) Q E := congrArg (fun m => Wp (m ds h) Q E) gJ.eq_1
theorem fV {ds : List D} {h : Hh} {Q : D → Fr → Hh → Prop} {E : aW → Fr → Hh → Prop} : Wp (cI ds h) Q E = Wp (bK 3 kW ds h) Q E := congrArg (fun m => Wp (m ds h) Q E) cI.eq_1
theorem zY {ds : List D} {h : Hh} {Q : D → Fr → Hh → Prop} {E : aW → Fr → Hh → Prop} : Wp (du ds h) Q E = Wp (bK 5 oG ds h) Q E := congrArg (fun m => Wp (m ds h) Q E) du.eq_1
theorem z7 {ds : List D} {h : Hh} {Q : D → Fr → Hh → Prop} {E : aW → Fr → Hh → Prop} : Wp (bU ds h) Q E = Wp (bK 3 ir ds h) Q E := congrArg (fun m => Wp (m ds h) Q E) bU.eq_1
theorem lM {ds : List D} {h : Hh} {Q : D → Fr → Hh → Prop} {E : aW → Fr → Hh → Prop} : Wp (dO ds h) Q E = Wp (bK 2 mJ ds h) Q E := congrArg (fun m => Wp (m ds h) Q E) dO.eq_1
theorem wL {ds : List D} {h : Hh} {Q : D → Fr → Hh → Prop} {E : aW → Fr → Hh → Prop} : Wp (eV ds h) Q E = Wp (bK 4 lu ds h) Q E := congrArg (fun m => Wp (m ds h) Q E) eV.eq_1
theorem uF {ds : List D} {h : Hh} {Q : D → Fr → Hh → Prop} {E : aW → Fr → Hh → Prop} : Wp (cU ds h) Q E = Wp (bK 2 iI ds h) Q E := congrArg (fun m => Wp (m ds h) Q E) cU.eq_1
theorem Ba {ds : List D} {h : Hh} {Q : D → Fr → Hh → Prop} {E : aW → Fr → Hh → Prop} : Wp (di ds h) Q E = Wp (bK 6 pZ ds h) Q E := congrArg (fun m => Wp (m ds h) Q E) di.eq_1
theorem Sw {ds : List D} {h : Hh} {Q : D → Fr → Hh → Prop} {E : aW → Fr → Hh → Prop} : Wp (oW ds h) Q E = Wp (bK 1 uR ds h) Q E := congrArg (fun m => Wp (m ds h) Q E) oW.eq_1
theorem jC : bH 0 = some 0 := by unfold bH; rfl
theorem Bb : bH 1 = some 0 := by unfold bH; rfl
theorem jY : bf 1 = some 1 := by unfold bf; rfl
theorem uf : qC 0 = some 1 := by unfold qC; rfl
theorem vf : oE 0 = some 2 := by unfold oE; rfl
theorem wD : j5 0 = some 3 := by unfold j5; rfl
theorem HQ : qD 0 = some 4 := by unfold qD; rfl
theorem Tu : uo 0 = some 5 := by unfold uo; rfl
theorem Oj : wu 1 = some jt := by unfold wu; rfl
theorem Sy : oV 1 = some dO := by unfold oV; rfl
end L
namespace L
open PySem PySem.Spec L2 Pk
def Src (h : Hh) (n : Nat) (C : Int) : Prop := ∃ a b c : Int, h[n]? = some (.nl [.int a, .int b, .int c]) ∧ 0 ≤ b ∧ b < 2 ^ 33 ∧ 0 ≤ c ∧ c ≤ C
theorem log2_lt {i : Int} {k : Nat} (h : i.natAbs < 2 ^ k) (hk : 0 < k) : i.natAbs.log2 < k := by
 by_cases h0 : i.natAbs = 0
 · rw [h0]; simpa using hk
 · exact (Nat.log2_lt h0).mpr h
theorem z8 {i j : Int} (h : 0 < j) : Vl i j = true := decide_eq_true h
theorem lW {h : Hh} {n : Nat} {C m : Int} (S : Src h n C) (hC : C ≤ 100000) (hm : 0 < m) (hl : m < 2 ^ 200) :
 ∃ r h', bJ [.ref n, .int m] h = .ok (.int r) [] h' ∧ Src h' n (C + 1) ∧ 0 ≤ r ∧ r < m := by
 obtain ⟨a, b, c, e, b0, b1, c0, c1⟩ := S
 have hn : n < h.length := (List.getElem?_eq_some_iff.mp e).1
 have hml : m.natAbs.log2 < 9000 := by
  refine Nat.lt_of_lt_of_le (log2_lt (k := 200) ?_ (by decide)) (by decide)
  omega
 by_cases ha : 0 < a
 · refine ⟨a % m, h.set n (.nl [.int (a / m), .int b, .int c]), ?_, ⟨a / m, b, c, by rw [ahp hn], b0, b1, c0, by omega⟩, Int.emod_nonneg _ (by omega), Int.emod_lt_of_pos _ hm⟩
   simp [bJ, bK, rO, pW, pU, pQ, startF, aC, aU, M.bind, M.ret, M.opt, aD, bj, fX, aG, mC, bF, D.its, D.der, e, atI, ixN, cInt, ha, bh, aF, sE, aa, D.own, dH, Vl, hm, DY, bG, zf, JD, hml, aO, su]
 · have z1 : (b + 32452843 * (c + 1)).natAbs < 2 ^ 64 := by omega
   generalize hx : (b + 32452843 * (c + 1)) ^ 3 % 2305843009213693921 = x
   have hx0 : 0 ≤ x := by rw [← hx]; exact Int.emod_nonneg _ (by decide)
   have hx1 : x < 2305843009213693921 := by rw [← hx]; exact Int.emod_lt_of_pos _ (by decide)
   have z2 : (x + 49979687 * (c + 1)).natAbs < 2 ^ 64 := by omega
   have l1 : (c + 1).natAbs.log2 < 64 := log2_lt (by omega) (by decide)
   have l2 : ((32452843 : Int)).natAbs.log2 < 64 := log2_lt (by decide) (by decide)
   have l3 : ((49979687 : Int)).natAbs.log2 < 64 := log2_lt (by decide) (by decide)
   have l4 : ((4096 : Int)).natAbs.log2 < 9000 := Nat.lt_trans (log2_lt (k := 64) (by decide) (by decide)) (by decide)
   have c1' : Mz 32452843 (c + 1) = true := decide_eq_true (by omega)
   have c2' : Mz 49979687 (c + 1) = true := decide_eq_true (by omega)
   have c3' : vP (b + 32452843 * (c + 1)) 3 = true := by
    unfold vP
    rw [decide_eq_true z1]
    rfl
   have c4' : vP (x + 49979687 * (c + 1)) 2 = true := by
    unfold vP
    rw [decide_eq_true z2]
    rfl
   have c5' : JD ((x + 49979687 * (c + 1)) ^ 2 % 2305843009213693951) 4096 = true := by
    unfold JD
    rw [decide_eq_true l4]
    rfl
   refine ⟨((x + 49979687 * (c + 1)) ^ 2 % 2305843009213693951) / 4096 % m, h.set n (.nl [.int a, .int b, .int (c + 1)]), ?_, ⟨a, b, c + 1, by rw [ahp hn], b0, b1, by omega, by omega⟩, Int.emod_nonneg _ (by omega), Int.emod_lt_of_pos _ hm⟩
   have ha' : decide (0 < a) = false := decide_eq_false ha
   have e2 : ∀ v : D, (h.set n v)[n]? = some v := fun v => ahp hn
   simp [bJ, bK, rO, pW, pU, pQ, startF, aC, aU, M.bind, M.ret, M.opt, aD, bj, fX, aG, mC, bF, D.its, D.der, e, atI, ixN, cInt, ha', bh, aF, sE, aa, D.own, dH, DY, bG, zf, aO, su, aM, D.fz, bL, e2, c1', c2', c3', c4', c5', z8, hm, hx]
end L
namespace L
open PySem PySem.Spec L2 Pk
theorem Vb {h : Hh} {n : Nat} {C : Int} {l : List D} (S : Src h n C) (hC : C ≤ 100000) (h0 : 0 < l.length) (hl : l.length ≤ 1000) :
 ∃ i d h', i < l.length ∧ l[i]? = some d ∧ eU [.ref n, .fl l] h = .ok d [] h' ∧ Src h' n (C + 1) := by
 obtain ⟨r, h', e, S', r0, r1⟩ := lW (m := (l.length : Int)) S hC (by omega) (by omega)
 have hi : r.toNat < l.length := by omega
 refine ⟨r.toNat, l[r.toNat], h', hi, ahi hi, ?_, S'⟩
 have er : ((r.toNat : Nat) : Int) = r := Int.toNat_of_nonneg r0
 simp [eU, bK, tX, startF, aO, bj, fX, aG, aM, au, aj, M.bind, M.ret, M.opt, aa, D.own, D.fz, aF, bW, D.its, D.der, aq, e, bu, bF, atI, ixN, r0, r1, hi]
theorem BX {h : Hh} {n : Nat} {C : Int} (S : Src h n C) (hC : C ≤ 90000) : ∃ r h', iQ [.ref n] h = .ok (.int r) [] h' ∧ Src h' n (C + 2) ∧ 0 ≤ r ∧ r < 2 ^ 198 := by
 obtain ⟨i, d, h1, hi, ed, e1, S1⟩ := Vb (l := [.int 2, .int 2, .int 3, .int 3, .int 5, .int 100, .int (10 ^ 9), .int (10 ^ 30)]) S (by omega) (by decide) (by decide)
 have hd : ∃ m : Int, d = .int m ∧ 0 < m ∧ m < 2 ^ 198 := by
  have hm := ahq ed
  simp only [ahA, List.not_mem_nil, or_false] at hm
  rcases hm with rfl | rfl | rfl | rfl | rfl | rfl | rfl | rfl <;> exact ⟨_, rfl, by decide, by decide⟩
 obtain ⟨m, rfl, m0, m1⟩ := hd
 obtain ⟨r, h2, e2, S2, r0, r1⟩ := lW S1 (by omega) m0 (by omega)
 refine ⟨r, h2, ?_, by rw [show C + 2 = C + 1 + 1 by omega]; exact S2, r0, by omega⟩
 have p9 : vP 10 9 = true := by decide
 have p30 : vP 10 30 = true := by decide
 have bg : 8 ≤ big := by decide
 simp only [Int.reducePow] at e1
 simp [iQ, bK, u9, startF, aO, aM, au, aj, M.bind, M.ret, M.opt, aa, D.own, D.fz, dC, mC, aD, dH, p9, p30, bg, aq, bu, e1, e2]
end L
namespace L
open PySem PySem.Spec L2 Pk
theorem fQ (h : Hh) (a b : Int) : fY h (.int a) (.int b) = some (a == b) := by
 unfold fY
 rfl
structure Ez (N : Nat) (born : Int) (counts cuts : List Int) : Prop where
 pos : ∀ c ∈ counts, 0 ≤ c
 asc : cuts.Pairwise (· < ·)
 cin : ∀ x ∈ cuts, born ≤ x ∧ x + 1 < born + counts.length
 fall : ∀ (i : Nat) (a b : Int), counts[i]? = some a → counts[i + 1]? = some b → b < a → (born + i) ∈ cuts
 cl : cuts.length + 1 ≤ counts.length
 top : ∀ (i : Nat) (c : Int), counts[i]? = some c → c ≤ ((i : Int) + 1) * 2 ^ N
abbrev Grow (born : Int) (counts cuts : List Int) : Prop := Ez 198 born counts cuts
theorem xK {α : Type} {l : List α} {r z : α} {i : Nat} (e : (l ++ [r])[i]? = some z) : l[i]? = some z ∨ (i = l.length ∧ z = r) := by
 by_cases h : i < l.length
 · rw [ahB h] at e
   exact .inl e
 · rw [ahz (by omega)] at e
   cases q : i - l.length with
   | zero =>
     rw [q] at e
     cases e
     exact .inr ⟨by omega, rfl⟩
   | succ k =>
     rw [q] at e
     simp at e
theorem SJ {born r : Int} {counts cuts : List Int} (g : Grow born counts cuts) (hr : 0 ≤ r) (hz : r < 2 ^ 198) : Grow born (counts ++ [r]) (cuts ++ [born + counts.length - 1]) := by
 have hl := g.cl
 refine ⟨fun c hc => ?_, ?_, fun x hx => ?_, fun i a b ea eb hab => ?_, ?_, fun i c e => ?_⟩
 · rcases List.mem_append.mp hc with z | z
   · exact g.pos c z
   · rw [ahw] at z
     omega
 · rw [List.pairwise_append]
   refine ⟨g.asc, List.pairwise_singleton _ _, fun x hx y hy => ?_⟩
   rw [ahw] at hy
   have := g.cin x hx
   omega
 · rw [ahj, ahl]
   rcases List.mem_append.mp hx with z | z
   · have := g.cin x z
     omega
   · rw [ahw] at z
     omega
 · rw [List.mem_append, ahw]
   rcases xK eb with z | ⟨z, _⟩
   · rcases xK ea with y | ⟨y, _⟩
     · exact .inl (g.fall i a b y z hab)
     · have := (List.getElem?_eq_some_iff.mp z).1
       omega
   · right
     omega
 · rw [ahj, ahj, ahl, ahl]
   omega
 · rcases xK e with q | ⟨q, rfl⟩
   · exact g.top i c q
   · omega
theorem Vc {born r t : Int} {counts cuts : List Int} (g : Grow born counts cuts) (ht : counts[counts.length - 1]? = some t) (hr : 0 ≤ r) (hz : r < 2 ^ 198) : Grow born (counts ++ [t + r]) cuts := by
 have hl := g.cl
 have t0 := g.pos t (ahq ht)
 refine ⟨fun c hc => ?_, g.asc, fun x hx => ?_, fun i a b ea eb hab => ?_, ?_, fun i c e => ?_⟩
 · rcases List.mem_append.mp hc with z | z
   · exact g.pos c z
   · rw [ahw] at z
     omega
 · have := g.cin x hx
   rw [ahj, ahl]
   omega
 · rcases xK eb with z | ⟨z, zb⟩
   · rcases xK ea with y | ⟨y, _⟩
     · exact g.fall i a b y z hab
     · have := (List.getElem?_eq_some_iff.mp z).1
       omega
   · exfalso
     rcases xK ea with y | ⟨y, _⟩
     · have ei : i = counts.length - 1 := by omega
       rw [ei, ht] at y
       cases y
       omega
     · omega
 · rw [ahj, ahl]
   omega
 · rcases xK e with q | ⟨q, rfl⟩
   · exact g.top i c q
   · have := g.top _ _ ht
     omega
theorem oM (lo : Int) (n : Nat) : fj lo (n + 1) = .int lo :: fj (lo + 1) n := by
 unfold fj
 rw [List.range_succ_eq_map, ahb, List.map_map]
 simp only [Int.natCast_zero, Int.add_zero, List.cons.injEq, true_and]
 congr 1
 funext i
 simp only [Function.comp_apply, Nat.succ_eq_add_one, Int.natCast_add, Int.natCast_one]
 congr 1
 omega
theorem HR {h : Hh} {l : List Int} {t : Int} (e : l[l.length - 1]? = some t) : bF h (.nl (l.map .int)) (.int (-1)) = some (.int t) := by
 have hl : 0 < l.length := by
  have := (List.getElem?_eq_some_iff.mp e).1
  omega
 show atI (l.map D.int) (-1) = _
 unfold atI
 have : ixN (l.map D.int).length (-1) = some (l.length - 1) := by
  unfold ixN
  rw [ahk, if_neg (by omega), if_pos (by omega)]
  congr 1
  omega
 rw [this]
 simp [e]
theorem mV {n : Nat} (h : n ≤ 1000) : n < big := Nat.lt_of_le_of_lt h (by decide)
theorem V2 {n : Nat} {size born many : Int} : ∀ (m : Nat) (C : Int) (h : Hh) (counts cuts : List Int) (x8 : Option D), Src h n C → C + 3 * m ≤ 80000 → Grow born counts cuts → counts.length + m ≤ 100 →
 ∃ counts' cuts' x8' h', dw (bM 8) jR (fj counts.length m) [some (.ref n), some (.int size), some (.int born), some (.int many), some (.nl (cuts.map .int)), some (.nl []), some (.nl []), some (.nl (counts.map .int)), x8, none, none] h =
   .ok .nx [some (.ref n), some (.int size), some (.int born), some (.int many), some (.nl (cuts'.map .int)), some (.nl []), some (.nl []), some (.nl (counts'.map .int)), x8', none, none] h' ∧ Src h' n (C + 3 * m) ∧ Grow born counts' cuts' ∧ counts'.length = counts.length + m
 | 0, C, h, counts, cuts, x8, S, _, g, _ => ⟨counts, cuts, x8, h, rfl, by rw [show C + 3 * ((0 : Nat) : Int) = C by omega]; exact S, g, rfl⟩
 | m + 1, C, h, counts, cuts, x8, S, hC, g, hl => by
   have hcl := g.cl
   obtain ⟨r, h1, e1, S1, r0, r1⟩ := lW (m := 3) S (by omega) (by decide) (by decide)
   obtain ⟨z, h2, e2, S2, z0, z9⟩ := BX S1 (by omega)
   have hc : counts.length < big := mV (by omega)
   have hk : cuts.length < big := mV (by omega)
   by_cases hr : r = 0
   · subst hr
     obtain ⟨counts', cuts', x8', h', e3, S3, g3, l3⟩ := V2 m (C + 3) h2 (counts ++ [z]) (cuts ++ [born + counts.length - 1]) (some (.int counts.length)) (by rw [show C + 3 = C + 1 + 2 by omega]; exact S2) (by omega) (SJ g z0 z9) (by rw [ahj, ahl]; omega)
     refine ⟨counts', cuts', x8', h', ?_, by rw [show C + 3 * ((m + 1 : Nat) : Int) = C + 3 + 3 * (m : Int) by omega]; exact S3, g3, by rw [l3, ahj, ahl]; omega⟩
     rw [oM, ← e3]
     have el : (((counts ++ [z]).length : Nat) : Int) = (counts.length : Int) + 1 := by rw [ahj, ahl]; omega
     rw [el]
     simp [dw, bM, jR, aU, aC, iK, jZ, bG, jG, tD, aD, aM, au, aj, M.bind, M.ret, M.opt, aa, D.own, D.fz, mC, aq, bu, e1, fQ, bL, dH, jF, e2, hc, hk]
   · have ht : counts[counts.length - 1]? = some counts[counts.length - 1] := ahi (by omega)
     generalize counts[counts.length - 1] = t at ht
     have hb : ∀ h : Hh, bF h (.nl (counts.map .int)) (.int (-1)) = some (.int t) := fun h => HR ht
     have hr' : (r == 0) = false := beq_eq_false_iff_ne.mpr hr
     obtain ⟨counts', cuts', x8', h', e3, S3, g3, l3⟩ := V2 m (C + 3) h2 (counts ++ [t + z]) cuts (some (.int counts.length)) (by rw [show C + 3 = C + 1 + 2 by omega]; exact S2) (by omega) (Vc g ht z0 z9) (by rw [ahj, ahl]; omega)
     refine ⟨counts', cuts', x8', h', ?_, by rw [show C + 3 * ((m + 1 : Nat) : Int) = C + 3 + 3 * (m : Int) by omega]; exact S3, g3, by rw [l3, ahj, ahl]; omega⟩
     rw [oM, ← e3]
     have el : (((counts ++ [t + z]).length : Nat) : Int) = (counts.length : Int) + 1 := by rw [ahj, ahl]; omega
     rw [el]
     simp [dw, bM, jR, aU, aC, iK, jZ, bG, jG, tD, aD, aM, au, aj, M.bind, M.ret, M.opt, aa, D.own, D.fz, mC, aq, bu, e1, fQ, hr', bL, dH, jF, e2, hc, hk, bj, fX, aG, aF, sX, hb]
def pairD (p : Int × Int) : D := .tup [.int p.1, .int p.2]
theorem V3 {n : Nat} {size born many : Int} {a b c d y : Option D} : ∀ (gaps : List Int) (C : Int) (h : Hh) (ends : List (Int × Int)) (x10 : Option D), Src h n C → C + 4 * gaps.length ≤ 80000 → ends.length + gaps.length ≤ 200 →
 ∃ ends' x10' h', dw (bM 10) jT (gaps.map .int) [some (.ref n), some (.int size), some (.int born), some (.int many), a, some (.nl (ends.map pairD)), b, c, d, y, x10] h =
   .ok .nx [some (.ref n), some (.int size), some (.int born), some (.int many), a, some (.nl ((ends ++ ends').map pairD)), b, c, d, y, x10'] h' ∧ Src h' n (C + 4 * gaps.length) ∧ (ends'.map (·.1)).Sublist gaps ∧ ∀ p ∈ ends', 1 ≤ p.2 ∧ p.2 ≤ 2 ^ 198
 | [], C, h, ends, x10, S, _, _ => ⟨[], x10, h, by rw [ahe]; rfl, by rw [show C + 4 * (([] : List Int).length : Int) = C by simp]; exact S, List.Sublist.slnil, by simp⟩
 | g :: gaps, C, h, ends, x10, S, hC, hl => by
   rw [ag9] at hC hl
   obtain ⟨r, h1, e1, S1, r0, r1⟩ := lW (m := 2) S (by omega) (by decide) (by decide)
   have hk : ends.length < big := mV (by omega)
   by_cases hr : r = 0
   · subst hr
     obtain ⟨z, h2, e2, S2, z0, z9⟩ := BX S1 (by omega)
     obtain ⟨ends', x10', h', e3, S3, sub, p3⟩ := V3 gaps (C + 4) h2 (ends ++ [(g, 1 + z)]) (some (.int g)) (by obtain ⟨a', b', c', q1, q2, q3, q4, q5⟩ := S2; exact ⟨a', b', c', q1, q2, q3, q4, by omega⟩) (by omega) (by rw [ahj, ahl]; omega)
     refine ⟨(g, 1 + z) :: ends', x10', h', ?_, by rw [ag9, show C + 4 * ((gaps.length + 1 : Nat) : Int) = C + 4 + 4 * (gaps.length : Int) by omega]; exact S3, sub.cons_cons g, fun p hp => ?_⟩
     · have e4 : ends ++ (g, 1 + z) :: ends' = ends ++ [(g, 1 + z)] ++ ends' := by simp
       rw [e4, ← e3]
       have b2 : 2 ≤ big := by decide
       simp [dw, bM, jT, aU, aC, iK, jZ, bG, jG, tD, aD, aM, au, aj, M.bind, M.ret, M.opt, aa, D.own, D.fz, mC, aq, bu, e1, fQ, bL, e2, hk, gA, b2, pairD]
     · rcases List.mem_cons.mp hp with q | q
       · rw [q]
         show 1 ≤ 1 + z ∧ 1 + z ≤ 2 ^ 198
         omega
       · exact p3 p q
   · have hr' : (r == 0) = false := beq_eq_false_iff_ne.mpr hr
     obtain ⟨ends', x10', h', e3, S3, sub, p3⟩ := V3 gaps (C + 4) h1 ends (some (.int g)) (by obtain ⟨a', b', c', q1, q2, q3, q4, q5⟩ := S1; exact ⟨a', b', c', q1, q2, q3, q4, by omega⟩) (by omega) (by omega)
     refine ⟨ends', x10', h', ?_, by rw [ag9, show C + 4 * ((gaps.length + 1 : Nat) : Int) = C + 4 + 4 * (gaps.length : Int) by omega]; exact S3, sub.cons g, p3⟩
     rw [← e3]
     simp [dw, bM, jT, aU, aC, iK, aD, aM, au, aj, M.bind, M.ret, M.opt, aa, D.own, D.fz, mC, aq, bu, e1, fQ, hr']
theorem V4 {n : Nat} {size born many : Int} {a b c x9 x10 : Option D} : ∀ (m : Nat) (lo : Int) (C : Int) (h : Hh) (gone : List Int) (x8 : Option D), Src h n C → C + m ≤ 80000 → gone.length + m ≤ 200 →
 ∃ gone' x8' h', dw (bM 8) jU (fj lo m) [some (.ref n), some (.int size), some (.int born), some (.int many), a, b, some (.nl (gone.map .int)), c, x8, x9, x10] h =
   .ok .nx [some (.ref n), some (.int size), some (.int born), some (.int many), a, b, some (.nl ((gone ++ gone').map .int)), c, x8', x9, x10] h' ∧ Src h' n (C + m) ∧ gone'.Pairwise (· < ·) ∧ ∀ x ∈ gone', lo ≤ x ∧ x < lo + m
 | 0, lo, C, h, gone, x8, S, _, _ => ⟨[], x8, h, by rw [ahe]; rfl, by rw [show C + ((0 : Nat) : Int) = C by omega]; exact S, List.Pairwise.nil, by simp⟩
 | m + 1, lo, C, h, gone, x8, S, hC, hl => by
   obtain ⟨r, h1, e1, S1, r0, r1⟩ := lW (m := 4) S (by omega) (by decide) (by decide)
   have hk : gone.length < big := mV (by omega)
   by_cases hr : r = 0
   · subst hr
     obtain ⟨gone', x8', h', e3, S3, as, p3⟩ := V4 m (lo + 1) (C + 1) h1 (gone ++ [lo]) (some (.int lo)) S1 (by omega) (by rw [ahj, ahl]; omega)
     refine ⟨lo :: gone', x8', h', ?_, by rw [show C + ((m + 1 : Nat) : Int) = C + 1 + (m : Int) by omega]; exact S3, List.Pairwise.cons (fun x hx => by have := p3 x hx; omega) as, fun x hx => ?_⟩
     · have e4 : gone ++ lo :: gone' = gone ++ [lo] ++ gone' := by simp
       rw [e4, ← e3, oM]
       simp [dw, bM, jU, aU, aC, iK, jZ, bG, jG, tD, aD, aM, au, aj, M.bind, M.ret, M.opt, aa, D.own, D.fz, mC, aq, bu, e1, fQ, hk]
     · rcases List.mem_cons.mp hx with q | q
       · omega
       · have := p3 x q
         omega
   · have hr' : (r == 0) = false := beq_eq_false_iff_ne.mpr hr
     obtain ⟨gone', x8', h', e3, S3, as, p3⟩ := V4 m (lo + 1) (C + 1) h1 gone (some (.int lo)) S1 (by omega) (by omega)
     refine ⟨gone', x8', h', ?_, by rw [show C + ((m + 1 : Nat) : Int) = C + 1 + (m : Int) by omega]; exact S3, as, fun x hx => by have := p3 x hx; omega⟩
     rw [← e3, oM]
     simp [dw, bM, jU, aU, aC, iK, aD, aM, au, aj, M.bind, M.ret, M.opt, aa, D.own, D.fz, mC, aq, bu, e1, fQ, hr']
end L
namespace L
open PySem PySem.Spec L2 Pk
theorem Src.up {h : Hh} {n : Nat} {C C' : Int} (S : Src h n C) (hC : C ≤ C') : Src h n C' := by
 obtain ⟨a, b, c, q1, q2, q3, q4, q5⟩ := S
 exact ⟨a, b, c, q1, q2, q3, q4, by omega⟩
structure vg (N : Nat) (size born : Int) (counts cuts : List Int) (ends : List (Int × Int)) (gone : List Int) : Prop where
 b0 : 0 ≤ born
 g : Ez N born counts cuts
 fit : born + counts.length ≤ size
 sub : (ends.map (·.1)).Sublist (cuts ++ if born + counts.length < size then [born + counts.length - 1] else [])
 pos : ∀ p ∈ ends, 1 ≤ p.2 ∧ p.2 ≤ 2 ^ N
 asc : gone.Pairwise (· < ·)
 gin : ∀ x ∈ gone, born ≤ x ∧ x < born + counts.length
theorem Ez.up {N M : Nat} {born : Int} {counts cuts : List Int} (hN : N ≤ M) (g : Ez N born counts cuts) : Ez M born counts cuts :=
 ⟨g.pos, g.asc, g.cin, g.fall, g.cl, fun i c e => Int.le_trans (g.top i c e) (Int.mul_le_mul_of_nonneg_left (by exact_mod_cast Nat.pow_le_pow_right (by decide) hN) (by omega))⟩
theorem vg.up {N M : Nat} {size born : Int} {counts cuts : List Int} {ends : List (Int × Int)} {gone : List Int} (hN : N ≤ M) (l : vg N size born counts cuts ends gone) : vg M size born counts cuts ends gone :=
 ⟨l.b0, l.g.up hN, l.fit, l.sub, fun p hp => ⟨(l.pos p hp).1, Int.le_trans (l.pos p hp).2 (by exact_mod_cast Nat.pow_le_pow_right (by decide) hN)⟩, l.asc, l.gin⟩
abbrev Life (size born : Int) (counts cuts : List Int) (ends : List (Int × Int)) (gone : List Int) : Prop := vg 200 size born counts cuts ends gone
def j8 (born : Int) (counts cuts : List Int) (ends : List (Int × Int)) (gone : List Int) : D := .tup [.int born, .fl (counts.map .int), .fl (cuts.map .int), .fl (ends.map pairD), .fl (gone.map .int)]
theorem lX {i : Int} (h1 : -1000 ≤ i) (h2 : i ≤ 1000) : jc i = true := by
 unfold jc
 rw [decide_eq_true (show -(2 ^ 62) ≤ i by omega), decide_eq_true (show i < 2 ^ 62 by omega)]
 rfl
theorem aa7 {n : Nat} {size born : Int} {counts cuts : List Int} {ends : List (Int × Int)} {q : D} {C : Int} {h : Hh} {x8 x9 x10 : Option D} (hq : q = .nl (cuts.map .int) ∨ q = .fl (cuts.map .int)) (S : Src h n C) (hC : C ≤ 51000) (b0 : 0 ≤ born) (b1 : born ≤ 10) (hl : counts.length ≤ 10) :
 ∃ gone fr' h', jV [some (.ref n), some (.int size), some (.int born), some (.int counts.length), some q, some (.nl (ends.map pairD)), some (.nl []), some (.nl (counts.map .int)), x8, x9, x10] h = .ok (.rt (j8 born counts cuts ends gone)) fr' h' ∧
   Src h' n (C + counts.length) ∧ gone.Pairwise (· < ·) ∧ ∀ x ∈ gone, born ≤ x ∧ x < born + counts.length := by
 obtain ⟨gone, x8', h', e, S', as, p⟩ := V4 (n := n) (size := size) (born := born) (many := counts.length) (a := some q) (b := some (.nl (ends.map pairD))) (c := some (.nl (counts.map .int))) (x9 := x9) (x10 := x10) counts.length born C h [] x8 S (by omega) (by simp; omega)
 have s1 : jc born = true := lX (by omega) (by omega)
 have s2 : jc (born + counts.length) = true := lX (by omega) (by omega)
 have e5 : (born + (counts.length : Int) - born).toNat = counts.length := by omega
 simp only [ahf, aho] at e
 have b5 : 5 ≤ big := by decide
 rcases hq with rfl | rfl
 · refine ⟨gone, [some (.ref n), some (.int size), some (.int born), some (.int counts.length), some (.fl (cuts.map .int)), some (.fl (ends.map pairD)), some (.fl (gone.map .int)), some (.fl (counts.map .int)), x8', x9, x10], h', ?_, S', as, p⟩
   simp [jV, aC, d9, sH, aa, M.bind, M.ret, M.opt, aM, aD, bL, D.own, D.fz, s1, s2, e5, e, aO, gA, aj, j8, b5]
 · refine ⟨gone, [some (.ref n), some (.int size), some (.int born), some (.int counts.length), some (.fl (cuts.map .int)), some (.fl (ends.map pairD)), some (.fl (gone.map .int)), some (.fl (counts.map .int)), x8', x9, x10], h', ?_, S', as, p⟩
   simp [jV, aC, d9, sH, aa, M.bind, M.ret, M.opt, aM, aD, bL, D.own, D.fz, s1, s2, e5, e, aO, gA, aj, j8, b5]
theorem Vd {n : Nat} {size born : Int} {counts cuts gaps : List Int} {q : D} {C : Int} {h : Hh} {x8 x10 : Option D} (hq : q = .nl (cuts.map .int) ∨ q = .fl (cuts.map .int)) (S : Src h n C) (hC : C ≤ 50500) (b0 : 0 ≤ born) (b1 : born ≤ 10) (hl : counts.length ≤ 10) (hg : gaps.length ≤ 10) :
 ∃ ends gone fr' h', pX [some (.ref n), some (.int size), some (.int born), some (.int counts.length), some q, some (.nl []), some (.nl []), some (.nl (counts.map .int)), x8, some (.nl (gaps.map .int)), x10] h = .ok (.rt (j8 born counts cuts ends gone)) fr' h' ∧
   Src h' n (C + 50) ∧ (ends.map (·.1)).Sublist gaps ∧ (∀ p ∈ ends, 1 ≤ p.2 ∧ p.2 ≤ 2 ^ 198) ∧ gone.Pairwise (· < ·) ∧ ∀ x ∈ gone, born ≤ x ∧ x < born + counts.length := by
 obtain ⟨ends, x10', h1, e1, S1, sub, p1⟩ := V3 (n := n) (size := size) (born := born) (many := counts.length) (a := some q) (b := some (.nl [])) (c := some (.nl (counts.map .int))) (d := x8) (y := some (.fl (gaps.map .int))) gaps C h [] x10 S (by omega) (by simp; omega)
 simp only [ahf, aho] at e1
 obtain ⟨gone, fr', h', e2, S2, as, p2⟩ := aa7 (n := n) (size := size) (born := born) (counts := counts) (cuts := cuts) (ends := ends) (q := q) (x8 := x8) (x9 := some (.fl (gaps.map .int))) (x10 := x10') hq S1 (by omega) b0 b1 hl
 refine ⟨ends, gone, fr', h', ?_, S2.up (by omega), sub, p1, as, p2⟩
 simp [pX, aC, d9, sY, aa, M.bind, M.ret, M.opt, D.own, D.fz, D.its, D.der, e1, e2]
theorem aa8 {n : Nat} {size born : Int} {counts cuts : List Int} {C : Int} {h : Hh} {x8 x9 x10 : Option D} (S : Src h n C) (hC : C ≤ 50500) (b0 : 0 ≤ born) (b1 : born ≤ 10) (hl : counts.length ≤ 9) (hg : cuts.length ≤ 9) :
 ∃ ends gone fr' h', g8 [some (.ref n), some (.int size), some (.int born), some (.int counts.length), some (.nl (cuts.map .int)), some (.nl []), some (.nl []), some (.nl (counts.map .int)), x8, x9, x10] h = .ok (.rt (j8 born counts cuts ends gone)) fr' h' ∧
   Src h' n (C + 50) ∧ (ends.map (·.1)).Sublist (cuts ++ if born + counts.length < size then [born + counts.length - 1] else []) ∧ (∀ p ∈ ends, 1 ≤ p.2 ∧ p.2 ≤ 2 ^ 198) ∧ gone.Pairwise (· < ·) ∧ ∀ x ∈ gone, born ≤ x ∧ x < born + counts.length := by
 by_cases hs : born + counts.length < size
 · obtain ⟨ends, gone, fr', h', e, z⟩ := Vd (n := n) (size := size) (born := born) (counts := counts) (cuts := cuts) (gaps := cuts ++ [born + counts.length - 1]) (q := .fl (cuts.map .int)) (x8 := x8) (x10 := x10) (.inr rfl) S hC b0 b1 (by omega) (by simp; omega)
   rw [if_pos hs]
   refine ⟨ends, gone, fr', h', ?_, z⟩
   have bg : (cuts.map D.int).length + 1 ≤ big := by
    rw [ahk]
    exact Nat.le_of_lt (mV (by omega))
   have b1' : 1 ≤ big := by decide
   rw [List.map_append, ahb, ahf] at e
   rw [ahk] at bg
   simp [g8, aC, bh, Gr, aD, aM, bL, aa, M.bind, M.ret, M.opt, D.own, D.fz, cInt, hs, dC, aj, dH, jF, mC, b1', bg, e]
 · obtain ⟨ends, gone, fr', h', e, z⟩ := Vd (n := n) (size := size) (born := born) (counts := counts) (cuts := cuts) (gaps := cuts) (q := .nl (cuts.map .int)) (x8 := x8) (x10 := x10) (.inl rfl) S hC b0 b1 (by omega) (by omega)
   rw [if_neg hs, ahe]
   refine ⟨ends, gone, fr', h', ?_, z⟩
   simp [g8, aC, bh, Gr, aD, aM, bL, aa, aG, aF, gU, D.its, D.der, M.bind, M.ret, M.opt, D.own, D.fz, cInt, hs, e]
theorem Ve {n : Nat} {size born : Int} {k : Nat} {C : Int} {h : Hh} (S : Src h n C) (hC : C ≤ 50400) (b0 : 0 ≤ born) (b1 : born ≤ 10) (hk : k ≤ 8) (hf : born + (k + 1 : Nat) ≤ size) :
 ∃ counts cuts ends gone fr' h', jX [some (.ref n), some (.int size), some (.int born), some (.int (k + 1 : Nat)), some (.nl []), some (.nl []), some (.nl []), none, none, none, none] h = .ok (.rt (j8 born counts cuts ends gone)) fr' h' ∧ Src h' n (C + 80) ∧ vg 198 size born counts cuts ends gone := by
 obtain ⟨z, h1, e1, S1, z0, z9⟩ := BX S (by omega)
 have g1 : Grow born [z] [] := ⟨fun c hc => by rw [ahw] at hc; omega, List.Pairwise.nil, fun x hx => (by cases hx), fun i a b ea eb => by
  have := (List.getElem?_eq_some_iff.mp eb).1
  simp at this, by simp, fun i c e => by
  have q := (List.getElem?_eq_some_iff.mp e).1
  have q0 : i = 0 := by simpa using q
  subst q0
  have e' : z = c := by simpa using e
  omega⟩
 obtain ⟨counts, cuts, x8, h2, e2, S2, g2, l2⟩ := V2 (n := n) (size := size) (born := born) (many := (k + 1 : Nat)) k (C + 2) h1 [z] [] none S1 (by omega) g1 (by simp; omega)
 have lc : counts.length = k + 1 := by rw [l2, ahl]; omega
 have cl := g2.cl
 obtain ⟨ends, gone, fr', h', e3, S3, sub, p1, as, p2⟩ := aa8 (n := n) (size := size) (born := born) (counts := counts) (cuts := cuts) (x8 := x8) (x9 := none) (x10 := none) S2 (by omega) b0 b1 (by omega) (by omega)
 refine ⟨counts, cuts, ends, gone, fr', h', ?_, S3.up (by omega), ⟨b0, g2, by rw [lc]; exact hf, sub, p1, as, p2⟩⟩
 rw [lc] at e3
 have s1 : jc 1 = true := lX (by omega) (by omega)
 have s2 : jc ((k : Int) + 1) = true := lX (by omega) (by omega)
 have e5 : ((k : Int) + 1 - 1).toNat = k := by omega
 have b1' : 1 ≤ big := by decide
 simp only [ahl, ahb, ahf, Int.natCast_one, Int.natCast_add] at e2 e3
 simp only [Int.natCast_add, Int.natCast_one]
 have st1 : jX [some (.ref n), some (.int size), some (.int born), some (.int ((k : Int) + 1)), some (.nl []), some (.nl []), some (.nl []), none, none, none, none] h =
  jW [some (.ref n), some (.int size), some (.int born), some (.int ((k : Int) + 1)), some (.nl []), some (.nl []), some (.nl []), some (.nl [.int z]), none, none, none] h1 := by
  simp [jX, aC, bh, dC, aj, aM, au, aa, D.own, D.fz, M.bind, M.ret, M.opt, aq, bu, e1, b1']
 have st2 : jW [some (.ref n), some (.int size), some (.int born), some (.int ((k : Int) + 1)), some (.nl []), some (.nl []), some (.nl []), some (.nl [.int z]), none, none, none] h1 =
  g8 [some (.ref n), some (.int size), some (.int born), some (.int ((k : Int) + 1)), some (.nl (cuts.map .int)), some (.nl []), some (.nl []), some (.nl (counts.map .int)), x8, none, none] h2 := by
  have r : (sH (mC (.int 1)) (aa 3)) [some (.ref n), some (.int size), some (.int born), some (.int ((k : Int) + 1)), some (.nl []), some (.nl []), some (.nl []), some (.nl [.int z]), none, none, none] h1 = .ok (fj 1 k) [some (.ref n), some (.int size), some (.int born), some (.int ((k : Int) + 1)), some (.nl []), some (.nl []), some (.nl []), some (.nl [.int z]), none, none, none] h1 := by
   have q : (if jc 1 && jc ((k : Int) + 1) then some (fj 1 ((k : Int) + 1 - 1).toNat) else none) = some (fj 1 k) := by
    rw [s1, s2, e5]
    rfl
   unfold sH
   rw [M.bind_ok (show mC (.int 1) _ _ = .ok (.int 1) _ h1 from rfl), M.bind_ok (show aa 3 _ _ = .ok (.int ((k : Int) + 1)) _ h1 from rfl)]
   show M.opt (if jc 1 && jc ((k : Int) + 1) then some (fj 1 ((k : Int) + 1 - 1).toNat) else none) _ h1 = _
   rw [q]
   rfl
  unfold jW aC d9
  rw [M.bind_ok ((M.bind_ok r).trans e2)]
 rw [st1, st2]
 exact e3
theorem SM {n : Nat} {size : Int} {C : Int} {h : Hh} (S : Src h n C) (hC : C ≤ 50300) (h2 : 2 ≤ size) (h4 : size ≤ 4) :
 ∃ born counts cuts ends gone h', eE [.ref n, .int size] h = .ok (j8 born counts cuts ends gone) [] h' ∧ Src h' n (C + 90) ∧ vg 198 size born counts cuts ends gone := by
 have b5 : 5 ≤ big := by decide
 have b0' : 0 ≤ big := by decide
 obtain ⟨r, h1, e1, S1, r0, r1⟩ := lW (m := 2) S (by omega) (by decide) (by decide)
 by_cases hr : r = 1
 · subst hr
   obtain ⟨born, h2', e2, S2, b0, b1⟩ := lW (m := size) S1 (by omega) (by omega) (by omega)
   obtain ⟨mm, h3, e3, S3, m0, m1⟩ := lW (m := size - born) S2 (by omega) (by omega) (by omega)
   obtain ⟨k, rfl⟩ := Int.eq_ofNat_of_zero_le m0
   obtain ⟨counts, cuts, ends, gone, fr', h', e4, S4, L4⟩ := Ve (n := n) (size := size) (born := born) (k := k) S3 (by omega) b0 (by omega) (by omega) (by omega)
   refine ⟨born, counts, cuts, ends, gone, h', ?_, S4.up (by omega), L4⟩
   simp only [Int.natCast_add, Int.natCast_one] at e4
   have ec : (1 : Int) + (k : Int) = (k : Int) + 1 := by omega
   simp [eE, bK, rP, pY, startF, aC, uY, aj, mC, aa, D.own, D.fz, dC, M.bind, M.ret, M.opt, nW, b5, aU, aD, aM, au, aq, bu, e1, fQ, bh, e2, dH, jF, e3, bL, ec, e4]
 · have hr' : (r == 1) = false := beq_eq_false_iff_ne.mpr hr
   obtain ⟨k, hk⟩ := Int.eq_ofNat_of_zero_le (show 0 ≤ size - 1 by omega)
   have hz : size = ((k + 1 : Nat) : Int) := by omega
   obtain ⟨counts, cuts, ends, gone, fr', h', e4, S4, L4⟩ := Ve (n := n) (size := size) (born := 0) (k := k) S1 (by omega) (by omega) (by omega) (by omega) (by omega)
   refine ⟨0, counts, cuts, ends, gone, h', ?_, S4.up (by omega), L4⟩
   rw [← hz] at e4
   simp [eE, bK, rP, pY, startF, aC, uY, aj, mC, aa, D.own, D.fz, dC, M.bind, M.ret, M.opt, nW, b5, aU, aD, aM, au, aq, bu, e1, fQ, hr', e4]
theorem Xw {n : Nat} {size : Int} {C : Int} {h : Hh} (S : Src h n C) (hC : C ≤ 50300) (h2 : 2 ≤ size) (h4 : size ≤ 4) :
 ∃ born counts cuts ends gone h', eE [.ref n, .int size] h = .ok (j8 born counts cuts ends gone) [] h' ∧ Src h' n (C + 90) ∧ Life size born counts cuts ends gone := by
 obtain ⟨born, counts, cuts, ends, gone, h', e, S', l⟩ := SM S hC h2 h4
 exact ⟨born, counts, cuts, ends, gone, h', e, S', l.up (by decide)⟩
end L
namespace L
open PySem PySem.Spec L2 Pk
theorem Tv (h : Hh) (v : Int) : j9 il h (.int v) (.ty "int") = some (.bl true) := by kernel_rfl
theorem SN (h : Hh) (v : Int) : j9 il h (.int v) (.ty "bool") = some (.bl false) := by kernel_rfl
theorem SQ (h : Hh) (l : List D) : j9 il h (.fl l) (.tup [.ty "list", .ty "tuple"]) = some (.bl true) := by kernel_rfl
theorem aa9 (h : Hh) (l : List D) : j9 il h (.tup l) (.tup [.ty "list", .ty "tuple"]) = some (.bl true) := by kernel_rfl
theorem cG (h : Hh) (v : Int) : dN [.int v] h = .ok (.bl true) [] h := by
 simp [dN, bK, pN, startF, aO, dU, aD, aa, D.own, M.bind, M.ret, M.opt, mC, Tv, SN, D.tb, xM]
theorem Ol {vs : List Nat} {g : D → M Unit} {t : M Bool} {e : M D} {fr : Fr} {h : Hh} : ∀ {ds : List D}, (∀ d ∈ ds, lB vs g t e d fr h = .ok none fr h) → lL vs g t e ds fr h = .ok [] fr h
 | [], _ => rfl
 | d :: ds, hh => by
   unfold lL
   rw [M.bind_ok (hh d (aht)), M.bind_ok (Ol fun x hx => hh x (ahx _ hx))]
   rfl
theorem S7 {vs : List Nat} {g : D → M Unit} {t : M Bool} {e : M D} {fr : Fr} {h : Hh} {α : Type} {F : α → D} {F' : α → D} : ∀ {ds : List α}, (∀ d ∈ ds, lB vs g t e (F d) fr h = .ok (some (F' d)) fr h) → lL vs g t e (ds.map F) fr h = .ok (ds.map F') fr h
 | [], _ => rfl
 | d :: ds, hh => by
   rw [ahb, ahb]
   unfold lL
   rw [M.bind_ok (hh d (aht)), M.bind_ok (S7 fun x hx => hh x (ahx _ hx))]
   rfl
theorem Tw {h : Hh} {counts : List Int} {most : Int} (h0 : ∀ c ∈ counts, 0 ≤ c) (h1 : 1 ≤ counts.length) (h2 : (counts.length : Int) ≤ most) (h3 : counts.length ≤ 1000) : wk [.fl (counts.map .int), .int most] h = .ok (.bl true) [] h := by
 have hb : (counts.map D.int).length ≤ big := by rw [ahk]; exact Nat.le_of_lt (mV h3)
 have lc := Ol (vs := [2]) (g := wg) (t := wj) (e := Ar) (fr := [some (.fl (counts.map .int)), some (.int most), none]) (h := h) (ds := counts.map .int) (fun d hd => by
  obtain ⟨c, hc, rfl⟩ := List.mem_map.mp hd
  have c0 := h0 c hc
  have hn : ¬ c < 0 := by omega
  simp [wg, wj, lB, bM, iD, bV, aF, au, aj, M.bind, M.ret, M.opt, aa, D.own, aq, bu, cG, D.tru, aD, mC, cInt, hn, dW])
 rw [ahk] at hb
 have g1 : (1 : Int) ≤ counts.length := by omega
 have b2 : 2 ≤ big := by decide
 simp [wk, bK, zR, startF, aC, aU, iD, bV, aF, aD, aa, D.own, M.bind, M.ret, M.opt, mC, gA, aj, SQ, D.tru, ig, bW, D.its, D.der, aG, cInt, h2, g1, aO, uN, sY, DR, dW, hb, lc, fQ, b2]
theorem Ds {h : Hh} {l : List Int} {i : Nat} {t : Int} {j : Int} (hj : j = (i : Int)) (e : l[i]? = some t) : bF h (.fl (l.map .int)) (.int j) = some (.int t) := by
 subst hj
 have hl := (List.getElem?_eq_some_iff.mp e).1
 show atI (l.map D.int) i = _
 unfold atI
 have : ixN (l.map D.int).length (i : Int) = some i := by
  unfold ixN
  rw [ahk, if_pos (by omega), if_pos (by omega)]
  congr 1
 rw [this]
 simp [e]
theorem S8 {h : Hh} {l : List Int} (hp : l.Pairwise (· < ·)) : ∀ (suf pre : List Int), l = pre ++ suf → ∀ x1 x2 : Option D,
 ∃ y1 y2, dw (DN 2 (uJ (bM 1) (uJ (bM 2) DK))) pA (uh pre.length (suf.map .int)) [some (.fl (l.map .int)), x1, x2] h = .ok .nx [some (.fl (l.map .int)), y1, y2] h
 | [], pre, _, x1, x2 => ⟨x1, x2, rfl⟩
 | v :: suf, pre, hl, x1, x2 => by
   obtain ⟨y1, y2, e⟩ := S8 hp suf (pre ++ [v]) (by rw [hl]; simp) (some (.int pre.length)) (some (.int v))
   refine ⟨y1, y2, ?_⟩
   rw [← e]
   have ee : uh pre.length ((v :: suf).map D.int) = .tup [.int pre.length, .int v] :: uh (pre ++ [v]).length (suf.map .int) := by
    rw [ahj, ahl]
    rfl
   rw [ee]
   by_cases h0 : pre.length = 0
   · have hn : ¬ (0 : Int) < (pre.length : Int) := by omega
     have hn' : ¬ 0 < pre.length := by omega
     simp [dw, DN, uJ, bM, DK, M.bind, M.ret, M.opt, pA, aU, iD, bV, aF, au, aj, aa, D.own, aq, bu, cG, D.tru, yj, aD, mC, cInt, hn, hn']
   · have hp0 : (0 : Int) < (pre.length : Int) := by omega
     have hp0' : 0 < pre.length := by omega
     have ht : l[pre.length - 1]? = some (pre.getLast (fun z => h0 (by rw [z]; rfl))) := by
      rw [hl, ahB (by omega), List.getLast_eq_getElem, ahi (by omega)]
     generalize pre.getLast (fun z => h0 (by rw [z]; rfl)) = t at ht
     have hb : bF h (.fl (l.map .int)) (.int ((pre.length : Int) - 1)) = some (.int t) := Ds (by omega) ht
     have hv : l[pre.length]? = some v := by
      rw [hl, ahz (Nat.le_refl _), Nat.sub_self]
      rfl
     have hlt : t < v := by
      obtain ⟨i1, j1⟩ := List.getElem?_eq_some_iff.mp ht
      obtain ⟨i2, j2⟩ := List.getElem?_eq_some_iff.mp hv
      have := List.pairwise_iff_getElem.mp hp (pre.length - 1) pre.length i1 i2 (by omega)
      rw [j1, j2] at this
      exact this
     have hn : ¬ v ≤ t := by omega
     simp [dw, DN, uJ, bM, DK, M.bind, M.ret, M.opt, pA, aU, iD, bV, aF, au, aj, aa, D.own, aq, bu, cG, D.tru, yj, aD, mC, cInt, hp0, hp0', bj, fX, aG, dH, jF, hb, hn]
theorem Km {h : Hh} {l : List Int} (hp : l.Pairwise (· < ·)) : pO [.fl (l.map .int)] h = .ok (.bl true) [] h := by
 obtain ⟨y1, y2, e⟩ := S8 (h := h) hp l [] (by simp) none none
 have b2 : 2 ≤ big := by decide
 simp only [ahd] at e
 simp [pO, bK, xm, yG, startF, aC, aU, bV, aF, aD, aa, D.own, M.bind, M.ret, M.opt, mC, gA, aj, SQ, D.tru, b2, d9, Vt, D.lst, e, aO]
theorem Zf {h : Hh} {l : List Int} {t : Int} (e : l[l.length - 1]? = some t) : bF h (.fl (l.map .int)) (.int (-1)) = some (.int t) := HR (h := h) e
theorem Jz {h : Hh} {l : List Int} {lo hi : Int} (hp : l.Pairwise (· < ·)) (hin : ∀ x ∈ l, lo ≤ x ∧ x ≤ hi) : rN [.fl (l.map .int), .int lo, .int hi] h = .ok (.bl true) [] h := by
 cases l with
 | nil =>
   have a := Km (h := h) (l := []) List.Pairwise.nil
   simp only [ahf] at a
   simp [rN, bK, xQ, startF, aO, dU, aM, au, aj, M.bind, M.ret, M.opt, aa, D.own, aq, bu, a, D.fz, D.tb, Vp, aD, aF, bW, D.its, D.der, aG, mC, fQ]
 | cons x l =>
   have a := Km (h := h) hp
   have hl : (x :: l)[(x :: l).length - 1]? = some ((x :: l)[(x :: l).length - 1]'(by simp)) := ahi _
   have b1 : bF h (.fl ((x :: l).map .int)) (.int 0) = some (.int x) := Ds (i := 0) rfl rfl
   have b2 := Zf (h := h) hl
   have i1 := hin x (aht)
   have i2 := hin _ (ahq hl)
   generalize (x :: l)[(x :: l).length - 1]'(by simp) = t at b2 i2
   have nz : ((l.length : Int) + 1 == 0) = false := beq_eq_false_iff_ne.mpr (by omega)
   simp only [ahb] at a b1 b2
   simp [rN, bK, xQ, startF, aO, dU, aM, au, aj, M.bind, M.ret, M.opt, aa, D.own, aq, bu, a, D.fz, D.tb, Vp, aD, aF, bW, D.its, D.der, aG, mC, fQ, nz, bj, fX, b1, b2, sX, cInt, i1.1, i2.2]
end L
namespace L
open PySem PySem.Spec L2 Pk
theorem S9 : ∀ l : List Int, (l.map D.int).all D.flat = true
 | [] => rfl
 | _ :: l => by
   rw [ahb, List.all_cons, S9 l]
   rfl
theorem Vf (v : Int) : ∀ l : List Int, ((l.map D.int).any fun z => D.eqf z (.int v)) = decide (v ∈ l)
 | [] => by simp
 | a :: l => by
   rw [ahb, List.any_cons, Vf v l]
   by_cases h : a = v
   · subst h
     simp [D.eqf]
   · have h2 : ¬ v = a := fun z => h z.symm
     simp [D.eqf, h, h2]
theorem Pg (h : Hh) (v : Int) (l : List Int) : Qy h (.int v) (.fl (l.map .int)) = some (!decide (v ∈ l)) := by
 unfold Qy cIn
 show Option.map _ (if (D.int v).flat && (l.map D.int).all D.flat then some ((l.map D.int).any fun z => D.eqf z (.int v)) else none) = _
 rw [S9, Vf]
 rfl
theorem Om {n : Nat} {m : M Fl} {ds : List D} {fr0 fr' : Fr} {h h' : Hh} {d : D} (hf : startF n ds = fr0) (e : m fr0 h = .ok (.rt d) fr' h') : bK n m ds h = .ok d [] h' := by
 unfold bK
 rw [hf, e]
theorem aba {ma mb : M D} {fr fr1 fr2 : Fr} {h h1 h2 : Hh} {i j : Int} (e1 : ma fr h = .ok (.int i) fr1 h1) (e2 : mb fr1 h1 = .ok (.int j) fr2 h2) (s1 : jc i = true) (s2 : jc j = true) : sH ma mb fr h = .ok (fj i (j - i).toNat) fr2 h2 := by
 unfold sH
 rw [M.bind_ok e1, M.bind_ok e2]
 show M.opt (if jc i && jc j then some (fj i (j - i).toNat) else none) _ _ = _
 rw [s1, s2]
 rfl
theorem Mj {h : Hh} {counts cuts : List Int} {born : Int} {N : Nat} (g : Ez N born counts cuts) : ∀ (m j : Nat), 1 ≤ j → j + m = counts.length → ∀ x3 : Option D,
 ∃ y3, dw (bM 3) fG (fj j m) [some (.fl (counts.map .int)), some (.int born), some (.fl (cuts.map .int)), x3] h = .ok .nx [some (.fl (counts.map .int)), some (.int born), some (.fl (cuts.map .int)), y3] h
 | 0, _, _, _, x3 => ⟨x3, rfl⟩
 | m + 1, j, hj, hm, x3 => by
   obtain ⟨y3, e⟩ := Mj g m (j + 1) (by omega) (by omega) (some (.int j))
   refine ⟨y3, ?_⟩
   rw [oM]
   have ec : ((j + 1 : Nat) : Int) = (j : Int) + 1 := by omega
   rw [ec] at e
   rw [← e]
   have ha : counts[j - 1]? = some (counts[j - 1]'(by omega)) := ahi _
   have hb : counts[j]? = some (counts[j]'(by omega)) := ahi _
   generalize counts[j - 1]'(by omega) = a at ha
   generalize counts[j]'(by omega) = b at hb
   have ba := Ds (h := h) (j := (j : Int) - 1) (by omega) ha
   have bb := Ds (h := h) (j := (j : Int)) rfl hb
   by_cases hab : b < a
   · have hin := g.fall (j - 1) a b ha (by rw [show j - 1 + 1 = j by omega]; exact hb) hab
     have e3 : born + ((j - 1 : Nat) : Int) = born + (j : Int) - 1 := by omega
     rw [e3] at hin
     simp [dw, bM, fG, aU, yj, aD, bj, fX, aG, aa, D.own, M.bind, M.ret, M.opt, bb, ba, dH, jF, mC, cInt, hab, aM, bL, D.fz, Pg, hin]
   · simp [dw, bM, fG, aU, yj, aD, bj, fX, aG, aa, D.own, M.bind, M.ret, M.opt, bb, ba, dH, jF, mC, cInt, hab]
theorem V5 {h : Hh} {counts cuts : List Int} {born : Int} {N : Nat} (g : Ez N born counts cuts) (hl : counts.length ≤ 100) : jJ [.fl (counts.map .int), .int born, .fl (cuts.map .int)] h = .ok (.bl false) [] h := by
 have cl := g.cl
 obtain ⟨y3, e⟩ := Mj (h := h) g (counts.length - 1) 1 (Nat.le_refl _) (by omega) none
 have r0 := aba (fr := [some (.fl (counts.map .int)), some (.int born), some (.fl (cuts.map .int)), none]) (h := h) (ma := mC (.int 1)) (mb := aF bW (aG 0)) (i := 1) (j := ((counts.map D.int).length : Int)) rfl rfl (lX (by omega) (by omega)) (lX (by omega) (by rw [ahk]; omega))
 have e0 : (((counts.map D.int).length : Int) - 1).toNat = counts.length - 1 := by rw [ahk]; omega
 rw [e0] at r0
 have r := r0
 have e' : dw (bM 3) fG (fj 1 (counts.length - 1)) [some (.fl (counts.map .int)), some (.int born), some (.fl (cuts.map .int)), none] h = _ := e
 have st : jH [some (.fl (counts.map .int)), some (.int born), some (.fl (cuts.map .int)), none] h = (aO (mC (.bl false))) [some (.fl (counts.map .int)), some (.int born), some (.fl (cuts.map .int)), y3] h := by
  unfold jH aC d9
  rw [M.bind_ok ((M.bind_ok r).trans e')]
 exact Om (fr0 := [some (.fl (counts.map .int)), some (.int born), some (.fl (cuts.map .int)), none]) (by simp [startF]) (st.trans rfl)
theorem Ml {h : Hh} {a b d e' : Option D} : ∀ (ends : List (Int × Int)), (∀ p ∈ ends, 1 ≤ p.2) → ∀ x2 : Option D, ∃ y2, dw (bM 2) xq (ends.map pairD) [a, b, x2, d, e'] h = .ok .nx [a, b, y2, d, e'] h
 | [], _, x2 => ⟨x2, rfl⟩
 | p :: ends, hp, x2 => by
   obtain ⟨y2, e⟩ := Ml ends (fun q hq => hp q (ahx _ hq)) (some (pairD p))
   refine ⟨y2, ?_⟩
   rw [← e]
   have p1 := hp p (aht)
   have hn : ¬ p.2 < 1 := by omega
   have b2 : 2 ≤ big := by decide
   have i1 : ∀ l : List D, bF h (.tup l) (.int 1) = atI l 1 := fun l => rfl
   simp [dw, bM, xq, aU, iD, bV, aF, aD, aa, pairD, D.own, M.bind, M.ret, M.opt, gA, aj, mC, b2, aa9, D.tru, aG, bW, D.its, D.der, yW, fQ, au, bj, fX, i1, atI, ixN, aq, bu, cG, cInt, hn]
theorem Mp {h : Hh} {ends : List (Int × Int)} {gaps : List Int} (hg : gaps.Pairwise (· < ·)) (hs : (ends.map (·.1)).Sublist gaps) (hp : ∀ p ∈ ends, 1 ≤ p.2) (hl : gaps.length ≤ 100) : xR [.fl (ends.map pairD), .fl (gaps.map .int)] h = .ok (.bl true) [] h := by
 have hll := hs.length_le
 rw [ahk] at hll
 have asc := hg.sublist hs
 have hb : ends.length ≤ big := Nat.le_of_lt (mV (by omega))
 obtain ⟨y2, e1⟩ := Ml (h := h) (a := some (.fl (ends.map pairD))) (b := some (.fl (gaps.map .int))) (d := none) (e' := none) ends hp none
 have c1 := S7 (vs := [2]) (g := xr) (t := xF) (e := xG) (fr := [some (.fl (ends.map pairD)), some (.fl (gaps.map .int)), none, none, none]) (h := h) (F := pairD) (F' := fun p => .int p.1) (ds := ends) (fun p hp => by
  have i0 : ∀ l : List D, bF h (.tup l) (.int 0) = atI l 0 := fun l => rfl
  simp [lB, xr, xF, xG, bM, M.ret, bj, fX, aG, M.bind, M.opt, mC, pairD, i0, atI, ixN, dW])
 have e2 : (ends.map fun p => D.int p.1) = (ends.map (·.1)).map .int := by rw [List.map_map]; rfl
 rw [e2] at c1
 have c2 := Ol (vs := [4]) (g := xH) (t := xJ) (e := Dc) (fr := [some (.fl (ends.map pairD)), some (.fl (gaps.map .int)), none, some (.fl ((ends.map (·.1)).map .int)), none]) (h := h) (ds := (ends.map (·.1)).map .int) (fun d hd => by
  obtain ⟨c, hc, rfl⟩ := List.mem_map.mp hd
  have hin := hs.subset hc
  simp [lB, xH, xJ, bM, aD, aa, D.own, M.bind, M.ret, M.opt, aG, Pg, hin, dW])
 have a1 := Km (h := h) asc
 have b2 : 2 ≤ big := by decide
 have lb : ((ends.map (·.1)).map D.int).length ≤ big := by rw [ahk, ahk]; exact hb
 generalize (ends.map (·.1)).map D.int = fd at c1 c2 a1 lb
 simp [xR, bK, BK, De, Dd, startF, aC, aU, bV, aF, aD, aa, D.own, M.bind, M.ret, M.opt, mC, gA, aj, SQ, D.tru, b2, d9, sY, D.its, D.der, e1, bh, uN, DR, dW, hb, c1, aO, dU, aM, au, D.fz, aq, bu, a1, D.tb, bW, lb, c2, fQ]
end L
namespace L
open PySem PySem.Spec L2 Pk
theorem acZ {s n : M Fl} {fr fr1 : Fr} {h h1 : Hh} (e : s fr h = .ok .nx fr1 h1) : aC s n fr h = n fr1 h1 := by
 unfold aC
 rw [M.bind_ok e]
theorem Xx {t : M Bool} {m : M Fl} {fr fr1 : Fr} {h h1 : Hh} (e : t fr h = .ok false fr1 h1) : aU t m (M.ret .nx) fr h = .ok .nx fr1 h1 := by
 unfold aU
 rw [M.bind_ok e]
 rfl
theorem Zg {n : Nat} {F : Fn} {ma : M (List D)} {fr fr1 : Fr} {h h1 h2 : Hh} {args : List D} {b : Bool} (ea : ma fr h = .ok args fr1 h1) (eF : F args h1 = .ok (.bl b) [] h2) (hn : args.length = n) : aF D.tru (au n 0 F (aq []) ma (aj [])) fr h = .ok b fr1 h2 := by
 have e1 : au n 0 F (aq []) ma (aj []) fr h = .ok (.bl b) fr1 h2 := by
  unfold au
  rw [M.bind_ok ea]
  show (if args.length = n ∧ (0 : Nat) = 0 then bu fr1 (F (args ++ []) h1) else .err) = _
  rw [if_pos ⟨hn, rfl⟩, ahe, eF]
  rfl
 unfold aF
 rw [M.bind_ok e1]
 rfl
theorem V6 {h : Hh} {size born : Int} {counts cuts : List Int} {ends : List (Int × Int)} {gone : List Int} {N : Nat} (l : vg N size born counts cuts ends gone) (h2 : 2 ≤ size) (h4 : size ≤ 4) :
 yC [.fl (counts.map .int), .int size, .int born, .fl (cuts.map .int), .fl (ends.map pairD), .fl (gone.map .int)] h = .ok .non [] h := by
 have cl := l.g.cl
 have b0 := l.b0
 have fit := l.fit
 have lb : counts.length ≤ big := Nat.le_of_lt (mV (by omega))
 have s1 := Tw (h := h) (counts := counts) (most := size - born) l.g.pos (by omega) (by omega) (by omega)
 have s2 := Jz (h := h) (l := cuts) (lo := born) (hi := born + counts.length - 1 - 1) l.g.asc (fun x hx => by have := l.g.cin x hx; omega)
 have s3 := V5 (h := h) l.g (by omega)
 have s5 := Jz (h := h) (l := gone) (lo := born) (hi := born + counts.length - 1) l.asc (fun x hx => by have := l.gin x hx; omega)
 have n1 : born < size := by omega
 have t0 : u6 [some (.fl (counts.map .int)), some (.int size), some (.int born), some (.fl (cuts.map .int)), some (.fl (ends.map pairD)), some (.fl (gone.map .int)), none, none] h = qK [some (.fl (counts.map .int)), some (.int size), some (.int born), some (.fl (cuts.map .int)), some (.fl (ends.map pairD)), some (.fl (gone.map .int)), none, none] h := by
  simp [u6, aC, aU, iD, bV, aF, au, aj, aa, D.own, M.bind, M.ret, M.opt, aq, bu, cG, D.tru, ig, mC, cInt, h2, h4, b0, n1, aD, dH, jF, bh, aM, bL, bW, D.its, D.der, aG, D.fz, gU, aO]
 have t1 : qK [some (.fl (counts.map .int)), some (.int size), some (.int born), some (.fl (cuts.map .int)), some (.fl (ends.map pairD)), some (.fl (gone.map .int)), none, none] h = qJ [some (.fl (counts.map .int)), some (.int size), some (.int born), some (.fl (cuts.map .int)), some (.fl (ends.map pairD)), some (.fl (gone.map .int)), none, none] h := by
  simp [qK, aC, aU, iD, bV, aF, au, aj, aa, D.own, M.bind, M.ret, M.opt, aq, bu, cG, D.tru, ig, mC, cInt, h2, h4, b0, n1, aD, dH, jF, bh, aM, bL, bW, D.its, D.der, aG, D.fz, gU, aO]
 have t2 : qJ [some (.fl (counts.map .int)), some (.int size), some (.int born), some (.fl (cuts.map .int)), some (.fl (ends.map pairD)), some (.fl (gone.map .int)), none, none] h = qI [some (.fl (counts.map .int)), some (.int size), some (.int born), some (.fl (cuts.map .int)), some (.fl (ends.map pairD)), some (.fl (gone.map .int)), none, none] h := by
  simp [qJ, aC, aU, iD, bV, aF, au, aj, aa, D.own, M.bind, M.ret, M.opt, aq, bu, cG, D.tru, ig, mC, cInt, h2, h4, b0, n1, aD, dH, jF, bh, aM, bL, bW, D.its, D.der, aG, D.fz, gU, aO, s1]
 have t3 : qI [some (.fl (counts.map .int)), some (.int size), some (.int born), some (.fl (cuts.map .int)), some (.fl (ends.map pairD)), some (.fl (gone.map .int)), none, none] h = qH [some (.fl (counts.map .int)), some (.int size), some (.int born), some (.fl (cuts.map .int)), some (.fl (ends.map pairD)), some (.fl (gone.map .int)), some (.int (born + counts.length - 1)), none] h := by
  simp [qI, aC, aU, iD, bV, aF, au, aj, aa, D.own, M.bind, M.ret, M.opt, aq, bu, cG, D.tru, ig, mC, cInt, h2, h4, b0, n1, aD, dH, jF, bh, aM, bL, bW, D.its, D.der, aG, D.fz, gU, aO]
 have t4 : qH [some (.fl (counts.map .int)), some (.int size), some (.int born), some (.fl (cuts.map .int)), some (.fl (ends.map pairD)), some (.fl (gone.map .int)), some (.int (born + counts.length - 1)), none] h = vp [some (.fl (counts.map .int)), some (.int size), some (.int born), some (.fl (cuts.map .int)), some (.fl (ends.map pairD)), some (.fl (gone.map .int)), some (.int (born + counts.length - 1)), none] h := by
  simp [qH, aC, aU, iD, bV, aF, au, aj, aa, D.own, M.bind, M.ret, M.opt, aq, bu, cG, D.tru, ig, mC, cInt, h2, h4, b0, n1, aD, dH, jF, bh, aM, bL, bW, D.its, D.der, aG, D.fz, gU, aO, s2]
 have t5 : vp [some (.fl (counts.map .int)), some (.int size), some (.int born), some (.fl (cuts.map .int)), some (.fl (ends.map pairD)), some (.fl (gone.map .int)), some (.int (born + counts.length - 1)), none] h = qG [some (.fl (counts.map .int)), some (.int size), some (.int born), some (.fl (cuts.map .int)), some (.fl (ends.map pairD)), some (.fl (gone.map .int)), some (.int (born + counts.length - 1)), none] h := by
  have tt : (aF D.tru (au 3 0 jJ (aq []) (aj [(aa 0), (aa 2), (aa 3)]) (aj []))) [some (.fl (counts.map .int)), some (.int size), some (.int born), some (.fl (cuts.map .int)), some (.fl (ends.map pairD)), some (.fl (gone.map .int)), some (.int (born + counts.length - 1)), none] h = .ok false [some (.fl (counts.map .int)), some (.int size), some (.int born), some (.fl (cuts.map .int)), some (.fl (ends.map pairD)), some (.fl (gone.map .int)), some (.int (born + counts.length - 1)), none] h := by
   refine Zg (args := [.fl (counts.map .int), .int born, .fl (cuts.map .int)]) ?_ s3 rfl
   simp [aj, aa, D.own, M.bind, M.ret]
  exact acZ (Xx tt)
 have t6 : qG [some (.fl (counts.map .int)), some (.int size), some (.int born), some (.fl (cuts.map .int)), some (.fl (ends.map pairD)), some (.fl (gone.map .int)), some (.int (born + counts.length - 1)), none] h = jQ [some (.fl (counts.map .int)), some (.int size), some (.int born), some (.fl (cuts.map .int)), some (.fl (ends.map pairD)), some (.fl (gone.map .int)), some (.int (born + counts.length - 1)), some (.nl (cuts.map .int))] h := by
  simp [qG, aC, aU, iD, bV, aF, au, aj, aa, D.own, M.bind, M.ret, M.opt, aq, bu, cG, D.tru, ig, mC, cInt, h2, h4, b0, n1, aD, dH, jF, bh, aM, bL, bW, D.its, D.der, aG, D.fz, gU, aO]
 by_cases hs : born + counts.length < size
 · have hsub := l.sub
   rw [if_pos hs] at hsub
   have s4 := Mp (h := h) (ends := ends) (gaps := cuts ++ [born + counts.length - 1]) (by
    rw [List.pairwise_append]
    refine ⟨l.g.asc, List.pairwise_singleton _ _, fun x hx y hy => ?_⟩
    rw [ahw] at hy
    have := l.g.cin x hx
    omega) hsub (fun p hp => (l.pos p hp).1) (by rw [ahj, ahl]; omega)
   rw [List.map_append, ahb, ahf] at s4
   have n2 : born + (counts.length : Int) - 1 < size - 1 := by omega
   have kb : cuts.length < big := mV (by omega)
   have t7 : jQ [some (.fl (counts.map .int)), some (.int size), some (.int born), some (.fl (cuts.map .int)), some (.fl (ends.map pairD)), some (.fl (gone.map .int)), some (.int (born + counts.length - 1)), some (.nl (cuts.map .int))] h = iY [some (.fl (counts.map .int)), some (.int size), some (.int born), some (.fl (cuts.map .int)), some (.fl (ends.map pairD)), some (.fl (gone.map .int)), some (.int (born + counts.length - 1)), some (.nl (cuts.map .int ++ [.int (born + counts.length - 1)]))] h := by
    simp [jQ, aC, aU, iD, bV, aF, au, aj, aa, D.own, M.bind, M.ret, M.opt, aq, bu, cG, D.tru, ig, mC, cInt, h2, h4, b0, n1, aD, dH, jF, bh, aM, bL, bW, D.its, D.der, aG, D.fz, gU, aO, n2, iK, jZ, bG, jG, tD, kb]
   have t8 : iY [some (.fl (counts.map .int)), some (.int size), some (.int born), some (.fl (cuts.map .int)), some (.fl (ends.map pairD)), some (.fl (gone.map .int)), some (.int (born + counts.length - 1)), some (.nl (cuts.map .int ++ [.int (born + counts.length - 1)]))] h = iW [some (.fl (counts.map .int)), some (.int size), some (.int born), some (.fl (cuts.map .int)), some (.fl (ends.map pairD)), some (.fl (gone.map .int)), some (.int (born + counts.length - 1)), some (.fl (cuts.map .int ++ [.int (born + counts.length - 1)]))] h := by
    simp [iY, aC, aU, iD, bV, aF, au, aj, aa, D.own, M.bind, M.ret, M.opt, aq, bu, cG, D.tru, ig, mC, cInt, h2, h4, b0, n1, aD, dH, jF, bh, aM, bL, bW, D.its, D.der, aG, D.fz, gU, aO, s4]
   have t9 : iW [some (.fl (counts.map .int)), some (.int size), some (.int born), some (.fl (cuts.map .int)), some (.fl (ends.map pairD)), some (.fl (gone.map .int)), some (.int (born + counts.length - 1)), some (.fl (cuts.map .int ++ [.int (born + counts.length - 1)]))] h = .ok (.rt .non) [some (.fl (counts.map .int)), some (.int size), some (.int born), some (.fl (cuts.map .int)), some (.fl (ends.map pairD)), some (.fl (gone.map .int)), some (.int (born + counts.length - 1)), some (.fl (cuts.map .int ++ [.int (born + counts.length - 1)]))] h := by
    simp [iW, aC, aU, iD, bV, aF, au, aj, aa, D.own, M.bind, M.ret, M.opt, aq, bu, cG, D.tru, ig, mC, cInt, h2, h4, b0, n1, aD, dH, jF, bh, aM, bL, bW, D.its, D.der, aG, D.fz, gU, aO, s5]
   exact Om (by simp [startF]) (t0.trans (t1.trans (t2.trans (t3.trans (t4.trans (t5.trans (t6.trans (t7.trans (t8.trans t9)))))))))
 · have hsub := l.sub
   rw [if_neg hs, ahe] at hsub
   have s4 := Mp (h := h) (ends := ends) (gaps := cuts) l.g.asc hsub (fun p hp => (l.pos p hp).1) (by omega)
   have n2 : ¬ born + (counts.length : Int) - 1 < size - 1 := by omega
   have t7 : jQ [some (.fl (counts.map .int)), some (.int size), some (.int born), some (.fl (cuts.map .int)), some (.fl (ends.map pairD)), some (.fl (gone.map .int)), some (.int (born + counts.length - 1)), some (.nl (cuts.map .int))] h = iY [some (.fl (counts.map .int)), some (.int size), some (.int born), some (.fl (cuts.map .int)), some (.fl (ends.map pairD)), some (.fl (gone.map .int)), some (.int (born + counts.length - 1)), some (.nl (cuts.map .int))] h := by
    simp [jQ, aC, aU, iD, bV, aF, au, aj, aa, D.own, M.bind, M.ret, M.opt, aq, bu, cG, D.tru, ig, mC, cInt, h2, h4, b0, n1, aD, dH, jF, bh, aM, bL, bW, D.its, D.der, aG, D.fz, gU, aO, n2]
   have t8 : iY [some (.fl (counts.map .int)), some (.int size), some (.int born), some (.fl (cuts.map .int)), some (.fl (ends.map pairD)), some (.fl (gone.map .int)), some (.int (born + counts.length - 1)), some (.nl (cuts.map .int))] h = iW [some (.fl (counts.map .int)), some (.int size), some (.int born), some (.fl (cuts.map .int)), some (.fl (ends.map pairD)), some (.fl (gone.map .int)), some (.int (born + counts.length - 1)), some (.fl (cuts.map .int))] h := by
    simp [iY, aC, aU, iD, bV, aF, au, aj, aa, D.own, M.bind, M.ret, M.opt, aq, bu, cG, D.tru, ig, mC, cInt, h2, h4, b0, n1, aD, dH, jF, bh, aM, bL, bW, D.its, D.der, aG, D.fz, gU, aO, s4]
   have t9 : iW [some (.fl (counts.map .int)), some (.int size), some (.int born), some (.fl (cuts.map .int)), some (.fl (ends.map pairD)), some (.fl (gone.map .int)), some (.int (born + counts.length - 1)), some (.fl (cuts.map .int))] h = .ok (.rt .non) [some (.fl (counts.map .int)), some (.int size), some (.int born), some (.fl (cuts.map .int)), some (.fl (ends.map pairD)), some (.fl (gone.map .int)), some (.int (born + counts.length - 1)), some (.fl (cuts.map .int))] h := by
    simp [iW, aC, aU, iD, bV, aF, au, aj, aa, D.own, M.bind, M.ret, M.opt, aq, bu, cG, D.tru, ig, mC, cInt, h2, h4, b0, n1, aD, dH, jF, bh, aM, bL, bW, D.its, D.der, aG, D.fz, gU, aO, s5]
   exact Om (by simp [startF]) (t0.trans (t1.trans (t2.trans (t3.trans (t4.trans (t5.trans (t6.trans (t7.trans (t8.trans t9)))))))))
def Jc (size born : Int) (counts cuts : List Int) (ends : List (Int × Int)) (gone : List Int) : List D :=
 [.int size, .int born, .tup (counts.map .int), .tup (cuts.map .int), .tup (ends.map pairD), .tup (gone.map .int)]
theorem Xy {h : Hh} {size born : Int} {counts cuts : List Int} {ends : List (Int × Int)} {gone : List Int} {N : Nat} (l : vg N size born counts cuts ends gone) (h2 : 2 ≤ size) (h4 : size ≤ 4) :
 lU [.fl (counts.map .int), .int size, .int born, .fl (cuts.map .int), .fl (ends.map pairD), .fl (gone.map .int)] h = .ok (.no 0 (Jc size born counts cuts ends gone)) [] h := by
 have f0 := V6 (h := h) l h2 h4
 have cl := l.g.cl
 have fit := l.fit
 have b0 := l.b0
 have el : ends.length ≤ big := by
  have a := l.sub.length_le
  rw [ahk, ahj] at a
  have : (if born + (counts.length : Int) < size then [born + (counts.length : Int) - 1] else []).length ≤ 1 := by split <;> simp
  exact Nat.le_of_lt (mV (by omega))
 have b2 : 2 ≤ big := by decide
 have c1 := S7 (vs := [8, 9]) (g := ni) (t := nj) (e := nu)
  (fr := [some (.no 0 [.int size, .int born, .tup (counts.map .int), .tup (cuts.map .int)]), some (.fl (counts.map .int)), some (.int size), some (.int born), some (.fl (cuts.map .int)), some (.fl (ends.map pairD)), some (.fl (gone.map .int)), some .non, none, none]) (h := h) (F := pairD) (F' := pairD) (ds := ends) (fun p hp => by
  simp [lB, ni, nj, nu, DN, uJ, bM, DK, pairD, M.bind, M.ret, M.opt, gA, aj, aa, D.own, b2, dW])
 simp [lU, runI, qL, uE, uD, uC, uB, uA, uz, startF, aC, bh, au, aj, aa, D.own, M.bind, M.ret, M.opt, aq, bu, f0, aU, aD, mC, Vo, D.isNon, jO, tE, bH, qC, oE, j5, qD, uo, ahm, nZ, aF, uI, D.its, D.der, aG, uN, sY, DR, dW, el, c1, Jc]
end L
namespace L
open PySem PySem.Spec L2 Pk
theorem abb (h : Hh) (l : List D) (i : Int) : bF h (.tup l) (.int i) = atI l i := rfl
theorem Xz {h : Hh} {size born : Int} {counts cuts : List Int} {ends : List (Int × Int)} {gone : List Int} {N : Nat} (l : vg N size born counts cuts ends gone) (h2 : 2 ≤ size) (h4 : size ≤ 4) :
 dD [j8 born counts cuts ends gone, .int size] h = .ok (.no 0 (Jc size born counts cuts ends gone)) [] h := by
 have e := Xy (h := h) l h2 h4
 have a0 : atI [D.int born, .fl (counts.map .int), .fl (cuts.map .int), .fl (ends.map pairD), .fl (gone.map .int)] 0 = some (.int born) := rfl
 have a1 : atI [D.int born, .fl (counts.map .int), .fl (cuts.map .int), .fl (ends.map pairD), .fl (gone.map .int)] 1 = some (.fl (counts.map .int)) := rfl
 have a2 : atI [D.int born, .fl (counts.map .int), .fl (cuts.map .int), .fl (ends.map pairD), .fl (gone.map .int)] 2 = some (.fl (cuts.map .int)) := rfl
 have a3 : atI [D.int born, .fl (counts.map .int), .fl (cuts.map .int), .fl (ends.map pairD), .fl (gone.map .int)] 3 = some (.fl (ends.map pairD)) := rfl
 have a4 : atI [D.int born, .fl (counts.map .int), .fl (cuts.map .int), .fl (ends.map pairD), .fl (gone.map .int)] 4 = some (.fl (gone.map .int)) := rfl
 simp [dD, bK, BL, startF, j8, aO, au, aj, aM, aF, gU, bj, fX, aG, mC, aa, D.own, D.fz, M.bind, M.ret, M.opt, abb, a0, a1, a2, a3, a4, D.its, D.der, GX, pick, e, bu]
theorem Tz {h : Hh} {ns : List Int} {k : Nat} (hk : k ≤ 62) : ∃ a b, jE [.kl (ns.map .int), .int k] h = .ok (.nl [.int a, .int b, .int 0]) [] h ∧ 0 ≤ b ∧ b < 2 ^ 33 := by
 have p18 : vP 10 18 = true := by decide
 have b3 : 3 ≤ big := by decide
 have c1 : Mz 15485863 (k : Int) = true := by
  have l2 : ((15485863 : Int)).natAbs.log2 < 64 := log2_lt (by decide) (by decide)
  have l1 : ((k : Int)).natAbs.log2 < 64 := log2_lt (by omega) (by decide)
  exact decide_eq_true (by omega)
 have main : ∀ v : Int, (if (k : Int) < ns.length then bF h (.kl (ns.map .int)) (.int k) = some (.int v) else v = 0) → ∃ a b, jE [.kl (ns.map .int), .int k] h = .ok (.nl [.int a, .int b, .int 0]) [] h ∧ 0 ≤ b ∧ b < 2 ^ 33 := fun v hv => by
  have hb0 : 0 ≤ v % 2147483629 := Int.emod_nonneg _ (by decide)
  have hb1 : v % 2147483629 < 2147483629 := Int.emod_lt_of_pos _ (by decide)
  refine ⟨if (1000000000000000000 : Int) ≤ (if v < 0 then -v else v) then (if v < 0 then -v else v) else 0, v % 2147483629 + 15485863 * (k : Int) + 7919, ?_, by omega, by omega⟩
  by_cases hl : (k : Int) < ns.length
  · rw [if_pos hl] at hv
    have hl' : k < ns.length := by omega
    by_cases hbig : (1000000000000000000 : Int) ≤ (if v < 0 then -v else v)
    · simp [jE, bK, qW, qF, startF, aC, bh, Gr, aD, aa, D.own, M.bind, M.ret, M.opt, aF, bW, aG, D.its, D.der, cInt, hl, hl', bj, fX, hv, mC, JF, dH, p18, hbig, aO, dC, aj, aM, bL, D.fz, sE, z8, c1, b3]
    · simp [jE, bK, qW, qF, startF, aC, bh, Gr, aD, aa, D.own, M.bind, M.ret, M.opt, aF, bW, aG, D.its, D.der, cInt, hl, hl', bj, fX, hv, mC, JF, dH, p18, hbig, aO, dC, aj, aM, bL, D.fz, sE, z8, c1, b3]
  · rw [if_neg hl] at hv
    subst hv
    have hl' : ¬ k < ns.length := by omega
    simp [jE, bK, qW, qF, startF, aC, bh, Gr, aD, aa, D.own, M.bind, M.ret, M.opt, aF, bW, aG, D.its, D.der, cInt, hl, hl', mC, JF, dH, p18, aO, dC, aj, aM, bL, D.fz, sE, z8, c1, b3]
 by_cases hl : (k : Int) < ns.length
 · have e : ns[k]? = some (ns[k]'(by omega)) := ahi _
   exact main _ (by rw [if_pos hl]; exact Ds (h := h) rfl e)
 · exact main 0 (by rw [if_neg hl])
end L
namespace L
open PySem PySem.Spec L2 Pk
structure Lv where
 born : Int
 counts : List Int
 cuts : List Int
 ends : List (Int × Int)
 gone : List Int
 deriving DecidableEq
def Lv.d (l : Lv) : D := j8 l.born l.counts l.cuts l.ends l.gone
def Lv.fs (size : Int) (l : Lv) : List D := Jc size l.born l.counts l.cuts l.ends l.gone
def Lv.okN (N : Nat) (size : Int) (l : Lv) : Prop := vg N size l.born l.counts l.cuts l.ends l.gone
theorem Lv.own_d (l : Lv) : l.d.own = false := rfl
theorem Lv.fz_d (l : Lv) : l.d.fz = l.d := rfl
def Em.pI : Em (Int × Int) := Em.pair Em.int Em.int
theorem EY (p : Int × Int) : (pairD p).toP = some (Em.pI.f p) := by unfold pairD D.toP; rfl
def Em.lv : Em Lv where
 f := fun l => .tuple [Em.int.f l.born, Em.int.list.f l.counts, Em.int.list.f l.cuts, Em.pI.list.f l.ends, Em.int.list.f l.gone]
 n := 4
 ok := fun _ => True
 lay := fun l _ => by
  have e1 := Em.int.list.lay l.counts (fun _ _ => trivial)
  have e2 := Em.int.list.lay l.cuts (fun _ _ => trivial)
  have e3 := Em.pI.list.lay l.ends (fun _ _ => ⟨trivial, trivial⟩)
  have e4 := Em.int.list.lay l.gone (fun _ _ => trivial)
  show PyData.canLayAll0 [_, _, _, _, _] = true
  simp only [PyData.canLayAll0, e1, e2, e3, e4, Em.int.lay l.born trivial, Bool.and_self]
 dep := fun l => by
  have e0 := Em.int.dep l.born
  have e1 := Em.int.list.dep l.counts
  have e2 := Em.int.list.dep l.cuts
  have e3 := Em.pI.list.dep l.ends
  have e4 := Em.int.list.dep l.gone
  have n0 : Em.int.n ≤ 3 := by decide
  have n1 : Em.int.list.n ≤ 3 := by decide
  have n2 : Em.pI.list.n ≤ 3 := by decide
  simp only [PyData.depth, PyData.depthAll]
  omega
 eq := fun l m => by
  show PyData.eqvAll [_, _, _, _, _] [_, _, _, _, _] = _
  simp only [PyData.eqvAll, Em.int.eq, Em.int.list.eq, Em.pI.list.eq, Bool.and_true]
  cases l
  cases m
  simp only [Lv.mk.injEq, Bool.decide_and]
theorem HS (l : Lv) : l.d.toP = some (Em.lv.f l) := by
 unfold Lv.d j8
 simp only [D.toP, D.toPs, RP Em.int Ja, RP Em.pI EY, xj Em.int Ja, xj Em.pI EY, Option.map_some]
 rfl
theorem ac0 {h : Hh} {l m : List (Int × Int)} : fY h (.tup (l.map pairD)) (.tup (m.map pairD)) = some (decide (l = m)) := RN Em.pI.tup (IW Em.pI EY l) (IW Em.pI EY m) (fun _ _ => ⟨trivial, trivial⟩) (fun _ _ => ⟨trivial, trivial⟩) (by decide)
theorem Jd (h : Hh) (l : List D) : j9 il h (.obj 0 l) (.cls 0) = some (.bl true) := by kernel_rfl
theorem adQ {l m : Lv} : decide (l = m) = (decide (l.born = m.born) && (decide (l.counts = m.counts) && (decide (l.cuts = m.cuts) && (decide (l.ends = m.ends) && decide (l.gone = m.gone))))) := by
 cases l
 cases m
 simp only [Lv.mk.injEq, Bool.decide_and]
theorem Mq {h : Hh} {s s' : Int} {l m : Lv} : cI [.obj 0 (l.fs s), .obj 0 (m.fs s')] h = .ok (.bl (decide (s = s') && decide (l = m))) [] h := by
 rw [adQ]
 have q3 := fun {l m} => aa1 (h := h) (l := l) (m := m)
 have q5 := fun {l m} => ac0 (h := h) (l := l) (m := m)
 simp only [Lv.fs, Jc]
 apply Wp.eq
 by_cases z1 : s = s'
 · by_cases z2 : l.born = m.born
   · by_cases z3 : l.counts = m.counts
     · by_cases z4 : l.cuts = m.cuts
       · by_cases z5 : l.ends = m.ends
         · by_cases z6 : l.gone = m.gone <;> simp only [↓fV, ↓cW, startF, z1, z2, z3, z4, z5, z6, ahb, ahf, ag9, ahd, Nat.zero_add, Nat.reduceAdd, Nat.reduceSub, ahu, ahn, ahr, aho, bB, ↓gM, ↓cP, ↓dB, ↓jn, ↓dM, ↓fu, ↓bO, ahh, aha, ahg, ahc, aX, vH, cZ, ↓iV, Jd, aY, jr, Bool.not_true, ↓fD, dh, ↓fZ, ↓iH, ↓nO, ↓dJ, nQ, jC, oA, decide_true, Option.map_some, lQ, kh, uf, vf, q3, ↓eQ, CV, wD, HQ, q5, Tu, fW, Bool.and_true, and_self, decide_false, Bool.and_false]
         · simp only [↓fV, ↓cW, startF, z1, z2, z3, z4, ahb, ahf, ag9, ahd, Nat.zero_add, Nat.reduceAdd, Nat.reduceSub, ahu, ahn, ahr, aho, bB, ↓gM, ↓cP, ↓dB, ↓jn, ↓dM, ↓fu, ↓bO, ahh, aha, ahg, ahc, aX, vH, cZ, ↓iV, Jd, aY, jr, Bool.not_true, ↓fD, dh, ↓fZ, ↓iH, ↓nO, ↓dJ, nQ, jC, oA, decide_true, Option.map_some, lQ, kh, uf, vf, q3, ↓eQ, CV, wD, HQ, q5, z5, decide_false, fW, Bool.false_and, Bool.and_false, and_self]
       · simp only [↓fV, ↓cW, startF, z1, z2, z3, ahb, ahf, ag9, ahd, Nat.zero_add, Nat.reduceAdd, Nat.reduceSub, ahu, ahn, ahr, aho, bB, ↓gM, ↓cP, ↓dB, ↓jn, ↓dM, ↓fu, ↓bO, ahh, aha, ahg, ahc, aX, vH, cZ, ↓iV, Jd, aY, jr, Bool.not_true, ↓fD, dh, ↓fZ, ↓iH, ↓nO, ↓dJ, nQ, jC, oA, decide_true, Option.map_some, lQ, kh, uf, vf, q3, ↓eQ, CV, wD, z4, decide_false, fW, Bool.false_and, Bool.and_false, and_self]
     · simp only [↓fV, ↓cW, startF, z1, z2, ahb, ahf, ag9, ahd, Nat.zero_add, Nat.reduceAdd, Nat.reduceSub, ahu, ahn, ahr, aho, bB, ↓gM, ↓cP, ↓dB, ↓jn, ↓dM, ↓fu, ↓bO, ahh, aha, ahg, ahc, aX, vH, cZ, ↓iV, Jd, aY, jr, Bool.not_true, ↓fD, dh, ↓fZ, ↓iH, ↓nO, ↓dJ, nQ, jC, oA, decide_true, Option.map_some, lQ, kh, uf, vf, q3, z3, decide_false, ↓eQ, CV, fW, Bool.false_and, Bool.and_false, and_self]
   · simp only [↓fV, ↓cW, startF, z1, ahb, ahf, ag9, ahd, Nat.zero_add, Nat.reduceAdd, Nat.reduceSub, ahu, ahn, ahr, aho, bB, ↓gM, ↓cP, ↓dB, ↓jn, ↓dM, ↓fu, ↓bO, ahh, aha, ahg, ahc, aX, vH, cZ, ↓iV, Jd, aY, jr, Bool.not_true, ↓fD, dh, ↓fZ, ↓iH, ↓nO, ↓dJ, nQ, jC, oA, decide_true, Option.map_some, lQ, kh, uf, z2, decide_false, ↓eQ, CV, fW, Bool.false_and, Bool.and_false, and_self]
 · simp only [↓fV, ↓cW, startF, ahb, ahf, ag9, ahd, Nat.zero_add, Nat.reduceAdd, Nat.reduceSub, ahu, ahn, ahr, aho, bB, ↓gM, ↓cP, ↓dB, ↓jn, ↓dM, ↓fu, ↓bO, ahh, aha, ahg, ahc, aX, vH, cZ, ↓iV, Jd, aY, jr, Bool.not_true, ↓fD, dh, ↓fZ, ↓iH, ↓nO, ↓dJ, nQ, jC, oA, z1, decide_false, Option.map_some, lQ, ↓eQ, CV, fW, Bool.false_and, and_self]
def Lv.i (size : Int) (l : Lv) : D := .obj 0 (l.fs size)
abbrev Lv.ok (size : Int) (l : Lv) : Prop := Lv.okN 200 size l
theorem Lv.own_i (size : Int) (l : Lv) : (l.i size).own = false := rfl
theorem Lv.fz_i (size : Int) (l : Lv) : (l.i size).fz = l.i size := rfl
inductive Kd : D → Prop where
 | int {i : Int} : Kd (.int i)
 | non : Kd .non
 | bl {b : Bool} : Kd (.bl b)
 | str {s : Str} : Kd (.str s)
 | tup {l : List D} : Kd (.tup l)
 | fl {l : List D} : Kd (.fl l)
theorem Kd.own {d : D} (o : Kd d) : d.own = false := by cases o <;> rfl
theorem Kd.fz {d : D} (o : Kd d) : d.fz = d := by cases o <;> rfl
def hD (size : Int) (ls : List Lv) : D := .obj 1 [.int size, .tup (ls.map (Lv.i size))]
section
variable {h : Hh} {size wide : Int} {ls ms : List Lv}
theorem Mr : bQ [.int size, .tup (ls.map (Lv.i size))] h = .ok (.no 1 [.int size, .tup (ls.map (Lv.i size))]) [] h := by
 apply Wp.eq
 simp only [↓Ey, ↓aaV, startF, ahb, ahf, ag9, ahd, Nat.zero_add, Nat.reduceAdd, Nat.reduceSub, ahu, ahn, ahr, aho, bB, ↓Gf, ↓cP, ↓yO, ↓Ld, ↓bO, ahh, aha, ahg, ahc, aX, NK, cZ, rK, aY]
 refine Xi (fun _ fr h' => ∃ x3, fr = [some (.no 1 []), some (.int size), some (.tup (ls.map (Lv.i size))), x3] ∧ h' = h) ⟨none, rfl, rfl⟩ ?_ ?_
 · rintro pre l suf fr h' e ⟨x3, rfl, rfl⟩
   simp only [↓ul, Lv.i, Lv.fs, Jc, ahg, ahc, bB, ↓BV, ↓dB, ↓fu, ↓dM, ↓dJ, ahh, aha, aX, nQ, jC, aY, CW, oA, decide_true, Option.map_some, Bool.not_true, cZ, ↓fD, v9, and_true]
   exact ⟨_, rfl⟩
 · rintro fr h' ⟨x3, rfl, rfl⟩
   simp only [aha, dh, ↓BW, ↓cP, ↓Xe, ↓bO, ahh, ahg, ahc, aX, jo, cZ, ↓aaU, Bb, aY, ahd, Xh, aho, bB, ↓dM, ↓dJ, Xf, rK, Option.map_some, jY, ag9, Nat.zero_add, ahr, YM, and_self]
theorem aeC (hl : ls.length + ms.length ≤ 1000) : jt [hD size ls, hD size ms] h = .ok (.no 1 [.int size, .tup ((ls ++ ms).map (Lv.i size))]) [] h := by
 have hi := Mr (h := h) (size := size) (ls := ls ++ ms)
 have hb : ls.length + ms.length ≤ 100000 := by omega
 rw [List.map_append] at *
 apply Wp.eq
 simp only [↓Gg, ↓cW, startF, hD, ahb, ahf, ag9, ahd, Nat.zero_add, Nat.reduceAdd, Nat.reduceSub, ahu, ahn, ahr, aho, bB, ↓Hv, ↓cP, ↓dB, ↓fu, ↓dM, ↓dJ, aha, aX, nQ, Bb, aY, ahh, CW, oA, decide_true, Option.map_some, Bool.not_true, cZ, ↓fD, dh, ↓Do, ↓iH, jY, ahg, ahc, RM, ahk, km, hb, ↓reduceIte, ↓eQ, ↓U0, ↓bO, NK, ↓bZ, ↓bT, rK, ahj, zN, hi, ↓cD, fW, and_self]
theorem Dt {N : Nat} {l : Lv} (o : l.okN N size) (h2 : 2 ≤ size) (h4 : size ≤ 4) : dD [l.d, .int size] h = .ok (.no 0 (l.fs size)) [] h := Xz o h2 h4
theorem Oo {n : Int} {l : List D} : gJ [.obj 1 [.int n, .tup l]] h = .ok (.int l.length) [] h := by
 apply Wp.eq
 simp only [↓Gh, ↓cW, startF, ahb, ahf, ag9, ahd, Nat.zero_add, Nat.reduceSub, ahn, ahe, bB, ↓HF, ↓eQ, ↓dM, ↓dJ, aha, aX, nQ, jY, aY, ahh, xg, fW, and_self]
theorem Ot {k : Nat} {l : Lv} (hl : ls.length ≤ 100) (e : ls[k]? = some l) : cU [.obj 1 [.int size, .tup (ls.map (Lv.i size))], .int k] h = .ok (l.i size) [] h := by
 have hk : k < ls.length := (List.getElem?_eq_some_iff.mp e).1
 have is := cG h k
 have a : atI (ls.map (Lv.i size)) (k : Int) = some (l.i size) := by rw [zL, ahy, e]; rfl
 have c0 : (0 : Int) ≤ k := by omega
 have c1 : (k : Int) < ls.length := by omega
 apply Wp.eq
 simp only [↓uF, ↓cW, startF, ahb, ahf, ag9, ahd, Nat.zero_add, Nat.reduceAdd, Nat.reduceSub, ahn, ahe, bB, ↓uU, ↓eQ, ↓fu, ↓dM, ↓dJ, aha, aX, nQ, jY, aY, ahh, ↓lD, ↓yP, ↓bO, ahc, vH, cZ, YS, Sy, ↓bZ, ahg, jo, ↓bT, ↓lM, cX, ↓mU, ↓cP, ↓dB, ↓xP, ↓jn, ↓dI, is, ↓cD, jr, Bool.not_true, ↓Eo, ↓iV, Ep, c0, decide_true, kh, xg, ahk, c1, ↓fD, dh, ↓Nz, fW, tV, JT, a, and_self]
end
end L
namespace L
open PySem PySem.Spec L2 Pk
theorem ac1 {h : Hh} {d : D} (o : Kd d) : j9 il h d (.cls 0) = some (.bl false) := by cases o <;> kernel_rfl
theorem adR {h : Hh} {d : D} (o : Kd d) : (d.bty h).isSome = true := by cases o <;> rfl
theorem abd {h : Hh} {fs : List D} {d : D} (o : Kd d) : cI [.obj 0 fs, d] h = .ok (.bl false) [] h := by
 apply Wp.eq
 simp only [↓fV, ↓cW, startF, ahb, ahf, ag9, ahd, Nat.zero_add, Nat.reduceAdd, Nat.reduceSub, ahu, ahn, ahr, aho, bB, ↓gM, ↓cP, ↓dB, ↓jn, ↓dM, ↓fu, ↓bO, ahh, aha, ahg, ahc, aX, o.own, cZ, ↓iV, ac1 o, aY, jr, Bool.not_false, kh, ↓eQ, Xd, fW, and_self]
section
variable {h : Hh} {size : Int} {ls : List Lv} {x : D}
theorem Vg {α : Type} (p : α → Bool) : ∀ l : List α, decide (((l.filter p).length : Int) > 0) = l.any p
 | [] => rfl
 | a :: l => by
   rw [List.filter_cons, List.any_cons]
   cases e : p a with
   | true => simp
   | false => simpa using Vg p l
theorem Tc (p : Lv → Bool) (ow : x.own = false) (bt : ∀ l : Lv, ((x.bty h).isSome || (ou h (l.i size) x).isSome) = true) (e : ∀ l ∈ ls, cI [l.i size, x] h = .ok (.bl (p l)) [] h) (hl : ls.length ≤ 1000) : bU [hD size ls, x] h = .ok (.bl (ls.any p)) [] h := by
 have lc := Es (vs := [2]) (g := fH) (t := fJ) (e := fK) (fr := [some (hD size ls), some x, none]) (h := h) (F := Lv.i size) (G := Lv.i size) (p := p) (xs := ls) (fun l hm => by
  have e1 := e l hm
  have b1 := bt l
  have o1 := l.own_i size
  have fn : fnOf cQ h (l.i size) = some cI := rfl
  generalize hD size ls = HD at *
  generalize l.i size = LI at *
  cases hp : p l with
  | true => rw [hp] at e1; simp only [↓IV, ↓qY, ↓ul, ahg, ahc, bB, ↓qZ, ↓zP, ↓bO, ahh, aha, aX, o1, cZ, ow, ↓Ln, b1, fn, aY, e1, ↓cD, lQ, kh, ↓yF, ql, tW, ↓reduceIte, and_self]
  | false => rw [hp] at e1; simp only [↓IV, ↓qY, ↓ul, ahg, ahc, bB, ↓qZ, ↓zP, ↓bO, ahh, aha, aX, o1, cZ, ow, ↓Ln, b1, fn, aY, e1, ↓cD, lQ, ql, tW, Bool.false_eq_true, ↓reduceIte, and_self])
 have hb : (ls.map (Lv.i size)).length ≤ 100000 := by rw [ahk]; omega
 have hn : bW h (.nl ((ls.filter p).map (Lv.i size))) = some (.int ((ls.filter p).length : Nat)) := by
  show some (D.int (((ls.filter p).map (Lv.i size)).length : Nat)) = _
  rw [ahk]
 have cg : TJ h (.int ((ls.filter p).length : Nat)) (.int 0) = some (ls.any p) := by
  rw [← Vg]
  rfl
 have hi : ∀ h, bR bf h (hD size ls) = some (.tup (ls.map (Lv.i size))) := fun h => rfl
 have oh : (hD size ls).own = false := rfl
 generalize hD size ls = HD at *
 generalize ls.map (Lv.i size) = LS at *
 generalize (ls.filter p).map (Lv.i size) = LF at *
 apply Wp.eq
 simp only [↓z7, ↓cW, startF, ahb, ahf, ag9, ahd, Nat.zero_add, Nat.reduceAdd, Nat.reduceSub, ahu, ahn, ahr, aho, bB, ↓Af, ↓eQ, ↓dM, ↓fu, ↓Qo, ↓Ld, ↓dJ, aha, aX, hi, aY, rK, km, hb, ql, tW, ahg, ahc, lc, ↓cD, hn, ↓iV, cg, Option.map_some, Xo, fW, and_self]
theorem Vh {l : Lv} (hl : ls.length ≤ 1000) : bU [hD size ls, l.i size] h = .ok (.bl (decide (l ∈ ls))) [] h := by
 have := Tc (h := h) (size := size) (ls := ls) (x := l.i size) (fun m => decide (m = l)) rfl (fun m => rfl) (fun m _ => by
  have := Mq (h := h) (s := size) (s' := size) (l := m) (m := l)
  rw [decide_eq_true rfl, Bool.true_and] at this
  exact this) hl
 rw [this]
 congr 2
 rw [Bool.eq_iff_iff, List.any_eq_true, decide_eq_true_iff]
 exact ⟨fun ⟨m, hm, e⟩ => of_decide_eq_true e ▸ hm, fun hm => ⟨l, hm, decide_eq_true rfl⟩⟩
theorem Vi (o : Kd x) (hl : ls.length ≤ 1000) : bU [hD size ls, x] h = .ok (.bl false) [] h := by
 have := Tc (h := h) (size := size) (ls := ls) (x := x) (fun m => false) o.own (fun m => by rw [adR o]; rfl) (fun m _ => abd o) hl
 rw [this]
 congr 2
 rw [List.any_eq_false]
 intro m _
 simp
inductive Odd (n : Nat) : D → Prop where
 | int {i : Int} : (i < 0 ∨ (n : Int) ≤ i) → Odd n (.int i)
 | non : Odd n .non
 | bl {b : Bool} : Odd n (.bl b)
 | str {s : Str} : Odd n (.str s)
 | tup {l : List D} : Odd n (.tup l)
 | fl {l : List D} : Odd n (.fl l)
theorem Odd.own {n : Nat} (o : Odd n x) : x.own = false := by cases o <;> rfl
theorem Odd.fz {n : Nat} (o : Odd n x) : x.fz = x := by cases o <;> rfl
theorem XC {n : Nat} (o : Odd n x) (hi : ∀ i, x ≠ .int i) : dN [x] h = .ok (.bl false) [] h := by
 have j : ∀ x : D, x.own = false → ∀ a b : Bool, j9 il h x (.ty "int") = some (.bl a) → j9 il h x (.ty "bool") = some (.bl b) → (a && !b) = false → dN [x] h = .ok (.bl false) [] h := fun x ow a b j1 j2 e => by
  cases a with
  | false =>
    apply Wp.eq
    simp only [↓Ft, ↓cW, startF, ahb, ahf, ag9, ahd, Nat.zero_add, Nat.reduceSub, ahn, ahe, bB, ↓Hz, ↓eQ, ↓nO, ↓fu, ↓bO, aha, ahc, aX, ow, cZ, ↓iV, j1, aY, lQ, fW, and_self]
  | true =>
    cases b with
    | false => cases e
    | true =>
      apply Wp.eq
      simp only [↓Ft, ↓cW, startF, ahb, ahf, ag9, ahd, Nat.zero_add, Nat.reduceSub, ahn, ahe, bB, ↓Hz, ↓eQ, ↓nO, ↓fu, ↓bO, aha, ahc, aX, ow, cZ, ↓iV, j1, aY, lQ, kh, ↓NB, j2, Bool.not_true, fW, and_self]
 cases o with
 | int => exact (hi _ rfl).elim
 | non => exact j _ rfl false false (by kernel_rfl) (by kernel_rfl) rfl
 | bl => exact j _ rfl true true (by kernel_rfl) (by kernel_rfl) rfl
 | str => exact j _ rfl false false (by kernel_rfl) (by kernel_rfl) rfl
 | tup => exact j _ rfl false false (by kernel_rfl) (by kernel_rfl) rfl
 | fl => exact j _ rfl false false (by kernel_rfl) (by kernel_rfl) rfl
theorem Zh {k : Nat} (hk : k < ls.length) : dO [hD size ls, .int k] h = .ok (.int k) [] h := by
 have is := cG h k
 have c0 : (0 : Int) ≤ k := by omega
 have c1 : (k : Int) < ls.length := by omega
 apply Wp.eq
 simp only [↓lM, ↓cW, startF, hD, ahb, ahf, ag9, ahd, Nat.zero_add, Nat.reduceAdd, Nat.reduceSub, ahn, ahe, bB, ↓mU, ↓cP, ↓dB, ↓xP, ↓jn, ↓dM, ↓dI, ↓bZ, ↓bO, ahh, aha, ahg, ahc, aX, jo, cZ, ↓bT, cX, is, ↓cD, jr, aY, Bool.not_true, ↓Eo, ↓iV, Ep, c0, decide_true, kh, ↓dJ, nQ, jY, xg, ahk, c1, ↓fD, dh, ↓eQ, ↓Nz, fW, and_self]
theorem Ph (o : Odd ls.length x) : dO [hD size ls, x] h = .exc ⟨2, [x]⟩ [] h := by
 by_cases hx : ∃ i, x = .int i
 · obtain ⟨i, rfl⟩ := hx
   have is := cG h i
   cases o with
   | int q =>
     apply Wp.eqx
     by_cases c0 : (0 : Int) ≤ i
     · have c1 : ¬ i < ls.length := by omega
       simp only [↓lM, ↓cW, startF, hD, ahb, ahf, ag9, ahd, Nat.zero_add, Nat.reduceAdd, Nat.reduceSub, ahn, ahe, bB, ↓mU, ↓cP, ↓dB, ↓xP, ↓jn, ↓dM, ↓dI, ↓bZ, ↓bO, ahh, aha, ahg, ahc, aX, jo, cZ, ↓bT, cX, is, ↓cD, jr, aY, Bool.not_true, ↓Eo, ↓iV, Ep, c0, decide_true, kh, ↓dJ, nQ, jY, xg, ahk, c1, decide_false, Bool.not_false, ↓JX, lY, and_self]
     · simp only [↓lM, ↓cW, startF, hD, ahb, ahf, ag9, ahd, Nat.zero_add, Nat.reduceAdd, Nat.reduceSub, ahn, ahe, bB, ↓mU, ↓cP, ↓dB, ↓xP, ↓jn, ↓dM, ↓dI, ↓bZ, ↓bO, ahh, aha, ahg, ahc, aX, jo, cZ, ↓bT, cX, is, ↓cD, jr, aY, Bool.not_true, ↓Eo, ↓iV, Ep, c0, decide_false, Bool.not_false, kh, ↓JX, lY, and_self]
 · have is := XC (h := h) o fun i e => hx ⟨i, e⟩
   have ow := o.own
   have fz := o.fz
   apply Wp.eqx
   simp only [↓lM, ↓cW, startF, hD, ahb, ahf, ag9, ahd, Nat.zero_add, Nat.reduceAdd, Nat.reduceSub, ahn, ahe, bB, ↓mU, ↓cP, ↓dB, ↓xP, ↓jn, ↓dM, ↓dI, ↓bZ, ↓bO, ahh, aha, ahg, ahc, aX, ow, cZ, ↓bT, cX, is, ↓cD, jr, aY, Bool.not_false, kh, ↓JX, lY, and_self]
theorem Zi (o : Odd ls.length x) : cU [hD size ls, x] h = .exc ⟨2, [x]⟩ [] h := by
 have e := Ph (h := h) (size := size) o
 have m1 : fnOf oV h (hD size ls) = some dO := rfl
 have hi : ∀ h, bR bf h (hD size ls) = some (.tup (ls.map (Lv.i size))) := fun h => rfl
 have oh : (hD size ls).own = false := rfl
 have ow := o.own
 generalize hD size ls = HD at *
 generalize ls.map (Lv.i size) = LS at *
 apply Wp.eqx
 simp only [↓uF, ↓cW, startF, ahb, ahf, ag9, ahd, Nat.zero_add, Nat.reduceAdd, Nat.reduceSub, ahn, ahe, bB, ↓uU, ↓eQ, ↓fu, ↓dM, ↓dJ, aha, aX, hi, aY, ↓lD, ↓yP, ↓bO, ahc, oh, cZ, m1, ↓bZ, ahh, ahg, ow, ↓bT, cX, e, ↓La, and_self]
theorem TF (o : Odd ls.length x) : eV [hD size ls, x] h = .exc ⟨2, [x]⟩ [] h := by
 have e := Ph (h := h) (size := size) o
 have m1 : fnOf oV h (hD size ls) = some dO := rfl
 have oh : (hD size ls).own = false := rfl
 have ow := o.own
 generalize hD size ls = HD at *
 apply Wp.eqx
 simp only [↓wL, ↓cW, startF, ahb, ahf, ag9, ahd, Nat.zero_add, Nat.reduceAdd, Nat.reduceSub, ahu, ahn, ahr, aho, bB, ↓yg, ↓cP, ↓iH, ↓yP, ↓bO, aha, ahc, aX, oh, cZ, m1, aY, ↓bZ, ahh, ahg, ow, ↓bT, cX, ahe, e, ↓La, and_self]
theorem V7 {k : Nat} (hk : k < ls.length) (hl : ls.length ≤ 100) : eV [hD size ls, .int k] h = .ok (.no 1 [.int size, .tup ((ls.take k ++ ls.drop (k + 1)).map (Lv.i size))]) [] h := by
 have e := Zh (h := h) (size := size) hk
 have m1 : fnOf oV h (hD size ls) = some dO := rfl
 have e2 := Mr (h := h) (size := size) (ls := ls.take k ++ ls.drop (k + 1))
 have hi : ∀ h, bR bf h (hD size ls) = some (.tup (ls.map (Lv.i size))) := fun h => rfl
 have hr : ∀ h, bR bH h (hD size ls) = some (.int size) := fun h => rfl
 have z0 : (0 : Int) ≤ k := by omega
 have z1 : (0 : Int) ≤ (k : Int) + 1 := by omega
 have t1 : ((k : Int) + 1).toNat = k + 1 := by omega
 have b1 : ((ls.map (Lv.i size)).take k).length + ((ls.map (Lv.i size)).drop (k + 1)).length ≤ 100000 := by rw [List.length_take, List.length_drop, ahk]; omega
 have b2 : ((ls.map (Lv.i size)).take k ++ (ls.map (Lv.i size)).drop (k + 1)).length ≤ 100000 := by rw [ahj]; exact b1
 have oh : (hD size ls).own = false := rfl
 rw [List.map_append, List.map_take, List.map_drop] at *
 generalize hD size ls = HD at *
 generalize ls.map (Lv.i size) = LS at *
 apply Wp.eq
 simp only [↓wL, ↓cW, startF, ahb, ahf, ag9, ahd, Nat.zero_add, Nat.reduceAdd, Nat.reduceSub, ahu, ahn, ahr, aho, bB, ↓yg, ↓cP, ↓iH, ↓yP, ↓bO, aha, ahc, aX, oh, cZ, m1, aY, ↓bZ, ahh, ahg, jo, ↓bT, cX, ahe, e, ↓cD, dh, ↓Dq, ↓fu, ↓lD, ↓acI, ↓dM, ↓dJ, hi, ↓ZS, ↓Xj, UW, Y0, z0, Xk, Int.toNat_natCast, ↓iV, zM, tV, z1, Xl, t1, acL, RM, km, b1, ↓reduceIte, ↓eQ, ↓U0, NK, hr, rK, b2, zN, e2, fW, and_self]
end
end L
namespace L
open PySem PySem.Spec L2 Pk
theorem Vj (n : Nat) : (fj 0 n).length = n := by unfold fj; rw [ahk, List.length_range]
section
variable {h : Hh} {size : Int} {ls : List Lv} {x : D}
theorem Zj {α : Type} {l : List α} {i : Nat} {x : α} (e : l[i]? = some x) : l.set i x = l := by
 refine List.ext_getElem? fun j => ?_
 by_cases hj : i = j
 · subst hj
   rw [ahp (List.getElem?_eq_some_iff.mp e).1, e]
 · rw [ahs hj]
structure Hd (h : Hh) (X : D) (ls : List Lv) : Prop where
 ow : X.own = false
 len : bW h X = some (.int (ls.length : Nat))
 at_ : ∀ (k : Nat) (l : Lv), ls[k]? = some l → bF h X (.int (k : Int)) = some l.d
 ne : BJ h X (.nl []) = some (!decide (ls = []))
theorem ne_of {X : D} (e1 : X.toPd h = some (Em.lv.list.f ls)) : BJ h X (.nl []) = some (!decide (ls = [])) := by
 have e2 : (D.nl []).toP = some (Em.lv.list.f []) := acS Em.lv HS []
 unfold BJ zJ
 rw [e1, e2]
 dsimp only
 rw [Em.lv.list.shaped (a := ls) (fun _ _ => trivial) (by decide), Em.lv.list.shaped (a := []) (fun _ _ => trivial) (by decide), Em.lv.list.eq]
 rfl
theorem ZX : Hd h (.fl (ls.map Lv.d)) ls := ⟨rfl, by
 show some (D.int ((ls.map Lv.d).length : Nat)) = _
 rw [ahk], fun k l e => by
 show atI (ls.map Lv.d) (k : Int) = _
 rw [zL, ahy, e]
 rfl, ne_of (RP Em.lv HS ls)⟩
theorem Zk {z : Nat} (hz : h[z]? = some (.nl (ls.map Lv.d))) : D.toPd h (.ref z) = some (Em.lv.list.f ls) := by
 show (D.lstP h (.ref z)).map PyData.list = _
 rw [RX Em.lv hz HS]
 rfl
theorem wF {z : Nat} (hz : h[z]? = some (.nl (ls.map Lv.d))) : Hd h (.ref z) ls := ⟨rfl, by
 unfold bW
 dsimp only
 rw [NP hz]
 show some (D.int ((ls.map Lv.d).length : Nat)) = _
 rw [ahk], fun k l e => by
 rw [JV hz, zL, ahy, e]
 rfl, ne_of (Zk hz)⟩
theorem adS {k : Nat} {l : Lv} (e : ls[k]? = some l) (h : Hh) : bF h (.tup (ls.map (Lv.i size))) (.int (k : Int)) = some (l.i size) := by
 show atI (ls.map (Lv.i size)) (k : Int) = _
 rw [zL, ahy, e]
 rfl
theorem Fb {X : D} (HX : Hd h X ls) (ho : ∀ l ∈ ls, l.ok size) (hl : ls.length ≤ 100) (h2 : 2 ≤ size) (h4 : size ≤ 4) : du [hD size ls, X, .int size] h = .ok (.bl true) [] h := by
 have hi : ∀ h, bR bf h (hD size ls) = some (.tup (ls.map (Lv.i size))) := fun h => rfl
 have hr : ∀ h, bR bH h (hD size ls) = some (.int size) := fun h => rfl
 have oh : (hD size ls).own = false := rfl
 have ml : ∀ h, fnOf fU h (hD size ls) = some gJ := fun h => rfl
 have e1 : gJ [hD size ls] h = .ok (.int (ls.length : Nat)) [] h := by
  have := Oo (h := h) (n := size) (l := ls.map (Lv.i size))
  rw [ahk] at this
  exact this
 obtain ⟨ox, ll, ax, c0⟩ := HX
 have sm : jc ((ls.length : Nat) : Int) = true := Lj (by omega) (by omega)
 have tn : ((ls.length : Nat) : Int).toNat = ls.length := by omega
 have rb : (fj 0 ls.length).length ≤ 100000 := by rw [Vj]; omega
 have it : ∀ h (l : List D), j9 il h (.tup l) (.ty "tuple") = some (.bl true) := fun h l => rfl
 have ce : ∀ h : Hh, fY h (.fl []) (.nl []) = some true := fun h => by kernel_rfl
 have lc : lL [4] kY kZ tY (fj 0 ls.length) [some (hD size ls), some X, some (.int size), none, none] h = .ok [] [some (hD size ls), some X, some (.int size), none, none] h :=
  YX (F := fun k : Nat => D.int (0 + (k : Int))) fun j hj => by
   have hj := List.mem_range.mp hj
   obtain ⟨l, el⟩ : ∃ l, ls[j]? = some l := ⟨_, ahi hj⟩
   have a1 := ax j l el
   have a2 := adS (size := size) el
   have e2 := Dt (h := h) (ho l (ahq el)) h2 h4
   have e3 := Mq (h := h) (s := size) (s' := size) (l := l) (m := l)
   rw [decide_eq_true rfl, decide_eq_true rfl] at e3
   have ei : ∀ h, cI [l.i size, .obj 0 (l.fs size)] h = .ok (.bl true) [] h := fun h => by
    have e3 := Mq (h := h) (s := size) (s' := size) (l := l) (m := l)
    rw [decide_eq_true rfl, decide_eq_true rfl] at e3
    exact e3
   have oi := l.own_i size
   have fn : fnOf cQ h (l.i size) = some cI := rfl
   have bt : ((D.bty h (.obj 0 (l.fs size))).isSome || (ou h (l.i size) (.obj 0 (l.fs size))).isSome) = true := rfl
   have sc : (ou h (l.i size) (.obj 0 (l.fs size))).isSome = true := rfl
   have ol := l.own_d
   have ek : (0 : Int) + (j : Int) = (j : Int) := by omega
   rw [ek]
   generalize hD size ls = HD at *
   generalize l.d = LD at *
   generalize l.i size = LI at *
   generalize l.fs size = LF at *
   generalize ls.map (Lv.i size) = LT at *
   simp only [↓IV, ↓HH, ↓ul, ahg, ahc, bB, ↓HJ, ↓jn, ↓zP, ↓fu, ↓dM, ↓dJ, aha, aX, hi, aY, ↓bO, ahh, jo, cZ, a2, ↓lD, ↓dI, ↓bZ, ↓vG, ag9, a1, ↓bT, ahd, Nat.zero_add, Nat.reduceAdd, cX, ahe, e2, ↓cD, ↓Ln, Aq, U9, Option.isSome_none, sc, Bool.or_true, fn, ei, lQ, Bool.not_true, ql, tW, and_self]
 generalize hD size ls = HD at *
 generalize ls.map (Lv.i size) = LT at *
 by_cases hn : ls = []
 · rw [decide_eq_true hn] at c0
   apply Wp.eq
   simp only [↓zY, ↓cW, startF, ahb, ahf, ag9, ahd, Nat.zero_add, Nat.reduceAdd, Nat.reduceSub, ahu, ahn, ahr, aho, bB, ↓Ay, ↓cP, ↓dB, ↓xP, ↓fu, ↓dM, ↓dJ, aha, aX, hr, aY, ahh, CW, oA, decide_true, Option.map_some, Bool.not_true, cZ, ↓jn, hi, ↓iV, it, jr, ↓U7, ↓bO, ahc, oh, ml, e1, ↓cD, ll, RQ, ↓fD, dh, ↓yf, ↓iH, ↓Qo, ↓CT, RJ, sm, ↓reduceIte, tn, km, rb, ql, tW, ahg, lc, ↓eQ, ↓nO, Le, kh, Ao, ↓uQ, ↓bT, Nat.reduceLeDiff, ce, lQ, ↓RW, ox, c0, Lg, fW, and_self, and_true, true_and]
   exact ⟨by omega, by omega, by omega, by omega, by rw [hn]; rfl⟩
 · rw [decide_eq_false hn] at c0
   apply Wp.eq
   simp only [↓zY, ↓cW, startF, ahb, ahf, ag9, ahd, Nat.zero_add, Nat.reduceAdd, Nat.reduceSub, ahu, ahn, ahr, aho, bB, ↓Ay, ↓cP, ↓dB, ↓xP, ↓fu, ↓dM, ↓dJ, aha, aX, hr, aY, ahh, CW, oA, decide_true, Option.map_some, Bool.not_true, cZ, ↓jn, hi, ↓iV, it, jr, ↓U7, ↓bO, ahc, oh, ml, e1, ↓cD, ll, RQ, ↓fD, dh, ↓yf, ↓iH, ↓Qo, ↓CT, RJ, sm, ↓reduceIte, tn, km, rb, ql, tW, ahg, lc, ↓eQ, ↓nO, Le, kh, Ao, ↓uQ, ↓bT, Nat.reduceLeDiff, ce, lQ, ↓RW, ox, c0, Bool.not_false, Lg, fW, and_self, and_true, true_and]
   have h0 : ls.length ≠ 0 := fun z => hn (List.eq_nil_of_length_eq_zero z)
   have hb : (((ls.length : Nat) : Int) != 0) = true := by simp [bne]; omega
   exact ⟨by omega, by omega, by omega, by omega, by rw [hb]; rfl⟩
theorem XD {z : Nat} (hz : h[z]? = some (.nl (ls.map Lv.d))) (ho : ∀ l ∈ ls, l.ok size) (hl : ls.length ≤ 100) (h2 : 2 ≤ size) (h4 : size ≤ 4) : mG [.ref z, .int size] h = .ok (.no 1 [.int size, .tup (ls.map (Lv.i size))]) [] h := by
 have h0 := Mr (h := h) (size := size) (ls := [])
 rw [ahf] at h0
 have lz : u5 h (.ref z) = some (z, ls.map Lv.d) := Xp hz
 apply Wp.eq
 simp only [↓Mi, ↓cW, startF, ahb, ahf, ag9, ahd, Nat.zero_add, Nat.reduceAdd, Nat.reduceSub, ahu, ahn, ahr, aho, bB, ↓Oi, ↓cP, ↓iH, ↓dI, ↓bT, ↓bZ, ↓bO, ahh, aha, ahg, ahc, aX, jo, cZ, zN, h0, ↓cD, dh, ↓Jl, ↓Y7, ↓acW, jD, lz, Option.map_some, aY, true_and]
 refine aa6 (fun pre fr h' => h' = h ∧ ∃ x3, fr = [some (.ref z), some (.int size), some (.no 1 [.int size, .tup (pre.map (Lv.i size))]), x3]) (fun pre fr h' i => by rw [i.1]; exact hz) ⟨rfl, none, rfl⟩ ?_ ?_
 · rintro pre l suf fr h' e ⟨rfl, x3, rfl⟩
   have em := Dt (h := h') (ho l (by rw [e]; simp)) h2 h4
   have e1 := Mr (h := h') (size := size) (ls := [l])
   rw [ahb, ahf] at e1
   have e2 := aeC (h := h') (size := size) (ls := pre) (ms := [l]) (by
    have := congrArg List.length e
    simp only [ahj, ag9] at this
    simp only [ag9, ahd]
    omega)
   simp only [hD] at e2
   rw [ahb, ahf] at e2
   have ei : D.obj 0 (l.fs size) = l.i size := rfl
   simp only [↓ul, ahg, ahc, bB, ↓Jk, ↓iH, ↓acV, ↓bO, ahh, aha, aX, Lf, kh, Aq, ↓lD, ↓dI, ↓bZ, ag9, Lv.own_d, cZ, jo, ↓bT, ahd, Nat.zero_add, Nat.reduceAdd, cX, ahe, em, ↓cD, ei, zN, ahr, aho, e1, aa4, Oj, aY, e2, v9, true_and]
   exact ⟨_, rfl⟩
 · rintro fr h' ⟨rfl, x3, rfl⟩
   simp only [dh, ↓eQ, ↓Nz, ahh, aha, ahg, ahc, aX, bB, fW, and_self]
def Pj (x : D) : Prop := ∃ t : Str, (∀ h, ye h x = some (.str t)) ∧ NQ t = true
theorem fL (o : Odd ls.length x) (s : Pj x) (b : Bool) : di [hD size ls, x, .bl b] h = .ok (.bl true) [] h := by
 obtain ⟨t, rp, g⟩ := s
 have ct : ∀ h, fY h (.str t) (.str t) = some true := fun h => by rw [acU g g, decide_eq_true rfl]
 have e1 := Zi (h := h) (size := size) o
 have e2 := TF (h := h) (size := size) o
 have c1 : sJ 2 = some true := rfl
 have x1 : Qp 2 = some 0 := rfl
 have y1 : JL zQ 2 (.cls 3) = some true := by kernel_rfl
 have y2 : JL zQ 2 (.cls 4) = some false := by kernel_rfl
 have m1 : fnOf cO h (hD size ls) = some cU := rfl
 have m2 : fnOf qM h (hD size ls) = some eV := rfl
 have oh : (hD size ls).own = false := rfl
 have fh := ZV oh
 have ow := o.own
 have fx := o.fz
 generalize hD size ls = HD at *
 apply Wp.eq
 cases b with
 | true => simp only [↓Ba, ↓cW, startF, ahb, ahf, ag9, ahd, Nat.zero_add, Nat.reduceAdd, Nat.reduceSub, ahu, ahn, ahr, aho, bB, ↓Dr, ↓cP, ↓iH, ↓iV, ahg, ahc, dh, ↓yJ, ↓Hm, ↓bT, km, Nat.reduceLeDiff, ↓yI, ↓U6, ↓yH, ↓dB, ↓dM, ↓dJ, ahh, aha, aX, jr, aY, kh, ↓U8, ↓bO, oh, cZ, ow, m1, e1, ↓La, c1, Nat.reduceLT, ↓bZ, ↓ZW, x1, U3, ↓nO, ↓Xm, y1, lQ, ↓NB, y2, Bool.not_false, ↓eQ, ↓fu, Uy, Uz, Pb, Option.map_some, xg, Int.cast_ofNat_Int, oA, decide_true, ↓vG, JT, acQ, acP, rp, ct, fW, and_self]
 | false => simp only [↓Ba, ↓cW, startF, ahb, ahf, ag9, ahd, Nat.zero_add, Nat.reduceAdd, Nat.reduceSub, ahu, ahn, ahr, aho, bB, ↓Dr, ↓cP, ↓iH, ↓iV, ahg, ahc, dh, ↓yJ, ↓Hm, ↓bT, km, Nat.reduceLeDiff, ↓yI, ↓U6, ↓yH, ↓dB, ↓dM, ↓dJ, ahh, aha, aX, jr, aY, cZ, ↓yP, ↓bO, oh, m2, ↓bZ, ow, cX, ahe, e2, ↓La, c1, kh, Nat.reduceLT, ↓ZW, x1, U3, ↓nO, ↓Xm, y1, lQ, ↓NB, y2, Bool.not_false, ↓eQ, ↓fu, Uy, Uz, Pb, Option.map_some, xg, Int.cast_ofNat_Int, oA, decide_true, ↓vG, JT, acQ, acP, rp, ct, fW, and_self]
end
end L
namespace L
open PySem PySem.Spec L2 Pk
theorem abe (s : String) : NQ (Str.ofString s) = true := by
 show PyData.strOk (Str.ofString s) = true
 unfold PyData.strOk
 rw [Str.ofString_eq_toList]
 rw [Array.all_eq_true]
 intro i hi
 simp only [List.getElem_toArray, List.getElem_map, decide_eq_true_eq]
 have := (s.toList[i]'(by simpa using hi)).valid
 rcases this with q | q
 · exact Nat.lt_trans q (by decide)
 · exact q.2
theorem Aa {x : D} {p : PyData} (e : x.toP = some p) (h1 : p.showable = true) (h2 : p.hasDict = false) (h3 : p.depth ≤ 8) (h4 : p.shown.length ≤ sizeLine) (h5 : NQ p.shown = true) : Pj x := ⟨p.shown, fun h => by
 unfold ye
 rw [e]
 dsimp only
 rw [h1, h2, decide_eq_true h3, decide_eq_true h4]
 rfl, h5⟩
theorem Je {i : Int} (hi : i.natAbs.log2 < 1920) : Pj (.int i) := Aa (p := .int i) (by unfold D.toP; rfl) (decide_eq_true hi) rfl (Nat.zero_le _) (int_text_fits hi) (abe _)
theorem abf : Pj .non := Aa (p := .none) (by unfold D.toP; rfl) rfl rfl (Nat.zero_le _) (by decide +kernel) (by decide +kernel)
theorem Ms {b : Bool} : Pj (.bl b) := by
 cases b
 · exact Aa (p := .bool false) (by unfold D.toP; rfl) rfl rfl (Nat.zero_le _) (by decide +kernel) (by decide +kernel)
 · exact Aa (p := .bool true) (by unfold D.toP; rfl) rfl rfl (Nat.zero_le _) (by decide +kernel) (by decide +kernel)
theorem ac2 : Pj (.str "0") := Aa (p := .str "0") (by unfold D.toP; rfl) rfl rfl (Nat.zero_le _) (by decide +kernel) (by decide +kernel)
theorem ac3 : Pj (.tup [.int 0]) := Aa (p := .tuple [.int 0]) (by kernel_rfl) (by decide +kernel) (by decide +kernel) (by decide +kernel) (by decide +kernel) (by decide +kernel)
theorem ac4 : Pj (.fl [.int 0]) := Aa (p := .list [.int 0]) (by kernel_rfl) (by decide +kernel) (by decide +kernel) (by decide +kernel) (by decide +kernel) (by decide +kernel)
theorem XF {n : Nat} {C : Int} {h : Hh} (S : Src h n C) (hC : C ≤ 90000) : ∃ m h', oW [.ref n] h = .ok (.int m) [] h' ∧ Src h' n (C + 2) ∧ 0 ≤ m ∧ m ≤ 30 := by
 obtain ⟨i, d, h1, hi, ed, e1, S1⟩ := Vb (l := [.int 2, .int 4, .int 4, .int 4, .int 7, .int 7, .int 7, .int 31]) S (by omega) (by decide) (by decide)
 have hd : ∃ m : Int, d = .int m ∧ 0 < m ∧ m ≤ 31 := by
  have hm := ahq ed
  simp only [ahA, List.not_mem_nil, or_false] at hm
  rcases hm with rfl | rfl | rfl | rfl | rfl | rfl | rfl | rfl <;> exact ⟨_, rfl, by decide, by decide⟩
 obtain ⟨m, rfl, m0, m1⟩ := hd
 obtain ⟨r, h2, e2, S2, r0, r1⟩ := lW (m := m) S1 (by omega) m0 (by omega)
 refine ⟨r, h2, ?_, S2.up (by omega), r0, by omega⟩
 apply Wp.eq
 simp only [↓Sw, ↓cW, startF, ahb, ahf, ag9, ahd, Nat.zero_add, Nat.reduceSub, ahn, ahe, bB, ↓Tt, ↓eQ, ↓dI, ↓bZ, ↓bO, aha, ahc, aX, jD, cZ, ↓lD, ↓uQ, ↓iV, ↓bT, Nat.reduceAdd, km, Nat.reduceLeDiff, Ao, cX, e1, ↓cD, tV, e2, fW, and_self]
theorem Mu {n : Nat} {size : Int} (h2 : 2 ≤ size) (h4 : size ≤ 4) {x2 x3 x4 x5 x6 x7 x8 x9 : Option D} : ∀ (ds : List D) (C : Int) (h : Hh), Src h n C → C + 91 * ds.length ≤ 50000 →
 ∃ (lives : List Lv) (h' : Hh), lL [10] jy jA jB ds [some (.ref n), some (.int size), x2, x3, x4, x5, x6, x7, x8, x9, none] h = .ok (lives.map Lv.d) [some (.ref n), some (.int size), x2, x3, x4, x5, x6, x7, x8, x9, none] h' ∧
   Src h' n (C + 90 * ds.length) ∧ lives.length = ds.length ∧ ∀ l ∈ lives, l.ok size
 | [], C, h, S, _ => ⟨[], h, UT, by simpa using S, rfl, fun l hl => by cases hl⟩
 | d :: ds, C, h, S, hC => by
   rw [ag9] at hC
   obtain ⟨born, counts, cuts, ends, gone, h1, e1, S1, life⟩ := Xw (size := size) S (by omega) h2 h4
   obtain ⟨lives, h', e2, S2, hl, ho⟩ := Mu h2 h4 (x2 := x2) (x3 := x3) (x4 := x4) (x5 := x5) (x6 := x6) (x7 := x7) (x8 := x8) (x9 := x9) ds (C + 90) h1 S1 (by omega)
   refine ⟨⟨born, counts, cuts, ends, gone⟩ :: lives, h', ?_, by rw [ag9, show C + 90 * ((ds.length + 1 : Nat) : Int) = C + 90 + 90 * (ds.length : Int) by omega]; exact S2, by rw [ag9, ag9, hl], fun l hm => ?_⟩
   · unfold lL
     have et : lB [10] jy jA jB d [some (.ref n), some (.int size), x2, x3, x4, x5, x6, x7, x8, x9, none] h = .ok (some (Lv.d ⟨born, counts, cuts, ends, gone⟩)) [some (.ref n), some (.int size), x2, x3, x4, x5, x6, x7, x8, x9, none] h1 := by
      apply Wp.eq
      simp only [↓IV, ↓LC, ↓ul, ahg, ahc, bB, ↓LK, ↓fD, kh, ↓LQ, ↓lD, ↓dI, ↓bZ, ↓bO, aha, ag9, aX, jD, cZ, ahh, jo, ↓bT, ahd, Nat.zero_add, Nat.reduceAdd, cX, ahe, e1, ↓cD, ql, tW, and_self, and_true, true_and]
      first | rfl | exact ⟨rfl, rfl⟩
     rw [M.bind_ok et, M.bind_ok e2]
     rfl
   · rcases List.mem_cons.mp hm with rfl | hm
     · exact life
     · exact ho l hm
theorem ac5 {h : Hh} {l : Lv} {ls : List Lv} {z : Nat} (hz : h[z]? = some (.nl (ls.map Lv.d))) : Hk h l.d (.ref z) = some (decide (l ∈ ls)) := by
 unfold Hk
 rw [HS, RX Em.lv hz HS]
 dsimp only
 have s1 := Em.lv.shaped (a := l) trivial (by decide)
 have s2 : SeqAt.shaped (.list (ls.map Em.lv.f)) = true := Em.lv.list.shaped (a := ls) (fun _ _ => trivial) (by decide)
 rw [s1, s2]
 show some ((ls.map Em.lv.f).any fun z => PyData.eqv z (Em.lv.f l)) = _
 congr 1
 rw [List.any_map, Bool.eq_iff_iff, List.any_eq_true, decide_eq_true_iff]
 constructor
 · rintro ⟨m, hm, e⟩
   have e : PyData.eqv (Em.lv.f m) (Em.lv.f l) = true := e
   rw [Em.lv.eq] at e
   exact of_decide_eq_true e ▸ hm
 · intro hm
   refine ⟨l, hm, ?_⟩
   show PyData.eqv (Em.lv.f l) (Em.lv.f l) = true
   rw [Em.lv.eq, decide_eq_true rfl]
end L
namespace L
open PySem PySem.Spec L2 Pk
structure Fd (n : Nat) (h h' : Hh) : Prop where
 len : h'.length = h.length
 at_ : ∀ k, k ≠ n → h'[k]? = h[k]?
theorem Fd.refl (n : Nat) (h : Hh) : Fd n h h := ⟨rfl, fun _ _ => rfl⟩
theorem Fd.trans {n : Nat} {h h' h2 : Hh} (a : Fd n h h') (b : Fd n h' h2) : Fd n h h2 := ⟨b.len.trans a.len, fun k hk => (b.at_ k hk).trans (a.at_ k hk)⟩
theorem ac6 {n : Nat} {h : Hh} (x : D) : Fd n h (h.set n x) := ⟨ahv, fun k hk => ahs (Ne.symm hk)⟩
def ju (hB h : Hh) (n : Nat) (C : Int) : Prop := Src h n C ∧ Fd n hB h
theorem ju.up {hB h : Hh} {n : Nat} {C C' : Int} (S : ju hB h n C) (hC : C ≤ C') : ju hB h n C' := ⟨S.1.up hC, S.2⟩
theorem Src.u {h : Hh} {n : Nat} {C : Int} (S : Src h n C) : ju h h n C := ⟨S, Fd.refl n h⟩
theorem iT {hB : Hh} {h : Hh} {n : Nat} {C m : Int} (S : ju hB h n C) (hC : C ≤ 100000) (hm : 0 < m) (hl : m < 2 ^ 200) :
 ∃ r h', bJ [.ref n, .int m] h = .ok (.int r) [] h' ∧ ju hB h' n (C + 1) ∧ 0 ≤ r ∧ r < m := by
 obtain ⟨⟨a, b, c, e, b0, b1, c0, c1⟩, U⟩ := S
 have hn : n < h.length := (List.getElem?_eq_some_iff.mp e).1
 have hml : m.natAbs.log2 < 9000 := by
  refine Nat.lt_of_lt_of_le (log2_lt (k := 200) ?_ (by decide)) (by decide)
  omega
 by_cases ha : 0 < a
 · refine ⟨a % m, h.set n (.nl [.int (a / m), .int b, .int c]), ?_, ⟨⟨a / m, b, c, by rw [ahp hn], b0, b1, c0, by omega⟩, U.trans (ac6 _)⟩, Int.emod_nonneg _ (by omega), Int.emod_lt_of_pos _ hm⟩
   simp [bJ, bK, rO, pW, pU, pQ, startF, aC, aU, M.bind, M.ret, M.opt, aD, bj, fX, aG, mC, bF, D.its, D.der, e, atI, ixN, cInt, ha, bh, aF, sE, aa, D.own, dH, Vl, hm, DY, bG, zf, JD, hml, aO, su]
 · have z1 : (b + 32452843 * (c + 1)).natAbs < 2 ^ 64 := by omega
   generalize hx : (b + 32452843 * (c + 1)) ^ 3 % 2305843009213693921 = x
   have hx0 : 0 ≤ x := by rw [← hx]; exact Int.emod_nonneg _ (by decide)
   have hx1 : x < 2305843009213693921 := by rw [← hx]; exact Int.emod_lt_of_pos _ (by decide)
   have z2 : (x + 49979687 * (c + 1)).natAbs < 2 ^ 64 := by omega
   have l1 : (c + 1).natAbs.log2 < 64 := log2_lt (by omega) (by decide)
   have l2 : ((32452843 : Int)).natAbs.log2 < 64 := log2_lt (by decide) (by decide)
   have l3 : ((49979687 : Int)).natAbs.log2 < 64 := log2_lt (by decide) (by decide)
   have l4 : ((4096 : Int)).natAbs.log2 < 9000 := Nat.lt_trans (log2_lt (k := 64) (by decide) (by decide)) (by decide)
   have c1' : Mz 32452843 (c + 1) = true := decide_eq_true (by omega)
   have c2' : Mz 49979687 (c + 1) = true := decide_eq_true (by omega)
   have c3' : vP (b + 32452843 * (c + 1)) 3 = true := by
    unfold vP
    rw [decide_eq_true z1]
    rfl
   have c4' : vP (x + 49979687 * (c + 1)) 2 = true := by
    unfold vP
    rw [decide_eq_true z2]
    rfl
   have c5' : JD ((x + 49979687 * (c + 1)) ^ 2 % 2305843009213693951) 4096 = true := by
    unfold JD
    rw [decide_eq_true l4]
    rfl
   refine ⟨((x + 49979687 * (c + 1)) ^ 2 % 2305843009213693951) / 4096 % m, h.set n (.nl [.int a, .int b, .int (c + 1)]), ?_, ⟨⟨a, b, c + 1, by rw [ahp hn], b0, b1, by omega, by omega⟩, U.trans (ac6 _)⟩, Int.emod_nonneg _ (by omega), Int.emod_lt_of_pos _ hm⟩
   have ha' : decide (0 < a) = false := decide_eq_false ha
   have e2 : ∀ v : D, (h.set n v)[n]? = some v := fun v => ahp hn
   simp [bJ, bK, rO, pW, pU, pQ, startF, aC, aU, M.bind, M.ret, M.opt, aD, bj, fX, aG, mC, bF, D.its, D.der, e, atI, ixN, cInt, ha', bh, aF, sE, aa, D.own, dH, DY, bG, zf, aO, su, aM, D.fz, bL, e2, c1', c2', c3', c4', c5', z8, hm, hx]
theorem Ko {hB : Hh} {h : Hh} {n : Nat} {C : Int} {l : List D} (S : ju hB h n C) (hC : C ≤ 100000) (h0 : 0 < l.length) (hl : l.length ≤ 1000) :
 ∃ i d h', i < l.length ∧ l[i]? = some d ∧ eU [.ref n, .fl l] h = .ok d [] h' ∧ ju hB h' n (C + 1) := by
 obtain ⟨r, h', e, S', r0, r1⟩ := iT (m := (l.length : Int)) S hC (by omega) (by omega)
 have hi : r.toNat < l.length := by omega
 refine ⟨r.toNat, l[r.toNat], h', hi, ahi hi, ?_, S'⟩
 have er : ((r.toNat : Nat) : Int) = r := Int.toNat_of_nonneg r0
 simp [eU, bK, tX, startF, aO, bj, fX, aG, aM, au, aj, M.bind, M.ret, M.opt, aa, D.own, D.fz, aF, bW, D.its, D.der, aq, e, bu, bF, atI, ixN, r0, r1, hi]
theorem Ab {hB : Hh} {h : Hh} {n : Nat} {C : Int} (S : ju hB h n C) (hC : C ≤ 90000) : ∃ r h', iQ [.ref n] h = .ok (.int r) [] h' ∧ ju hB h' n (C + 2) ∧ 0 ≤ r ∧ r < 2 ^ 198 := by
 obtain ⟨i, d, h1, hi, ed, e1, S1⟩ := Ko (l := [.int 2, .int 2, .int 3, .int 3, .int 5, .int 100, .int (10 ^ 9), .int (10 ^ 30)]) S (by omega) (by decide) (by decide)
 have hd : ∃ m : Int, d = .int m ∧ 0 < m ∧ m < 2 ^ 198 := by
  have hm := ahq ed
  simp only [ahA, List.not_mem_nil, or_false] at hm
  rcases hm with rfl | rfl | rfl | rfl | rfl | rfl | rfl | rfl <;> exact ⟨_, rfl, by decide, by decide⟩
 obtain ⟨m, rfl, m0, m1⟩ := hd
 obtain ⟨r, h2, e2, S2, r0, r1⟩ := iT S1 (by omega) m0 (by omega)
 refine ⟨r, h2, ?_, by rw [show C + 2 = C + 1 + 1 by omega]; exact S2, r0, by omega⟩
 have p9 : vP 10 9 = true := by decide
 have p30 : vP 10 30 = true := by decide
 have bg : 8 ≤ big := by decide
 simp only [Int.reducePow] at e1
 simp [iQ, bK, u9, startF, aO, aM, au, aj, M.bind, M.ret, M.opt, aa, D.own, D.fz, dC, mC, aD, dH, p9, p30, bg, aq, bu, e1, e2]
theorem Td {hB : Hh} {n : Nat} {size born many : Int} : ∀ (m : Nat) (C : Int) (h : Hh) (counts cuts : List Int) (x8 : Option D), ju hB h n C → C + 3 * m ≤ 80000 → Grow born counts cuts → counts.length + m ≤ 100 →
 ∃ counts' cuts' x8' h', dw (bM 8) jR (fj counts.length m) [some (.ref n), some (.int size), some (.int born), some (.int many), some (.nl (cuts.map .int)), some (.nl []), some (.nl []), some (.nl (counts.map .int)), x8, none, none] h =
   .ok .nx [some (.ref n), some (.int size), some (.int born), some (.int many), some (.nl (cuts'.map .int)), some (.nl []), some (.nl []), some (.nl (counts'.map .int)), x8', none, none] h' ∧ ju hB h' n (C + 3 * m) ∧ Grow born counts' cuts' ∧ counts'.length = counts.length + m
 | 0, C, h, counts, cuts, x8, S, _, g, _ => ⟨counts, cuts, x8, h, rfl, by rw [show C + 3 * ((0 : Nat) : Int) = C by omega]; exact S, g, rfl⟩
 | m + 1, C, h, counts, cuts, x8, S, hC, g, hl => by
   have hcl := g.cl
   obtain ⟨r, h1, e1, S1, r0, r1⟩ := iT (m := 3) S (by omega) (by decide) (by decide)
   obtain ⟨z, h2, e2, S2, z0, z9⟩ := Ab S1 (by omega)
   have hc : counts.length < big := mV (by omega)
   have hk : cuts.length < big := mV (by omega)
   by_cases hr : r = 0
   · subst hr
     obtain ⟨counts', cuts', x8', h', e3, S3, g3, l3⟩ := Td m (C + 3) h2 (counts ++ [z]) (cuts ++ [born + counts.length - 1]) (some (.int counts.length)) (by rw [show C + 3 = C + 1 + 2 by omega]; exact S2) (by omega) (SJ g z0 z9) (by rw [ahj, ahl]; omega)
     refine ⟨counts', cuts', x8', h', ?_, by rw [show C + 3 * ((m + 1 : Nat) : Int) = C + 3 + 3 * (m : Int) by omega]; exact S3, g3, by rw [l3, ahj, ahl]; omega⟩
     rw [oM, ← e3]
     have el : (((counts ++ [z]).length : Nat) : Int) = (counts.length : Int) + 1 := by rw [ahj, ahl]; omega
     rw [el]
     simp [dw, bM, jR, aU, aC, iK, jZ, bG, jG, tD, aD, aM, au, aj, M.bind, M.ret, M.opt, aa, D.own, D.fz, mC, aq, bu, e1, fQ, bL, dH, jF, e2, hc, hk]
   · have ht : counts[counts.length - 1]? = some counts[counts.length - 1] := ahi (by omega)
     generalize counts[counts.length - 1] = t at ht
     have hb : ∀ h : Hh, bF h (.nl (counts.map .int)) (.int (-1)) = some (.int t) := fun h => HR ht
     have hr' : (r == 0) = false := beq_eq_false_iff_ne.mpr hr
     obtain ⟨counts', cuts', x8', h', e3, S3, g3, l3⟩ := Td m (C + 3) h2 (counts ++ [t + z]) cuts (some (.int counts.length)) (by rw [show C + 3 = C + 1 + 2 by omega]; exact S2) (by omega) (Vc g ht z0 z9) (by rw [ahj, ahl]; omega)
     refine ⟨counts', cuts', x8', h', ?_, by rw [show C + 3 * ((m + 1 : Nat) : Int) = C + 3 + 3 * (m : Int) by omega]; exact S3, g3, by rw [l3, ahj, ahl]; omega⟩
     rw [oM, ← e3]
     have el : (((counts ++ [t + z]).length : Nat) : Int) = (counts.length : Int) + 1 := by rw [ahj, ahl]; omega
     rw [el]
     simp [dw, bM, jR, aU, aC, iK, jZ, bG, jG, tD, aD, aM, au, aj, M.bind, M.ret, M.opt, aa, D.own, D.fz, mC, aq, bu, e1, fQ, hr', bL, dH, jF, e2, hc, hk, bj, fX, aG, aF, sX, hb]
theorem Tf {hB : Hh} {n : Nat} {size born many : Int} {a b c d y : Option D} : ∀ (gaps : List Int) (C : Int) (h : Hh) (ends : List (Int × Int)) (x10 : Option D), ju hB h n C → C + 4 * gaps.length ≤ 80000 → ends.length + gaps.length ≤ 200 →
 ∃ ends' x10' h', dw (bM 10) jT (gaps.map .int) [some (.ref n), some (.int size), some (.int born), some (.int many), a, some (.nl (ends.map pairD)), b, c, d, y, x10] h =
   .ok .nx [some (.ref n), some (.int size), some (.int born), some (.int many), a, some (.nl ((ends ++ ends').map pairD)), b, c, d, y, x10'] h' ∧ ju hB h' n (C + 4 * gaps.length) ∧ (ends'.map (·.1)).Sublist gaps ∧ ∀ p ∈ ends', 1 ≤ p.2 ∧ p.2 ≤ 2 ^ 198
 | [], C, h, ends, x10, S, _, _ => ⟨[], x10, h, by rw [ahe]; rfl, by rw [show C + 4 * (([] : List Int).length : Int) = C by simp]; exact S, List.Sublist.slnil, by simp⟩
 | g :: gaps, C, h, ends, x10, S, hC, hl => by
   rw [ag9] at hC hl
   obtain ⟨r, h1, e1, S1, r0, r1⟩ := iT (m := 2) S (by omega) (by decide) (by decide)
   have hk : ends.length < big := mV (by omega)
   by_cases hr : r = 0
   · subst hr
     obtain ⟨z, h2, e2, S2, z0, z9⟩ := Ab S1 (by omega)
     obtain ⟨ends', x10', h', e3, S3, sub, p3⟩ := Tf gaps (C + 4) h2 (ends ++ [(g, 1 + z)]) (some (.int g)) (S2.up (by omega)) (by omega) (by rw [ahj, ahl]; omega)
     refine ⟨(g, 1 + z) :: ends', x10', h', ?_, by rw [ag9, show C + 4 * ((gaps.length + 1 : Nat) : Int) = C + 4 + 4 * (gaps.length : Int) by omega]; exact S3, sub.cons_cons g, fun p hp => ?_⟩
     · have e4 : ends ++ (g, 1 + z) :: ends' = ends ++ [(g, 1 + z)] ++ ends' := by simp
       rw [e4, ← e3]
       have b2 : 2 ≤ big := by decide
       simp [dw, bM, jT, aU, aC, iK, jZ, bG, jG, tD, aD, aM, au, aj, M.bind, M.ret, M.opt, aa, D.own, D.fz, mC, aq, bu, e1, fQ, bL, e2, hk, gA, b2, pairD]
     · rcases List.mem_cons.mp hp with q | q
       · rw [q]
         show 1 ≤ 1 + z ∧ 1 + z ≤ 2 ^ 198
         omega
       · exact p3 p q
   · have hr' : (r == 0) = false := beq_eq_false_iff_ne.mpr hr
     obtain ⟨ends', x10', h', e3, S3, sub, p3⟩ := Tf gaps (C + 4) h1 ends (some (.int g)) (S1.up (by omega)) (by omega) (by omega)
     refine ⟨ends', x10', h', ?_, by rw [ag9, show C + 4 * ((gaps.length + 1 : Nat) : Int) = C + 4 + 4 * (gaps.length : Int) by omega]; exact S3, sub.cons g, p3⟩
     rw [← e3]
     simp [dw, bM, jT, aU, aC, iK, aD, aM, au, aj, M.bind, M.ret, M.opt, aa, D.own, D.fz, mC, aq, bu, e1, fQ, hr']
theorem Th {hB : Hh} {n : Nat} {size born many : Int} {a b c x9 x10 : Option D} : ∀ (m : Nat) (lo : Int) (C : Int) (h : Hh) (gone : List Int) (x8 : Option D), ju hB h n C → C + m ≤ 80000 → gone.length + m ≤ 200 →
 ∃ gone' x8' h', dw (bM 8) jU (fj lo m) [some (.ref n), some (.int size), some (.int born), some (.int many), a, b, some (.nl (gone.map .int)), c, x8, x9, x10] h =
   .ok .nx [some (.ref n), some (.int size), some (.int born), some (.int many), a, b, some (.nl ((gone ++ gone').map .int)), c, x8', x9, x10] h' ∧ ju hB h' n (C + m) ∧ gone'.Pairwise (· < ·) ∧ ∀ x ∈ gone', lo ≤ x ∧ x < lo + m
 | 0, lo, C, h, gone, x8, S, _, _ => ⟨[], x8, h, by rw [ahe]; rfl, by rw [show C + ((0 : Nat) : Int) = C by omega]; exact S, List.Pairwise.nil, by simp⟩
 | m + 1, lo, C, h, gone, x8, S, hC, hl => by
   obtain ⟨r, h1, e1, S1, r0, r1⟩ := iT (m := 4) S (by omega) (by decide) (by decide)
   have hk : gone.length < big := mV (by omega)
   by_cases hr : r = 0
   · subst hr
     obtain ⟨gone', x8', h', e3, S3, as, p3⟩ := Th m (lo + 1) (C + 1) h1 (gone ++ [lo]) (some (.int lo)) S1 (by omega) (by rw [ahj, ahl]; omega)
     refine ⟨lo :: gone', x8', h', ?_, by rw [show C + ((m + 1 : Nat) : Int) = C + 1 + (m : Int) by omega]; exact S3, List.Pairwise.cons (fun x hx => by have := p3 x hx; omega) as, fun x hx => ?_⟩
     · have e4 : gone ++ lo :: gone' = gone ++ [lo] ++ gone' := by simp
       rw [e4, ← e3, oM]
       simp [dw, bM, jU, aU, aC, iK, jZ, bG, jG, tD, aD, aM, au, aj, M.bind, M.ret, M.opt, aa, D.own, D.fz, mC, aq, bu, e1, fQ, hk]
     · rcases List.mem_cons.mp hx with q | q
       · omega
       · have := p3 x q
         omega
   · have hr' : (r == 0) = false := beq_eq_false_iff_ne.mpr hr
     obtain ⟨gone', x8', h', e3, S3, as, p3⟩ := Th m (lo + 1) (C + 1) h1 gone (some (.int lo)) S1 (by omega) (by omega)
     refine ⟨gone', x8', h', ?_, by rw [show C + ((m + 1 : Nat) : Int) = C + 1 + (m : Int) by omega]; exact S3, as, fun x hx => by have := p3 x hx; omega⟩
     rw [← e3, oM]
     simp [dw, bM, jU, aU, aC, iK, aD, aM, au, aj, M.bind, M.ret, M.opt, aa, D.own, D.fz, mC, aq, bu, e1, fQ, hr']
theorem Zm {hB : Hh} {n : Nat} {size born : Int} {counts cuts : List Int} {ends : List (Int × Int)} {q : D} {C : Int} {h : Hh} {x8 x9 x10 : Option D} (hq : q = .nl (cuts.map .int) ∨ q = .fl (cuts.map .int)) (S : ju hB h n C) (hC : C ≤ 51000) (b0 : 0 ≤ born) (b1 : born ≤ 10) (hl : counts.length ≤ 10) :
 ∃ gone fr' h', jV [some (.ref n), some (.int size), some (.int born), some (.int counts.length), some q, some (.nl (ends.map pairD)), some (.nl []), some (.nl (counts.map .int)), x8, x9, x10] h = .ok (.rt (j8 born counts cuts ends gone)) fr' h' ∧
   ju hB h' n (C + counts.length) ∧ gone.Pairwise (· < ·) ∧ ∀ x ∈ gone, born ≤ x ∧ x < born + counts.length := by
 obtain ⟨gone, x8', h', e, S', as, p⟩ := Th (n := n) (size := size) (born := born) (many := counts.length) (a := some q) (b := some (.nl (ends.map pairD))) (c := some (.nl (counts.map .int))) (x9 := x9) (x10 := x10) counts.length born C h [] x8 S (by omega) (by simp; omega)
 have s1 : jc born = true := lX (by omega) (by omega)
 have s2 : jc (born + counts.length) = true := lX (by omega) (by omega)
 have e5 : (born + (counts.length : Int) - born).toNat = counts.length := by omega
 simp only [ahf, aho] at e
 have b5 : 5 ≤ big := by decide
 rcases hq with rfl | rfl
 · refine ⟨gone, [some (.ref n), some (.int size), some (.int born), some (.int counts.length), some (.fl (cuts.map .int)), some (.fl (ends.map pairD)), some (.fl (gone.map .int)), some (.fl (counts.map .int)), x8', x9, x10], h', ?_, S', as, p⟩
   simp [jV, aC, d9, sH, aa, M.bind, M.ret, M.opt, aM, aD, bL, D.own, D.fz, s1, s2, e5, e, aO, gA, aj, j8, b5]
 · refine ⟨gone, [some (.ref n), some (.int size), some (.int born), some (.int counts.length), some (.fl (cuts.map .int)), some (.fl (ends.map pairD)), some (.fl (gone.map .int)), some (.fl (counts.map .int)), x8', x9, x10], h', ?_, S', as, p⟩
   simp [jV, aC, d9, sH, aa, M.bind, M.ret, M.opt, aM, aD, bL, D.own, D.fz, s1, s2, e5, e, aO, gA, aj, j8, b5]
theorem Tj {hB : Hh} {n : Nat} {size born : Int} {counts cuts gaps : List Int} {q : D} {C : Int} {h : Hh} {x8 x10 : Option D} (hq : q = .nl (cuts.map .int) ∨ q = .fl (cuts.map .int)) (S : ju hB h n C) (hC : C ≤ 50500) (b0 : 0 ≤ born) (b1 : born ≤ 10) (hl : counts.length ≤ 10) (hg : gaps.length ≤ 10) :
 ∃ ends gone fr' h', pX [some (.ref n), some (.int size), some (.int born), some (.int counts.length), some q, some (.nl []), some (.nl []), some (.nl (counts.map .int)), x8, some (.nl (gaps.map .int)), x10] h = .ok (.rt (j8 born counts cuts ends gone)) fr' h' ∧
   ju hB h' n (C + 50) ∧ (ends.map (·.1)).Sublist gaps ∧ (∀ p ∈ ends, 1 ≤ p.2 ∧ p.2 ≤ 2 ^ 198) ∧ gone.Pairwise (· < ·) ∧ ∀ x ∈ gone, born ≤ x ∧ x < born + counts.length := by
 obtain ⟨ends, x10', h1, e1, S1, sub, p1⟩ := Tf (n := n) (size := size) (born := born) (many := counts.length) (a := some q) (b := some (.nl [])) (c := some (.nl (counts.map .int))) (d := x8) (y := some (.fl (gaps.map .int))) gaps C h [] x10 S (by omega) (by simp; omega)
 simp only [ahf, aho] at e1
 obtain ⟨gone, fr', h', e2, S2, as, p2⟩ := Zm (n := n) (size := size) (born := born) (counts := counts) (cuts := cuts) (ends := ends) (q := q) (x8 := x8) (x9 := some (.fl (gaps.map .int))) (x10 := x10') hq S1 (by omega) b0 b1 hl
 refine ⟨ends, gone, fr', h', ?_, S2.up (by omega), sub, p1, as, p2⟩
 simp [pX, aC, d9, sY, aa, M.bind, M.ret, M.opt, D.own, D.fz, D.its, D.der, e1, e2]
theorem Zo {hB : Hh} {n : Nat} {size born : Int} {counts cuts : List Int} {C : Int} {h : Hh} {x8 x9 x10 : Option D} (S : ju hB h n C) (hC : C ≤ 50500) (b0 : 0 ≤ born) (b1 : born ≤ 10) (hl : counts.length ≤ 9) (hg : cuts.length ≤ 9) :
 ∃ ends gone fr' h', g8 [some (.ref n), some (.int size), some (.int born), some (.int counts.length), some (.nl (cuts.map .int)), some (.nl []), some (.nl []), some (.nl (counts.map .int)), x8, x9, x10] h = .ok (.rt (j8 born counts cuts ends gone)) fr' h' ∧
   ju hB h' n (C + 50) ∧ (ends.map (·.1)).Sublist (cuts ++ if born + counts.length < size then [born + counts.length - 1] else []) ∧ (∀ p ∈ ends, 1 ≤ p.2 ∧ p.2 ≤ 2 ^ 198) ∧ gone.Pairwise (· < ·) ∧ ∀ x ∈ gone, born ≤ x ∧ x < born + counts.length := by
 by_cases hs : born + counts.length < size
 · obtain ⟨ends, gone, fr', h', e, z⟩ := Tj (n := n) (size := size) (born := born) (counts := counts) (cuts := cuts) (gaps := cuts ++ [born + counts.length - 1]) (q := .fl (cuts.map .int)) (x8 := x8) (x10 := x10) (.inr rfl) S hC b0 b1 (by omega) (by simp; omega)
   rw [if_pos hs]
   refine ⟨ends, gone, fr', h', ?_, z⟩
   have bg : (cuts.map D.int).length + 1 ≤ big := by
    rw [ahk]
    exact Nat.le_of_lt (mV (by omega))
   have b1' : 1 ≤ big := by decide
   rw [List.map_append, ahb, ahf] at e
   rw [ahk] at bg
   simp [g8, aC, bh, Gr, aD, aM, bL, aa, M.bind, M.ret, M.opt, D.own, D.fz, cInt, hs, dC, aj, dH, jF, mC, b1', bg, e]
 · obtain ⟨ends, gone, fr', h', e, z⟩ := Tj (n := n) (size := size) (born := born) (counts := counts) (cuts := cuts) (gaps := cuts) (q := .nl (cuts.map .int)) (x8 := x8) (x10 := x10) (.inl rfl) S hC b0 b1 (by omega) (by omega)
   rw [if_neg hs, ahe]
   refine ⟨ends, gone, fr', h', ?_, z⟩
   simp [g8, aC, bh, Gr, aD, aM, bL, aa, aG, aF, gU, D.its, D.der, M.bind, M.ret, M.opt, D.own, D.fz, cInt, hs, e]
theorem Tn {hB : Hh} {n : Nat} {size born : Int} {k : Nat} {C : Int} {h : Hh} (S : ju hB h n C) (hC : C ≤ 50400) (b0 : 0 ≤ born) (b1 : born ≤ 10) (hk : k ≤ 8) (hf : born + (k + 1 : Nat) ≤ size) :
 ∃ counts cuts ends gone fr' h', jX [some (.ref n), some (.int size), some (.int born), some (.int (k + 1 : Nat)), some (.nl []), some (.nl []), some (.nl []), none, none, none, none] h = .ok (.rt (j8 born counts cuts ends gone)) fr' h' ∧ ju hB h' n (C + 80) ∧ vg 198 size born counts cuts ends gone := by
 obtain ⟨z, h1, e1, S1, z0, z9⟩ := Ab S (by omega)
 have g1 : Grow born [z] [] := ⟨fun c hc => by rw [ahw] at hc; omega, List.Pairwise.nil, fun x hx => (by cases hx), fun i a b ea eb => by
  have := (List.getElem?_eq_some_iff.mp eb).1
  simp at this, by simp, fun i c e => by
  have q := (List.getElem?_eq_some_iff.mp e).1
  have q0 : i = 0 := by simpa using q
  subst q0
  have e' : z = c := by simpa using e
  omega⟩
 obtain ⟨counts, cuts, x8, h2, e2, S2, g2, l2⟩ := Td (n := n) (size := size) (born := born) (many := (k + 1 : Nat)) k (C + 2) h1 [z] [] none S1 (by omega) g1 (by simp; omega)
 have lc : counts.length = k + 1 := by rw [l2, ahl]; omega
 have cl := g2.cl
 obtain ⟨ends, gone, fr', h', e3, S3, sub, p1, as, p2⟩ := Zo (n := n) (size := size) (born := born) (counts := counts) (cuts := cuts) (x8 := x8) (x9 := none) (x10 := none) S2 (by omega) b0 b1 (by omega) (by omega)
 refine ⟨counts, cuts, ends, gone, fr', h', ?_, S3.up (by omega), ⟨b0, g2, by rw [lc]; exact hf, sub, p1, as, p2⟩⟩
 rw [lc] at e3
 have s1 : jc 1 = true := lX (by omega) (by omega)
 have s2 : jc ((k : Int) + 1) = true := lX (by omega) (by omega)
 have e5 : ((k : Int) + 1 - 1).toNat = k := by omega
 have b1' : 1 ≤ big := by decide
 simp only [ahl, ahb, ahf, Int.natCast_one, Int.natCast_add] at e2 e3
 simp only [Int.natCast_add, Int.natCast_one]
 have st1 : jX [some (.ref n), some (.int size), some (.int born), some (.int ((k : Int) + 1)), some (.nl []), some (.nl []), some (.nl []), none, none, none, none] h =
  jW [some (.ref n), some (.int size), some (.int born), some (.int ((k : Int) + 1)), some (.nl []), some (.nl []), some (.nl []), some (.nl [.int z]), none, none, none] h1 := by
  simp [jX, aC, bh, dC, aj, aM, au, aa, D.own, D.fz, M.bind, M.ret, M.opt, aq, bu, e1, b1']
 have st2 : jW [some (.ref n), some (.int size), some (.int born), some (.int ((k : Int) + 1)), some (.nl []), some (.nl []), some (.nl []), some (.nl [.int z]), none, none, none] h1 =
  g8 [some (.ref n), some (.int size), some (.int born), some (.int ((k : Int) + 1)), some (.nl (cuts.map .int)), some (.nl []), some (.nl []), some (.nl (counts.map .int)), x8, none, none] h2 := by
  have r : (sH (mC (.int 1)) (aa 3)) [some (.ref n), some (.int size), some (.int born), some (.int ((k : Int) + 1)), some (.nl []), some (.nl []), some (.nl []), some (.nl [.int z]), none, none, none] h1 = .ok (fj 1 k) [some (.ref n), some (.int size), some (.int born), some (.int ((k : Int) + 1)), some (.nl []), some (.nl []), some (.nl []), some (.nl [.int z]), none, none, none] h1 := by
   have q : (if jc 1 && jc ((k : Int) + 1) then some (fj 1 ((k : Int) + 1 - 1).toNat) else none) = some (fj 1 k) := by
    rw [s1, s2, e5]
    rfl
   unfold sH
   rw [M.bind_ok (show mC (.int 1) _ _ = .ok (.int 1) _ h1 from rfl), M.bind_ok (show aa 3 _ _ = .ok (.int ((k : Int) + 1)) _ h1 from rfl)]
   show M.opt (if jc 1 && jc ((k : Int) + 1) then some (fj 1 ((k : Int) + 1 - 1).toNat) else none) _ h1 = _
   rw [q]
   rfl
  unfold jW aC d9
  rw [M.bind_ok ((M.bind_ok r).trans e2)]
 rw [st1, st2]
 exact e3
theorem Qa {hB : Hh} {n : Nat} {size : Int} {C : Int} {h : Hh} (S : ju hB h n C) (hC : C ≤ 50300) (h2 : 2 ≤ size) (h4 : size ≤ 4) :
 ∃ born counts cuts ends gone h', eE [.ref n, .int size] h = .ok (j8 born counts cuts ends gone) [] h' ∧ ju hB h' n (C + 90) ∧ vg 198 size born counts cuts ends gone := by
 have b5 : 5 ≤ big := by decide
 have b0' : 0 ≤ big := by decide
 obtain ⟨r, h1, e1, S1, r0, r1⟩ := iT (m := 2) S (by omega) (by decide) (by decide)
 by_cases hr : r = 1
 · subst hr
   obtain ⟨born, h2', e2, S2, b0, b1⟩ := iT (m := size) S1 (by omega) (by omega) (by omega)
   obtain ⟨mm, h3, e3, S3, m0, m1⟩ := iT (m := size - born) S2 (by omega) (by omega) (by omega)
   obtain ⟨k, rfl⟩ := Int.eq_ofNat_of_zero_le m0
   obtain ⟨counts, cuts, ends, gone, fr', h', e4, S4, L4⟩ := Tn (n := n) (size := size) (born := born) (k := k) S3 (by omega) b0 (by omega) (by omega) (by omega)
   refine ⟨born, counts, cuts, ends, gone, h', ?_, S4.up (by omega), L4⟩
   simp only [Int.natCast_add, Int.natCast_one] at e4
   have ec : (1 : Int) + (k : Int) = (k : Int) + 1 := by omega
   simp [eE, bK, rP, pY, startF, aC, uY, aj, mC, aa, D.own, D.fz, dC, M.bind, M.ret, M.opt, nW, b5, aU, aD, aM, au, aq, bu, e1, fQ, bh, e2, dH, jF, e3, bL, ec, e4]
 · have hr' : (r == 1) = false := beq_eq_false_iff_ne.mpr hr
   obtain ⟨k, hk⟩ := Int.eq_ofNat_of_zero_le (show 0 ≤ size - 1 by omega)
   have hz : size = ((k + 1 : Nat) : Int) := by omega
   obtain ⟨counts, cuts, ends, gone, fr', h', e4, S4, L4⟩ := Tn (n := n) (size := size) (born := 0) (k := k) S1 (by omega) (by omega) (by omega) (by omega) (by omega)
   refine ⟨0, counts, cuts, ends, gone, h', ?_, S4.up (by omega), L4⟩
   rw [← hz] at e4
   simp [eE, bK, rP, pY, startF, aC, uY, aj, mC, aa, D.own, D.fz, dC, M.bind, M.ret, M.opt, nW, b5, aU, aD, aM, au, aq, bu, e1, fQ, hr', e4]
theorem V8 {hB : Hh} {n : Nat} {size : Int} {C : Int} {h : Hh} (S : ju hB h n C) (hC : C ≤ 50300) (h2 : 2 ≤ size) (h4 : size ≤ 4) :
 ∃ born counts cuts ends gone h', eE [.ref n, .int size] h = .ok (j8 born counts cuts ends gone) [] h' ∧ ju hB h' n (C + 90) ∧ Life size born counts cuts ends gone := by
 obtain ⟨born, counts, cuts, ends, gone, h', e, S', l⟩ := Qa S hC h2 h4
 exact ⟨born, counts, cuts, ends, gone, h', e, S', l.up (by decide)⟩
end L
namespace L
open PySem PySem.Spec L2 Pk
theorem abg {h : Hh} {s z : Nat} {C : Int} {L : List D} (S : Src h s C) (hC : C ≤ 100000) (hsz : z ≠ s) (hz : h[z]? = some (.nl L)) (h0 : 0 < L.length) (hl : L.length ≤ 1000) :
 ∃ (i : Nat) (d : D) (h' : Hh), L[i]? = some d ∧ eU [.ref s, .ref z] h = .ok d [] h' ∧ ju h h' s (C + 1) := by
 obtain ⟨r, h', e, S', r0, r1⟩ := iT (m := (L.length : Int)) S.u hC (by omega) (by omega)
 have hi : r.toNat < L.length := by omega
 have hz' : h'[z]? = some (.nl L) := (S'.2.at_ z hsz).trans hz
 refine ⟨r.toNat, L[r.toNat], h', ahi hi, ?_, S'⟩
 have ln : bW h (.ref z) = some (.int (L.length : Int)) := by
  unfold bW
  dsimp only
  rw [NP hz]
  rfl
 have bi : bF h' (.ref z) (.int r) = some L[r.toNat] := by
  rw [JV hz', acO r0, ahi hi]
 generalize L[r.toNat] = dd at *
 apply Wp.eq
 simp only [↓V1, ↓cW, startF, ahb, ahf, ag9, ahd, Nat.zero_add, Nat.reduceAdd, Nat.reduceSub, ahn, ahe, bB, ↓Xv, ↓eQ, ↓vG, ahh, aha, aX, ↓lD, ↓dI, ↓bZ, ↓bO, ahc, jD, cZ, ↓dM, ↓dJ, ln, aY, ↓bT, cX, e, ↓cD, tV, bi, fW, and_self]
def Du (h : Hh) (n z : Nat) (C : Int) (ls : List Lv) : Prop := Src h n C ∧ h[z]? = some (.nl (ls.map Lv.d)) ∧ z ≠ n
section
variable {h h' : Hh} {n z : Nat} {C C' : Int} {ls : List Lv} {size : Int}
theorem Du.go (S : Du h n z C ls) (U : ju h h' n C') : Du h' n z C' ls := ⟨U.1, (U.2.at_ z S.2.2).trans S.2.1, S.2.2⟩
theorem Zq {l : Lv} (hz : h[z]? = some (.nl ((ls ++ [l]).map Lv.d))) : bF h (.ref z) (.int (-1)) = some l.d := by
 rw [JV hz]
 have t1 : (1 : Int) ≤ (ls.length : Int) + 1 := by omega
 have t2 : (-1 + ((ls.length : Int) + 1)).toNat = ls.length := by omega
 unfold atI ixN
 simp [t1, t2]
theorem abh (S : Du h n z C ls) (hn : ls ≠ []) (ho : ∀ l ∈ ls, l.ok size) (h2 : 2 ≤ size) (h4 : size ≤ 4) (x3 x4 x5 x6 x7 x8 x9 x10 : Option D) :
 Wp (mK [some (.ref n), some (.int size), some (.ref z), x3, x4, x5, x6, x7, x8, x9, x10] h) (fun f fr _ => f = .rt (.bl true)) iU := by
 obtain ⟨l0, ls0, e0⟩ : ∃ l0 ls0, ls = l0 :: ls0 := by
  cases ls with
  | nil => exact (hn rfl).elim
  | cons a b => exact ⟨a, b, rfl⟩
 obtain ⟨ls1, l1, e1⟩ : ∃ ls1 l1, ls = ls1 ++ [l1] := by
  rcases List.eq_nil_or_concat ls with z | ⟨a, b, z⟩
  · exact (hn z).elim
  · exact ⟨a, b, by rw [z, List.concat_eq_append]⟩
 have i0 := (wF S.2.1).at_ 0 l0 (by rw [e0]; rfl)
 have i1 := Zq (h := h) (z := z) (ls := ls1) (l := l1) (by rw [← e1]; exact S.2.1)
 have m0 := Dt (h := h) (ho l0 (by rw [e0]; exact aht)) h2 h4
 have m1 := Dt (h := h) (ho l1 (by rw [e1]; simp)) h2 h4
 have hi := Mr (h := h) (size := size) (ls := [l1, l0, l1])
 have al := Fb (h := h) (size := size) (ls := [l1, l0, l1]) ZX (fun l hl => by
  simp only [ahA, List.not_mem_nil, or_false] at hl
  rcases hl with rfl | rfl | rfl
  · exact ho _ (by rw [e1]; simp)
  · exact ho _ (by rw [e0]; exact aht)
  · exact ho _ (by rw [e1]; simp)) (by simp) h2 h4
 have o0 := l0.own_d
 have o1 := l1.own_d
 have f0 := l0.fz_d
 have f1 := l1.fz_d
 have ii0 : D.obj 0 (l0.fs size) = l0.i size := rfl
 have ii1 : D.obj 0 (l1.fs size) = l1.i size := rfl
 have oi0 := l0.own_i size
 have oi1 := l1.own_i size
 have i0 : bF h (.ref z) (.int 0) = some l0.d := i0
 simp only [hD, ahb, ahf] at hi al
 generalize l0.d = L0 at *
 generalize l1.d = L1 at *
 generalize l0.fs size = F0 at *
 generalize l1.fs size = F1 at *
 rw [← ii0, ← ii1] at hi al
 simp only [↓Ke, ↓cP, ↓aaS, ↓bZ, ↓dI, ↓vG, ahh, aha, ag9, aX, ↓iV, i0, aY, ↓bO, ahg, ahc, jo, cZ, ↓bT, ahd, Nat.zero_add, Nat.reduceAdd, cX, ahe, m0, ↓cD, ↓dM, JW, Int.reduceNeg, i1, m1, Xg, YT, km, Nat.reduceLeDiff, bB, dh, ↓eQ, ↓lD, Lf, kh, Aq, vH, zN, ahr, aho, hi, ↓uQ, Ao, al, and_self]
theorem abi (S : Du h n z C ls) (hC : C ≤ 60000) (hn : ls ≠ []) (hl : ls.length ≤ 40) (ho : ∀ l ∈ ls, l.ok size) (h2 : 2 ≤ size) (h4 : size ≤ 4) (x4 x5 x6 x7 x8 x9 x10 : Option D) :
 Wp (mO [some (.ref n), some (.int size), some (.ref z), some (hD size ls), x4, x5, x6, x7, x8, x9, x10] h) (fun f fr _ => f = .rt (.bl true)) iU := by
 have lp : 0 < ls.length := List.length_pos_iff.mpr hn
 obtain ⟨r, h1, e1, U, r0, r1⟩ := iT (m := (ls.length : Nat)) S.1.u (by omega) (by omega) (by omega)
 have S1 := S.go U
 obtain ⟨k, rfl⟩ := Int.eq_ofNat_of_zero_le r0
 have hk : k < ls.length := by omega
 obtain ⟨ox, ll, ax, c0⟩ := wF S.2.1
 have w := V7 (h := h1) (size := size) hk (by omega)
 have m1 : ∀ h, fnOf qM h (hD size ls) = some eV := fun h => rfl
 have oh : (hD size ls).own = false := rfl
 have a1 := Fb (h := h1) (size := size) (ls := ls.take k ++ ls.drop (k + 1)) ZX (fun l hq => by
  rcases List.mem_append.mp hq with q | q
  · exact ho l (List.mem_of_mem_take q)
  · exact ho l (List.mem_of_mem_drop q)) (by rw [ahj, List.length_take, List.length_drop]; omega) h2 h4
 have a2 := Fb (h := h1) (size := size) (ls := ls) (wF S1.2.1) ho (by omega) h2 h4
 have b1 := fL (h := h1) (size := size) (ls := ls) (x := .bl ((k : Int) != 0)) .bl Ms false
 have b2 := fL (h := h1) (size := size) (ls := ls) (x := .bl ((k : Int) != 0)) .bl Ms true
 have z0 : (0 : Int) ≤ k := by omega
 have z1 : (0 : Int) ≤ (k : Int) + 1 := by omega
 have t1 : ((k : Int) + 1).toNat = k + 1 := by omega
 have cu1 : oN h1 (.ref z) (none, some (k : Int)) = some (.nl ((ls.map Lv.d).take k)) := by
  unfold oN D.der
  try dsimp only
  rw [S1.2.1]
  show some (D.nl (cutD (ls.map Lv.d) none (some (k : Int)))) = _
  rw [Xk z0]
  rfl
 have cu2 : oN h1 (.ref z) (some ((k : Int) + 1), none) = some (.nl ((ls.map Lv.d).drop (k + 1))) := by
  unfold oN D.der
  try dsimp only
  rw [S1.2.1]
  show some (D.nl (cutD (ls.map Lv.d) (some ((k : Int) + 1)) none)) = _
  rw [Xl z1, t1]
 have bl : ((ls.map Lv.d).take k).length + ((ls.map Lv.d).drop (k + 1)).length ≤ 100000 := by rw [List.length_take, List.length_drop, ahk]; omega
 have e14 := abh S1 hn ho h2 h4 (some (hD size ls)) x4 x5 (some (.int (k : Int))) (some (hD size (ls.take k ++ ls.drop (k + 1)))) x8 x9 x10
 obtain ⟨K, hK⟩ : ∃ K, K = mK := ⟨_, rfl⟩
 rw [← hK] at e14
 have k13 : vq = (aC (aU (iD (bV (aF D.tru (au 3 0 di (aq []) (aj [(aa 3), (aF uP (aa 6)), (mC (.bl false))]) (aj [])))) (bV (aF D.tru (au 3 0 di (aq []) (aj [(aa 3), (aF uP (aa 6)), (mC (.bl true))]) (aj [])))))
  (aO (mC (.bl false)))
  (M.ret .nx))
  K) := by rw [hK]; rfl
 have eR : hD size (ls.take k ++ ls.drop (k + 1)) = .obj 1 [.int size, .tup ((ls.take k ++ ls.drop (k + 1)).map (Lv.i size))] := rfl
 rw [eR] at a1 e14
 have eL : (ls.take k ++ ls.drop (k + 1)).map Lv.d = (ls.map Lv.d).take k ++ (ls.map Lv.d).drop (k + 1) := by rw [List.map_append, List.map_take, List.map_drop]
 rw [eL] at a1
 generalize (ls.take k ++ ls.drop (k + 1)).map (Lv.i size) = RT at *
 generalize hD size ls = HD at *
 generalize ls.map Lv.d = LS at *
 simp only [↓Kl, ↓cP, ↓iH, ↓dI, ↓bZ, ↓bO, aha, ahc, ag9, aX, jD, cZ, ↓dM, ↓dJ, ahh, ll, aY, ↓bT, ahd, Nat.zero_add, Nat.reduceAdd, cX, ahe, e1, ahg, ↓cD, bB, dh, ↓Kh, ↓yP, oh, m1, jo, w, ↓Kg, ↓dB, ↓xP, ↓jn, Lf, kh, Aq, ↓lD, ↓fu, ↓vG, ↓aaQ, ↓ZS, ↓Xj, UW, cu1, ↓iV, zM, tV, cu2, Ao, aaY, km, bl, ↓reduceIte, a1, jr, Bool.not_true, ox, a2, ↓fD, k13, VL, b1, b2, true_and]
 exact e14
end
end L
namespace L
open PySem PySem.Spec L2 Pk
section
variable {h : Hh} {n z : Nat} {C : Int} {ls : List Lv} {size : Int}
theorem Vk {HD : D} (oh : HD.own = false) {x0 x1 x2 x4 x6 x7 x8 x9 x10 : Option D} : ∀ (xs : List D) (x5 : Option D), (∀ x ∈ xs, x.own = false ∧ (∀ b, di [HD, x, .bl b] h = .ok (.bl true) [] h)) →
 ∃ y5, dw (bM 5) lJ xs [x0, x1, x2, some HD, x4, x5, x6, x7, x8, x9, x10] h = .ok .nx [x0, x1, x2, some HD, x4, y5, x6, x7, x8, x9, x10] h
 | [], x5, _ => ⟨x5, rfl⟩
 | x :: xs, x5, hx => by
   obtain ⟨ow, e⟩ := hx x aht
   obtain ⟨y5, e2⟩ := Vk oh (x0 := x0) (x1 := x1) (x2 := x2) (x4 := x4) (x6 := x6) (x7 := x7) (x8 := x8) (x9 := x9) (x10 := x10) xs (some x) fun y hy => hx y (ahx _ hy)
   have et := e true
   have ef := e false
   have fx := ZV ow
   have st : lJ [x0, x1, x2, some HD, x4, some x, x6, x7, x8, x9, x10] h = .ok .nx [x0, x1, x2, some HD, x4, some x, x6, x7, x8, x9, x10] h := by
    apply Wp.eq
    simp only [↓Mg, ↓dB, ↓xP, ↓jn, ↓dM, ↓dI, ↓bZ, ↓bO, ahh, aha, ahg, ahc, ag9, aX, oh, cZ, ow, ↓iV, ↓bT, ahd, Nat.zero_add, Nat.reduceAdd, cX, ahe, et, ↓cD, jr, aY, Bool.not_true, ef, ↓fD, and_self]
   refine ⟨y5, ?_⟩
   rw [dw]
   have tg : bM 5 x [x0, x1, x2, some HD, x4, x5, x6, x7, x8, x9, x10] h = .ok () [x0, x1, x2, some HD, x4, some x, x6, x7, x8, x9, x10] h := rfl
   dsimp only
   rw [tg]
   dsimp only
   rw [st]
   exact e2
theorem abj (S : Du h n z C ls) (hl : ls.length ≤ 40) (ho : ∀ l ∈ ls, l.ok size) (h2 : 2 ≤ size) (h4 : size ≤ 4) (x0 x4 x5 x6 x7 x8 x9 x10 : Option D) :
 ∃ y6, dw (bM 6) lH (fj 0 ls.length) [x0, some (.int size), some (.ref z), some (hD size ls), x4, x5, x6, x7, x8, x9, x10] h = .ok .nx [x0, some (.int size), some (.ref z), some (hD size ls), x4, x5, y6, x7, x8, x9, x10] h := by
 have w : Wp (dw (bM 6) lH (fj 0 ls.length) [x0, some (.int size), some (.ref z), some (hD size ls), x4, x5, x6, x7, x8, x9, x10] h) (fun f fr h' => f = .nx ∧ h' = h ∧ ∃ y6, fr = [x0, some (.int size), some (.ref z), some (hD size ls), x4, x5, y6, x7, x8, x9, x10]) iU := by
  refine UL (fun _ fr h' => h' = h ∧ ∃ y6, fr = [x0, some (.int size), some (.ref z), some (hD size ls), x4, x5, y6, x7, x8, x9, x10]) ⟨rfl, x6, rfl⟩ ?_ ?_
  · rintro j fr h' j0 j1 ⟨rfl, y6, rfl⟩
    obtain ⟨k, rfl⟩ := Int.eq_ofNat_of_zero_le j0
    have hk : k < ls.length := by omega
    obtain ⟨l, el⟩ : ∃ l, ls[k]? = some l := ⟨_, ahi hk⟩
    have hm := ahq el
    have e1 := Ot (h := h') (size := size) (by omega) el
    have e1 : cU [hD size ls, .int (k : Int)] h' = .ok (l.i size) [] h' := e1
    have a1 := (wF S.2.1).at_ k l el
    have e2 := Dt (h := h') (ho l hm) h2 h4
    have ei : cI [l.i size, .obj 0 (l.fs size)] h' = .ok (.bl true) [] h' := by
     have e3 := Mq (h := h') (s := size) (s' := size) (l := l) (m := l)
     rw [decide_eq_true rfl, decide_eq_true rfl] at e3
     exact e3
    have hi := Vh (h := h') (size := size) (ls := ls) (l := l) (by omega)
    rw [decide_eq_true hm] at hi
    have mi : fnOf cO h' (hD size ls) = some cU := rfl
    have mc : fnOf bY h' (hD size ls) = some bU := rfl
    have fn : fnOf cQ h' (l.i size) = some cI := rfl
    have sc : (ou h' (l.i size) (.obj 0 (l.fs size))).isSome = true := rfl
    have oi := l.own_i size
    have fi := l.fz_i size
    have ol := l.own_d
    have oh : (hD size ls).own = false := rfl
    generalize hD size ls = HD at *
    generalize l.i size = LI at *
    generalize l.fs size = LF at *
    generalize l.d = LD at *
    simp only [↓ul, ahg, ahc, bB, ↓Ma, ↓dB, ↓xP, ↓jn, ↓zP, ↓lD, ↓U8, ↓bO, ahh, aha, aX, oh, cZ, jo, mi, aY, e1, ↓cD, ↓dI, ↓bZ, ↓vG, ag9, a1, ↓bT, ahd, Nat.zero_add, Nat.reduceAdd, cX, ahe, e2, ↓Ln, Aq, U9, Option.isSome_none, fi, sc, Bool.or_true, fn, ei, lQ, Bool.not_true, ↓Lk, mc, hi, ↓fD, v9, true_and]
    exact ⟨_, rfl⟩
  · rintro fr h' ⟨rfl, y6, rfl⟩
    exact ⟨rfl, rfl, y6, rfl⟩
 obtain ⟨f, fr, h', e, rfl, rfl, y6, rfl⟩ := w.ex
 exact ⟨y6, e⟩
theorem ac7 (S : Du h n z C ls) (hC : C ≤ 50000) (hl : ls.length ≤ 40) (ho : ∀ l ∈ ls, l.ok size) (h2 : 2 ≤ size) (h4 : size ≤ 4) (x4 x5 x6 x7 x8 x9 x10 : Option D) :
 Wp (sS [some (.ref n), some (.int size), some (.ref z), some (hD size ls), x4, x5, x6, x7, x8, x9, x10] h) (fun f fr _ => f = .rt (.bl true)) iU := by
 obtain ⟨r, h1, e1, U, r0, r1⟩ := iT (m := 1000000000) S.1.u (by omega) (by decide) (by decide)
 have S1 := S.go U
 obtain ⟨ox, ll, ax, c0⟩ := wF S.2.1
 obtain ⟨ox1, ll1, ax1, c1⟩ := wF S1.2.1
 have p9 : ∀ h, yh h (.int 10) (.int 9) = some (.int 1000000000) := fun h => by kernel_rfl
 have p30 : ∀ h, yh h (.int 10) (.int 30) = some (.int 1000000000000000000000000000000) := fun h => by kernel_rfl
 have oh : (hD size ls).own = false := rfl
 have lg : ∀ i : Int, i.natAbs < 2 ^ 200 → i.natAbs.log2 < 1920 := fun i hi => Nat.lt_trans (log2_lt (k := 200) hi (by decide)) (by decide)
 obtain ⟨y5, lp⟩ := Vk (h := h1) (HD := hD size ls) rfl (x0 := some (.ref n)) (x1 := some (.int size)) (x2 := some (.ref z)) (x4 := x4) (x6 := x6) (x7 := x7) (x8 := x8) (x9 := x9) (x10 := x10) [.int (ls.length : Nat), .int (-1), .int ((ls.length : Nat) + r), .non, .bl true, .bl false, .str "0", .tup [.int 0], .fl [.int 0], .int 1000000000000000000000000000000] x5 (fun x hx => by
  simp only [ahA, List.not_mem_nil, or_false] at hx
  rcases hx with rfl | rfl | rfl | rfl | rfl | rfl | rfl | rfl | rfl | rfl
  · exact ⟨rfl, fun b => fL (.int (.inr (by omega))) (Je (lg _ (by omega))) b⟩
  · exact ⟨rfl, fun b => fL (.int (.inl (by decide))) (Je (lg _ (by decide))) b⟩
  · exact ⟨rfl, fun b => fL (.int (.inr (by omega))) (Je (lg _ (by omega))) b⟩
  · exact ⟨rfl, fun b => fL .non abf b⟩
  · exact ⟨rfl, fun b => fL .bl Ms b⟩
  · exact ⟨rfl, fun b => fL .bl Ms b⟩
  · exact ⟨rfl, fun b => fL .str ac2 b⟩
  · exact ⟨rfl, fun b => fL .tup ac3 b⟩
  · exact ⟨rfl, fun b => fL .fl ac4 b⟩
  · exact ⟨rfl, fun b => fL (.int (.inr (by omega))) (Je (lg _ (by decide))) b⟩)
 obtain ⟨B, hB⟩ : ∃ B, B = lJ := ⟨_, rfl⟩
 obtain ⟨K, hK⟩ : ∃ K, K = mO := ⟨_, rfl⟩
 rw [← hB] at lp
 have k8 : sS = (aC (d9 (sY (gA [(aF bW (aG 2)), (aF (fun _ => sX) (mC (.int 1))), (aM (aD bL (aF bW (aG 2)) (aM (au 2 0 bJ (aq []) (aj [(aa 0), (aD yh (mC (.int 10)) (mC (.int 9)))]) (aj []))))), (mC .non), (mC (.bl true)), (mC (.bl false)), (mC (.str "0")), (gA [(mC (.int 0))]), (aM (dC [(mC (.int 0))])), (aD yh (mC (.int 10)) (mC (.int 30)))])) (bM 5) B)
  wy) := by rw [hB]; rfl
 have k9 : wy = (aC (aU (aD zJ (aa 2) (dC []))
  (aO (mC (.bl true)))
  (M.ret .nx))
  K) := by rw [hK]; rfl
 by_cases hn : ls = []
 · have cq : zJ h1 (.ref z) (.nl []) = some true := by
    unfold BJ at c1
    rw [decide_eq_true hn] at c1
    cases q : zJ h1 (.ref z) (.nl []) with
    | none => rw [q] at c1; cases c1
    | some b => rw [q] at c1; cases b with
      | true => rfl
      | false => cases c1
   generalize hD size ls = HD at *
   simp only [k8, k9, ↓cP, ↓yO, ↓Ld, ↓Hm, ↓bZ, ↓dM, ↓dJ, ahh, aha, ag9, aX, ll, aY, ↓iV, JW, Int.reduceNeg, ↓lD, ↓fu, ↓dI, ↓bO, ahc, jD, cZ, p9, ↓bT, ahd, Nat.zero_add, Nat.reduceAdd, cX, ahe, e1, ↓cD, tV, zM, km, Nat.reduceLeDiff, ↓uQ, p30, Ao, rK, lp, dh, ↓dB, ahg, cq, kh, ↓eQ, Xd, and_self]
 · have cq : zJ h1 (.ref z) (.nl []) = some false := by
    unfold BJ at c1
    rw [decide_eq_false hn] at c1
    cases q : zJ h1 (.ref z) (.nl []) with
    | none => rw [q] at c1; cases c1
    | some b => rw [q] at c1; cases b with
      | false => rfl
      | true => cases c1
   have tl := abi S1 (by omega) hn hl ho h2 h4 x4 y5 x6 x7 x8 x9 x10
   rw [← hK] at tl
   generalize hD size ls = HD at *
   simp only [k8, k9, ↓cP, ↓yO, ↓Ld, ↓Hm, ↓bZ, ↓dM, ↓dJ, ahh, aha, ag9, aX, ll, aY, ↓iV, JW, Int.reduceNeg, ↓lD, ↓fu, ↓dI, ↓bO, ahc, jD, cZ, p9, ↓bT, ahd, Nat.zero_add, Nat.reduceAdd, cX, ahe, e1, ↓cD, tV, zM, km, Nat.reduceLeDiff, ↓uQ, p30, Ao, rK, lp, dh, ↓dB, ahg, cq, ↓fD, true_and]
   exact tl
end
end L
namespace L
open PySem PySem.Spec L2 Pk
section
variable {h : Hh} {n z : Nat} {C : Int} {ls : List Lv} {size : Int} {o : Lv}
theorem ac8 (S : Du h n z C ls) (hC : C ≤ 50000) (hl : ls.length ≤ 40) (ho : ∀ l ∈ ls, l.ok size) (h2 : 2 ≤ size) (h4 : size ≤ 4) (x4 x5 x6 x7 x8 x9 x10 : Option D) :
 Wp (sU [some (.ref n), some (.int size), some (.ref z), some (hD size ls), x4, x5, x6, x7, x8, x9, x10] h) (fun f fr _ => f = .rt (.bl true)) iU := by
 obtain ⟨y6, lp⟩ := abj S hl ho h2 h4 (some (.ref n)) x4 x5 x6 x7 x8 x9 x10
 have tl := ac7 S hC hl ho h2 h4 x4 x5 y6 x7 x8 x9 x10
 obtain ⟨ox, ll, ax, c0⟩ := wF S.2.1
 have sm : jc ((ls.length : Nat) : Int) = true := Lj (by omega) (by omega)
 have tn : ((ls.length : Nat) : Int).toNat = ls.length := by omega
 obtain ⟨B, hB⟩ : ∃ B, B = lH := ⟨_, rfl⟩
 obtain ⟨K, hK⟩ : ∃ K, K = sS := ⟨_, rfl⟩
 rw [← hB] at lp
 rw [← hK] at tl
 have k7 : sU = (aC (d9 (sG (aF bW (aG 2))) (bM 6) B) K) := by rw [hB, hK]; rfl
 generalize hD size ls = HD at *
 simp only [k7, ↓cP, ↓yO, ↓CT, ↓dM, ↓dJ, ahh, aha, RJ, aX, ll, aY, sm, ↓reduceIte, tn, lp, ↓cD, dh]
 exact tl
theorem adT : Kd o.d := .tup
theorem ac9 (S : Du h n z C ls) (hC : C ≤ 40000) (hl : ls.length ≤ 40) (ho : ∀ l ∈ ls, l.ok size) (h2 : 2 ≤ size) (h4 : size ≤ 4) (x5 x6 x7 x8 x9 x10 : Option D) :
 Wp (sV [some (.ref n), some (.int size), some (.ref z), some (hD size ls), some o.d, x5, x6, x7, x8, x9, x10] h) (fun f fr _ => f = .rt (.bl true)) iU := by
 obtain ⟨i1, d1, h1, _, hd1, e1, U1⟩ := Ko (l := [.non, .bl true, .int 0, .str "", .fl [], .tup []]) S.1.u (by omega) (by decide) (by decide)
 have S1 := S.go U1
 obtain ⟨i2, d2, hh2, _, hd2, e2, U2⟩ := Ko (l := [o.d, .fl [o.d], .fl (o.counts.map .int)]) S1.1.u (by omega) (by simp) (by simp)
 have S2 := S1.go U2
 have k1 : Kd d1 := by
  have hm := ahq hd1
  simp only [ahA, List.not_mem_nil, or_false] at hm
  rcases hm with rfl | rfl | rfl | rfl | rfl | rfl
  · exact .non
  · exact .bl
  · exact .int
  · exact .str
  · exact .fl
  · exact .tup
 have k2 : Kd d2 := by
  have hm := ahq hd2
  simp only [ahA, List.not_mem_nil, or_false] at hm
  rcases hm with rfl | rfl | rfl
  · exact adT
  · exact .fl
  · exact .fl
 have c1 := Vi (h := hh2) (size := size) (ls := ls) k1 (by omega)
 have c2 := Vi (h := hh2) (size := size) (ls := ls) k2 (by omega)
 have mc : ∀ h, fnOf bY h (hD size ls) = some bU := fun h => rfl
 have o1 := k1.own
 have o2 := k2.own
 have f1 := k1.fz
 have f2 := k2.fz
 have oo := o.own_d
 have fo := o.fz_d
 have oh : (hD size ls).own = false := rfl
 have ix : ∀ h, bF h o.d (.int 1) = some (.fl (o.counts.map .int)) := fun h => by unfold Lv.d j8; kernel_rfl
 have bl : ∀ h, gU h (.fl (o.counts.map .int)) = some (.nl (o.counts.map .int)) := fun h => rfl
 have tl := ac8 S2 (by omega) hl ho h2 h4 (some o.d) (some d2) x6 x7 x8 x9 x10
 obtain ⟨K, hK⟩ : ∃ K, K = sU := ⟨_, rfl⟩
 rw [← hK] at tl
 have k6 : sV = (aC (d9 (sY (gA [(aM (au 2 0 eU (aq []) (aj [(aa 0), (aM (dC [(mC .non), (mC (.bl true)), (mC (.int 0)), (mC (.str "")), (aM (dC [])), (gA [])]))]) (aj []))), (aM (au 2 0 eU (aq []) (aj [(aa 0), (aM (dC [(aa 4), (aM (dC [(aa 4)])), (aM (aF gU (bj 4 (mC (.int 1)) bF)))]))]) (aj [])))])) (bM 5) sO)
  K) := by rw [hK]; rfl
 generalize hD size ls = HD at *
 generalize o.d = OD at *
 generalize o.counts.map D.int = OC at *
 simp only [k6, ↓cP, ↓yO, ↓Ld, ↓Hm, ↓bZ, ↓lD, ↓dI, ↓bO, aha, ahc, ag9, aX, jD, cZ, ↓uQ, ↓iV, ↓bT, ahd, km, Nat.reduceLeDiff, Ao, Nat.zero_add, Nat.reduceAdd, cX, ahe, e1, ↓cD, ahh, ahg, oo, ↓dM, ↓vG, ix, aY, YQ, acM, Option.map_some, e2, f1, f2, rK, ↓UJ, ↓ul, bB, ↓LR, ↓dB, ↓fu, ↓VJ, ↓zP, o1, oh, ↓Lk, mc, c1, lQ, Y6, decide_true, Bool.not_true, ↓fD, v9, o2, c2, ↓UG, dh, true_and]
 exact tl
theorem ada (S : Du h n z C ls) (hC : C ≤ 30000) (hl : ls.length ≤ 40) (ho : ∀ l ∈ ls, l.ok size) (h2 : 2 ≤ size) (h4 : size ≤ 4) (x4 x5 x6 x7 x8 x9 x10 : Option D) :
 Wp (oH [some (.ref n), some (.int size), some (.ref z), some (hD size ls), x4, x5, x6, x7, x8, x9, x10] h) (fun f fr _ => f = .rt (.bl true)) iU := by
 obtain ⟨born, counts, cuts, ends, gone, h1, e1, U, life⟩ := V8 (size := size) S.1.u (by omega) h2 h4
 have S1 := S.go U
 obtain ⟨o, eo⟩ : ∃ o : Lv, o = ⟨born, counts, cuts, ends, gone⟩ := ⟨_, rfl⟩
 have ok : o.ok size := by rw [eo]; exact life
 have e1 : eE [.ref n, .int size] h = .ok o.d [] h1 := by rw [eo]; exact e1
 have mo := Dt (h := h1) ok h2 h4
 have hi := Vh (h := h1) (size := size) (ls := ls) (l := o) (by omega)
 have hi : bU [hD size ls, .obj 0 (o.fs size)] h1 = .ok (.bl (decide (o ∈ ls))) [] h1 := hi
 have ci := ac5 (l := o) S1.2.1
 have mc : ∀ h, fnOf bY h (hD size ls) = some bU := fun h => rfl
 have oo := o.own_d
 have fo := o.fz_d
 have oh : (hD size ls).own = false := rfl
 have tl := ac9 (o := o) S1 (by omega) hl ho h2 h4 x5 x6 x7 x8 x9 x10
 obtain ⟨K, hK⟩ : ∃ K, K = sV := ⟨_, rfl⟩
 rw [← hK] at tl
 have k5 : wz = (aC (aU (aD yW (Ow (rW (G5 bY fun b => b) (aM (au 2 0 dD (aq []) (aj [(aa 4), (aa 1)]) (aj []))) (aa 3))) (aD (fun h x y => (Hk h x y).map .bl) (aa 4) (aG 2)))
  (aO (mC (.bl false)))
  (M.ret .nx))
  K) := by rw [hK]; rfl
 generalize hD size ls = HD at *
 generalize o.d = OD at *
 generalize o.fs size = OF at *
 by_cases q : o ∈ ls
 · rw [decide_eq_true q] at hi ci
   simp only [↓Az, ↓cP, ↓iH, ↓dI, ↓bZ, ↓bO, aha, ahc, ag9, aX, jD, cZ, ahh, ahg, jo, ↓bT, ahd, Nat.zero_add, Nat.reduceAdd, cX, ahe, e1, ↓cD, bB, dh, k5, ↓dB, ↓fu, ↓VJ, ↓zP, ↓lD, oo, mo, oh, ↓Lk, mc, aY, Aq, hi, lQ, ↓dJ, ci, Option.map_some, CW, Lg, beq_self_eq_true, Bool.not_true, ↓fD, true_and]
   exact tl
 · rw [decide_eq_false q] at hi ci
   simp only [↓Az, ↓cP, ↓iH, ↓dI, ↓bZ, ↓bO, aha, ahc, ag9, aX, jD, cZ, ahh, ahg, jo, ↓bT, ahd, Nat.zero_add, Nat.reduceAdd, cX, ahe, e1, ↓cD, bB, dh, k5, ↓dB, ↓fu, ↓VJ, ↓zP, ↓lD, oo, mo, oh, ↓Lk, mc, aY, Aq, hi, lQ, ↓dJ, ci, Option.map_some, CW, Lg, beq_self_eq_true, Bool.not_true, ↓fD, true_and]
   exact tl
theorem Tq (S : Du h n z C ls) (hC : C ≤ 30000) (hl : ls.length ≤ 40) (ho : ∀ l ∈ ls, l.ok size) (h2 : 2 ≤ size) (h4 : size ≤ 4) (x3 x4 x5 x6 x7 x8 x9 x10 : Option D) :
 Wp (oJ [some (.ref n), some (.int size), some (.ref z), x3, x4, x5, x6, x7, x8, x9, x10] h) (fun f fr _ => f = .rt (.bl true)) iU := by
 have e1 := XD S.2.1 ho (by omega) h2 h4
 have al := Fb (h := h) (size := size) (ls := ls) (wF S.2.1) ho (by omega) h2 h4
 have tl := ada S hC hl ho h2 h4 x4 x5 x6 x7 x8 x9 x10
 obtain ⟨K, hK⟩ : ∃ K, K = oH := ⟨_, rfl⟩
 rw [← hK] at tl
 have k3 : wA = (aC (aU (bV (aF D.tru (au 3 0 du (aq []) (aj [(aa 3), (aa 2), (aa 1)]) (aj []))))
  (aO (mC (.bl false)))
  (M.ret .nx))
  K) := by rw [hK]; rfl
 simp only [hD] at al tl
 generalize ls.map (Lv.i size) = LI at *
 simp only [↓Mh, ↓cP, ↓iH, ↓dI, ↓bZ, ↓bO, ahh, aha, ahg, ahc, ag9, aX, jD, cZ, jo, ↓bT, ahd, Nat.zero_add, Nat.reduceAdd, cX, ahe, e1, ↓cD, bB, dh, k3, ↓dB, ↓jn, ↓dM, Lf, kh, Aq, al, jr, aY, Bool.not_true, ↓fD, true_and]
 exact tl
theorem Src.app {d : D} (S : Src h n C) : Src (h ++ [d]) n C := by
 obtain ⟨a, b, c, e, q⟩ := S
 exact ⟨a, b, c, by rw [ahB (List.getElem?_eq_some_iff.mp e).1]; exact e, q⟩
theorem V9 (S : Src h n C) (hC : C ≤ 1000) (h2 : 2 ≤ size) (h4 : size ≤ 4) : ∃ h', ue [.ref n, .int size] h = .ok (.bl true) [] h' := by
 obtain ⟨m, h1, e1, S1, m0, m1⟩ := XF S (by omega)
 have hm1 : (fj 0 m.toNat).length = m.toNat := Vj _
 obtain ⟨ls, h2', e2, S2, l2, o2⟩ := Mu (n := n) (size := size) h2 h4 (x2 := none) (x3 := none) (x4 := none) (x5 := none) (x6 := none) (x7 := none) (x8 := none) (x9 := none) (fj 0 m.toNat) _ h1 S1 (by rw [hm1]; omega)
 rw [hm1] at l2 S2
 have sm : jc m = true := Lj (by omega) (by omega)
 have k1 : (fj 0 m.toNat).length ≤ 100000 := by rw [hm1]; omega
 have nz : n < h2'.length := by
  obtain ⟨a, b, c, e, q⟩ := S2
  exact (List.getElem?_eq_some_iff.mp e).1
 have S3 : Du (h2' ++ [.nl (ls.map Lv.d)]) n h2'.length (C + 2 + 90 * m.toNat) ls := ⟨S2.app, by rw [ahz (Nat.le_refl _), Nat.sub_self]; rfl, by omega⟩
 obtain ⟨h3, eh3⟩ : ∃ h3, h3 = h2' ++ [.nl (ls.map Lv.d)] := ⟨_, rfl⟩
 obtain ⟨z, ez⟩ : ∃ z, z = h2'.length := ⟨_, rfl⟩
 rw [← eh3, ← ez] at S3
 obtain ⟨ox, ll, ax, c0⟩ := wF S3.2.1
 have cell := S3.2.1
 have kp : ∀ hX : Hh, hX[z]? = some (.nl (ls.map Lv.d)) → hX.set z (.nl (ls.map Lv.d)) = hX := fun hX e => Zj e
 obtain ⟨K, hK⟩ : ∃ K, K = oJ := ⟨_, rfl⟩
 have kk1 : oK = (aC (aU (yj (aD BJ (aa 2) (dC [])) (aD fY (aM (au 2 0 bJ (aq []) (aj [(aa 0), (mC (.int 2))]) (aj []))) (mC (.int 0))))
  (iK (jZ 2 (aM (au 2 0 eU (aq []) (aj [(aa 0), (aa 2)]) (aj [])))))
  (M.ret .nx))
  K) := by rw [hK]; rfl
 have big1 : (ls.map Lv.d).length < 100000 := by rw [ahk]; omega
 have w1 : Wp (oK [some (.ref n), some (.int size), some (.ref z), none, none, none, none, none, none, none, none] h3) (fun f fr _ => f = .rt (.bl true)) iU := by
  by_cases hn : ls = []
  · rw [decide_eq_true hn] at c0
    have tl := Tq S3 (by omega) (by omega) o2 h2 h4 none none none none none none none none
    rw [← hK] at tl
    simp only [kk1, ↓cP, ↓dB, ↓RL, ↓fu, ↓bO, ahh, aha, ahg, ahc, aX, jD, cZ, ↓uQ, ↓bT, ahd, km, Nat.reduceLeDiff, c0, Bool.not_true, aY, ↓fD, dh, true_and]
    exact tl
  · rw [decide_eq_false hn] at c0
    obtain ⟨r, h4', e4, U4, r0, r1⟩ := iT (m := 2) S3.1.u (by omega) (by decide) (by decide)
    have S4 := S3.go U4
    by_cases hr : r = 0
    · subst hr
      have lp : 0 < (ls.map Lv.d).length := by
       rw [ahk]
       exact List.length_pos_iff.mpr hn
      obtain ⟨i, d, h5, ei, e5, U5⟩ := abg S4.1 (by omega) S4.2.2 S4.2.1 lp (by rw [ahk]; omega)
      rw [ahy] at ei
      obtain ⟨l, el, rfl⟩ := Option.map_eq_some_iff.mp ei
      have hl := ahq el
      have S5 := S4.go U5
      have ol := l.own_d
      have fl := l.fz_d
      have eT : (ls ++ [l]).map Lv.d = ls.map Lv.d ++ [l.d] := by rw [List.map_append]; rfl
      have cz := S4.2.1
      have kz := kp h4' cz
      have cz5 := S5.2.1
      have S6 : Du (h5.set z (.nl ((ls ++ [l]).map Lv.d))) n z (C + 2 + 90 * m.toNat + 1 + 1) (ls ++ [l]) := by
       obtain ⟨⟨a, b, c, e, q⟩, ec, ne⟩ := S5
       exact ⟨⟨a, b, c, by rw [ahs ne]; exact e, q⟩, by rw [ahp (List.getElem?_eq_some_iff.mp ec).1], ne⟩
      have tl := Tq S6 (by omega) (by rw [ahj, ahl]; omega) (fun x hx => by
       rcases List.mem_append.mp hx with q | q
       · exact o2 x q
       · rw [List.mem_singleton.mp q]
         exact o2 l hl) h2 h4 none none none none none none none none
      rw [← hK, eT] at tl
      generalize l.d = LD at *
      generalize ls.map Lv.d = LS at *
      simp only [kk1, ↓cP, ↓dB, ↓RL, ↓fu, ↓bO, ahh, aha, ahg, ahc, aX, jD, cZ, ↓uQ, ↓bT, ahd, km, Nat.reduceLeDiff, c0, Bool.not_false, aY, kh, ↓lD, ↓dI, ↓bZ, ag9, ↓iV, Nat.zero_add, Nat.reduceAdd, cX, ahe, e4, ↓cD, tV, oA, decide_true, ↓aaR, ↓aaT, ↓acJ, cz, YW, kz, e5, cz5, fl, aaZ, acG, dh, true_and]
      exact ⟨big1, tl⟩
    · have tl := Tq S4 (by omega) (by omega) o2 h2 h4 none none none none none none none none
      rw [← hK] at tl
      simp only [kk1, ↓cP, ↓dB, ↓RL, ↓fu, ↓bO, ahh, aha, ahg, ahc, aX, jD, cZ, ↓uQ, ↓bT, ahd, km, Nat.reduceLeDiff, c0, Bool.not_false, aY, kh, ↓lD, ↓dI, ↓bZ, ag9, ↓iV, Nat.zero_add, Nat.reduceAdd, cX, ahe, e4, ↓cD, tV, oA, hr, decide_false, ↓fD, dh, true_and]
      exact tl
 obtain ⟨K1, hK1⟩ : ∃ K, K = oK := ⟨_, rfl⟩
 rw [← hK1] at w1
 have k0 : tZ = (aC (bh 2 (vU (uN [10] (sG (aM (au 1 0 oW (aq []) (aj [(aa 0)]) (aj [])))) jy jA jB)))
  K1) := by rw [hK1]; rfl
 obtain ⟨f, fr, h', e, rfl⟩ := w1.ex
 refine ⟨h', ?_⟩
 rw [eh3, ez, hK1] at e
 generalize ls.map Lv.d = LS at *
 apply Wp.eq
 unfold ue
 simp only [↓cW, startF, ahb, ahf, ag9, ahd, Nat.zero_add, Nat.reduceAdd, Nat.reduceSub, ahu, ahn, ahr, aho, bB, ↓Sv, ↓cP, ↓iH, ↓Ux, ↓Qo, ↓CT, ↓lD, ↓dI, ↓bZ, ↓bO, aha, ahc, RJ, aX, jD, cZ, ↓bT, cX, ahe, e1, ↓cD, tV, sm, ↓reduceIte, aY, km, k1, ql, tW, ahg, e2, Le, dh, e, fW, and_self]
end
theorem body {ns : List Int} {k : Nat} (hk : k ≤ 62) (h : Hh) (x2 : Option D) : Wp (Et [some (.kl (ns.map .int)), some (.int k), x2] h) (fun f fr _ => (f = .nx ∨ f = .ct) ∧ ∃ x1 ys, fr = some (.kl (ns.map .int)) :: x1 :: ys ∧ ys.length = 3 - 2) iU := by
 obtain ⟨a, b, e1, b0, b1⟩ := Tz (h := h) (ns := ns) hk
 have S1 : Src (h ++ [.nl [.int a, .int b, .int 0]]) h.length 0 := ⟨a, b, 0, by rw [ahz (Nat.le_refl _), Nat.sub_self]; rfl, b0, b1, by decide, by decide⟩
 obtain ⟨r, h2, e2, S2, r0, r1⟩ := lW (m := 3) S1 (by decide) (by decide) (by decide)
 obtain ⟨h4, e4⟩ := V9 (size := 2 + r) S2 (by decide) (by omega) (by omega)
 simp only [↓Ze, ↓cP, ↓iH, ↓Ux, ↓dI, ↓bZ, ↓bO, aha, ahc, ag9, Nat.reduceSub, aX, acK, cZ, ahh, ahg, jo, ↓bT, ahd, Nat.zero_add, Nat.reduceAdd, cX, ahe, e1, ↓cD, Le, bB, dh, ↓dB, ↓jn, ↓dM, jD, ↓lD, ↓fu, ↓iV, e2, tV, zM, aY, e4, jr, Bool.not_true, ↓fD, reduceCtorEq, true_and]
 exact ⟨.inl trivial, _, _, rfl, rfl⟩
theorem plain (ns : List Int) (hl : ns.length ≤ 63) : ∃ fr h, VN [.kl (ns.map Pk.D.int)] [] = .ok (.bl true) fr h := by
 unfold VN VM
 refine aa2 (by decide) (by decide) (by decide) fun k xs h hk hx => ?_
 match xs, hx with
 | [x2], _ => exact body (by omega) h x2
end L
namespace L
open PySem PySem.Spec PyProof.Rows L2
instance : PF (PySem.Challenge.rw_countrestarts_k08_histories_as_sequences).prog := ⟨by kernel_rfl, by kernel_rfl⟩
theorem facts {P : Program} [PF P] {w : World} {K : PySem.W.Frag} {h : Heap} {mg : Str → Option Value} {f : Addr} (X : K.In h) (G : h.Ns mainGlobals mg) (hfa : mg ("law" : Str) = some (.ref f)) (c : aP K) :
 ∃ fd : FuncData, (∀ (s : Shared) (v : Value), BindsTo s fd ⟨[v], []⟩ [("_law_script", v)]) ∧ ∀ base : Heap, K.In base → base.Ns mainGlobals mg → Pk.FnZ P w K mg base (L2.CX P w) 10 f fd ["_law_script"] (Pk.spF K (T K) 1 VN) := by
 obtain ⟨fd, F⟩ := c.def_ (fn.length - 1) (d := ZC) rfl
 have e := hfa.symm.trans (He.glo_ok X G (c.fact (fa.length - 1) (f := .he (.glo "law")) rfl))
 cases e
 have b := FunD.bindsA (ps := ["_law_script"]) F fun _ _ _ _ _ _ us hl => match us, hl with | [_], _ => rfl
 exact ⟨fd, fun s v => b s [v] rfl, fun base Y Gb => Pk.fn_simZ F ab1 (Zd c Y Gb)⟩
end L
open PySem PySem.W PySem.Calls PyProof.Rows
theorem PySem.Challenge.cw_countrestarts_k08_histories_as_sequences_holds : PySem.Challenge.rw_countrestarts_k08_histories_as_sequences.Holds := by
 w_on; o_law
 refine HandSHeadRun.head_any (r := OpenLaw.row PySem.Challenge.rw_countrestarts_k08_histories_as_sequences) (q := L.vw) (H := L.hk) (ob := L.ob) (M := 20000) (loose := L.names) (d := HandSHeadRun.topDef (OpenLaw.row PySem.Challenge.rw_countrestarts_k08_histories_as_sequences).prog 30) (kwd := []) L.ob_eq
  (by kernel_rfl) (fun s => by kernel_rfl) L.run (by kernel_rfl) (by kernel_rfl) (by kernel_rfl) (by rfl) (by first | assumption | decide +kernel) (by decide +kernel) ⟨rfl, rfl, rfl, rfl, rfl, by decide +kernel⟩ ?hw ?hc
 case hw => w_witness2
 case hc =>
  refine Pk.walk_Z (l := PySem.Challenge.rw_countrestarts_k08_histories_as_sequences) (n := 63) (k := 10) (x := "_law_script") (CX := L2.CX0) rfl (by decide) (by kernel_rfl) ⟨rfl, by decide, by decide⟩ ?F (fun _ _ _ _ z => z)
  intro w mg fa h Y G hmg0
  obtain ⟨K, KX, c⟩ := Y
  have hmg : mg ("law" : PySem.Str) = some (.ref fa) := by
   have e : (HandSHeadRun.topDef (OpenLaw.row PySem.Challenge.rw_countrestarts_k08_histories_as_sequences).prog 30).name = ("law" : PySem.Str) := by kernel_rfl
   rw [← e]
   exact hmg0
  obtain ⟨fd, hb, hF⟩ := L.facts (P := (PySem.Challenge.rw_countrestarts_k08_histories_as_sequences).prog) (w := w) KX G hmg c
  exact ⟨K, fd, _, KX, hb, fun H a ns hl _ hS => (let ⟨fr, h, e⟩ := L.plain ns hl; Pk.law_sp hS e), fun base Y Gb => Pk.fn_cx0Z (hF base Y Gb)⟩
